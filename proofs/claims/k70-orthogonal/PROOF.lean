import PyProof.Rows.All
import HandS.ForMost
import HandS.Wide
import HandS.ForSpec
import HandS.CallSlots
import HandS.TupAny
import HandS.TupMul
import KE.DataEq
import HandS.IsInst
import HandS.Style
import HandS.Iter
import HandS.Comp
import KE.GoesMore
import PyProof.EnumMake
import HandS.Defaults
import HandS.TryOnly
import PySem.Challenge.RW_longrank_k70_orthogonal_bases
import HandS.HeadEnd
import HandS.HeadWalk
import KE.KStateDown
import HandS.Head0
import HandS.Head1
import HandS.Head2
import HandS.HeadHook1
import HandS.HeadHook2
set_option Elab.async false
set_option linter.all false
set_option maxRecDepth 100000
/-! QSem: plain values, stores, a small form of Python, and what must hold for it to run (wp). -/
namespace Q
open PySem

/-- plain values: tuples are data, lists stand in a store -/
inductive U where
  | non | bl (b : Bool) | int (i : Int) | str (s : Str) | tup (l : List U) | lst (n : Nat) | fn (f : Str) | cls (c : Str) | ty (n : String) | scr (l : List Int)
inductive Cell where
  | lst (l : List U)
abbrev Sto := List Cell
abbrev Sl := List (Option U)
abbrev Ks := U → Sto → Prop
abbrev Exn := Str → List (Str × U) → Sto → Prop
abbrev ExS := Str → List (Str × U) → Sl → Sto → Prop
abbrev FSpec := List U → Sto → Ks → Exn → Prop
/-- what the names of the module stand for -/
structure Gm where
  fns : Str → Option FSpec
  cts : Str → Option U
  exm : Str → Str → Option Bool := fun _ _ => none

inductive BO where | add | sub | mul | div | mod | pow
inductive CO where | eq | ne | lt | le | gt | ge | isin | notin
/-- built-in functions of values -/
inductive Bi where | len | abs | max | min | sum | any | all | int | str | tuple | list
/-- methods of lists and texts -/
inductive Me where | append | extend | pop | join

mutual
inductive E where
  | var (i : Nat) | int (i : Int) | str (s : Str) | bl (b : Bool) | non | glob (x : Str)
  | bop (o : BO) (a b : E) | neg (a : E) | cmp (o : CO) (a b : E) | cmp2 (o p : CO) (a b c : E) | isN (a : E) | notN (a : E)
  | andE (a b : E) | orE (a b : E) | notE (a : E) | tst (e : E) | ite (t a b : E)
  | tup (es : Es) | lst (es : Es) | idx (a i : E) | slc (a : E) (lo hi : Oe) | rev (a : E)
  | call (f : Str) (es : Es) | callL (i : Nat) (es : Es) | bi (f : Bi) (es : Es) | meth (m : Me) (a : E) (es : Es) | isi (a : E) (t : String)
  | lc (e : E) (t : T) (it : It) (c : Oe) (own : List (Str × Nat))
inductive Es where | nil | cons (e : E) (es : Es)
inductive Oe where | none | some (e : E)
inductive T where | name (i : Nat) | tup (ts : Ts) | sub (o i : E)
inductive Ts where | nil | cons (t : T) (ts : Ts)
inductive It where | seq (a : E) | rng1 (a : E) | rng2 (a b : E) | enm (a : E) | down (a : E)
end
/-- what an except suite does -/
inductive Hd where | retN | retB (b : Bool) | cont | pass | brk
mutual
inductive S where
  | asg (t : T) (e : E) | setlc (i : Nat) (e : E) | par (i j : Nat) (a b : E) | aug (i : Nat) (o : BO) (e : E)
  | ret (e : E) | retN | ifs (t : E) (a b : Ss) | fors (t : T) (it : It) (b : Ss) | whl (t : E) (b : Ss) | ex (e : E) | doc | raise (c : Str) (m : Str) | pass | brk | cont | nev | tryo (b : Ss) (c : Str) (h : Hd)
inductive Ss where | nil | cons (s : S) (ss : Ss)
end

/-- what a for walks: the items, and what must stay so meanwhile -/
structure Src where
  vals : List U
  grd : Sto → Prop

/-! ### operations -/
def bopI (o : BO) (i j : Int) (St : Sto) (Q : Ks) : Prop :=
  match o with
  | .add => Q (.int (i + j)) St
  | .sub => Q (.int (i - j)) St
  | .mul => i.natAbs.log2 + j.natAbs.log2 < 1000000 ∧ Q (.int (i * j)) St
  | .div => (j ≠ 0 ∧ j.natAbs.log2 < 9000) ∧ Q (.int (i.fdiv j)) St
  | .mod => j ≠ 0 ∧ Q (.int (i.fmod j)) St
  | .pow => (0 ≤ j ∧ j ≤ 1000000 ∧ i.natAbs < 2 ^ 64) ∧ Q (.int (i ^ j.toNat)) St
def bop (o : BO) (x y : U) (St : Sto) (Q : Ks) : Prop :=
  match x, y with
  | .int i, .int j => bopI o i j St Q
  | .str a, .str b => match o with
    | .add => a.length + b.length ≤ sizeLine ∧ Q (.str (a ++ b)) St
    | _ => False
  | .tup a, .tup b => match o with
    | .add => a.length + b.length ≤ sizeLine ∧ Q (.tup (a ++ b)) St
    | _ => False
  | .lst m, .lst n => match o, St[m]?, St[n]? with
    | .add, some (.lst a), some (.lst b) => a.length + b.length ≤ sizeLine ∧ Q (.lst St.length) (St ++ [.lst (a ++ b)])
    | _, _, _ => False
  | .lst m, .int k => match o, St[m]? with
    | .mul, some (.lst a) => (-(2 ^ 63) ≤ k ∧ k < 2 ^ 63 ∧ a.length * k.toNat ≤ sizeLine) ∧ Q (.lst St.length) (St ++ [.lst (List.replicate k.toNat a).flatten])
    | _, _ => False
  | _, _ => False

/-- a op= b: whole numbers -/
def augp (o : BO) (x y : U) (St : Sto) (Q : Ks) : Prop :=
  match o, x, y with
  | .add, .int i, .int j => Q (.int (i + j)) St
  | .sub, .int i, .int j => Q (.int (i - j)) St
  | .div, .int i, .int j => (j ≠ 0 ∧ j.natAbs.log2 < 9000) ∧ Q (.int (i.fdiv j)) St
  | _, _, _ => False
mutual
/-- == of plain values, True being 1 -/
def eqv : U → U → Bool
  | .non, .non => true
  | .bl a, .bl b => a == b
  | .bl a, .int j => (if a then 1 else 0) == j
  | .int i, .bl b => i == (if b then 1 else 0)
  | .int i, .int j => i == j
  | .str a, .str b => a == b
  | .tup a, .tup b => eqvs a b
  | _, _ => false
def eqvs : List U → List U → Bool
  | [], [] => true
  | x :: xs, y :: ys => eqv x y && eqvs xs ys
  | _, _ => false
end
mutual
/-- data without lists, not deeper than n -/
def dat : Nat → U → Bool
  | _, .non => true
  | _, .bl _ => true
  | _, .int _ => true
  | _, .str _ => true
  | 0, .tup _ => false
  | n + 1, .tup l => dats n l
  | _, _ => false
def dats : Nat → List U → Bool
  | _, [] => true
  | n, x :: xs => dat n x && dats n xs
end
def eqp (x y : U) (St : Sto) (Q : Bool → Prop) : Prop :=
  match x, y with
  | .lst m, .lst n => match St[m]?, St[n]? with
    | some (.lst a), some (.lst b) => (dats 60 a = true ∧ dats 60 b = true) ∧ Q (eqvs a b)
    | _, _ => False
  | x, y => (dat 60 x = true ∧ dat 60 y = true) ∧ Q (eqv x y)
def flat : U → Bool
  | .non => true | .bl _ => true | .int _ => true | .str _ => true | _ => false
def inp (x y : U) (St : Sto) (Q : Bool → Prop) : Prop :=
  match y with
  | .tup l => (flat x = true ∧ l.all flat = true) ∧ Q (l.any fun z => eqv z x)
  | .lst n => match St[n]? with
    | some (.lst l) => (flat x = true ∧ l.all flat = true) ∧ Q (l.any fun z => eqv z x)
    | _ => False
  | .str z => match x with
    | .str c => match c.cps.toList with
      | [d] => Q (decide (d ∈ z.cps.toList))
      | _ => False
    | _ => False
  | _ => False
def cop (o : CO) (x y : U) (St : Sto) (Q : Bool → Prop) : Prop :=
  match o with
  | .eq => eqp x y St Q
  | .ne => eqp x y St fun b => Q (!b)
  | .lt => match x, y with | .int i, .int j => Q (decide (i < j)) | _, _ => False
  | .le => match x, y with | .int i, .int j => Q (decide (i ≤ j)) | _, _ => False
  | .gt => match x, y with | .int i, .int j => Q (decide (j < i)) | _, _ => False
  | .ge => match x, y with | .int i, .int j => Q (decide (j ≤ i)) | _, _ => False
  | .isin => inp x y St Q
  | .notin => inp x y St fun b => Q (!b)
/-- truth of a value -/
def tru (u : U) (St : Sto) (Q : Bool → Prop) : Prop :=
  match u with
  | .non => Q false
  | .bl b => Q b
  | .int i => Q (i != 0)
  | .str s => s.length ≤ sizeLine ∧ Q ((s.length : Int) != 0)
  | .tup l => Q (!l.isEmpty)
  | .lst n => match St[n]? with | some (.lst l) => Q (!l.isEmpty) | _ => False
  | _ => False
def idxp (x i : U) (St : Sto) (Q : Ks) : Prop :=
  match i with
  | .int k => match x with
    | .tup l => match L2.atI l k with | some u => Q u St | none => False
    | .lst n => match St[n]? with
      | some (.lst l) => (match L2.atI l k with | some u => Q u St | none => False)
      | _ => False
    | .str s => s.length ≤ sizeLine ∧ (match L2.atI s.cps.toList k with | some c => Q (.str ⟨#[c]⟩) St | none => False)
    | _ => False
  | _ => False
def cutU {α : Type} (xs : List α) (lo hi : Option Int) : List α := (xs.drop (HT.sIx xs.length 0 lo)).take (HT.sIx xs.length xs.length hi - HT.sIx xs.length 0 lo)
def slcp (x : U) (lo hi : Option Int) (St : Sto) (Q : Ks) : Prop :=
  match x with
  | .tup l => Q (.tup (cutU l lo hi)) St
  | .lst n => match St[n]? with
    | some (.lst l) => Q (.lst St.length) (St ++ [.lst (cutU l lo hi)])
    | _ => False
  | .scr l => Q (.lst St.length) (St ++ [.lst ((cutU l lo hi).map U.int)])
  | .str s => s.length ≤ sizeLine ∧ Q (.str ⟨(cutU s.cps.toList lo hi).toArray⟩) St
  | _ => False
def intsU : List U → Option (List Int)
  | [] => some []
  | .int i :: r => (intsU r).map (i :: ·)
  | _ => none
def blsU : List U → Option (List Bool)
  | [] => some []
  | .bl i :: r => (blsU r).map (i :: ·)
  | _ => none
def strsU : List U → Option (List Str)
  | [] => some []
  | .str i :: r => (strsU r).map (i :: ·)
  | _ => none
/-- the items of a list or tuple -/
def itemsp (x : U) (St : Sto) (Q : List U → Prop) : Prop :=
  match x with
  | .tup l => Q l
  | .lst n => match St[n]? with | some (.lst l) => Q l | _ => False
  | _ => False
def listp (x : U) (St : Sto) (Q : List U → Prop) : Prop :=
  match x with
  | .lst n => match St[n]? with | some (.lst l) => Q l | _ => False
  | _ => False
def bip (f : Bi) (us : List U) (St : Sto) (Q : Ks) : Prop :=
  match f, us with
  | .len, [.str s] => s.length ≤ sizeLine ∧ Q (.int s.length) St
  | .len, [x] => itemsp x St fun l => Q (.int l.length) St
  | .abs, [.int i] => Q (.int (if i < 0 then -i else i)) St
  | .max, [.int i, .int j] => Q (.int (if j > i then j else i)) St
  | .min, [.int i, .int j] => Q (.int (if j < i then j else i)) St
  | .sum, [x] => listp x St fun l => match intsU l with | some ns => Q (.int ns.sum) St | none => False
  | .any, [x] => listp x St fun l => match blsU l with | some bs => Q (.bl (bs.any id)) St | none => False
  | .all, [x] => listp x St fun l => match blsU l with | some bs => Q (.bl (bs.all id)) St | none => False
  | .int, [.int i] => Q (.int i) St
  | .int, [.bl b] => Q (.int (if b then 1 else 0)) St
  | .str, [.int i] => i.natAbs.log2 < 1920 ∧ Q (.str (toString i)) St
  | .tuple, [x] => itemsp x St fun l => Q (.tup l) St
  | .list, [x] => itemsp x St fun l => Q (.lst St.length) (St ++ [.lst l])
  | _, _ => False
def mep (m : Me) (x : U) (us : List U) (St : Sto) (Q : Ks) : Prop :=
  match m, x, us with
  | .append, .lst n, [u] => match St[n]? with
    | some (.lst l) => l.length < sizeLine ∧ Q .non (St.set n (.lst (l ++ [u])))
    | _ => False
  | .extend, .lst n, [.lst k] => match St[n]?, St[k]? with
    | some (.lst l), some (.lst z) => l.length + z.length ≤ sizeLine ∧ Q .non (St.set n (.lst (l ++ z)))
    | _, _ => False
  | .pop, .lst n, [] => match St[n]? with
    | some (.lst l) => (match l[l.length - 1]? with | some u => Q u (St.set n (.lst l.dropLast)) | none => False)
    | _ => False
  | _, _, _ => False
def setp (o i v : U) (St : Sto) (Q : Sto → Prop) : Prop :=
  match o, i with
  | .lst n, .int k => match St[n]? with
    | some (.lst l) => (match L2.ixN l.length k with | some j => Q (St.set n (.lst (l.set j v))) | none => False)
    | _ => False
  | _, _ => False
def isip (x : U) (t : String) (Q : Bool → Prop) : Prop :=
  match x with
  | .non => Q (t == "NoneType")
  | .bl _ => Q (t == "bool" || t == "int")
  | .int _ => Q (t == "int")
  | .str _ => Q (t == "str")
  | .tup _ => Q (t == "tuple")
  | .lst _ => Q (t == "list")
  | _ => False

/-! ### loops -/
def wipeU (σ : Sl) : List Nat → Sl
  | [] => σ
  | v :: vs => (wipeU σ vs).set v none
/-- the items of a comprehension -/
def lcL (turn : U → Sto → (Option U → Sto → Prop) → Prop) (grd : Sto → Prop) : List U → List U → Sto → (List U → Sto → Prop) → Prop
  | [], acc, St, Q => grd St ∧ Q acc St
  | u :: us, acc, St, Q => grd St ∧ turn u St fun o S2 => match o with
    | some v => acc.length < sizeLine ∧ lcL turn grd us (acc ++ [v]) S2 Q
    | none => lcL turn grd us acc S2 Q
def forL (turn : U → Sl → Sto → (Sl → Sto → Prop) → Prop) (grd : Sto → Prop) : List U → Sl → Sto → (Sl → Sto → Prop) → Prop
  | [], σ, St, Q => grd St ∧ Q σ St
  | u :: us, σ, St, Q => grd St ∧ turn u σ St fun σ2 S2 => forL turn grd us σ2 S2 Q
def whlN (test : Sl → Sto → (Bool → Sto → Prop) → Prop) (body : Sl → Sto → (Sl → Sto → Prop) → Prop) (nx : Sl → Sto → Prop) : Nat → Sl → Sto → Prop
  | 0, _, _ => False
  | n + 1, σ, St => test σ St fun b S2 => if b = true then body σ S2 (fun σ3 S3 => whlN test body nx n σ3 S3) else nx σ S2
def rngL (lo : Int) (n : Nat) : List U := (List.range n).map fun (i : Nat) => U.int (lo + i)
def enmL (l : List U) : List U := l.mapIdx fun i x => U.tup [.int i, x]
def downL (j : Int) : List U := (List.range (j + 1).toNat).map fun (i : Nat) => U.int (j - i)


def lenTs : Ts → Nat
  | .nil => 0
  | .cons _ ts => lenTs ts + 1
/-! ### small looks -/
def slotp : Option (Option U) → (U → Prop) → Prop
  | some (some u), k => k u
  | _, _ => False
def intp : U → (Int → Prop) → Prop
  | .int i, k => k i
  | _, _ => False
def blp : U → (Bool → Prop) → Prop
  | .bl i, k => k i
  | _, _ => False
def tupp : U → (List U → Prop) → Prop
  | .tup i, k => k i
  | _, _ => False
def fnp : U → (Str → Prop) → Prop
  | .fn i, k => k i
  | _, _ => False
def lstq : U → Prop → Prop
  | .lst _, k => k
  | _, _ => False
def nilp : List U → Prop → Prop
  | [], k => k
  | _, _ => False
def consp : List U → (U → List U → Prop) → Prop
  | u :: r, k => k u r
  | _, _ => False
def optp {α : Type} : Option α → (α → Prop) → Prop
  | some a, k => k a
  | none, _ => False
def optu : Option U → (U → Prop) → Prop
  | some a, k => k a
  | none, _ => False
def isNon : U → Bool
  | .non => true
  | _ => false
/-- what a for over a tuple or a list walks -/
def srcp (f : List U → List U) : U → Sto → (Src → Prop) → Prop
  | .tup l, _, k => k ⟨f l, fun _ => True⟩
  | .lst n, St, k => match St[n]? with | some (.lst l) => k ⟨f l, fun S2 => S2[n]? = some (.lst l)⟩ | _ => False
  | _, _, _ => False
def revp : U → Sto → Ks → Prop
  | .lst n, St, Q => (match St[n]? with | some (.lst l) => Q (.lst St.length) (St ++ [.lst l.reverse]) | _ => False)
  | _, _, _ => False
variable (G : Gm)
mutual
def wpE : E → ExS → Sl → Sto → Ks → Prop
  | .var i, _, σ, St, Q => slotp σ[i]? fun u => Q u St
  | .int i, _, _, St, Q => Q (.int i) St
  | .str s, _, _, St, Q => Q (.str s) St
  | .bl b, _, _, St, Q => Q (.bl b) St
  | .non, _, _, St, Q => Q .non St
  | .glob x, _, _, St, Q => optu (G.cts x) fun u => Q u St
  | .bop o a b, X, σ, St, Q => wpE a X σ St fun u S1 => wpE b X σ S1 fun v S2 => bop o u v S2 Q
  | .neg a, X, σ, St, Q => wpE a X σ St fun u S1 => intp u fun i => Q (.int (-i)) S1
  | .cmp o a b, X, σ, St, Q => wpE a X σ St fun u S1 => wpE b X σ S1 fun v S2 => cop o u v S2 fun c => Q (.bl c) S2
  | .cmp2 o p a b c, X, σ, St, Q => wpE a X σ St fun u S1 => wpE b X σ S1 fun v S2 => cop o u v S2 fun d => if d = true then wpE c X σ S2 fun w S3 => cop p v w S3 fun d' => Q (.bl d') S3 else Q (.bl false) S2
  | .isN a, X, σ, St, Q => wpE a X σ St fun u S1 => Q (.bl (isNon u)) S1
  | .notN a, X, σ, St, Q => wpE a X σ St fun u S1 => Q (.bl (!isNon u)) S1
  | .andE a b, X, σ, St, Q => wpE a X σ St fun u S1 => blp u fun c => if c = true then wpE b X σ S1 Q else Q (.bl false) S1
  | .orE a b, X, σ, St, Q => wpE a X σ St fun u S1 => blp u fun c => if c = true then Q (.bl true) S1 else wpE b X σ S1 Q
  | .notE a, X, σ, St, Q => wpE a X σ St fun u S1 => blp u fun c => Q (.bl (!c)) S1
  | .tst _, _, _, _, _ => False
  | .ite t a b, X, σ, St, Q => wpT t X σ St fun c S1 => if c = true then wpE a X σ S1 Q else wpE b X σ S1 Q
  | .tup es, X, σ, St, Q => wpEs es X σ St fun us S1 => us.length ≤ sizeLine ∧ Q (.tup us) S1
  | .lst es, X, σ, St, Q => wpEs es X σ St fun us S1 => us.length ≤ sizeLine ∧ Q (.lst S1.length) (S1 ++ [.lst us])
  | .idx a i, X, σ, St, Q => wpE a X σ St fun u S1 => wpE i X σ S1 fun v S2 => idxp u v S2 Q
  | .slc a lo hi, X, σ, St, Q => wpE a X σ St fun u S1 => wpO lo X σ S1 fun l S2 => wpO hi X σ S2 fun h S3 => slcp u l h S3 Q
  | .rev a, X, σ, St, Q => wpE a X σ St fun u S1 => revp u S1 Q
  | .call f es, X, σ, St, Q => optp (G.fns f) fun sp => wpEs es X σ St fun us S1 => sp us S1 Q (fun c p S2 => X c p σ S2)
  | .callL i es, X, σ, St, Q => slotp σ[i]? fun w => fnp w fun f => optp (G.fns f) fun sp => wpEs es X σ St fun us S1 => sp us S1 Q (fun c p S2 => X c p σ S2)
  | .bi f es, X, σ, St, Q => wpEs es X σ St fun us S1 => bip f us S1 Q
  | .meth m a es, X, σ, St, Q => wpE a X σ St fun u S1 => lstq u (wpEs es X σ S1 fun us S2 => mep m u us S2 Q)
  | .isi a t, X, σ, St, Q => wpE a X σ St fun u S1 => isip u t fun b => Q (.bl b) S1
  | .lc e t it c own, X, σ, St, Q => wpI it X σ St fun src S1 =>
      lcL (fun u S2 k => wpTg t (fun _ _ _ _ => False) u (wipeU σ (own.map (·.2))) S2 fun σ2 S3 => wpC c (fun _ _ _ _ => False) σ2 S3 fun b S4 => if b = true then wpE e (fun _ _ _ _ => False) σ2 S4 fun v S5 => k (some v) S5 else k none S4)
        src.grd src.vals [] S1 fun acc S2 => Q (.lst S2.length) (S2 ++ [.lst acc])
def wpEs : Es → ExS → Sl → Sto → (List U → Sto → Prop) → Prop
  | .nil, _, _, St, Q => Q [] St
  | .cons e es, X, σ, St, Q => wpE e X σ St fun u S1 => wpEs es X σ S1 fun us S2 => Q (u :: us) S2
def wpO : Oe → ExS → Sl → Sto → (Option Int → Sto → Prop) → Prop
  | .none, _, _, St, Q => Q none St
  | .some e, X, σ, St, Q => wpE e X σ St fun u S1 => intp u fun i => Q (some i) S1
def wpC : Oe → ExS → Sl → Sto → (Bool → Sto → Prop) → Prop
  | .none, _, _, St, Q => Q true St
  | .some e, X, σ, St, Q => wpT e X σ St Q
def wpT : E → ExS → Sl → Sto → (Bool → Sto → Prop) → Prop
  | .andE a b, X, σ, St, Q => wpT a X σ St fun c S1 => if c = true then wpT b X σ S1 Q else Q false S1
  | .orE a b, X, σ, St, Q => wpT a X σ St fun c S1 => if c = true then Q true S1 else wpT b X σ S1 Q
  | .notE a, X, σ, St, Q => wpT a X σ St fun c S1 => Q (!c) S1
  | .tst e, X, σ, St, Q => wpE e X σ St fun u S1 => tru u S1 fun b => Q b S1
  | _, _, _, _, _ => False
def wpTg : T → ExS → U → Sl → Sto → (Sl → Sto → Prop) → Prop
  | .name i, _, u, σ, St, Q => Q (σ.set i (some u)) St
  | .tup ts, X, u, σ, St, Q => tupp u fun l => l.length = lenTs ts ∧ wpTs ts X l σ St Q
  | .sub o i, X, u, σ, St, Q => wpE o X σ St fun x S1 => wpE i X σ S1 fun y S2 => setp x y u S2 fun S3 => Q σ S3
def wpTs : Ts → ExS → List U → Sl → Sto → (Sl → Sto → Prop) → Prop
  | .nil, _, us, σ, St, Q => nilp us (Q σ St)
  | .cons t ts, X, us, σ, St, Q => consp us fun u r => wpTg t X u σ St fun σ1 S1 => wpTs ts X r σ1 S1 Q
def wpI : It → ExS → Sl → Sto → (Src → Sto → Prop) → Prop
  | .seq a, X, σ, St, Q => wpE a X σ St fun u S1 => srcp (fun l => l) u S1 fun s => Q s S1
  | .rng1 a, X, σ, St, Q => wpE a X σ St fun u S1 => intp u fun j => (-(2 ^ 62) ≤ j ∧ j < 2 ^ 62) ∧ Q ⟨rngL 0 j.toNat, fun _ => True⟩ S1
  | .rng2 a b, X, σ, St, Q => wpE a X σ St fun u S1 => wpE b X σ S1 fun v S2 => intp u fun i => intp v fun j => (-(2 ^ 62) ≤ i ∧ i < 2 ^ 62 ∧ -(2 ^ 62) ≤ j ∧ j < 2 ^ 62) ∧ Q ⟨rngL i (j - i).toNat, fun _ => True⟩ S2
  | .enm a, X, σ, St, Q => wpE a X σ St fun u S1 => srcp enmL u S1 fun s => Q s S1
  | .down a, X, σ, St, Q => wpE a X σ St fun u S1 => intp u fun j => (-(2 ^ 62) ≤ j ∧ j < 2 ^ 62) ∧ Q ⟨downL j, fun _ => True⟩ S1
end

/-- what is wanted behind a statement -/
structure En where
  nx : Sl → Sto → Prop
  rt : Ks
  bk : Sl → Sto → Prop := fun _ _ => False
  ct : Sl → Sto → Prop := fun _ _ => False

def hdp (h : Hd) (D : En) (σ : Sl) (St : Sto) : Prop := match h with
  | .retN => D.rt .non St
  | .retB b => D.rt (.bl b) St
  | .cont => D.ct σ St
  | .pass => D.nx σ St
  | .brk => D.bk σ St
def optb : Option Bool → (Bool → Prop) → Prop
  | some b, k => k b
  | none, _ => False
mutual
def wpS : S → ExS → En → Sl → Sto → Prop
  | .asg t e, X, D, σ, St => wpE G e X σ St fun u S1 => wpTg G t X u σ S1 D.nx
  | .setlc i e, X, D, σ, St => wpE G e X σ St fun u S1 => D.nx (σ.set i (some u)) S1
  | .par i j a b, X, D, σ, St => wpE G a X σ St fun u S1 => wpE G b X σ S1 fun v S2 => D.nx ((σ.set i (some u)).set j (some v)) S2
  | .aug i o e, X, D, σ, St => slotp σ[i]? fun x => wpE G e X σ St fun u S1 => augp o x u S1 fun v S2 => D.nx (σ.set i (some v)) S2
  | .ret e, X, D, σ, St => wpE G e X σ St D.rt
  | .retN, _, D, _, St => D.rt .non St
  | .ifs t a b, X, D, σ, St => wpT G t X σ St fun c S1 => if c = true then wpSs a X D σ S1 else wpSs b X D σ S1
  | .fors t it b, X, D, σ, St => wpI G it X σ St fun src S1 =>
      forL (fun u σ1 S2 k => wpTg G t X u σ1 S2 fun σ2 S3 => wpSs b X { nx := k, rt := D.rt, bk := D.nx, ct := k } σ2 S3) src.grd src.vals σ S1 D.nx
  | .whl t b, X, D, σ, St => ∃ n, whlN (fun σ1 S1 k => wpT G t X σ1 S1 k) (fun σ1 S1 k => wpSs b X { nx := k, rt := D.rt, bk := D.nx, ct := k } σ1 S1) D.nx n σ St
  | .ex e, X, D, σ, St => wpE G e X σ St fun _ S1 => D.nx σ S1
  | .doc, _, D, σ, St => D.nx σ St
  | .raise c _, X, _, σ, St => X c [] σ St
  | .pass, _, D, σ, St => D.nx σ St
  | .brk, _, D, σ, St => D.bk σ St
  | .cont, _, D, σ, St => D.ct σ St
  | .nev, _, _, _, _ => False
  | .tryo b c h, X, D, σ, St => wpSs b (fun cl p σ2 S2 => optb (G.exm cl c) fun y => if y = true then hdp h D σ2 S2 else X cl p σ2 S2) D σ St
def wpSs : Ss → ExS → En → Sl → Sto → Prop
  | .nil, _, D, σ, St => D.nx σ St
  | .cons s ss, X, D, σ, St => wpS s X { D with nx := fun σ1 S1 => wpSs ss X D σ1 S1 } σ St
end
end Q

set_option Elab.async false
set_option linter.all false
set_option maxRecDepth 100000
set_option maxHeartbeats 4000000
/-! QMono: what is wanted may be weakened. -/
namespace Q
open PySem

section
variable {Q Q' : Ks} {St : Sto}
theorem bopI_mono {o i j} (hQ : ∀ u S, Q u S → Q' u S) (h : bopI o i j St Q) : bopI o i j St Q' := by
  cases o <;> simp only [bopI] at h ⊢ <;> first | exact hQ _ _ h | exact ⟨h.1, hQ _ _ h.2⟩
theorem bop_mono {o x y} (hQ : ∀ u S, Q u S → Q' u S) (h : bop o x y St Q) : bop o x y St Q' := by
  unfold bop at h ⊢
  split
  · exact bopI_mono hQ h
  · cases o <;> first | exact ⟨h.1, hQ _ _ h.2⟩ | exact h.elim
  · cases o <;> first | exact ⟨h.1, hQ _ _ h.2⟩ | exact h.elim
  · dsimp only at h ⊢
    split at h
    · exact ⟨h.1, hQ _ _ h.2⟩
    · exact h.elim
  · dsimp only at h ⊢
    split at h
    · exact ⟨h.1, hQ _ _ h.2⟩
    · exact h.elim
  · split at h <;> first | exact h | (exfalso; simp_all)
theorem idxp_mono {x i} (hQ : ∀ u S, Q u S → Q' u S) (h : idxp x i St Q) : idxp x i St Q' := by
  unfold idxp at h ⊢
  split
  · rename_i k
    dsimp only at h
    split
    · dsimp only at h
      split at h
      · exact hQ _ _ h
      · exact h.elim
    · dsimp only at h
      split at h
      · split at h
        · exact hQ _ _ h
        · exact h.elim
      · exact h.elim
    · dsimp only at h
      refine ⟨h.1, ?_⟩
      have h2 := h.2
      split at h2
      · exact hQ _ _ h2
      · exact h2.elim
    · split at h <;> first | exact h | (exfalso; simp_all)
  · split at h <;> first | exact h | (exfalso; simp_all)
theorem slcp_mono {x lo hi} (hQ : ∀ u S, Q u S → Q' u S) (h : slcp x lo hi St Q) : slcp x lo hi St Q' := by
  unfold slcp at h ⊢
  split
  · exact hQ _ _ h
  · dsimp only at h
    split at h
    · exact hQ _ _ h
    · exact h.elim
  · exact hQ _ _ h
  · exact ⟨h.1, hQ _ _ h.2⟩
  · split at h <;> first | exact h | (exfalso; simp_all)
theorem itemsp_mono {x} {P P' : List U → Prop} (hP : ∀ l, P l → P' l) (h : itemsp x St P) : itemsp x St P' := by
  unfold itemsp at h ⊢
  split
  · exact hP _ h
  · dsimp only at h
    split at h
    · exact hP _ h
    · exact h.elim
  · split at h <;> first | exact h | (exfalso; simp_all)
theorem listp_mono {x} {P P' : List U → Prop} (hP : ∀ l, P l → P' l) (h : listp x St P) : listp x St P' := by
  unfold listp at h ⊢
  split
  · dsimp only at h
    split at h
    · exact hP _ h
    · exact h.elim
  · split at h <;> first | exact h | (exfalso; simp_all)
theorem bip_mono {f us} (hQ : ∀ u S, Q u S → Q' u S) (h : bip f us St Q) : bip f us St Q' := by
  unfold bip at h ⊢
  split
  · exact ⟨h.1, hQ _ _ h.2⟩
  · rename_i x hx
    exact itemsp_mono (fun l q => hQ _ _ q) (by split at h <;> first | exact h | (rename_i heq; cases heq; exact h) | (exfalso; simp_all))
  · exact hQ _ _ h
  · exact hQ _ _ h
  · exact hQ _ _ h
  · refine listp_mono (fun l q => ?_) h
    split at q <;> first | exact hQ _ _ q | exact q.elim
  · refine listp_mono (fun l q => ?_) h
    split at q <;> first | exact hQ _ _ q | exact q.elim
  · refine listp_mono (fun l q => ?_) h
    split at q <;> first | exact hQ _ _ q | exact q.elim
  · exact hQ _ _ h
  · exact hQ _ _ h
  · exact ⟨h.1, hQ _ _ h.2⟩
  · exact itemsp_mono (fun l q => hQ _ _ q) h
  · exact itemsp_mono (fun l q => hQ _ _ q) h
  · split at h <;> first | exact h | (exfalso; simp_all)
theorem mep_mono {m x us} (hQ : ∀ u S, Q u S → Q' u S) (h : mep m x us St Q) : mep m x us St Q' := by
  unfold mep at h ⊢
  split
  · dsimp only at h
    split at h
    · exact ⟨h.1, hQ _ _ h.2⟩
    · exact h.elim
  · dsimp only at h
    split at h
    · exact ⟨h.1, hQ _ _ h.2⟩
    · exact h.elim
  · dsimp only at h
    split at h
    · split at h
      · exact hQ _ _ h
      · exact h.elim
    · exact h.elim
  · split at h <;> first | exact h | (exfalso; simp_all)
end
section
variable {Q Q' : Bool → Prop} {St : Sto}
theorem eqp_mono {x y} (hQ : ∀ b, Q b → Q' b) (h : eqp x y St Q) : eqp x y St Q' := by
  unfold eqp at h ⊢
  split
  · dsimp only at h
    split at h
    · exact ⟨h.1, hQ _ h.2⟩
    · exact h.elim
  · rename_i h1
    refine ⟨?_, hQ _ ?_⟩
    · split at h
      · exact absurd rfl (h1 _ _ rfl)
      · exact h.1
    · split at h
      · exact absurd rfl (h1 _ _ rfl)
      · exact h.2
theorem inp_mono {x y} (hQ : ∀ b, Q b → Q' b) (h : inp x y St Q) : inp x y St Q' := by
  unfold inp at h ⊢
  split
  · exact ⟨h.1, hQ _ h.2⟩
  · dsimp only at h
    split at h
    · exact ⟨h.1, hQ _ h.2⟩
    · exact h.elim
  · dsimp only at h
    split
    · dsimp only at h
      split at h
      · exact hQ _ h
      · exact h.elim
    · split at h <;> first | exact h | (exfalso; simp_all)
  · split at h <;> first | exact h | (exfalso; simp_all)
theorem cop_mono {o x y} (hQ : ∀ b, Q b → Q' b) (h : cop o x y St Q) : cop o x y St Q' := by
  cases o <;> simp only [cop] at h ⊢
  · exact eqp_mono hQ h
  · exact eqp_mono (fun b q => hQ _ q) h
  iterate 4
    · split at h
      · exact hQ _ h
      · exact h.elim
  · exact inp_mono hQ h
  · exact inp_mono (fun b q => hQ _ q) h
theorem tru_mono {u} (hQ : ∀ b, Q b → Q' b) (h : tru u St Q) : tru u St Q' := by
  unfold tru at h ⊢
  split
  · exact hQ _ h
  · exact hQ _ h
  · exact hQ _ h
  · exact ⟨h.1, hQ _ h.2⟩
  · exact hQ _ h
  · dsimp only at h
    split at h
    · exact hQ _ h
    · exact h.elim
  · split at h <;> first | exact h | (exfalso; simp_all)
theorem isip_mono {x t} (hQ : ∀ b, Q b → Q' b) (h : isip x t Q) : isip x t Q' := by
  unfold isip at h ⊢
  split <;> first | exact hQ _ h | (split at h <;> first | exact h | (exfalso; simp_all))
end
theorem setp_mono {o i v} {St : Sto} {Q Q' : Sto → Prop} (hQ : ∀ S, Q S → Q' S) (h : setp o i v St Q) : setp o i v St Q' := by
  unfold setp at h ⊢
  split
  · dsimp only at h
    split at h
    · split at h
      · exact hQ _ h
      · exact h.elim
    · exact h.elim
  · split at h <;> first | exact h | (exfalso; simp_all)

theorem lcL_mono {t t' : U → Sto → (Option U → Sto → Prop) → Prop} {grd : Sto → Prop} {Q Q' : List U → Sto → Prop} (ht : ∀ u St k k', (∀ o S, k o S → k' o S) → t u St k → t' u St k') (hQ : ∀ l S, Q l S → Q' l S) :
    ∀ (us acc : List U) (St : Sto), lcL t grd us acc St Q → lcL t' grd us acc St Q'
  | [], acc, St, h => ⟨h.1, hQ _ _ h.2⟩
  | u :: us, acc, St, h => ⟨h.1, ht _ _ _ _ (fun o S q => by
      cases o with
      | some v => exact ⟨q.1, lcL_mono ht hQ us _ _ q.2⟩
      | none => exact lcL_mono ht hQ us _ _ q) h.2⟩
theorem forL_mono {t t' : U → Sl → Sto → (Sl → Sto → Prop) → Prop} {grd : Sto → Prop} {Q Q' : Sl → Sto → Prop} (ht : ∀ u σ St k k', (∀ o S, k o S → k' o S) → t u σ St k → t' u σ St k') (hQ : ∀ l S, Q l S → Q' l S) :
    ∀ (us : List U) (σ : Sl) (St : Sto), forL t grd us σ St Q → forL t' grd us σ St Q'
  | [], σ, St, h => ⟨h.1, hQ _ _ h.2⟩
  | u :: us, σ, St, h => ⟨h.1, ht _ _ _ _ _ (fun o S q => forL_mono ht hQ us _ _ q) h.2⟩
theorem whlN_mono {t t' : Sl → Sto → (Bool → Sto → Prop) → Prop} {b b' : Sl → Sto → (Sl → Sto → Prop) → Prop} {nx nx' : Sl → Sto → Prop} (ht : ∀ σ St k k', (∀ o S, k o S → k' o S) → t σ St k → t' σ St k')
    (hb : ∀ σ St k k', (∀ o S, k o S → k' o S) → b σ St k → b' σ St k') (hQ : ∀ l S, nx l S → nx' l S) : ∀ (n : Nat) (σ : Sl) (St : Sto), whlN t b nx n σ St → whlN t' b' nx' n σ St
  | 0, σ, St, h => h.elim
  | n + 1, σ, St, h => ht _ _ _ _ (fun o S q => by
      cases o with
      | true => exact hb _ _ _ _ (fun σ' S' r => whlN_mono ht hb hQ n σ' S' r) q
      | false => exact hQ _ _ q) h


theorem slotp_mono {o : Option (Option U)} {k k' : U → Prop} (h : ∀ u, k u → k' u) (q : slotp o k) : slotp o k' := by
  unfold slotp at q ⊢; split at q
  · exact h _ q
  · exact q.elim
theorem intp_mono {u : U} {k k' : Int → Prop} (h : ∀ u, k u → k' u) (q : intp u k) : intp u k' := by
  cases u <;> first | exact h _ q | exact q.elim
theorem blp_mono {u : U} {k k' : Bool → Prop} (h : ∀ u, k u → k' u) (q : blp u k) : blp u k' := by
  cases u <;> first | exact h _ q | exact q.elim
theorem tupp_mono {u : U} {k k' : List U → Prop} (h : ∀ u, k u → k' u) (q : tupp u k) : tupp u k' := by
  cases u <;> first | exact h _ q | exact q.elim
theorem fnp_mono {u : U} {k k' : Str → Prop} (h : ∀ u, k u → k' u) (q : fnp u k) : fnp u k' := by
  cases u <;> first | exact h _ q | exact q.elim
theorem lstq_mono {u : U} {k k' : Prop} (h : k → k') (q : lstq u k) : lstq u k' := by
  cases u <;> first | exact h q | exact q.elim
theorem nilp_mono {u : List U} {k k' : Prop} (h : k → k') (q : nilp u k) : nilp u k' := by
  cases u <;> first | exact h q | exact q.elim
theorem consp_mono {u : List U} {k k' : U → List U → Prop} (h : ∀ u r, k u r → k' u r) (q : consp u k) : consp u k' := by
  cases u <;> first | exact h _ _ q | exact q.elim
theorem optp_mono {α : Type} {o : Option α} {k k' : α → Prop} (h : ∀ u, o = some u → k u → k' u) (q : optp o k) : optp o k' := by
  cases o with
  | none => exact q.elim
  | some a => exact h a rfl q
theorem optu_mono {o : Option U} {k k' : U → Prop} (h : ∀ u, k u → k' u) (q : optu o k) : optu o k' := by
  cases o with
  | none => exact q.elim
  | some a => exact h a q
theorem srcp_mono {f : List U → List U} {u : U} {St : Sto} {k k' : Src → Prop} (h : ∀ s, k s → k' s) (q : srcp f u St k) : srcp f u St k' := by
  unfold srcp at q ⊢
  split
  · exact h _ q
  · dsimp only at q
    split at q
    · exact h _ q
    · exact q.elim
  · split at q <;> first | exact q | (exfalso; simp_all)
theorem revp_mono {u : U} {St : Sto} {Q Q' : Ks} (h : ∀ u S, Q u S → Q' u S) (q : revp u St Q) : revp u St Q' := by
  unfold revp at q ⊢
  split
  · dsimp only at q
    split at q
    · exact h _ _ q
    · exact q.elim
  · split at q <;> first | exact q | (exfalso; simp_all)
theorem augp_mono {o x y} {St : Sto} {Q Q' : Ks} (hQ : ∀ u S, Q u S → Q' u S) (h : augp o x y St Q) : augp o x y St Q' := by
  unfold augp at h ⊢
  split
  · exact hQ _ _ h
  · exact hQ _ _ h
  · exact ⟨h.1, hQ _ _ h.2⟩
  · split at h <;> first | exact h | (exfalso; simp_all)
theorem ite_mono {c : Bool} {A B A' B' : Prop} (ha : A → A') (hb : B → B') (h : if c = true then A else B) : if c = true then A' else B' := by
  cases c with
  | true => exact ha h
  | false => exact hb h

def FMono (sp : FSpec) : Prop := ∀ us St Q Q' E E', (∀ u S, Q u S → Q' u S) → (∀ c p S, E c p S → E' c p S) → sp us St Q E → sp us St Q' E'
def GMono (G : Gm) : Prop := ∀ f sp, G.fns f = some sp → FMono sp

section
variable {G : Gm} (hG : GMono G)
include hG
mutual
theorem wpE_mono : ∀ (e : E) {X X' : ExS} {σ : Sl} {St : Sto} {Q Q' : Ks} (hX : ∀ c p σ S, X c p σ S → X' c p σ S) (hQ : ∀ u S, Q u S → Q' u S), wpE G e X σ St Q → wpE G e X' σ St Q'
  | .var i, X, X', σ, St, Q, Q', hX, hQ, h => by rw [wpE] at h ⊢; exact slotp_mono (fun u => hQ u _) h
  | .int i, X, X', σ, St, Q, Q', hX, hQ, h => by rw [wpE] at h ⊢; exact hQ _ _ h
  | .str i, X, X', σ, St, Q, Q', hX, hQ, h => by rw [wpE] at h ⊢; exact hQ _ _ h
  | .bl i, X, X', σ, St, Q, Q', hX, hQ, h => by rw [wpE] at h ⊢; exact hQ _ _ h
  | .non, X, X', σ, St, Q, Q', hX, hQ, h => by rw [wpE] at h ⊢; exact hQ _ _ h
  | .glob x, X, X', σ, St, Q, Q', hX, hQ, h => by rw [wpE] at h ⊢; exact optu_mono (fun u => hQ u _) h
  | .bop o a b, X, X', σ, St, Q, Q', hX, hQ, h => by
    rw [wpE] at h ⊢
    exact wpE_mono a hX (fun u S q => wpE_mono b hX (fun v S2 q2 => bop_mono hQ q2) q) h
  | .neg a, X, X', σ, St, Q, Q', hX, hQ, h => by
    rw [wpE] at h ⊢
    exact wpE_mono a hX (fun u S q => intp_mono (fun i => hQ _ _) q) h
  | .cmp o a b, X, X', σ, St, Q, Q', hX, hQ, h => by
    rw [wpE] at h ⊢
    exact wpE_mono a hX (fun u S q => wpE_mono b hX (fun v S2 q2 => cop_mono (fun b q3 => hQ _ _ q3) q2) q) h
  | .cmp2 o p a b c, X, X', σ, St, Q, Q', hX, hQ, h => by
    rw [wpE] at h ⊢
    exact wpE_mono a hX (fun u S q => wpE_mono b hX (fun v S2 q2 => cop_mono (fun d => ite_mono (wpE_mono c hX (fun w S3 q4 => cop_mono (fun b q5 => hQ _ _ q5) q4)) (hQ _ _)) q2) q) h
  | .isN a, X, X', σ, St, Q, Q', hX, hQ, h => by
    rw [wpE] at h ⊢
    exact wpE_mono a hX (fun u S q => hQ _ _ q) h
  | .notN a, X, X', σ, St, Q, Q', hX, hQ, h => by
    rw [wpE] at h ⊢
    exact wpE_mono a hX (fun u S q => hQ _ _ q) h
  | .andE a b, X, X', σ, St, Q, Q', hX, hQ, h => by
    rw [wpE] at h ⊢
    exact wpE_mono a hX (fun u S q => blp_mono (fun c => ite_mono (wpE_mono b hX hQ) (hQ _ _)) q) h
  | .orE a b, X, X', σ, St, Q, Q', hX, hQ, h => by
    rw [wpE] at h ⊢
    exact wpE_mono a hX (fun u S q => blp_mono (fun c => ite_mono (hQ _ _) (wpE_mono b hX hQ)) q) h
  | .notE a, X, X', σ, St, Q, Q', hX, hQ, h => by
    rw [wpE] at h ⊢
    exact wpE_mono a hX (fun u S q => blp_mono (fun c => hQ _ _) q) h
  | .tst a, X, X', σ, St, Q, Q', hX, hQ, h => by rw [wpE] at h; exact h.elim
  | .ite t a b, X, X', σ, St, Q, Q', hX, hQ, h => by
    rw [wpE] at h ⊢
    exact wpT_mono t hX (fun c S => ite_mono (wpE_mono a hX hQ) (wpE_mono b hX hQ)) h
  | .tup es, X, X', σ, St, Q, Q', hX, hQ, h => by
    rw [wpE] at h ⊢
    exact wpEs_mono es hX (fun us S q => ⟨q.1, hQ _ _ q.2⟩) h
  | .lst es, X, X', σ, St, Q, Q', hX, hQ, h => by
    rw [wpE] at h ⊢
    exact wpEs_mono es hX (fun us S q => ⟨q.1, hQ _ _ q.2⟩) h
  | .idx a b, X, X', σ, St, Q, Q', hX, hQ, h => by
    rw [wpE] at h ⊢
    exact wpE_mono a hX (fun u S q => wpE_mono b hX (fun v S2 q2 => idxp_mono hQ q2) q) h
  | .slc a lo hi, X, X', σ, St, Q, Q', hX, hQ, h => by
    rw [wpE] at h ⊢
    exact wpE_mono a hX (fun u S q => wpO_mono lo hX (fun l S2 q2 => wpO_mono hi hX (fun w S3 q3 => slcp_mono hQ q3) q2) q) h
  | .rev a, X, X', σ, St, Q, Q', hX, hQ, h => by
    rw [wpE] at h ⊢
    exact wpE_mono a hX (fun u S q => revp_mono hQ q) h
  | .call f es, X, X', σ, St, Q, Q', hX, hQ, h => by
    rw [wpE] at h ⊢
    exact optp_mono (fun sp hs => wpEs_mono es hX (fun us S => hG f sp hs _ _ _ _ _ _ hQ (fun c p S2 => hX c p σ S2))) h
  | .callL i es, X, X', σ, St, Q, Q', hX, hQ, h => by
    rw [wpE] at h ⊢
    exact slotp_mono (fun w => fnp_mono (fun f => optp_mono (fun sp hs => wpEs_mono es hX (fun us S => hG f sp hs _ _ _ _ _ _ hQ (fun c p S2 => hX c p σ S2))))) h
  | .bi f es, X, X', σ, St, Q, Q', hX, hQ, h => by
    rw [wpE] at h ⊢
    exact wpEs_mono es hX (fun us S q => bip_mono hQ q) h
  | .meth m a es, X, X', σ, St, Q, Q', hX, hQ, h => by
    rw [wpE] at h ⊢
    exact wpE_mono a hX (fun u S q => lstq_mono (wpEs_mono es hX (fun us S2 q2 => mep_mono hQ q2)) q) h
  | .isi a t, X, X', σ, St, Q, Q', hX, hQ, h => by
    rw [wpE] at h ⊢
    exact wpE_mono a hX (fun u S q => isip_mono (fun b q2 => hQ _ _ q2) q) h
  | .lc e t it c own, X, X', σ, St, Q, Q', hX, hQ, h => by
    rw [wpE] at h ⊢
    exact wpI_mono it hX (fun src S q => lcL_mono (fun u S2 k k' hk q2 => wpTg_mono t (fun _ _ _ _ z => z)
      (fun σ2 S3 q3 => wpC_mono c (fun _ _ _ _ z => z) (fun b S4 => ite_mono (wpE_mono e (fun _ _ _ _ z => z) (fun v S5 q5 => hk _ _ q5)) (hk _ _)) q3) q2) (fun acc S2 q2 => hQ _ _ q2) _ _ _ q) h
theorem wpEs_mono : ∀ (e : Es) {X X' : ExS} {σ : Sl} {St : Sto} {Q Q' : List U → Sto → Prop} (hX : ∀ c p σ S, X c p σ S → X' c p σ S) (hQ : ∀ u S, Q u S → Q' u S), wpEs G e X σ St Q → wpEs G e X' σ St Q'
  | .nil, X, X', σ, St, Q, Q', hX, hQ, h => by rw [wpEs] at h ⊢; exact hQ _ _ h
  | .cons e es, X, X', σ, St, Q, Q', hX, hQ, h => by
    rw [wpEs] at h ⊢
    exact wpE_mono e hX (fun u S q => wpEs_mono es hX (fun us S2 q2 => hQ _ _ q2) q) h
theorem wpO_mono : ∀ (e : Oe) {X X' : ExS} {σ : Sl} {St : Sto} {Q Q' : Option Int → Sto → Prop} (hX : ∀ c p σ S, X c p σ S → X' c p σ S) (hQ : ∀ u S, Q u S → Q' u S), wpO G e X σ St Q → wpO G e X' σ St Q'
  | .none, X, X', σ, St, Q, Q', hX, hQ, h => by rw [wpO] at h ⊢; exact hQ _ _ h
  | .some e, X, X', σ, St, Q, Q', hX, hQ, h => by
    rw [wpO] at h ⊢
    exact wpE_mono e hX (fun u S q => intp_mono (fun i => hQ _ _) q) h
theorem wpC_mono : ∀ (e : Oe) {X X' : ExS} {σ : Sl} {St : Sto} {Q Q' : Bool → Sto → Prop} (hX : ∀ c p σ S, X c p σ S → X' c p σ S) (hQ : ∀ u S, Q u S → Q' u S), wpC G e X σ St Q → wpC G e X' σ St Q'
  | .none, X, X', σ, St, Q, Q', hX, hQ, h => by rw [wpC] at h ⊢; exact hQ _ _ h
  | .some e, X, X', σ, St, Q, Q', hX, hQ, h => by
    rw [wpC] at h ⊢
    exact wpT_mono e hX hQ h
theorem wpT_mono : ∀ (e : E) {X X' : ExS} {σ : Sl} {St : Sto} {Q Q' : Bool → Sto → Prop} (hX : ∀ c p σ S, X c p σ S → X' c p σ S) (hQ : ∀ u S, Q u S → Q' u S), wpT G e X σ St Q → wpT G e X' σ St Q'
  | .andE a b, X, X', σ, St, Q, Q', hX, hQ, h => by
    rw [wpT] at h ⊢
    exact wpT_mono a hX (fun c S => ite_mono (wpT_mono b hX hQ) (hQ _ _)) h
  | .orE a b, X, X', σ, St, Q, Q', hX, hQ, h => by
    rw [wpT] at h ⊢
    exact wpT_mono a hX (fun c S => ite_mono (hQ _ _) (wpT_mono b hX hQ)) h
  | .notE a, X, X', σ, St, Q, Q', hX, hQ, h => by
    rw [wpT] at h ⊢
    exact wpT_mono a hX (fun c S q => hQ _ _ q) h
  | .tst e, X, X', σ, St, Q, Q', hX, hQ, h => by
    rw [wpT] at h ⊢
    exact wpE_mono e hX (fun u S q => tru_mono (fun b q2 => hQ _ _ q2) q) h
  | .var i, X, X', σ, St, Q, Q', hX, hQ, h => by simp only [wpT] at h
  | .int i, X, X', σ, St, Q, Q', hX, hQ, h => by simp only [wpT] at h
  | .str i, X, X', σ, St, Q, Q', hX, hQ, h => by simp only [wpT] at h
  | .bl i, X, X', σ, St, Q, Q', hX, hQ, h => by simp only [wpT] at h
  | .non, X, X', σ, St, Q, Q', hX, hQ, h => by simp only [wpT] at h
  | .glob x, X, X', σ, St, Q, Q', hX, hQ, h => by simp only [wpT] at h
  | .bop o a b, X, X', σ, St, Q, Q', hX, hQ, h => by simp only [wpT] at h
  | .neg a, X, X', σ, St, Q, Q', hX, hQ, h => by simp only [wpT] at h
  | .cmp o a b, X, X', σ, St, Q, Q', hX, hQ, h => by simp only [wpT] at h
  | .cmp2 o p a b c, X, X', σ, St, Q, Q', hX, hQ, h => by simp only [wpT] at h
  | .isN a, X, X', σ, St, Q, Q', hX, hQ, h => by simp only [wpT] at h
  | .notN a, X, X', σ, St, Q, Q', hX, hQ, h => by simp only [wpT] at h
  | .ite t a b, X, X', σ, St, Q, Q', hX, hQ, h => by simp only [wpT] at h
  | .tup es, X, X', σ, St, Q, Q', hX, hQ, h => by simp only [wpT] at h
  | .lst es, X, X', σ, St, Q, Q', hX, hQ, h => by simp only [wpT] at h
  | .idx a i, X, X', σ, St, Q, Q', hX, hQ, h => by simp only [wpT] at h
  | .slc a lo hi, X, X', σ, St, Q, Q', hX, hQ, h => by simp only [wpT] at h
  | .rev a, X, X', σ, St, Q, Q', hX, hQ, h => by simp only [wpT] at h
  | .call f es, X, X', σ, St, Q, Q', hX, hQ, h => by simp only [wpT] at h
  | .callL i es, X, X', σ, St, Q, Q', hX, hQ, h => by simp only [wpT] at h
  | .bi f es, X, X', σ, St, Q, Q', hX, hQ, h => by simp only [wpT] at h
  | .meth m a es, X, X', σ, St, Q, Q', hX, hQ, h => by simp only [wpT] at h
  | .isi a t, X, X', σ, St, Q, Q', hX, hQ, h => by simp only [wpT] at h
  | .lc e t it c own, X, X', σ, St, Q, Q', hX, hQ, h => by simp only [wpT] at h
theorem wpTg_mono : ∀ (t : T) {X X' : ExS} {u : U} {σ : Sl} {St : Sto} {Q Q' : Sl → Sto → Prop} (hX : ∀ c p σ S, X c p σ S → X' c p σ S) (hQ : ∀ u S, Q u S → Q' u S), wpTg G t X u σ St Q → wpTg G t X' u σ St Q'
  | .name i, X, X', u, σ, St, Q, Q', hX, hQ, h => by rw [wpTg] at h ⊢; exact hQ _ _ h
  | .tup ts, X, X', u, σ, St, Q, Q', hX, hQ, h => by
    rw [wpTg] at h ⊢
    exact tupp_mono (fun l q => ⟨q.1, wpTs_mono ts hX hQ q.2⟩) h
  | .sub o i, X, X', u, σ, St, Q, Q', hX, hQ, h => by
    rw [wpTg] at h ⊢
    exact wpE_mono o hX (fun x S q => wpE_mono i hX (fun y S2 q2 => setp_mono (fun S3 q3 => hQ _ _ q3) q2) q) h
theorem wpTs_mono : ∀ (t : Ts) {X X' : ExS} {u : List U} {σ : Sl} {St : Sto} {Q Q' : Sl → Sto → Prop} (hX : ∀ c p σ S, X c p σ S → X' c p σ S) (hQ : ∀ u S, Q u S → Q' u S), wpTs G t X u σ St Q → wpTs G t X' u σ St Q'
  | .nil, X, X', u, σ, St, Q, Q', hX, hQ, h => by
    rw [wpTs] at h ⊢
    exact nilp_mono (hQ _ _) h
  | .cons t ts, X, X', u, σ, St, Q, Q', hX, hQ, h => by
    rw [wpTs] at h ⊢
    exact consp_mono (fun u r => wpTg_mono t hX (fun σ1 S1 q => wpTs_mono ts hX hQ q)) h
theorem wpI_mono : ∀ (t : It) {X X' : ExS} {σ : Sl} {St : Sto} {Q Q' : Src → Sto → Prop} (hX : ∀ c p σ S, X c p σ S → X' c p σ S) (hQ : ∀ u S, Q u S → Q' u S), wpI G t X σ St Q → wpI G t X' σ St Q'
  | .seq a, X, X', σ, St, Q, Q', hX, hQ, h => by
    rw [wpI] at h ⊢
    exact wpE_mono a hX (fun u S q => srcp_mono (fun s => hQ _ _) q) h
  | .rng1 a, X, X', σ, St, Q, Q', hX, hQ, h => by
    rw [wpI] at h ⊢
    exact wpE_mono a hX (fun u S q => intp_mono (fun i q => ⟨q.1, hQ _ _ q.2⟩) q) h
  | .rng2 a b, X, X', σ, St, Q, Q', hX, hQ, h => by
    rw [wpI] at h ⊢
    exact wpE_mono a hX (fun u S q => wpE_mono b hX (fun v S2 q2 => intp_mono (fun i q => intp_mono (fun j q => ⟨q.1, hQ _ _ q.2⟩) q) q2) q) h
  | .enm a, X, X', σ, St, Q, Q', hX, hQ, h => by
    rw [wpI] at h ⊢
    exact wpE_mono a hX (fun u S q => srcp_mono (fun s => hQ _ _) q) h
  | .down a, X, X', σ, St, Q, Q', hX, hQ, h => by
    rw [wpI] at h ⊢
    exact wpE_mono a hX (fun u S q => intp_mono (fun i q => ⟨q.1, hQ _ _ q.2⟩) q) h
end
end
structure En.Le (D D' : En) : Prop where
  nx : ∀ σ S, D.nx σ S → D'.nx σ S
  rt : ∀ u S, D.rt u S → D'.rt u S
  bk : ∀ σ S, D.bk σ S → D'.bk σ S
  ct : ∀ σ S, D.ct σ S → D'.ct σ S
theorem hdp_mono {h : Hd} {D D' : En} {σ : Sl} {St : Sto} (hD : D.Le D') : hdp h D σ St → hdp h D' σ St := by
  cases h <;> simp only [hdp] <;> first | exact hD.rt _ _ | exact hD.nx _ _ | exact hD.bk _ _ | exact hD.ct _ _
theorem optb_mono {o : Option Bool} {k k' : Bool → Prop} (h : ∀ b, k b → k' b) : optb o k → optb o k' := by
  cases o <;> simp only [optb] <;> first | exact h _ | exact fun z => z
section
variable {G : Gm} (hG : GMono G)
include hG
mutual
theorem wpS_mono : ∀ (s : S) {X X' : ExS} {D D' : En} {σ : Sl} {St : Sto} (hX : ∀ c p σ S, X c p σ S → X' c p σ S) (hD : D.Le D'), wpS G s X D σ St → wpS G s X' D' σ St
  | .asg t e, X, X', D, D', σ, St, hX, hD, h => by
    rw [wpS] at h ⊢
    exact wpE_mono hG e hX (fun u S q => wpTg_mono hG t hX hD.nx q) h
  | .setlc i e, X, X', D, D', σ, St, hX, hD, h => by
    rw [wpS] at h ⊢
    exact wpE_mono hG e hX (fun u S q => hD.nx _ _ q) h
  | .par i j a b, X, X', D, D', σ, St, hX, hD, h => by
    rw [wpS] at h ⊢
    exact wpE_mono hG a hX (fun u S q => wpE_mono hG b hX (fun v S2 q2 => hD.nx _ _ q2) q) h
  | .aug i o e, X, X', D, D', σ, St, hX, hD, h => by
    rw [wpS] at h ⊢
    exact slotp_mono (fun x => wpE_mono hG e hX (fun u S q => augp_mono (fun v S2 q2 => hD.nx _ _ q2) q)) h
  | .ret e, X, X', D, D', σ, St, hX, hD, h => by rw [wpS] at h ⊢; exact wpE_mono hG e hX hD.rt h
  | .retN, X, X', D, D', σ, St, hX, hD, h => by rw [wpS] at h ⊢; exact hD.rt _ _ h
  | .ifs t a b, X, X', D, D', σ, St, hX, hD, h => by
    rw [wpS] at h ⊢
    exact wpT_mono hG t hX (fun c S => ite_mono (wpSs_mono a hX hD) (wpSs_mono b hX hD)) h
  | .fors t it b, X, X', D, D', σ, St, hX, hD, h => by
    rw [wpS] at h ⊢
    refine wpI_mono hG it hX (fun src S q => ?_) h
    exact forL_mono (fun u σ1 S2 k k' hk q2 => wpTg_mono hG t hX (fun σ2 S3 q3 => wpSs_mono b hX (D := { nx := k, rt := D.rt, bk := D.nx, ct := k }) (D' := { nx := k', rt := D'.rt, bk := D'.nx, ct := k' }) ⟨hk, hD.rt, hD.nx, hk⟩ q3) q2) hD.nx _ _ _ q
  | .whl t b, X, X', D, D', σ, St, hX, hD, h => by
    rw [wpS] at h ⊢
    obtain ⟨n, h⟩ := h
    refine ⟨n, whlN_mono (fun σ1 S1 k k' hk q => ?_) (fun σ1 S1 k k' hk q => ?_) hD.nx n σ St h⟩
    · exact wpT_mono hG t hX hk q
    · exact wpSs_mono b hX (D := { nx := k, rt := D.rt, bk := D.nx, ct := k }) (D' := { nx := k', rt := D'.rt, bk := D'.nx, ct := k' }) ⟨hk, hD.rt, hD.nx, hk⟩ q
  | .ex e, X, X', D, D', σ, St, hX, hD, h => by
    rw [wpS] at h ⊢
    exact wpE_mono hG e hX (fun u S q => hD.nx _ _ q) h
  | .doc, X, X', D, D', σ, St, hX, hD, h => by rw [wpS] at h ⊢; exact hD.nx _ _ h
  | .raise c m, X, X', D, D', σ, St, hX, hD, h => by rw [wpS] at h ⊢; exact hX _ _ _ _ h
  | .pass, X, X', D, D', σ, St, hX, hD, h => by rw [wpS] at h ⊢; exact hD.nx _ _ h
  | .brk, X, X', D, D', σ, St, hX, hD, h => by rw [wpS] at h ⊢; exact hD.bk _ _ h
  | .cont, X, X', D, D', σ, St, hX, hD, h => by rw [wpS] at h ⊢; exact hD.ct _ _ h
  | .nev, X, X', D, D', σ, St, hX, hD, h => by rw [wpS] at h; exact h.elim
  | .tryo b c hd, X, X', D, D', σ, St, hX, hD, h => by
    rw [wpS] at h ⊢
    exact wpSs_mono b (fun cl p σ2 S2 => optb_mono fun y => ite_mono (hdp_mono hD) (hX _ _ _ _)) hD h
theorem wpSs_mono : ∀ (s : Ss) {X X' : ExS} {D D' : En} {σ : Sl} {St : Sto} (hX : ∀ c p σ S, X c p σ S → X' c p σ S) (hD : D.Le D'), wpSs G s X D σ St → wpSs G s X' D' σ St
  | .nil, X, X', D, D', σ, St, hX, hD, h => by rw [wpSs] at h ⊢; exact hD.nx _ _ h
  | .cons s ss, X, X', D, D', σ, St, hX, hD, h => by
    rw [wpSs] at h ⊢
    exact wpS_mono s hX (D := { D with nx := fun σ1 S1 => wpSs G ss X D σ1 S1 }) ⟨fun σ1 S1 q => wpSs_mono ss hX hD q, hD.rt, hD.bk, hD.ct⟩ h
end
end
end Q

set_option Elab.async false
set_option linter.all false
set_option maxRecDepth 100000
set_option maxHeartbeats 4000000
/-! QRep: how plain values and stores lie in the abstract heap of HandS. -/
namespace Q
open PySem PySem.Spec PyProof.Rows L2

/-- the module: the written part, the globals -/
structure Md where
  K : PySem.W.Frag
  mg : Str → Option Value
variable (M : Md)

mutual
def Rep (μ : List Addr) (H : Hp) : U → V → Prop
  | .non, v => v = .non
  | .bl b, v => v = .bl b
  | .int i, v => v = .int i
  | .str s, v => v = .str s
  | .tup l, v => ∃ a vs, v = .ref a ∧ SqT M.K H a vs ∧ RepL μ H l vs
  | .lst n, v => ∃ a, v = .ref a ∧ μ[n]? = some a
  | .fn f, v => ∃ a, v = .ref a ∧ M.mg f = some (.ref a)
  | .cls f, v => ∃ a, v = .ref a ∧ M.mg f = some (.ref a)
  | .ty n, v => v = .ty n
  | .scr l, v => ∃ a, v = .ref a ∧ ((∃ o, H a = some (.frz o (.lst (l.map V.int)))) ∨ SqL M.K (fun _ => none) a (l.map V.int))
def RepL (μ : List Addr) (H : Hp) : List U → List V → Prop
  | [], vs => vs = []
  | u :: us, vs => ∃ v r, vs = v :: r ∧ Rep μ H u v ∧ RepL μ H us r
end

def CellOk (μ : List Addr) (H : Hp) (a : Addr) : Cell → Prop
  | .lst l => ∃ vs, H a = some (.lst vs) ∧ RepL M μ H l vs
structure StoreOk (μ : List Addr) (H : Hp) (St : Sto) : Prop where
  len : μ.length = St.length
  nd : μ.Nodup
  cell : ∀ (n : Nat) (c : Cell), St[n]? = some c → ∃ a, μ[n]? = some a ∧ CellOk M μ H a c

structure Step (μ : List Addr) (H : Hp) (μ' : List Addr) (H' : Hp) : Prop where
  pre : ∃ t, μ' = μ ++ t
  new : ∀ a ∈ μ', a ∈ μ ∨ H a = none
  keep : ∀ a o, H a = some o → a ∉ μ → H' a = some o
  tr : ∀ a, H' a = none → H a = none

theorem Step.refl (μ : List Addr) (H : Hp) : Step μ H μ H := ⟨⟨[], by simp⟩, fun _ h => .inl h, fun _ _ h _ => h, fun _ h => h⟩
theorem Step.trans {μ μ1 μ2 : List Addr} {H H1 H2 : Hp} (a : Step μ H μ1 H1) (b : Step μ1 H1 μ2 H2) : Step μ H μ2 H2 where
  pre := by
    obtain ⟨t, rfl⟩ := a.pre
    obtain ⟨r, rfl⟩ := b.pre
    exact ⟨t ++ r, by simp⟩
  new := fun x hx => by
    rcases b.new x hx with h | h
    · exact a.new x h
    · exact .inr (a.tr x h)
  keep := fun x o h n => by
    refine b.keep x o (a.keep x o h n) fun z => ?_
    rcases a.new x z with q | q
    · exact n q
    · rw [h] at q; cases q
  tr := fun x h => a.tr x (b.tr x h)
theorem Step.get {μ μ1 : List Addr} {H H1 : Hp} (a : Step μ H μ1 H1) {n : Nat} {x : Addr} (h : μ[n]? = some x) : μ1[n]? = some x := by
  obtain ⟨t, rfl⟩ := a.pre
  obtain ⟨hn, _⟩ := List.getElem?_eq_some_iff.mp h
  rw [List.getElem?_append_left hn]; exact h

variable {M}
theorem StoreOk.mem {μ : List Addr} {H : Hp} {St : Sto} (s : StoreOk M μ H St) {a : Addr} (h : a ∈ μ) : ∃ vs, H a = some (.lst vs) := by
  obtain ⟨n, hn, e⟩ := List.mem_iff_getElem.mp h
  have h2 : n < St.length := by rw [← s.len]; exact hn
  obtain ⟨b, hb, c⟩ := s.cell n St[n] (List.getElem?_eq_getElem h2)
  rw [List.getElem?_eq_getElem hn, e] at hb
  cases hb
  cases hc : St[n] with
  | lst l => rw [hc] at c; obtain ⟨vs, h, _⟩ := c; exact ⟨vs, h⟩
theorem StoreOk.of {μ : List Addr} {H : Hp} {St : Sto} (s : StoreOk M μ H St) {n : Nat} {a : Addr} {l : List U} (h1 : μ[n]? = some a) (h2 : St[n]? = some (.lst l)) : ∃ vs, H a = some (.lst vs) ∧ RepL M μ H l vs := by
  obtain ⟨b, hb, c⟩ := s.cell n _ h2
  rw [h1] at hb; cases hb
  exact c
theorem StoreOk.at {μ : List Addr} {H : Hp} {St : Sto} (s : StoreOk M μ H St) {n : Nat} {l : List U} (h2 : St[n]? = some (.lst l)) : ∃ a vs, μ[n]? = some a ∧ H a = some (.lst vs) ∧ RepL M μ H l vs := by
  obtain ⟨b, hb, vs, h, r⟩ := s.cell n _ h2
  exact ⟨b, vs, hb, h, r⟩


/-- the store's addresses hold lists -/
def Lsts (μ : List Addr) (H : Hp) : Prop := ∀ a ∈ μ, ∃ vs, H a = some (.lst vs)
theorem StoreOk.lsts {μ : List Addr} {H : Hp} {St : Sto} (s : StoreOk M μ H St) : Lsts μ H := fun _ h => s.mem h

section
variable {μ μ' : List Addr} {H H' : Hp}
theorem sqT_mono (k : Step μ H μ' H') (hl : Lsts μ H) {a : Addr} {vs : List V} (h : SqT M.K H a vs) : SqT M.K H' a vs := by
  have np : ∀ {o : HO}, H a = some o → (∀ x, o ≠ .lst x) → a ∉ μ := fun {o} e n z => by
    obtain ⟨vs, q⟩ := hl a z
    rw [e] at q; cases q
    exact n _ rfl
  rcases h with (h | ⟨o, h⟩) | h
  · exact .inl (.inl (k.keep a _ h (np h fun x z => by cases z)))
  · exact .inl (.inr ⟨o, k.keep a _ h (np h fun x z => by cases z)⟩)
  · exact .inr h
mutual
theorem rep_mono (k : Step μ H μ' H') (hl : Lsts μ H) : ∀ (u : U) (v : V), Rep M μ H u v → Rep M μ' H' u v
  | .non, v, h => by simpa [Rep] using h
  | .bl b, v, h => by simpa [Rep] using h
  | .int b, v, h => by simpa [Rep] using h
  | .str b, v, h => by simpa [Rep] using h
  | .ty b, v, h => by simpa [Rep] using h
  | .fn b, v, h => by simpa [Rep] using h
  | .cls b, v, h => by simpa [Rep] using h
  | .tup l, v, h => by
    rw [Rep] at h ⊢
    obtain ⟨a, vs, e, q, r⟩ := h
    exact ⟨a, vs, e, sqT_mono k hl q, repL_mono k hl l vs r⟩
  | .lst n, v, h => by
    rw [Rep] at h ⊢
    obtain ⟨a, e, q⟩ := h
    exact ⟨a, e, k.get q⟩
  | .scr l, v, h => by
    rw [Rep] at h ⊢
    obtain ⟨a, e, q⟩ := h
    refine ⟨a, e, ?_⟩
    rcases q with ⟨o, q⟩ | q
    · refine .inl ⟨o, k.keep a _ q fun z => ?_⟩
      obtain ⟨vs, q'⟩ := hl a z
      rw [q] at q'; cases q'
    · exact .inr q
theorem repL_mono (k : Step μ H μ' H') (hl : Lsts μ H) : ∀ (us : List U) (vs : List V), RepL M μ H us vs → RepL M μ' H' us vs
  | [], vs, h => by simpa [RepL] using h
  | u :: us, vs, h => by
    rw [RepL] at h ⊢
    obtain ⟨v, r, e, q1, q2⟩ := h
    exact ⟨v, r, e, rep_mono k hl u v q1, repL_mono k hl us r q2⟩
end
theorem RepL.length : ∀ {us : List U} {vs : List V}, RepL M μ H us vs → us.length = vs.length
  | [], vs, h => by rw [RepL] at h; subst h; rfl
  | u :: us, vs, h => by
    rw [RepL] at h
    obtain ⟨v, r, e, q1, q2⟩ := h
    rw [e, List.length_cons, List.length_cons, RepL.length q2]
theorem RepL.cons {u : U} {v : V} {us : List U} {vs : List V} (h : Rep M μ H u v) (r : RepL M μ H us vs) : RepL M μ H (u :: us) (v :: vs) := by
  rw [RepL]; exact ⟨v, vs, rfl, h, r⟩
theorem RepL.nil : RepL M μ H [] [] := by rw [RepL]
theorem RepL.append : ∀ {us ws : List U} {vs xs : List V}, RepL M μ H us vs → RepL M μ H ws xs → RepL M μ H (us ++ ws) (vs ++ xs)
  | [], ws, vs, xs, h, g => by rw [RepL] at h; subst h; exact g
  | u :: us, ws, vs, xs, h, g => by
    rw [RepL] at h
    obtain ⟨v, r, e, q1, q2⟩ := h
    subst e
    exact RepL.cons q1 (RepL.append q2 g)
theorem RepL.get : ∀ {us : List U} {vs : List V} {i : Nat} {u : U}, RepL M μ H us vs → us[i]? = some u → ∃ v, vs[i]? = some v ∧ Rep M μ H u v
  | [], _, _, _, _, e => by simp at e
  | u :: us, vs, 0, w, h, e => by
    rw [RepL] at h
    obtain ⟨v, r, e1, q1, q2⟩ := h
    subst e1
    simp at e; subst e
    exact ⟨v, rfl, q1⟩
  | u :: us, vs, i + 1, w, h, e => by
    rw [RepL] at h
    obtain ⟨v, r, e1, q1, q2⟩ := h
    subst e1
    obtain ⟨x, a, b⟩ := RepL.get (i := i) q2 (by simpa using e)
    exact ⟨x, by simpa using a, b⟩
theorem RepL.set {u : U} {v : V} (g : Rep M μ H u v) : ∀ {us : List U} {vs : List V} (i : Nat), RepL M μ H us vs → RepL M μ H (us.set i u) (vs.set i v)
  | [], vs, i, h => by rw [RepL] at h; subst h; exact RepL.nil
  | w :: us, vs, 0, h => by
    rw [RepL] at h
    obtain ⟨x, r, e1, q1, q2⟩ := h
    subst e1
    exact RepL.cons g q2
  | w :: us, vs, i + 1, h => by
    rw [RepL] at h
    obtain ⟨x, r, e1, q1, q2⟩ := h
    subst e1
    exact RepL.cons q1 (RepL.set g i q2)
theorem RepL.take : ∀ {us : List U} {vs : List V} (n : Nat), RepL M μ H us vs → RepL M μ H (us.take n) (vs.take n)
  | _, _, 0, _ => by rw [List.take_zero, List.take_zero]; exact RepL.nil
  | [], vs, n + 1, h => by rw [RepL] at h; subst h; exact RepL.nil
  | w :: us, vs, n + 1, h => by
    rw [RepL] at h
    obtain ⟨x, r, e1, q1, q2⟩ := h
    subst e1
    exact RepL.cons q1 (RepL.take n q2)
theorem RepL.drop : ∀ {us : List U} {vs : List V} (n : Nat), RepL M μ H us vs → RepL M μ H (us.drop n) (vs.drop n)
  | _, _, 0, h => by rw [List.drop_zero, List.drop_zero]; exact h
  | [], vs, n + 1, h => by rw [RepL] at h; subst h; exact RepL.nil
  | w :: us, vs, n + 1, h => by
    rw [RepL] at h
    obtain ⟨x, r, e1, q1, q2⟩ := h
    subst e1
    exact RepL.drop n q2
theorem RepL.dropLast : ∀ {us : List U} {vs : List V}, RepL M μ H us vs → RepL M μ H us.dropLast vs.dropLast := fun {us vs} h => by
  rw [List.dropLast_eq_take, List.dropLast_eq_take, h.length]; exact h.take _
theorem RepL.reverse : ∀ {us : List U} {vs : List V}, RepL M μ H us vs → RepL M μ H us.reverse vs.reverse
  | [], vs, h => by rw [RepL] at h; subst h; exact RepL.nil
  | w :: us, vs, h => by
    rw [RepL] at h
    obtain ⟨x, r, e1, q1, q2⟩ := h
    subst e1
    rw [List.reverse_cons, List.reverse_cons]
    exact RepL.append (RepL.reverse q2) (RepL.cons q1 RepL.nil)
theorem RepL.ints : ∀ {us : List U} {vs : List V} {ns : List Int}, RepL M μ H us vs → intsU us = some ns → vs = ns.map V.int
  | [], vs, ns, h, e => by rw [RepL] at h; subst h; cases e; rfl
  | u :: us, vs, ns, h, e => by
    rw [RepL] at h
    obtain ⟨v, r, e1, q1, q2⟩ := h
    subst e1
    cases u with
    | int i =>
      rw [intsU] at e
      obtain ⟨ms, em, e2⟩ := Option.map_eq_some_iff.mp e
      subst e2
      rw [Rep] at q1
      subst q1
      rw [RepL.ints q2 em]; rfl
    | _ => rw [intsU] at e <;> first | cases e | (intro i z; cases z)
theorem RepL.bls : ∀ {us : List U} {vs : List V} {ns : List Bool}, RepL M μ H us vs → blsU us = some ns → vs = ns.map V.bl
  | [], vs, ns, h, e => by rw [RepL] at h; subst h; cases e; rfl
  | u :: us, vs, ns, h, e => by
    rw [RepL] at h
    obtain ⟨v, r, e1, q1, q2⟩ := h
    subst e1
    cases u with
    | bl i =>
      rw [blsU] at e
      obtain ⟨ms, em, e2⟩ := Option.map_eq_some_iff.mp e
      subst e2
      rw [Rep] at q1
      subst q1
      rw [RepL.bls q2 em]; rfl
    | _ => rw [blsU] at e <;> first | cases e | (intro i z; cases z)
theorem RepL.of_ints : ∀ (ns : List Int), RepL M μ H (ns.map U.int) (ns.map V.int)
  | [] => RepL.nil
  | n :: ns => RepL.cons (by rw [Rep]) (RepL.of_ints ns)
end

/-! ### steps of the store -/
section
variable {μ : List Addr} {H : Hp} {St : Sto}
/-- a new tuple (or any thing that is no list of the store) -/
theorem Step.laid {p : Addr} {o : HO} (hp : H p = none) : Step μ H μ (upd H p o) where
  pre := ⟨[], by simp⟩
  new := fun _ h => .inl h
  keep := fun a q e _ => by rw [upd_ne (ne_of_none e hp)]; exact e
  tr := fun a e => by
    by_cases h : a = p
    · rw [h]; exact hp
    · rw [upd_ne h] at e; exact e
theorem StoreOk.mono {μ' : List Addr} {H' : Hp} (s : StoreOk M μ H St) (k : Step μ H μ' H') (e : μ' = μ) (hs : ∀ a ∈ μ, H' a = H a) : StoreOk M μ' H' St := by
  subst e
  refine ⟨s.len, s.nd, fun n c h => ?_⟩
  obtain ⟨a, ha, q⟩ := s.cell n c h
  refine ⟨a, ha, ?_⟩
  cases c with
  | lst l =>
    obtain ⟨vs, h1, h2⟩ := q
    exact ⟨vs, by rw [hs a (List.mem_of_getElem? ha)]; exact h1, repL_mono k s.lsts _ _ h2⟩
theorem StoreOk.laid {p : Addr} {o : HO} (s : StoreOk M μ H St) (hp : H p = none) : StoreOk M μ (upd H p o) St :=
  s.mono (Step.laid hp) rfl fun a ha => by
    obtain ⟨vs, e⟩ := s.mem ha
    exact upd_ne (ne_of_none e hp)
/-- a new list -/
theorem Step.put {p : Addr} {o : HO} (hp : H p = none) : Step μ H (μ ++ [p]) (upd H p o) where
  pre := ⟨[p], rfl⟩
  new := fun a h => by
    rcases List.mem_append.mp h with h | h
    · exact .inl h
    · have : a = p := by simpa using h
      rw [this]; exact .inr hp
  keep := fun a q e _ => by rw [upd_ne (ne_of_none e hp)]; exact e
  tr := fun a e => by
    by_cases h : a = p
    · rw [h]; exact hp
    · rw [upd_ne h] at e; exact e
theorem StoreOk.put {p : Addr} {l : List U} {vs : List V} (s : StoreOk M μ H St) (hp : H p = none) (r : RepL M μ H l vs) : StoreOk M (μ ++ [p]) (upd H p (.lst vs)) (St ++ [.lst l]) := by
  have hn : p ∉ μ := fun h => by obtain ⟨x, e⟩ := s.mem h; rw [hp] at e; cases e
  have k : Step μ H (μ ++ [p]) (upd H p (.lst vs)) := Step.put hp
  refine ⟨by simp [s.len], ?_, fun n c h => ?_⟩
  · rw [List.nodup_append]
    exact ⟨s.nd, by simp, fun a ha b hb => by have : b = p := by simpa using hb
                                              subst this; intro z; subst z; exact hn ha⟩
  · by_cases hlt : n < St.length
    · rw [List.getElem?_append_left hlt] at h
      obtain ⟨a, ha, q⟩ := s.cell n c h
      refine ⟨a, k.get ha, ?_⟩
      cases c with
      | lst l' =>
        obtain ⟨ws, h1, h2⟩ := q
        exact ⟨ws, by rw [upd_ne (ne_of_none h1 hp)]; exact h1, repL_mono k s.lsts _ _ h2⟩
    · have hn2 : n < (St ++ [Cell.lst l]).length := (List.getElem?_eq_some_iff.mp h).1
      simp at hn2
      have e : n = St.length := by omega
      subst e
      simp at h
      subst h
      refine ⟨p, by rw [← s.len]; simp, vs, upd_same, repL_mono k s.lsts _ _ r⟩
/-- a list written -/
theorem Step.wr {a : Addr} {o : HO} (ha : a ∈ μ) : Step μ H μ (upd H a o) where
  pre := ⟨[], by simp⟩
  new := fun _ h => .inl h
  keep := fun b q e n => by
    rw [upd_ne (show b ≠ a from fun z => n (by rw [z]; exact ha))]; exact e
  tr := fun b e => by
    by_cases h : b = a
    · rw [h, upd_same] at e; cases e
    · rw [upd_ne h] at e; exact e
theorem StoreOk.wr {a : Addr} {n : Nat} {l : List U} {vs : List V} (s : StoreOk M μ H St) (ha : μ[n]? = some a) (r : RepL M μ H l vs) : StoreOk M μ (upd H a (.lst vs)) (St.set n (.lst l)) := by
  have k : Step μ H μ (upd H a (.lst vs)) := Step.wr (List.mem_of_getElem? ha)
  refine ⟨by simp [s.len], s.nd, fun m c h => ?_⟩
  by_cases e : n = m
  · subst e
    have hlt : n < St.length := by
      have := (List.getElem?_eq_some_iff.mp h).1
      simpa using this
    rw [List.getElem?_set_self hlt] at h
    cases h
    exact ⟨a, ha, vs, upd_same, repL_mono k s.lsts _ _ r⟩
  · rw [List.getElem?_set_ne e] at h
    obtain ⟨b, hb, q⟩ := s.cell m c h
    refine ⟨b, hb, ?_⟩
    have nb : b ≠ a := fun z => by
      subst z
      obtain ⟨h1, e1⟩ := List.getElem?_eq_some_iff.mp ha
      obtain ⟨h2, e2⟩ := List.getElem?_eq_some_iff.mp hb
      exact e ((List.getElem_inj s.nd).mp (e1.trans e2.symm))
    cases c with
    | lst l' =>
      obtain ⟨ws, h1, h2⟩ := q
      exact ⟨ws, by rw [upd_ne nb]; exact h1, repL_mono k s.lsts _ _ h2⟩
end
end Q

set_option Elab.async false
set_option linter.all false
set_option maxRecDepth 100000
set_option maxHeartbeats 4000000
/-! QOps: the operations on represented values. -/
namespace Q
open PySem PySem.Spec PyProof.Rows L2

/-- what is wanted of a value, told of the heap -/
def Aft (M : Md) (μ : List Addr) (H : Hp) (Q : VK) : Ks := fun w S2 => ∀ μ2 H2 z, Step μ H μ2 H2 → StoreOk M μ2 H2 S2 → Rep M μ2 H2 w z → Q z H2
def AftB (M : Md) (μ : List Addr) (H : Hp) (St : Sto) (Q : VK) : Bool → Prop := fun b => Q (.bl b) H

theorem Aft.same {M : Md} {μ : List Addr} {H : Hp} {Q : VK} {w : U} {St : Sto} (h : Aft M μ H Q w St) (s : StoreOk M μ H St) {z : V} (r : Rep M μ H w z) : Q z H := h μ H z (Step.refl _ _) s r
theorem Aft.new {M : Md} {μ : List Addr} {H : Hp} {Q : VK} {St : Sto} {l : List U} (h : Aft M μ H Q (.lst St.length) (St ++ [.lst l])) (s : StoreOk M μ H St) {vs : List V} (r : RepL M μ H l vs) (p : Addr) (hp : H p = none) : Q (.ref p) (upd H p (.lst vs)) := by
  refine h (μ ++ [p]) _ (.ref p) (Step.put hp) (s.put hp r) ?_
  rw [Rep]
  exact ⟨p, rfl, by rw [← s.len]; simp⟩
theorem Aft.tup {M : Md} {μ : List Addr} {H : Hp} {Q : VK} {St : Sto} {l : List U} (h : Aft M μ H Q (.tup l) St) (s : StoreOk M μ H St) {vs : List V} (r : RepL M μ H l vs) (p : Addr) (hp : H p = none) : Q (.ref p) (upd H p (.tup vs)) := by
  refine h μ _ (.ref p) (Step.laid hp) (s.laid hp) ?_
  rw [Rep]
  exact ⟨p, vs, rfl, .inl (.inl upd_same), repL_mono (Step.laid hp) s.lsts _ _ r⟩

def bopOp : BO → Operator
  | .add => .Add | .sub => .Sub | .mul => .Mult | .div => .FloorDiv | .mod => .Mod | .pow => .Pow
def rB (M : Md) (o : BO) : R2 := fun x y H Q => ∃ μ St u v, StoreOk M μ H St ∧ Rep M μ H u x ∧ Rep M μ H v y ∧ bop o u v St (Aft M μ H Q)

section
variable {X : Cx} {M : Md}
theorem op_fdivNW : OpR X (binaryOp .FloorDiv) (rI (fun _ j => j ≠ 0 ∧ j.natAbs.log2 < 9000) fun i j => .int (i.fdiv j)) := opI fun i j _ _ _ _ _ hc q =>
  floordiv_int hc.1 q (.inl (PyProof.noPylong_of_log2 hc.2))
theorem iop_fdivNW : OpR X (inplaceOp .FloorDiv) (rI (fun _ j => j ≠ 0 ∧ j.natAbs.log2 < 9000) fun i j => .int (i.fdiv j)) := opI fun i j _ _ _ _ _ hc q =>
  ifloordiv_int hc.1 q (.inl (PyProof.noPylong_of_log2 hc.2))
theorem repI {M : Md} {μ : List Addr} {H : Hp} (i : Int) : Rep M μ H (.int i) (.int i) := by rw [Rep]
theorem repB {M : Md} {μ : List Addr} {H : Hp} (i : Bool) : Rep M μ H (.bl i) (.bl i) := by rw [Rep]
theorem repS {M : Md} {μ : List Addr} {H : Hp} (i : Str) : Rep M μ H (.str i) (.str i) := by rw [Rep]
theorem repN {M : Md} {μ : List Addr} {H : Hp} : Rep M μ H .non .non := by rw [Rep]
theorem op_bop (hK : X.K = M.K) (o : BO) : OpR X (binaryOp (bopOp o)) (rB M o) := by
  intro pins s σ H x y v u Q I rx ry h
  obtain ⟨μ, St, a, b, sk, ra, rb, h⟩ := h
  unfold bop at h
  split at h
  · rename_i i j
    rw [Rep] at ra rb
    subst ra rb
    cases o with
    | add => exact op_add pins s σ H _ _ v u Q I rx ry ⟨i, j, rfl, rfl, Aft.same h sk (repI _)⟩
    | sub => exact op_sub pins s σ H _ _ v u Q I rx ry ⟨i, j, rfl, rfl, Aft.same h sk (repI _)⟩
    | mul => exact op_mulW pins s σ H _ _ v u Q I rx ry ⟨i, j, rfl, rfl, h.1, Aft.same h.2 sk (repI _)⟩
    | div => exact op_fdivNW pins s σ H _ _ v u Q I rx ry ⟨i, j, rfl, rfl, h.1, Aft.same h.2 sk (repI _)⟩
    | mod => exact op_modN pins s σ H _ _ v u Q I rx ry ⟨i, j, rfl, rfl, h.1, Aft.same h.2 sk (repI _)⟩
    | pow => exact op_pow pins s σ H _ _ v u Q I rx ry ⟨i, j, rfl, rfl, h.1, Aft.same h.2 sk (repI _)⟩
  · rename_i i j
    rw [Rep] at ra rb
    subst ra rb
    cases o with
    | add => exact op_add_str pins s σ H _ _ v u Q I rx ry ⟨i, j, rfl, rfl, h.1, Aft.same h.2 sk (repS _)⟩
    | _ => exact h.elim
  · rename_i i j
    rw [Rep] at ra rb
    obtain ⟨p, xs, rfl, hp, r1⟩ := ra
    obtain ⟨q, ys, rfl, hq, r2⟩ := rb
    rw [← hK] at hp hq
    cases o with
    | add =>
      have l1 := r1.length
      have l2 := r2.length
      refine op_catA pins s σ H _ _ v u Q I rx ry ⟨p, q, xs, ys, rfl, rfl, hp, hq, by rw [← l1, ← l2]; exact h.1, fun e => ?_, fun _ e => ?_, fun _ _ w hw => h.2.tup sk (r1.append r2) w hw⟩
      · subst e
        have e1 : i = [] := List.length_eq_zero_iff.mp l1
        subst e1
        exact Aft.same h.2 sk (by rw [Rep]; exact ⟨q, ys, rfl, by rw [← hK]; exact hq, r2⟩)
      · subst e
        have e1 : j = [] := List.length_eq_zero_iff.mp l2
        subst e1
        exact Aft.same h.2 sk (by rw [Rep, List.append_nil]; exact ⟨p, xs, rfl, by rw [← hK]; exact hp, r1⟩)
    | _ => exact h.elim
  · rename_i m n
    split at h
    · rename_i e1 e2
      rw [Rep] at ra rb
      obtain ⟨p, rfl, hp⟩ := ra
      obtain ⟨q, rfl, hq⟩ := rb
      obtain ⟨vs, h1, r1⟩ := sk.of hp e1
      obtain ⟨ws, h2, r2⟩ := sk.of hq e2
      exact op_cat pins s σ H _ _ v u Q I rx ry ⟨p, q, vs, ws, rfl, rfl, h1, h2, by rw [← r1.length, ← r2.length]; exact h.1, fun w hw => h.2.new sk (r1.append r2) w hw⟩
    · exact h.elim
  · rename_i m k
    split at h
    · rename_i e1
      rw [Rep] at ra
      rw [Rep] at rb
      obtain ⟨p, rfl, hp⟩ := ra
      subst rb
      obtain ⟨vs, h1, r1⟩ := sk.of hp e1
      obtain ⟨⟨h2, h3, h4⟩, h5⟩ := h
      have rr : ∀ n : Nat, RepL M μ H (List.replicate n _).flatten (List.replicate n vs).flatten := fun n => by
        induction n with
        | zero => exact RepL.nil
        | succ n ih =>
          rw [List.replicate_succ, List.replicate_succ, List.flatten_cons, List.flatten_cons]
          exact r1.append ih
      exact op_rep pins s σ H _ _ v u Q I rx ry ⟨p, k, vs, rfl, rfl, h1, h2, h3, by rw [← r1.length]; exact h4, fun w hw => h5.new sk (rr _) w hw⟩
    · exact h.elim
  · exact h.elim

/-! ### comparisons -/
mutual
def datP : U → PyData
  | .non => .none
  | .bl b => .bool b
  | .int i => .int i
  | .str s => .str s
  | .tup l => .tuple (datPs l)
  | _ => .none
def datPs : List U → List PyData
  | [] => []
  | x :: xs => datP x :: datPs xs
end
mutual
theorem dat_plain : ∀ (n : Nat) (u : U), dat n u = true → (datP u).plain = true ∧ (datP u).depth ≤ n
  | n, .non, h => by rw [datP]; exact ⟨rfl, Nat.zero_le _⟩
  | n, .bl _, h => by rw [datP]; exact ⟨rfl, Nat.zero_le _⟩
  | n, .int _, h => by rw [datP]; exact ⟨rfl, Nat.zero_le _⟩
  | n, .str _, h => by rw [datP]; exact ⟨rfl, Nat.zero_le _⟩
  | 0, .tup l, h => by rw [dat] at h; cases h
  | n + 1, .tup l, h => by
    rw [dat] at h
    obtain ⟨h1, h2⟩ := dats_plain n l h
    rw [datP]
    exact ⟨by rw [PyData.plain]; exact h1, by rw [PyData.depth]; omega⟩
  | n, .lst _, h => by cases n <;> (rw [dat] at h <;> first | cases h | (intros; simp))
  | n, .fn _, h => by cases n <;> (rw [dat] at h <;> first | cases h | (intros; simp))
  | n, .cls _, h => by cases n <;> (rw [dat] at h <;> first | cases h | (intros; simp))
  | n, .ty _, h => by cases n <;> (rw [dat] at h <;> first | cases h | (intros; simp))
  | n, .scr _, h => by cases n <;> (rw [dat] at h <;> first | cases h | (intros; simp))
theorem dats_plain : ∀ (n : Nat) (l : List U), dats n l = true → PyData.plainAll (datPs l) = true ∧ PyData.depthAll (datPs l) ≤ n
  | n, [], h => by rw [datPs]; exact ⟨rfl, Nat.zero_le _⟩
  | n, x :: xs, h => by
    rw [dats, Bool.and_eq_true] at h
    obtain ⟨h1, h2⟩ := dat_plain n x h.1
    obtain ⟨h3, h4⟩ := dats_plain n xs h.2
    rw [datPs]
    exact ⟨by rw [PyData.plainAll, h1, h3]; rfl, by rw [PyData.depthAll]; omega⟩
end
mutual
theorem rep_dat {M : Md} {μ : List Addr} {H : Hp} : ∀ (n : Nat) (u : U) (v : V), dat n u = true → Rep M μ H u v → Dp M.K H v (datP u)
  | n, .non, v, h, r => by rw [Rep] at r; rw [datP]; subst r; exact .non
  | n, .bl b, v, h, r => by rw [Rep] at r; rw [datP]; subst r; exact .bl b
  | n, .int b, v, h, r => by rw [Rep] at r; rw [datP]; subst r; exact .int b
  | n, .str b, v, h, r => by rw [Rep] at r; rw [datP]; subst r; exact .str b
  | 0, .tup l, v, h, r => by rw [dat] at h; cases h
  | n + 1, .tup l, v, h, r => by
    rw [dat] at h
    rw [Rep] at r
    rw [datP]
    obtain ⟨a, vs, e, q, r⟩ := r
    subst e
    exact .tup q (rep_dats n l vs h r)
  | n, .lst _, v, h, r => by cases n <;> (rw [dat] at h <;> first | cases h | (intros; simp))
  | n, .fn _, v, h, r => by cases n <;> (rw [dat] at h <;> first | cases h | (intros; simp))
  | n, .cls _, v, h, r => by cases n <;> (rw [dat] at h <;> first | cases h | (intros; simp))
  | n, .ty _, v, h, r => by cases n <;> (rw [dat] at h <;> first | cases h | (intros; simp))
  | n, .scr _, v, h, r => by cases n <;> (rw [dat] at h <;> first | cases h | (intros; simp))
theorem rep_dats {M : Md} {μ : List Addr} {H : Hp} : ∀ (n : Nat) (u : List U) (v : List V), dats n u = true → RepL M μ H u v → DpAll M.K H v (datPs u)
  | n, [], v, h, r => by rw [RepL] at r; subst r; rw [datPs]; exact .nil
  | n, x :: xs, v, h, r => by
    rw [RepL] at r
    obtain ⟨y, ys, e, r1, r2⟩ := r
    subst e
    rw [dats, Bool.and_eq_true] at h
    rw [datPs]
    exact .cons (rep_dat n x y h.1 r1) (rep_dats n xs ys h.2 r2)
end
mutual
theorem eqv_dat : ∀ (n m : Nat) (x y : U), dat n x = true → dat m y = true → PyData.eqv (datP x) (datP y) = eqv x y
  | n + 1, m + 1, .tup a, .tup b, h, g => by
    rw [dat] at h g
    rw [datP, datP, PyData.eqv, eqv]
    exact eqvs_dat n m a b h g
  | 0, m, .tup a, y, h, g => by rw [dat] at h; cases h
  | n, 0, x, .tup b, h, g => by cases n <;> (rw [dat] at g; cases g)
  | n, m, .lst _, y, h, g => by cases n <;> (rw [dat] at h <;> first | cases h | (intros; simp))
  | n, m, .fn _, y, h, g => by cases n <;> (rw [dat] at h <;> first | cases h | (intros; simp))
  | n, m, .cls _, y, h, g => by cases n <;> (rw [dat] at h <;> first | cases h | (intros; simp))
  | n, m, .ty _, y, h, g => by cases n <;> (rw [dat] at h <;> first | cases h | (intros; simp))
  | n, m, .scr _, y, h, g => by cases n <;> (rw [dat] at h <;> first | cases h | (intros; simp))
  | n, m, x, .lst _, h, g => by cases m <;> (rw [dat] at g <;> first | cases g | (intros; simp))
  | n, m, x, .fn _, h, g => by cases m <;> (rw [dat] at g <;> first | cases g | (intros; simp))
  | n, m, x, .cls _, h, g => by cases m <;> (rw [dat] at g <;> first | cases g | (intros; simp))
  | n, m, x, .ty _, h, g => by cases m <;> (rw [dat] at g <;> first | cases g | (intros; simp))
  | n, m, x, .scr _, h, g => by cases m <;> (rw [dat] at g <;> first | cases g | (intros; simp))
  | n, m, .non, .non, h, g => by simp [datP, eqv, PyData.eqv]
  | n, m, .non, .bl _, h, g => by simp [datP, eqv, PyData.eqv]
  | n, m, .non, .int _, h, g => by simp [datP, eqv, PyData.eqv]
  | n, m, .non, .str _, h, g => by simp [datP, eqv, PyData.eqv]
  | n, m, .non, .tup _, h, g => by simp [datP, eqv, PyData.eqv]
  | n, m, .bl _, .non, h, g => by simp [datP, eqv, PyData.eqv]
  | n, m, .bl _, .bl _, h, g => by simp [datP, eqv, PyData.eqv]
  | n, m, .bl _, .int _, h, g => by simp [datP, eqv, PyData.eqv]
  | n, m, .bl _, .str _, h, g => by simp [datP, eqv, PyData.eqv]
  | n, m, .bl _, .tup _, h, g => by simp [datP, eqv, PyData.eqv]
  | n, m, .int _, .non, h, g => by simp [datP, eqv, PyData.eqv]
  | n, m, .int _, .bl _, h, g => by simp [datP, eqv, PyData.eqv]
  | n, m, .int _, .int _, h, g => by simp [datP, eqv, PyData.eqv]
  | n, m, .int _, .str _, h, g => by simp [datP, eqv, PyData.eqv]
  | n, m, .int _, .tup _, h, g => by simp [datP, eqv, PyData.eqv]
  | n, m, .str _, .non, h, g => by simp [datP, eqv, PyData.eqv]
  | n, m, .str _, .bl _, h, g => by simp [datP, eqv, PyData.eqv]
  | n, m, .str _, .int _, h, g => by simp [datP, eqv, PyData.eqv]
  | n, m, .str _, .str _, h, g => by simp [datP, eqv, PyData.eqv]
  | n, m, .str _, .tup _, h, g => by simp [datP, eqv, PyData.eqv]
  | n, m, .tup _, .non, h, g => by simp [datP, eqv, PyData.eqv]
  | n, m, .tup _, .bl _, h, g => by simp [datP, eqv, PyData.eqv]
  | n, m, .tup _, .int _, h, g => by simp [datP, eqv, PyData.eqv]
  | n, m, .tup _, .str _, h, g => by simp [datP, eqv, PyData.eqv]
theorem eqvs_dat : ∀ (n m : Nat) (x y : List U), dats n x = true → dats m y = true → PyData.eqvAll (datPs x) (datPs y) = eqvs x y
  | n, m, [], [], _, _ => by simp [datPs, eqvs, PyData.eqvAll]
  | n, m, [], _ :: _, _, _ => by simp [datPs, eqvs, PyData.eqvAll]
  | n, m, _ :: _, [], _, _ => by simp [datPs, eqvs, PyData.eqvAll]
  | n, m, x :: xs, y :: ys, h, g => by
    rw [dats, Bool.and_eq_true] at h g
    rw [datPs, datPs, PyData.eqvAll, eqvs, eqv_dat n m x y h.1 g.1, eqvs_dat n m xs ys h.2 g.2]
end

def copOp : CO → CmpOp
  | .eq => .Eq | .ne => .NotEq | .lt => .Lt | .le => .LtE | .gt => .Gt | .ge => .GtE | .isin => .In | .notin => .NotIn
def rC (M : Md) (o : CO) : R2 := fun x y H Q => ∃ μ St u v, StoreOk M μ H St ∧ Rep M μ H u x ∧ Rep M μ H v y ∧ cop o u v St fun b => Q (.bl b) H

theorem op_eqp {pins : List (Addr × Obj)} {s : Shared} {σ : L2.St} {H : Hp} {x y : V} {v u : Value} {Q : VK} {μ : List Addr} {St : Sto} {a b : U} {g : Bool → Bool} {op : CmpOp} (hK : X.K = M.K) (hu : X.A.units + 64 < cLine) (I : Inv X pins σ H s) (rx : RelV x v) (ry : RelV y u)
    (hop : (op = .Eq ∧ g = id) ∨ (op = .NotEq ∧ g = not)) (sk : StoreOk M μ H St) (ra : Rep M μ H a x) (rb : Rep M μ H b y) (h : eqp a b St fun c => Q (.bl (g c)) H) :
    wpAny (model X.prog X.w) X.A (compareOp op v u) (EP X pins σ Q) X.xe s := by
  have main : ∀ (d e : PyData), Dp X.K H x d → Dp X.K H y e → d.plain = true → e.plain = true → d.depth ≤ 64 → Q (.bl (g (PyData.eqv d e))) H → wpAny (model X.prog X.w) X.A (compareOp op v u) (EP X pins σ Q) X.xe s := by
    intro d e hd he pd pe dd q
    obtain ⟨as, r1⟩ := Dp.reads I d x v hd rx
    obtain ⟨bs, r2⟩ := Dp.reads I e y u he ry
    have hm : X.A.units + min d.depth e.depth < cLine := by have : min d.depth e.depth ≤ d.depth := Nat.min_le_left _ _; omega
    rcases hop with ⟨rfl, rfl⟩ | ⟨rfl, rfl⟩
    · exact SeqAt.eq_plain r1 r2 pd pe hm ⟨.bl _, H, I, rfl, q⟩
    · exact SeqAt.ne_plain r1 r2 pd pe hm ⟨.bl _, H, I, rfl, q⟩
  unfold eqp at h
  split at h
  · rename_i m n
    split at h
    · rename_i l1 l2 e1 e2
      rw [Rep] at ra rb
      obtain ⟨p, rfl, hp⟩ := ra
      obtain ⟨q, rfl, hq⟩ := rb
      obtain ⟨vs, h1, r1⟩ := sk.of hp e1
      obtain ⟨ws, h2, r2⟩ := sk.of hq e2
      obtain ⟨⟨d1, d2⟩, h⟩ := h
      obtain ⟨p1, p2⟩ := dats_plain 60 _ d1
      obtain ⟨p3, p4⟩ := dats_plain 60 _ d2
      refine main (.list (datPs l1)) (.list (datPs l2)) (.lst (.inl (.inl h1)) (by rw [hK]; exact rep_dats 60 _ _ d1 r1)) (.lst (.inl (.inl h2)) (by rw [hK]; exact rep_dats 60 _ _ d2 r2)) (by rw [PyData.plain]; exact p1) (by rw [PyData.plain]; exact p3) (by rw [PyData.depth]; omega) ?_
      rw [PyData.eqv, eqvs_dat 60 60 _ _ d1 d2]
      exact h
    · exact h.elim
  · obtain ⟨⟨d1, d2⟩, h⟩ := h
    obtain ⟨p1, p2⟩ := dat_plain 60 _ d1
    obtain ⟨p3, p4⟩ := dat_plain 60 _ d2
    refine main _ _ (by rw [hK]; exact rep_dat 60 _ _ d1 ra) (by rw [hK]; exact rep_dat 60 _ _ d2 rb) p1 p3 (by omega) ?_
    rw [eqv_dat 60 60 _ _ d1 d2]
    exact h
theorem flat_rep {μ : List Addr} {H : Hp} {u : U} {v : V} (h : flat u = true) (r : Rep M μ H u v) : flatV v = true := by
  cases u <;> first | (simp [flat] at h; done) | (rw [Rep] at r; subst r; rfl)
theorem eqv_flat {μ : List Addr} {H : Hp} {a b : U} {x y : V} (ha : flat a = true) (hb : flat b = true) (ra : Rep M μ H a x) (rb : Rep M μ H b y) : eqV x y = eqv a b := by
  cases a <;> first | (simp [flat] at ha; done) | (rw [Rep] at ra; subst ra; cases b <;> first | (simp [flat] at hb; done) | (rw [Rep] at rb; subst rb; simp [eqV, eqv]))
theorem all_flat {μ : List Addr} {H : Hp} : ∀ {l : List U} {vs : List V}, l.all flat = true → RepL M μ H l vs → vs.all flatV = true
  | [], vs, h, r => by rw [RepL] at r; subst r; rfl
  | u :: us, vs, h, r => by
    rw [RepL] at r
    obtain ⟨v, w, e, r1, r2⟩ := r
    subst e
    rw [List.all_cons, Bool.and_eq_true] at h
    rw [List.all_cons, flat_rep h.1 r1, all_flat h.2 r2]; rfl
theorem any_eqv {μ : List Addr} {H : Hp} {a : U} {x : V} (ha : flat a = true) (ra : Rep M μ H a x) : ∀ {l : List U} {vs : List V}, l.all flat = true → RepL M μ H l vs → inV x vs = l.any fun z => eqv z a
  | [], vs, h, r => by rw [RepL] at r; subst r; rfl
  | u :: us, vs, h, r => by
    rw [RepL] at r
    obtain ⟨v, w, e, r1, r2⟩ := r
    subst e
    rw [List.all_cons, Bool.and_eq_true] at h
    have ih := any_eqv ha ra h.2 r2
    unfold inV at ih ⊢
    rw [List.any_cons, List.any_cons, ih, eqv_flat h.1 ha r1 ra]
theorem op_inp {pins : List (Addr × Obj)} {s : Shared} {σ : L2.St} {H : Hp} {x y : V} {v u : Value} {Q : VK} {μ : List Addr} {St : Sto} {a b : U} {neg : Bool} (hK : X.K = M.K) (I : Inv X pins σ H s) (rx : RelV x v) (ry : RelV y u)
    (sk : StoreOk M μ H St) (ra : Rep M μ H a x) (rb : Rep M μ H b y) (h : inp a b St fun c => Q (.bl (if neg then !c else c)) H) :
    wpAny (model X.prog X.w) X.A (compareOp (if neg then .NotIn else .In) v u) (EP X pins σ Q) X.xe s := by
  have main : ∀ (p : Addr) (l : List U) (vs : List V), y = .ref p → (SqL X.K H p vs ∨ SqT X.K H p vs) → RepL M μ H l vs → flat a = true → l.all flat = true → Q (.bl (if neg then !(l.any fun z => eqv z a) else l.any fun z => eqv z a)) H →
      wpAny (model X.prog X.w) X.A (compareOp (if neg then .NotIn else .In) v u) (EP X pins σ Q) X.xe s := by
    intro p l vs ey hs rl fa fl q
    have e := any_eqv fa ra fl rl
    cases neg with
    | false => exact op_in_seq pins s σ H x y v u Q I rx ry ⟨p, vs, ey, hs, flat_rep fa ra, all_flat fl rl, by rw [e]; exact q⟩
    | true => exact op_notIn_seq pins s σ H x y v u Q I rx ry ⟨p, vs, ey, hs, flat_rep fa ra, all_flat fl rl, by rw [e]; exact q⟩
  unfold inp at h
  split at h
  · rw [Rep] at rb
    obtain ⟨p, vs, e, hp, r⟩ := rb
    exact main p _ vs e (.inr (by rw [hK]; exact hp)) r h.1.1 h.1.2 h.2
  · split at h
    · rename_i e1
      rw [Rep] at rb
      obtain ⟨p, e, hp⟩ := rb
      obtain ⟨vs, h1, r⟩ := sk.of hp e1
      exact main p _ vs e (.inl (.inl (.inl h1))) r h.1.1 h.1.2 h.2
    · exact h.elim
  · split at h
    · split at h
      · rename_i z x1 c x2 d e1
        rw [Rep] at ra rb
        subst ra rb
        have ec : c = ⟨#[d]⟩ := by
          obtain ⟨⟨l⟩⟩ := c
          simp at e1
          rw [e1]
        subst ec
        cases neg with
        | false => exact op_in_sign pins s σ H _ _ v u Q I rx ry ⟨d, z, rfl, rfl, h⟩
        | true => exact op_notIn_sign pins s σ H _ _ v u Q I rx ry ⟨d, z, rfl, rfl, h⟩
      · exact h.elim
    · exact h.elim
  · exact h.elim
theorem op_cop (hK : X.K = M.K) (hu : X.A.units + 64 < cLine) (o : CO) : OpR X (compareOp (copOp o)) (rC M o) := by
  intro pins s σ H x y v u Q I rx ry h
  obtain ⟨μ, St, a, b, sk, ra, rb, h⟩ := h
  cases o with
  | eq => exact op_eqp (g := id) hK hu I rx ry (.inl ⟨rfl, rfl⟩) sk ra rb h
  | ne => exact op_eqp (g := not) hK hu I rx ry (.inr ⟨rfl, rfl⟩) sk ra rb h
  | isin => exact op_inp (neg := false) hK I rx ry sk ra rb h
  | notin => exact op_inp (neg := true) hK I rx ry sk ra rb h
  | lt =>
    simp only [cop] at h
    split at h
    · rename_i i j
      rw [Rep] at ra rb
      subst ra rb
      exact op_lt pins s σ H _ _ v u Q I rx ry ⟨i, j, rfl, rfl, h⟩
    · exact h.elim
  | le =>
    simp only [cop] at h
    split at h
    · rename_i i j
      rw [Rep] at ra rb
      subst ra rb
      exact op_le pins s σ H _ _ v u Q I rx ry ⟨i, j, rfl, rfl, h⟩
    · exact h.elim
  | gt =>
    simp only [cop] at h
    split at h
    · rename_i i j
      rw [Rep] at ra rb
      subst ra rb
      exact op_gt pins s σ H _ _ v u Q I rx ry ⟨i, j, rfl, rfl, h⟩
    · exact h.elim
  | ge =>
    simp only [cop] at h
    split at h
    · rename_i i j
      rw [Rep] at ra rb
      subst ra rb
      exact op_ge pins s σ H _ _ v u Q I rx ry ⟨i, j, rfl, rfl, h⟩
    · exact h.elim
/-! ### truth, subscripts, slices, built-in functions -/
theorem tru_rep {μ : List Addr} {H : Hp} {St : Sto} {u : U} {x : V} {Q : Bool → Prop} (sk : StoreOk M μ H St) (r : Rep M μ H u x) (h : tru u St Q) : ∃ k, TruV M.K x H k ∧ Q k := by
  unfold tru at h
  split at h
  · rw [Rep] at r; subst r; exact ⟨_, rfl, h⟩
  · rw [Rep] at r; subst r; exact ⟨_, rfl, h⟩
  · rw [Rep] at r; subst r; exact ⟨_, rfl, h⟩
  · rw [Rep] at r; subst r; exact ⟨_, ⟨h.1, rfl⟩, h.2⟩
  · rename_i l
    rw [Rep] at r
    obtain ⟨a, vs, rfl, hs, rl⟩ := r
    refine ⟨_, .inr (.inl ⟨vs, hs, ?_⟩), h⟩
    have := rl.length
    cases l <;> cases vs <;> first | rfl | (simp at this)
  · rw [Rep] at r
    obtain ⟨a, rfl, hm⟩ := r
    split at h
    · rename_i l e1
      obtain ⟨vs, h1, rl⟩ := sk.of hm e1
      refine ⟨_, .inl ⟨vs, .inl (.inl h1), ?_⟩, h⟩
      have := rl.length
      cases l <;> cases vs <;> first | rfl | (simp at this)
    · exact h.elim
  · exact h.elim
theorem atI_rep {μ : List Addr} {H : Hp} {l : List U} {vs : List V} {k : Int} {u : U} (r : RepL M μ H l vs) (h : atI l k = some u) : ∃ v, atI vs k = some v ∧ Rep M μ H u v := by
  unfold atI at h ⊢
  rw [← r.length]
  cases e : ixN l.length k with
  | none => rw [e] at h; cases h
  | some j =>
    rw [e] at h
    exact r.get h
def rIxA (M : Md) : R2 := fun x y H Q => ∃ μ St u v, StoreOk M μ H St ∧ Rep M μ H u x ∧ Rep M μ H v y ∧ idxp u v St (Aft M μ H Q)
theorem ix_all (hK : X.K = M.K) : IxR X (rIxA M) := by
  intro value slice pins s σ H x y v u Q I rx ry h hs
  obtain ⟨μ, St, a, b, sk, ra, rb, h⟩ := h
  refine ix_seq value slice pins s σ H x y v u Q I rx ry ?_ hs
  unfold idxp at h
  split at h
  · rename_i k
    rw [Rep] at rb
    subst rb
    split at h
    · rw [Rep] at ra
      obtain ⟨p, vs, rfl, hp, rl⟩ := ra
      split at h
      · rename_i w hw
        obtain ⟨z, hz, rz⟩ := atI_rep rl hw
        exact .inr (.inl ⟨p, vs, k, z, rfl, rfl, by rw [hK]; exact hp, hz, h.same sk rz⟩)
      · exact h.elim
    · rw [Rep] at ra
      obtain ⟨p, rfl, hm⟩ := ra
      split at h
      · rename_i e1
        obtain ⟨vs, h1, rl⟩ := sk.of hm e1
        split at h
        · rename_i w hw
          obtain ⟨z, hz, rz⟩ := atI_rep rl hw
          exact .inl ⟨p, vs, k, z, rfl, rfl, .inl (.inl h1), hz, h.same sk rz⟩
        · exact h.elim
      · exact h.elim
    · rw [Rep] at ra
      subst ra
      obtain ⟨h1, h2⟩ := h
      split at h2
      · rename_i c hc
        exact .inr (.inr ⟨_, k, c, rfl, rfl, h1, hc, h2.same sk (repS _)⟩)
      · exact h2.elim
    · exact h.elim
  · exact h.elim
theorem cut_rep {μ : List Addr} {H : Hp} {l : List U} {vs : List V} (r : RepL M μ H l vs) (lo hi : Option Int) : RepL M μ H (cutU l lo hi) (cutV vs lo hi) := by
  unfold cutU cutV
  rw [← r.length]
  exact (r.drop _).take _
theorem cut_map {α β : Type} (f : α → β) (l : List α) (lo hi : Option Int) : cutU (l.map f) lo hi = (cutU l lo hi).map f := by
  unfold cutU
  rw [List.length_map, ← List.map_drop, ← List.map_take]
theorem cut_whole {α : Type} {l : List α} {lo hi : Option Int} (h : HT.sIx l.length 0 lo = 0 ∧ HT.sIx l.length l.length hi = l.length) : cutU l lo hi = l := by
  unfold cutU
  rw [h.1, h.2]; simp
end
end Q

set_option Elab.async false
set_option linter.all false
set_option maxRecDepth 100000
set_option maxHeartbeats 4000000
/-! QOps2: slices, built-in functions, methods, what is walked. -/
namespace Q
open PySem PySem.Spec PyProof.Rows L2
section
variable {X : Cx} {M : Md}
def rSlM (M : Md) : V → Option Int → Option Int → Hp → VK → Prop := fun x lo hi H Q => ∃ μ St u, StoreOk M μ H St ∧ Rep M μ H u x ∧ slcp u lo hi St (Aft M μ H Q)
theorem sl_all (hK : X.K = M.K) : SlR X (rSlM M) := by
  intro pins s σ H x v vl vu lo hi sl Q I rx hs pl pu h
  obtain ⟨μ, St, a, sk, ra, h⟩ := h
  unfold slcp at h
  split at h
  · rename_i l
    rw [Rep] at ra
    obtain ⟨p, vs, rfl, hp, rl⟩ := ra
    refine sl_tupA pins s σ H _ v vl vu lo hi sl Q I rx hs pl pu ⟨p, vs, rfl, by rw [hK]; exact hp, fun hw => ?_, fun hw q hq => h.tup sk (cut_rep rl lo hi) q hq⟩
    rw [← rl.length] at hw
    rw [cut_whole hw] at h
    exact h.same sk (by rw [Rep]; exact ⟨p, vs, rfl, hp, rl⟩)
  · split at h
    · rename_i e1
      rw [Rep] at ra
      obtain ⟨p, rfl, hm⟩ := ra
      obtain ⟨vs, h1, rl⟩ := sk.of hm e1
      exact sl_list pins s σ H _ v vl vu lo hi sl Q I rx hs pl pu ⟨p, vs, rfl, .inl (.inl h1), fun q hq => h.new sk (cut_rep rl lo hi) q hq⟩
    · exact h.elim
  · rename_i l
    rw [Rep] at ra
    obtain ⟨p, rfl, hp⟩ := ra
    have hS : SqL X.K H p (l.map V.int) := by
      rcases hp with ⟨o, e⟩ | e
      · exact .inl (.inr ⟨o, e⟩)
      · rw [hK]
        rcases e with (e | ⟨o, e⟩) | e
        · cases e
        · cases e
        · exact .inr e
    refine sl_list pins s σ H _ v vl vu lo hi sl Q I rx hs pl pu ⟨p, _, rfl, hS, fun q hq => h.new sk ?_ q hq⟩
    have e : cutV (l.map V.int) lo hi = (cutU l lo hi).map V.int := by
      show cutU (l.map V.int) lo hi = _
      exact cut_map _ _ _ _
    rw [e]
    exact RepL.of_ints _
  · rename_i z
    rw [Rep] at ra
    subst ra
    exact sl_str pins s σ H _ v vl vu lo hi sl Q I rx hs pl pu ⟨z, rfl, h.1, h.2.same sk (by rw [Rep]; rfl)⟩
  · exact h.elim

/-! ### built-in functions -/
def rBi (M : Md) (f : Bi) : List V → Hp → VK → Prop := fun xs H Q => ∃ μ St us, StoreOk M μ H St ∧ RepL M μ H us xs ∧ bip f us St (Aft M μ H Q)
theorem repL1 {μ : List Addr} {H : Hp} {u : U} {xs : List V} (r : RepL M μ H [u] xs) : ∃ v, xs = [v] ∧ Rep M μ H u v := by
  rw [RepL] at r
  obtain ⟨v, w, e, r1, r2⟩ := r
  rw [RepL] at r2
  subst r2
  exact ⟨v, e, r1⟩
theorem repL2 {μ : List Addr} {H : Hp} {u w : U} {xs : List V} (r : RepL M μ H [u, w] xs) : ∃ v z, xs = [v, z] ∧ Rep M μ H u v ∧ Rep M μ H w z := by
  rw [RepL] at r
  obtain ⟨v, t, e, r1, r2⟩ := r
  obtain ⟨z, e2, r3⟩ := repL1 r2
  subst e2
  exact ⟨v, z, e, r1, r3⟩
theorem items_rep {μ : List Addr} {H : Hp} {St : Sto} {u : U} {v : V} {P : List U → Prop} (hK : X.K = M.K) (sk : StoreOk M μ H St) (r : Rep M μ H u v) (h : itemsp u St P) :
    ∃ p l vs, v = .ref p ∧ (SqL X.K H p vs ∨ SqT X.K H p vs) ∧ RepL M μ H l vs ∧ P l ∧ (SqT X.K H p vs → SqL X.K H p vs ∨ u = .tup l) := by
  unfold itemsp at h
  split at h
  · rename_i l
    rw [Rep] at r
    obtain ⟨p, vs, rfl, hp, rl⟩ := r
    exact ⟨p, l, vs, rfl, .inr (by rw [hK]; exact hp), rl, h, fun _ => .inr rfl⟩
  · split at h
    · rename_i l e1
      rw [Rep] at r
      obtain ⟨p, rfl, hm⟩ := r
      obtain ⟨vs, h1, rl⟩ := sk.of hm e1
      exact ⟨p, l, vs, rfl, .inl (.inl (.inl h1)), rl, h, fun _ => .inl (.inl (.inl h1))⟩
    · exact h.elim
  · exact h.elim
theorem list_rep {μ : List Addr} {H : Hp} {St : Sto} {u : U} {v : V} {P : List U → Prop} (sk : StoreOk M μ H St) (r : Rep M μ H u v) (h : listp u St P) :
    ∃ p l vs, v = .ref p ∧ SqL X.K H p vs ∧ RepL M μ H l vs ∧ P l := by
  unfold listp at h
  split at h
  · split at h
    · rename_i l e1
      rw [Rep] at r
      obtain ⟨p, rfl, hm⟩ := r
      obtain ⟨vs, h1, rl⟩ := sk.of hm e1
      exact ⟨p, l, vs, rfl, .inl (.inl h1), rl, h⟩
    · exact h.elim
  · exact h.elim
theorem call_len_b (hK : X.K = M.K) : CallR X (.builtin "len") (rBi M .len) := by
  intro pins s σ H xs us Q I r h
  obtain ⟨μ, St, ul, sk, ru, h⟩ := h
  unfold bip at h
  split at h <;> first | (rename_i e; cases e; done) | skip
  · obtain ⟨v, e, r1⟩ := repL1 ru
    rw [Rep] at r1
    subst r1 e
    exact call_len_str pins s σ H _ us Q I r ⟨_, rfl, h.1, h.2.same sk (repI _)⟩
  · obtain ⟨v, e, r1⟩ := repL1 ru
    subst e
    obtain ⟨p, l, vs, e, hs, rl, q, _⟩ := items_rep (X := X) hK sk r1 h
    subst e
    exact call_len_seq pins s σ H _ us Q I r ⟨p, vs, rfl, hs, by rw [← rl.length]; exact q.same sk (repI _)⟩
  all_goals first | exact h.elim | (simp_all; done) | skip
theorem call_abs_b : CallR X (.builtin "abs") (rBi M .abs) := by
  intro pins s σ H xs us Q I r h
  obtain ⟨μ, St, ul, sk, ru, h⟩ := h
  unfold bip at h
  split at h <;> first | (rename_i e; cases e; done) | skip
  · obtain ⟨v, e, r1⟩ := repL1 ru
    rw [Rep] at r1
    subst r1 e
    exact call_abs pins s σ H _ us Q I r ⟨_, rfl, h.same sk (repI _)⟩
  all_goals first | exact h.elim | (simp_all; done) | skip
theorem call_max_b (hc : X.calm = true) : CallR X (.builtin "max") (rBi M .max) := by
  intro pins s σ H xs us Q I r h
  obtain ⟨μ, St, ul, sk, ru, h⟩ := h
  unfold bip at h
  split at h <;> first | (rename_i e; cases e; done) | skip
  · obtain ⟨v, w, e, r1, r2⟩ := repL2 ru
    rw [Rep] at r1 r2
    subst r1 r2 e
    exact call_max2 hc pins s σ H _ us Q I r ⟨_, _, rfl, h.same sk (repI _)⟩
  all_goals first | exact h.elim | (simp_all; done) | skip
theorem call_min_b (hc : X.calm = true) : CallR X (.builtin "min") (rBi M .min) := by
  intro pins s σ H xs us Q I r h
  obtain ⟨μ, St, ul, sk, ru, h⟩ := h
  unfold bip at h
  split at h <;> first | (rename_i e; cases e; done) | skip
  · obtain ⟨v, w, e, r1, r2⟩ := repL2 ru
    rw [Rep] at r1 r2
    subst r1 r2 e
    exact call_min2 hc pins s σ H _ us Q I r ⟨_, _, rfl, h.same sk (repI _)⟩
  all_goals first | exact h.elim | (simp_all; done) | skip
theorem call_sum_b (hc : CallR X (.builtin "sum") (rSum X.K)) : CallR X (.builtin "sum") (rBi M .sum) := by
  intro pins s σ H xs us Q I r h
  obtain ⟨μ, St, ul, sk, ru, h⟩ := h
  unfold bip at h
  split at h <;> first | (rename_i e; cases e; done) | skip
  · obtain ⟨v, e, r1⟩ := repL1 ru
    subst e
    obtain ⟨p, l, vs, e, hs, rl, q⟩ := list_rep (X := X) sk r1 h
    subst e
    split at q
    · rename_i ns en
      rw [rl.ints en] at hs
      exact hc pins s σ H _ us Q I r ⟨p, ns, rfl, hs, q.same sk (repI _)⟩
    · exact q.elim
  all_goals first | exact h.elim | (simp_all; done) | skip
theorem call_any_b (hc : CallR X (.builtin "any") (rAny X.K)) : CallR X (.builtin "any") (rBi M .any) := by
  intro pins s σ H xs us Q I r h
  obtain ⟨μ, St, ul, sk, ru, h⟩ := h
  unfold bip at h
  split at h <;> first | (rename_i e; cases e; done) | skip
  · obtain ⟨v, e, r1⟩ := repL1 ru
    subst e
    obtain ⟨p, l, vs, e, hs, rl, q⟩ := list_rep (X := X) sk r1 h
    subst e
    split at q
    · rename_i ns en
      rw [rl.bls en] at hs
      exact hc pins s σ H _ us Q I r ⟨p, ns, rfl, hs, q.same sk (repB _)⟩
    · exact q.elim
  all_goals first | exact h.elim | (simp_all; done) | skip
theorem call_all_b (hc : CallR X (.builtin "all") (rAll X.K)) : CallR X (.builtin "all") (rBi M .all) := by
  intro pins s σ H xs us Q I r h
  obtain ⟨μ, St, ul, sk, ru, h⟩ := h
  unfold bip at h
  split at h <;> first | (rename_i e; cases e; done) | skip
  · obtain ⟨v, e, r1⟩ := repL1 ru
    subst e
    obtain ⟨p, l, vs, e, hs, rl, q⟩ := list_rep (X := X) sk r1 h
    subst e
    split at q
    · rename_i ns en
      rw [rl.bls en] at hs
      exact hc pins s σ H _ us Q I r ⟨p, ns, rfl, hs, q.same sk (repB _)⟩
    · exact q.elim
  all_goals first | exact h.elim | (simp_all; done) | skip
theorem call_int_b : CallR X (.type "int") (rBi M .int) := by
  intro pins s σ H xs us Q I r h
  obtain ⟨μ, St, ul, sk, ru, h⟩ := h
  unfold bip at h
  split at h <;> first | (rename_i e; cases e; done) | skip
  · obtain ⟨v, e, r1⟩ := repL1 ru
    rw [Rep] at r1
    subst r1 e
    exact call_int1 pins s σ H _ us Q I r (.inl ⟨_, rfl, h.same sk (repI _)⟩)
  · obtain ⟨v, e, r1⟩ := repL1 ru
    rw [Rep] at r1
    subst r1 e
    exact call_int1 pins s σ H _ us Q I r (.inr ⟨_, rfl, h.same sk (repI _)⟩)
  all_goals first | exact h.elim | (simp_all; done) | skip
theorem call_str_b : CallR X (.type "str") (rBi M .str) := by
  intro pins s σ H xs us Q I r h
  obtain ⟨μ, St, ul, sk, ru, h⟩ := h
  unfold bip at h
  split at h <;> first | (rename_i e; cases e; done) | skip
  · obtain ⟨v, e, r1⟩ := repL1 ru
    rw [Rep] at r1
    subst r1 e
    exact call_str_int pins s σ H _ us Q I r ⟨_, rfl, h.1, h.2.same sk (repS _)⟩
  all_goals first | exact h.elim | (simp_all; done) | skip
theorem call_tuple_b (hK : X.K = M.K) : CallR X (.type "tuple") (rBi M .tuple) := by
  intro pins s σ H xs us Q I r h
  obtain ⟨μ, St, ul, sk, ru, h⟩ := h
  unfold bip at h
  split at h <;> first | (rename_i e; cases e; done) | skip
  · obtain ⟨v, e, r1⟩ := repL1 ru
    subst e
    obtain ⟨p, l, vs, e, hs, rl, q, z⟩ := items_rep (X := X) hK sk r1 h
    subst e
    rcases hs with hs | hs
    · exact call_tuple_of pins s σ H _ us Q I r ⟨p, vs, rfl, .inl ⟨hs, fun a ha => q.tup sk rl a ha⟩⟩
    · rcases z hs with hs' | e
      · exact call_tuple_of pins s σ H _ us Q I r ⟨p, vs, rfl, .inl ⟨hs', fun a ha => q.tup sk rl a ha⟩⟩
      · subst e
        exact call_tuple_of pins s σ H _ us Q I r ⟨p, vs, rfl, .inr ⟨hs, q.same sk r1⟩⟩
  all_goals first | exact h.elim | (simp_all; done) | skip
theorem call_list_b (hK : X.K = M.K) : CallR X (.type "list") (rBi M .list) := by
  intro pins s σ H xs us Q I r h
  obtain ⟨μ, St, ul, sk, ru, h⟩ := h
  unfold bip at h
  split at h <;> first | (rename_i e; cases e; done) | skip
  · obtain ⟨v, e, r1⟩ := repL1 ru
    subst e
    obtain ⟨p, l, vs, e, hs, rl, q, z⟩ := items_rep (X := X) hK sk r1 h
    subst e
    exact call_list_of pins s σ H _ us Q I r ⟨p, vs, rfl, hs, fun a ha => q.new sk rl a ha⟩
  all_goals first | exact h.elim | (simp_all; done) | skip

/-! ### methods of lists -/
def rMe (M : Md) (m : Me) : V → List V → Hp → VK → Prop := fun x xs H Q => ∃ μ St u us, StoreOk M μ H St ∧ Rep M μ H u x ∧ RepL M μ H us xs ∧ mep m u us St (Aft M μ H Q)
theorem Aft.wr {μ : List Addr} {H : Hp} {Q : VK} {St : Sto} {w : U} {n : Nat} {l : List U} (h : Aft M μ H Q w (St.set n (.lst l))) (s : StoreOk M μ H St) {a : Addr} (ha : μ[n]? = some a) {vs : List V} (r : RepL M μ H l vs) {z : V} (rz : Rep M μ H w z) : Q z (upd H a (.lst vs)) :=
  h μ _ z (Step.wr (List.mem_of_getElem? ha)) (s.wr ha r) (rep_mono (Step.wr (List.mem_of_getElem? ha)) s.lsts _ _ rz)
theorem mt_append_b : MtM X "list.append" (rMe M .append) := by
  intro pins s σ H x xs v us Q I rx rs h
  obtain ⟨μ, St, a, ul, sk, ra, ru, h⟩ := h
  unfold mep at h
  split at h <;> first | (rename_i e; cases e; done) | skip
  · split at h
    · rename_i e1
      rw [Rep] at ra
      obtain ⟨p, e, hm⟩ := ra
      obtain ⟨w, e2, r1⟩ := repL1 ru
      subst e e2
      obtain ⟨vs, h1, rl⟩ := sk.of hm e1
      exact mt_append pins s σ H _ _ v us Q I rx rs ⟨p, vs, w, rfl, rfl, h1, by rw [← rl.length]; exact h.1, h.2.wr sk hm (rl.append (RepL.cons r1 RepL.nil)) repN⟩
    · exact h.elim
  all_goals first | exact h.elim | (simp_all; done) | skip
theorem mt_extend_b : MtM X "list.extend" (rMe M .extend) := by
  intro pins s σ H x xs v us Q I rx rs h
  obtain ⟨μ, St, a, ul, sk, ra, ru, h⟩ := h
  unfold mep at h
  split at h <;> first | (rename_i e; cases e; done) | skip
  · split at h
    · rename_i e1 e3
      rw [Rep] at ra
      obtain ⟨p, e, hm⟩ := ra
      obtain ⟨w, e2, r1⟩ := repL1 ru
      rw [Rep] at r1
      obtain ⟨b, e4, hb⟩ := r1
      subst e e4 e2
      obtain ⟨vs, h1, rl⟩ := sk.of hm e1
      obtain ⟨ws, h2, rw'⟩ := sk.of hb e3
      exact mt_extend pins s σ H _ _ v us Q I rx rs ⟨p, b, vs, ws, rfl, rfl, h1, h2, by rw [← rl.length, ← rw'.length]; exact h.1, h.2.wr sk hm (rl.append rw') repN⟩
    · exact h.elim
  all_goals first | exact h.elim | (simp_all; done) | skip
theorem mt_pop_b : MtM X "list.pop" (rMe M .pop) := by
  intro pins s σ H x xs v us Q I rx rs h
  obtain ⟨μ, St, a, ul, sk, ra, ru, h⟩ := h
  unfold mep at h
  split at h <;> first | (rename_i e; cases e; done) | skip
  · split at h
    · rename_i e1
      rw [Rep] at ra
      obtain ⟨p, e, hm⟩ := ra
      rw [RepL] at ru
      subst e ru
      obtain ⟨vs, h1, rl⟩ := sk.of hm e1
      split at h
      · rename_i w hw
        obtain ⟨z, hz, rz⟩ := rl.get hw
        exact mt_pop pins s σ H _ _ v us Q I rx rs ⟨p, vs, z, rfl, rfl, h1, by rw [← rl.length]; exact hz, h.wr sk hm rl.dropLast rz⟩
      · exact h.elim
    · exact h.elim
  all_goals first | exact h.elim | (simp_all; done) | skip

/-! ### stores -/
def rSe (M : Md) : V → V → V → Hp → (Hp → Prop) → Prop := fun o i v H Q => ∃ μ St a b c, StoreOk M μ H St ∧ Rep M μ H a o ∧ Rep M μ H b i ∧ Rep M μ H c v ∧ setp a b c St fun S2 => ∀ μ2 H2, Step μ H μ2 H2 → StoreOk M μ2 H2 S2 → Q H2
theorem set_all : PSet X (rSe M) := by
  intro pins s σ H o i v ov iv u Q I ro ri rv h
  obtain ⟨μ, St, a, b, c, sk, ra, rb, rc, h⟩ := h
  unfold setp at h
  split at h
  · split at h
    · rename_i e1
      rw [Rep] at ra
      rw [Rep] at rb
      obtain ⟨p, e, hm⟩ := ra
      subst e rb
      obtain ⟨vs, h1, rl⟩ := sk.of hm e1
      split at h
      · rename_i j hj
        exact set_list pins s σ H _ _ v ov iv u Q I ro ri rv ⟨p, vs, _, j, rfl, rfl, h1, by rw [← rl.length]; exact hj, h μ _ (Step.wr (List.mem_of_getElem? hm)) (sk.wr hm (rl.set rc j))⟩
      · exact h.elim
    · exact h.elim
  · exact h.elim
/-! ### isinstance -/
def rIs (M : Md) (t : String) : List V → Hp → VK → Prop := fun xs H Q => ∃ μ St u x, xs = [x, .ty t] ∧ StoreOk M μ H St ∧ Rep M μ H u x ∧ isip u t fun b => Q (.bl b) H
def isTy (t : String) : Bool := t == "int" || t == "bool" || t == "str" || t == "tuple" || t == "list"
theorem kitBase (K : PySem.W.Frag) : ∀ a ∈ ["NoneType", "bool", "int", "str", "tuple", "list"], ∀ t ∈ ["int", "bool", "str", "tuple", "list"], PySem.W.kitOne K (.type a) (.type t) = some (a == t || (a == "bool" && t == "int")) := by
  intro a ha t ht
  simp only [List.mem_cons, List.mem_nil_iff, or_false] at ha ht
  rcases ha with rfl | rfl | rfl | rfl | rfl | rfl <;> rcases ht with rfl | rfl | rfl | rfl | rfl <;> exact kit_ty (by decide +kernel)
theorem isTy_mem {t : String} (h : isTy t = true) : t ∈ ["int", "bool", "str", "tuple", "list"] := by
  unfold isTy at h
  simp only [Bool.or_eq_true, beq_iff_eq] at h
  simp only [List.mem_cons, List.mem_nil_iff, or_false]
  rcases h with (((h | h) | h) | h) | h <;> simp [h]
theorem call_isi_b (hK : X.K = M.K) {t : String} (ht : isTy t = true) : CallR X (.builtin "isinstance") (rIs M t) := by
  intro pins s σ H xs us Q I r h
  obtain ⟨μ, St, u, x, e, sk, ru, h⟩ := h
  subst e
  have hm := isTy_mem ht
  have go : ∀ (a : String) (b : Bool), a ∈ ["NoneType", "bool", "int", "str", "tuple", "list"] → TyX X.K H x (.type a) → (a == t || (a == "bool" && t == "int")) = b → Q (.bl b) H → wpAny (model X.prog X.w) X.A (call (.builtin "isinstance") us) (EP X pins σ Q) X.xe s := by
    intro a b ha ty e q
    exact call_isi pins s σ H _ us Q I r ⟨x, .ty t, _, _, b, rfl, .ty t, ty, by rw [kitBase X.K a ha t hm, e], q⟩
  unfold isip at h
  have hc : t = "int" ∨ t = "bool" ∨ t = "str" ∨ t = "tuple" ∨ t = "list" := by simpa using hm
  split at h
  · rw [Rep] at ru; subst ru
    refine go "NoneType" _ (by simp) (.base .non) ?_ h
    rcases hc with rfl | rfl | rfl | rfl | rfl <;> decide
  · rw [Rep] at ru; subst ru
    refine go "bool" _ (by simp) (.base (.bl _)) ?_ h
    rcases hc with rfl | rfl | rfl | rfl | rfl <;> decide
  · rw [Rep] at ru; subst ru
    refine go "int" _ (by simp) (.base (.int _)) ?_ h
    rcases hc with rfl | rfl | rfl | rfl | rfl <;> decide
  · rw [Rep] at ru; subst ru
    refine go "str" _ (by simp) (.base (.str _)) ?_ h
    rcases hc with rfl | rfl | rfl | rfl | rfl <;> decide
  · rw [Rep] at ru
    obtain ⟨p, vs, rfl, hp, rl⟩ := ru
    refine go "tuple" _ (by simp) ?_ ?_ h
    · rcases hp with (hp | ⟨o, hp⟩) | ⟨o, its, n, hk, hc, _⟩
      · exact .base (.tup hp)
      · exact .fTuple hp
      · exact .kTuple (by rw [hK]; exact hk) hc
    · rcases hc with rfl | rfl | rfl | rfl | rfl <;> decide
  · rw [Rep] at ru
    obtain ⟨p, rfl, hm'⟩ := ru
    obtain ⟨vs, e⟩ := sk.mem (List.mem_of_getElem? hm')
    refine go "list" _ (by simp) (.base (.lst e)) ?_ h
    rcases hc with rfl | rfl | rfl | rfl | rfl <;> decide
  · exact h.elim
end
end Q

set_option Elab.async false
set_option linter.all false
set_option maxRecDepth 100000
set_option maxHeartbeats 4000000
/-! QChk: when a piece of syntax is a piece of the small form. -/
namespace Q
open PySem PySem.Spec PyProof.Rows L2

def notStar : Expr → Bool
  | .Starred _ _ => false
  | _ => true
def notSlice : Expr → Bool
  | .Slice _ _ _ _ => false
  | _ => true
def notCall : Expr → Bool
  | .Call _ _ _ _ => false
  | _ => true
def notComp : Expr → Bool
  | .ListComp _ _ _ _ => false
  | .SetComp _ _ _ _ => false
  | .DictComp _ _ _ _ _ => false
  | _ => true
def notSet : Expr → Bool
  | .Set _ _ _ => false
  | _ => true
def notTup : Expr → Bool
  | .Tuple _ _ _ => false
  | .List _ _ => false
  | _ => true
def isNm : Expr → Bool
  | .Name _ _ => true
  | _ => false
def plainTest : Expr → Bool
  | .UnaryOp _ _ _ => false
  | .BoolOp _ _ _ => false
  | .IfExp _ _ _ _ => false
  | .Compare _ _ _ _ => false
  | _ => true

theorem star_cons {e : Expr} {es : List Expr} {env : Env} (h : notStar e = true) : starEach (e :: es) env = (false, eval e env) :: starEach es env := by
  cases e <;> first | rfl | (simp [notStar] at h)
theorem star_any {pos : Pos} {env : Env} : ∀ {es : List Expr}, es.all notStar = true → (backTo pos (starEach es env)).any (·.1) = false
  | [], _ => rfl
  | e :: es, h => by
    rw [List.all_cons, Bool.and_eq_true] at h
    rw [star_cons h.1]
    show (false || (backTo pos (starEach es env)).any (·.1)) = false
    rw [star_any h.2]; rfl
theorem star_all {pos : Pos} {env : Env} : ∀ {es : List Expr}, es.all notStar = true → (backTo pos (starEach es env)).all (fun x => !x.1) = true
  | [], _ => rfl
  | e :: es, h => by
    rw [List.all_cons, Bool.and_eq_true] at h
    rw [star_cons h.1]
    show (!false && (backTo pos (starEach es env)).all (fun x => !x.1)) = true
    rw [star_all h.2]; rfl
theorem asg_cons {e : Expr} {es : List Expr} {env : Env} (h : notStar e = true) : assignEach (e :: es) env = (false, assign e env) :: assignEach es env := by
  cases e <;> first | rfl | (simp [notStar] at h)
theorem asg_len {env : Env} : ∀ {es : List Expr}, es.all notStar = true → (assignEach es env).length = es.length
  | [], _ => rfl
  | e :: es, h => by
    rw [List.all_cons, Bool.and_eq_true] at h
    rw [asg_cons h.1, List.length_cons, List.length_cons, asg_len h.2]
theorem asg_none {env : Env} : ∀ {es : List Expr}, es.all notStar = true → (assignEach es env).findIdx? (·.1) = none
  | [], _ => rfl
  | e :: es, h => by
    rw [List.all_cons, Bool.and_eq_true] at h
    rw [asg_cons h.1, List.findIdx?_cons, asg_none h.2]
    rfl
theorem plain_ix {e : Expr} (h : notSlice e = true) : PlainIx e := by
  intro o i
  cases e <;> first | rfl | (simp [notSlice] at h)
theorem sub_asg {o i : Expr} {env : Env} {pos : Pos} (h : notSlice i = true) : ∀ v, assign (.Subscript o i pos) env v = (do
      let ov ← holding [v] (eval o env)
      let iv ← holding [v, ov] (eval i env)
      standAt pos
      holding [v, ov, iv] (setItem ov iv v)
      release [v, ov, iv] []) := by
  intro v
  cases i <;> first | rfl | (simp [notSlice] at h)
theorem base_of {o : Expr} {a : Str} {env : Env} {w : Sem Value} (h : notCall o = true) : attributeBase o a env w = w := by
  cases o <;> first | rfl | (simp [notCall] at h)
theorem sw_of {e : Expr} {t : Option Expr} {l : Nat} {env : Env} (h : notComp e = true) : swapsWith e t l env = pure false := by
  cases e <;> first | rfl | (simp [notComp] at h)
theorem sw_of2 {e t : Expr} {l : Nat} {env : Env} (h : notComp e = true ∨ isNm t = false) : swapsWith e (some t) l env = pure false := by
  rcases h with h | h
  · exact sw_of h
  · cases e <;> first | rfl | (cases t <;> first | rfl | cases h)
theorem set_of {e : Expr} {env : Env} (h : notSet e = true) : ∀ x, foldedSetIterable e env x = pure x := by
  intro x
  cases e <;> first | rfl | (simp [notSet] at h)
theorem test_of {e : Expr} {env : Env} (h : plainTest e = true) : ∀ whole, isTrue e env whole = (do let v ← whole; standAt e.pos; holding [v] (truthy v)) := by
  intro w
  cases e <;> first | rfl | (simp [plainTest] at h)
theorem sst_of {t e : Expr} {env : Env} (h : notTup t = true ∨ notTup e = true) : swappedStores [t] e env = pure none := by
  rcases h with h | h
  · cases t <;> first | rfl | (simp [notTup] at h)
  · cases e <;> first | (cases t <;> rfl) | (simp [notTup] at h) | (cases t <;> rfl)
/-- the names that a swapped store would take -/
def swNames (sc : Scope) (ts : List Expr) : List Str :=
  let line := (ts.head?.map (·.pos.line)).getD 0
  ts.filterMap fun
    | .Name id pos => if sc.names.lookup id == some .local && pos.line == line then some id else none
    | _ => none
def noStar2 (vs : List Expr) : Bool := !(vs.any fun | .Starred .. => true | _ => false)
/-- two targets, two values: what the machine's look says (some (some names): stored from the right) -/
def swOut (sc : Scope) (ts vs : List Expr) : Option (Option (List Str)) :=
  if !(ts.length == 2 || ts.length == 3) || vs.length != ts.length then some none
  else if (vs.any fun | .Starred .. => true | _ => false) then some none
  else if (swNames sc ts).length != ts.length || (swNames sc ts).eraseDups.length != (swNames sc ts).length then some none
  else if vs.all (foldedForSure 8) then some none
  else if vs.all (constantsAlone 8) then none
  else some (some (swNames sc ts))
theorem sw_out {sc : Scope} {ts vs : List Expr} {env : Env} {k1 k2 : Nat} {p1 p2 : Pos} {r : Option (List Str)} (hs : env.scope = sc) (hk : sc.kind = .function) (h : swOut sc ts vs = some r) :
    swappedStores [.Tuple ts k1 p1] (.Tuple vs k2 p2) env = pure r := by
  subst hs
  have hb : env.blockKind = .function := by unfold Env.blockKind; rw [hk]; rfl
  unfold swappedStores
  simp only [hb]
  unfold swOut at h
  by_cases c1 : (!(ts.length == 2 || ts.length == 3) || vs.length != ts.length) = true
  · rw [if_pos c1] at h
    cases h
    exact if_pos (by rw [c1]; rfl)
  · rw [if_neg c1] at h
    have c1' : (!(ts.length == 2 || ts.length == 3) || vs.length != ts.length) = false := Bool.eq_false_iff.mpr c1
    refine (if_neg (by rw [c1']; exact Bool.false_ne_true)).trans ?_
    by_cases c2 : (vs.any fun | .Starred .. => true | _ => false) = true
    · rw [if_pos c2] at h
      cases h
      exact if_pos c2
    · rw [if_neg c2] at h
      refine (if_neg c2).trans ?_
      by_cases c3 : ((swNames env.scope ts).length != ts.length || (swNames env.scope ts).eraseDups.length != (swNames env.scope ts).length) = true
      · rw [if_pos c3] at h
        cases h
        exact if_pos c3
      · rw [if_neg c3] at h
        refine (if_neg c3).trans ?_
        by_cases c4 : vs.all (foldedForSure 8) = true
        · rw [if_pos c4] at h
          cases h
          exact if_pos c4
        · rw [if_neg c4] at h
          refine (if_neg c4).trans ?_
          by_cases c5 : vs.all (constantsAlone 8) = true
          · rw [if_pos c5] at h; cases h
          · rw [if_neg c5] at h
            cases h
            exact if_neg c5
/-- whether name = [..] takes the comprehension's own road -/
def swLc (sc : Scope) (y : Str) (py vpos : Pos) (scope : Scope) : Bool :=
  sc.names.lookup y == some .local && py.line == vpos.line && !(scope.names.any fun (n, k) => n == y && (k == .local || k == .cell))
theorem sw_lc {sc : Scope} {elt : Expr} {gs : List Comprehension} {scope : Scope} {pos py : Pos} {y : Str} {l : Nat} {env : Env} (hs : env.scope = sc) (hk : sc.kind = .function) :
    swapsWith (.ListComp elt gs scope pos) (some (.Name y py)) l env = pure (swLc sc y py pos scope) := by
  have hb : env.blockKind = .function := by unfold Env.blockKind; rw [hs, hk]; rfl
  unfold swapsWith swLc
  simp only [hb, Env.kindOf, hs, Expr.pos] <;> rfl

/-! ### the look -/
def visB (sc : Scope) (x : Str) : Bool :=
  match sc.names.lookup x with
  | some .local => true
  | some .cell => true
  | some .free => true
  | _ => false
theorem vis_of {sc : Scope} {x : Str} (h : visB sc x = true) : Vis sc x := by
  unfold visB at h
  split at h <;> first | (rename_i e; first | exact .inl e | exact .inr (.inl e) | exact .inr (.inr e)) | cases h
def okName (x : Str) : Bool := !(x == ("__debug__" : Str)) && !(x == ("__classdict__" : Str)) && !(x == ("__name__" : Str))
def globB (sc : Scope) (x : Str) : Bool := okName x && (match sc.names.lookup x with | some .globalImplicit => true | _ => false)
/-- a name that may be stored: a local, or a cell of our own -/
def stoB (sc : Scope) (sf : Str → Bool) (x : Str) : Bool :=
  match sc.names.lookup x with
  | some .local => true
  | some .cell => sf x
  | _ => false
def bopB : BO → Operator → Bool
  | .add, .Add => true | .sub, .Sub => true | .mul, .Mult => true | .div, .FloorDiv => true | .mod, .Mod => true | .pow, .Pow => true
  | _, _ => false
def copB : CO → CmpOp → Bool
  | .eq, .Eq => true | .ne, .NotEq => true | .lt, .Lt => true | .le, .LtE => true | .gt, .Gt => true | .ge, .GtE => true | .isin, .In => true | .notin, .NotIn => true
  | _, _ => false
theorem bopB_eq {o : BO} {p : Operator} (h : bopB o p = true) : p = bopOp o := by cases o <;> cases p <;> first | rfl | (simp [bopB] at h)
theorem copB_eq {o : CO} {p : CmpOp} (h : copB o p = true) : p = copOp o := by cases o <;> cases p <;> first | rfl | (simp [copB] at h)
def biName : Bi → Str
  | .len => "len" | .abs => "abs" | .max => "max" | .min => "min" | .sum => "sum" | .any => "any" | .all => "all" | .int => "int" | .str => "str" | .tuple => "tuple" | .list => "list"
def meName : Me → Str
  | .append => "append" | .extend => "extend" | .pop => "pop" | .join => "join"
def meB : Me → Bool
  | .append => true | .extend => true | .pop => true | .join => false
def augB : BO → Operator → Bool
  | .add, .Add => true | .sub, .Sub => true | .div, .FloorDiv => true
  | _, _ => false
mutual
def nmsT : T → List Nat
  | .name i => [i]
  | .tup ts => nmsTs ts
  | .sub _ _ => []
def nmsTs : Ts → List Nat
  | .nil => []
  | .cons t ts => nmsT t ++ nmsTs ts
end
/-! a target of names alone -/
mutual
def tnm : T → Bool
  | .name _ => true
  | .tup ts => tnms ts
  | .sub _ _ => false
def tnms : Ts → Bool
  | .nil => true
  | .cons t ts => tnm t && tnms ts
end
variable (N : List Str) (bl : List Str) (xc : List Str)
mutual
def chkE : E → Scope → (Str → Bool) → Expr → Bool
  | .var i, sc, sf, e' =>
    match e' with
    | .Name x _ => decide (N[i]? = some x) && visB sc x && okName x
    | _ => false
  | .int i, sc, sf, e' =>
    match e' with
    | .Constant (.int j) _ _ => decide (i = j)
    | _ => false
  | .str i, sc, sf, e' =>
    match e' with
    | .Constant (.str j) _ _ => decide (i = j)
    | _ => false
  | .bl i, sc, sf, e' =>
    match e' with
    | .Constant (.bool j) _ _ => i == j
    | _ => false
  | .non, sc, sf, e' =>
    match e' with
    | .Constant .none _ _ => true
    | _ => false
  | .glob x, sc, sf, e' =>
    match e' with
    | .Name y _ => decide (x = y) && globB sc x
    | _ => false
  | .bop o a b, sc, sf, e' =>
    match e' with
    | .BinOp a' o' b' _ => bopB o o' && chkE a sc sf a' && chkE b sc sf b'
    | _ => false
  | .neg a, sc, sf, e' =>
    match e' with
    | .UnaryOp .USub a' _ => chkE a sc sf a'
    | _ => false
  | .cmp o a b, sc, sf, e' =>
    match e' with
    | .Compare a' [o'] [b'] _ => copB o o' && !behindInMarks o' b' && chkE a sc sf a' && chkE b sc sf b'
    | _ => false
  | .cmp2 o p a b c, sc, sf, e' =>
    match e' with
    | .Compare a' [o', p'] [b', c'] _ => copB o o' && copB p p' && !lastMarks [o', p'] [b', c'] && chkE a sc sf a' && chkE b sc sf b' && chkE c sc sf c'
    | _ => false
  | .isN a, sc, sf, e' =>
    match e' with
    | .Compare a' [.Is] [.Constant .none _ _] _ => chkE a sc sf a'
    | _ => false
  | .notN a, sc, sf, e' =>
    match e' with
    | .Compare a' [.IsNot] [.Constant .none _ _] _ => chkE a sc sf a'
    | _ => false
  | .andE a b, sc, sf, e' =>
    match e' with
    | .BoolOp .And [x, y] _ => chkE a sc sf x && chkE b sc sf y
    | .BoolOp .And (x :: y :: z :: r) pos => chkE a sc sf x && chkE b sc sf (.BoolOp .And (y :: z :: r) pos)
    | _ => false
  | .orE a b, sc, sf, e' =>
    match e' with
    | .BoolOp .Or [x, y] _ => chkE a sc sf x && chkE b sc sf y
    | .BoolOp .Or (x :: y :: z :: r) pos => chkE a sc sf x && chkE b sc sf (.BoolOp .Or (y :: z :: r) pos)
    | _ => false
  | .notE a, sc, sf, e' =>
    match e' with
    | .UnaryOp .Not a' _ => chkE a sc sf a'
    | _ => false
  | .ite t a b, sc, sf, e' =>
    match e' with
    | .IfExp t' a' b' _ => chkT t sc sf t' && chkE a sc sf a' && chkE b sc sf b'
    | _ => false
  | .tup es, sc, sf, e' =>
    match e' with
    | .Tuple l _ _ => chkEs es sc sf l
    | _ => false
  | .lst es, sc, sf, e' =>
    match e' with
    | .List l _ => chkEs es sc sf l
    | _ => false
  | .idx a i, sc, sf, e' =>
    match e' with
    | .Subscript a' i' _ => notSlice i' && chkE a sc sf a' && chkE i sc sf i'
    | _ => false
  | .slc a lo hi, sc, sf, e' =>
    match e' with
    | .Subscript a' (.Slice lo' hi' none _) _ => chkE a sc sf a' && chkO lo sc sf lo' && chkO hi sc sf hi'
    | _ => false
  | .rev a, sc, sf, e' =>
    match e' with
    | .Subscript a' (.Slice none none (some (.UnaryOp .USub (.Constant (.int 1) _ _) _)) _) _ => chkE a sc sf a'
    | _ => false
  | .call f es, sc, sf, e' =>
    match e' with
    | .Call (.Name x _) l [] _ => decide (f = x) && globB sc x && chkEs es sc sf l
    | _ => false
  | .callL i es, sc, sf, e' =>
    match e' with
    | .Call (.Name x _) l [] _ => decide (N[i]? = some x) && visB sc x && okName x && !l.isEmpty && chkEs es sc sf l
    | _ => false
  | .bi f es, sc, sf, e' =>
    match e' with
    | .Call (.Name x _) l [] _ => decide (biName f = x) && decide (x ∈ bl) && globB sc x && !l.isEmpty && chkEs es sc sf l
    | _ => false
  | .meth m a es, sc, sf, e' =>
    match e' with
    | .Call (.Attribute a' x ap) l [] cp => decide (meName m = x) && meB m && notCall a' && (ap.endLine == cp.line) && decide (l.length < 20) && chkE a sc sf a' && chkEs es sc sf l
    | _ => false
  | .isi a t, sc, sf, e' =>
    match e' with
    | .Call (.Name x _) [a', .Name y _] [] _ => decide (x = "isinstance") && decide (x ∈ bl) && globB sc x && decide (y = Str.ofString t) && decide (y ∈ bl) && globB sc y && isTy t && notStar a' && chkE a sc sf a'
    | _ => false
  | .lc e t it c own, sc, sf, e' =>
    match e' with
    | .ListComp e' [⟨t', it', cs, 0⟩] scope _ => chkI it sc sf t' it' && notSet it' && blkC N sc scope own && tnm t && (nmsT t).all (fun i => (own.map (·.2)).contains i) && chkTg t (relS scope sc) (fun x => scope.names.lookup x == some .cell) t' && chkC c (relS scope sc) (fun x => scope.names.lookup x == some .cell) cs && chkE e (relS scope sc) (fun x => scope.names.lookup x == some .cell) e'
    | _ => false
  | .tst _, _, _, _ => false
def chkEs : Es → Scope → (Str → Bool) → List Expr → Bool
  | .nil, sc, sf, e' =>
    match e' with
    | [] => true
    | _ => false
  | .cons e es, sc, sf, e' =>
    match e' with
    | x :: r => notStar x && chkE e sc sf x && chkEs es sc sf r
    | _ => false
def chkO : Oe → Scope → (Str → Bool) → Option Expr → Bool
  | .none, sc, sf, e' =>
    match e' with
    | none => true
    | _ => false
  | .some e, sc, sf, e' =>
    match e' with
    | some x => chkE e sc sf x
    | _ => false
def chkC : Oe → Scope → (Str → Bool) → List Expr → Bool
  | .none, sc, sf, e' =>
    match e' with
    | [] => true
    | _ => false
  | .some e, sc, sf, e' =>
    match e' with
    | [x] => chkT e sc sf x
    | _ => false
def chkT : E → Scope → (Str → Bool) → Expr → Bool
  | .andE a b, sc, sf, e' =>
    match e' with
    | .BoolOp .And [x, y] _ => chkT a sc sf x && chkT b sc sf y
    | .BoolOp .And (x :: y :: z :: r) pos => chkT a sc sf x && chkT b sc sf (.BoolOp .And (y :: z :: r) pos)
    | _ => false
  | .orE a b, sc, sf, e' =>
    match e' with
    | .BoolOp .Or [x, y] _ => chkT a sc sf x && chkT b sc sf y
    | .BoolOp .Or (x :: y :: z :: r) pos => chkT a sc sf x && chkT b sc sf (.BoolOp .Or (y :: z :: r) pos)
    | _ => false
  | .notE a, sc, sf, e' =>
    match e' with
    | .UnaryOp .Not a' _ => chkT a sc sf a'
    | _ => false
  | .tst (.cmp o a b), sc, sf, e' => chkE (.cmp o a b) sc sf e'
  | .tst (.cmp2 o p a b c), sc, sf, e' => chkE (.cmp2 o p a b c) sc sf e'
  | .tst (.isN a), sc, sf, e' => chkE (.isN a) sc sf e'
  | .tst (.notN a), sc, sf, e' => chkE (.notN a) sc sf e'
  | .tst e, sc, sf, e' => plainTest e' && chkE e sc sf e'
  | _, _, _, _ => false
def chkTg : T → Scope → (Str → Bool) → Expr → Bool
  | .name i, sc, sf, e' =>
    match e' with
    | .Name x _ => decide (N[i]? = some x) && stoB sc sf x
    | _ => false
  | .tup ts, sc, sf, e' =>
    match e' with
    | .Tuple l _ _ => chkTs ts sc sf l
    | _ => false
  | .sub o i, sc, sf, e' =>
    match e' with
    | .Subscript o' i' _ => notSlice i' && chkE o sc sf o' && chkE i sc sf i'
    | _ => false
def chkTs : Ts → Scope → (Str → Bool) → List Expr → Bool
  | .nil, sc, sf, e' =>
    match e' with
    | [] => true
    | _ => false
  | .cons t ts, sc, sf, e' =>
    match e' with
    | x :: r => notStar x && chkTg t sc sf x && chkTs ts sc sf r
    | _ => false
def chkI : It → Scope → (Str → Bool) → Expr → Expr → Bool
  | .seq a, sc, sf, tg, e' =>
    match e' with
    | x => chkE a sc sf x
  | .rng1 a, sc, sf, tg, e' =>
    match e' with
    | .Call (.Name x _) [a'] [] _ => decide (x = "range") && decide (x ∈ bl) && globB sc x && notStar a' && chkE a sc sf a'
    | _ => false
  | .rng2 a b, sc, sf, tg, e' =>
    match e' with
    | .Call (.Name x _) [a', b'] [] _ => decide (x = "range") && decide (x ∈ bl) && globB sc x && notStar a' && notStar b' && chkE a sc sf a' && chkE b sc sf b'
    | _ => false
  | .down a, sc, sf, tg, e' =>
    match e' with
    | .Call (.Name x _) [a', .UnaryOp .USub (.Constant (.int 1) _ _) _, .UnaryOp .USub (.Constant (.int 1) _ _) _] [] _ => decide (x = "range") && decide (x ∈ bl) && globB sc x && notStar a' && chkE a sc sf a'
    | _ => false
  | .enm a, sc, sf, tg, e' =>
    match tg, e' with
    | .Tuple _ _ _, .Call (.Name x _) [a'] [] _ => decide (x = "enumerate") && decide (x ∈ bl) && globB sc x && notStar a' && chkE a sc sf a'
    | _, _ => false
end
def chkH : Hd → List Stmt → Bool
  | .retN, [.Return (some (.Constant .none _ _)) _] => true
  | .retB b, [.Return (some (.Constant (.bool c) _ _)) _] => b == c
  | .cont, [.Continue _] => true
  | .pass, [.Pass _] => true
  | .brk, [.Break _] => true
  | _, _ => false
mutual
def chkS : S → Scope → Stmt → Bool
  | .asg t e, sc, e' =>
    match e' with
    | .Assign [t'] e2 _ => (notComp e2 || !isNm t') && notStar t' && (notTup t' || notTup e2 || (match t', e2 with | .Tuple ts _ _, .Tuple vs _ _ => decide (swOut sc ts vs = some none) | _, _ => false)) && chkTg N bl t sc (fun _ => true) t' && chkE N bl e sc (fun _ => true) e2
    | _ => false
  | .setlc i e, sc, e' =>
    match e, e' with
    | .lc a t it c own, .Assign [.Name y py] (.ListComp a' gs scope vp) _ => decide (N[i]? = some y) && stoB sc (fun _ => true) y && chkE N bl (.lc a t it c own) sc (fun _ => true) (.ListComp a' gs scope vp)
    | _, _ => false
  | .par i j a b, sc, e' =>
    match e' with
    | .Assign [.Tuple [.Name x px, .Name y py] _ _] (.Tuple [a', b'] _ _) _ => decide (N[i]? = some x) && decide (N[j]? = some y) && i != j && notStar a' && notStar b' && chkE N bl a sc (fun _ => true) a' && chkE N bl b sc (fun _ => true) b' && ((decide (swOut sc [.Name x px, .Name y py] [a', b'] = some (some [x, y])) && decide (sc.names.lookup x = some .local) && decide (sc.names.lookup y = some .local)) || (decide (swOut sc [.Name x px, .Name y py] [a', b'] = some none) && stoB sc (fun _ => true) x && stoB sc (fun _ => true) y))
    | _ => false
  | .aug i o e, sc, e' =>
    match e' with
    | .AugAssign (.Name x _) o' e' _ => decide (N[i]? = some x) && augB o o' && stoB sc (fun _ => true) x && chkE N bl e sc (fun _ => true) e'
    | _ => false
  | .ret e, sc, e' =>
    match e' with
    | .Return (some e') _ => chkE N bl e sc (fun _ => true) e'
    | _ => false
  | .retN, sc, e' =>
    match e' with
    | .Return none _ => true
    | _ => false
  | .ifs t a b, sc, e' =>
    match e' with
    | .If t' a' b' _ => chkT N bl t sc (fun _ => true) t' && chkSs a sc a' && chkSs b sc b'
    | _ => false
  | .fors t it b, sc, e' =>
    match e' with
    | .For t' it' b' [] _ => chkTg N bl t sc (fun _ => true) t' && chkI N bl it sc (fun _ => true) t' it' && notSet it' && chkSs b sc b'
    | _ => false
  | .whl t b, sc, e' =>
    match e' with
    | .While t' b' [] _ => chkT N bl t sc (fun _ => true) t' && chkSs b sc b'
    | _ => false
  | .ex e, sc, e' =>
    match e' with
    | .Expr e' _ => notComp e' && chkE N bl e sc (fun _ => true) e'
    | _ => false
  | .doc, sc, e' =>
    match e' with
    | .Expr (.Constant (.str _) _ _) _ => true
    | _ => false
  | .raise c m, sc, e' =>
    match e' with
    | .Raise (some (.Call (.Name x _) [.Constant (.str y) _ _] [] _)) none _ => decide (c = x) && decide (m = y) && decide (x ∈ xc) && globB sc x
    | _ => false
  | .pass, sc, e' =>
    match e' with
    | .Pass _ => true
    | _ => false
  | .brk, sc, e' =>
    match e' with
    | .Break _ => true
    | _ => false
  | .cont, sc, e' =>
    match e' with
    | .Continue _ => true
    | _ => false
  | .tryo b c h, sc, e' =>
    match e' with
    | .Try b' [.ExceptHandler (some (.Name x _)) none h' _] [] [] _ => decide (c = x) && decide (x ∈ xc) && globB sc x && chkH h h' && chkSs b sc b'
    | _ => false
  | .nev, sc, e' =>
    match e' with
    | _ => true
def chkSs : Ss → Scope → List Stmt → Bool
  | .nil, sc, e' =>
    match e' with
    | [] => true
    | _ => false
  | .cons s ss, sc, e' =>
    match e' with
    | x :: r => chkS s sc x && chkSs ss sc r
    | _ => false
end
end Q

set_option Elab.async false
set_option linter.all false
set_option maxRecDepth 100000
set_option maxHeartbeats 8000000
/-! QSound: what wp says holds of the machine: expressions. -/
namespace Q
open PySem PySem.Spec PyProof.Rows L2

structure Pm where
  M : Md
  G : Gm
  Ex : ExS
  m0 : List Addr
  H0 : Hp

structure SlR (M : Md) (μ : List Addr) (H : Hp) (σe : Sl) (σ : L2.St) : Prop where
  len : σe.length = σ.length
  get : ∀ (i : Nat) (u : U), σe[i]? = some (some u) → ∃ v, σ[i]? = some (some v) ∧ Rep M μ H u v
structure StR (p : Pm) (μ : List Addr) (H : Hp) (S : Sto) (σe : Sl) (σ : L2.St) : Prop where
  st : Step p.m0 p.H0 μ H
  ok : StoreOk p.M μ H S
  sl : SlR p.M μ H σe σ
theorem SlR.mono {M : Md} {μ μ' : List Addr} {H H' : Hp} {σe : Sl} {σ : L2.St} (s : SlR M μ H σe σ) (k : Step μ H μ' H') (hl : Lsts μ H) : SlR M μ' H' σe σ :=
  ⟨s.len, fun i u e => let ⟨v, h, r⟩ := s.get i u e; ⟨v, h, rep_mono k hl u v r⟩⟩
theorem StR.next {p : Pm} {μ μ' : List Addr} {H H' : Hp} {S S' : Sto} {σe : Sl} {σ : L2.St} (s : StR p μ H S σe σ) (k : Step μ H μ' H') (ok : StoreOk p.M μ' H' S') : StR p μ' H' S' σe σ :=
  ⟨s.st.trans k, ok, s.sl.mono k s.ok.lsts⟩
theorem SlR.set {M : Md} {μ : List Addr} {H : Hp} {σe : Sl} {σ : L2.St} {u : U} {v : V} (s : SlR M μ H σe σ) (i : Nat) (r : Rep M μ H u v) : SlR M μ H (σe.set i (some u)) (σ.set i (some v)) := by
  refine ⟨by rw [List.length_set, List.length_set, s.len], fun j w e => ?_⟩
  by_cases h : i = j
  · subst h
    by_cases hl : i < σe.length
    · rw [List.getElem?_set_self hl] at e
      cases e
      exact ⟨v, by rw [List.getElem?_set_self (by rw [← s.len]; exact hl)], r⟩
    · rw [List.getElem?_eq_none (by rw [List.length_set]; omega)] at e; cases e
  · rw [List.getElem?_set_ne h] at e
    obtain ⟨x, a, b⟩ := s.get j w e
    exact ⟨x, by rw [List.getElem?_set_ne h]; exact a, b⟩

/-- a promise of plain values, told of the heap -/
def ExR (M : Md) (c : Str) (q : List (Str × U)) (cls : Value) (d : Option Addr) : Prop := q = [] ∧ d = none ∧ ∃ a, cls = .ref a ∧ M.mg c = some (.ref a)
def spU (M : Md) (sp : FSpec) : Sp := fun vs H Q E => ∃ μ S us, StoreOk M μ H S ∧ RepL M μ H us vs ∧ sp us S (Aft M μ H Q) fun c q S2 => ∀ μ2 H2 cls d, Step μ H μ2 H2 → StoreOk M μ2 H2 S2 → ExR M c q cls d → E cls d H2

structure ExcOk (M : Md) (c : Str) : Prop where
  ex : ∃ C, M.mg c = some (.ref C) ∧ PySem.W.keepIn M.K (.ref C) = true ∧ PySem.W.subIn M.K (.ref C) (.type "BaseException") = some true ∧ PySem.W.typeIn M.K (.ref C) = some (.type "type") ∧
    ∃ bm, PySem.W.excIn M.K C bm "ValueError.__new__" = true ∧ bm = [.type "ValueError", .type "Exception", .type "BaseException", .type "object"]

/-- the context of a piece of a def -/
structure GX (p : Pm) (k : Nat) (N bl xc : List Str) (sc : Scope) (sf : Str → Bool) (X : Cx) : Prop where
  hK : X.K = p.M.K
  hmg : X.mg = p.M.mg
  hN : X.N = N
  nd : N.Nodup
  hsc : X.env.scope = sc
  knd : sc.kind = .function
  calm : X.calm = true
  room : Room k X.A
  fn : ∀ x, sf x = true → X.fn x = true
  gm : GMono p.G
  fns : ∀ f sp, p.G.fns f = some sp → ∃ fa fd ps, p.M.mg f = some (.ref fa) ∧ PySem.W.keepIn X.K (.ref fa) = true ∧ FnOk X.prog X.w X.K X.mg X.base (L2.CX X.prog X.w) k fa fd ps (spU p.M sp) ∧ Binds X.K fd ps []
  cts : ∀ x u, p.G.cts x = some u → ∃ w v, p.M.mg x = some w ∧ RelV v w ∧ ∀ μ H, Rep p.M μ H u v
  blt : ∀ x ∈ bl, p.M.mg x = none
  exc : ∀ c ∈ xc, ExcOk p.M c
  exm : ∀ cl c y, p.G.exm cl c = some y → ∃ C : Addr, p.M.mg c = some (.ref C) ∧ ∀ a, p.M.mg cl = some (.ref a) → PySem.W.exmOne p.M.K (.ref a) (.ref C) = some y
  tk : ∃ W, Takes X W ∧ ∀ c q σe S cls d σ H μ, StR p μ H S σe σ → ExR p.M c q cls d → p.Ex c q σe S → W cls d σ H
  po : PassesOwn (model X.prog X.w) X.A X.env X.xe

/-! ### the readings -/
def tE (p : Pm) (e : E) : TE := fun σ H Q => ∃ μ S σe, StR p μ H S σe σ ∧ wpE p.G e p.Ex σe S (Aft p.M μ H Q)
def AftT (M : Md) (μ : List Addr) (H : Hp) (Q : Bool → Hp → Prop) : Bool → Sto → Prop := fun b S2 => ∀ μ2 H2, Step μ H μ2 H2 → StoreOk M μ2 H2 S2 → Q b H2
def tT (p : Pm) (e : E) : TT := fun σ H Q => ∃ μ S σe, StR p μ H S σe σ ∧ wpT p.G e p.Ex σe S (AftT p.M μ H Q)
def tC2 (p : Pm) (e : Oe) : TT := fun σ H Q => ∃ μ S σe, StR p μ H S σe σ ∧ wpC p.G e p.Ex σe S (AftT p.M μ H Q)
def AftA (M : Md) (μ : List Addr) (H : Hp) (Q : List V → Hp → Prop) : List U → Sto → Prop := fun us S2 => ∀ μ2 H2 vs, Step μ H μ2 H2 → StoreOk M μ2 H2 S2 → RepL M μ2 H2 us vs → Q vs H2
def tA (p : Pm) (es : Es) : TA := fun σ H Q => ∃ μ S σe, StR p μ H S σe σ ∧ wpEs p.G es p.Ex σe S (AftA p.M μ H Q)
def AftO (M : Md) (μ : List Addr) (H : Hp) (Q : Option Int → Hp → Prop) : Option Int → Sto → Prop := fun o S2 => ∀ μ2 H2, Step μ H μ2 H2 → StoreOk M μ2 H2 S2 → Q o H2
def tOp2 (p : Pm) (e : Oe) : TO := fun σ H Q => ∃ μ S σe, StR p μ H S σe σ ∧ wpO p.G e p.Ex σe S (AftO p.M μ H Q)
/-- only these slots are changed -/
def Chg (l : List Nat) (σ σ' : L2.St) : Prop := σ'.length = σ.length ∧ ∀ i, i ∉ l → σ'[i]? = σ[i]?
def AftG (M : Md) (μ : List Addr) (H : Hp) (l : List Nat) (σ : L2.St) (Q : L2.St → Hp → Prop) : Sl → Sto → Prop := fun σe S2 => ∀ μ2 H2 σ2, Step μ H μ2 H2 → StoreOk M μ2 H2 S2 → SlR M μ2 H2 σe σ2 → Chg l σ σ2 → Q σ2 H2
def tGt (p : Pm) (t : T) : TG := fun v σ H Q => ∃ μ S σe u, StR p μ H S σe σ ∧ Rep p.M μ H u v ∧ wpTg p.G t p.Ex u σe S (AftG p.M μ H (nmsT t) σ Q)
def tGs (p : Pm) (t : Ts) : TGs := fun vs σ H Q => ∃ μ S σe us, StR p μ H S σe σ ∧ RepL p.M μ H us vs ∧ wpTs p.G t p.Ex us σe S (AftG p.M μ H (nmsTs t) σ Q)
/-- what is walked, as the machine walks it -/
structure SrR (M : Md) (μ1 : List Addr) (H1 : Hp) (s : Src) (J : L2.It) : Prop where
  go : ∀ μ H S i, Step μ1 H1 μ H → StoreOk M μ H S → s.grd S → i < s.vals.length → J.go i H
  stop : ∀ μ H S i, Step μ1 H1 μ H → StoreOk M μ H S → s.grd S → s.vals.length ≤ i → J.stop i H
  yld : ∀ μ H S i x H' u, Step μ1 H1 μ H → StoreOk M μ H S → s.grd S → s.vals[i]? = some u → J.yld i H x H' → Step μ H μ H' ∧ StoreOk M μ H' S ∧ Rep M μ H' u x
def tIt (p : Pm) (t : Q.It) : TI := fun σ H R => ∃ μ S σe, StR p μ H S σe σ ∧ wpI p.G t p.Ex σe S fun src S2 => ∀ μ2 H2 J, Step μ H μ2 H2 → StoreOk p.M μ2 H2 S2 → SrR p.M μ2 H2 src J → R J H2

section
variable {p : Pm} {μ μ1 : List Addr} {H H1 : Hp} {S S1 : Sto} {σe : Sl} {σ : L2.St}
theorem Aft.step {M : Md} {Q : VK} {w : U} (h : Aft M μ H Q w S) (k : Step μ H μ1 H1) : Aft M μ1 H1 Q w S := fun μ2 H2 z s o r => h μ2 H2 z (k.trans s) o r
theorem AftT.step {M : Md} {Q : Bool → Hp → Prop} {w : Bool} (h : AftT M μ H Q w S) (k : Step μ H μ1 H1) : AftT M μ1 H1 Q w S := fun μ2 H2 s o => h μ2 H2 (k.trans s) o
theorem AftA.step {M : Md} {Q : List V → Hp → Prop} {w : List U} (h : AftA M μ H Q w S) (k : Step μ H μ1 H1) : AftA M μ1 H1 Q w S := fun μ2 H2 z s o r => h μ2 H2 z (k.trans s) o r
theorem AftO.step {M : Md} {Q : Option Int → Hp → Prop} {w : Option Int} (h : AftO M μ H Q w S) (k : Step μ H μ1 H1) : AftO M μ1 H1 Q w S := fun μ2 H2 s o => h μ2 H2 (k.trans s) o
theorem tE_of (gm : GMono p.G) {e : E} {Q : VK} (st : StR p μ H S σe σ) {K : Ks} (h : wpE p.G e p.Ex σe S K) (hK : ∀ u S2, K u S2 → ∀ μ2 H2 v, Step μ H μ2 H2 → StoreOk p.M μ2 H2 S2 → Rep p.M μ2 H2 u v → Q v H2) : tE p e σ H Q :=
  ⟨μ, S, σe, st, wpE_mono gm e (fun _ _ _ _ z => z) (fun u S2 k => hK u S2 k) h⟩
theorem tT_of (gm : GMono p.G) {e : E} {Q : Bool → Hp → Prop} (st : StR p μ H S σe σ) {K : Bool → Sto → Prop} (h : wpT p.G e p.Ex σe S K) (hK : ∀ b S2, K b S2 → ∀ μ2 H2, Step μ H μ2 H2 → StoreOk p.M μ2 H2 S2 → Q b H2) : tT p e σ H Q :=
  ⟨μ, S, σe, st, wpT_mono gm e (fun _ _ _ _ z => z) (fun u S2 k => hK u S2 k) h⟩
theorem tC_of (gm : GMono p.G) {e : Oe} {Q : Bool → Hp → Prop} (st : StR p μ H S σe σ) {K : Bool → Sto → Prop} (h : wpC p.G e p.Ex σe S K) (hK : ∀ b S2, K b S2 → ∀ μ2 H2, Step μ H μ2 H2 → StoreOk p.M μ2 H2 S2 → Q b H2) : tC2 p e σ H Q :=
  ⟨μ, S, σe, st, wpC_mono gm e (fun _ _ _ _ z => z) (fun u S2 k => hK u S2 k) h⟩
theorem tA_of (gm : GMono p.G) {e : Es} {Q : List V → Hp → Prop} (st : StR p μ H S σe σ) {K : List U → Sto → Prop} (h : wpEs p.G e p.Ex σe S K) (hK : ∀ us S2, K us S2 → ∀ μ2 H2 vs, Step μ H μ2 H2 → StoreOk p.M μ2 H2 S2 → RepL p.M μ2 H2 us vs → Q vs H2) : tA p e σ H Q :=
  ⟨μ, S, σe, st, wpEs_mono gm e (fun _ _ _ _ z => z) (fun u S2 k => hK u S2 k) h⟩
theorem tO_of (gm : GMono p.G) {e : Oe} {Q : Option Int → Hp → Prop} (st : StR p μ H S σe σ) {K : Option Int → Sto → Prop} (h : wpO p.G e p.Ex σe S K) (hK : ∀ o S2, K o S2 → ∀ μ2 H2, Step μ H μ2 H2 → StoreOk p.M μ2 H2 S2 → Q o H2) : tOp2 p e σ H Q :=
  ⟨μ, S, σe, st, wpO_mono gm e (fun _ _ _ _ z => z) (fun u S2 k => hK u S2 k) h⟩
theorem tG_of (gm : GMono p.G) {t : T} {u : U} {v : V} {Q : L2.St → Hp → Prop} (st : StR p μ H S σe σ) (r : Rep p.M μ H u v) {K : Sl → Sto → Prop} (h : wpTg p.G t p.Ex u σe S K)
    (hK : ∀ σe2 S2, K σe2 S2 → ∀ μ2 H2 σ2, Step μ H μ2 H2 → StoreOk p.M μ2 H2 S2 → SlR p.M μ2 H2 σe2 σ2 → Chg (nmsT t) σ σ2 → Q σ2 H2) : tGt p t v σ H Q :=
  ⟨μ, S, σe, u, st, r, wpTg_mono gm t (fun _ _ _ _ z => z) (fun u S2 k => hK u S2 k) h⟩
theorem tGs_of (gm : GMono p.G) {t : Ts} {us : List U} {vs : List V} {Q : L2.St → Hp → Prop} (st : StR p μ H S σe σ) (r : RepL p.M μ H us vs) {K : Sl → Sto → Prop} (h : wpTs p.G t p.Ex us σe S K)
    (hK : ∀ σe2 S2, K σe2 S2 → ∀ μ2 H2 σ2, Step μ H μ2 H2 → StoreOk p.M μ2 H2 S2 → SlR p.M μ2 H2 σe2 σ2 → Chg (nmsTs t) σ σ2 → Q σ2 H2) : tGs p t vs σ H Q :=
  ⟨μ, S, σe, us, st, r, wpTs_mono gm t (fun _ _ _ _ z => z) (fun u S2 k => hK u S2 k) h⟩
theorem tI_of (gm : GMono p.G) {t : Q.It} {R : L2.It → Hp → Prop} (st : StR p μ H S σe σ) {K : Src → Sto → Prop} (h : wpI p.G t p.Ex σe S K)
    (hK : ∀ src S2, K src S2 → ∀ μ2 H2 J, Step μ H μ2 H2 → StoreOk p.M μ2 H2 S2 → SrR p.M μ2 H2 src J → R J H2) : tIt p t σ H R :=
  ⟨μ, S, σe, st, wpI_mono gm t (fun _ _ _ _ z => z) (fun u S2 k => hK u S2 k) h⟩
end
section
variable {X : Cx} {e : Expr}
theorem _root_.L2.PE.imp {t t' : TE} (h : PE X e t) (k : ∀ σ H Q, t' σ H Q → t σ H Q) : PE X e t' := ⟨fun pins s σ H Q I q => h.run pins s σ H Q I (k σ H Q q)⟩
theorem _root_.L2.PT.imp {t t' : TT} (h : PT X e t) (k : ∀ σ H Q, t' σ H Q → t σ H Q) : PT X e t' := ⟨fun pins s σ H Q I q => h.run pins s σ H Q I (k σ H Q q)⟩
theorem _root_.L2.PA.imp {es : List Expr} {t t' : TA} (h : PA X es t) (k : ∀ σ H Q, t' σ H Q → t σ H Q) : PA X es t' := ⟨fun pos pins s σ H Q I q => h.run pos pins s σ H Q I (k σ H Q q)⟩
theorem _root_.L2.PO.imp {o : Option Expr} {t t' : TO} (h : PO X o t) (k : ∀ σ H Q, t' σ H Q → t σ H Q) : PO X o t' := ⟨fun pins s σ H Q I q => h.run pins s σ H Q I (k σ H Q q)⟩
theorem _root_.L2.PTs.imp {o : List Expr} {t t' : TT} (h : PTs X o t) (k : ∀ σ H Q, t' σ H Q → t σ H Q) : PTs X o t' := ⟨fun pins s σ H Q I q => h.run pins s σ H Q I (k σ H Q q)⟩
theorem _root_.L2.PG.imp {t t' : TG} (h : PG X e t) (k : ∀ v σ H Q, t' v σ H Q → t v σ H Q) : PG X e t' := ⟨fun pins s σ H v u Q I r q => h.run pins s σ H v u Q I r (k v σ H Q q)⟩
theorem _root_.L2.PGs.imp {es : List Expr} {t t' : TGs} (h : PGs X es t) (k : ∀ v σ H Q, t' v σ H Q → t v σ H Q) : PGs X es t' := ⟨fun pins s σ H v u Q I r q => h.run pins s σ H v u Q I r (k v σ H Q q)⟩
theorem _root_.L2.PI.imp {tg : Expr} {t t' : TI} (h : PI X tg e t) (k : ∀ σ H R, t' σ H R → t σ H R) : PI X tg e t' := ⟨fun pins s σ H R I q => h.run pins s σ H R I (k σ H R q)⟩
end

section
variable {p : Pm} {k : Nat} {N bl xc : List Str} {sc : Scope} {sf : Str → Bool} {X : Cx}
theorem glob_of (g : GX p k N bl xc sc sf X) {x : Str} (h : globB sc x = true) : Gl X x ∧ (x == ("__debug__" : Str)) = false ∧ x ≠ "__name__" := by
  unfold globB okName at h
  simp only [Bool.and_eq_true, Bool.not_eq_true'] at h
  obtain ⟨⟨⟨h1, h2⟩, h3⟩, h4⟩ := h
  refine ⟨?_, h1, fun e => by subst e; simp at h3⟩
  show X.env.scope.names.lookup x = _
  rw [g.hsc]
  split at h4
  · assumption
  · cases h4
theorem ok_dbg {x : Str} (h : okName x = true) : (x == ("__debug__" : Str)) = false ∧ (x == ("__classdict__" : Str)) = false := by
  unfold okName at h
  simp only [Bool.and_eq_true, Bool.not_eq_true'] at h
  exact ⟨h.1.1, h.1.2⟩
theorem s_var (g : GX p k N bl xc sc sf X) {i : Nat} {x : Str} {pos : Pos} (h1 : N[i]? = some x) (h2 : visB sc x = true) (h3 : okName x = true) : PE X (.Name x pos) (tE p (.var i)) := by
  obtain ⟨a, b⟩ := ok_dbg h3
  refine (pe_var (i := i) (by rw [g.hN]; exact h1) (by rw [g.hsc]; exact vis_of h2) a b).imp fun σ H Q ⟨μ, S, σe, st, h⟩ => ?_
  rw [wpE] at h
  cases e : σe[i]? with
  | none => rw [e] at h; exact h.elim
  | some o =>
    cases o with
    | none => rw [e] at h; exact h.elim
    | some u =>
      rw [e] at h
      obtain ⟨v, hv, r⟩ := st.sl.get i u e
      exact ⟨v, hv, Aft.same h st.ok r⟩
theorem s_glob (g : GX p k N bl xc sc sf X) {x : Str} {pos : Pos} (h : globB sc x = true) : PE X (.Name x pos) (tE p (.glob x)) := by
  obtain ⟨a, b, _⟩ := glob_of g h
  cases e : p.G.cts x with
  | none =>
    refine ⟨fun pins s σ H Q I ⟨μ, S, σe, st, h⟩ => ?_⟩
    rw [wpE, e] at h
    exact h.elim
  | some u =>
    obtain ⟨w, v, hm, rv, hr⟩ := g.cts x u e
    refine (pe_glob a (by rw [g.hmg]; exact hm) rv b).imp fun σ H Q ⟨μ, S, σe, st, h⟩ => ?_
    rw [wpE, e] at h
    exact Aft.same h st.ok (hr μ H)
end
end Q

set_option Elab.async false
set_option linter.all false
set_option maxRecDepth 100000
set_option maxHeartbeats 8000000
/-! QSound2: one lemma for each form of expression. -/
namespace Q
open PySem PySem.Spec PyProof.Rows L2
section
variable {p : Pm} {k : Nat} {N bl xc : List Str} {sc : Scope} {sf : Str → Bool} {X : Cx} {a b c : Expr} {a' b' c' : E} {pos : Pos}
theorem s_int {i : Int} {j : Nat} : PE X (.Constant (.int i) j pos) (tE p (.int i)) := pe_int.imp fun σ H Q ⟨μ, S, σe, st, h⟩ => by
  rw [wpE] at h
  exact Aft.same h st.ok (repI i)
theorem s_str {i : Str} {j : Nat} : PE X (.Constant (.str i) j pos) (tE p (.str i)) := pe_str.imp fun σ H Q ⟨μ, S, σe, st, h⟩ => by
  rw [wpE] at h
  exact Aft.same h st.ok (repS i)
theorem s_bl {i : Bool} {j : Nat} : PE X (.Constant (.bool i) j pos) (tE p (.bl i)) := pe_bl.imp fun σ H Q ⟨μ, S, σe, st, h⟩ => by
  rw [wpE] at h
  exact Aft.same h st.ok (repB i)
theorem s_non {j : Nat} : PE X (.Constant .none j pos) (tE p .non) := pe_non.imp fun σ H Q ⟨μ, S, σe, st, h⟩ => by
  rw [wpE] at h
  exact Aft.same h st.ok repN
/-- two in a row -/
theorem two_of (gm : GMono p.G) {μ : List Addr} {H : Hp} {S : Sto} {σe : Sl} {σ : L2.St} {R : V → V → Hp → Prop} (st : StR p μ H S σe σ) {K : U → U → Sto → Prop} (h : wpE p.G a' p.Ex σe S fun u S1 => wpE p.G b' p.Ex σe S1 fun v S2 => K u v S2)
    (hK : ∀ u v S2, K u v S2 → ∀ μ2 H2 x y, Step μ H μ2 H2 → StoreOk p.M μ2 H2 S2 → Rep p.M μ2 H2 u x → Rep p.M μ2 H2 v y → R x y H2) :
    tE p a' σ H fun x H1 => tE p b' σ H1 fun y H2 => R x y H2 :=
  tE_of gm st h fun u S1 h1 μ1 H1 x s1 o1 r1 => tE_of gm (st.next s1 o1) h1 fun v S2 h2 μ2 H2 y s2 o2 r2 => hK u v S2 h2 μ2 H2 x y (s1.trans s2) o2 (rep_mono s2 o1.lsts u x r1) r2
theorem s_bop (g : GX p k N bl xc sc sf X) {o : BO} {op : Operator} (ho : bopB o op = true) (ha : PE X a (tE p a')) (hb : PE X b (tE p b')) : PE X (.BinOp a op b pos) (tE p (.bop o a' b')) := by
  obtain rfl := bopB_eq ho
  refine (pe_op (op_bop (M := p.M) g.hK o) ha hb).imp fun σ H Q ⟨μ, S, σe, st, h⟩ => ?_
  rw [wpE] at h
  exact two_of g.gm st h fun u v S2 h2 μ2 H2 x y s2 o2 r1 r2 => ⟨μ2, S2, u, v, o2, r1, r2, bop_mono (fun w S3 q => q.step s2) h2⟩
theorem s_neg (g : GX p k N bl xc sc sf X) (ha : PE X a (tE p a')) : PE X (.UnaryOp .USub a pos) (tE p (.neg a')) := by
  refine (pe_un un_neg ha).imp fun σ H Q ⟨μ, S, σe, st, h⟩ => ?_
  rw [wpE] at h
  refine tE_of g.gm st h fun u S1 h1 μ1 H1 x s1 o1 r1 => ?_
  cases u <;> first | exact h1.elim | skip
  rw [Rep] at r1
  exact ⟨_, r1, (Aft.step h1 s1).same o1 (repI _)⟩
theorem s_cmp (g : GX p k N bl xc sc sf X) {o : CO} {op : CmpOp} (ho : copB o op = true) (hm : behindInMarks op b = false) (ha : PE X a (tE p a')) (hb : PE X b (tE p b')) : PE X (.Compare a [op] [b] pos) (tE p (.cmp o a' b')) := by
  obtain rfl := copB_eq ho
  refine (pe_cmpR (op_cop (M := p.M) g.hK g.room.units o) ha hb hm).imp fun σ H Q ⟨μ, S, σe, st, h⟩ => ?_
  rw [wpE] at h
  exact two_of g.gm st h fun u v S2 h2 μ2 H2 x y s2 o2 r1 r2 => ⟨μ2, S2, u, v, o2, r1, r2, cop_mono (fun d q => (Aft.step q s2).same o2 (repB d)) h2⟩
theorem s_cmp2 (g : GX p k N bl xc sc sf X) {o o2 : CO} {op op2 : CmpOp} (ho : copB o op = true) (ho2 : copB o2 op2 = true) (hm : lastMarks [op, op2] [b, c] = false) (ha : PE X a (tE p a')) (hb : PE X b (tE p b')) (hc : PE X c (tE p c')) :
    PE X (.Compare a [op, op2] [b, c] pos) (tE p (.cmp2 o o2 a' b' c')) := by
  obtain rfl := copB_eq ho
  obtain rfl := copB_eq ho2
  refine (pe_chain (op_cop (M := p.M) g.hK g.room.units o) (op_cop (M := p.M) g.hK g.room.units o2) ha hb hc hm).imp fun σ H Q ⟨μ, S, σe, st, h⟩ => ?_
  rw [wpE] at h
  refine tE_of g.gm st h fun u S1 h1 μ1 H1 x s1 o1 r1 => tE_of g.gm (st.next s1 o1) h1 fun v S2 h2 μ2 H2 y s2 o2 r2 => ?_
  refine ⟨μ2, S2, u, v, o2, rep_mono s2 o1.lsts u x r1, r2, cop_mono (fun d q => ⟨d, rfl, ?_⟩) h2⟩
  cases d with
  | false => exact (Aft.step q (s1.trans s2)).same o2 (repB false)
  | true => exact tE_of g.gm (st.next (s1.trans s2) o2) q fun w S3 h3 μ3 H3 z s3 o3 r3 => ⟨μ3, S3, v, w, o3, rep_mono s3 o2.lsts v y r2, r3, cop_mono (fun d q => (Aft.step q ((s1.trans s2).trans s3)).same o3 (repB d)) h3⟩
theorem isNon_rep {M : Md} {μ : List Addr} {H : Hp} {u : U} {x : V} (r : Rep M μ H u x) : decide (x = .non) = isNon u := by
  cases u <;> rw [Rep] at r
  case non => subst r; rfl
  all_goals first
    | (subst r; exact decide_eq_false (fun z => by cases z))
    | (obtain ⟨_, e, _⟩ := r; subst e; exact decide_eq_false (fun z => by cases z))
    | (obtain ⟨_, _, e, _⟩ := r; subst e; exact decide_eq_false (fun z => by cases z))
theorem s_isN (g : GX p k N bl xc sc sf X) {j : Nat} {p2 : Pos} (ha : PE X a (tE p a')) : PE X (.Compare a [.Is] [.Constant .none j p2] pos) (tE p (.isN a')) := by
  refine (pe_cmp (pc_isN ha) rfl).imp fun σ H Q ⟨μ, S, σe, st, h⟩ => ?_
  rw [wpE] at h
  refine tE_of g.gm st h fun u S1 h1 μ1 H1 x s1 o1 r1 => ?_
  rw [isNon_rep r1]
  exact (Aft.step h1 s1).same o1 (repB _)
theorem s_notN (g : GX p k N bl xc sc sf X) {j : Nat} {p2 : Pos} (ha : PE X a (tE p a')) : PE X (.Compare a [.IsNot] [.Constant .none j p2] pos) (tE p (.notN a')) := by
  refine (pe_cmp (pc_notN ha) rfl).imp fun σ H Q ⟨μ, S, σe, st, h⟩ => ?_
  rw [wpE] at h
  refine tE_of g.gm st h fun u S1 h1 μ1 H1 x s1 o1 r1 => ?_
  rw [isNon_rep r1]
  exact (Aft.step h1 s1).same o1 (repB _)
theorem blp_rep {M : Md} {μ : List Addr} {H : Hp} {u : U} {x : V} {P : Bool → Prop} (r : Rep M μ H u x) (h : blp u P) : ∃ c, x = .bl c ∧ P c := by
  cases u <;> first | exact h.elim | skip
  rw [Rep] at r
  exact ⟨_, r, h⟩
theorem s_and (g : GX p k N bl xc sc sf X) {r : List Expr} (ha : PE X a (tE p a')) (hb : PE X (.BoolOp .And (b :: r) pos) (tE p b')) : PE X (.BoolOp .And (a :: b :: r) pos) (tE p (.andE a' b')) := by
  refine (pe_and ha hb).imp fun σ H Q ⟨μ, S, σe, st, h⟩ => ?_
  rw [wpE] at h
  refine tE_of g.gm st h fun u S1 h1 μ1 H1 x s1 o1 r1 => ?_
  obtain ⟨c, e, h2⟩ := blp_rep r1 h1
  refine ⟨c, e, ?_⟩
  cases c with
  | false => exact (Aft.step h2 s1).same o1 (repB _)
  | true => exact tE_of g.gm (st.next s1 o1) h2 fun u S2 h3 μ2 H2 x s2 o2 r2 => (Aft.step h3 (s1.trans s2)).same o2 r2
theorem s_or (g : GX p k N bl xc sc sf X) {r : List Expr} (ha : PE X a (tE p a')) (hb : PE X (.BoolOp .Or (b :: r) pos) (tE p b')) : PE X (.BoolOp .Or (a :: b :: r) pos) (tE p (.orE a' b')) := by
  refine (pe_or ha hb).imp fun σ H Q ⟨μ, S, σe, st, h⟩ => ?_
  rw [wpE] at h
  refine tE_of g.gm st h fun u S1 h1 μ1 H1 x s1 o1 r1 => ?_
  obtain ⟨c, e, h2⟩ := blp_rep r1 h1
  refine ⟨c, e, ?_⟩
  cases c with
  | true => exact (Aft.step h2 s1).same o1 (repB _)
  | false => exact tE_of g.gm (st.next s1 o1) h2 fun u S2 h3 μ2 H2 x s2 o2 r2 => (Aft.step h3 (s1.trans s2)).same o2 r2
theorem s_not (g : GX p k N bl xc sc sf X) (ha : PE X a (tE p a')) : PE X (.UnaryOp .Not a pos) (tE p (.notE a')) := by
  refine (pe_not ha).imp fun σ H Q ⟨μ, S, σe, st, h⟩ => ?_
  rw [wpE] at h
  refine tE_of g.gm st h fun u S1 h1 μ1 H1 x s1 o1 r1 => ?_
  obtain ⟨c, e, h2⟩ := blp_rep r1 h1
  exact ⟨c, e, (Aft.step h2 s1).same o1 (repB _)⟩
theorem s_ite (g : GX p k N bl xc sc sf X) (hc : PT X c (tT p c')) (ha : PE X a (tE p a')) (hb : PE X b (tE p b')) : PE X (.IfExp c a b pos) (tE p (.ite c' a' b')) := by
  refine (pe_ifExp hc ha hb).imp fun σ H Q ⟨μ, S, σe, st, h⟩ => ?_
  rw [wpE] at h
  refine tT_of g.gm st h fun d S1 h1 μ1 H1 s1 o1 => ?_
  cases d with
  | true => exact tE_of g.gm (st.next s1 o1) h1 fun u S2 h3 μ2 H2 x s2 o2 r2 => (Aft.step h3 (s1.trans s2)).same o2 r2
  | false => exact tE_of g.gm (st.next s1 o1) h1 fun u S2 h3 μ2 H2 x s2 o2 r2 => (Aft.step h3 (s1.trans s2)).same o2 r2
theorem s_nil : PA X [] (tA p .nil) := pa_nil.imp fun σ H Q ⟨μ, S, σe, st, h⟩ => by
  rw [wpEs] at h
  exact h μ H [] (Step.refl _ _) st.ok RepL.nil
theorem s_cons (g : GX p k N bl xc sc sf X) {es : List Expr} {es' : Es} (hs : notStar a = true) (ha : PE X a (tE p a')) (hr : PA X es (tA p es')) : PA X (a :: es) (tA p (.cons a' es')) := by
  refine (pa_cons ha hr (star_cons hs)).imp fun σ H Q ⟨μ, S, σe, st, h⟩ => ?_
  rw [wpEs] at h
  exact tE_of g.gm st h fun u S1 h1 μ1 H1 x s1 o1 r1 => tA_of g.gm (st.next s1 o1) h1 fun us S2 h2 μ2 H2 xs s2 o2 r2 => h2 μ2 H2 (x :: xs) (s1.trans s2) o2 (RepL.cons (rep_mono s2 o1.lsts u x r1) r2)
theorem s_tup (g : GX p k N bl xc sc sf X) {es : List Expr} {es' : Es} {x1 : Nat} (h : PA X es (tA p es')) : PE X (.Tuple es x1 pos) (tE p (.tup es')) := by
  refine (pe_tup h).imp fun σ H Q ⟨μ, S, σe, st, h⟩ => ?_
  rw [wpE] at h
  exact tA_of g.gm st h fun us S1 h1 μ1 H1 vs s1 o1 r1 => ⟨by rw [← r1.length]; exact h1.1, fun q hq => (Aft.step h1.2 s1).tup o1 r1 q hq⟩
theorem s_lst (g : GX p k N bl xc sc sf X) {es : List Expr} {es' : Es} (h : PA X es (tA p es')) : PE X (.List es pos) (tE p (.lst es')) := by
  refine (pe_lst h).imp fun σ H Q ⟨μ, S, σe, st, h⟩ => ?_
  rw [wpE] at h
  exact tA_of g.gm st h fun us S1 h1 μ1 H1 vs s1 o1 r1 => ⟨by rw [← r1.length]; exact h1.1, fun q hq => (Aft.step h1.2 s1).new o1 r1 q hq⟩
theorem s_idx (g : GX p k N bl xc sc sf X) (hs : notSlice b = true) (ha : PE X a (tE p a')) (hb : PE X b (tE p b')) : PE X (.Subscript a b pos) (tE p (.idx a' b')) := by
  refine (pe_ix (ix_all (M := p.M) g.hK) ha hb (plain_ix hs)).imp fun σ H Q ⟨μ, S, σe, st, h⟩ => ?_
  rw [wpE] at h
  exact two_of g.gm st h fun u v S2 h2 μ2 H2 x y s2 o2 r1 r2 => ⟨μ2, S2, u, v, o2, r1, r2, idxp_mono (fun w S3 q => q.step s2) h2⟩
theorem s_none : PO X none (tOp2 p .none) := po_none.imp fun σ H Q ⟨μ, S, σe, st, h⟩ => by
  rw [wpO] at h
  exact h μ H (Step.refl _ _) st.ok
theorem intp_rep {M : Md} {μ : List Addr} {H : Hp} {u : U} {x : V} {P : Int → Prop} (r : Rep M μ H u x) (h : intp u P) : ∃ c, x = .int c ∧ P c := by
  cases u <;> first | exact h.elim | skip
  rw [Rep] at r
  exact ⟨_, r, h⟩
theorem s_some (g : GX p k N bl xc sc sf X) (ha : PE X a (tE p a')) : PO X (some a) (tOp2 p (.some a')) := by
  refine (po_some ha).imp fun σ H Q ⟨μ, S, σe, st, h⟩ => ?_
  rw [wpO] at h
  refine tE_of g.gm st h fun u S1 h1 μ1 H1 x s1 o1 r1 => ?_
  obtain ⟨i, e, h2⟩ := intp_rep r1 h1
  exact ⟨i, e, h2 μ1 H1 s1 o1⟩
theorem s_slc (g : GX p k N bl xc sc sf X) {lo hi : Option Expr} {lo' hi' : Oe} {p2 : Pos} (ha : PE X a (tE p a')) (hl : PO X lo (tOp2 p lo')) (hh : PO X hi (tOp2 p hi')) : PE X (.Subscript a (.Slice lo hi none p2) pos) (tE p (.slc a' lo' hi')) := by
  refine (pe_slice (sl_all (M := p.M) g.hK) ha hl hh).imp fun σ H Q ⟨μ, S, σe, st, h⟩ => ?_
  rw [wpE] at h
  exact tE_of g.gm st h fun u S1 h1 μ1 H1 x s1 o1 r1 => tO_of g.gm (st.next s1 o1) h1 fun l S2 h2 μ2 H2 s2 o2 => tO_of g.gm (st.next (s1.trans s2) o2) h2 fun m S3 h3 μ3 H3 s3 o3 =>
    ⟨μ3, S3, u, o3, rep_mono (s2.trans s3) o1.lsts u x r1, slcp_mono (fun w S4 q => q.step ((s1.trans s2).trans s3)) h3⟩
theorem s_rev (g : GX p k N bl xc sc sf X) {j : Nat} {p1 p2 p3 : Pos} (ha : PE X a (tE p a')) : PE X (.Subscript a (.Slice none none (some (.UnaryOp .USub (.Constant (.int 1) j p1) p2)) p3) pos) (tE p (.rev a')) := by
  refine (pe_revL ha).imp fun σ H Q ⟨μ, S, σe, st, h⟩ => ?_
  rw [wpE] at h
  refine tE_of g.gm st h fun u S1 h1 μ1 H1 x s1 o1 r1 => ?_
  unfold revp at h1
  split at h1
  · split at h1
    · rename_i e1
      rw [Rep] at r1
      obtain ⟨q, rfl, hm⟩ := r1
      obtain ⟨vs, h2, rl⟩ := o1.of hm e1
      exact ⟨q, vs, rfl, .inl (.inl h2), fun w hw => (Aft.step h1 s1).new o1 rl.reverse w hw⟩
    · exact h1.elim
  · exact h1.elim
/-- the exception of a callee -/
theorem exn_of (g : GX p k N bl xc sc sf X) {W : WX} (hW : ∀ c q σe S cls d σ H μ, StR p μ H S σe σ → ExR p.M c q cls d → p.Ex c q σe S → W cls d σ H) {μ : List Addr} {H : Hp} {S : Sto} {σe : Sl} {σ : L2.St} (st : StR p μ H S σe σ)
    {c : Str} {q : List (Str × U)} {S2 : Sto} (h : p.Ex c q σe S2) : ∀ μ2 H2 cls d, Step μ H μ2 H2 → StoreOk p.M μ2 H2 S2 → ExR p.M c q cls d → (fun cls d H2 => W cls d σ H2) cls d H2 :=
  fun μ2 H2 cls d s2 o2 r => hW c q σe S2 cls d σ H2 μ2 (st.next s2 o2) r h
theorem run_spec (g : GX p k N bl xc sc sf X) {W : WX} (hW : ∀ c q σe S cls d σ H μ, StR p μ H S σe σ → ExR p.M c q cls d → p.Ex c q σe S → W cls d σ H) {μ μ1 : List Addr} {H H1 : Hp} {S S1 : Sto} {σe : Sl} {σ : L2.St} (st : StR p μ H S σe σ) {f : Str} {sp : FSpec} (hf : p.G.fns f = some sp)
    {us : List U} {vs : List V} {Q : VK} (s1 : Step μ H μ1 H1) (o1 : StoreOk p.M μ1 H1 S1) (r : RepL p.M μ1 H1 us vs) (h : sp us S1 (Aft p.M μ H Q) fun c q S2 => p.Ex c q σe S2) : spU p.M sp vs H1 Q fun cls d H2 => W cls d σ H2 :=
  ⟨μ1, S1, us, o1, r, g.gm f sp hf us S1 _ _ _ _ (fun u S2 q => q.step s1) (fun c q S2 e => exn_of g hW (st.next s1 o1) e) h⟩
theorem s_call (g : GX p k N bl xc sc sf X) {x : Str} {pp : Pos} {e : Expr} {es : List Expr} {es' : Es} (hx : globB sc x = true) (hs : (e :: es).all notStar = true) (h : PA X (e :: es) (tA p es')) : PE X (.Call (.Name x pp) (e :: es) [] pos) (tE p (.call x es')) := by
  obtain ⟨a1, b1, _⟩ := glob_of g hx
  rw [List.all_cons, Bool.and_eq_true] at hs
  obtain ⟨W, tk, hW⟩ := g.tk
  cases ef : p.G.fns x with
  | none =>
    refine ⟨fun pins s σ H Q I ⟨μ, S, σe, st, hw⟩ => ?_⟩
    rw [wpE, ef] at hw
    exact hw.elim
  | some sp =>
    obtain ⟨fa, fd, ps, hm, hk, F, B⟩ := g.fns x sp ef
    refine (pe_callS (E := WE W) F g.room a1 (by rw [g.hmg]; exact hm) hk B (fun σ => passAt tk σ) h b1 (star_cons hs.1) (star_any hs.2)).imp fun σ H Q ⟨μ, S, σe, st, hw⟩ => ?_
    rw [wpE, ef] at hw
    exact tA_of g.gm st hw fun us S1 h1 μ1 H1 vs s1 o1 r1 => run_spec g hW st ef s1 o1 r1 h1
theorem s_call0 (g : GX p k N bl xc sc sf X) {x : Str} {pp : Pos} (hx : globB sc x = true) : PE X (.Call (.Name x pp) [] [] pos) (tE p (.call x .nil)) := by
  obtain ⟨a1, b1, _⟩ := glob_of g hx
  obtain ⟨W, tk, hW⟩ := g.tk
  cases ef : p.G.fns x with
  | none =>
    refine ⟨fun pins s σ H Q I ⟨μ, S, σe, st, hw⟩ => ?_⟩
    rw [wpE, ef] at hw
    exact hw.elim
  | some sp =>
    obtain ⟨fa, fd, ps, hm, hk, F, B⟩ := g.fns x sp ef
    refine ⟨fun pins s σ H Q I ⟨μ, S, σe, st, hw⟩ => ?_⟩
    rw [wpE, ef] at hw
    have hw' : sp [] S (Aft p.M μ H Q) fun c q S2 => p.Ex c q σe S2 := by
      have z : wpEs p.G .nil p.Ex σe S fun us S1 => sp us S1 (Aft p.M μ H Q) fun c q S2 => p.Ex c q σe S2 := hw
      rw [wpEs] at z
      exact z
    refine wpAny_Call_Name_kw (ld_glob I a1 (by rw [g.hmg]; exact hm) ?_ b1)
    exact PySem.W.callWith_K0 I.kIn hk (run_fnS (E := WE W) (us := []) (vs := []) F g.room B (passAt tk σ) I .nil
      (run_spec g hW st ef (Step.refl _ _) st.ok RepL.nil hw'))
theorem s_callL (g : GX p k N bl xc sc sf X) {i : Nat} {x : Str} {pp : Pos} {e : Expr} {es : List Expr} {es' : Es} (h1 : N[i]? = some x) (h2 : visB sc x = true) (h3 : okName x = true) (hs : (e :: es).all notStar = true) (h : PA X (e :: es) (tA p es')) :
    PE X (.Call (.Name x pp) (e :: es) [] pos) (tE p (.callL i es')) := by
  obtain ⟨a1, b1⟩ := ok_dbg h3
  rw [List.all_cons, Bool.and_eq_true] at hs
  obtain ⟨W, tk, hW⟩ := g.tk
  refine ⟨fun pins s σ H Q I ⟨μ, S, σe, st, hw⟩ => ?_⟩
  rw [wpE] at hw
  cases es0 : σe[i]? with
  | none => rw [es0] at hw; exact hw.elim
  | some o =>
    cases o with
    | none => rw [es0] at hw; exact hw.elim
    | some u =>
      rw [es0] at hw
      have hw : fnp u _ := hw
      cases u <;> first | exact hw.elim | skip
      rename_i f _
      obtain ⟨v, hv, rv⟩ := st.sl.get i _ es0
      rw [Rep] at rv
      obtain ⟨fa, rfl, hfa⟩ := rv
      have hw : optp (p.G.fns f) _ := hw
      cases ef : p.G.fns f with
      | none => rw [ef] at hw; exact hw.elim
      | some sp =>
        rw [ef] at hw
        obtain ⟨fb, fd, ps, hm, hk, F, B⟩ := g.fns f sp ef
        rw [hm] at hfa
        cases hfa
        have hvar := (pe_var (X := X) (i := i) (pos := pp) (by rw [g.hN]; exact h1) (by rw [g.hsc]; exact vis_of h2) a1 b1).run pins s σ H (fun v H1 => v = .ref fa ∧ H1 = H) I ⟨.ref fa, hv, rfl, rfl⟩
        refine wpAny_Call_Name_kw (thn hvar ?_)
        rintro w s1 ⟨v, H1, I1, r1, rfl, rfl⟩
        cases r1
        have hargs : tA p es' σ H1 fun vs H2 => spU p.M sp vs H2 Q fun cls d H3 => W cls d σ H3 :=
          tA_of g.gm st hw fun us S1 h1 μ1 H1 vs s1 o1 r1 => run_spec g hW st ef s1 o1 r1 h1
        refine PySem.W.callWith_K (h₀ := X.base) I.ok.mod.kin hk ?_ (star_cons hs.1) (star_any hs.2)
        refine thn (h.run pos pins s1 σ H1 _ I1 hargs) ?_
        rintro ul s2 ⟨vs, H2, I2, r, q⟩
        exact ⟨I2.kIn, run_fnS (E := WE W) F g.room B (passAt tk σ) I2 r q⟩
/-! ### built-in functions -/
theorem s_bi (g : GX p k N bl xc sc sf X) {f : Bi} {x : Str} {pp : Pos} {e : Expr} {es : List Expr} {es' : Es} (hf : biName f = x) (hb : x ∈ bl) (hx : globB sc x = true) (hs : (e :: es).all notStar = true) (h : PA X (e :: es) (tA p es')) :
    PE X (.Call (.Name x pp) (e :: es) [] pos) (tE p (.bi f es')) := by
  obtain ⟨a1, b1, c1⟩ := glob_of g hx
  rw [List.all_cons, Bool.and_eq_true] at hs
  have hm : X.mg x = none := by rw [g.hmg]; exact g.blt x hb
  have fin : ∀ σ H Q, tE p (.bi f es') σ H Q → tCB (rBi p.M f) (tA p es') σ H Q := fun σ H Q ⟨μ, S, σe, st, hw⟩ => by
    rw [wpE] at hw
    exact tA_of g.gm st hw fun us S1 h1 μ1 H1 vs s1 o1 r1 => ⟨μ1, S1, us, o1, r1, bip_mono (fun w S3 q => q.step s1) h1⟩
  subst hf
  cases f with
  | len => exact (pe_callB (call_len_b (M := p.M) g.hK) a1 hm (by decide +kernel) h c1 b1 (star_cons hs.1) (star_any hs.2)).imp fin
  | abs => exact (pe_callB (call_abs_b (M := p.M)) a1 hm (by decide +kernel) h c1 b1 (star_cons hs.1) (star_any hs.2)).imp fin
  | max => exact (pe_callB (call_max_b (M := p.M) g.calm) a1 hm (by decide +kernel) h c1 b1 (star_cons hs.1) (star_any hs.2)).imp fin
  | min => exact (pe_callB (call_min_b (M := p.M) g.calm) a1 hm (by decide +kernel) h c1 b1 (star_cons hs.1) (star_any hs.2)).imp fin
  | sum => exact (pe_callB (call_sum_b (M := p.M) (cr_sum g.calm)) a1 hm (by decide +kernel) h c1 b1 (star_cons hs.1) (star_any hs.2)).imp fin
  | any => exact (pe_callB (call_any_b (M := p.M) (cr_any g.calm)) a1 hm (by decide +kernel) h c1 b1 (star_cons hs.1) (star_any hs.2)).imp fin
  | all => exact (pe_callB (call_all_b (M := p.M) (cr_all g.calm)) a1 hm (by decide +kernel) h c1 b1 (star_cons hs.1) (star_any hs.2)).imp fin
  | int => exact (pe_callTy (call_int_b (M := p.M)) a1 hm (by decide +kernel) h c1 b1 (star_cons hs.1) (star_any hs.2)).imp fin
  | str => exact (pe_callTy (call_str_b (M := p.M)) a1 hm (by decide +kernel) h c1 b1 (star_cons hs.1) (star_any hs.2)).imp fin
  | tuple => exact (pe_callTy (call_tuple_b (M := p.M) g.hK) a1 hm (by decide +kernel) h c1 b1 (star_cons hs.1) (star_any hs.2)).imp fin
  | list => exact (pe_callTy (call_list_b (M := p.M) g.hK) a1 hm (by decide +kernel) h c1 b1 (star_cons hs.1) (star_any hs.2)).imp fin
theorem kit_boot {t : String} (h : isTy t = true) : bootBuiltins (Str.ofString t) = some (.type t) := by
  have hm := isTy_mem h
  simp only [List.mem_cons, List.mem_nil_iff, or_false] at hm
  rcases hm with rfl | rfl | rfl | rfl | rfl <;> decide +kernel
theorem s_isi (g : GX p k N bl xc sc sf X) {t : String} {pp p2 : Pos} (hb : Str.ofString "isinstance" ∈ bl) (hx : globB sc (Str.ofString "isinstance") = true) (hb2 : Str.ofString t ∈ bl) (hx2 : globB sc (Str.ofString t) = true) (ht : isTy t = true) (hs : notStar a = true) (ha : PE X a (tE p a')) :
    PE X (.Call (.Name (Str.ofString "isinstance") pp) [a, .Name (Str.ofString t) p2] [] pos) (tE p (.isi a' t)) := by
  obtain ⟨a1, b1, c1⟩ := glob_of g hx
  obtain ⟨a2, b2, c2⟩ := glob_of g hx2
  have hm : X.mg (Str.ofString "isinstance") = none := by rw [g.hmg]; exact g.blt _ hb
  have hm2 : X.mg (Str.ofString t) = none := by rw [g.hmg]; exact g.blt _ hb2
  have hn : PE X (.Name (Str.ofString t) p2) (tC (.ty t)) := pe_bltn a2 hm2 (kit_boot ht) rfl c2 b2
  refine (pe_callB (call_isi_b (M := p.M) g.hK ht) a1 hm (by decide +kernel) (pa_cons ha (pa_cons hn pa_nil) (star_cons hs)) c1 b1 (star_cons hs) rfl).imp fun σ H Q ⟨μ, S, σe, st, hw⟩ => ?_
  rw [wpE] at hw
  exact tE_of g.gm st hw fun u S1 h1 μ1 H1 x s1 o1 r1 => ⟨μ1, S1, u, x, rfl, o1, r1, isip_mono (fun b q => (Aft.step q s1).same o1 (repB b)) h1⟩
theorem s_meth (g : GX p k N bl xc sc sf X) {m : Me} {x : Str} {ap : Pos} {es : List Expr} {es' : Es} (hm : meName m = x) (hb : meB m = true) (hn : notCall a = true) (hl : (ap.endLine == pos.line) = true) (hf : es.length < 20) (hs : es.all notStar = true) (ha : PE X a (tE p a')) (h : PA X es (tA p es')) (he : es = [] → es' = .nil) :
    PE X (.Call (.Attribute a x ap) es [] pos) (tE p (.meth m a' es')) := by
  subst hm
  have ty : ∀ {u : U} {K : Prop} {S : Sto} {μ : List Addr} {H : Hp} {v : V}, StoreOk p.M μ H S → Rep p.M μ H u v → lstq u K → tyV X.K "list" v H ∧ K := by
    intro u K S μ H v o r q
    cases u <;> first | exact q.elim | skip
    rw [Rep] at r
    obtain ⟨z, rfl, hz⟩ := r
    obtain ⟨ws, e⟩ := o.mem (List.mem_of_getElem? hz)
    exact ⟨.inl ⟨rfl, _, .inl (.inl e)⟩, q⟩
  cases es with
  | nil =>
    obtain rfl := he rfl
    have fin : ∀ (r : V → List V → Hp → VK → Prop), (r = rMe p.M m) → ∀ σ H Q, tE p (.meth m a' .nil) σ H Q → tBM0 X.K "list" r (tE p a') σ H Q := by
      rintro r rfl σ H Q ⟨μ, S, σe, st, hw⟩
      rw [wpE] at hw
      refine tE_of g.gm st hw fun u S1 h1 μ1 H1 x s1 o1 r1 => ?_
      obtain ⟨h2, h3⟩ := ty o1 r1 h1
      rw [wpEs] at h3
      exact ⟨h2, μ1, S1, u, [], o1, r1, RepL.nil, mep_mono (fun w S3 q => q.step s1) h3⟩
    cases m with
    | append => exact (pe_bm0 PySem.F.plainAttrs_list PySem.F.slot_list_append PySem.F.type_list_append (mt_append_b (M := p.M)) ha (base_of hn) hl).imp (fin _ rfl)
    | extend => exact (pe_bm0 PySem.F.plainAttrs_list PySem.F.slot_list_extend PySem.F.type_list_extend (mt_extend_b (M := p.M)) ha (base_of hn) hl).imp (fin _ rfl)
    | pop => exact (pe_bm0 PySem.F.plainAttrs_list PySem.F.slot_list_pop PySem.F.type_list_pop (mt_pop_b (M := p.M)) ha (base_of hn) hl).imp (fin _ rfl)
    | join => cases hb
  | cons e es =>
    have hs0 := hs
    rw [List.all_cons, Bool.and_eq_true] at hs
    have fin : ∀ (r : V → List V → Hp → VK → Prop), (r = rMe p.M m) → ∀ σ H Q, tE p (.meth m a' es') σ H Q → tBM X.K "list" r (tE p a') (tA p es') σ H Q := by
      rintro r rfl σ H Q ⟨μ, S, σe, st, hw⟩
      rw [wpE] at hw
      refine tE_of g.gm st hw fun u S1 h1 μ1 H1 x s1 o1 r1 => ?_
      obtain ⟨h2, h3⟩ := ty o1 r1 h1
      exact ⟨h2, tA_of g.gm (st.next s1 o1) h3 fun us S2 h4 μ2 H2 vs s2 o2 r2 => ⟨μ2, S2, u, us, o2, rep_mono s2 o1.lsts u x r1, r2, mep_mono (fun w S3 q => q.step (s1.trans s2)) h4⟩⟩
    have few : ((backTo pos (starEach (e :: es) X.env)).all (fun x => !x.1) && (backToKw pos (keywordEach [] X.env)).all (fun x => x.1.isSome)
      && decide ((e :: es).length + ([] : List Keyword).length + (if ([] : List Keyword).isEmpty then 0 else 1) < 30)) = true := by
      rw [star_all hs0]
      have z : (e :: es).length + 0 + 0 < 30 := by omega
      show (true && true && decide ((e :: es).length + 0 + 0 < 30)) = true
      rw [decide_eq_true z]; rfl
    cases m with
    | append => exact (pe_bm PySem.F.plainAttrs_list PySem.F.slot_list_append PySem.F.type_list_append (mt_append_b (M := p.M)) ha h (base_of hn) few hl (star_cons hs.1) (star_any hs.2)).imp (fin _ rfl)
    | extend => exact (pe_bm PySem.F.plainAttrs_list PySem.F.slot_list_extend PySem.F.type_list_extend (mt_extend_b (M := p.M)) ha h (base_of hn) few hl (star_cons hs.1) (star_any hs.2)).imp (fin _ rfl)
    | pop => exact (pe_bm PySem.F.plainAttrs_list PySem.F.slot_list_pop PySem.F.type_list_pop (mt_pop_b (M := p.M)) ha h (base_of hn) few hl (star_cons hs.1) (star_any hs.2)).imp (fin _ rfl)
    | join => cases hb
/-! ### tests -/
theorem PT.W {op : BoolOp} {l : List Expr} {t : TT} (h : PT X (.BoolOp op l pos) t) : PW X (.BoolOp op l pos) t := ⟨fun whole pins s σ H Q I hw => h.run pins s σ H Q I hw⟩
theorem st_and (g : GX p k N bl xc sc sf X) {r : List Expr} (ha : PT X a (tT p a')) (hb : PW X (.BoolOp .And (b :: r) pos) (tT p b')) : PT X (.BoolOp .And (a :: b :: r) pos) (tT p (.andE a' b')) := by
  refine (PW.pt (pw_and ha hb)).imp fun σ H Q ⟨μ, S, σe, st, h⟩ => ?_
  rw [wpT] at h
  refine tT_of g.gm st h fun d S1 h1 μ1 H1 s1 o1 => ?_
  cases d with
  | true => exact tT_of g.gm (st.next s1 o1) h1 fun u S2 h3 μ2 H2 s2 o2 => h3 μ2 H2 (s1.trans s2) o2
  | false => exact h1 μ1 H1 s1 o1
theorem st_or (g : GX p k N bl xc sc sf X) {r : List Expr} (ha : PT X a (tT p a')) (hb : PW X (.BoolOp .Or (b :: r) pos) (tT p b')) : PT X (.BoolOp .Or (a :: b :: r) pos) (tT p (.orE a' b')) := by
  refine (PW.pt (pw_or ha hb)).imp fun σ H Q ⟨μ, S, σe, st, h⟩ => ?_
  rw [wpT] at h
  refine tT_of g.gm st h fun d S1 h1 μ1 H1 s1 o1 => ?_
  cases d with
  | false => exact tT_of g.gm (st.next s1 o1) h1 fun u S2 h3 μ2 H2 s2 o2 => h3 μ2 H2 (s1.trans s2) o2
  | true => exact h1 μ1 H1 s1 o1
theorem st_not (g : GX p k N bl xc sc sf X) (ha : PT X a (tT p a')) : PT X (.UnaryOp .Not a pos) (tT p (.notE a')) := by
  refine (pt_not ha).imp fun σ H Q ⟨μ, S, σe, st, h⟩ => ?_
  rw [wpT] at h
  exact tT_of g.gm st h fun d S1 h1 μ1 H1 s1 o1 => h1 μ1 H1 s1 o1
theorem st_tst (g : GX p k N bl xc sc sf X) (hp : plainTest a = true) (ha : PE X a (tE p a')) : PT X a (tT p (.tst a')) := by
  refine (pt_truth ha (test_of hp)).imp fun σ H Q ⟨μ, S, σe, st, h⟩ => ?_
  rw [wpT] at h
  refine tE_of g.gm st h fun u S1 h1 μ1 H1 x s1 o1 r1 => ?_
  obtain ⟨k, hk, q⟩ := tru_rep o1 r1 h1
  exact ⟨k, by rw [g.hK]; exact hk, q μ1 H1 s1 o1⟩
theorem st_cmp (g : GX p k N bl xc sc sf X) {o : CO} {op : CmpOp} (ho : copB o op = true) (hm : behindInMarks op b = false) (ha : PE X a (tE p a')) (hb : PE X b (tE p b')) : PT X (.Compare a [op] [b] pos) (tT p (.tst (.cmp o a' b'))) := by
  obtain rfl := copB_eq ho
  refine (pt_cmpR (op_cop (M := p.M) g.hK g.room.units o) ha hb hm).imp fun σ H Q ⟨μ, S, σe, st, h⟩ => ?_
  rw [wpT, wpE] at h
  exact two_of g.gm st h fun u v S2 h2 μ2 H2 x y s2 o2 r1 r2 => ⟨μ2, S2, u, v, o2, r1, r2, cop_mono (fun d q => ⟨d, rfl, (show AftT p.M μ H Q d S2 from q) μ2 H2 s2 o2⟩) h2⟩
theorem st_cmp2 (g : GX p k N bl xc sc sf X) {o o2 : CO} {op op2 : CmpOp} (ho : copB o op = true) (ho2 : copB o2 op2 = true) (hm : lastMarks [op, op2] [b, c] = false) (ha : PE X a (tE p a')) (hb : PE X b (tE p b')) (hc : PE X c (tE p c')) :
    PT X (.Compare a [op, op2] [b, c] pos) (tT p (.tst (.cmp2 o o2 a' b' c'))) := by
  obtain rfl := copB_eq ho
  obtain rfl := copB_eq ho2
  refine (pt_chain (op_cop (M := p.M) g.hK g.room.units o) (op_cop (M := p.M) g.hK g.room.units o2) ha hb hc hm).imp fun σ H Q ⟨μ, S, σe, st, h⟩ => ?_
  rw [wpT, wpE] at h
  refine tE_of g.gm st h fun u S1 h1 μ1 H1 x s1 o1 r1 => tE_of g.gm (st.next s1 o1) h1 fun v S2 h2 μ2 H2 y s2 o2 r2 => ?_
  refine ⟨μ2, S2, u, v, o2, rep_mono s2 o1.lsts u x r1, r2, cop_mono (fun d q => ⟨d, rfl, ?_⟩) h2⟩
  cases d with
  | false => exact ⟨false, rfl, (show AftT p.M μ H Q false S2 from q) μ2 H2 (s1.trans s2) o2⟩
  | true => exact tE_of g.gm (st.next (s1.trans s2) o2) q fun w S3 h3 μ3 H3 z s3 o3 r3 => ⟨μ3, S3, v, w, o3, rep_mono s3 o2.lsts v y r2, r3, cop_mono (fun d q => ⟨d, rfl, (show AftT p.M μ H Q d S3 from q) μ3 H3 ((s1.trans s2).trans s3) o3⟩) h3⟩
theorem st_isN (g : GX p k N bl xc sc sf X) {j : Nat} {p2 : Pos} (ha : PE X a (tE p a')) : PT X (.Compare a [.Is] [.Constant .none j p2] pos) (tT p (.tst (.isN a'))) := by
  refine (pt_cmp (pc_isN ha) rfl).imp fun σ H Q ⟨μ, S, σe, st, h⟩ => ?_
  rw [wpT, wpE] at h
  refine tE_of g.gm st h fun u S1 h1 μ1 H1 x s1 o1 r1 => ?_
  rw [isNon_rep r1]
  exact ⟨_, rfl, (show AftT p.M μ H Q _ S1 from h1) μ1 H1 s1 o1⟩
theorem st_notN (g : GX p k N bl xc sc sf X) {j : Nat} {p2 : Pos} (ha : PE X a (tE p a')) : PT X (.Compare a [.IsNot] [.Constant .none j p2] pos) (tT p (.tst (.notN a'))) := by
  refine (pt_cmp (pc_notN ha) rfl).imp fun σ H Q ⟨μ, S, σe, st, h⟩ => ?_
  rw [wpT, wpE] at h
  refine tE_of g.gm st h fun u S1 h1 μ1 H1 x s1 o1 r1 => ?_
  rw [isNon_rep r1]
  exact ⟨_, rfl, (show AftT p.M μ H Q _ S1 from h1) μ1 H1 s1 o1⟩
theorem st_c0 : PTs X [] (tC2 p .none) := pts_nil.imp fun σ H Q ⟨μ, S, σe, st, h⟩ => by
  rw [wpC] at h
  exact h μ H (Step.refl _ _) st.ok
theorem st_c1 (ha : PT X a (tT p a')) : PTs X [a] (tC2 p (.some a')) := (pts_one ha).imp fun σ H Q ⟨μ, S, σe, st, h⟩ => by
  rw [wpC] at h
  exact ⟨μ, S, σe, st, h⟩
/-! ### targets -/
theorem sto_of (g : GX p k N bl xc sc sf X) {x : Str} (h : stoB sc sf x = true) : Loc X.env.scope x ∧ (X.fn x = true ∨ X.env.scope.names.lookup x = some .local) := by
  rw [g.hsc]
  unfold stoB at h
  split at h
  · rename_i e; exact ⟨.inl e, .inr e⟩
  · rename_i e; exact ⟨.inr e, .inl (g.fn _ h)⟩
  · cases h
theorem Chg.refl (l : List Nat) (σ : L2.St) : Chg l σ σ := ⟨rfl, fun _ _ => rfl⟩
theorem Chg.set (i : Nat) (σ : L2.St) (v : Option V) : Chg [i] σ (σ.set i v) := ⟨List.length_set, fun j h => List.getElem?_set_ne (fun e => h (by rw [e]; simp))⟩
theorem Chg.append {l m : List Nat} {σ σ1 σ2 : L2.St} (a : Chg l σ σ1) (b : Chg m σ1 σ2) : Chg (l ++ m) σ σ2 := ⟨b.1.trans a.1, fun i h => (b.2 i fun z => h (List.mem_append_right _ z)).trans (a.2 i fun z => h (List.mem_append_left _ z))⟩
theorem sg_name (g : GX p k N bl xc sc sf X) {i : Nat} {x : Str} (h1 : N[i]? = some x) (h2 : stoB sc sf x = true) : PG X (.Name x pos) (tGt p (.name i)) := by
  obtain ⟨l, f⟩ := sto_of g h2
  refine (pg_name (i := i) (by rw [g.hN]; exact g.nd) (by rw [g.hN]; exact h1) l f).imp fun v σ H Q ⟨μ, S, σe, u, st, r, h⟩ => ?_
  rw [wpTg] at h
  exact h μ H _ (Step.refl _ _) st.ok (st.sl.set i r) (by rw [nmsT]; exact Chg.set i σ _)
theorem sg_sub (g : GX p k N bl xc sc sf X) (hs : notSlice b = true) (ha : PE X a (tE p a')) (hb : PE X b (tE p b')) : PG X (.Subscript a b pos) (tGt p (.sub a' b')) := by
  refine (pg_sub ha hb (set_all (M := p.M)) (sub_asg hs)).imp fun v σ H Q ⟨μ, S, σe, u, st, r, h⟩ => ?_
  rw [wpTg] at h
  exact two_of g.gm st h fun w z S2 h2 μ2 H2 x y s2 o2 r1 r2 => ⟨μ2, S2, w, z, u, o2, r1, r2, rep_mono s2 st.ok.lsts u v r, setp_mono (fun S3 q μ3 H3 s3 o3 => q μ3 H3 σ (s2.trans s3) o3 (st.sl.mono (s2.trans s3) st.ok.lsts) (Chg.refl _ _)) h2⟩
theorem sg_nil : PGs X [] (tGs p .nil) := pgs_nil.imp fun v σ H Q ⟨μ, S, σe, us, st, r, h⟩ => by
  rw [wpTs] at h
  cases us with
  | nil =>
    rw [RepL] at r
    exact ⟨r, h μ H σ (Step.refl _ _) st.ok st.sl (Chg.refl _ _)⟩
  | cons _ _ => exact h.elim
theorem sg_cons (g : GX p k N bl xc sc sf X) {t : T} {ts : Ts} {es : List Expr} (hs : notStar a = true) (h1 : PG X a (tGt p t)) (h2 : PGs X es (tGs p ts)) : PGs X (a :: es) (tGs p (.cons t ts)) := by
  refine (pgs_cons h1 h2 (by rw [asg_cons hs]; rfl)).imp fun v σ H Q ⟨μ, S, σe, us, st, r, h⟩ => ?_
  rw [wpTs] at h
  cases us with
  | nil => exact h.elim
  | cons u us =>
    rw [RepL] at r
    obtain ⟨x, xs, e, r1, r2⟩ := r
    refine ⟨x, xs, e, tG_of g.gm st r1 h fun σe1 S1 k1 μ1 H1 σ1 s1 o1 l1 c1 => ?_⟩
    refine tGs_of g.gm ⟨st.st.trans s1, o1, l1⟩ (repL_mono s1 st.ok.lsts us xs r2) k1 fun σe2 S2 k2 μ2 H2 σ2 s2 o2 l2 c2 => ?_
    exact k2 μ2 H2 σ2 (s1.trans s2) o2 l2 (by rw [nmsTs]; exact c1.append c2)
theorem sg_tup (g : GX p k N bl xc sc sf X) {ts : Ts} {es : List Expr} {j : Nat} (hs : es.all notStar = true) (hl : es.length = lenTs ts) (h1 : PGs X es (tGs p ts)) : PG X (.Tuple es j pos) (tGt p (.tup ts)) := by
  refine (pg_tup g.calm h1 (asg_len hs) (asg_none hs)).imp fun v σ H Q ⟨μ, S, σe, u, st, r, h⟩ => ?_
  rw [wpTg] at h
  cases u <;> first | exact h.elim | skip
  have h : _ ∧ wpTs p.G ts p.Ex _ σe S _ := h
  rw [Rep] at r
  obtain ⟨q, vs, e, hq, rl⟩ := r
  refine ⟨q, vs, e, by rw [g.hK]; exact hq, by rw [← rl.length, hl]; exact h.1, tGs_of g.gm st rl h.2 fun σe2 S2 k2 μ2 H2 σ2 s2 o2 l2 c2 => k2 μ2 H2 σ2 s2 o2 l2 (by rw [nmsT]; exact c2)⟩
end
end Q

set_option Elab.async false
set_option linter.all false
set_option maxRecDepth 100000
set_option maxHeartbeats 8000000
/-! QSound3: what is walked, comprehensions, all expressions together. -/
namespace Q
open PySem PySem.Spec PyProof.Rows L2
section
variable {X : Cx} {tg : Expr} {pins : List (Addr × Obj)} {σ : L2.St} {H1 : Hp} {s1 : Shared} {a : Addr} {xs : List V} {R : L2.It → Hp → Prop}
/-- an iterator over what stands at a -/
theorem walk_at (I1 : Inv X pins σ H1 s1) {o : Obj} {J : L2.It} {tn : Nat → Heap → Prop} (T : Turn X.prog X.w X.K tg J [s1.heap.objs.size] s1.heap.objs.size tn) (h0 : tn 0 (s1.heap.push o)) (q : R J H1) :
    PIE X pins σ tg R (.ref s1.heap.objs.size) { s1 with heap := s1.heap.push o } := by
  have I2 : Inv X pins σ H1 { s1 with heap := s1.heap.push o } := I1.kept (t' := s1.toks) fun _ _ e => Heap.get?_push_of_some _ e
  refine ⟨_, [s1.heap.objs.size], tn, J, H1, rfl, I2, T, h0, ?_, q⟩
  intro b hb
  obtain rfl : b = s1.heap.objs.size := by simpa using hb
  exact I1.fpOk (Nat.le_refl _) (I1.hok.fresh (Nat.le_refl _))
theorem iter_lst (I1 : Inv X pins σ H1 s1) (hq : SqL X.K H1 a xs) (q : R (Itl X.K a) H1) : wpAny (model X.prog X.w) X.A (pyIter (.ref a)) (PIE X pins σ tg R) X.xe s1 := by
  obtain ⟨its, rv, pl, hz⟩ := I1.list hq
  exact wpAny_pyIter_list pl.isList (walk_at I1 (turn_list a _) ⟨_, Heap.get?_push_size _ rfl, rfl, rfl⟩ q)
theorem iter_tup (I1 : Inv X pins σ H1 s1) (hq : SqT X.K H1 a xs) (q : R (Itt X.K a) H1) : wpAny (model X.prog X.w) X.A (pyIter (.ref a)) (PIE X pins σ tg R) X.xe s1 := by
  obtain ⟨its, rv, pl, hz⟩ := I1.tuple hq
  exact wpAny_pyIter_tuple (show s1.heap.IsTuple a its.toArray from pl) (walk_at I1 (turn_tuple a _) ⟨_, Heap.get?_push_size _ rfl, rfl, rfl⟩ q)
def iSeq (K : PySem.W.Frag) (tl : TE) : TI := fun σ H R => tl σ H fun x H1 => ∃ a, x = .ref a ∧ (((∃ xs, SqL K H1 a xs) ∧ R (Itl K a) H1) ∨ ((∃ xs, SqT K H1 a xs) ∧ R (Itt K a) H1))
theorem pi_seq {l : Expr} {tl : TE} (hl : PE X l tl) : PI X tg l (iSeq X.K tl) := by
  refine ⟨fun pins s σ H R I h => thn (hl.run pins s σ H _ I h) ?_⟩
  rintro v s1 ⟨x, H1, I1, r1, b, rfl, q⟩
  cases r1
  rcases q with ⟨⟨ys, hq⟩, q⟩ | ⟨⟨ys, hq⟩, q⟩
  · exact iter_lst I1 hq q
  · exact iter_tup I1 hq q
end
section
variable {M : Md} {μ1 : List Addr} {H1 : Hp}
theorem sr_tup {K : PySem.W.Frag} (hK : K = M.K) (hl : Lsts μ1 H1) {a : Addr} {l : List U} {vs : List V} (hs : SqT M.K H1 a vs) (r : RepL M μ1 H1 l vs) (one : ∀ ys, SqT K H1 a ys → True) : SrR M μ1 H1 ⟨l, fun _ => True⟩ (Itt K a) where
  go := fun μ H S i s o _ hi => by
    obtain ⟨v, hv, _⟩ := (repL_mono s hl l vs r).get (List.getElem?_eq_getElem hi)
    exact ⟨vs, v, by rw [hK]; exact sqT_mono s hl hs, hv⟩
  stop := fun μ H S i s o _ hi => ⟨vs, by rw [hK]; exact sqT_mono s hl hs, by rw [← r.length]; exact hi⟩
  yld := fun μ H S i x H' u s o _ hu hy => by
    obtain ⟨rfl, hx⟩ := hy
    obtain ⟨v, hv, rv⟩ := (repL_mono s hl l vs r).get hu
    have e := hx vs (by rw [hK]; exact sqT_mono s hl hs)
    rw [hv] at e; cases e
    exact ⟨Step.refl _ _, o, rv⟩
theorem sr_lst {K : PySem.W.Frag} {a : Addr} {n : Nat} {l : List U} (hm : μ1[n]? = some a) : SrR M μ1 H1 ⟨l, fun S2 => S2[n]? = some (.lst l)⟩ (Itl K a) where
  go := fun μ H S i s o g hi => by
    obtain ⟨vs, h, r⟩ := o.of (s.get hm) g
    obtain ⟨v, hv, _⟩ := r.get (List.getElem?_eq_getElem hi)
    exact ⟨vs, v, .inl (.inl h), hv⟩
  stop := fun μ H S i s o g hi => by
    obtain ⟨vs, h, r⟩ := o.of (s.get hm) g
    exact ⟨vs, .inl (.inl h), by rw [← r.length]; exact hi⟩
  yld := fun μ H S i x H' u s o g hu hy => by
    obtain ⟨rfl, hx⟩ := hy
    obtain ⟨vs, h, r⟩ := o.of (s.get hm) g
    obtain ⟨v, hv, rv⟩ := r.get hu
    have e := hx vs (.inl (.inl h))
    rw [hv] at e; cases e
    exact ⟨Step.refl _ _, o, rv⟩
theorem rngL_len (lo : Int) (n : Nat) : (rngL lo n).length = n := by unfold rngL; simp
theorem sr_rng {lo : Int} {n : Nat} : SrR M μ1 H1 ⟨rngL lo n, fun _ => True⟩ (Itr lo n) where
  go := fun μ H S i s o g hi => by
    have hi : i < (rngL lo n).length := hi
    rw [rngL_len] at hi; exact hi
  stop := fun μ H S i s o g hi => by
    have hi : (rngL lo n).length ≤ i := hi
    rw [rngL_len] at hi; exact hi
  yld := fun μ H S i x H' u s o g hu hy => by
    obtain ⟨rfl, rfl⟩ := hy
    have hu : (rngL lo n)[i]? = some u := hu
    unfold rngL at hu
    rw [List.getElem?_map] at hu
    cases e : (List.range n)[i]? with
    | none => rw [e] at hu; cases hu
    | some j =>
      rw [e] at hu
      cases hu
      have := List.getElem?_eq_some_iff.mp e
      obtain ⟨h1, h2⟩ := this
      simp at h2
      subst h2
      exact ⟨Step.refl _ _, o, repI _⟩
theorem downL_len (j : Int) : (downL j).length = (j + 1).toNat := by unfold downL; simp
theorem sr_down {j : Int} : SrR M μ1 H1 ⟨downL j, fun _ => True⟩ (Itc j (-1) (j - -1).toNat) where
  go := fun μ H S i s o g hi => by
    have hi : i < (downL j).length := hi
    rw [downL_len] at hi
    show i < _
    omega
  stop := fun μ H S i s o g hi => by
    have hi : (downL j).length ≤ i := hi
    rw [downL_len] at hi
    show _ ≤ i
    omega
  yld := fun μ H S i x H' u s o g hu hy => by
    obtain ⟨rfl, rfl⟩ := hy
    have hu : (downL j)[i]? = some u := hu
    unfold downL at hu
    rw [List.getElem?_map] at hu
    cases e : (List.range (j + 1).toNat)[i]? with
    | none => rw [e] at hu; cases hu
    | some m =>
      rw [e] at hu
      cases hu
      obtain ⟨h1, h2⟩ := List.getElem?_eq_some_iff.mp e
      simp at h2
      subst h2
      refine ⟨Step.refl _ _, o, ?_⟩
      rw [Rep]
      congr 1
      omega
end
section
variable {p : Pm} {k : Nat} {N bl xc : List Str} {sc : Scope} {sf : Str → Bool} {X : Cx} {a b c tg : Expr} {a' b' c' : E} {pos : Pos}
theorem si_seq (g : GX p k N bl xc sc sf X) (ha : PE X a (tE p a')) : PI X tg a (tIt p (.seq a')) := by
  refine (pi_seq ha).imp fun σ H R ⟨μ, S, σe, st, h⟩ => ?_
  rw [wpI] at h
  refine tE_of g.gm st h fun u S1 h1 μ1 H1 x s1 o1 r1 => ?_
  unfold srcp at h1
  split at h1
  · rw [Rep] at r1
    obtain ⟨q, vs, rfl, hq, rl⟩ := r1
    exact ⟨q, rfl, .inr ⟨⟨vs, by rw [g.hK]; exact hq⟩, h1 μ1 H1 _ s1 o1 (sr_tup g.hK o1.lsts hq rl fun _ _ => trivial)⟩⟩
  · split at h1
    · rename_i e1
      rw [Rep] at r1
      obtain ⟨q, rfl, hm⟩ := r1
      obtain ⟨vs, hv, rl⟩ := o1.of hm e1
      exact ⟨q, rfl, .inl ⟨⟨vs, .inl (.inl hv)⟩, h1 μ1 H1 _ s1 o1 (sr_lst hm)⟩⟩
    · exact h1.elim
  · exact h1.elim
theorem si_rng1 (g : GX p k N bl xc sc sf X) {x : Str} {pp : Pos} (e : x = Str.ofString "range") (hb : x ∈ bl) (hx : globB sc x = true) (hs : notStar a = true) (ha : PE X a (tE p a')) : PI X tg (.Call (.Name x pp) [a] [] pos) (tIt p (.rng1 a')) := by
  subst e
  obtain ⟨a1, b1, c1⟩ := glob_of g hx
  refine (pi_range1 a1 (by rw [g.hmg]; exact g.blt _ hb) (pa_cons ha pa_nil (star_cons hs)) (star_cons hs)).imp fun σ H R ⟨μ, S, σe, st, h⟩ => ?_
  rw [wpI] at h
  refine tE_of g.gm st h fun u S1 h1 μ1 H1 x s1 o1 r1 => ?_
  obtain ⟨j, rfl, h2⟩ := intp_rep r1 h1
  exact ⟨j, rfl, h2.1.1, h2.1.2, h2.2 μ1 H1 _ s1 o1 sr_rng⟩
theorem si_rng2 (g : GX p k N bl xc sc sf X) {x : Str} {pp : Pos} (e : x = Str.ofString "range") (hb : x ∈ bl) (hx : globB sc x = true) (hs : notStar a = true) (hs2 : notStar b = true) (ha : PE X a (tE p a')) (hb' : PE X b (tE p b')) : PI X tg (.Call (.Name x pp) [a, b] [] pos) (tIt p (.rng2 a' b')) := by
  subst e
  obtain ⟨a1, b1, c1⟩ := glob_of g hx
  refine (pi_range2 a1 (by rw [g.hmg]; exact g.blt _ hb) (pa_cons ha (pa_cons hb' pa_nil (star_cons hs2)) (star_cons hs)) (by rw [star_cons hs, star_cons hs2]; rfl) (star_cons hs2)).imp fun σ H R ⟨μ, S, σe, st, h⟩ => ?_
  rw [wpI] at h
  refine two_of g.gm st h fun u v S2 h2 μ2 H2 x y s2 o2 r1 r2 => ?_
  obtain ⟨i, rfl, h3⟩ := intp_rep r1 h2
  obtain ⟨j, rfl, h4⟩ := intp_rep r2 h3
  exact ⟨i, j, rfl, h4.1, h4.2 μ2 H2 _ s2 o2 sr_rng⟩
theorem si_down (g : GX p k N bl xc sc sf X) {x : Str} {pp p1 p2 p3 p4 : Pos} {k1 k2 : Nat} (e : x = Str.ofString "range") (hb : x ∈ bl) (hx : globB sc x = true) (hs : notStar a = true) (ha : PE X a (tE p a')) :
    PI X tg (.Call (.Name x pp) [a, .UnaryOp .USub (.Constant (.int 1) k1 p1) p2, .UnaryOp .USub (.Constant (.int 1) k2 p3) p4] [] pos) (tIt p (.down a')) := by
  subst e
  obtain ⟨a1, b1, c1⟩ := glob_of g hx
  refine (pi_range3 a1 (by rw [g.hmg]; exact g.blt _ hb) (pa_cons ha (pa_cons (pe_un un_neg pe_int) (pa_cons (pe_un un_neg pe_int) pa_nil)) (star_cons hs)) (star_cons hs) rfl).imp fun σ H R ⟨μ, S, σe, st, h⟩ => ?_
  rw [wpI] at h
  refine tE_of g.gm st h fun u S1 h1 μ1 H1 x s1 o1 r1 => ?_
  obtain ⟨j, rfl, h2⟩ := intp_rep r1 h1
  exact ⟨1, rfl, 1, rfl, j, -1, -1, _, rfl, RgC.neg h2.1.1 h2.1.2 (by decide) (by decide), h2.2 μ1 H1 _ s1 o1 sr_down⟩
end
end Q

set_option Elab.async false
set_option linter.all false
set_option maxRecDepth 100000
set_option maxHeartbeats 4000000
/-! QEnum: enumerate(t), t a tuple. -/
namespace Q
open PySem PySem.Spec PyProof.Rows L2
open Sem (wp)
open AutoSeq1 (wpAny_loadPart')
theorem enum_new_tup (t : Addr) (its : Array Value) (ob : Obj) :
    Meets (Builtin.«enumerate.__new__» ⟨[.type "enumerate", .ref t], []⟩) (fun _ R s => (s.heap.get? t = some ob ∧ ob.cls = .type "tuple" ∧ ∃ n, ob.data = .seq its n) ∧
      R (.ok (.ret (.ref (s.heap.push { cls := .type "tuple_iterator", data := .fields #[.ref t, .int 0 0] }).objs.size)))
        { s with heap := (s.heap.push { cls := .type "tuple_iterator", data := .fields #[.ref t, .int 0 0] }).push { cls := .type "enumerate", data := .fields #[.none, .bool false, .ref s.heap.objs.size, rawInt 0, .none, .none] } }) :=
  .of_wp fun prog w A R s h => by
    obtain ⟨hp, g, d, tk, os⟩ := s
    obtain ⟨ht, h⟩ := h
    have subE := sub_enumerate
    have isT : Heap.IsTuple (Shared.heap ⟨hp, g, d, tk, os⟩) t its := ⟨_, ht⟩
    obtain ⟨hg, hc, n, hd⟩ := ht
    wp_walk using wpAny_loadPart' hg
    refine wpAny_stack_any fun st => wpAny_pure ?_
    split
    · rename_i c _ _ _ _ _
      cases (c == Value.type "enumerate")
      · wp_walk using wpAny_loadPart' hg, wpAny_pyIter_tuple isT
        exact ⟨_, rfl, h⟩
      · wp_walk using wpAny_loadPart' hg, wpAny_pyIter_tuple isT
        exact ⟨_, rfl, h⟩
    · wp_walk using wpAny_loadPart' hg, wpAny_pyIter_tuple isT
      exact ⟨_, rfl, h⟩
section
variable {prog : Program} {w : World} {A : Around} {E : Value → Shared → Prop} {s : Shared}
theorem enum_call_tup {t : Addr} {its : Array Value} {Q : Value → Shared → Prop} (ht : s.heap.IsTuple t its)
    (k : ∀ hp, IsEnum hp (s.heap.objs.size + 1) s.heap.objs.size 0 .none → hp.IsTupleIter s.heap.objs.size t 0 → (∀ b o, s.heap.get? b = some o → hp.get? b = some o) → Q (.ref (s.heap.objs.size + 1)) { s with heap := hp }) :
    wpAny (model prog w) A (call (.type "enumerate") [.ref t]) Q E s := by
  obtain ⟨ob, ht⟩ := ht
  refine callType_new F.called_enumerate (by decide) (F.typeCall_enumerate_1 _) (F.newCall_enumerate_1 _) (fun obj => F.args_object_init_2 obj _) F.entry_enumerate_new (enum_new_tup t its ob) ⟨ht, ?_⟩
  have sz1 : (s.heap.push { cls := .type "tuple_iterator", data := .fields #[.ref t, .int 0 0] }).objs.size = s.heap.objs.size + 1 := Heap.size_push ..
  show _ ∧ _
  rw [sz1]
  have en : IsEnum ((s.heap.push { cls := .type "tuple_iterator", data := .fields #[.ref t, .int 0 0] }).push
      { cls := .type "enumerate", data := .fields #[.none, .bool false, .ref s.heap.objs.size, rawInt 0, .none, .none] }) (s.heap.objs.size + 1) s.heap.objs.size 0 .none := by
    have z := Heap.get?_push_size (s.heap.push { cls := .type "tuple_iterator", data := .fields #[.ref t, .int 0 0] })
      (o := { cls := .type "enumerate", data := .fields #[.none, .bool false, .ref s.heap.objs.size, rawInt 0, .none, .none] }) rfl
    rw [sz1] at z
    exact z
  exact ⟨⟨_, en, rfl⟩, k _ en ⟨_, Heap.get?_push_of_some _ (Heap.get?_push_size _ rfl), rfl, rfl⟩ fun b o x => Heap.get?_push_of_some _ (Heap.get?_push_of_some _ x)⟩
end
theorem enum_end_tup {prog : Program} {w : World} {A : Around} {E : Value → Shared → Prop} {s : Shared} {e it t : Addr} {i : Nat} {c : Int} {its : Array Value} {old : Value} {Q : Option Value → Shared → Prop} (hh : A.handled = none)
    (en : IsEnum s.heap e it c old) (hit : s.heap.IsTupleIter it t i) (ht : s.heap.IsTuple t its) (hx : its[i]? = none) (k : ∀ hp, Heap.ExtBut it s.heap hp → Q none { s with heap := hp }) : wpAny (model prog w) A (pyNext (.ref e)) Q E s := by
  have ty : s.TypeIs (.ref e) "enumerate" := ⟨_, en, rfl⟩
  unfold pyNext
  refine wpAny_bind (wpAny_attempt (wpAny_callSpecial?_slot (name := Str.ofString "__next__") ty F.slot_enumerate_next (wpAny_call_entry F.slot_enumerate_next ty F.entry_enumerate_next ?_ (F.args_enumerate_next_1 _))))
  show wpAny _ _ (field (.ref e) 2 >>= _) _ _ _
  refine wpAny_bind (wpAny_field en rfl (x := .ref it) rfl ?_)
  refine wpAny_bind (wpAny_nextOf_tuple_end hh hit ht hx fun hp x eb ⟨o, ho, hc⟩ => ?_)
  exact wpAny_bind (wpAny_isInstance (T := "StopIteration") (b := true) ⟨o, ho, hc⟩ isSubtype_stop (wpAny_pure (k _ eb)))
/-- the tuple at a, each item in a new pair -/
def ItE (K : PySem.W.Frag) (a : Addr) : L2.It :=
  ⟨fun i H => ∃ (xs : List V) (x : V), SqT K H a xs ∧ xs[i]? = some x, fun i H v H2 => ∃ T x, v = .ref T ∧ H T = none ∧ H2 = upd H T (.tup [.int (i : Nat), x]) ∧ ∀ xs, SqT K H a xs → xs[i]? = some x, fun i H => ∃ xs : List V, SqT K H a xs ∧ xs.length ≤ i⟩
theorem turn_enT {P : Program} {w : World} {K : PySem.W.Frag} {elts : List Expr} {kk : Nat} {tpos : Pos} (a e it : Addr) :
    Turn P w K (.Tuple elts kk tpos) (ItE K a) [e, it] e (fun i h => (∃ old, IsEnum h e it ((i : Nat) : Int) old) ∧ h.IsTupleIter it a i ∧ e ≠ it) where
  mem := List.mem_cons_self
  obj := fun i h ⟨⟨old, en⟩, ⟨o, go, _, gd⟩, _⟩ b hb => by
    rcases List.mem_cons.1 hb with z | z
    · rw [z]
      exact ⟨_, en, fun v q => nomatch q⟩
    · rw [List.mem_singleton.1 z]
      exact ⟨o, go, fun v q => by rw [gd] at q; cases q⟩
  keep := fun i h h2 ⟨⟨old, en⟩, hit, ne⟩ k => ⟨⟨old, k e List.mem_cons_self _ en⟩, hit.at fun o q => k it (by simp) o q, ne⟩
  item := by
    intro X hP hw hK hc i pins s σ H E I hf st hg
    subst hP hw hK
    obtain ⟨⟨old, en⟩, hit, ne⟩ := st
    obtain ⟨xs, x, hq, hx⟩ := hg
    obtain ⟨its, rv, isT, _⟩ := I.tuple hq
    have isT : s.heap.IsTuple a its.toArray := isT
    have nea : a ≠ it := fun z => by
      obtain ⟨o1, g1, c1, _⟩ := hit
      obtain ⟨o2, g2, c2, _⟩ := isT
      rw [z, g1] at g2
      cases g2
      rw [c1] at c2
      exact absurd c2 (by decide +kernel)
    have nee : e ≠ a := fun z => by
      obtain ⟨o2, g2, c2, _⟩ := isT
      have g1 : s.heap.get? e = some _ := en
      rw [z, g2] at g1
      cases g1
      exact absurd (show Value.type "enumerate" = Value.type "tuple" from c2) (by decide +kernel)
    have D : Draws X.prog X.w X.A.in1 it [it, a] its.toArray.size (fun i v => its.toArray[i]? = some v) (fun i h => h.IsTupleIter it a i ∧ h.IsTuple a its.toArray) := Draws.tuple (A := X.A.in1) (I.ok.hd hc) it a nea its.toArray
    have lte : e < s.heap.objs.size := Heap.lt_size en
    have lti : it < s.heap.objs.size := by obtain ⟨_, q, _⟩ := hit; exact Heap.lt_size q
    have hlen : i < its.toArray.size := by
      have h1 := rv.length
      have h2 := (List.getElem?_eq_some_iff.1 hx).1
      simp
      omega
    refine wpAny_pyNext_enum_itemD D en ⟨hit, isT⟩ hlen ne (by simp; exact ⟨ne, nee⟩) fun u hp tk hu ho ⟨hit2, _⟩ hT _ hk => ?_
    refine ⟨_, rfl, wpAny_letOwnedTupleGo_enum (s := { s with heap := hp, toks := tk + 1 }) ho fun hp2 en2 sb => ?_⟩
    obtain ⟨u2, hu2, ru⟩ := rv.get hx
    have hu3 : u = u2 := by
      have : its[i]? = some u := by simpa using hu
      rw [hu2] at this
      exact (Option.some.inj this).symm
    subst hu3
    have hT2 : hp2.get? s.heap.objs.size = some { cls := .type "tuple", data := .seq #[.int i tk, u] } := (sb.2 _ (Nat.ne_of_gt lte)).trans hT
    have new : ObjOk X.prog X.w (upd H s.heap.objs.size (.tup [.int (i : Nat), x])) hp2 s.heap.objs.size (.tup [.int (i : Nat), x]) :=
      ⟨by show 2 ≤ sizeLine; decide, [.int i tk, u], .cons ⟨_, rfl⟩ (.cons ru .nil), ⟨_, hT2, rfl, _, rfl⟩⟩
    have I1 : Inv X pins σ (upd H s.heap.objs.size (.tup [.int (i : Nat), x])) { s with heap := hp2, toks := tk + 1 } :=
      I.turnedNew (ch := [e, it]) (fun b ob hb q => (sb.2 b (fun z => hb (by simp [z]))).trans (hk b ob (fun z => hb (by simp [z])) (fun z => hb (by simp [z])) q)) hf (Nat.le_refl _) new
    refine ⟨.ref s.heap.objs.size, _, I1, rfl, ⟨_, x, rfl, I.hok.fresh (Nat.le_refl _), rfl, fun ys hy => by rw [I.tuple_inj hy hq]; exact hx⟩, ⟨⟨u, ?_⟩, hit2.at fun o q => (sb.2 it (Ne.symm ne)).trans q, ne⟩, fun b hb => ?_⟩
    · have e1 : ((i + 1 : Nat) : Int) = (i : Int) + 1 := by omega
      rw [e1]
      exact en2
    · have hb2 : b < s.heap.objs.size := by
        rcases List.mem_cons.1 hb with z | z
        · rw [z]; exact lte
        · rw [List.mem_singleton.1 z]; exact lti
      rw [upd_ne (Nat.ne_of_lt hb2)]
      exact (hf b hb).1
  done := by
    intro X hP hw hK hc i pins s σ H E I hf st hg
    subst hP hw hK
    obtain ⟨⟨old, en⟩, hit, ne⟩ := st
    obtain ⟨xs, hq, hx⟩ := hg
    obtain ⟨its, rv, isT, _⟩ := I.tuple hq
    have isT : s.heap.IsTuple a its.toArray := isT
    obtain ⟨f0, f1, f2, f3, f4, f5⟩ := hf it (by simp)
    have hl := rv.length
    exact enum_end_tup (I.ok.hd hc) en hit isT (by simp; omega) fun hp eb => ⟨rfl, I.turned (t' := s.toks) (fun b o hb q => eb b o hb q) f0 f1 f3 f4 f5⟩
  self := fun A i s Q E st h => let ⟨⟨_, en⟩, _⟩ := st; wpAny_pyIter_enum en h
def iEnT (K : PySem.W.Frag) (te : TE) : TI := fun σ H R => te σ H fun v H1 => ∃ a xs, v = .ref a ∧ SqT K H1 a xs ∧ R (ItE K a) H1
theorem pi_enT {X : Cx} {e : Expr} {ta : TA} {p pos tpos : Pos} {elts : List Expr} {kk : Nat} (hg : Gl X "enumerate") (hm : X.mg "enumerate" = none) (ha : PA X [e] ta) (hs : starEach [e] X.env = [(false, eval e X.env)] := by rfl) :
    PI X (.Tuple elts kk tpos) (.Call (.Name "enumerate" p) [e] [] pos) (fun σ H R => ta σ H fun vs H1 => ∃ a xs, vs = [.ref a] ∧ SqT X.K H1 a xs ∧ R (ItE X.K a) H1) := by
  refine ⟨fun pins s σ H R I h => ?_⟩
  refine Call_ (ld_blt I hg hm boot_enumerate (PyProof.Rows.callWith_type1 (thn (ha.run pos pins s σ H _ I h) fun us s1 ⟨vs, H1, I1, r1, a, xs, ev, hq, q⟩ => ?_) hs rfl))
  subst ev
  cases r1 with
  | cons r rr =>
    cases rr
    cases r
    obtain ⟨its, rv, isT, _⟩ := I1.tuple hq
    refine enum_call_tup (show s1.heap.IsTuple a its.toArray from isT) fun hp en hit hk => wpAny_pyIter_enum en ?_
    have I2 : Inv X pins σ H1 { s1 with heap := hp } := I1.kept (t' := s1.toks) hk
    refine ⟨s1.heap.objs.size + 1, [s1.heap.objs.size + 1, s1.heap.objs.size], _, _, H1, rfl, I2, turn_enT a (s1.heap.objs.size + 1) s1.heap.objs.size, ⟨⟨.none, en⟩, hit, Nat.succ_ne_self _⟩, fun b hb => ?_, q⟩
    have hle : s1.heap.objs.size ≤ b := by
      rcases List.mem_cons.1 hb with z | z
      · rw [z]; omega
      · rw [List.mem_singleton.1 z]; omega
    exact I1.fpOk hle (I1.hok.fresh hle)
/-- enumerate of what is a list or a tuple, told when it has come -/
theorem pi_enB {X : Cx} {e : Expr} {ta : TA} {p pos tpos : Pos} {elts : List Expr} {kk : Nat} (hg : Gl X "enumerate") (hm : X.mg "enumerate" = none) (ha : PA X [e] ta) (hs : starEach [e] X.env = [(false, eval e X.env)] := by rfl) :
    PI X (.Tuple elts kk tpos) (.Call (.Name "enumerate" p) [e] [] pos) (fun σ H R => ta σ H fun vs H1 => ∃ a xs, vs = [.ref a] ∧ ((SqT X.K H1 a xs ∧ R (ItE X.K a) H1) ∨ (SqL X.K H1 a xs ∧ R (Ite X.K a) H1))) := by
  refine ⟨fun pins s σ H R I h => ?_⟩
  refine Call_ (ld_blt I hg hm boot_enumerate (PyProof.Rows.callWith_type1 (thn (ha.run pos pins s σ H _ I h) fun us s1 ⟨vs, H1, I1, r1, a, xs, ev, q⟩ => ?_) hs rfl))
  subst ev
  cases r1 with
  | cons r rr =>
    cases rr
    cases r
    rcases q with ⟨hq, q⟩ | ⟨hq, q⟩
    · obtain ⟨its, rv, isT, _⟩ := I1.tuple hq
      refine enum_call_tup (show s1.heap.IsTuple a its.toArray from isT) fun hp en hit hk => wpAny_pyIter_enum en ?_
      have I2 : Inv X pins σ H1 { s1 with heap := hp } := I1.kept (t' := s1.toks) hk
      refine ⟨s1.heap.objs.size + 1, [s1.heap.objs.size + 1, s1.heap.objs.size], _, _, H1, rfl, I2, turn_enT a (s1.heap.objs.size + 1) s1.heap.objs.size, ⟨⟨.none, en⟩, hit, Nat.succ_ne_self _⟩, fun b hb => ?_, q⟩
      have hle : s1.heap.objs.size ≤ b := by
        rcases List.mem_cons.1 hb with z | z
        · rw [z]; omega
        · rw [List.mem_singleton.1 z]; omega
      exact I1.fpOk hle (I1.hok.fresh hle)
    · obtain ⟨its, rv, isL, _⟩ := I1.list hq
      refine call_enumerate_list isL.isList fun hp en hit _ hk => wpAny_pyIter_enum en ?_
      have I2 : Inv X pins σ H1 { s1 with heap := hp } := I1.kept (t' := s1.toks) hk
      refine ⟨s1.heap.objs.size + 1, [s1.heap.objs.size + 1, s1.heap.objs.size], _, _, H1, rfl, I2, turn_enum a (s1.heap.objs.size + 1) s1.heap.objs.size, ⟨⟨.none, en⟩, hit, Nat.succ_ne_self _⟩, fun b hb => ?_, q⟩
      have hle : s1.heap.objs.size ≤ b := by
        rcases List.mem_cons.1 hb with z | z
        · rw [z]; omega
        · rw [List.mem_singleton.1 z]; omega
      exact I1.fpOk hle (I1.hok.fresh hle)
section
variable {M : Md} {μ1 : List Addr} {H1 : Hp}
theorem enm_at {l : List U} {i : Nat} {u : U} (h : (enmL l)[i]? = some u) : ∃ x, l[i]? = some x ∧ u = .tup [.int i, x] := by
  unfold enmL at h
  rw [List.getElem?_mapIdx] at h
  obtain ⟨x, hx, e⟩ := Option.map_eq_some_iff.1 h
  exact ⟨x, hx, e.symm⟩
theorem enm_len (l : List U) : (enmL l).length = l.length := by unfold enmL; simp
theorem rep_pair {μ : List Addr} {H : Hp} {S : Sto} {T : Addr} {i : Nat} {x : V} {u : U} (o : StoreOk M μ H S) (hT : H T = none) (r : Rep M μ H u x) : Rep M μ (upd H T (.tup [.int (i : Nat), x])) (.tup [.int i, u]) (.ref T) := by
  rw [Rep]
  refine ⟨T, [.int i, x], rfl, .inl (.inl upd_same), .cons (by rw [Rep]) (.cons (rep_mono (Step.laid hT) o.lsts _ _ r) .nil)⟩
theorem sr_enT {K : PySem.W.Frag} (hK : K = M.K) (hl : Lsts μ1 H1) {a : Addr} {l : List U} {vs : List V} (hs : SqT M.K H1 a vs) (r : RepL M μ1 H1 l vs) : SrR M μ1 H1 ⟨enmL l, fun _ => True⟩ (ItE K a) where
  go := fun μ H S i s o _ hi => by
    have hi : i < (enmL l).length := hi
    rw [enm_len] at hi
    obtain ⟨v, hv, _⟩ := (repL_mono s hl l vs r).get (List.getElem?_eq_getElem hi)
    exact ⟨vs, v, by rw [hK]; exact sqT_mono s hl hs, hv⟩
  stop := fun μ H S i s o _ hi => by
    have hi : (enmL l).length ≤ i := hi
    rw [enm_len] at hi
    exact ⟨vs, by rw [hK]; exact sqT_mono s hl hs, by rw [← r.length]; exact hi⟩
  yld := fun μ H S i x H2 u s o _ hu hy => by
    obtain ⟨T, y, rfl, hT, rfl, hx⟩ := hy
    obtain ⟨w, hw, rfl⟩ := enm_at hu
    obtain ⟨v, hv, rv⟩ := (repL_mono s hl l vs r).get hw
    have e := hx vs (by rw [hK]; exact sqT_mono s hl hs)
    rw [hv] at e
    cases e
    exact ⟨Step.laid hT, o.laid hT, rep_pair o hT rv⟩
theorem sr_enL {K : PySem.W.Frag} {a : Addr} {n : Nat} {l : List U} (hm : μ1[n]? = some a) : SrR M μ1 H1 ⟨enmL l, fun S2 => S2[n]? = some (.lst l)⟩ (Ite K a) where
  go := fun μ H S i s o g hi => by
    have hi : i < (enmL l).length := hi
    rw [enm_len] at hi
    obtain ⟨vs, h, r⟩ := o.of (s.get hm) g
    obtain ⟨v, hv, _⟩ := r.get (List.getElem?_eq_getElem hi)
    exact ⟨vs, v, .inl (.inl h), hv⟩
  stop := fun μ H S i s o g hi => by
    have hi : (enmL l).length ≤ i := hi
    rw [enm_len] at hi
    obtain ⟨vs, h, r⟩ := o.of (s.get hm) g
    exact ⟨vs, .inl (.inl h), by rw [← r.length]; exact hi⟩
  yld := fun μ H S i x H2 u s o g hu hy => by
    obtain ⟨T, y, rfl, hT, rfl, hx⟩ := hy
    obtain ⟨w, hw, rfl⟩ := enm_at hu
    obtain ⟨vs, h, r⟩ := o.of (s.get hm) g
    obtain ⟨v, hv, rv⟩ := r.get hw
    have e := hx vs (.inl (.inl h))
    rw [hv] at e
    cases e
    exact ⟨Step.laid hT, o.laid hT, rep_pair o hT rv⟩
end
section
variable {p : Pm} {k : Nat} {N bl xc : List Str} {sc : Scope} {sf : Str → Bool} {X : Cx} {a : Expr} {a' : E} {pos tpos : Pos} {elts : List Expr} {kk : Nat}
theorem si_enm (g : GX p k N bl xc sc sf X) {x : Str} {pp : Pos} (e : x = Str.ofString "enumerate") (hb : x ∈ bl) (hx : globB sc x = true) (hs : notStar a = true) (ha : PE X a (tE p a')) : PI X (.Tuple elts kk tpos) (.Call (.Name x pp) [a] [] pos) (tIt p (.enm a')) := by
  subst e
  obtain ⟨a1, b1, c1⟩ := glob_of g hx
  refine (pi_enB a1 (by rw [g.hmg]; exact g.blt _ hb) (pa_cons ha pa_nil (star_cons hs)) (star_cons hs)).imp fun σ H R ⟨μ, S, σe, st, h⟩ => ?_
  rw [wpI] at h
  refine tE_of g.gm st h fun u S1 h1 μ1 H1 y s1 o1 r1 => ?_
  unfold srcp at h1
  split at h1
  · rw [Rep] at r1
    obtain ⟨q, vs, rfl, hq, rl⟩ := r1
    exact ⟨q, vs, rfl, .inl ⟨by rw [g.hK]; exact hq, h1 μ1 H1 _ s1 o1 (sr_enT g.hK o1.lsts hq rl)⟩⟩
  · split at h1
    · rename_i e1
      rw [Rep] at r1
      obtain ⟨q, rfl, hm⟩ := r1
      obtain ⟨vs, hv, rl⟩ := o1.of hm e1
      exact ⟨q, vs, rfl, .inr ⟨.inl (.inl hv), h1 μ1 H1 _ s1 o1 (sr_enL hm)⟩⟩
    · exact h1.elim
  · exact h1.elim
end
end Q

set_option Elab.async false
set_option linter.all false
set_option maxRecDepth 100000
set_option maxHeartbeats 8000000
/-! QSound4: comprehensions; all expressions together. -/
namespace Q
open PySem PySem.Spec PyProof.Rows L2
section
variable {M : Md} {μ μ' : List Addr} {H H' : Hp}
mutual
theorem rep_up (hg : ∀ (n : Nat) (a : Addr), μ[n]? = some a → μ'[n]? = some a) (hk : ∀ a o, H a = some o → (∀ x, o ≠ .lst x) → H' a = some o) : ∀ (u : U) (v : V), Rep M μ H u v → Rep M μ' H' u v
  | .non, v, h => by simpa [Rep] using h
  | .bl b, v, h => by simpa [Rep] using h
  | .int b, v, h => by simpa [Rep] using h
  | .str b, v, h => by simpa [Rep] using h
  | .ty b, v, h => by simpa [Rep] using h
  | .fn b, v, h => by simpa [Rep] using h
  | .cls b, v, h => by simpa [Rep] using h
  | .tup l, v, h => by
    rw [Rep] at h ⊢
    obtain ⟨a, vs, e, q, r⟩ := h
    refine ⟨a, vs, e, ?_, repL_up hg hk l vs r⟩
    rcases q with (q | ⟨o, q⟩) | q
    · exact .inl (.inl (hk a _ q fun x z => by cases z))
    · exact .inl (.inr ⟨o, hk a _ q fun x z => by cases z⟩)
    · exact .inr q
  | .lst n, v, h => by
    rw [Rep] at h ⊢
    obtain ⟨a, e, q⟩ := h
    exact ⟨a, e, hg _ _ q⟩
  | .scr l, v, h => by
    rw [Rep] at h ⊢
    obtain ⟨a, e, q⟩ := h
    refine ⟨a, e, ?_⟩
    rcases q with ⟨o, q⟩ | q
    · exact .inl ⟨o, hk a _ q fun x z => by cases z⟩
    · exact .inr q
theorem repL_up (hg : ∀ (n : Nat) (a : Addr), μ[n]? = some a → μ'[n]? = some a) (hk : ∀ a o, H a = some o → (∀ x, o ≠ .lst x) → H' a = some o) : ∀ (us : List U) (vs : List V), RepL M μ H us vs → RepL M μ' H' us vs
  | [], vs, h => by simpa [RepL] using h
  | u :: us, vs, h => by
    rw [RepL] at h ⊢
    obtain ⟨v, r, e, q1, q2⟩ := h
    exact ⟨v, r, e, rep_up hg hk u v q1, repL_up hg hk us r q2⟩
end
/-- a list that is none of the store's is changed -/
theorem StoreOk.aside {St : Sto} {D : Addr} {x y : List V} (s : StoreOk M μ H St) (hD : D ∉ μ) (e : H D = some (.lst x)) : StoreOk M μ (upd H D (.lst y)) St := by
  refine ⟨s.len, s.nd, fun n c h => ?_⟩
  obtain ⟨a, ha, q⟩ := s.cell n c h
  refine ⟨a, ha, ?_⟩
  have na : a ≠ D := fun z => hD (z ▸ List.mem_of_getElem? ha)
  cases c with
  | lst l =>
    obtain ⟨vs, h1, h2⟩ := q
    refine ⟨vs, by rw [upd_ne na]; exact h1, repL_up (fun _ _ h => h) (fun b o hb hn => ?_) _ _ h2⟩
    rw [upd_ne (fun z => by rw [z, e] at hb; cases hb; exact hn _ rfl)]
    exact hb
theorem rep_aside {D : Addr} {x y : List V} (e : H D = some (.lst x)) {us : List U} {vs : List V} (r : RepL M μ H us vs) : RepL M μ (upd H D (.lst y)) us vs :=
  repL_up (fun _ _ h => h) (fun b o hb hn => by
    rw [upd_ne (fun z => by rw [z, e] at hb; cases hb; exact hn _ rfl)]
    exact hb) _ _ r
theorem Step.aside {μ0 : List Addr} {H0 : Hp} {D : Addr} {o : HO} (s : Step μ0 H0 μ H) (hD : H0 D = none) : Step μ0 H0 μ (upd H D o) where
  pre := s.pre
  new := s.new
  keep := fun a q e n => by rw [upd_ne (ne_of_none e hD)]; exact s.keep a q e n
  tr := fun a e => by
    by_cases h : a = D
    · rw [h]; exact hD
    · rw [upd_ne h] at e; exact s.tr a e
/-- the list that was made aside joins the store -/
theorem Step.join {μ0 : List Addr} {H0 : Hp} {D : Addr} (s : Step μ0 H0 μ H) (hD : H0 D = none) : Step μ0 H0 (μ ++ [D]) H where
  pre := by obtain ⟨t, rfl⟩ := s.pre; exact ⟨t ++ [D], by simp⟩
  new := fun a h => by
    rcases List.mem_append.mp h with h | h
    · exact s.new a h
    · have : a = D := by simpa using h
      rw [this]; exact .inr hD
  keep := s.keep
  tr := s.tr
theorem StoreOk.join {St : Sto} {D : Addr} {l : List U} {vs : List V} (s : StoreOk M μ H St) (hD : D ∉ μ) (e : H D = some (.lst vs)) (r : RepL M μ H l vs) : StoreOk M (μ ++ [D]) H (St ++ [.lst l]) := by
  have hg : ∀ (n : Nat) (a : Addr), μ[n]? = some a → (μ ++ [D])[n]? = some a := fun n a h => by
    obtain ⟨hn, _⟩ := List.getElem?_eq_some_iff.mp h
    rw [List.getElem?_append_left hn]; exact h
  refine ⟨by simp [s.len], ?_, fun n c h => ?_⟩
  · rw [List.nodup_append]
    refine ⟨s.nd, by simp, fun a ha b hb z => ?_⟩
    have : b = D := by simpa using hb
    subst this; subst z; exact hD ha
  · by_cases hlt : n < St.length
    · rw [List.getElem?_append_left hlt] at h
      obtain ⟨a, ha, q⟩ := s.cell n c h
      refine ⟨a, hg _ _ ha, ?_⟩
      cases c with
      | lst l' =>
        obtain ⟨ws, h1, h2⟩ := q
        exact ⟨ws, h1, repL_up hg (fun _ _ h _ => h) _ _ h2⟩
    · have hn2 : n < (St ++ [Cell.lst l]).length := (List.getElem?_eq_some_iff.mp h).1
      simp at hn2
      have e2 : n = St.length := by omega
      subst e2
      simp at h
      subst h
      exact ⟨D, by rw [← s.len]; simp, vs, e, repL_up hg (fun _ _ h _ => h) _ _ r⟩
theorem not_mem_step {μ1 : List Addr} {H1 : Hp} (s : Step μ H μ1 H1) {D : Addr} {o : HO} (hD : D ∉ μ) (e : H D = some o) : D ∉ μ1 := fun h => by
  rcases s.new D h with q | q
  · exact hD q
  · rw [e] at q; cases q
theorem wipe_get (σ : L2.St) : ∀ (vs : List Nat) (i : Nat), (wipe σ vs)[i]? = if i ∈ vs ∧ i < σ.length then some none else σ[i]?
  | [], i => by simp [wipe]
  | v :: vs, i => by
    unfold wipe
    rw [List.getElem?_set, wipe_length, wipe_get σ vs i]
    by_cases h : v = i
    · subst h
      by_cases hl : v < σ.length
      · simp [hl]
      · simp [hl]
    · have h' : ¬ i = v := fun e => h e.symm
      simp [h, h']
theorem wipe_chg {σ σ2 : L2.St} {vs l : List Nat} (c : Chg l (wipe σ vs) σ2) (hl : ∀ i ∈ l, i ∈ vs) : wipe σ2 vs = wipe σ vs := by
  apply List.ext_getElem?
  intro i
  have hlen : σ2.length = σ.length := by rw [c.1, wipe_length]
  rw [wipe_get, wipe_get, hlen]
  by_cases h : i ∈ vs ∧ i < σ.length
  · rw [if_pos h, if_pos h]
  · rw [if_neg h, if_neg h]
    by_cases hi : i ∈ vs
    · have hn : ¬ i < σ.length := fun z => h ⟨hi, z⟩
      rw [List.getElem?_eq_none (by omega), List.getElem?_eq_none (by omega)]
    · rw [c.2 i fun z => hi (hl i z), wipe_get, if_neg fun z => hi z.1]
theorem wipeU_len (σ : Sl) : ∀ vs : List Nat, (wipeU σ vs).length = σ.length
  | [] => rfl
  | v :: vs => by unfold wipeU; rw [List.length_set, wipeU_len σ vs]
theorem wipeU_some {σ : Sl} {i : Nat} {x : U} : ∀ {vs : List Nat}, (wipeU σ vs)[i]? = some (some x) → σ[i]? = some (some x) ∧ i ∉ vs
  | [], h => ⟨h, by simp⟩
  | v :: vs, h => by
    unfold wipeU at h
    by_cases hi : v = i
    · subst hi
      by_cases hv : v < (wipeU σ vs).length
      · rw [List.getElem?_set_self hv] at h; cases h
      · rw [List.getElem?_eq_none (by simpa using hv)] at h; cases h
    · rw [List.getElem?_set_ne hi] at h
      obtain ⟨h1, h2⟩ := wipeU_some h
      exact ⟨h1, by simp only [List.mem_cons, not_or]; exact ⟨fun e => hi e.symm, h2⟩⟩
theorem SlR.wipe {σe : Sl} {σ : L2.St} (s : SlR M μ H σe σ) (vs : List Nat) : SlR M μ H (wipeU σe vs) (L2.wipe σ vs) :=
  ⟨by rw [wipeU_len, wipe_length, s.len], fun i u e => by
    obtain ⟨h1, h2⟩ := wipeU_some e
    obtain ⟨v, hv, r⟩ := s.get i u h1
    exact ⟨v, by rw [wipe_get, if_neg fun z => h2 z.1]; exact hv, r⟩⟩
end

section
variable {p : Pm} {k : Nat} {N bl xc : List Str} {sc : Scope} {sf : Str → Bool} {X : Cx}
/-- nothing is let out -/
abbrev Pm.nox (p : Pm) : Pm := { p with Ex := fun _ _ _ _ => False }
theorem relS_kind {a b : Scope} : (relS a b).kind = a.kind := rfl
theorem gx_blk (g : GX p k N bl xc sc sf X) {scope : Scope} {own : List (Str × Nat)} (ok : BlkOk N sc scope own) (s : Shared) (H : Hp) (C : Addr) (cl : List (Str × Addr)) (fp : List Addr) :
    GX p.nox k N bl xc (relS scope sc) (fun x => scope.names.lookup x == some .cell) (X.blk s H scope (compEnvC scope cl C X.env) fp) where
  hK := g.hK
  hmg := g.hmg
  hN := g.hN
  nd := g.nd
  hsc := by rw [← g.hsc]; rfl
  knd := ok.kind
  calm := g.calm
  room := g.room
  fn := fun x h => h
  gm := g.gm
  fns := g.fns
  cts := g.cts
  blt := g.blt
  exc := g.exc
  exm := g.exm
  tk := ⟨fun _ _ _ _ => False, takes0, fun _ _ _ _ _ _ _ _ _ _ _ h => h⟩
  po := PassesOwn.never
theorem s_lc (g : GX p k N bl xc sc sf X) {e tg it : Expr} {ifs : List Expr} {scope : Scope} {pos : Pos} {e' : E} {t : T} {it' : Q.It} {c : Oe} {own : List (Str × Nat)} (ok : BlkOk N sc scope own) (hset : notSet it = true) (hown : ∀ i ∈ nmsT t, i ∈ own.map (·.2))
    (hi : PI X tg it (tIt p it')) (hg : ∀ (s : Shared) (H : Hp) (C : Addr) (cl : List (Str × Addr)) (fp : List Addr), PG (X.blk s H scope (compEnvC scope cl C X.env) fp) tg (tGt p.nox t))
    (ht : ∀ (s : Shared) (H : Hp) (C : Addr) (cl : List (Str × Addr)) (fp : List Addr), PTs (X.blk s H scope (compEnvC scope cl C X.env) fp) ifs (tC2 p.nox c))
    (he : ∀ (s : Shared) (H : Hp) (C : Addr) (cl : List (Str × Addr)) (fp : List Addr), PE (X.blk s H scope (compEnvC scope cl C X.env) fp) e (tE p.nox e')) :
    (∀ σ H Q, tE p (.lc e' t it' c own) σ H Q → tLc (tIt p it') (tGt p.nox t) (tC2 p.nox c) (tE p.nox e') (own.map (·.2)) σ H Q) := by
  intro σ H Q ⟨μ, S, σe, st, h⟩
  rw [wpE] at h
  have gm0 : GMono p.nox.G := g.gm
  refine tI_of g.gm st h fun src S1 h1 μ1 H1 J s1 o1 sr => ?_
  intro D hD
  obtain ⟨vs, hvs⟩ : ∃ vs, vs = own.map (·.2) := ⟨_, rfl⟩
  rw [← hvs] at h1 hown ⊢
  obtain ⟨turn, hturn⟩ : ∃ turn : U → Sto → (Option U → Sto → Prop) → Prop, turn = fun u S2 k => wpTg p.G t (fun _ _ _ _ => False) u (wipeU σe vs) S2 fun σ2 S3 => wpC p.G c (fun _ _ _ _ => False) σ2 S3 fun b S4 =>
      if b = true then wpE p.G e' (fun _ _ _ _ => False) σ2 S4 fun v S5 => k (some v) S5 else k none S4 := ⟨_, rfl⟩
  obtain ⟨K, hK⟩ : ∃ K : List U → Sto → Prop, K = fun acc S2 => Aft p.M μ H Q (.lst S2.length) (S2 ++ [.lst acc]) := ⟨_, rfl⟩
  have h1 : lcL turn src.grd src.vals [] S1 K := by subst hturn hK; exact h1
  refine ⟨fun i m H' => ∃ μ' S' acc avs, Step μ1 H1 μ' H' ∧ StoreOk p.M μ' H' S' ∧ D ∉ μ' ∧ H' D = some (.lst avs) ∧ RepL p.M μ' H' acc avs ∧ m = src.vals.length - i ∧ i ≤ src.vals.length ∧
      lcL turn src.grd (src.vals.drop i) acc S' K, ⟨src.vals.length, μ1, S1, [], [], Step.laid hD, o1.laid hD, fun z => ?_, upd_same, RepL.nil, by simp, Nat.zero_le _, by rw [List.drop_zero]; exact h1⟩, ?_⟩
  · obtain ⟨x, q⟩ := o1.mem z
    rw [hD] at q; cases q
  rintro i m H2 ⟨μ2, S2, acc, avs, s2, o2, dn, hd, ra, rfl, hi, w⟩
  by_cases hlt : i < src.vals.length
  · rw [List.drop_eq_getElem_cons hlt] at w
    obtain ⟨gr, w⟩ := w
    refine .inr ⟨sr.go μ2 H2 S2 i s2 o2 gr hlt, fun H' => ∃ μ' S' acc avs, Step μ1 H1 μ' H' ∧ StoreOk p.M μ' H' S' ∧ D ∉ μ' ∧ H' D = some (.lst avs) ∧ RepL p.M μ' H' acc avs ∧
      lcL turn src.grd (src.vals.drop (i + 1)) acc S' K, ?_, ?_⟩
    · rintro H' ⟨μ', S', acc', avs', q1, q2, q3, q4, q5, q6⟩
      exact ⟨src.vals.length - (i + 1), by omega, μ', S', acc', avs', q1, q2, q3, q4, q5, rfl, hlt, q6⟩
    · intro x H3 hy
      obtain ⟨s3, o3, r3⟩ := sr.yld μ2 H2 S2 i x H3 _ s2 o2 gr (List.getElem?_eq_getElem hlt) hy
      have st3 : StR p.nox μ2 H3 S2 (wipeU σe vs) (wipe σ vs) := ⟨((st.st.trans s1).trans s2).trans s3, o3, (st.sl.mono ((s1.trans s2).trans s3) st.ok.lsts).wipe vs⟩
      have hd3 : H3 D = some (.lst avs) := s3.keep D _ hd dn
      have ra3 : RepL p.M μ2 H3 acc avs := repL_mono s3 o2.lsts _ _ ra
      have w2 := w
      rw [hturn] at w2
      refine tG_of gm0 st3 r3 w2 fun σe4 S4 k4 μ4 H4 σ4 s4 o4 l4 c4 => ⟨wipe_chg c4 hown, ?_⟩
      have st4 : StR p.nox μ4 H4 S4 σe4 σ4 := ⟨st3.st.trans s4, o4, l4⟩
      refine tC_of gm0 st4 k4 fun b S5 k5 μ5 H5 s5 o5 => ?_
      cases b with
      | false =>
        have k5 : lcL turn src.grd (src.vals.drop (i + 1)) acc S5 K := by rw [hturn]; exact k5
        exact ⟨μ5, S5, acc, avs, (s2.trans s3).trans (s4.trans s5), o5, not_mem_step (s4.trans s5) dn hd3, (s4.trans s5).keep D _ hd3 dn, repL_mono (s4.trans s5) o3.lsts _ _ ra3, k5⟩
      | true =>
        refine tE_of gm0 (st4.next s5 o5) k5 fun v S6 k6 μ6 H6 y s6 o6 r6 => ?_
        have k6 : acc.length < sizeLine ∧ lcL turn src.grd (src.vals.drop (i + 1)) (acc ++ [v]) S6 K := by rw [hturn]; exact k6
        have ss := (s4.trans s5).trans s6
        have hd6 : H6 D = some (.lst avs) := ss.keep D _ hd3 dn
        have dn6 := not_mem_step ss dn hd3
        have ra6 := repL_mono ss o3.lsts _ _ ra3
        refine ⟨avs, hd6, by rw [← ra3.length]; exact k6.1, μ6, S6, acc ++ [v], avs ++ [y], ((s2.trans s3).trans ss).aside hD, o6.aside dn6 hd6, dn6, upd_same, rep_aside hd6 (ra6.append (RepL.cons r6 RepL.nil)), k6.2⟩
  · have e : i = src.vals.length := by omega
    subst e
    rw [List.drop_length] at w
    obtain ⟨gr, w⟩ := w
    refine .inl ⟨sr.stop μ2 H2 S2 _ s2 o2 gr (Nat.le_refl _), ?_⟩
    have hD0 : H D = none := s1.tr D hD
    subst hK
    refine w (μ2 ++ [D]) H2 (.ref D) ((s1.trans s2).join hD0) (o2.join dn hd ra) ?_
    rw [Rep]
    exact ⟨D, rfl, by rw [← o2.len]; simp⟩
end
end Q

set_option Elab.async false
set_option linter.all false
set_option maxRecDepth 100000
set_option maxHeartbeats 16000000
/-! QSound5: all expressions together. -/
namespace Q
open PySem PySem.Spec PyProof.Rows L2
theorem es_star {N bl : List Str} {sc : Scope} {sf : Str → Bool} : ∀ (es' : Es) (es : List Expr), chkEs N bl es' sc sf es = true → es.all notStar = true
  | .nil, es, h => by
    unfold chkEs at h
    split at h
    · rfl
    · cases h
  | .cons e r, es, h => by
    unfold chkEs at h
    split at h
    · simp only [Bool.and_eq_true] at h
      rw [List.all_cons, h.1.1, es_star r _ h.2]; rfl
    · cases h
theorem es_nil {N bl : List Str} {sc : Scope} {sf : Str → Bool} {es' : Es} (h : chkEs N bl es' sc sf [] = true) : es' = .nil := by
  cases es' with
  | nil => rfl
  | cons e r => unfold chkEs at h; cases h
theorem ts_star {N bl : List Str} {sc : Scope} {sf : Str → Bool} : ∀ (es' : Ts) (es : List Expr), chkTs N bl es' sc sf es = true → es.all notStar = true ∧ es.length = lenTs es'
  | .nil, es, h => by
    unfold chkTs at h
    split at h
    · exact ⟨rfl, rfl⟩
    · cases h
  | .cons e r, es, h => by
    unfold chkTs at h
    split at h
    · simp only [Bool.and_eq_true] at h
      obtain ⟨a, b⟩ := ts_star r _ h.2
      exact ⟨by rw [List.all_cons, h.1.1, a]; rfl, by rw [List.length_cons, b, lenTs]⟩
    · cases h
section
variable {k : Nat} {N bl xc : List Str}
mutual
theorem sE : ∀ (ir : E) {p : Pm} {sc : Scope} {sf : Str → Bool} {X : Cx} (g : GX p k N bl xc sc sf X) (e : Expr), chkE N bl ir sc sf e = true → PE X e (tE p ir)
  | .var i, p, sc, sf, X, g, e, h => by
    unfold chkE at h
    split at h
    · simp only [Bool.and_eq_true, decide_eq_true_eq] at h
      exact s_var g h.1.1 h.1.2 h.2
    · cases h
  | .int i, p, sc, sf, X, g, e, h => by
    unfold chkE at h
    split at h
    · simp only [decide_eq_true_eq] at h; subst h; exact s_int
    · cases h
  | .str i, p, sc, sf, X, g, e, h => by
    unfold chkE at h
    split at h
    · simp only [decide_eq_true_eq] at h; subst h; exact s_str
    · cases h
  | .bl i, p, sc, sf, X, g, e, h => by
    unfold chkE at h
    split at h
    · simp only [beq_iff_eq] at h; subst h; exact s_bl
    · cases h
  | .non, p, sc, sf, X, g, e, h => by
    unfold chkE at h
    split at h
    · exact s_non
    · cases h
  | .glob x, p, sc, sf, X, g, e, h => by
    unfold chkE at h
    split at h
    · simp only [Bool.and_eq_true, decide_eq_true_eq] at h
      obtain ⟨rfl, h2⟩ := h
      exact s_glob g h2
    · cases h
  | .bop o a b, p, sc, sf, X, g, e, h => by
    unfold chkE at h
    split at h
    · simp only [Bool.and_eq_true] at h
      exact s_bop g h.1.1 (sE a g _ h.1.2) (sE b g _ h.2)
    · cases h
  | .neg a, p, sc, sf, X, g, e, h => by
    unfold chkE at h
    split at h
    · exact s_neg g (sE a g _ h)
    · cases h
  | .cmp o a b, p, sc, sf, X, g, e, h => by
    unfold chkE at h
    split at h
    · simp only [Bool.and_eq_true, Bool.not_eq_true'] at h
      exact s_cmp g h.1.1.1 h.1.1.2 (sE a g _ h.1.2) (sE b g _ h.2)
    · cases h
  | .cmp2 o o2 a b c, p, sc, sf, X, g, e, h => by
    unfold chkE at h
    split at h
    · simp only [Bool.and_eq_true, Bool.not_eq_true'] at h
      exact s_cmp2 g h.1.1.1.1.1 h.1.1.1.1.2 h.1.1.1.2 (sE a g _ h.1.1.2) (sE b g _ h.1.2) (sE c g _ h.2)
    · cases h
  | .isN a, p, sc, sf, X, g, e, h => by
    unfold chkE at h
    split at h
    · exact s_isN g (sE a g _ h)
    · cases h
  | .notN a, p, sc, sf, X, g, e, h => by
    unfold chkE at h
    split at h
    · exact s_notN g (sE a g _ h)
    · cases h
  | .andE a b, p, sc, sf, X, g, e, h => by
    unfold chkE at h
    split at h
    · simp only [Bool.and_eq_true] at h
      exact s_and g (sE a g _ h.1) (pe_one (sE b g _ h.2))
    · simp only [Bool.and_eq_true] at h
      exact s_and g (sE a g _ h.1) (sE b g _ h.2)
    · cases h
  | .orE a b, p, sc, sf, X, g, e, h => by
    unfold chkE at h
    split at h
    · simp only [Bool.and_eq_true] at h
      exact s_or g (sE a g _ h.1) (pe_one (sE b g _ h.2))
    · simp only [Bool.and_eq_true] at h
      exact s_or g (sE a g _ h.1) (sE b g _ h.2)
    · cases h
  | .notE a, p, sc, sf, X, g, e, h => by
    unfold chkE at h
    split at h
    · exact s_not g (sE a g _ h)
    · cases h
  | .tst a, p, sc, sf, X, g, e, h => by
    unfold chkE at h
    cases h
  | .ite t a b, p, sc, sf, X, g, e, h => by
    unfold chkE at h
    split at h
    · simp only [Bool.and_eq_true] at h
      exact s_ite g (sT t g _ h.1.1) (sE a g _ h.1.2) (sE b g _ h.2)
    · cases h
  | .tup es, p, sc, sf, X, g, e, h => by
    unfold chkE at h
    split at h
    · exact s_tup g (sEs es g _ h)
    · cases h
  | .lst es, p, sc, sf, X, g, e, h => by
    unfold chkE at h
    split at h
    · exact s_lst g (sEs es g _ h)
    · cases h
  | .idx a i, p, sc, sf, X, g, e, h => by
    unfold chkE at h
    split at h
    · simp only [Bool.and_eq_true] at h
      exact s_idx g h.1.1 (sE a g _ h.1.2) (sE i g _ h.2)
    · cases h
  | .slc a lo hi, p, sc, sf, X, g, e, h => by
    unfold chkE at h
    split at h
    · simp only [Bool.and_eq_true] at h
      exact s_slc g (sE a g _ h.1.1) (sO lo g _ h.1.2) (sO hi g _ h.2)
    · cases h
  | .rev a, p, sc, sf, X, g, e, h => by
    unfold chkE at h
    split at h
    · exact s_rev g (sE a g _ h)
    · cases h
  | .call f es, p, sc, sf, X, g, e, h => by
    unfold chkE at h
    split at h
    · rename_i x pp l cp
      simp only [Bool.and_eq_true, decide_eq_true_eq] at h
      obtain ⟨⟨rfl, h2⟩, h3⟩ := h
      cases l with
      | nil =>
        have e0 := es_nil h3
        subst e0
        exact s_call0 g h2
      | cons y r => exact s_call g h2 (es_star es _ h3) (sEs es g _ h3)
    · cases h
  | .callL i es, p, sc, sf, X, g, e, h => by
    unfold chkE at h
    split at h
    · rename_i x pp l cp
      simp only [Bool.and_eq_true, decide_eq_true_eq] at h
      obtain ⟨⟨⟨⟨h1, h2⟩, h3⟩, h4⟩, h5⟩ := h
      cases l with
      | nil => cases h4
      | cons y r => exact s_callL g h1 h2 h3 (es_star es _ h5) (sEs es g _ h5)
    · cases h
  | .bi f es, p, sc, sf, X, g, e, h => by
    unfold chkE at h
    split at h
    · rename_i x pp l cp
      simp only [Bool.and_eq_true, decide_eq_true_eq] at h
      obtain ⟨⟨⟨⟨h1, h2⟩, h3⟩, h4⟩, h5⟩ := h
      cases l with
      | nil => cases h4
      | cons y r => exact s_bi g h1 h2 h3 (es_star es _ h5) (sEs es g _ h5)
    · cases h
  | .meth m a es, p, sc, sf, X, g, e, h => by
    unfold chkE at h
    split at h
    · simp only [Bool.and_eq_true, decide_eq_true_eq] at h
      obtain ⟨⟨⟨⟨⟨⟨h1, h2⟩, h3⟩, h4⟩, h5⟩, h6⟩, h7⟩ := h
      exact s_meth g h1 h2 h3 h4 h5 (es_star es _ h7) (sE a g _ h6) (sEs es g _ h7) (fun z => by subst z; exact es_nil h7)
    · cases h
  | .isi a t, p, sc, sf, X, g, e, h => by
    unfold chkE at h
    split at h
    · simp only [Bool.and_eq_true, decide_eq_true_eq] at h
      obtain ⟨⟨⟨⟨⟨⟨⟨⟨h1, h2⟩, h3⟩, h4⟩, h5⟩, h6⟩, h7⟩, h8⟩, h9⟩ := h
      subst h1 h4
      exact s_isi g h2 h3 h5 h6 h7 h8 (sE a g _ h9)
    · cases h
  | .lc e' t it c own, p, sc, sf, X, g, e, h => by
    unfold chkE at h
    split at h
    · rename_i e0 t0 it0 cs0 scope0 pos0
      simp only [Bool.and_eq_true] at h
      obtain ⟨⟨⟨⟨⟨⟨⟨h1, h2⟩, h3⟩, h4⟩, h5⟩, h6⟩, h7⟩, h8⟩ := h
      have ok := blkOk_by h3
      have ok' : BlkOk X.N X.env.scope scope0 own := by rw [g.hN, g.hsc]; exact ok
      have ow : ∀ i ∈ nmsT t, i ∈ own.map (·.2) := fun i hi => by
        have z := List.all_eq_true.mp h5 i hi
        simpa using z
      have hg := fun s H C cl fp => sTg t (gx_blk g ok s H C cl fp) _ h6
      have ht := fun s H C cl fp => sC c (gx_blk g ok s H C cl fp) _ h7
      have he := fun s H C cl fp => sE e' (gx_blk g ok s H C cl fp) _ h8
      exact (pe_lc g.calm (by rw [g.hN]; exact g.nd) (sI it g _ h1) ok' hg ht he (set_of h2)).imp (s_lc (pos := pos0) g ok h2 ow (sI it (tg := _) g _ h1) hg ht he)
    · cases h
theorem sEs : ∀ (ir : Es) {p : Pm} {sc : Scope} {sf : Str → Bool} {X : Cx} (g : GX p k N bl xc sc sf X) (e : List Expr), chkEs N bl ir sc sf e = true → PA X e (tA p ir)
  | .nil, p, sc, sf, X, g, e, h => by
    unfold chkEs at h
    split at h
    · exact s_nil
    · cases h
  | .cons x r, p, sc, sf, X, g, e, h => by
    unfold chkEs at h
    split at h
    · simp only [Bool.and_eq_true] at h
      exact s_cons g h.1.1 (sE x g _ h.1.2) (sEs r g _ h.2)
    · cases h
theorem sO : ∀ (ir : Oe) {p : Pm} {sc : Scope} {sf : Str → Bool} {X : Cx} (g : GX p k N bl xc sc sf X) (e : Option Expr), chkO N bl ir sc sf e = true → PO X e (tOp2 p ir)
  | .none, p, sc, sf, X, g, e, h => by
    unfold chkO at h
    split at h
    · exact s_none
    · cases h
  | .some x, p, sc, sf, X, g, e, h => by
    unfold chkO at h
    split at h
    · exact s_some g (sE x g _ h)
    · cases h
theorem sC : ∀ (ir : Oe) {p : Pm} {sc : Scope} {sf : Str → Bool} {X : Cx} (g : GX p k N bl xc sc sf X) (e : List Expr), chkC N bl ir sc sf e = true → PTs X e (tC2 p ir)
  | .none, p, sc, sf, X, g, e, h => by
    unfold chkC at h
    split at h
    · exact st_c0
    · cases h
  | .some x, p, sc, sf, X, g, e, h => by
    unfold chkC at h
    split at h
    · exact st_c1 (sT x g _ h)
    · cases h
theorem sT : ∀ (ir : E) {p : Pm} {sc : Scope} {sf : Str → Bool} {X : Cx} (g : GX p k N bl xc sc sf X) (e : Expr), chkT N bl ir sc sf e = true → PT X e (tT p ir)
  | .andE a b, p, sc, sf, X, g, e, h => by
    unfold chkT at h
    split at h
    · simp only [Bool.and_eq_true] at h
      exact st_and g (sT a g _ h.1) (pw_and1 (sT b g _ h.2))
    · simp only [Bool.and_eq_true] at h
      exact st_and g (sT a g _ h.1) (PT.W (sT b g _ h.2))
    · cases h
  | .orE a b, p, sc, sf, X, g, e, h => by
    unfold chkT at h
    split at h
    · simp only [Bool.and_eq_true] at h
      exact st_or g (sT a g _ h.1) (pw_or1 (sT b g _ h.2))
    · simp only [Bool.and_eq_true] at h
      exact st_or g (sT a g _ h.1) (PT.W (sT b g _ h.2))
    · cases h
  | .notE a, p, sc, sf, X, g, e, h => by
    unfold chkT at h
    split at h
    · exact st_not g (sT a g _ h)
    · cases h
  | .tst (.cmp o a b), p, sc, sf, X, g, e, h => by
    unfold chkT chkE at h
    split at h
    · simp only [Bool.and_eq_true, Bool.not_eq_true'] at h
      exact st_cmp g h.1.1.1 h.1.1.2 (sE a g _ h.1.2) (sE b g _ h.2)
    · cases h
  | .tst (.cmp2 o o2 a b c), p, sc, sf, X, g, e, h => by
    unfold chkT chkE at h
    split at h
    · simp only [Bool.and_eq_true, Bool.not_eq_true'] at h
      exact st_cmp2 g h.1.1.1.1.1 h.1.1.1.1.2 h.1.1.1.2 (sE a g _ h.1.1.2) (sE b g _ h.1.2) (sE c g _ h.2)
    · cases h
  | .tst (.isN a), p, sc, sf, X, g, e, h => by
    unfold chkT chkE at h
    split at h
    · exact st_isN g (sE a g _ h)
    · cases h
  | .tst (.notN a), p, sc, sf, X, g, e, h => by
    unfold chkT chkE at h
    split at h
    · exact st_notN g (sE a g _ h)
    · cases h
  | .tst (.var i), p, sc, sf, X, g, e, h => by
    simp only [chkT, Bool.and_eq_true] at h
    exact st_tst g h.1 (sE (.var i) g _ h.2)
  | .tst (.int i), p, sc, sf, X, g, e, h => by
    simp only [chkT, Bool.and_eq_true] at h
    exact st_tst g h.1 (sE (.int i) g _ h.2)
  | .tst (.str i), p, sc, sf, X, g, e, h => by
    simp only [chkT, Bool.and_eq_true] at h
    exact st_tst g h.1 (sE (.str i) g _ h.2)
  | .tst (.bl i), p, sc, sf, X, g, e, h => by
    simp only [chkT, Bool.and_eq_true] at h
    exact st_tst g h.1 (sE (.bl i) g _ h.2)
  | .tst (.non), p, sc, sf, X, g, e, h => by
    simp only [chkT, Bool.and_eq_true] at h
    exact st_tst g h.1 (sE (.non) g _ h.2)
  | .tst (.glob x), p, sc, sf, X, g, e, h => by
    simp only [chkT, Bool.and_eq_true] at h
    exact st_tst g h.1 (sE (.glob x) g _ h.2)
  | .tst (.bop o a b), p, sc, sf, X, g, e, h => by
    simp only [chkT, Bool.and_eq_true] at h
    exact st_tst g h.1 (sE (.bop o a b) g _ h.2)
  | .tst (.neg a), p, sc, sf, X, g, e, h => by
    simp only [chkT, Bool.and_eq_true] at h
    exact st_tst g h.1 (sE (.neg a) g _ h.2)
  | .tst (.andE a b), p, sc, sf, X, g, e, h => by
    simp only [chkT, Bool.and_eq_true] at h
    exact st_tst g h.1 (sE (.andE a b) g _ h.2)
  | .tst (.orE a b), p, sc, sf, X, g, e, h => by
    simp only [chkT, Bool.and_eq_true] at h
    exact st_tst g h.1 (sE (.orE a b) g _ h.2)
  | .tst (.notE a), p, sc, sf, X, g, e, h => by
    simp only [chkT, Bool.and_eq_true] at h
    exact st_tst g h.1 (sE (.notE a) g _ h.2)
  | .tst (.tst a), p, sc, sf, X, g, e, h => by
    simp only [chkT, Bool.and_eq_true] at h
    exact st_tst g h.1 (sE (.tst a) g _ h.2)
  | .tst (.ite t a b), p, sc, sf, X, g, e, h => by
    simp only [chkT, Bool.and_eq_true] at h
    exact st_tst g h.1 (sE (.ite t a b) g _ h.2)
  | .tst (.tup es), p, sc, sf, X, g, e, h => by
    simp only [chkT, Bool.and_eq_true] at h
    exact st_tst g h.1 (sE (.tup es) g _ h.2)
  | .tst (.lst es), p, sc, sf, X, g, e, h => by
    simp only [chkT, Bool.and_eq_true] at h
    exact st_tst g h.1 (sE (.lst es) g _ h.2)
  | .tst (.idx a i), p, sc, sf, X, g, e, h => by
    simp only [chkT, Bool.and_eq_true] at h
    exact st_tst g h.1 (sE (.idx a i) g _ h.2)
  | .tst (.slc a lo hi), p, sc, sf, X, g, e, h => by
    simp only [chkT, Bool.and_eq_true] at h
    exact st_tst g h.1 (sE (.slc a lo hi) g _ h.2)
  | .tst (.rev a), p, sc, sf, X, g, e, h => by
    simp only [chkT, Bool.and_eq_true] at h
    exact st_tst g h.1 (sE (.rev a) g _ h.2)
  | .tst (.call f es), p, sc, sf, X, g, e, h => by
    simp only [chkT, Bool.and_eq_true] at h
    exact st_tst g h.1 (sE (.call f es) g _ h.2)
  | .tst (.callL i es), p, sc, sf, X, g, e, h => by
    simp only [chkT, Bool.and_eq_true] at h
    exact st_tst g h.1 (sE (.callL i es) g _ h.2)
  | .tst (.bi f es), p, sc, sf, X, g, e, h => by
    simp only [chkT, Bool.and_eq_true] at h
    exact st_tst g h.1 (sE (.bi f es) g _ h.2)
  | .tst (.meth m a es), p, sc, sf, X, g, e, h => by
    simp only [chkT, Bool.and_eq_true] at h
    exact st_tst g h.1 (sE (.meth m a es) g _ h.2)
  | .tst (.isi a t), p, sc, sf, X, g, e, h => by
    simp only [chkT, Bool.and_eq_true] at h
    exact st_tst g h.1 (sE (.isi a t) g _ h.2)
  | .tst (.lc e2 t it c own), p, sc, sf, X, g, e, h => by
    simp only [chkT, Bool.and_eq_true] at h
    exact st_tst g h.1 (sE (.lc e2 t it c own) g _ h.2)
  | .var i, p', sc, sf, X, g, e, h => by simp [chkT] at h
  | .int i, p', sc, sf, X, g, e, h => by simp [chkT] at h
  | .str i, p', sc, sf, X, g, e, h => by simp [chkT] at h
  | .bl i, p', sc, sf, X, g, e, h => by simp [chkT] at h
  | .non, p', sc, sf, X, g, e, h => by simp [chkT] at h
  | .glob x, p', sc, sf, X, g, e, h => by simp [chkT] at h
  | .bop o a b, p', sc, sf, X, g, e, h => by simp [chkT] at h
  | .neg a, p', sc, sf, X, g, e, h => by simp [chkT] at h
  | .cmp o a b, p', sc, sf, X, g, e, h => by simp [chkT] at h
  | .cmp2 o p a b c, p', sc, sf, X, g, e, h => by simp [chkT] at h
  | .isN a, p', sc, sf, X, g, e, h => by simp [chkT] at h
  | .notN a, p', sc, sf, X, g, e, h => by simp [chkT] at h
  | .ite t a b, p', sc, sf, X, g, e, h => by simp [chkT] at h
  | .tup es, p', sc, sf, X, g, e, h => by simp [chkT] at h
  | .lst es, p', sc, sf, X, g, e, h => by simp [chkT] at h
  | .idx a i, p', sc, sf, X, g, e, h => by simp [chkT] at h
  | .slc a lo hi, p', sc, sf, X, g, e, h => by simp [chkT] at h
  | .rev a, p', sc, sf, X, g, e, h => by simp [chkT] at h
  | .call f es, p', sc, sf, X, g, e, h => by simp [chkT] at h
  | .callL i es, p', sc, sf, X, g, e, h => by simp [chkT] at h
  | .bi f es, p', sc, sf, X, g, e, h => by simp [chkT] at h
  | .meth m a es, p', sc, sf, X, g, e, h => by simp [chkT] at h
  | .isi a t, p', sc, sf, X, g, e, h => by simp [chkT] at h
  | .lc e2 t it c own, p', sc, sf, X, g, e, h => by simp [chkT] at h
theorem sTg : ∀ (ir : T) {p : Pm} {sc : Scope} {sf : Str → Bool} {X : Cx} (g : GX p k N bl xc sc sf X) (e : Expr), chkTg N bl ir sc sf e = true → PG X e (tGt p ir)
  | .name i, p, sc, sf, X, g, e, h => by
    unfold chkTg at h
    split at h
    · simp only [Bool.and_eq_true, decide_eq_true_eq] at h
      exact sg_name g h.1 h.2
    · cases h
  | .tup ts, p, sc, sf, X, g, e, h => by
    unfold chkTg at h
    split at h
    · exact sg_tup g (ts_star ts _ h).1 (ts_star ts _ h).2 (sTs ts g _ h)
    · cases h
  | .sub o i, p, sc, sf, X, g, e, h => by
    unfold chkTg at h
    split at h
    · simp only [Bool.and_eq_true] at h
      exact sg_sub g h.1.1 (sE o g _ h.1.2) (sE i g _ h.2)
    · cases h
theorem sTs : ∀ (ir : Ts) {p : Pm} {sc : Scope} {sf : Str → Bool} {X : Cx} (g : GX p k N bl xc sc sf X) (e : List Expr), chkTs N bl ir sc sf e = true → PGs X e (tGs p ir)
  | .nil, p, sc, sf, X, g, e, h => by
    unfold chkTs at h
    split at h
    · exact sg_nil
    · cases h
  | .cons t r, p, sc, sf, X, g, e, h => by
    unfold chkTs at h
    split at h
    · simp only [Bool.and_eq_true] at h
      exact sg_cons g h.1.1 (sTg t g _ h.1.2) (sTs r g _ h.2)
    · cases h
theorem sI : ∀ (ir : Q.It) {p : Pm} {sc : Scope} {sf : Str → Bool} {X : Cx} {tg : Expr} (g : GX p k N bl xc sc sf X) (e : Expr), chkI N bl ir sc sf tg e = true → PI X tg e (tIt p ir)
  | .seq a, p, sc, sf, X, tg, g, e, h => by
    unfold chkI at h
    exact si_seq g (sE a g _ h)
  | .rng1 a, p, sc, sf, X, tg, g, e, h => by
    unfold chkI at h
    split at h
    · simp only [Bool.and_eq_true, decide_eq_true_eq] at h
      exact si_rng1 g h.1.1.1.1 h.1.1.1.2 h.1.1.2 h.1.2 (sE a g _ h.2)
    · cases h
  | .rng2 a b, p, sc, sf, X, tg, g, e, h => by
    unfold chkI at h
    split at h
    · simp only [Bool.and_eq_true, decide_eq_true_eq] at h
      obtain ⟨⟨⟨⟨⟨⟨h1, h2⟩, h3⟩, h4⟩, h5⟩, h6⟩, h7⟩ := h
      exact si_rng2 g h1 h2 h3 h4 h5 (sE a g _ h6) (sE b g _ h7)
    · cases h
  | .down a, p, sc, sf, X, tg, g, e, h => by
    unfold chkI at h
    split at h
    · simp only [Bool.and_eq_true, decide_eq_true_eq] at h
      exact si_down g h.1.1.1.1 h.1.1.1.2 h.1.1.2 h.1.2 (sE a g _ h.2)
    · cases h
  | .enm a, p, sc, sf, X, tg, g, e, h => by
    unfold chkI at h
    split at h
    · simp only [Bool.and_eq_true, decide_eq_true_eq] at h
      exact si_enm g h.1.1.1.1 h.1.1.1.2 h.1.1.2 h.1.2 (sE a g _ h.2)
    · cases h
end
end
end Q

set_option Elab.async false
set_option linter.all false
set_option maxRecDepth 100000
set_option maxHeartbeats 16000000
/-! QSound6: statements, defs. -/
namespace Q
open PySem PySem.Spec PyProof.Rows L2
/-- what is wanted behind a statement, told of the heap -/
structure DR (p : Pm) (μ : List Addr) (H : Hp) (D' : En) (D : Ends) : Prop where
  nx : ∀ μ2 H2 S2 σe σ, StR p μ2 H2 S2 σe σ → Step μ H μ2 H2 → D'.nx σe S2 → D.nx σ H2
  rt : ∀ μ2 H2 S2 u v, Step μ H μ2 H2 → StoreOk p.M μ2 H2 S2 → Rep p.M μ2 H2 u v → D'.rt u S2 → D.rt v H2
  bk : ∀ μ2 H2 S2 σe σ, StR p μ2 H2 S2 σe σ → Step μ H μ2 H2 → D'.bk σe S2 → D.bk σ H2
  ct : ∀ μ2 H2 S2 σe σ, StR p μ2 H2 S2 σe σ → Step μ H μ2 H2 → D'.ct σe S2 → D.ct σ H2
theorem DR.step {p : Pm} {μ μ1 : List Addr} {H H1 : Hp} {D' : En} {D : Ends} (d : DR p μ H D' D) (k : Step μ H μ1 H1) : DR p μ1 H1 D' D :=
  ⟨fun μ2 H2 S2 σe σ st s q => d.nx μ2 H2 S2 σe σ st (k.trans s) q, fun μ2 H2 S2 u v s o r q => d.rt μ2 H2 S2 u v (k.trans s) o r q, fun μ2 H2 S2 σe σ st s q => d.bk μ2 H2 S2 σe σ st (k.trans s) q, fun μ2 H2 S2 σe σ st s q => d.ct μ2 H2 S2 σe σ st (k.trans s) q⟩
def tSt (p : Pm) (s : S) : TS := fun D σ H => ∃ μ S σe D', StR p μ H S σe σ ∧ DR p μ H D' D ∧ wpS p.G s p.Ex D' σe S
def tBl (p : Pm) (s : Ss) : TS := fun D σ H => ∃ μ S σe D', StR p μ H S σe σ ∧ DR p μ H D' D ∧ wpSs p.G s p.Ex D' σe S
theorem _root_.L2.PS.imp {X : Cx} {st : Stmt} {t t' : TS} (h : PS X st t) (k : ∀ D σ H, t' D σ H → t D σ H) : PS X st t' := ⟨fun pins s σ H D I q => h.run pins s σ H D I (k D σ H q)⟩
theorem _root_.L2.PSs.imp {X : Cx} {st : List Stmt} {t t' : TS} (h : PSs X st t) (k : ∀ D σ H, t' D σ H → t D σ H) : PSs X st t' := ⟨fun pins s σ H D I q => h.run pins s σ H D I (k D σ H q)⟩

section
variable {p : Pm} {k : Nat} {N bl xc : List Str} {sc : Scope} {X : Cx} {a b c : Expr} {a' b' c' : E} {pos : Pos}
abbrev sAll : Str → Bool := fun _ => true
theorem t_nil : PSs X [] (tBl p .nil) := pss_nil.imp fun D σ H ⟨μ, S, σe, D', st, d, h⟩ => by
  rw [wpSs] at h
  exact d.nx μ H S σe σ st (Step.refl _ _) h
theorem t_cons {s : Stmt} {r : List Stmt} {s' : Q.S} {r' : Ss} (h1 : PS X s (tSt p s')) (h2 : PSs X r (tBl p r')) : PSs X (s :: r) (tBl p (.cons s' r')) := (pss_cons h1 h2).imp fun D σ H ⟨μ, S, σe, D', st, d, h⟩ => by
  rw [wpSs] at h
  exact ⟨μ, S, σe, { D' with nx := fun σ1 S1 => wpSs p.G r' p.Ex D' σ1 S1 }, st, ⟨fun μ2 H2 S2 σe2 σ2 st2 s2 q => ⟨μ2, S2, σe2, D', st2, d.step s2, q⟩, d.rt, d.bk, d.ct⟩, h⟩
theorem t_asg (g : GX p k N bl xc sc sAll X) {tg : Expr} {t : T} (hc : notComp a = true ∨ isNm tg = false) (hs : notStar tg = true) (hw : swappedStores [tg] a X.env = pure none) (hg : PG X tg (tGt p t)) (ha : PE X a (tE p a')) : PS X (.Assign [tg] a pos) (tSt p (.asg t a')) := by
  refine (ps_asg ha hg (sw_of2 hc) hw (by rw [asg_cons hs]; rfl)).imp fun D σ H ⟨μ, S, σe, D', st, d, h⟩ => ?_
  rw [wpS] at h
  exact tE_of g.gm st h fun u S1 h1 μ1 H1 x s1 o1 r1 => tG_of g.gm (st.next s1 o1) r1 h1 fun σe2 S2 h2 μ2 H2 σ2 s2 o2 l2 _ => d.nx μ2 H2 S2 σe2 σ2 ⟨(st.st.trans s1).trans s2, o2, l2⟩ (s1.trans s2) h2
theorem t_ret (g : GX p k N bl xc sc sAll X) (ha : PE X a (tE p a')) : PS X (.Return (some a) pos) (tSt p (.ret a')) := by
  refine (ps_ret ha).imp fun D σ H ⟨μ, S, σe, D', st, d, h⟩ => ?_
  rw [wpS] at h
  exact tE_of g.gm st h fun u S1 h1 μ1 H1 x s1 o1 r1 => d.rt μ1 H1 S1 u x s1 o1 r1 h1
theorem t_retN : PS X (.Return none pos) (tSt p .retN) := ps_retN.imp fun D σ H ⟨μ, S, σe, D', st, d, h⟩ => by
  rw [wpS] at h
  exact d.rt μ H S .non .non (Step.refl _ _) st.ok repN h
theorem t_if (g : GX p k N bl xc sc sAll X) {x y : List Stmt} {x' y' : Ss} (hc : PT X c (tT p c')) (hx : PSs X x (tBl p x')) (hy : PSs X y (tBl p y')) : PS X (.If c x y pos) (tSt p (.ifs c' x' y')) := by
  refine (ps_if hc hx hy).imp fun D σ H ⟨μ, S, σe, D', st, d, h⟩ => ?_
  rw [wpS] at h
  refine tT_of g.gm st h fun e S1 h1 μ1 H1 s1 o1 => ?_
  cases e with
  | true => exact ⟨μ1, S1, σe, D', st.next s1 o1, d.step s1, h1⟩
  | false => exact ⟨μ1, S1, σe, D', st.next s1 o1, d.step s1, h1⟩
theorem t_ex (g : GX p k N bl xc sc sAll X) (hc : notComp a = true) (ha : PE X a (tE p a')) : PS X (.Expr a pos) (tSt p (.ex a')) := by
  refine (ps_expr ha (sw_of hc)).imp fun D σ H ⟨μ, S, σe, D', st, d, h⟩ => ?_
  rw [wpS] at h
  exact tE_of g.gm st h fun u S1 h1 μ1 H1 x s1 o1 r1 => d.nx μ1 H1 S1 σe σ (st.next s1 o1) s1 h1
theorem t_doc {z : Str} {j : Nat} {p2 : Pos} : PS X (.Expr (.Constant (.str z) j p2) pos) (tSt p .doc) := ps_doc.imp fun D σ H ⟨μ, S, σe, D', st, d, h⟩ => by
  rw [wpS] at h
  exact d.nx μ H S σe σ st (Step.refl _ _) h
theorem t_pass : PS X (.Pass pos) (tSt p .pass) := ps_pass.imp fun D σ H ⟨μ, S, σe, D', st, d, h⟩ => by
  rw [wpS] at h
  exact d.nx μ H S σe σ st (Step.refl _ _) h
theorem t_brk : PS X (.Break pos) (tSt p .brk) := ps_break.imp fun D σ H ⟨μ, S, σe, D', st, d, h⟩ => by
  rw [wpS] at h
  exact d.bk μ H S σe σ st (Step.refl _ _) h
theorem t_cont : PS X (.Continue pos) (tSt p .cont) := ps_continue.imp fun D σ H ⟨μ, S, σe, D', st, d, h⟩ => by
  rw [wpS] at h
  exact d.ct μ H S σe σ st (Step.refl _ _) h
theorem t_nev {s : Stmt} : PS X s (tSt p .nev) := ps_never.imp fun D σ H ⟨μ, S, σe, D', st, d, h⟩ => by
  rw [wpS] at h
  exact h
theorem t_aug (g : GX p k N bl xc sc sAll X) {i : Nat} {x : Str} {o : BO} {op : Operator} {p2 : Pos} (hi : N[i]? = some x) (ho : augB o op = true) (hl : stoB sc sAll x = true) (ha : PE X a (tE p a')) : PS X (.AugAssign (.Name x p2) op a pos) (tSt p (.aug i o a')) := by
  obtain ⟨l, f⟩ := sto_of g hl
  have fin : ∀ (r : R2), (∀ μ St u w y z H Q, StoreOk p.M μ H St → Rep p.M μ H u y → Rep p.M μ H w z → augp o u w St (Aft p.M μ H Q) → r y z H Q) → ∀ D σ H, tSt p (.aug i o a') D σ H → tAug i (tE p a') r D σ H := by
    intro r hr D σ H ⟨μ, S, σe, D', st, d, h⟩
    rw [wpS] at h
    cases e : σe[i]? with
    | none => rw [e] at h; exact h.elim
    | some w =>
      cases w with
      | none => rw [e] at h; exact h.elim
      | some u =>
        rw [e] at h
        obtain ⟨v, hv, rv⟩ := st.sl.get i u e
        refine ⟨v, hv, tE_of g.gm st h fun w S1 h1 μ1 H1 y s1 o1 r1 => ?_⟩
        refine hr μ1 S1 u w v y H1 _ o1 (rep_mono s1 st.ok.lsts u v rv) r1 (augp_mono (fun z S2 q μ2 H2 zz s2 o2 r2 => ?_) h1)
        have st2 := st.next (s1.trans s2) o2
        exact d.nx μ2 H2 S2 _ _ ⟨st2.st, o2, st2.sl.set i r2⟩ (s1.trans s2) q
  have hN : X.N.Nodup := by rw [g.hN]; exact g.nd
  have hi' : X.N[i]? = some x := by rw [g.hN]; exact hi
  cases o <;> cases op <;> first | (simp [augB] at ho; done) | skip
  · refine (ps_aug hN hi' l ha iop_add f).imp (fin _ fun μ St u w y z H Q sk r1 r2 h => ?_)
    cases u <;> cases w <;> first | exact h.elim | skip
    rw [Rep] at r1 r2
    subst r1 r2
    exact ⟨_, _, rfl, rfl, (show Aft p.M μ H Q _ St from h).same sk (repI _)⟩
  · refine (ps_aug hN hi' l ha iop_sub f).imp (fin _ fun μ St u w y z H Q sk r1 r2 h => ?_)
    cases u <;> cases w <;> first | exact h.elim | skip
    rw [Rep] at r1 r2
    subst r1 r2
    exact ⟨_, _, rfl, rfl, (show Aft p.M μ H Q _ St from h).same sk (repI _)⟩
  · refine (ps_aug hN hi' l ha iop_fdivNW f).imp (fin _ fun μ St u w y z H Q sk r1 r2 h => ?_)
    cases u <;> cases w <;> first | exact h.elim | skip
    rw [Rep] at r1 r2
    subst r1 r2
    have h : _ ∧ Aft p.M μ H Q _ St := h
    exact ⟨_, _, rfl, rfl, h.1, h.2.same sk (repI _)⟩
theorem t_for (g : GX p k N bl xc sc sAll X) {tg it : Expr} {t : T} {it' : Q.It} {x : List Stmt} {x' : Ss} (hset : notSet it = true) (hg : PG X tg (tGt p t)) (hi : PI X tg it (tIt p it')) (hb : PSs X x (tBl p x')) : PS X (.For tg it x [] pos) (tSt p (.fors t it' x')) := by
  refine (ps_for g.po g.calm hi hg hb (set_of hset)).imp fun D σ H ⟨μ, S, σe, D', st, d, h⟩ => ?_
  rw [wpS] at h
  refine tI_of g.gm st h fun src S1 h1 μ1 H1 J s1 o1 sr => ?_
  obtain ⟨turn, hturn⟩ : ∃ turn : U → Sl → Sto → (Sl → Sto → Prop) → Prop, turn = fun u σ1 S2 k => wpTg p.G t p.Ex u σ1 S2 fun σ2 S3 => wpSs p.G x' p.Ex { nx := k, rt := D'.rt, bk := D'.nx, ct := k } σ2 S3 := ⟨_, rfl⟩
  have h1 : forL turn src.grd src.vals σe S1 D'.nx := by subst hturn; exact h1
  refine ⟨fun i m σ' H' => ∃ μ' S' σe', StR p μ' H' S' σe' σ' ∧ Step μ1 H1 μ' H' ∧ m = src.vals.length - i ∧ i ≤ src.vals.length ∧ forL turn src.grd (src.vals.drop i) σe' S' D'.nx,
    ⟨src.vals.length, μ1, S1, σe, st.next s1 o1, Step.refl _ _, by simp, Nat.zero_le _, by rw [List.drop_zero]; exact h1⟩, ?_⟩
  rintro i m σ2 H2 ⟨μ2, S2, σe2, st2, s2, rfl, hi, w⟩
  by_cases hlt : i < src.vals.length
  · rw [List.drop_eq_getElem_cons hlt] at w
    obtain ⟨gr, w⟩ := w
    refine .inr ⟨sr.go μ2 H2 S2 i s2 st2.ok gr hlt, fun σ' H' => ∃ μ' S' σe', StR p μ' H' S' σe' σ' ∧ Step μ1 H1 μ' H' ∧ forL turn src.grd (src.vals.drop (i + 1)) σe' S' D'.nx, ?_, ?_⟩
    · rintro σ' H' ⟨μ', S', σe', q1, q2, q3⟩
      exact ⟨src.vals.length - (i + 1), by omega, μ', S', σe', q1, q2, rfl, hlt, q3⟩
    · intro y H3 hy
      obtain ⟨s3, o3, r3⟩ := sr.yld μ2 H2 S2 i y H3 _ s2 st2.ok gr (List.getElem?_eq_getElem hlt) hy
      rw [hturn] at w
      refine tG_of g.gm (st2.next s3 o3) r3 w fun σe4 S4 k4 μ4 H4 σ4 s4 o4 l4 _ => ?_
      have s24 := s2.trans (s3.trans s4)
      refine ⟨μ4, S4, σe4, { nx := fun σ5 S5 => forL turn src.grd (src.vals.drop (i + 1)) σ5 S5 D'.nx, rt := D'.rt, bk := D'.nx, ct := fun σ5 S5 => forL turn src.grd (src.vals.drop (i + 1)) σ5 S5 D'.nx }, ⟨(st2.st.trans s3).trans s4, o4, l4⟩, ⟨fun μ5 H5 S5 σe5 σ5 st5 s5 q => ⟨μ5, S5, σe5, st5, s24.trans s5, q⟩, fun μ5 H5 S5 u v s5 o5 r5 q => d.rt μ5 H5 S5 u v ((s1.trans s24).trans s5) o5 r5 q,
        fun μ5 H5 S5 σe5 σ5 st5 s5 q => d.nx μ5 H5 S5 σe5 σ5 st5 ((s1.trans s24).trans s5) q, fun μ5 H5 S5 σe5 σ5 st5 s5 q => ⟨μ5, S5, σe5, st5, s24.trans s5, q⟩⟩, by rw [hturn]; exact k4⟩
  · have e : i = src.vals.length := by omega
    subst e
    rw [List.drop_length] at w
    obtain ⟨gr, w⟩ := w
    exact .inl ⟨sr.stop μ2 H2 S2 _ s2 st2.ok gr (Nat.le_refl _), d.nx μ2 H2 S2 σe2 σ2 st2 (s1.trans s2) w⟩
theorem t_whl (g : GX p k N bl xc sc sAll X) {x : List Stmt} {x' : Ss} (hc : PT X c (tT p c')) (hb : PSs X x (tBl p x')) : PS X (.While c x [] pos) (tSt p (.whl c' x')) := by
  refine (ps_while g.po hc hb).imp fun D σ H ⟨μ, S, σe, D', st, d, h⟩ => ?_
  rw [wpS] at h
  obtain ⟨n, h⟩ := h
  obtain ⟨test, htest⟩ : ∃ test : Sl → Sto → (Bool → Sto → Prop) → Prop, test = fun σ1 S1 k => wpT p.G c' p.Ex σ1 S1 k := ⟨_, rfl⟩
  obtain ⟨body, hbody⟩ : ∃ body : Sl → Sto → (Sl → Sto → Prop) → Prop, body = fun σ1 S1 k => wpSs p.G x' p.Ex { nx := k, rt := D'.rt, bk := D'.nx, ct := k } σ1 S1 := ⟨_, rfl⟩
  have h : whlN test body D'.nx n σe S := by subst htest hbody; exact h
  refine ⟨fun m σ' H' => ∃ μ' S' σe', StR p μ' H' S' σe' σ' ∧ Step μ H μ' H' ∧ whlN test body D'.nx m σe' S', ⟨n, μ, S, σe, st, Step.refl _ _, h⟩, ?_⟩
  rintro m σ2 H2 ⟨μ2, S2, σe2, st2, s2, w⟩
  cases m with
  | zero => exact w.elim
  | succ m =>
    have w : wpT p.G c' p.Ex σe2 S2 fun b S3 => if b = true then body σe2 S3 (fun σ3 S3 => whlN test body D'.nx m σ3 S3) else D'.nx σe2 S3 := by
      subst htest
      exact w
    refine tT_of g.gm st2 w fun e S3 h3 μ3 H3 s3 o3 => ?_
    have st3 := st2.next s3 o3
    cases e with
    | false => exact d.nx μ3 H3 S3 σe2 σ2 st3 (s2.trans s3) h3
    | true =>
      have h3 : body σe2 S3 (fun σ3 S3 => whlN test body D'.nx m σ3 S3) := h3
      refine ⟨fun σ' H' => ∃ μ' S' σe', StR p μ' H' S' σe' σ' ∧ Step μ H μ' H' ∧ whlN test body D'.nx m σe' S', fun σ' H' q => ⟨m, Nat.lt_succ_self m, q⟩, ?_⟩
      rw [hbody] at h3
      have s23 := s2.trans s3
      refine ⟨μ3, S3, σe2, { nx := fun σ5 S5 => whlN test body D'.nx m σ5 S5, rt := D'.rt, bk := D'.nx, ct := fun σ5 S5 => whlN test body D'.nx m σ5 S5 }, st3, ⟨fun μ5 H5 S5 σe5 σ5 st5 s5 q => ⟨μ5, S5, σe5, st5, s23.trans s5, q⟩, fun μ5 H5 S5 u v s5 o5 r5 q => d.rt μ5 H5 S5 u v (s23.trans s5) o5 r5 q,
        fun μ5 H5 S5 σe5 σ5 st5 s5 q => d.nx μ5 H5 S5 σe5 σ5 st5 (s23.trans s5) q, fun μ5 H5 S5 σe5 σ5 st5 s5 q => ⟨μ5, S5, σe5, st5, s23.trans s5, q⟩⟩, by rw [hbody]; exact h3⟩
theorem t_raise (g : GX p k N bl xc sc sAll X) {x m : Str} {pp p2 p3 : Pos} {j : Nat} (hx : x ∈ xc) (hg : globB sc x = true) : PS X (.Raise (some (.Call (.Name x pp) [.Constant (.str m) j p2] [] p3)) none pos) (tSt p (.raise x m)) := by
  obtain ⟨a1, b1, _⟩ := glob_of g hg
  obtain ⟨W, tk, hW⟩ := g.tk
  obtain ⟨C, hm, hk, hs, ht, bm, hx', rfl⟩ := (g.exc x hx).ex
  refine (ps_raise g.calm tk (pmk_own PySem.F.excBase_ValueError (by rw [g.hK]; exact hx') (by rw [g.hmg]; exact hm) (by rw [g.hK]; exact hk) (raises_own (by rw [g.hK]; exact hs) (by rw [g.hK]; exact ht)) a1 b1)).imp fun D σ H ⟨μ, S, σe, D', st, d, h⟩ => ?_
  rw [wpS] at h
  exact hW x [] σe S _ _ σ H μ st ⟨rfl, rfl, C, rfl, hm⟩ h
/-- what an except suite does, told of the heap -/
def hts (h : Hd) : TS := fun D σ H => match h with
  | .retN => D.rt .non H
  | .retB b => D.rt (.bl b) H
  | .cont => D.ct σ H
  | .pass => D.nx σ H
  | .brk => D.bk σ H
theorem hts_ok {h : Hd} {l : List Stmt} (hc : chkH h l = true) : ∃ b0, l = [b0] ∧ ∀ X : Cx, PSs X l (hts h) := by
  unfold chkH at hc
  split at hc
  · exact ⟨_, rfl, fun X => (pss_one (ps_ret pe_non)).imp fun D σ H h => h⟩
  · rename_i b c _ _ _
    obtain rfl : b = c := by simpa using hc
    exact ⟨_, rfl, fun X => (pss_one (ps_ret pe_bl)).imp fun D σ H h => h⟩
  · exact ⟨_, rfl, fun X => (pss_one ps_continue).imp fun D σ H h => h⟩
  · exact ⟨_, rfl, fun X => (pss_one ps_pass).imp fun D σ H h => h⟩
  · exact ⟨_, rfl, fun X => (pss_one ps_break).imp fun D σ H h => h⟩
  · cases hc
theorem t_tryo (g : GX p k N bl xc sc sAll X) (hs : X.stack = X.env :: X.outer) (hf : X.env.frame = some X.env.locals) {x : Str} {body suite : List Stmt} {np pos' : Pos} {b' : Ss} {h : Hd} (hxc : x ∈ xc) (hx : globB sc x = true) (hh : chkH h suite = true)
    (hb : ∀ {p' : Pm} {X' : Cx}, GX p' k N bl xc sc sAll X' → X'.stack = X'.env :: X'.outer → X'.env.frame = some X'.env.locals → PSs X' body (tBl p' b')) :
    PS X (.Try body [.ExceptHandler (some (.Name x np)) none suite pos'] [] [] pos) (tSt p (.tryo b' x h)) := by
  obtain ⟨b0, rfl, hsu⟩ := hts_ok hh
  obtain ⟨a1, b1, _⟩ := glob_of g hx
  obtain ⟨W, tk, hW⟩ := g.tk
  obtain ⟨C, hm, hk, _⟩ := (g.exc x hxc).ex
  refine (ps_try_only (X := X) (c := .ref C) (tb := fun W D σ H => ∃ Ex m0 H0, (∀ c q σe S2 cls d σ2 H2 μ2, StR ⟨p.M, p.G, Ex, m0, H0⟩ μ2 H2 S2 σe σ2 → ExR p.M c q cls d → Ex c q σe S2 → W cls d σ2 H2) ∧ tBl ⟨p.M, p.G, Ex, m0, H0⟩ b' D σ H)
    (ts := fun _ _ _ => hts h) (Wout := W) hs hf ⟨a1, b1, .inl (by rw [g.hmg]; exact hm)⟩ tk (fun W2 pn xe tk2 po2 => ?_) (fun a oe cls d pn _ _ => hsu _)).imp fun D σ H ⟨μ, S, σe, D', st, d, hw⟩ => ?_
  · refine ⟨fun pins s1 σ1 H1 D1 I1 ⟨Ex, m0, H0, hW2, hbb⟩ => ?_⟩
    exact (hb (p' := ⟨p.M, p.G, Ex, m0, H0⟩) (X' := X.tr pn xe) { hK := g.hK, hmg := g.hmg, hN := g.hN, nd := g.nd, hsc := g.hsc, knd := g.knd, calm := g.calm, room := g.room, fn := g.fn, gm := g.gm, fns := g.fns, cts := g.cts, blt := g.blt, exc := g.exc, exm := g.exm, tk := ⟨W2, tk2, hW2⟩, po := po2 } hs hf).run pins s1 σ1 H1 D1 I1 hbb
  · rw [wpS] at hw
    have down : ∀ {Ex : ExS} {μ2 H2 S2 σe2 σ2}, StR ⟨p.M, p.G, Ex, μ, H⟩ μ2 H2 S2 σe2 σ2 → StR p μ2 H2 S2 σe2 σ2 := fun q => ⟨st.st.trans q.st, q.ok, q.sl⟩
    refine ⟨fun cl q σ2 S2 => optb (p.G.exm cl x) fun y => if y = true then hdp h D' σ2 S2 else p.Ex cl q σ2 S2, μ, H, ?_, μ, S, σe, D', ⟨Step.refl _ _, st.ok, st.sl⟩, ?_, hw⟩
    · rintro c q σe2 S2 cls dd σ2 H2 μ2 st2 hr hex
      cases e : p.G.exm c x with
      | none => rw [e] at hex; exact hex.elim
      | some y =>
        rw [e] at hex
        have hex : if y = true then hdp h D' σe2 S2 else p.Ex c q σe2 S2 := hex
        obtain ⟨C', hm', hx'⟩ := g.exm c x y e
        obtain rfl : C = C' := by
          rw [hm] at hm'
          cases hm'; rfl
        obtain ⟨r1, r2, a, r3, r4⟩ := id hr
        refine ⟨y, by rw [r3, g.hK]; exact hx' a r4, fun hy ea _ => ?_, fun hy => ?_⟩
        · rw [if_pos hy] at hex
          have s2 : Step μ H μ2 H2 := st2.st
          have st3 := down st2
          show hts h D σ2 H2
          cases h with
          | retN => exact d.rt μ2 H2 S2 .non .non s2 st3.ok repN hex
          | retB b => exact d.rt μ2 H2 S2 (.bl b) (.bl b) s2 st3.ok (by rw [Rep]) hex
          | cont => exact d.ct μ2 H2 S2 σe2 σ2 st3 s2 hex
          | pass => exact d.nx μ2 H2 S2 σe2 σ2 st3 s2 hex
          | brk => exact d.bk μ2 H2 S2 σe2 σ2 st3 s2 hex
        · rw [if_neg (by rw [hy]; exact Bool.false_ne_true)] at hex
          exact hW c q σe2 S2 cls dd σ2 H2 μ2 (down st2) hr hex
    · exact ⟨fun μ2 H2 S2 σe2 σ2 st2 s2 q => d.nx μ2 H2 S2 σe2 σ2 (down st2) s2 q, d.rt, fun μ2 H2 S2 σe2 σ2 st2 s2 q => d.bk μ2 H2 S2 σe2 σ2 (down st2) s2 q, fun μ2 H2 S2 σe2 σ2 st2 s2 q => d.ct μ2 H2 S2 σe2 σ2 (down st2) s2 q⟩
end
end Q

set_option Elab.async false
set_option linter.all false
set_option maxRecDepth 100000
set_option maxHeartbeats 16000000
/-! QSound7: blocks; a def keeps the promise that wp shows of its small form. -/
namespace Q
open PySem PySem.Spec PyProof.Rows L2
section
variable {p : Pm} {k : Nat} {N bl xc : List Str} {sc : Scope} {X : Cx} {a b c : Expr} {a' b' c' : E} {pos : Pos}
theorem t_setE (g : GX p k N bl xc sc sAll X) {i : Nat} {y : Str} {py : Pos} (hy : N[i]? = some y) (hl : stoB sc sAll y = true) (hs : swapsWith a (some (.Name y py)) pos.line X.env = pure false) (ha : PE X a (tE p a')) : PS X (.Assign [.Name y py] a pos) (tSt p (.setlc i a')) := by
  obtain ⟨l, f⟩ := sto_of g hl
  refine (ps_set (i := i) (by rw [g.hN]; exact g.nd) (by rw [g.hN]; exact hy) l ha hs f).imp fun D σ H ⟨μ, S, σe, D', st, d, h⟩ => ?_
  rw [wpS] at h
  exact tE_of g.gm st h fun u S1 h1 μ1 H1 x s1 o1 r1 => d.nx μ1 H1 S1 _ _ ⟨st.st.trans s1, o1, (st.sl.mono s1 st.ok.lsts).set i r1⟩ s1 h1
theorem t_setlc (g : GX p k N bl xc sc sAll X) {i : Nat} {y : Str} {py vp : Pos} {e0 : Expr} {gs : List Comprehension} {scope : Scope} {e' : E} {t : T} {it : Q.It} {co : Oe} {own : List (Str × Nat)} (hy : N[i]? = some y) (hl : stoB sc sAll y = true)
    (h : chkE N bl (.lc e' t it co own) sc sAll (.ListComp e0 gs scope vp) = true) : PS X (.Assign [.Name y py] (.ListComp e0 gs scope vp) pos) (tSt p (.setlc i (.lc e' t it co own))) := by
  cases hw : swLc sc y py vp scope with
  | false => exact t_setE g hy hl (by rw [sw_lc g.hsc g.knd, hw]) (sE _ g _ h)
  | true =>
    have hlk : X.env.scope.names.lookup y = some .local := by
      unfold swLc at hw
      simp only [Bool.and_eq_true, beq_iff_eq] at hw
      rw [g.hsc]; exact hw.1.1
    unfold chkE at h
    split at h
    · rename_i e1 t0 it0 cs0 scope0 pos0 heq
      cases heq
      simp only [Bool.and_eq_true] at h
      obtain ⟨⟨⟨⟨⟨⟨⟨h1, h2⟩, h3⟩, h4⟩, h5⟩, h6⟩, h7⟩, h8⟩ := h
      have ok := blkOk_by h3
      have ok' : BlkOk X.N X.env.scope scope own := by rw [g.hN, g.hsc]; exact ok
      have ow : ∀ i ∈ nmsT t, i ∈ own.map (·.2) := fun i hi => by
        have z := List.all_eq_true.mp h5 i hi
        simpa using z
      have hg := fun s H C cl fp => sTg t (gx_blk g ok s H C cl fp) _ h6
      have ht := fun s H C cl fp => sC co (gx_blk g ok s H C cl fp) _ h7
      have he := fun s H C cl fp => sE e' (gx_blk g ok s H C cl fp) _ h8
      refine (ps_setLc (i := i) g.calm (by rw [g.hN]; exact g.nd) (by rw [g.hN]; exact hy) hlk (by rw [sw_lc g.hsc g.knd, hw]) (sI it g _ h1) ok' hg ht he (set_of h2)).imp fun D σ H ⟨μ, S, σe, D', st, d, hw⟩ => ?_
      rw [wpS] at hw
      refine s_lc (pos := pos) g ok h2 ow (sI it (tg := t0) g _ h1) hg ht he σ H _ (tE_of g.gm st hw fun u S1 h1 μ1 H1 x s1 o1 r1 => ?_)
      exact d.nx μ1 H1 S1 _ _ ⟨st.st.trans s1, o1, (st.sl.mono s1 st.ok.lsts).set i r1⟩ s1 h1
    · cases h
theorem t_par (g : GX p k N bl xc sc sAll X) {i j : Nat} {x y : Str} {px py p1 p2 : Pos} {k1 k2 : Nat} (hx : N[i]? = some x) (hy : N[j]? = some y) (hij : i ≠ j) (sa : notStar a = true) (sb : notStar b = true) (ha : PE X a (tE p a')) (hb : PE X b (tE p b'))
    (h : (swOut sc [.Name x px, .Name y py] [a, b] = some (some [x, y]) ∧ sc.names.lookup x = some .local ∧ sc.names.lookup y = some .local) ∨ (swOut sc [.Name x px, .Name y py] [a, b] = some none ∧ stoB sc sAll x = true ∧ stoB sc sAll y = true)) :
    PS X (.Assign [.Tuple [.Name x px, .Name y py] k1 p1] (.Tuple [a, b] k2 p2) pos) (tSt p (.par i j a' b')) := by
  have hN : X.N.Nodup := by rw [g.hN]; exact g.nd
  have hx' : X.N[i]? = some x := by rw [g.hN]; exact hx
  have hy' : X.N[j]? = some y := by rw [g.hN]; exact hy
  have hA : PA X [a, b] (tA p (.cons a' (.cons b' .nil))) := s_cons g sa ha (s_cons g sb hb s_nil)
  have key : ∀ (R : List V → Hp → Prop) (D : Ends) (σ : L2.St) (H : Hp), (∀ μ1 H1 S1 σe D' μ S u v xs, StR p μ H S σe σ → DR p μ H D' D → Step μ H μ1 H1 → StoreOk p.M μ1 H1 S1 → RepL p.M μ1 H1 [u, v] xs → D'.nx ((σe.set i (some u)).set j (some v)) S1 → R xs H1) →
      tSt p (.par i j a' b') D σ H → tA p (.cons a' (.cons b' .nil)) σ H R := by
    intro R D σ H hR ⟨μ, S, σe, D', st, d, hw⟩
    rw [wpS] at hw
    have hw2 : wpEs p.G (.cons a' (.cons b' .nil)) p.Ex σe S fun us S1 => ∃ u v, us = [u, v] ∧ D'.nx ((σe.set i (some u)).set j (some v)) S1 := by
      rw [wpEs]
      refine wpE_mono g.gm a' (fun _ _ _ _ z => z) (fun u S1 h1 => ?_) hw
      rw [wpEs]
      refine wpE_mono g.gm b' (fun _ _ _ _ z => z) (fun v S2 h2 => ?_) h1
      rw [wpEs]
      exact ⟨u, v, rfl, h2⟩
    refine tA_of g.gm st hw2 fun us S1 h1 μ1 H1 vs s1 o1 r1 => ?_
    obtain ⟨u, v, rfl, h1⟩ := h1
    exact hR μ1 H1 S1 σe D' μ S u v vs st d s1 o1 r1 h1
  rcases h with ⟨h1, h2, h3⟩ | ⟨h1, h2, h3⟩
  · refine (ps_par g.calm hN hx' hy' hij (by rw [g.hsc]; exact h2) (by rw [g.hsc]; exact h3) hA (sw_out g.hsc g.knd h1) rfl).imp fun D σ H hw => ?_
    refine key _ D σ H (fun μ1 H1 S1 σe D' μ S u v xs st d s1 o1 r1 q => ?_) hw
    obtain ⟨z, w, rfl, ru, rv⟩ := repL2 r1
    exact ⟨z, w, rfl, d.nx μ1 H1 S1 _ _ ⟨st.st.trans s1, o1, ((st.sl.mono s1 st.ok.lsts).set i ru).set j rv⟩ s1 q⟩
  · obtain ⟨l1, f1⟩ := sto_of g h2
    obtain ⟨l2, f2⟩ := sto_of g h3
    refine (ps_asg (pe_tup hA) (pg_tup g.calm (pgs_cons (pg_name (i := i) hN hx' l1 f1) (pgs_cons (pg_name (i := j) hN hy' l2 f2) pgs_nil))) rfl (sw_out g.hsc g.knd h1)).imp fun D σ H hw => ?_
    refine key _ D σ H (fun μ1 H1 S1 σe D' μ S u v xs st d s1 o1 r1 q => ?_) hw
    obtain ⟨z, w, rfl, ru, rv⟩ := repL2 r1
    refine ⟨by rw [sizeLine_eq]; show 2 ≤ 16777216; decide, fun P hP => ⟨P, [z, w], rfl, .inl (.inl upd_same), rfl, z, [w], rfl, w, [], rfl, rfl, ?_⟩⟩
    have s2 : Step μ1 H1 μ1 (upd H1 P (.tup [z, w])) := Step.laid hP
    exact d.nx μ1 _ S1 _ _ ⟨(st.st.trans s1).trans s2, o1.laid hP, ((st.sl.mono (s1.trans s2) st.ok.lsts).set i (rep_mono s2 o1.lsts _ _ ru)).set j (rep_mono s2 o1.lsts _ _ rv)⟩ (s1.trans s2) q
end
section
variable {k : Nat} {N bl xc : List Str} {sc : Scope}
mutual
theorem sS : ∀ (ir : S) (s : Stmt) {p : Pm} {X : Cx} (g : GX p k N bl xc sc sAll X) (hs : X.stack = X.env :: X.outer) (hf : X.env.frame = some X.env.locals), chkS N bl xc ir sc s = true → PS X s (tSt p ir)
  | .asg t e, s, p, X, g, hs, hf, h => by
    unfold chkS at h
    split at h
    · rename_i t' e2 pos
      simp only [Bool.and_eq_true] at h
      obtain ⟨⟨⟨⟨h1, h2⟩, h3⟩, h4⟩, h5⟩ := h
      refine t_asg g (by rw [Bool.or_eq_true] at h1; rcases h1 with h1 | h1; exact .inl h1; exact .inr (by simpa using h1)) h2 ?_ (sTg t g _ h4) (sE e g _ h5)
      rw [Bool.or_eq_true, Bool.or_eq_true] at h3
      rcases h3 with h3 | h3
      · exact sst_of h3
      · split at h3
        · exact sw_out g.hsc g.knd (of_decide_eq_true h3)
        · cases h3
    · cases h
  | .setlc i e, s, p, X, g, hs, hf, h => by
    unfold chkS at h
    split at h
    · simp only [Bool.and_eq_true, decide_eq_true_eq] at h
      exact t_setlc g h.1.1 h.1.2 h.2
    · cases h
  | .par i j a b, s, p, X, g, hs, hf, h => by
    unfold chkS at h
    split at h
    · simp only [Bool.and_eq_true, Bool.or_eq_true, decide_eq_true_eq, bne_iff_ne] at h
      obtain ⟨⟨⟨⟨⟨⟨⟨h1, h2⟩, h3⟩, h4⟩, h5⟩, h6⟩, h7⟩, h8⟩ := h
      refine t_par g h1 h2 h3 h4 h5 (sE a g _ h6) (sE b g _ h7) ?_
      rcases h8 with h8 | h8
      · exact .inl ⟨h8.1.1, h8.1.2, h8.2⟩
      · exact .inr ⟨h8.1.1, h8.1.2, h8.2⟩
    · cases h
  | .aug i o e, s, p, X, g, hs, hf, h => by
    unfold chkS at h
    split at h
    · simp only [Bool.and_eq_true, decide_eq_true_eq] at h
      exact t_aug g h.1.1.1 h.1.1.2 h.1.2 (sE e g _ h.2)
    · cases h
  | .ret e, s, p, X, g, hs, hf, h => by
    unfold chkS at h
    split at h
    · exact t_ret g (sE e g _ h)
    · cases h
  | .retN, s, p, X, g, hs, hf, h => by
    unfold chkS at h
    split at h
    · exact t_retN
    · cases h
  | .ifs t a b, s, p, X, g, hs, hf, h => by
    unfold chkS at h
    split at h
    · simp only [Bool.and_eq_true] at h
      exact t_if g (sT t g _ h.1.1) (sSs a _ g hs hf h.1.2) (sSs b _ g hs hf h.2)
    · cases h
  | .fors t it b, s, p, X, g, hs, hf, h => by
    unfold chkS at h
    split at h
    · simp only [Bool.and_eq_true] at h
      exact t_for g h.1.2 (sTg t g _ h.1.1.1) (sI it g _ h.1.1.2) (sSs b _ g hs hf h.2)
    · cases h
  | .whl t b, s, p, X, g, hs, hf, h => by
    unfold chkS at h
    split at h
    · simp only [Bool.and_eq_true] at h
      exact t_whl g (sT t g _ h.1) (sSs b _ g hs hf h.2)
    · cases h
  | .ex e, s, p, X, g, hs, hf, h => by
    unfold chkS at h
    split at h
    · simp only [Bool.and_eq_true] at h
      exact t_ex g h.1 (sE e g _ h.2)
    · cases h
  | .doc, s, p, X, g, hs, hf, h => by
    unfold chkS at h
    split at h
    · exact t_doc
    · cases h
  | .raise c m, s, p, X, g, hs, hf, h => by
    unfold chkS at h
    split at h
    · simp only [Bool.and_eq_true, decide_eq_true_eq] at h
      obtain ⟨⟨⟨rfl, rfl⟩, h3⟩, h4⟩ := h
      exact t_raise g h3 h4
    · cases h
  | .pass, s, p, X, g, hs, hf, h => by
    unfold chkS at h
    split at h
    · exact t_pass
    · cases h
  | .brk, s, p, X, g, hs, hf, h => by
    unfold chkS at h
    split at h
    · exact t_brk
    · cases h
  | .cont, s, p, X, g, hs, hf, h => by
    unfold chkS at h
    split at h
    · exact t_cont
    · cases h
  | .nev, s, p, X, g, hs, hf, h => t_nev
  | .tryo b c hd, s, p, X, g, hs, hf, h => by
    unfold chkS at h
    split at h
    · simp only [Bool.and_eq_true, decide_eq_true_eq] at h
      obtain ⟨⟨⟨⟨rfl, h2⟩, h3⟩, h4⟩, h5⟩ := h
      exact t_tryo g hs hf h2 h3 h4 (fun {p' X'} g' hs' hf' => sSs b _ g' hs' hf' h5)
    · cases h
theorem sSs : ∀ (ir : Ss) (s : List Stmt) {p : Pm} {X : Cx} (g : GX p k N bl xc sc sAll X) (hs : X.stack = X.env :: X.outer) (hf : X.env.frame = some X.env.locals), chkSs N bl xc ir sc s = true → PSs X s (tBl p ir)
  | .nil, s, p, X, g, hs, hf, h => by
    unfold chkSs at h
    split at h
    · exact t_nil
    · cases h
  | .cons x r, s, p, X, g, hs, hf, h => by
    unfold chkSs at h
    split at h
    · simp only [Bool.and_eq_true] at h
      exact t_cons (sS x _ g hs hf h.1) (sSs r _ g hs hf h.2)
    · cases h
end
end
/-- the slots at the entry -/
def startU (n : Nat) (us : List U) : Sl := us.map some ++ List.replicate (n - us.length) none
theorem sl_start {M : Md} {μ : List Addr} {H : Hp} {us : List U} {vs : List V} (r : RepL M μ H us vs) (N : List Str) : SlR M μ H (startU N.length us) (L2.start N vs) := by
  have hl := r.length
  refine ⟨by unfold startU L2.start; simp [hl], fun i u e => ?_⟩
  unfold startU at e
  by_cases h : i < us.length
  · rw [List.getElem?_append_left (by simpa using h), List.getElem?_map] at e
    cases e2 : us[i]? with
    | none => rw [e2] at e; cases e
    | some w =>
      rw [e2] at e
      cases e
      obtain ⟨v, hv, rv⟩ := r.get e2
      refine ⟨v, ?_, rv⟩
      unfold L2.start
      rw [List.getElem?_append_left (by simpa [← hl] using h), List.getElem?_map, hv]; rfl
  · rw [List.getElem?_append_right (by simpa using h), List.getElem?_replicate] at e
    split at e <;> cases e
/-- what the module gives a def of level k -/
structure Env1 (P : Program) (w : World) (M : Md) (base : Heap) (G : Gm) (k : Nat) (bl xc : List Str) : Prop where
  gm : GMono G
  fns : ∀ f sp, G.fns f = some sp → ∃ fa fd ps, M.mg f = some (.ref fa) ∧ PySem.W.keepIn M.K (.ref fa) = true ∧ FnOk P w M.K M.mg base (L2.CX P w) k fa fd ps (spU M sp) ∧ Binds M.K fd ps []
  cts : ∀ x u, G.cts x = some u → ∃ w v, M.mg x = some w ∧ RelV v w ∧ ∀ μ H, Rep M μ H u v
  blt : ∀ x ∈ bl, M.mg x = none
  exc : ∀ c ∈ xc, ExcOk M c
  exm : ∀ cl c y, G.exm cl c = some y → ∃ C : Addr, M.mg c = some (.ref C) ∧ ∀ a, M.mg cl = some (.ref a) → PySem.W.exmOne M.K (.ref a) (.ref C) = some y
/-- THE RULE: a def of the text, by the small form of its body -/
theorem def_ok {P : Program} {w : World} {M : Md} {base : Heap} {G : Gm} {k : Nat} {bl xc : List Str} {x qual : Str} {params : Arguments} {body : List Stmt} {scope : Scope} {f : Addr} {fd : FuncData} {N ps : List Str} {sp : FSpec} {ir : Ss}
    (F : FunD M.K x qual params body scope [] [] f fd) (hS : FnScope N ps scope) (E : Env1 P w M base G k bl xc) (hc : chkSs N bl xc ir scope body = true) (len : ∀ us S Q X, sp us S Q X → us.length = ps.length)
    (hsp : ∀ us S Q X, sp us S Q X → wpSs G ir (fun c q _ S2 => X c q S2) { nx := fun _ S2 => Q .non S2, rt := Q } (startU N.length us) S) : FnOk P w M.K M.mg base (L2.CX P w) (k + 1) f fd ps (spU M sp) := by
  refine F.ok hS (fun vs H Q X ⟨μ, S, us, _, r, h⟩ => by rw [← r.length]; exact len us S _ _ h) fun cdv A outer s H vs Q X hr ⟨μ, S, us, ok, r, h⟩ => ?_
  have h2 := hsp us S _ _ h
  obtain ⟨p, hp⟩ : ∃ p : Pm, p = ⟨M, G, fun c q _ S2 => ∀ μ2 H2 cls d, Step μ H μ2 H2 → StoreOk M μ2 H2 S2 → ExR M c q cls d → X cls d H2, μ, H⟩ := ⟨_, rfl⟩
  have g : GX p k N bl xc scope sAll (cxOf (L2.CX P w) P w M.K M.mg base N qual scope f cdv A outer s H X) := by
    subst hp
    exact {
      hK := rfl
      hmg := rfl
      hN := rfl
      nd := hS.nd
      hsc := rfl
      knd := hS.kind
      calm := rfl
      room := hr
      fn := fun _ _ => rfl
      gm := E.gm
      fns := E.fns
      cts := E.cts
      blt := E.blt
      exc := E.exc
      exm := E.exm
      tk := ⟨fun cls d _ H => X cls d H, takes_of rfl rfl rfl rfl, fun c q σe S2 cls d σ H2 μ2 st r h => h μ2 H2 cls d st.st st.ok r⟩
      po := passes_of rfl }
  refine ⟨tBl p ir, sSs ir body g rfl rfl hc, μ, S, startU N.length us, { nx := fun _ S2 => Aft M μ H Q .non S2, rt := Aft M μ H Q }, ?_, ?_, ?_⟩
  · subst hp
    exact ⟨Step.refl _ _, ok, sl_start r N⟩
  · subst hp
    exact ⟨fun μ2 H2 S2 σe σ st s2 q => q μ2 H2 .non s2 st.ok repN, fun μ2 H2 S2 u v s2 o2 r2 q => q μ2 H2 v s2 o2 r2, fun _ _ _ _ _ _ _ q => q, fun _ _ _ _ _ _ _ q => q⟩
  · subst hp
    exact h2
end Q

set_option Elab.async false
set_option linter.all false
set_option maxRecDepth 100000
set_option maxHeartbeats 2000000
/-! QSimp: the rules by which wp is worked out; loops by invariants. -/
namespace Q
open PySem
def cellp : Option Cell → (List U → Prop) → Prop
  | some (.lst l), k => k l
  | none, _ => False
section
variable {l a b : List U} {n m : Nat} {St : Sto} {Q : Ks} {i j : Int} {k : List U → Prop} {kb : Bool → Prop} {x y v : U} {o : BO} {c d : Bool} {s t : Str}
theorem z_cell : cellp (some (.lst l)) k = k l := rfl
theorem z_slot {q : U → Prop} : slotp (some (some v)) q = q v := rfl
theorem z_int {q : Int → Prop} : intp (.int i) q = q i := rfl
theorem z_bl {q : Bool → Prop} : blp (.bl c) q = q c := rfl
theorem z_tup {q : List U → Prop} : tupp (.tup l) q = q l := rfl
theorem z_fn {q : Str → Prop} : fnp (.fn s) q = q s := rfl
theorem z_optb {q : Bool → Prop} : optb (some c) q = q c := rfl
theorem z_hN {D : En} {σ : Sl} : hdp .retN D σ St = D.rt .non St := rfl
theorem z_hB {D : En} {σ : Sl} : hdp (.retB c) D σ St = D.rt (.bl c) St := rfl
theorem z_hC {D : En} {σ : Sl} : hdp .cont D σ St = D.ct σ St := rfl
theorem z_hP {D : En} {σ : Sl} : hdp .pass D σ St = D.nx σ St := rfl
theorem z_hK {D : En} {σ : Sl} : hdp .brk D σ St = D.bk σ St := rfl
theorem z_lst {q : Prop} : lstq (.lst n) q = q := rfl
theorem z_nil {q : Prop} : nilp [] q = q := rfl
theorem z_cons {q : U → List U → Prop} : consp (v :: l) q = q v l := rfl
theorem z_opt {α : Type} {u : α} {q : α → Prop} : optp (some u) q = q u := rfl
theorem z_optu {q : U → Prop} : optu (some v) q = q v := rfl
theorem z_srct {f : List U → List U} {q : Src → Prop} : srcp f (.tup l) St q = q ⟨f l, fun _ => True⟩ := rfl
theorem z_srcl {f : List U → List U} {q : Src → Prop} : srcp f (.lst n) St q = cellp St[n]? fun l => q ⟨f l, fun S2 => S2[n]? = some (.lst l)⟩ := by
  rcases h : St[n]? with _ | ⟨⟨z⟩⟩ <;> simp only [srcp, cellp, h]
theorem z_bopi : bop o (.int i) (.int j) St Q = bopI o i j St Q := rfl
theorem z_bopt : bop .add (.tup a) (.tup b) St Q = (a.length + b.length ≤ sizeLine ∧ Q (.tup (a ++ b)) St) := rfl
theorem z_bopl : bop .add (.lst m) (.lst n) St Q = cellp St[m]? fun a => cellp St[n]? fun b => a.length + b.length ≤ sizeLine ∧ Q (.lst St.length) (St ++ [.lst (a ++ b)]) := by
  rcases h : St[m]? with _ | ⟨⟨z⟩⟩ <;> rcases h2 : St[n]? with _ | ⟨⟨w⟩⟩ <;> simp only [bop, cellp, h, h2]
theorem z_bopm : bop .mul (.lst m) (.int i) St Q = cellp St[m]? fun a => (-(2 ^ 63) ≤ i ∧ i < 2 ^ 63 ∧ a.length * i.toNat ≤ sizeLine) ∧ Q (.lst St.length) (St ++ [.lst (List.replicate i.toNat a).flatten]) := by
  rcases h : St[m]? with _ | ⟨⟨z⟩⟩ <;> simp only [bop, cellp, h]
theorem z_add : bopI .add i j St Q = Q (.int (i + j)) St := rfl
theorem z_sub : bopI .sub i j St Q = Q (.int (i - j)) St := rfl
theorem z_mul : bopI .mul i j St Q = (i.natAbs.log2 + j.natAbs.log2 < 1000000 ∧ Q (.int (i * j)) St) := rfl
theorem z_div : bopI .div i j St Q = ((j ≠ 0 ∧ j.natAbs.log2 < 9000) ∧ Q (.int (i.fdiv j)) St) := rfl
theorem z_mod : bopI .mod i j St Q = (j ≠ 0 ∧ Q (.int (i.fmod j)) St) := rfl
theorem z_pow : bopI .pow i j St Q = ((0 ≤ j ∧ j ≤ 1000000 ∧ i.natAbs < 2 ^ 64) ∧ Q (.int (i ^ j.toNat)) St) := rfl
theorem z_auga : augp .add (.int i) (.int j) St Q = Q (.int (i + j)) St := rfl
theorem z_augs : augp .sub (.int i) (.int j) St Q = Q (.int (i - j)) St := rfl
theorem z_augd : augp .div (.int i) (.int j) St Q = ((j ≠ 0 ∧ j.natAbs.log2 < 9000) ∧ Q (.int (i.fdiv j)) St) := rfl
theorem z_eqii : eqp (.int i) (.int j) St kb = kb (decide (i = j)) := by
  show ((true = true ∧ true = true) ∧ kb (decide (i = j))) = _
  simp only [true_and, and_self]
theorem z_eqss : eqp (.str s) (.str t) St kb = kb (s == t) := by
  show ((true = true ∧ true = true) ∧ kb (s == t)) = _
  simp only [true_and, and_self]
theorem z_eqbb : eqp (.bl c) (.bl d) St kb = kb (c == d) := by
  show ((true = true ∧ true = true) ∧ kb (c == d)) = _
  simp only [true_and, and_self]
theorem z_eqtt : eqp (.tup a) (.tup b) St kb = ((dats 59 a = true ∧ dats 59 b = true) ∧ kb (eqvs a b)) := by
  show ((dat 60 (.tup a) = true ∧ dat 60 (.tup b) = true) ∧ kb (eqv (.tup a) (.tup b))) = _
  simp only [dat, eqv]
theorem z_eqll : eqp (.lst m) (.lst n) St kb = cellp St[m]? fun a => cellp St[n]? fun b => (dats 60 a = true ∧ dats 60 b = true) ∧ kb (eqvs a b) := by
  rcases h : St[m]? with _ | ⟨⟨z⟩⟩ <;> rcases h2 : St[n]? with _ | ⟨⟨w⟩⟩ <;> simp only [eqp, cellp, h, h2]
theorem z_eqd (hx : dat 60 x = true) (hy : dat 60 y = true) : eqp x y St kb = kb (eqv x y) := by
  unfold eqp
  split
  · exact absurd hx Bool.false_ne_true
  · simp only [hx, hy, and_self, true_and]
theorem z_ceq : cop .eq x y St kb = eqp x y St kb := rfl
theorem z_cne : cop .ne x y St kb = eqp x y St fun b => kb (!b) := rfl
theorem z_clt : cop .lt (.int i) (.int j) St kb = kb (decide (i < j)) := rfl
theorem z_cle : cop .le (.int i) (.int j) St kb = kb (decide (i ≤ j)) := rfl
theorem z_cgt : cop .gt (.int i) (.int j) St kb = kb (decide (j < i)) := rfl
theorem z_cge : cop .ge (.int i) (.int j) St kb = kb (decide (j ≤ i)) := rfl
theorem z_cin : cop .isin x y St kb = inp x y St kb := rfl
theorem z_cni : cop .notin x y St kb = inp x y St fun b => kb (!b) := rfl
theorem z_int_t : inp x (.tup l) St kb = ((flat x = true ∧ l.all flat = true) ∧ kb (l.any fun z => eqv z x)) := rfl
theorem z_trn : tru .non St kb = kb false := rfl
theorem z_trb : tru (.bl c) St kb = kb c := rfl
theorem z_tri : tru (.int i) St kb = kb (i != 0) := rfl
theorem z_trt : tru (.tup l) St kb = kb (!l.isEmpty) := rfl
theorem z_trl : tru (.lst n) St kb = cellp St[n]? fun l => kb (!l.isEmpty) := by
  rcases h : St[n]? with _ | ⟨⟨z⟩⟩ <;> simp only [tru, cellp, h]
theorem z_ixt : idxp (.tup l) (.int i) St Q = optu (L2.atI l i) fun u => Q u St := by
  rcases h : L2.atI l i with _ | z <;> simp only [idxp, optu, h]
theorem z_ixl : idxp (.lst n) (.int i) St Q = cellp St[n]? fun l => optu (L2.atI l i) fun u => Q u St := by
  rcases h : St[n]? with _ | ⟨⟨l⟩⟩
  · simp only [idxp, cellp, h]
  · rcases h2 : L2.atI l i with _ | z <;> simp only [idxp, cellp, optu, h, h2]
theorem z_slt {lo hi : Option Int} : slcp (.tup l) lo hi St Q = Q (.tup (cutU l lo hi)) St := rfl
theorem z_sll {lo hi : Option Int} : slcp (.lst n) lo hi St Q = cellp St[n]? fun l => Q (.lst St.length) (St ++ [.lst (cutU l lo hi)]) := by
  rcases h : St[n]? with _ | ⟨⟨z⟩⟩ <;> simp only [slcp, cellp, h]
theorem z_sls {lo hi : Option Int} {ns : List Int} : slcp (.scr ns) lo hi St Q = Q (.lst St.length) (St ++ [.lst ((cutU ns lo hi).map U.int)]) := rfl
theorem z_lent : bip .len [.tup l] St Q = Q (.int l.length) St := rfl
theorem z_lenl : bip .len [.lst n] St Q = cellp St[n]? fun l => Q (.int l.length) St := by
  rcases h : St[n]? with _ | ⟨⟨z⟩⟩ <;> simp only [bip, itemsp, cellp, h]
theorem z_abs : bip .abs [.int i] St Q = Q (.int (if i < 0 then -i else i)) St := rfl
theorem z_max : bip .max [.int i, .int j] St Q = Q (.int (if j > i then j else i)) St := rfl
theorem z_min : bip .min [.int i, .int j] St Q = Q (.int (if j < i then j else i)) St := rfl
theorem z_toi : bip .int [.int i] St Q = Q (.int i) St := rfl
theorem z_tob : bip .int [.bl c] St Q = Q (.int (if c then 1 else 0)) St := rfl
theorem z_tut : bip .tuple [.tup l] St Q = Q (.tup l) St := rfl
theorem z_tul : bip .tuple [.lst n] St Q = cellp St[n]? fun l => Q (.tup l) St := by
  rcases h : St[n]? with _ | ⟨⟨z⟩⟩ <;> simp only [bip, itemsp, cellp, h]
theorem z_lit : bip .list [.tup l] St Q = Q (.lst St.length) (St ++ [.lst l]) := rfl
theorem z_lil : bip .list [.lst n] St Q = cellp St[n]? fun l => Q (.lst St.length) (St ++ [.lst l]) := by
  rcases h : St[n]? with _ | ⟨⟨z⟩⟩ <;> simp only [bip, itemsp, cellp, h]
theorem z_any : bip .any [.lst n] St Q = cellp St[n]? fun l => optp (blsU l) fun bs => Q (.bl (bs.any id)) St := by
  rcases h : St[n]? with _ | ⟨⟨l⟩⟩
  · simp only [bip, listp, cellp, h]
  · rcases h2 : blsU l with _ | z <;> simp only [bip, listp, cellp, optp, h, h2]
theorem z_all : bip .all [.lst n] St Q = cellp St[n]? fun l => optp (blsU l) fun bs => Q (.bl (bs.all id)) St := by
  rcases h : St[n]? with _ | ⟨⟨l⟩⟩
  · simp only [bip, listp, cellp, h]
  · rcases h2 : blsU l with _ | z <;> simp only [bip, listp, cellp, optp, h, h2]
theorem z_sum : bip .sum [.lst n] St Q = cellp St[n]? fun l => optp (intsU l) fun ns => Q (.int ns.sum) St := by
  rcases h : St[n]? with _ | ⟨⟨l⟩⟩
  · simp only [bip, listp, cellp, h]
  · rcases h2 : intsU l with _ | z <;> simp only [bip, listp, cellp, optp, h, h2]
theorem z_app : mep .append (.lst n) [v] St Q = cellp St[n]? fun l => l.length < sizeLine ∧ Q .non (St.set n (.lst (l ++ [v]))) := by
  rcases h : St[n]? with _ | ⟨⟨z⟩⟩ <;> simp only [mep, cellp, h]
theorem z_set {q : Sto → Prop} : setp (.lst n) (.int i) v St q = cellp St[n]? fun l => optp (L2.ixN l.length i) fun j => q (St.set n (.lst (l.set j v))) := by
  rcases h : St[n]? with _ | ⟨⟨l⟩⟩
  · simp only [setp, cellp, h]
  · rcases h2 : L2.ixN l.length i with _ | z <;> simp only [setp, cellp, optp, h, h2]
theorem z_isn {t : String} : isip .non t kb = kb (t == "NoneType") := rfl
theorem z_isb {t : String} : isip (.bl c) t kb = kb (t == "bool" || t == "int") := rfl
theorem z_isi {t : String} : isip (.int i) t kb = kb (t == "int") := rfl
theorem z_iss {t : String} : isip (.str s) t kb = kb (t == "str") := rfl
theorem z_ist {t : String} : isip (.tup l) t kb = kb (t == "tuple") := rfl
theorem z_isl {t : String} : isip (.lst n) t kb = kb (t == "list") := rfl
theorem z_revl : revp (.lst n) St Q = cellp St[n]? fun l => Q (.lst St.length) (St ++ [.lst l.reverse]) := by
  rcases h : St[n]? with _ | ⟨⟨z⟩⟩ <;> simp only [revp, cellp, h]
end
/-! literals -/
theorem atI_nat {α : Type} (l : List α) (k : Nat) : L2.atI l (k : Int) = l[k]? := by
  unfold L2.atI L2.ixN
  by_cases h : k < l.length
  · rw [if_pos (by omega), if_pos (by omega)]; simp
  · rw [if_pos (by omega), if_neg (by omega)]; simp [h]
theorem atI_0 {α : Type} (l : List α) : L2.atI l 0 = l[0]? := atI_nat l 0
theorem atI_1 {α : Type} (l : List α) : L2.atI l 1 = l[1]? := atI_nat l 1
theorem atI_2 {α : Type} (l : List α) : L2.atI l 2 = l[2]? := atI_nat l 2
theorem atI_3 {α : Type} (l : List α) : L2.atI l 3 = l[3]? := atI_nat l 3
theorem atI_pos {α : Type} (l : List α) (i : Int) (h : 0 ≤ i) : L2.atI l i = l[i.toNat]? := by
  obtain ⟨k, rfl⟩ := Int.eq_ofNat_of_zero_le h
  rw [atI_nat]; rfl
theorem atI_m1 {α : Type} (l : List α) (h : 0 < l.length) : L2.atI l (-1) = l[l.length - 1]? := by
  unfold L2.atI L2.ixN
  rw [if_neg (by omega), if_pos (by omega)]
  show l[((-1 : Int) + l.length).toNat]? = _
  congr 1
  omega
theorem ixN_nat (n k : Nat) (h : k < n) : L2.ixN n (k : Int) = some k := by
  unfold L2.ixN
  rw [if_pos (by omega), if_pos (by omega)]; rfl
theorem ixN_2 : L2.ixN 4 2 = some 2 := rfl
theorem ixN_1 : L2.ixN 4 1 = some 1 := rfl
theorem ixN_3 : L2.ixN 4 3 = some 3 := rfl
theorem lg (x k : Nat) (hk : 0 < k) (h : x < 2 ^ k) : x.log2 < k := by
  by_cases h0 : x = 0
  · subst h0; exact hk
  · exact (Nat.log2_lt h0).2 h
theorem mul_ok {i j : Int} (hi : i.natAbs < 2 ^ 128) (hj : j.natAbs < 2 ^ 128) : i.natAbs.log2 + j.natAbs.log2 < 1000000 := by
  have := lg _ 128 (by decide) hi
  have := lg _ 128 (by decide) hj
  omega
theorem div_ok {j : Int} (h0 : j ≠ 0) (hj : j.natAbs < 2 ^ 128) : j ≠ 0 ∧ j.natAbs.log2 < 9000 := ⟨h0, by
  have := lg _ 128 (by decide) hj
  omega⟩
/-- a comprehension by an invariant -/
theorem lcL_ind {turn : U → Sto → (Option U → Sto → Prop) → Prop} {grd : Sto → Prop} {Q : List U → Sto → Prop} (I : List U → List U → Sto → Prop)
    (hg : ∀ us acc S, I us acc S → grd S) (hend : ∀ acc S, I [] acc S → Q acc S)
    (hstep : ∀ u us acc S (k : Option U → Sto → Prop), I (u :: us) acc S → (∀ v S2, acc.length < sizeLine → I us (acc ++ [v]) S2 → k (some v) S2) → (∀ S2, I us acc S2 → k none S2) → turn u S k) :
    ∀ (us acc : List U) (S : Sto), I us acc S → lcL turn grd us acc S Q
  | [], acc, S, h => ⟨hg _ _ _ h, hend _ _ h⟩
  | u :: us, acc, S, h => ⟨hg _ _ _ h, hstep u us acc S _ h (fun v S2 hl hi => ⟨hl, lcL_ind I hg hend hstep us _ S2 hi⟩) (fun S2 hi => lcL_ind I hg hend hstep us _ S2 hi)⟩
theorem forL_ind {turn : U → Sl → Sto → (Sl → Sto → Prop) → Prop} {grd : Sto → Prop} {Q : Sl → Sto → Prop} (I : List U → Sl → Sto → Prop)
    (hg : ∀ us σ S, I us σ S → grd S) (hend : ∀ σ S, I [] σ S → Q σ S)
    (hstep : ∀ u us σ S (k : Sl → Sto → Prop), I (u :: us) σ S → (∀ σ2 S2, I us σ2 S2 → k σ2 S2) → turn u σ S k) :
    ∀ (us : List U) (σ : Sl) (S : Sto), I us σ S → forL turn grd us σ S Q
  | [], σ, S, h => ⟨hg _ _ _ h, hend _ _ h⟩
  | u :: us, σ, S, h => ⟨hg _ _ _ h, hstep u us σ S _ h (fun σ2 S2 hi => forL_ind I hg hend hstep us _ S2 hi)⟩
theorem whlN_ind {test : Sl → Sto → (Bool → Sto → Prop) → Prop} {body : Sl → Sto → (Sl → Sto → Prop) → Prop} {nx : Sl → Sto → Prop} (I : Nat → Sl → Sto → Prop)
    (h : ∀ n σ S (k : Sl → Sto → Prop), I n σ S → (∀ m σ2 S2, m < n → I m σ2 S2 → k σ2 S2) → test σ S fun b S2 => if b = true then body σ S2 k else nx σ S2) :
    ∀ (N n : Nat) (σ : Sl) (S : Sto), n ≤ N → I n σ S → whlN test body nx (N + 1) σ S
  | 0, n, σ, S, hn, hi => h n σ S _ hi (fun m σ2 S2 hm _ => absurd hm (by omega))
  | N + 1, n, σ, S, hn, hi => h n σ S _ hi (fun m σ2 S2 hm hi2 => whlN_ind I h N m σ2 S2 (by omega) hi2)
theorem whl_ind {test : Sl → Sto → (Bool → Sto → Prop) → Prop} {body : Sl → Sto → (Sl → Sto → Prop) → Prop} {nx : Sl → Sto → Prop} (I : Nat → Sl → Sto → Prop) {n : Nat} {σ : Sl} {S : Sto} (hi : I n σ S)
    (h : ∀ n σ S (k : Sl → Sto → Prop), I n σ S → (∀ m σ2 S2, m < n → I m σ2 S2 → k σ2 S2) → test σ S fun b S2 => if b = true then body σ S2 k else nx σ S2) :
    ∃ m, whlN test body nx m σ S := ⟨n + 1, whlN_ind I h n n σ S (Nat.le_refl _) hi⟩
/-- a name has a promise that serves -/
def Has (G : Gm) (f : Str) (sp : FSpec) : Prop := ∃ s, G.fns f = some s ∧ ∀ us S Q X, sp us S Q X → s us S Q X
/-- a def's body keeps a promise -/
def Pf (G : Gm) (N : List Str) (ir : Ss) (sp : FSpec) : Prop := ∀ us S Q X, sp us S Q X → wpSs G ir (fun c q _ S2 => X c q S2) { nx := fun _ S2 => Q .non S2, rt := Q } (startU N.length us) S
end Q

set_option Elab.async false
set_option linter.all false
set_option maxRecDepth 100000
set_option maxHeartbeats 0
namespace K70
open PySem PySem.Spec PyProof.Rows L2 Q
def top (i : Nat) : Stmt := PySem.Challenge.pw_longrank_k70_orthogonal_bases.main.body.getD i (.Pass ⟨0, 0, 0, 0⟩)
def bl : List Str := ["abs", "all", "bool", "enumerate", "int", "isinstance", "len", "list", "max", "range", "str", "tuple"]
def xc : List Str := ["DomainError", "SingularError"]
/-! divisor -/
def n_divisor : List Str := ["a", "b"]
def p_divisor : List Str := ["a", "b"]
def i_divisor : Ss :=
    (.cons (.asg (.name 0) (.bi .abs (.cons (.var 0) .nil)))
    (.cons (.asg (.name 1) (.bi .abs (.cons (.var 1) .nil)))
    (.cons (.whl (.tst (.cmp .ne (.var 1) (.int 0))) (.cons (.par 0 1 (.var 1) (.bop .mod (.var 0) (.var 1)))
    .nil))
    (.cons (.ret (.var 0))
    .nil))))
theorem sc_divisor : FnScope n_divisor p_divisor (defScope (top 6)) := ⟨by kernel_rfl, by kernel_rfl, by kernel_rfl, by decide +kernel, by kernel_rfl, by decide +kernel, by decide +kernel⟩
theorem ck_divisor : chkSs n_divisor bl xc i_divisor (defScope (top 6)) (defBody (top 6)) = true := by decide +kernel
/-! fraction -/
def n_fraction : List Str := ["n", "d", "g"]
def p_fraction : List Str := ["n", "d"]
def i_fraction : Ss :=
    (.cons (.asg (.name 2) (.call "divisor" (.cons (.var 0) (.cons (.var 1) .nil))))
    (.cons (.ifs (.tst (.cmp .lt (.var 1) (.int 0))) (.cons (.asg (.name 2) (.neg (.var 2)))
    .nil) .nil)
    (.cons (.ret (.tup (.cons (.bop .div (.var 0) (.var 2)) (.cons (.bop .div (.var 1) (.var 2)) .nil))))
    .nil)))
theorem sc_fraction : FnScope n_fraction p_fraction (defScope (top 8)) := ⟨by kernel_rfl, by kernel_rfl, by kernel_rfl, by decide +kernel, by kernel_rfl, by decide +kernel, by decide +kernel⟩
theorem ck_fraction : chkSs n_fraction bl xc i_fraction (defScope (top 8)) (defBody (top 8)) = true := by decide +kernel
/-! is_integer -/
def n_is_integer : List Str := ["x"]
def p_is_integer : List Str := ["x"]
def i_is_integer : Ss :=
    (.cons (.ret (.andE (.isi (.var 0) "int") (.notE (.isi (.var 0) "bool"))))
    .nil)
theorem sc_is_integer : FnScope n_is_integer p_is_integer (defScope (top 11)) := ⟨by kernel_rfl, by kernel_rfl, by kernel_rfl, by decide +kernel, by kernel_rfl, by decide +kernel, by decide +kernel⟩
theorem ck_is_integer : chkSs n_is_integer bl xc i_is_integer (defScope (top 11)) (defBody (top 11)) = true := by decide +kernel
/-! is_domain -/
def n_is_domain : List Str := ["d"]
def p_is_domain : List Str := ["d"]
def i_is_domain : Ss :=
    (.cons (.ifs (.orE (.notE (.tst (.isi (.var 0) "tuple"))) (.orE (.tst (.cmp .eq (.bi .len (.cons (.var 0) .nil)) (.int 0))) (.notE (.tst (.isi (.idx (.var 0) (.int 0)) "str"))))) (.cons (.ret (.bl false))
    .nil) .nil)
    (.cons (.ifs (.tst (.cmp .eq (.idx (.var 0) (.int 0)) (.str "P"))) (.cons (.ret (.andE (.cmp .eq (.bi .len (.cons (.var 0) .nil)) (.int 2)) (.call "is_field" (.cons (.idx (.var 0) (.int 1)) .nil))))
    .nil) .nil)
    (.cons (.ret (.orE (.cmp .eq (.var 0) (.tup (.cons (.str "Z") .nil))) (.call "is_field" (.cons (.var 0) .nil))))
    .nil)))
theorem sc_is_domain : FnScope n_is_domain p_is_domain (defScope (top 12)) := ⟨by kernel_rfl, by kernel_rfl, by kernel_rfl, by decide +kernel, by kernel_rfl, by decide +kernel, by decide +kernel⟩
theorem ck_is_domain : chkSs n_is_domain bl xc i_is_domain (defScope (top 12)) (defBody (top 12)) = true := by decide +kernel
/-! is_field -/
def n_is_field : List Str := ["d"]
def p_is_field : List Str := ["d"]
def i_is_field : Ss :=
    (.cons (.ifs (.orE (.notE (.tst (.isi (.var 0) "tuple"))) (.orE (.tst (.cmp .eq (.bi .len (.cons (.var 0) .nil)) (.int 0))) (.notE (.tst (.isi (.idx (.var 0) (.int 0)) "str"))))) (.cons (.ret (.bl false))
    .nil) .nil)
    (.cons (.ifs (.tst (.cmp .eq (.idx (.var 0) (.int 0)) (.str "Q"))) (.cons (.ret (.cmp .eq (.bi .len (.cons (.var 0) .nil)) (.int 1)))
    .nil) .nil)
    (.cons (.ret (.andE (.cmp .eq (.idx (.var 0) (.int 0)) (.str "F")) (.andE (.cmp .eq (.bi .len (.cons (.var 0) .nil)) (.int 2)) (.andE (.call "is_integer" (.cons (.idx (.var 0) (.int 1)) .nil)) (.andE (.cmp2 .lt .le (.int 1) (.idx (.var 0) (.int 1)) (.glob "MOST_PRIME")) (.call "is_prime" (.cons (.idx (.var 0) (.int 1)) .nil)))))))
    .nil)))
theorem sc_is_field : FnScope n_is_field p_is_field (defScope (top 13)) := ⟨by kernel_rfl, by kernel_rfl, by kernel_rfl, by decide +kernel, by kernel_rfl, by decide +kernel, by decide +kernel⟩
theorem ck_is_field : chkSs n_is_field bl xc i_is_field (defScope (top 13)) (defBody (top 13)) = true := by decide +kernel
/-! need_field -/
def n_need_field : List Str := ["d"]
def p_need_field : List Str := ["d"]
def i_need_field : Ss :=
    (.cons (.ifs (.notE (.tst (.call "is_field" (.cons (.var 0) .nil)))) (.cons (.raise "DomainError" "no field")
    .nil) .nil)
    .nil)
theorem sc_need_field : FnScope n_need_field p_need_field (defScope (top 14)) := ⟨by kernel_rfl, by kernel_rfl, by kernel_rfl, by decide +kernel, by kernel_rfl, by decide +kernel, by decide +kernel⟩
theorem ck_need_field : chkSs n_need_field bl xc i_need_field (defScope (top 14)) (defBody (top 14)) = true := by decide +kernel
/-! zero -/
def n_zero : List Str := ["d"]
def p_zero : List Str := ["d"]
def i_zero : Ss :=
    (.cons (.ifs (.tst (.cmp .eq (.idx (.var 0) (.int 0)) (.str "Q"))) (.cons (.ret (.tup (.cons (.int 0) (.cons (.int 1) .nil))))
    .nil) .nil)
    (.cons (.ret (.ite (.tst (.cmp .eq (.idx (.var 0) (.int 0)) (.str "P"))) (.tup .nil) (.int 0)))
    .nil))
theorem sc_zero : FnScope n_zero p_zero (defScope (top 15)) := ⟨by kernel_rfl, by kernel_rfl, by kernel_rfl, by decide +kernel, by kernel_rfl, by decide +kernel, by decide +kernel⟩
theorem ck_zero : chkSs n_zero bl xc i_zero (defScope (top 15)) (defBody (top 15)) = true := by decide +kernel
/-! from_integer -/
def n_from_integer : List Str := ["d", "n"]
def p_from_integer : List Str := ["d", "n"]
def i_from_integer : Ss :=
    (.cons (.ifs (.tst (.cmp .eq (.idx (.var 0) (.int 0)) (.str "Z"))) (.cons (.ret (.var 1))
    .nil) .nil)
    (.cons (.ifs (.tst (.cmp .eq (.idx (.var 0) (.int 0)) (.str "Q"))) (.cons (.ret (.tup (.cons (.var 1) (.cons (.int 1) .nil))))
    .nil) .nil)
    (.cons (.ifs (.tst (.cmp .eq (.idx (.var 0) (.int 0)) (.str "F"))) (.cons (.ret (.bop .mod (.var 1) (.idx (.var 0) (.int 1))))
    .nil) .nil)
    (.cons (.ret (.call "trimmed" (.cons (.idx (.var 0) (.int 1)) (.cons (.lst (.cons (.call "from_integer" (.cons (.idx (.var 0) (.int 1)) (.cons (.var 1) .nil))) .nil)) .nil))))
    .nil))))
theorem sc_from_integer : FnScope n_from_integer p_from_integer (defScope (top 16)) := ⟨by kernel_rfl, by kernel_rfl, by kernel_rfl, by decide +kernel, by kernel_rfl, by decide +kernel, by decide +kernel⟩
theorem ck_from_integer : chkSs n_from_integer bl xc i_from_integer (defScope (top 16)) (defBody (top 16)) = true := by decide +kernel
/-! add -/
def n_add : List Str := ["d", "x", "y", "f", "found", "k", "part"]
def p_add : List Str := ["d", "x", "y"]
def i_add : Ss :=
    (.cons (.ifs (.tst (.cmp .eq (.idx (.var 0) (.int 0)) (.str "Z"))) (.cons (.ret (.bop .add (.var 1) (.var 2)))
    .nil) .nil)
    (.cons (.ifs (.tst (.cmp .eq (.idx (.var 0) (.int 0)) (.str "F"))) (.cons (.ret (.bop .mod (.bop .add (.var 1) (.var 2)) (.idx (.var 0) (.int 1))))
    .nil) .nil)
    (.cons (.ifs (.tst (.cmp .eq (.idx (.var 0) (.int 0)) (.str "Q"))) (.cons (.ret (.call "fraction" (.cons (.bop .add (.bop .mul (.idx (.var 1) (.int 0)) (.idx (.var 2) (.int 1))) (.bop .mul (.idx (.var 2) (.int 0)) (.idx (.var 1) (.int 1)))) (.cons (.bop .mul (.idx (.var 1) (.int 1)) (.idx (.var 2) (.int 1))) .nil))))
    .nil) .nil)
    (.cons (.asg (.name 3) (.idx (.var 0) (.int 1)))
    (.cons (.ifs (.tst (.cmp .lt (.bi .len (.cons (.var 1) .nil)) (.bi .len (.cons (.var 2) .nil)))) (.cons (.par 1 2 (.var 2) (.var 1))
    .nil) .nil)
    (.cons (.asg (.name 4) (.bi .list (.cons (.var 1) .nil)))
    (.cons (.fors (.tup (.cons (.name 5) (.cons (.name 6) .nil))) (.enm (.var 2)) (.cons (.asg (.sub (.var 4) (.var 5)) (.call "add" (.cons (.var 3) (.cons (.idx (.var 4) (.var 5)) (.cons (.var 6) .nil)))))
    .nil))
    (.cons (.ret (.call "trimmed" (.cons (.var 3) (.cons (.var 4) .nil))))
    .nil))))))))
theorem sc_add : FnScope n_add p_add (defScope (top 18)) := ⟨by kernel_rfl, by kernel_rfl, by kernel_rfl, by decide +kernel, by kernel_rfl, by decide +kernel, by decide +kernel⟩
theorem ck_add : chkSs n_add bl xc i_add (defScope (top 18)) (defBody (top 18)) = true := by decide +kernel
/-! negate -/
def n_negate : List Str := ["d", "x", "part"]
def p_negate : List Str := ["d", "x"]
def i_negate : Ss :=
    (.cons (.ifs (.tst (.cmp .eq (.idx (.var 0) (.int 0)) (.str "Z"))) (.cons (.ret (.neg (.var 1)))
    .nil) .nil)
    (.cons (.ifs (.tst (.cmp .eq (.idx (.var 0) (.int 0)) (.str "F"))) (.cons (.ret (.bop .mod (.neg (.var 1)) (.idx (.var 0) (.int 1))))
    .nil) .nil)
    (.cons (.ifs (.tst (.cmp .eq (.idx (.var 0) (.int 0)) (.str "Q"))) (.cons (.ret (.tup (.cons (.neg (.idx (.var 1) (.int 0))) (.cons (.idx (.var 1) (.int 1)) .nil))))
    .nil) .nil)
    (.cons (.ret (.bi .tuple (.cons (.lc (.call "negate" (.cons (.idx (.var 0) (.int 1)) (.cons (.var 2) .nil))) (.name 2) (.seq (.var 1)) .none [("part", 2)]) .nil)))
    .nil))))
theorem sc_negate : FnScope n_negate p_negate (defScope (top 19)) := ⟨by kernel_rfl, by kernel_rfl, by kernel_rfl, by decide +kernel, by kernel_rfl, by decide +kernel, by decide +kernel⟩
theorem ck_negate : chkSs n_negate bl xc i_negate (defScope (top 19)) (defBody (top 19)) = true := by decide +kernel
/-! subtract -/
def n_subtract : List Str := ["d", "x", "y"]
def p_subtract : List Str := ["d", "x", "y"]
def i_subtract : Ss :=
    (.cons (.ret (.call "add" (.cons (.var 0) (.cons (.var 1) (.cons (.call "negate" (.cons (.var 0) (.cons (.var 2) .nil))) .nil)))))
    .nil)
theorem sc_subtract : FnScope n_subtract p_subtract (defScope (top 20)) := ⟨by kernel_rfl, by kernel_rfl, by kernel_rfl, by decide +kernel, by kernel_rfl, by decide +kernel, by decide +kernel⟩
theorem ck_subtract : chkSs n_subtract bl xc i_subtract (defScope (top 20)) (defBody (top 20)) = true := by decide +kernel
/-! multiply -/
def n_multiply : List Str := ["d", "x", "y", "f", "found", "i", "left", "j", "right", "k"]
def p_multiply : List Str := ["d", "x", "y"]
def i_multiply : Ss :=
    (.cons (.ifs (.tst (.cmp .eq (.idx (.var 0) (.int 0)) (.str "Z"))) (.cons (.ret (.bop .mul (.var 1) (.var 2)))
    .nil) .nil)
    (.cons (.ifs (.tst (.cmp .eq (.idx (.var 0) (.int 0)) (.str "F"))) (.cons (.ret (.bop .mod (.bop .mul (.var 1) (.var 2)) (.idx (.var 0) (.int 1))))
    .nil) .nil)
    (.cons (.ifs (.tst (.cmp .eq (.idx (.var 0) (.int 0)) (.str "Q"))) (.cons (.ret (.call "fraction" (.cons (.bop .mul (.idx (.var 1) (.int 0)) (.idx (.var 2) (.int 0))) (.cons (.bop .mul (.idx (.var 1) (.int 1)) (.idx (.var 2) (.int 1))) .nil))))
    .nil) .nil)
    (.cons (.ifs (.orE (.tst (.cmp .eq (.bi .len (.cons (.var 1) .nil)) (.int 0))) (.tst (.cmp .eq (.bi .len (.cons (.var 2) .nil)) (.int 0)))) (.cons (.ret (.tup .nil))
    .nil) .nil)
    (.cons (.asg (.name 3) (.idx (.var 0) (.int 1)))
    (.cons (.setlc 4 (.lc (.call "zero" (.cons (.var 3) .nil)) (.name 9) (.rng1 (.bop .sub (.bop .add (.bi .len (.cons (.var 1) .nil)) (.bi .len (.cons (.var 2) .nil))) (.int 1))) .none [("k", 9)]))
    (.cons (.fors (.tup (.cons (.name 5) (.cons (.name 6) .nil))) (.enm (.var 1)) (.cons (.fors (.tup (.cons (.name 7) (.cons (.name 8) .nil))) (.enm (.var 2)) (.cons (.asg (.sub (.var 4) (.bop .add (.var 5) (.var 7))) (.call "add" (.cons (.var 3) (.cons (.idx (.var 4) (.bop .add (.var 5) (.var 7))) (.cons (.call "multiply" (.cons (.var 3) (.cons (.var 6) (.cons (.var 8) .nil)))) .nil)))))
    .nil))
    .nil))
    (.cons (.ret (.call "trimmed" (.cons (.var 3) (.cons (.var 4) .nil))))
    .nil))))))))
theorem sc_multiply : FnScope n_multiply p_multiply (defScope (top 21)) := ⟨by kernel_rfl, by kernel_rfl, by kernel_rfl, by decide +kernel, by kernel_rfl, by decide +kernel, by decide +kernel⟩
theorem ck_multiply : chkSs n_multiply bl xc i_multiply (defScope (top 21)) (defBody (top 21)) = true := by decide +kernel
/-! inverse -/
def n_inverse : List Str := ["f", "x", "g", "s", "t"]
def p_inverse : List Str := ["f", "x"]
def i_inverse : Ss :=
    (.cons (.ex (.call "need_field" (.cons (.var 0) .nil)))
    (.cons (.ifs (.tst (.cmp .eq (.var 1) (.call "zero" (.cons (.var 0) .nil)))) (.cons (.raise "SingularError" "zero has no inverse")
    .nil) .nil)
    (.cons (.ifs (.tst (.cmp .eq (.idx (.var 0) (.int 0)) (.str "Q"))) (.cons (.ret (.call "fraction" (.cons (.idx (.var 1) (.int 1)) (.cons (.idx (.var 1) (.int 0)) .nil))))
    .nil) .nil)
    (.cons (.asg (.tup (.cons (.name 2) (.cons (.name 3) (.cons (.name 4) .nil)))) (.call "common" (.cons (.var 1) (.cons (.idx (.var 0) (.int 1)) .nil))))
    (.cons (.ret (.bop .mod (.var 3) (.idx (.var 0) (.int 1))))
    .nil)))))
theorem sc_inverse : FnScope n_inverse p_inverse (defScope (top 22)) := ⟨by kernel_rfl, by kernel_rfl, by kernel_rfl, by decide +kernel, by kernel_rfl, by decide +kernel, by decide +kernel⟩
theorem ck_inverse : chkSs n_inverse bl xc i_inverse (defScope (top 22)) (defBody (top 22)) = true := by decide +kernel
/-! quotient -/
def n_quotient : List Str := ["f", "x", "y"]
def p_quotient : List Str := ["f", "x", "y"]
def i_quotient : Ss :=
    (.cons (.ret (.call "multiply" (.cons (.var 0) (.cons (.var 1) (.cons (.call "inverse" (.cons (.var 0) (.cons (.var 2) .nil))) .nil)))))
    .nil)
theorem sc_quotient : FnScope n_quotient p_quotient (defScope (top 23)) := ⟨by kernel_rfl, by kernel_rfl, by kernel_rfl, by decide +kernel, by kernel_rfl, by decide +kernel, by decide +kernel⟩
theorem ck_quotient : chkSs n_quotient bl xc i_quotient (defScope (top 23)) (defBody (top 23)) = true := by decide +kernel
/-! dot -/
def n_dot : List Str := ["d", "v", "w", "found", "k", "x"]
def p_dot : List Str := ["d", "v", "w"]
def i_dot : Ss :=
    (.cons (.asg (.name 3) (.call "zero" (.cons (.var 0) .nil)))
    (.cons (.fors (.tup (.cons (.name 4) (.cons (.name 5) .nil))) (.enm (.var 1)) (.cons (.asg (.name 3) (.call "add" (.cons (.var 0) (.cons (.var 3) (.cons (.call "multiply" (.cons (.var 0) (.cons (.var 5) (.cons (.idx (.var 2) (.var 4)) .nil)))) .nil)))))
    .nil))
    (.cons (.ret (.var 3))
    .nil)))
theorem sc_dot : FnScope n_dot p_dot (defScope (top 25)) := ⟨by kernel_rfl, by kernel_rfl, by kernel_rfl, by decide +kernel, by kernel_rfl, by decide +kernel, by decide +kernel⟩
theorem ck_dot : chkSs n_dot bl xc i_dot (defScope (top 25)) (defBody (top 25)) = true := by decide +kernel
/-! may_change -/
def n_may_change : List Str := ["d", "e"]
def p_may_change : List Str := ["d", "e"]
def i_may_change : Ss :=
    (.cons (.ifs (.tst (.cmp .eq (.idx (.var 0) (.int 0)) (.str "Z"))) (.cons (.ret (.call "is_field" (.cons (.var 1) .nil)))
    .nil) .nil)
    (.cons (.ret (.orE (.andE (.cmp .eq (.idx (.var 0) (.int 0)) (.str "Q")) (.cmp .isin (.idx (.var 1) (.int 0)) (.tup (.cons (.str "Z") (.cons (.str "F") .nil))))) (.cmp .eq (.var 1) (.tup (.cons (.str "P") (.cons (.var 0) .nil))))))
    .nil))
theorem sc_may_change : FnScope n_may_change p_may_change (defScope (top 26)) := ⟨by kernel_rfl, by kernel_rfl, by kernel_rfl, by decide +kernel, by kernel_rfl, by decide +kernel, by decide +kernel⟩
theorem ck_may_change : chkSs n_may_change bl xc i_may_change (defScope (top 26)) (defBody (top 26)) = true := by decide +kernel
/-! changed -/
def n_changed : List Str := ["d", "e", "x"]
def p_changed : List Str := ["d", "e", "x"]
def i_changed : Ss :=
    (.cons (.ifs (.tst (.cmp .eq (.var 0) (.var 1))) (.cons (.ret (.var 2))
    .nil) .nil)
    (.cons (.ifs (.andE (.tst (.cmp .eq (.idx (.var 0) (.int 0)) (.str "Z"))) (.tst (.call "is_field" (.cons (.var 1) .nil)))) (.cons (.ret (.call "from_integer" (.cons (.var 1) (.cons (.var 2) .nil))))
    .nil) .nil)
    (.cons (.ifs (.andE (.tst (.cmp .eq (.idx (.var 0) (.int 0)) (.str "Q"))) (.andE (.tst (.cmp .eq (.idx (.var 1) (.int 0)) (.str "Z"))) (.tst (.cmp .eq (.idx (.var 2) (.int 1)) (.int 1))))) (.cons (.ret (.idx (.var 2) (.int 0)))
    .nil) .nil)
    (.cons (.ifs (.andE (.tst (.cmp .eq (.idx (.var 0) (.int 0)) (.str "Q"))) (.andE (.tst (.cmp .eq (.idx (.var 1) (.int 0)) (.str "F"))) (.tst (.cmp .ne (.bop .mod (.idx (.var 2) (.int 1)) (.idx (.var 1) (.int 1))) (.int 0))))) (.cons (.ret (.call "quotient" (.cons (.var 1) (.cons (.bop .mod (.idx (.var 2) (.int 0)) (.idx (.var 1) (.int 1))) (.cons (.bop .mod (.idx (.var 2) (.int 1)) (.idx (.var 1) (.int 1))) .nil)))))
    .nil) .nil)
    (.cons (.ifs (.tst (.cmp .eq (.var 1) (.tup (.cons (.str "P") (.cons (.var 0) .nil))))) (.cons (.ret (.call "trimmed" (.cons (.var 0) (.cons (.lst (.cons (.var 2) .nil)) .nil))))
    .nil) .nil)
    (.cons (.raise "DomainError" "no such change")
    .nil))))))
theorem sc_changed : FnScope n_changed p_changed (defScope (top 27)) := ⟨by kernel_rfl, by kernel_rfl, by kernel_rfl, by decide +kernel, by kernel_rfl, by decide +kernel, by decide +kernel⟩
theorem ck_changed : chkSs n_changed bl xc i_changed (defScope (top 27)) (defBody (top 27)) = true := by decide +kernel
/-! change -/
def n_change : List Str := ["d", "e", "a", "x", "row"]
def p_change : List Str := ["d", "e", "a"]
def i_change : Ss :=
    (.cons (.ifs (.orE (.notE (.tst (.call "is_domain" (.cons (.var 0) .nil)))) (.orE (.notE (.tst (.call "is_domain" (.cons (.var 1) .nil)))) (.andE (.tst (.cmp .ne (.var 0) (.var 1))) (.notE (.tst (.call "may_change" (.cons (.var 0) (.cons (.var 1) .nil)))))))) (.cons (.raise "DomainError" "no such change")
    .nil) .nil)
    (.cons (.ret (.tup (.cons (.idx (.var 2) (.int 0)) (.cons (.idx (.var 2) (.int 1)) (.cons (.bi .tuple (.cons (.lc (.bi .tuple (.cons (.lc (.call "changed" (.cons (.var 0) (.cons (.var 1) (.cons (.var 3) .nil)))) (.name 3) (.seq (.var 4)) .none [("x", 3)]) .nil)) (.name 4) (.seq (.idx (.var 2) (.int 2))) .none [("row", 4)]) .nil)) .nil)))))
    .nil))
theorem sc_change : FnScope n_change p_change (defScope (top 28)) := ⟨by kernel_rfl, by kernel_rfl, by kernel_rfl, by decide +kernel, by kernel_rfl, by decide +kernel, by decide +kernel⟩
theorem ck_change : chkSs n_change bl xc i_change (defScope (top 28)) (defBody (top 28)) = true := by decide +kernel
/-! add_row -/
def n_add_row : List Str := ["f", "rows", "to", "x", "row", "j", "entry"]
def p_add_row : List Str := ["f", "rows", "to", "x", "row"]
def i_add_row : Ss :=
    (.cons (.fors (.tup (.cons (.name 5) (.cons (.name 6) .nil))) (.enm (.idx (.var 1) (.var 4))) (.cons (.asg (.sub (.idx (.var 1) (.var 2)) (.var 5)) (.call "add" (.cons (.var 0) (.cons (.idx (.idx (.var 1) (.var 2)) (.var 5)) (.cons (.call "multiply" (.cons (.var 0) (.cons (.var 3) (.cons (.var 6) .nil)))) .nil)))))
    .nil))
    .nil)
theorem sc_add_row : FnScope n_add_row p_add_row (defScope (top 30)) := ⟨by kernel_rfl, by kernel_rfl, by kernel_rfl, by decide +kernel, by kernel_rfl, by decide +kernel, by decide +kernel⟩
theorem ck_add_row : chkSs n_add_row bl xc i_add_row (defScope (top 30)) (defBody (top 30)) = true := by decide +kernel
/-! eliminate -/
def n_eliminate : List Str := ["f", "rows", "columns", "pivots", "j", "at", "found", "scale", "i", "x"]
def p_eliminate : List Str := ["f", "rows", "columns"]
def i_eliminate : Ss :=
    (.cons (.asg (.name 3) (.lst .nil))
    (.cons (.fors (.name 4) (.rng1 (.var 2)) (.cons (.asg (.name 5) (.bi .len (.cons (.var 3) .nil)))
    (.cons (.setlc 6 (.lc (.var 8) (.name 8) (.rng2 (.var 5) (.bi .len (.cons (.var 1) .nil))) (.some (.tst (.cmp .ne (.idx (.idx (.var 1) (.var 8)) (.var 4)) (.call "zero" (.cons (.var 0) .nil))))) [("i", 8)]))
    (.cons (.ifs (.notE (.tst (.var 6))) (.cons .cont
    .nil) .nil)
    (.cons (.asg (.tup (.cons (.sub (.var 1) (.var 5)) (.cons (.sub (.var 1) (.idx (.var 6) (.int 0))) .nil))) (.tup (.cons (.idx (.var 1) (.idx (.var 6) (.int 0))) (.cons (.idx (.var 1) (.var 5)) .nil))))
    (.cons (.asg (.name 7) (.call "inverse" (.cons (.var 0) (.cons (.idx (.idx (.var 1) (.var 5)) (.var 4)) .nil))))
    (.cons (.asg (.sub (.var 1) (.var 5)) (.lc (.call "multiply" (.cons (.var 0) (.cons (.var 7) (.cons (.var 9) .nil)))) (.name 9) (.seq (.idx (.var 1) (.var 5))) .none [("x", 9)]))
    (.cons (.fors (.name 8) (.rng1 (.bi .len (.cons (.var 1) .nil))) (.cons (.ifs (.andE (.tst (.cmp .ne (.var 8) (.var 5))) (.tst (.cmp .ne (.idx (.idx (.var 1) (.var 8)) (.var 4)) (.call "zero" (.cons (.var 0) .nil))))) (.cons (.ex (.call "add_row" (.cons (.var 0) (.cons (.var 1) (.cons (.var 8) (.cons (.call "negate" (.cons (.var 0) (.cons (.idx (.idx (.var 1) (.var 8)) (.var 4)) .nil))) (.cons (.var 5) .nil)))))))
    .nil) .nil)
    .nil))
    (.cons (.ex (.meth .append (.var 3) (.cons (.var 4) .nil)))
    .nil)))))))))
    (.cons (.ret (.bi .tuple (.cons (.var 3) .nil)))
    .nil)))
theorem sc_eliminate : FnScope n_eliminate p_eliminate (defScope (top 31)) := ⟨by kernel_rfl, by kernel_rfl, by kernel_rfl, by decide +kernel, by kernel_rfl, by decide +kernel, by decide +kernel⟩
theorem ck_eliminate : chkSs n_eliminate bl xc i_eliminate (defScope (top 31)) (defBody (top 31)) = true := by decide +kernel
/-! pivots_of -/
def n_pivots_of : List Str := ["f", "a", "rows", "row"]
def p_pivots_of : List Str := ["f", "a"]
def i_pivots_of : Ss :=
    (.cons (.ex (.call "need_field" (.cons (.var 0) .nil)))
    (.cons (.setlc 2 (.lc (.bi .list (.cons (.var 3) .nil)) (.name 3) (.seq (.idx (.var 1) (.int 2))) .none [("row", 3)]))
    (.cons (.ret (.tup (.cons (.var 2) (.cons (.call "eliminate" (.cons (.var 0) (.cons (.var 2) (.cons (.idx (.var 1) (.int 1)) .nil)))) .nil))))
    .nil)))
theorem sc_pivots_of : FnScope n_pivots_of p_pivots_of (defScope (top 32)) := ⟨by kernel_rfl, by kernel_rfl, by kernel_rfl, by decide +kernel, by kernel_rfl, by decide +kernel, by decide +kernel⟩
theorem ck_pivots_of : chkSs n_pivots_of bl xc i_pivots_of (defScope (top 32)) (defBody (top 32)) = true := by decide +kernel
/-! rank -/
def n_rank : List Str := ["f", "a"]
def p_rank : List Str := ["f", "a"]
def i_rank : Ss :=
    (.cons (.ret (.bi .len (.cons (.idx (.call "pivots_of" (.cons (.var 0) (.cons (.var 1) .nil))) (.int 1)) .nil)))
    .nil)
theorem sc_rank : FnScope n_rank p_rank (defScope (top 33)) := ⟨by kernel_rfl, by kernel_rfl, by kernel_rfl, by decide +kernel, by kernel_rfl, by decide +kernel, by decide +kernel⟩
theorem ck_rank : chkSs n_rank bl xc i_rank (defScope (top 33)) (defBody (top 33)) = true := by decide +kernel
/-! fractions -/
def n_fractions : List Str := ["a"]
def p_fractions : List Str := ["a"]
def i_fractions : Ss :=
    (.cons (.ret (.call "change" (.cons (.glob "Z") (.cons (.glob "Q") (.cons (.var 0) .nil)))))
    .nil)
theorem sc_fractions : FnScope n_fractions p_fractions (defScope (top 37)) := ⟨by kernel_rfl, by kernel_rfl, by kernel_rfl, by decide +kernel, by kernel_rfl, by decide +kernel, by decide +kernel⟩
theorem ck_fractions : chkSs n_fractions bl xc i_fractions (defScope (top 37)) (defBody (top 37)) = true := by decide +kernel
/-! need_basis -/
def n_need_basis : List Str := ["b"]
def p_need_basis : List Str := ["b"]
def i_need_basis : Ss :=
    (.cons (.ifs (.tst (.cmp .ne (.call "rank" (.cons (.glob "Q") (.cons (.call "fractions" (.cons (.var 0) .nil)) .nil))) (.idx (.var 0) (.int 0)))) (.cons (.raise "SingularError" "the rows are dependent")
    .nil) .nil)
    .nil)
theorem sc_need_basis : FnScope n_need_basis p_need_basis (defScope (top 38)) := ⟨by kernel_rfl, by kernel_rfl, by kernel_rfl, by decide +kernel, by kernel_rfl, by decide +kernel, by decide +kernel⟩
theorem ck_need_basis : chkSs n_need_basis bl xc i_need_basis (defScope (top 38)) (defBody (top 38)) = true := by decide +kernel
/-! orthogonal -/
def n_orthogonal : List Str := ["b", "vectors", "squares", "rows", "row", "rest", "mu", "k", "vector", "factor", "j", "x"]
def p_orthogonal : List Str := ["b"]
def i_orthogonal : Ss :=
    (.cons (.ex (.call "need_basis" (.cons (.var 0) .nil)))
    (.cons (.asg (.name 1) (.lst .nil))
    (.cons (.asg (.name 2) (.lst .nil))
    (.cons (.asg (.name 3) (.lst .nil))
    (.cons (.fors (.name 4) (.seq (.idx (.call "fractions" (.cons (.var 0) .nil)) (.int 2))) (.cons (.asg (.name 5) (.var 4))
    (.cons (.asg (.name 6) (.lst .nil))
    (.cons (.fors (.tup (.cons (.name 7) (.cons (.name 8) .nil))) (.enm (.var 1)) (.cons (.asg (.name 9) (.call "quotient" (.cons (.glob "Q") (.cons (.call "dot" (.cons (.glob "Q") (.cons (.var 4) (.cons (.var 8) .nil)))) (.cons (.idx (.var 2) (.var 7)) .nil)))))
    (.cons (.ex (.meth .append (.var 6) (.cons (.var 9) .nil)))
    (.cons (.asg (.name 5) (.bi .tuple (.cons (.lc (.call "subtract" (.cons (.glob "Q") (.cons (.var 11) (.cons (.call "multiply" (.cons (.glob "Q") (.cons (.var 9) (.cons (.idx (.var 8) (.var 10)) .nil)))) .nil)))) (.tup (.cons (.name 10) (.cons (.name 11) .nil))) (.enm (.var 5)) .none [("j", 10), ("x", 11)]) .nil)))
    .nil))))
    (.cons (.ex (.meth .append (.var 1) (.cons (.var 5) .nil)))
    (.cons (.ex (.meth .append (.var 2) (.cons (.call "dot" (.cons (.glob "Q") (.cons (.var 5) (.cons (.var 5) .nil)))) .nil)))
    (.cons (.ex (.meth .append (.var 3) (.cons (.bi .tuple (.cons (.bop .add (.bop .add (.var 6) (.lst (.cons (.tup (.cons (.int 1) (.cons (.int 1) .nil))) .nil))) (.lc (.tup (.cons (.int 0) (.cons (.int 1) .nil))) (.name 7) (.rng1 (.bop .sub (.bop .sub (.idx (.var 0) (.int 0)) (.bi .len (.cons (.var 6) .nil))) (.int 1))) .none [("k", 7)])) .nil)) .nil)))
    .nil)))))))
    (.cons (.ret (.tup (.cons (.tup (.cons (.idx (.var 0) (.int 0)) (.cons (.idx (.var 0) (.int 0)) (.cons (.bi .tuple (.cons (.var 3) .nil)) .nil)))) (.cons (.bi .tuple (.cons (.var 2) .nil)) .nil))))
    .nil))))))
theorem sc_orthogonal : FnScope n_orthogonal p_orthogonal (defScope (top 39)) := ⟨by kernel_rfl, by kernel_rfl, by kernel_rfl, by decide +kernel, by kernel_rfl, by decide +kernel, by decide +kernel⟩
theorem ck_orthogonal : chkSs n_orthogonal bl xc i_orthogonal (defScope (top 39)) (defBody (top 39)) = true := by decide +kernel
/-! is_reduced -/
def n_is_reduced : List Str := ["b", "mu", "squares", "i", "k", "n", "d", "m", "least"]
def p_is_reduced : List Str := ["b"]
def i_is_reduced : Ss :=
    (.cons (.asg (.tup (.cons (.name 1) (.cons (.name 2) .nil))) (.call "orthogonal" (.cons (.var 0) .nil)))
    (.cons (.fors (.name 3) (.rng1 (.idx (.var 0) (.int 0))) (.cons (.fors (.name 4) (.rng1 (.var 3)) (.cons (.asg (.tup (.cons (.name 5) (.cons (.name 6) .nil))) (.idx (.idx (.idx (.var 1) (.int 2)) (.var 3)) (.var 4)))
    (.cons (.ifs (.tst (.cmp .gt (.bop .mul (.int 2) (.bi .abs (.cons (.var 5) .nil))) (.var 6))) (.cons (.ret (.bl false))
    .nil) .nil)
    .nil)))
    (.cons (.ifs (.tst (.cmp .gt (.var 3) (.int 0))) (.cons (.asg (.name 7) (.idx (.idx (.idx (.var 1) (.int 2)) (.var 3)) (.bop .sub (.var 3) (.int 1))))
    (.cons (.asg (.name 8) (.call "multiply" (.cons (.glob "Q") (.cons (.call "subtract" (.cons (.glob "Q") (.cons (.tup (.cons (.int 3) (.cons (.int 4) .nil))) (.cons (.call "multiply" (.cons (.glob "Q") (.cons (.var 7) (.cons (.var 7) .nil)))) .nil)))) (.cons (.idx (.var 2) (.bop .sub (.var 3) (.int 1))) .nil)))))
    (.cons (.ifs (.tst (.cmp .lt (.bop .mul (.idx (.idx (.var 2) (.var 3)) (.int 0)) (.idx (.var 8) (.int 1))) (.bop .mul (.idx (.var 8) (.int 0)) (.idx (.idx (.var 2) (.var 3)) (.int 1))))) (.cons (.ret (.bl false))
    .nil) .nil)
    .nil))) .nil)
    .nil)))
    (.cons (.ret (.bl true))
    .nil)))
theorem sc_is_reduced : FnScope n_is_reduced p_is_reduced (defScope (top 40)) := ⟨by kernel_rfl, by kernel_rfl, by kernel_rfl, by decide +kernel, by kernel_rfl, by decide +kernel, by decide +kernel⟩
theorem ck_is_reduced : chkSs n_is_reduced bl xc i_is_reduced (defScope (top 40)) (defBody (top 40)) = true := by decide +kernel
/-! _law_start -/
def n_law_start : List Str := ["script", "cell"]
def p_law_start : List Str := ["script"]
def i_law_start : Ss :=
    (.cons (.ret (.lst (.cons (.lc (.bi .int (.cons (.var 1) .nil)) (.name 1) (.seq (.slc (.var 0) .none (.some (.int 63)))) .none [("cell", 1)]) (.cons (.int 0) (.cons (.int 0) (.cons (.int 0) .nil))))))
    .nil)
theorem sc_law_start : FnScope n_law_start p_law_start (defScope (top 42)) := ⟨by kernel_rfl, by kernel_rfl, by kernel_rfl, by decide +kernel, by kernel_rfl, by decide +kernel, by decide +kernel⟩
theorem ck_law_start : chkSs n_law_start bl xc i_law_start (defScope (top 42)) (defBody (top 42)) = true := by decide +kernel
/-! _law_fill -/
def n_law_fill : List Str := ["c", "number"]
def p_law_fill : List Str := ["c"]
def i_law_fill : Ss :=
    (.cons (.asg (.sub (.var 0) (.int 3)) (.bop .add (.idx (.var 0) (.int 3)) (.int 1)))
    (.cons (.asg (.name 1) (.bop .add (.bop .mul (.idx (.var 0) (.int 3)) (.int 69621)) (.int 12345)))
    (.cons (.ifs (.tst (.cmp .lt (.idx (.var 0) (.int 1)) (.bi .len (.cons (.idx (.var 0) (.int 0)) .nil)))) (.cons (.asg (.name 1) (.idx (.idx (.var 0) (.int 0)) (.idx (.var 0) (.int 1))))
    (.cons (.asg (.sub (.var 0) (.int 1)) (.bop .add (.idx (.var 0) (.int 1)) (.int 1)))
    (.cons (.ifs (.tst (.cmp .lt (.var 1) (.int 0))) (.cons (.asg (.name 1) (.bop .sub (.bop .sub (.int 0) (.int 1)) (.var 1)))
    .nil) .nil)
    (.cons (.ifs (.tst (.cmp .ge (.var 1) (.bop .pow (.int 10) (.int 18)))) (.cons (.ret (.var 1))
    .nil) .nil)
    .nil)))) .nil)
    (.cons (.ifs (.andE (.tst (.idx (.var 0) (.int 0))) (.tst (.cmp .ge (.idx (.var 0) (.int 1)) (.bi .len (.cons (.idx (.var 0) (.int 0)) .nil))))) (.cons (.asg (.name 1) (.bop .add (.var 1) (.bop .mod (.bi .int (.cons (.idx (.idx (.var 0) (.int 0)) (.neg (.int 1))) .nil)) (.int 1000003))))
    .nil) .nil)
    (.cons (.asg (.name 1) (.bop .mod (.bi .int (.cons (.bop .add (.bop .mul (.var 1) (.int 48271)) (.bop .mul (.idx (.var 0) (.int 3)) (.int 69621))) .nil)) (.int 2147483647)))
    (.cons (.ret (.bop .add (.bop .div (.bi .int (.cons (.bop .add (.bop .add (.bop .mul (.var 1) (.var 1)) (.bop .mul (.idx (.var 0) (.int 3)) (.int 7919))) (.int 11)) .nil)) (.int 64)) (.int 36028797018963968)))
    .nil))))))
theorem sc_law_fill : FnScope n_law_fill p_law_fill (defScope (top 43)) := ⟨by kernel_rfl, by kernel_rfl, by kernel_rfl, by decide +kernel, by kernel_rfl, by decide +kernel, by decide +kernel⟩
theorem ck_law_fill : chkSs n_law_fill bl xc i_law_fill (defScope (top 43)) (defBody (top 43)) = true := by decide +kernel
/-! _law_take -/
def n_law_take : List Str := ["c", "many", "digit"]
def p_law_take : List Str := ["c", "many"]
def i_law_take : Ss :=
    (.cons (.ifs (.tst (.cmp .lt (.idx (.var 0) (.int 2)) (.var 1))) (.cons (.asg (.sub (.var 0) (.int 2)) (.call "_law_fill" (.cons (.var 0) .nil)))
    .nil) .nil)
    (.cons (.asg (.name 2) (.bop .mod (.bi .int (.cons (.idx (.var 0) (.int 2)) .nil)) (.var 1)))
    (.cons (.asg (.sub (.var 0) (.int 2)) (.bop .div (.idx (.var 0) (.int 2)) (.var 1)))
    (.cons (.ret (.var 2))
    .nil))))
theorem sc_law_take : FnScope n_law_take p_law_take (defScope (top 44)) := ⟨by kernel_rfl, by kernel_rfl, by kernel_rfl, by decide +kernel, by kernel_rfl, by decide +kernel, by decide +kernel⟩
theorem ck_law_take : chkSs n_law_take bl xc i_law_take (defScope (top 44)) (defBody (top 44)) = true := by decide +kernel
/-! _law_common -/
def n_law_common : List Str := ["a", "b", "rest"]
def p_law_common : List Str := ["a", "b"]
def i_law_common : Ss :=
    (.cons (.asg (.name 0) (.bi .abs (.cons (.var 0) .nil)))
    (.cons (.asg (.name 1) (.bi .abs (.cons (.var 1) .nil)))
    (.cons (.whl (.tst (.cmp .ne (.var 1) (.int 0))) (.cons (.asg (.name 2) (.bop .mod (.bi .int (.cons (.var 0) .nil)) (.var 1)))
    (.cons (.asg (.name 0) (.var 1))
    (.cons (.asg (.name 1) (.var 2))
    .nil))))
    (.cons (.ret (.var 0))
    .nil))))
theorem sc_law_common : FnScope n_law_common p_law_common (defScope (top 46)) := ⟨by kernel_rfl, by kernel_rfl, by kernel_rfl, by decide +kernel, by kernel_rfl, by decide +kernel, by decide +kernel⟩
theorem ck_law_common : chkSs n_law_common bl xc i_law_common (defScope (top 46)) (defBody (top 46)) = true := by decide +kernel
/-! _law_fraction -/
def n_law_fraction : List Str := ["n", "m", "g"]
def p_law_fraction : List Str := ["n", "m"]
def i_law_fraction : Ss :=
    (.cons (.asg (.name 2) (.call "_law_common" (.cons (.var 0) (.cons (.var 1) .nil))))
    (.cons (.ifs (.tst (.cmp .lt (.var 1) (.int 0))) (.cons (.asg (.name 2) (.bop .sub (.int 0) (.var 2)))
    .nil) .nil)
    (.cons (.ret (.tup (.cons (.bop .div (.var 0) (.var 2)) (.cons (.bop .div (.var 1) (.var 2)) .nil))))
    .nil)))
theorem sc_law_fraction : FnScope n_law_fraction p_law_fraction (defScope (top 47)) := ⟨by kernel_rfl, by kernel_rfl, by kernel_rfl, by decide +kernel, by kernel_rfl, by decide +kernel, by decide +kernel⟩
theorem ck_law_fraction : chkSs n_law_fraction bl xc i_law_fraction (defScope (top 47)) (defBody (top 47)) = true := by decide +kernel
/-! _law_zero -/
def n_law_zero : List Str := ["d"]
def p_law_zero : List Str := ["d"]
def i_law_zero : Ss :=
    (.cons (.ifs (.tst (.cmp .eq (.idx (.var 0) (.int 0)) (.str "Q"))) (.cons (.ret (.tup (.cons (.int 0) (.cons (.int 1) .nil))))
    .nil) .nil)
    (.cons (.ifs (.tst (.cmp .eq (.idx (.var 0) (.int 0)) (.str "P"))) (.cons (.ret (.tup .nil))
    .nil) .nil)
    (.cons (.ret (.int 0))
    .nil)))
theorem sc_law_zero : FnScope n_law_zero p_law_zero (defScope (top 48)) := ⟨by kernel_rfl, by kernel_rfl, by kernel_rfl, by decide +kernel, by kernel_rfl, by decide +kernel, by decide +kernel⟩
theorem ck_law_zero : chkSs n_law_zero bl xc i_law_zero (defScope (top 48)) (defBody (top 48)) = true := by decide +kernel
/-! _law_number -/
def n_law_number : List Str := ["d", "n"]
def p_law_number : List Str := ["d", "n"]
def i_law_number : Ss :=
    (.cons (.ifs (.tst (.cmp .eq (.idx (.var 0) (.int 0)) (.str "Q"))) (.cons (.ret (.tup (.cons (.var 1) (.cons (.int 1) .nil))))
    .nil) .nil)
    (.cons (.ifs (.tst (.cmp .eq (.idx (.var 0) (.int 0)) (.str "F"))) (.cons (.ret (.bop .mod (.bi .int (.cons (.var 1) .nil)) (.idx (.var 0) (.int 1))))
    .nil) .nil)
    (.cons (.ifs (.tst (.cmp .eq (.idx (.var 0) (.int 0)) (.str "P"))) (.cons (.ret (.call "_law_strip" (.cons (.idx (.var 0) (.int 1)) (.cons (.lst (.cons (.call "_law_number" (.cons (.idx (.var 0) (.int 1)) (.cons (.var 1) .nil))) .nil)) .nil))))
    .nil) .nil)
    (.cons (.ret (.var 1))
    .nil))))
theorem sc_law_number : FnScope n_law_number p_law_number (defScope (top 50)) := ⟨by kernel_rfl, by kernel_rfl, by kernel_rfl, by decide +kernel, by kernel_rfl, by decide +kernel, by decide +kernel⟩
theorem ck_law_number : chkSs n_law_number bl xc i_law_number (defScope (top 50)) (defBody (top 50)) = true := by decide +kernel
/-! _law_add -/
def n_law_add : List Str := ["d", "x", "y", "long", "k"]
def p_law_add : List Str := ["d", "x", "y"]
def i_law_add : Ss :=
    (.cons (.ifs (.tst (.cmp .eq (.idx (.var 0) (.int 0)) (.str "Q"))) (.cons (.ret (.call "_law_fraction" (.cons (.bop .add (.bop .mul (.idx (.var 1) (.int 0)) (.idx (.var 2) (.int 1))) (.bop .mul (.idx (.var 2) (.int 0)) (.idx (.var 1) (.int 1)))) (.cons (.bop .mul (.idx (.var 1) (.int 1)) (.idx (.var 2) (.int 1))) .nil))))
    .nil) .nil)
    (.cons (.ifs (.tst (.cmp .eq (.idx (.var 0) (.int 0)) (.str "F"))) (.cons (.ret (.bop .mod (.bi .int (.cons (.bop .add (.var 1) (.var 2)) .nil)) (.idx (.var 0) (.int 1))))
    .nil) .nil)
    (.cons (.ifs (.tst (.cmp .eq (.idx (.var 0) (.int 0)) (.str "P"))) (.cons (.asg (.name 3) (.bi .max (.cons (.bi .len (.cons (.var 1) .nil)) (.cons (.bi .len (.cons (.var 2) .nil)) .nil))))
    (.cons (.ret (.call "_law_strip" (.cons (.idx (.var 0) (.int 1)) (.cons (.lc (.call "_law_add" (.cons (.idx (.var 0) (.int 1)) (.cons (.call "_law_part" (.cons (.idx (.var 0) (.int 1)) (.cons (.var 1) (.cons (.var 4) .nil)))) (.cons (.call "_law_part" (.cons (.idx (.var 0) (.int 1)) (.cons (.var 2) (.cons (.var 4) .nil)))) .nil)))) (.name 4) (.rng1 (.var 3)) .none [("k", 4)]) .nil))))
    .nil)) .nil)
    (.cons (.ret (.bop .add (.var 1) (.var 2)))
    .nil))))
theorem sc_law_add : FnScope n_law_add p_law_add (defScope (top 52)) := ⟨by kernel_rfl, by kernel_rfl, by kernel_rfl, by decide +kernel, by kernel_rfl, by decide +kernel, by decide +kernel⟩
theorem ck_law_add : chkSs n_law_add bl xc i_law_add (defScope (top 52)) (defBody (top 52)) = true := by decide +kernel
/-! _law_multiply -/
def n_law_multiply : List Str := ["d", "x", "y", "parts", "i", "j"]
def p_law_multiply : List Str := ["d", "x", "y"]
def i_law_multiply : Ss :=
    (.cons (.ifs (.tst (.cmp .eq (.idx (.var 0) (.int 0)) (.str "Q"))) (.cons (.ret (.call "_law_fraction" (.cons (.bop .mul (.idx (.var 1) (.int 0)) (.idx (.var 2) (.int 0))) (.cons (.bop .mul (.idx (.var 1) (.int 1)) (.idx (.var 2) (.int 1))) .nil))))
    .nil) .nil)
    (.cons (.ifs (.tst (.cmp .eq (.idx (.var 0) (.int 0)) (.str "F"))) (.cons (.ret (.bop .mod (.bi .int (.cons (.bop .mul (.var 1) (.var 2)) .nil)) (.idx (.var 0) (.int 1))))
    .nil) .nil)
    (.cons (.ifs (.tst (.cmp .eq (.idx (.var 0) (.int 0)) (.str "P"))) (.cons (.asg (.name 3) (.bop .mul (.lst (.cons (.call "_law_zero" (.cons (.idx (.var 0) (.int 1)) .nil)) .nil)) (.bop .add (.bi .len (.cons (.var 1) .nil)) (.bi .len (.cons (.var 2) .nil)))))
    (.cons (.fors (.name 4) (.rng1 (.bi .len (.cons (.var 1) .nil))) (.cons (.fors (.name 5) (.rng1 (.bi .len (.cons (.var 2) .nil))) (.cons (.asg (.sub (.var 3) (.bop .add (.var 4) (.var 5))) (.call "_law_add" (.cons (.idx (.var 0) (.int 1)) (.cons (.idx (.var 3) (.bop .add (.var 4) (.var 5))) (.cons (.call "_law_multiply" (.cons (.idx (.var 0) (.int 1)) (.cons (.idx (.var 1) (.var 4)) (.cons (.idx (.var 2) (.var 5)) .nil)))) .nil)))))
    .nil))
    .nil))
    (.cons (.ret (.call "_law_strip" (.cons (.idx (.var 0) (.int 1)) (.cons (.var 3) .nil))))
    .nil))) .nil)
    (.cons (.ret (.bop .mul (.var 1) (.var 2)))
    .nil))))
theorem sc_law_multiply : FnScope n_law_multiply p_law_multiply (defScope (top 53)) := ⟨by kernel_rfl, by kernel_rfl, by kernel_rfl, by decide +kernel, by kernel_rfl, by decide +kernel, by decide +kernel⟩
theorem ck_law_multiply : chkSs n_law_multiply bl xc i_law_multiply (defScope (top 53)) (defBody (top 53)) = true := by decide +kernel
/-! _law_subtract -/
def n_law_subtract : List Str := ["d", "x", "y"]
def p_law_subtract : List Str := ["d", "x", "y"]
def i_law_subtract : Ss :=
    (.cons (.ret (.call "_law_add" (.cons (.var 0) (.cons (.var 1) (.cons (.call "_law_multiply" (.cons (.var 0) (.cons (.call "_law_number" (.cons (.var 0) (.cons (.bop .sub (.int 0) (.int 1)) .nil))) (.cons (.var 2) .nil)))) .nil)))))
    .nil)
theorem sc_law_subtract : FnScope n_law_subtract p_law_subtract (defScope (top 54)) := ⟨by kernel_rfl, by kernel_rfl, by kernel_rfl, by decide +kernel, by kernel_rfl, by decide +kernel, by decide +kernel⟩
theorem ck_law_subtract : chkSs n_law_subtract bl xc i_law_subtract (defScope (top 54)) (defBody (top 54)) = true := by decide +kernel
/-! _law_inverse -/
def n_law_inverse : List Str := ["f", "x"]
def p_law_inverse : List Str := ["f", "x"]
def i_law_inverse : Ss :=
    (.cons (.ifs (.tst (.cmp .eq (.idx (.var 0) (.int 0)) (.str "Q"))) (.cons (.ret (.call "_law_fraction" (.cons (.idx (.var 1) (.int 1)) (.cons (.idx (.var 1) (.int 0)) .nil))))
    .nil) .nil)
    (.cons (.ret (.call "_law_power" (.cons (.var 0) (.cons (.var 1) (.cons (.bop .sub (.idx (.var 0) (.int 1)) (.int 2)) .nil)))))
    .nil))
theorem sc_law_inverse : FnScope n_law_inverse p_law_inverse (defScope (top 56)) := ⟨by kernel_rfl, by kernel_rfl, by kernel_rfl, by decide +kernel, by kernel_rfl, by decide +kernel, by decide +kernel⟩
theorem ck_law_inverse : chkSs n_law_inverse bl xc i_law_inverse (defScope (top 56)) (defBody (top 56)) = true := by decide +kernel
/-! _law_small -/
def n_law_small : List Str := ["c", "d", "k"]
def p_law_small : List Str := ["c", "d"]
def i_law_small : Ss :=
    (.cons (.ifs (.tst (.cmp .eq (.idx (.var 1) (.int 0)) (.str "F"))) (.cons (.ret (.bop .mod (.bi .int (.cons (.call "_law_take" (.cons (.var 0) (.cons (.int 65536) .nil))) .nil)) (.idx (.var 1) (.int 1))))
    .nil) .nil)
    (.cons (.ifs (.tst (.cmp .eq (.idx (.var 1) (.int 0)) (.str "Q"))) (.cons (.ret (.call "_law_fraction" (.cons (.bop .sub (.call "_law_take" (.cons (.var 0) (.cons (.int 9) .nil))) (.int 4)) (.cons (.bop .add (.int 1) (.call "_law_take" (.cons (.var 0) (.cons (.int 3) .nil)))) .nil))))
    .nil) .nil)
    (.cons (.ifs (.tst (.cmp .eq (.idx (.var 1) (.int 0)) (.str "P"))) (.cons (.ret (.call "_law_strip" (.cons (.idx (.var 1) (.int 1)) (.cons (.lc (.call "_law_small" (.cons (.var 0) (.cons (.idx (.var 1) (.int 1)) .nil))) (.name 2) (.rng1 (.call "_law_take" (.cons (.var 0) (.cons (.int 3) .nil)))) .none [("k", 2)]) .nil))))
    .nil) .nil)
    (.cons (.ret (.idx (.lst (.cons (.bop .sub (.call "_law_take" (.cons (.var 0) (.cons (.int 9) .nil))) (.int 4)) (.cons (.int 0) (.cons (.int 0) (.cons (.int 1) (.cons (.bop .sub (.call "_law_take" (.cons (.var 0) (.cons (.int 99) .nil))) (.int 49)) .nil)))))) (.call "_law_take" (.cons (.var 0) (.cons (.int 5) .nil)))))
    .nil))))
theorem sc_law_small : FnScope n_law_small p_law_small (defScope (top 62)) := ⟨by kernel_rfl, by kernel_rfl, by kernel_rfl, by decide +kernel, by kernel_rfl, by decide +kernel, by decide +kernel⟩
theorem ck_law_small : chkSs n_law_small bl xc i_law_small (defScope (top 62)) (defBody (top 62)) = true := by decide +kernel
/-! _law_matrix -/
def n_law_matrix : List Str := ["c", "d", "m", "n", "j", "i"]
def p_law_matrix : List Str := ["c", "d", "m", "n"]
def i_law_matrix : Ss :=
    (.cons (.ret (.tup (.cons (.var 2) (.cons (.var 3) (.cons (.bi .tuple (.cons (.lc (.bi .tuple (.cons (.lc (.call "_law_small" (.cons (.var 0) (.cons (.var 1) .nil))) (.name 4) (.rng1 (.var 3)) .none [("j", 4)]) .nil)) (.name 5) (.rng1 (.var 2)) .none [("i", 5)]) .nil)) .nil)))))
    .nil)
theorem sc_law_matrix : FnScope n_law_matrix p_law_matrix (defScope (top 63)) := ⟨by kernel_rfl, by kernel_rfl, by kernel_rfl, by decide +kernel, by kernel_rfl, by decide +kernel, by decide +kernel⟩
theorem ck_law_matrix : chkSs n_law_matrix bl xc i_law_matrix (defScope (top 63)) (defBody (top 63)) = true := by decide +kernel
/-! _law_dot -/
def n_law_dot : List Str := ["d", "u", "v", "total", "k"]
def p_law_dot : List Str := ["d", "u", "v"]
def i_law_dot : Ss :=
    (.cons (.asg (.name 3) (.call "_law_zero" (.cons (.var 0) .nil)))
    (.cons (.fors (.name 4) (.rng1 (.bi .len (.cons (.var 1) .nil))) (.cons (.asg (.name 3) (.call "_law_add" (.cons (.var 0) (.cons (.var 3) (.cons (.call "_law_multiply" (.cons (.var 0) (.cons (.idx (.var 1) (.var 4)) (.cons (.idx (.var 2) (.var 4)) .nil)))) .nil)))))
    .nil))
    (.cons (.ret (.var 3))
    .nil)))
theorem sc_law_dot : FnScope n_law_dot p_law_dot (defScope (top 64)) := ⟨by kernel_rfl, by kernel_rfl, by kernel_rfl, by decide +kernel, by kernel_rfl, by decide +kernel, by decide +kernel⟩
theorem ck_law_dot : chkSs n_law_dot bl xc i_law_dot (defScope (top 64)) (defBody (top 64)) = true := by decide +kernel
/-! _law_basis -/
def n_law_basis : List Str := ["c", "most", "m", "n"]
def p_law_basis : List Str := ["c", "most"]
def i_law_basis : Ss :=
    (.cons (.asg (.name 2) (.idx (.lst (.cons (.int 1) (.cons (.int 2) (.cons (.int 2) (.cons (.int 3) (.cons (.int 3) (.cons (.int 0) .nil))))))) (.call "_law_take" (.cons (.var 0) (.cons (.int 6) .nil)))))
    (.cons (.asg (.name 3) (.bi .max (.cons (.var 2) (.cons (.bop .add (.int 1) (.call "_law_take" (.cons (.var 0) (.cons (.var 1) .nil)))) .nil))))
    (.cons (.ret (.call "_law_matrix" (.cons (.var 0) (.cons (.tup (.cons (.str "Z") .nil)) (.cons (.var 2) (.cons (.var 3) .nil))))))
    .nil)))
theorem sc_law_basis : FnScope n_law_basis p_law_basis (defScope (top 68)) := ⟨by kernel_rfl, by kernel_rfl, by kernel_rfl, by decide +kernel, by kernel_rfl, by decide +kernel, by decide +kernel⟩
theorem ck_law_basis : chkSs n_law_basis bl xc i_law_basis (defScope (top 68)) (defBody (top 68)) = true := by decide +kernel
/-! _law_squares -/
def n_law_squares : List Str := ["b", "f", "rows", "mu", "squares", "i", "own", "line", "k", "x", "y", "j"]
def p_law_squares : List Str := ["b"]
def i_law_squares : Ss :=
    (.cons (.asg (.name 1) (.tup (.cons (.str "Q") .nil)))
    (.cons (.asg (.name 2) (.lst .nil))
    (.cons (.asg (.name 3) (.lst .nil))
    (.cons (.asg (.name 4) (.lst .nil))
    (.cons (.fors (.name 5) (.rng1 (.idx (.var 0) (.int 0))) (.cons (.setlc 6 (.lc (.tup (.cons (.var 9) (.cons (.int 1) .nil))) (.name 9) (.seq (.idx (.idx (.var 0) (.int 2)) (.var 5))) .none [("x", 9)]))
    (.cons (.asg (.name 7) (.lst .nil))
    (.cons (.fors (.name 8) (.rng1 (.var 5)) (.cons (.asg (.name 9) (.tup (.cons (.int 0) (.cons (.int 1) .nil))))
    (.cons (.ifs (.tst (.cmp .ne (.idx (.var 4) (.var 8)) (.tup (.cons (.int 0) (.cons (.int 1) .nil))))) (.cons (.asg (.name 9) (.call "_law_multiply" (.cons (.var 1) (.cons (.call "_law_dot" (.cons (.var 1) (.cons (.lc (.tup (.cons (.var 10) (.cons (.int 1) .nil))) (.name 10) (.seq (.idx (.idx (.var 0) (.int 2)) (.var 5))) .none [("y", 10)]) (.cons (.idx (.var 2) (.var 8)) .nil)))) (.cons (.call "_law_inverse" (.cons (.var 1) (.cons (.idx (.var 4) (.var 8)) .nil))) .nil)))))
    .nil) .nil)
    (.cons (.ex (.meth .append (.var 7) (.cons (.var 9) .nil)))
    (.cons (.setlc 6 (.lc (.call "_law_subtract" (.cons (.var 1) (.cons (.idx (.var 6) (.var 11)) (.cons (.call "_law_multiply" (.cons (.var 1) (.cons (.var 9) (.cons (.idx (.idx (.var 2) (.var 8)) (.var 11)) .nil)))) .nil)))) (.name 11) (.rng1 (.idx (.var 0) (.int 1))) .none [("j", 11)]))
    .nil)))))
    (.cons (.ex (.meth .append (.var 2) (.cons (.var 6) .nil)))
    (.cons (.ex (.meth .append (.var 4) (.cons (.call "_law_dot" (.cons (.var 1) (.cons (.var 6) (.cons (.var 6) .nil)))) .nil)))
    (.cons (.ex (.meth .append (.var 3) (.cons (.bi .tuple (.cons (.bop .add (.bop .add (.var 7) (.lst (.cons (.tup (.cons (.int 1) (.cons (.int 1) .nil))) .nil))) (.bop .mul (.lst (.cons (.tup (.cons (.int 0) (.cons (.int 1) .nil))) .nil)) (.bop .sub (.bop .sub (.idx (.var 0) (.int 0)) (.var 5)) (.int 1)))) .nil)) .nil)))
    .nil)))))))
    (.cons (.ret (.lst (.cons (.tup (.cons (.idx (.var 0) (.int 0)) (.cons (.idx (.var 0) (.int 0)) (.cons (.bi .tuple (.cons (.var 3) .nil)) .nil)))) (.cons (.bi .tuple (.cons (.var 4) .nil)) .nil))))
    .nil))))))
theorem sc_law_squares : FnScope n_law_squares p_law_squares (defScope (top 69)) := ⟨by kernel_rfl, by kernel_rfl, by kernel_rfl, by decide +kernel, by kernel_rfl, by decide +kernel, by decide +kernel⟩
theorem ck_law_squares : chkSs n_law_squares bl xc i_law_squares (defScope (top 69)) (defBody (top 69)) = true := by decide +kernel
/-! _law_atmost -/
def n_law_atmost : List Str := ["x", "y"]
def p_law_atmost : List Str := ["x", "y"]
def i_law_atmost : Ss :=
    (.cons (.ret (.cmp .le (.bop .mul (.idx (.var 0) (.int 0)) (.idx (.var 1) (.int 1))) (.bop .mul (.idx (.var 1) (.int 0)) (.idx (.var 0) (.int 1)))))
    .nil)
theorem sc_law_atmost : FnScope n_law_atmost p_law_atmost (defScope (top 70)) := ⟨by kernel_rfl, by kernel_rfl, by kernel_rfl, by decide +kernel, by kernel_rfl, by decide +kernel, by decide +kernel⟩
theorem ck_law_atmost : chkSs n_law_atmost bl xc i_law_atmost (defScope (top 70)) (defBody (top 70)) = true := by decide +kernel
/-! _law_is_reduced -/
def n_law_is_reduced : List Str := ["b", "f", "told", "i", "k", "x", "part"]
def p_law_is_reduced : List Str := ["b"]
def i_law_is_reduced : Ss :=
    (.cons (.asg (.name 1) (.tup (.cons (.str "Q") .nil)))
    (.cons (.asg (.name 2) (.call "_law_squares" (.cons (.var 0) .nil)))
    (.cons (.fors (.name 3) (.rng1 (.idx (.var 0) (.int 0))) (.cons (.fors (.name 4) (.rng1 (.var 3)) (.cons (.ifs (.tst (.cmp .gt (.bop .mul (.int 2) (.bi .abs (.cons (.idx (.idx (.idx (.idx (.idx (.var 2) (.int 0)) (.int 2)) (.var 3)) (.var 4)) (.int 0)) .nil))) (.idx (.idx (.idx (.idx (.idx (.var 2) (.int 0)) (.int 2)) (.var 3)) (.var 4)) (.int 1)))) (.cons (.ret (.bl false))
    .nil) .nil)
    .nil))
    (.cons (.ifs (.tst (.cmp .gt (.var 3) (.int 0))) (.cons (.asg (.name 5) (.idx (.idx (.idx (.idx (.var 2) (.int 0)) (.int 2)) (.var 3)) (.bop .sub (.var 3) (.int 1))))
    (.cons (.asg (.name 6) (.call "_law_subtract" (.cons (.var 1) (.cons (.tup (.cons (.int 3) (.cons (.int 4) .nil))) (.cons (.call "_law_multiply" (.cons (.var 1) (.cons (.var 5) (.cons (.var 5) .nil)))) .nil)))))
    (.cons (.ifs (.notE (.tst (.call "_law_atmost" (.cons (.call "_law_multiply" (.cons (.var 1) (.cons (.var 6) (.cons (.idx (.idx (.var 2) (.int 1)) (.bop .sub (.var 3) (.int 1))) .nil)))) (.cons (.idx (.idx (.var 2) (.int 1)) (.var 3)) .nil))))) (.cons (.ret (.bl false))
    .nil) .nil)
    .nil))) .nil)
    .nil)))
    (.cons (.ret (.bl true))
    .nil))))
theorem sc_law_is_reduced : FnScope n_law_is_reduced p_law_is_reduced (defScope (top 71)) := ⟨by kernel_rfl, by kernel_rfl, by kernel_rfl, by decide +kernel, by kernel_rfl, by decide +kernel, by decide +kernel⟩
theorem ck_law_is_reduced : chkSs n_law_is_reduced bl xc i_law_is_reduced (defScope (top 71)) (defBody (top 71)) = true := by decide +kernel
/-! _law_is_basis -/
def n_law_is_basis : List Str := ["b", "x"]
def p_law_is_basis : List Str := ["b"]
def i_law_is_basis : Ss :=
    (.cons (.ret (.bi .all (.cons (.lc (.cmp .ne (.var 1) (.tup (.cons (.int 0) (.cons (.int 1) .nil)))) (.name 1) (.seq (.idx (.call "_law_squares" (.cons (.var 0) .nil)) (.int 1))) .none [("x", 1)]) .nil)))
    .nil)
theorem sc_law_is_basis : FnScope n_law_is_basis p_law_is_basis (defScope (top 72)) := ⟨by kernel_rfl, by kernel_rfl, by kernel_rfl, by decide +kernel, by kernel_rfl, by decide +kernel, by decide +kernel⟩
theorem ck_law_is_basis : chkSs n_law_is_basis bl xc i_law_is_basis (defScope (top 72)) (defBody (top 72)) = true := by decide +kernel
/-! _law_told -/
def n_law_told : List Str := ["b", "told"]
def p_law_told : List Str := ["b"]
def i_law_told : Ss :=
    (.cons (.tryo (.cons (.asg (.name 1) (.call "orthogonal" (.cons (.var 0) .nil)))
    .nil) "SingularError" .retN)
    (.cons (.ret (.ite (.tst (.isN (.var 1))) (.tup (.cons (.str "none") .nil)) (.var 1)))
    .nil))
theorem sc_law_told : FnScope n_law_told p_law_told (defScope (top 73)) := ⟨by kernel_rfl, by kernel_rfl, by kernel_rfl, by decide +kernel, by kernel_rfl, by decide +kernel, by decide +kernel⟩
theorem ck_law_told : chkSs n_law_told bl xc i_law_told (defScope (top 73)) (defBody (top 73)) = true := by decide +kernel
/-! _law_refused -/
def n_law_refused : List Str := ["b"]
def p_law_refused : List Str := ["b"]
def i_law_refused : Ss :=
    (.cons (.tryo (.cons (.ex (.call "is_reduced" (.cons (.var 0) .nil)))
    .nil) "SingularError" (.retB true))
    (.cons (.ret (.bl false))
    .nil))
theorem sc_law_refused : FnScope n_law_refused p_law_refused (defScope (top 74)) := ⟨by kernel_rfl, by kernel_rfl, by kernel_rfl, by decide +kernel, by kernel_rfl, by decide +kernel, by decide +kernel⟩
theorem ck_law_refused : chkSs n_law_refused bl xc i_law_refused (defScope (top 74)) (defBody (top 74)) = true := by decide +kernel
/-! _law_whole -/
def n_law_whole : List Str := ["x"]
def p_law_whole : List Str := ["x"]
def i_law_whole : Ss :=
    (.cons (.ret (.andE (.isi (.var 0) "int") (.notE (.isi (.var 0) "bool"))))
    .nil)
theorem sc_law_whole : FnScope n_law_whole p_law_whole (defScope (top 75)) := ⟨by kernel_rfl, by kernel_rfl, by kernel_rfl, by decide +kernel, by kernel_rfl, by decide +kernel, by decide +kernel⟩
theorem ck_law_whole : chkSs n_law_whole bl xc i_law_whole (defScope (top 75)) (defBody (top 75)) = true := by decide +kernel
/-! _law_exact -/
def n_law_exact : List Str := ["value", "part"]
def p_law_exact : List Str := ["value"]
def i_law_exact : Ss :=
    (.cons (.ifs (.tst (.isi (.var 0) "tuple")) (.cons (.ret (.bi .all (.cons (.lc (.call "_law_exact" (.cons (.var 1) .nil)) (.name 1) (.seq (.var 0)) .none [("part", 1)]) .nil)))
    .nil) .nil)
    (.cons (.ret (.orE (.isN (.var 0)) (.orE (.isi (.var 0) "str") (.call "_law_whole" (.cons (.var 0) .nil)))))
    .nil))
theorem sc_law_exact : FnScope n_law_exact p_law_exact (defScope (top 79)) := ⟨by kernel_rfl, by kernel_rfl, by kernel_rfl, by decide +kernel, by kernel_rfl, by decide +kernel, by decide +kernel⟩
theorem ck_law_exact : chkSs n_law_exact bl xc i_law_exact (defScope (top 79)) (defBody (top 79)) = true := by decide +kernel
/-! _law_sparse -/
def n_law_sparse : List Str := ["c", "m", "n", "rows", "i", "row", "j"]
def p_law_sparse : List Str := ["c", "m", "n"]
def i_law_sparse : Ss :=
    (.cons (.asg (.name 3) (.lst .nil))
    (.cons (.fors (.name 4) (.rng1 (.var 1)) (.cons (.setlc 5 (.lc (.idx (.lst (.cons (.int 0) (.cons (.int 0) (.cons (.int 0) (.cons (.int 1) (.cons (.bop .sub (.int 0) (.int 1)) (.cons (.bop .sub (.call "_law_take" (.cons (.var 0) (.cons (.int 7) .nil))) (.int 3)) .nil))))))) (.call "_law_take" (.cons (.var 0) (.cons (.int 6) .nil)))) (.name 6) (.rng1 (.var 2)) .none [("j", 6)]))
    (.cons (.ifs (.tst (.cmp .lt (.var 4) (.var 2))) (.cons (.asg (.sub (.var 5) (.var 4)) (.bop .add (.idx (.var 5) (.var 4)) (.idx (.lst (.cons (.int 1) (.cons (.int 2) (.cons (.int 3) .nil)))) (.call "_law_take" (.cons (.var 0) (.cons (.int 3) .nil))))))
    .nil) .nil)
    (.cons (.ex (.meth .append (.var 3) (.cons (.bi .tuple (.cons (.var 5) .nil)) .nil)))
    .nil))))
    (.cons (.ret (.tup (.cons (.var 1) (.cons (.var 2) (.cons (.bi .tuple (.cons (.var 3) .nil)) .nil)))))
    .nil)))
theorem sc_law_sparse : FnScope n_law_sparse p_law_sparse (defScope (top 80)) := ⟨by kernel_rfl, by kernel_rfl, by kernel_rfl, by decide +kernel, by kernel_rfl, by decide +kernel, by decide +kernel⟩
theorem ck_law_sparse : chkSs n_law_sparse bl xc i_law_sparse (defScope (top 80)) (defBody (top 80)) = true := by decide +kernel
/-! law -/
def n_law : List Str := ["script", "c", "b", "m", "due", "told"]
def p_law : List Str := ["script"]
def i_law : Ss :=
    (.cons (.asg (.name 1) (.call "_law_start" (.cons (.var 0) .nil)))
    (.cons (.asg (.name 2) (.call "_law_basis" (.cons (.var 1) (.cons (.int 5) .nil))))
    (.cons (.ifs (.tst (.cmp .eq (.call "_law_take" (.cons (.var 1) (.cons (.int 3) .nil))) (.int 0))) (.cons (.asg (.name 3) (.bop .add (.int 3) (.call "_law_take" (.cons (.var 1) (.cons (.int 4) .nil)))))
    (.cons (.asg (.name 2) (.call "_law_sparse" (.cons (.var 1) (.cons (.var 3) (.cons (.bop .add (.var 3) (.call "_law_take" (.cons (.var 1) (.cons (.int 2) .nil)))) .nil)))))
    .nil)) .nil)
    (.cons (.ifs (.andE (.tst (.cmp .gt (.idx (.var 2) (.int 0)) (.int 1))) (.tst (.cmp .eq (.call "_law_take" (.cons (.var 1) (.cons (.int 6) .nil))) (.int 0)))) (.cons (.asg (.name 2) (.tup (.cons (.idx (.var 2) (.int 0)) (.cons (.idx (.var 2) (.int 1)) (.cons (.bop .add (.slc (.idx (.var 2) (.int 2)) .none (.some (.neg (.int 1)))) (.tup (.cons (.idx (.idx (.var 2) (.int 2)) (.int 0)) .nil))) .nil)))))
    .nil) .nil)
    (.cons (.ifs (.notE (.tst (.call "_law_is_basis" (.cons (.var 2) .nil)))) (.cons (.ret (.andE (.isN (.call "_law_told" (.cons (.var 2) .nil))) (.call "_law_refused" (.cons (.var 2) .nil))))
    .nil) .nil)
    (.cons (.asg (.name 4) (.call "_law_squares" (.cons (.var 2) .nil)))
    (.cons (.asg (.name 5) (.call "_law_told" (.cons (.var 2) .nil)))
    (.cons (.ifs (.orE (.tst (.cmp .ne (.var 5) (.tup (.cons (.idx (.var 4) (.int 0)) (.cons (.idx (.var 4) (.int 1)) .nil))))) (.orE (.notE (.tst (.call "_law_exact" (.cons (.var 5) .nil)))) (.notE (.tst (.isi (.call "is_reduced" (.cons (.var 2) .nil)) "bool"))))) (.cons (.ret (.bl false))
    .nil) .nil)
    (.cons (.ret (.cmp .eq (.call "is_reduced" (.cons (.var 2) .nil)) (.call "_law_is_reduced" (.cons (.var 2) .nil))))
    .nil)))))))))
theorem sc_law : FnScope n_law p_law (defScope (top 81)) := ⟨by kernel_rfl, by kernel_rfl, by kernel_rfl, by decide +kernel, by kernel_rfl, by decide +kernel, by decide +kernel⟩
theorem ck_law : chkSs n_law bl xc i_law (defScope (top 81)) (defBody (top 81)) = true := by decide +kernel
end K70


set_option Elab.async false
set_option linter.all false
set_option maxRecDepth 100000
set_option maxHeartbeats 2000000
namespace K70
open PySem PySem.Spec L2 Q
/-! ### the script's reader -/
structure CsI (S : Sto) (c : Nat) (d : Nat) (L : List Int) (a b n : Int) : Prop where
  hc : S[c]? = some (.lst [.lst d, .int a, .int b, .int n])
  hd : S[d]? = some (.lst (L.map U.int))
  ne : c ≠ d
  a0 : 0 ≤ a
  a1 : a ≤ L.length
  b0 : 0 ≤ b
  n0 : 0 ≤ n
def Cs (S : Sto) (c m : Nat) : Prop := ∃ d L a b n, CsI S c d L a b n ∧ n ≤ m
theorem Cs.mono {S : Sto} {c m m' : Nat} (h : Cs S c m) (hm : m ≤ m') : Cs S c m' := by
  obtain ⟨d, L, a, b, n, i, hn⟩ := h
  exact ⟨d, L, a, b, n, i, by omega⟩
structure Ext (c : Nat) (S S' : Sto) : Prop where
  len : S.length ≤ S'.length
  same : ∀ i, i < S.length → i ≠ c → S'[i]? = S[i]?
theorem Ext.refl (c : Nat) (S : Sto) : Ext c S S := ⟨Nat.le_refl _, fun _ _ _ => rfl⟩
theorem Ext.trans {c : Nat} {S S' S2 : Sto} (h : Ext c S S') (h2 : Ext c S' S2) : Ext c S S2 :=
  ⟨Nat.le_trans h.len h2.len, fun i hi hc => (h2.same i (Nat.lt_of_lt_of_le hi h.len) hc).trans (h.same i hi hc)⟩
theorem Ext.push (c : Nat) (S : Sto) (x : List Cell) : Ext c S (S ++ x) := ⟨by simp, fun i hi _ => List.getElem?_append_left hi⟩
theorem Ext.set (c : Nat) (S : Sto) (x : Cell) : Ext c S (S.set c x) := ⟨by simp, fun i hi hc => by rw [List.getElem?_set_ne (fun h => hc h.symm)]⟩
theorem Cs.push {S : Sto} {c m : Nat} (h : Cs S c m) (x : List Cell) : Cs (S ++ x) c m := by
  obtain ⟨d, L, a, b, n, i, hn⟩ := h
  have hc : c < S.length := (List.getElem?_eq_some_iff.1 i.hc).1
  have hd : d < S.length := (List.getElem?_eq_some_iff.1 i.hd).1
  exact ⟨d, L, a, b, n, ⟨by rw [List.getElem?_append_left hc]; exact i.hc, by rw [List.getElem?_append_left hd]; exact i.hd, i.ne, i.a0, i.a1, i.b0, i.n0⟩, hn⟩
theorem Cs.lt {S : Sto} {c m : Nat} (h : Cs S c m) : c < S.length := by
  obtain ⟨d, L, a, b, n, i, hn⟩ := h
  exact (List.getElem?_eq_some_iff.1 i.hc).1

theorem last_int {L : List Int} (h : (!(L.map U.int).isEmpty) = true) : ∃ z, L2.atI (L.map U.int) (-1) = some (.int z) := by
  cases L with
  | nil => cases h
  | cons x xs =>
    rw [atI_m1 _ (by simp), List.getElem?_map, List.getElem?_eq_getElem (by simp)]
    exact ⟨_, rfl⟩
def spFill : FSpec := fun us S Q _ => ∃ c d L a b n, us = [.lst c] ∧ CsI S c d L a b n ∧ n < 1000000 ∧
  ∀ a' v, 0 ≤ a' → a' ≤ (L.length : Int) → 0 ≤ v → Q (.int v) (S.set c (.lst [.lst d, .int a', .int b, .int (n + 1)]))
theorem w_fill (G : Gm) : Pf G n_law_fill i_law_fill spFill := by
  intro us S Q X h
  obtain ⟨c, d, L, a, b, n, rfl, I, hn, hQ⟩ := h
  have hcl : c < S.length := (List.getElem?_eq_some_iff.1 I.hc).1
  have i1 : (S.set c (.lst [.lst d, .int a, .int b, .int (n + 1)]))[c]? = some (.lst [.lst d, .int a, .int b, .int (n + 1)]) := by
    rw [List.getElem?_set_self hcl]
  have i2 : ∀ x, (S.set c x)[d]? = some (.lst (L.map U.int)) := fun x => by
    rw [List.getElem?_set_ne I.ne]; exact I.hd
  have i3 : (S.set c (.lst [.lst d, .int (a + 1), .int b, .int (n + 1)]))[c]? = some (.lst [.lst d, .int (a + 1), .int b, .int (n + 1)]) := by
    rw [List.getElem?_set_self hcl]
  have hn0 := I.n0
  have ha0 := I.a0
  have ha1 := I.a1
  have fin : ∀ (num : Int) (S2 : Sto), 0 ≤ num → num < 10000000000000000000000000 → (∀ v, 0 ≤ v → Q (.int v) S2) → (num.natAbs.log2 + (Int.natAbs 48271).log2 < 1000000 ∧ (n + 1).natAbs.log2 + (Int.natAbs 69621).log2 < 1000000 ∧
      ((num * 48271 + (n + 1) * 69621).fmod 2147483647).natAbs.log2 + ((num * 48271 + (n + 1) * 69621).fmod 2147483647).natAbs.log2 < 1000000 ∧
      (n + 1).natAbs.log2 + (Int.natAbs 7919).log2 < 1000000 ∧ (Int.natAbs 64).log2 < 9000 ∧
      Q (.int (((num * 48271 + (n + 1) * 69621).fmod 2147483647 * (num * 48271 + (n + 1) * 69621).fmod 2147483647 + (n + 1) * 7919 + 11).fdiv 64 + 36028797018963968)) S2) := by
    intro num S2 h0 h1 hq
    have f1 : 0 ≤ (num * 48271 + (n + 1) * 69621).fmod 2147483647 := Int.fmod_nonneg_of_pos _ (by decide)
    have f2 : (num * 48271 + (n + 1) * 69621).fmod 2147483647 < 2147483647 := Int.fmod_lt_of_pos _ (by decide)
    generalize (num * 48271 + (n + 1) * 69621).fmod 2147483647 = r at f1 f2 ⊢
    refine ⟨mul_ok (by omega) (by decide), mul_ok (by omega) (by decide), mul_ok (by omega) (by omega), mul_ok (by omega) (by decide), (div_ok (j := 64) (by decide) (by decide)).2, hq _ ?_⟩
    have hr : 0 ≤ r * r := Int.mul_nonneg f1 f1
    have : 0 ≤ (r * r + (n + 1) * 7919 + 11).fdiv 64 := Int.fdiv_nonneg (by omega) (by decide)
    omega
  have m1 : (n + 1).natAbs.log2 + (Int.natAbs 69621).log2 < 1000000 := mul_ok (by omega) (by decide)
  have hp : ((0 : Int) ≤ 18 ∧ (18 : Int) ≤ 1000000 ∧ (10 : Int).natAbs < 2 ^ 64) := by decide
  have e18 : (10 : Int) ^ 18 = 1000000000000000000 := rfl
  simp only [wpSs, wpS, wpE, wpEs, wpO, wpC, wpT, wpTg, wpTs, wpI, wipeU, startU, z_cell, z_slot, z_int, z_bl, z_tup, z_fn, z_lst, z_nil, z_cons, z_opt, z_optu, z_srct, z_srcl, z_bopi, z_bopt, z_bopl, z_bopm, z_add, z_sub, z_mul, z_div, z_mod, z_pow, z_auga, z_augs, z_augd, z_eqii, z_eqss, z_eqbb, z_eqtt, z_eqll, z_ceq, z_cne, z_clt, z_cle, z_cgt, z_cge, z_cin, z_cni, z_int_t, z_trn, z_trb, z_tri, z_trt, z_trl, z_ixt, z_ixl, z_slt, z_sll, z_sls, z_lent, z_lenl, z_abs, z_max, z_min, z_toi, z_tob, z_tut, z_tul, z_lit, z_lil, z_any, z_all, z_sum, z_app, z_set, z_isn, z_isb, z_isi, z_iss, z_ist, z_isl, z_revl, isNon, atI_0, atI_1, atI_2, atI_3, ixN_1, ixN_2, ixN_3, List.map_cons, List.map_nil, List.length_cons, List.length_nil, List.replicate, List.cons_append, List.nil_append, List.append_nil, List.set_cons_zero, List.set_cons_succ, List.getElem?_cons_zero, List.getElem?_cons_succ, Nat.reduceAdd, Nat.reduceSub, Nat.reduceLT, Nat.reduceLeDiff, Nat.reduceEqDiff, Int.reduceNeg, Int.reduceAdd, Int.reduceSub, Int.reduceMul, Int.reducePow, Int.reduceToNat, Int.reduceLT, Int.reduceLE, Int.reduceEq, if_true, if_false, Bool.false_eq_true, decide_true, decide_false, true_and, and_true, Bool.not_true, Bool.not_false, List.set_nil, List.length_set, ne_eq, not_false_eq_true, reduceCtorEq, and_self, List.isEmpty_cons, List.isEmpty_nil, List.length_map, List.set_set, decide_eq_true_eq, n_law_fill, i_law_fill, I.hc, i1, i2]
  refine ⟨m1, ?_⟩
  by_cases ha : a < L.length
  · have hb : (L.map U.int)[a.toNat]? = some (.int (L[a.toNat]'(by omega))) := by
      rw [List.getElem?_map, List.getElem?_eq_getElem (by omega)]; rfl
    generalize (L[a.toNat]'(by omega)) = w at hb
    simp only [ha]
    rw [atI_pos _ _ ha0, hb]
    by_cases hw : w < 0
    · simp only [wpSs, wpS, wpE, wpEs, wpO, wpC, wpT, wpTg, wpTs, wpI, wipeU, startU, z_cell, z_slot, z_int, z_bl, z_tup, z_fn, z_lst, z_nil, z_cons, z_opt, z_optu, z_srct, z_srcl, z_bopi, z_bopt, z_bopl, z_bopm, z_add, z_sub, z_mul, z_div, z_mod, z_pow, z_auga, z_augs, z_augd, z_eqii, z_eqss, z_eqbb, z_eqtt, z_eqll, z_ceq, z_cne, z_clt, z_cle, z_cgt, z_cge, z_cin, z_cni, z_int_t, z_trn, z_trb, z_tri, z_trt, z_trl, z_ixt, z_ixl, z_slt, z_sll, z_sls, z_lent, z_lenl, z_abs, z_max, z_min, z_toi, z_tob, z_tut, z_tul, z_lit, z_lil, z_any, z_all, z_sum, z_app, z_set, z_isn, z_isb, z_isi, z_iss, z_ist, z_isl, z_revl, isNon, atI_0, atI_1, atI_2, atI_3, ixN_1, ixN_2, ixN_3, List.map_cons, List.map_nil, List.length_cons, List.length_nil, List.replicate, List.cons_append, List.nil_append, List.append_nil, List.set_cons_zero, List.set_cons_succ, List.getElem?_cons_zero, List.getElem?_cons_succ, Nat.reduceAdd, Nat.reduceSub, Nat.reduceLT, Nat.reduceLeDiff, Nat.reduceEqDiff, Int.reduceNeg, Int.reduceAdd, Int.reduceSub, Int.reduceMul, Int.reducePow, Int.reduceToNat, Int.reduceLT, Int.reduceLE, Int.reduceEq, if_true, if_false, Bool.false_eq_true, decide_true, decide_false, true_and, and_true, Bool.not_true, Bool.not_false, List.set_nil, List.length_set, ne_eq, not_false_eq_true, reduceCtorEq, and_self, List.isEmpty_cons, List.isEmpty_nil, List.length_map, List.set_set, decide_eq_true_eq, hw, i3, i2, hp, e18]
      by_cases hx : 1000000000000000000 ≤ -1 - w
      · rw [if_pos hx]
        exact hQ _ _ (by omega) (by omega) (by omega)
      · rw [if_neg hx]
        split
        · rename_i hne
          split
          · obtain ⟨z, hz⟩ := last_int hne
            rw [hz]
            have f1 : 0 ≤ z.fmod 1000003 := Int.fmod_nonneg_of_pos _ (by decide)
            have f2 : z.fmod 1000003 < 1000003 := Int.fmod_lt_of_pos _ (by decide)
            simp only [wpSs, wpS, wpE, wpEs, wpO, wpC, wpT, wpTg, wpTs, wpI, wipeU, startU, z_cell, z_slot, z_int, z_bl, z_tup, z_fn, z_lst, z_nil, z_cons, z_opt, z_optu, z_srct, z_srcl, z_bopi, z_bopt, z_bopl, z_bopm, z_add, z_sub, z_mul, z_div, z_mod, z_pow, z_auga, z_augs, z_augd, z_eqii, z_eqss, z_eqbb, z_eqtt, z_eqll, z_ceq, z_cne, z_clt, z_cle, z_cgt, z_cge, z_cin, z_cni, z_int_t, z_trn, z_trb, z_tri, z_trt, z_trl, z_ixt, z_ixl, z_slt, z_sll, z_sls, z_lent, z_lenl, z_abs, z_max, z_min, z_toi, z_tob, z_tut, z_tul, z_lit, z_lil, z_any, z_all, z_sum, z_app, z_set, z_isn, z_isb, z_isi, z_iss, z_ist, z_isl, z_revl, isNon, atI_0, atI_1, atI_2, atI_3, ixN_1, ixN_2, ixN_3, List.map_cons, List.map_nil, List.length_cons, List.length_nil, List.replicate, List.cons_append, List.nil_append, List.append_nil, List.set_cons_zero, List.set_cons_succ, List.getElem?_cons_zero, List.getElem?_cons_succ, Nat.reduceAdd, Nat.reduceSub, Nat.reduceLT, Nat.reduceLeDiff, Nat.reduceEqDiff, Int.reduceNeg, Int.reduceAdd, Int.reduceSub, Int.reduceMul, Int.reducePow, Int.reduceToNat, Int.reduceLT, Int.reduceLE, Int.reduceEq, if_true, if_false, Bool.false_eq_true, decide_true, decide_false, true_and, and_true, Bool.not_true, Bool.not_false, List.set_nil, List.length_set, ne_eq, not_false_eq_true, reduceCtorEq, and_self, List.isEmpty_cons, List.isEmpty_nil, List.length_map, List.set_set, decide_eq_true_eq, i3, i2]
            exact fin _ _ (by omega) (by omega) (fun v hv => hQ _ v (by omega) (by omega) hv)
          · exact fin _ _ (by omega) (by omega) (fun v hv => hQ _ v (by omega) (by omega) hv)
        · exact fin _ _ (by omega) (by omega) (fun v hv => hQ _ v (by omega) (by omega) hv)
    · simp only [wpSs, wpS, wpE, wpEs, wpO, wpC, wpT, wpTg, wpTs, wpI, wipeU, startU, z_cell, z_slot, z_int, z_bl, z_tup, z_fn, z_lst, z_nil, z_cons, z_opt, z_optu, z_srct, z_srcl, z_bopi, z_bopt, z_bopl, z_bopm, z_add, z_sub, z_mul, z_div, z_mod, z_pow, z_auga, z_augs, z_augd, z_eqii, z_eqss, z_eqbb, z_eqtt, z_eqll, z_ceq, z_cne, z_clt, z_cle, z_cgt, z_cge, z_cin, z_cni, z_int_t, z_trn, z_trb, z_tri, z_trt, z_trl, z_ixt, z_ixl, z_slt, z_sll, z_sls, z_lent, z_lenl, z_abs, z_max, z_min, z_toi, z_tob, z_tut, z_tul, z_lit, z_lil, z_any, z_all, z_sum, z_app, z_set, z_isn, z_isb, z_isi, z_iss, z_ist, z_isl, z_revl, isNon, atI_0, atI_1, atI_2, atI_3, ixN_1, ixN_2, ixN_3, List.map_cons, List.map_nil, List.length_cons, List.length_nil, List.replicate, List.cons_append, List.nil_append, List.append_nil, List.set_cons_zero, List.set_cons_succ, List.getElem?_cons_zero, List.getElem?_cons_succ, Nat.reduceAdd, Nat.reduceSub, Nat.reduceLT, Nat.reduceLeDiff, Nat.reduceEqDiff, Int.reduceNeg, Int.reduceAdd, Int.reduceSub, Int.reduceMul, Int.reducePow, Int.reduceToNat, Int.reduceLT, Int.reduceLE, Int.reduceEq, if_true, if_false, Bool.false_eq_true, decide_true, decide_false, true_and, and_true, Bool.not_true, Bool.not_false, List.set_nil, List.length_set, ne_eq, not_false_eq_true, reduceCtorEq, and_self, List.isEmpty_cons, List.isEmpty_nil, List.length_map, List.set_set, decide_eq_true_eq, hw, i3, i2, hp, e18]
      by_cases hx : 1000000000000000000 ≤ w
      · rw [if_pos hx]
        exact hQ _ _ (by omega) (by omega) (by omega)
      · rw [if_neg hx]
        split
        · rename_i hne
          split
          · obtain ⟨z, hz⟩ := last_int hne
            rw [hz]
            have f1 : 0 ≤ z.fmod 1000003 := Int.fmod_nonneg_of_pos _ (by decide)
            have f2 : z.fmod 1000003 < 1000003 := Int.fmod_lt_of_pos _ (by decide)
            simp only [wpSs, wpS, wpE, wpEs, wpO, wpC, wpT, wpTg, wpTs, wpI, wipeU, startU, z_cell, z_slot, z_int, z_bl, z_tup, z_fn, z_lst, z_nil, z_cons, z_opt, z_optu, z_srct, z_srcl, z_bopi, z_bopt, z_bopl, z_bopm, z_add, z_sub, z_mul, z_div, z_mod, z_pow, z_auga, z_augs, z_augd, z_eqii, z_eqss, z_eqbb, z_eqtt, z_eqll, z_ceq, z_cne, z_clt, z_cle, z_cgt, z_cge, z_cin, z_cni, z_int_t, z_trn, z_trb, z_tri, z_trt, z_trl, z_ixt, z_ixl, z_slt, z_sll, z_sls, z_lent, z_lenl, z_abs, z_max, z_min, z_toi, z_tob, z_tut, z_tul, z_lit, z_lil, z_any, z_all, z_sum, z_app, z_set, z_isn, z_isb, z_isi, z_iss, z_ist, z_isl, z_revl, isNon, atI_0, atI_1, atI_2, atI_3, ixN_1, ixN_2, ixN_3, List.map_cons, List.map_nil, List.length_cons, List.length_nil, List.replicate, List.cons_append, List.nil_append, List.append_nil, List.set_cons_zero, List.set_cons_succ, List.getElem?_cons_zero, List.getElem?_cons_succ, Nat.reduceAdd, Nat.reduceSub, Nat.reduceLT, Nat.reduceLeDiff, Nat.reduceEqDiff, Int.reduceNeg, Int.reduceAdd, Int.reduceSub, Int.reduceMul, Int.reducePow, Int.reduceToNat, Int.reduceLT, Int.reduceLE, Int.reduceEq, if_true, if_false, Bool.false_eq_true, decide_true, decide_false, true_and, and_true, Bool.not_true, Bool.not_false, List.set_nil, List.length_set, ne_eq, not_false_eq_true, reduceCtorEq, and_self, List.isEmpty_cons, List.isEmpty_nil, List.length_map, List.set_set, decide_eq_true_eq, i3, i2]
            exact fin _ _ (by omega) (by omega) (fun v hv => hQ _ v (by omega) (by omega) hv)
          · exact fin _ _ (by omega) (by omega) (fun v hv => hQ _ v (by omega) (by omega) hv)
        · exact fin _ _ (by omega) (by omega) (fun v hv => hQ _ v (by omega) (by omega) hv)
  · simp only [ha, if_false]
    split
    · rename_i hne
      split
      · obtain ⟨z, hz⟩ := last_int hne
        rw [hz]
        have f1 : 0 ≤ z.fmod 1000003 := Int.fmod_nonneg_of_pos _ (by decide)
        have f2 : z.fmod 1000003 < 1000003 := Int.fmod_lt_of_pos _ (by decide)
        simp only [wpSs, wpS, wpE, wpEs, wpO, wpC, wpT, wpTg, wpTs, wpI, wipeU, startU, z_cell, z_slot, z_int, z_bl, z_tup, z_fn, z_lst, z_nil, z_cons, z_opt, z_optu, z_srct, z_srcl, z_bopi, z_bopt, z_bopl, z_bopm, z_add, z_sub, z_mul, z_div, z_mod, z_pow, z_auga, z_augs, z_augd, z_eqii, z_eqss, z_eqbb, z_eqtt, z_eqll, z_ceq, z_cne, z_clt, z_cle, z_cgt, z_cge, z_cin, z_cni, z_int_t, z_trn, z_trb, z_tri, z_trt, z_trl, z_ixt, z_ixl, z_slt, z_sll, z_sls, z_lent, z_lenl, z_abs, z_max, z_min, z_toi, z_tob, z_tut, z_tul, z_lit, z_lil, z_any, z_all, z_sum, z_app, z_set, z_isn, z_isb, z_isi, z_iss, z_ist, z_isl, z_revl, isNon, atI_0, atI_1, atI_2, atI_3, ixN_1, ixN_2, ixN_3, List.map_cons, List.map_nil, List.length_cons, List.length_nil, List.replicate, List.cons_append, List.nil_append, List.append_nil, List.set_cons_zero, List.set_cons_succ, List.getElem?_cons_zero, List.getElem?_cons_succ, Nat.reduceAdd, Nat.reduceSub, Nat.reduceLT, Nat.reduceLeDiff, Nat.reduceEqDiff, Int.reduceNeg, Int.reduceAdd, Int.reduceSub, Int.reduceMul, Int.reducePow, Int.reduceToNat, Int.reduceLT, Int.reduceLE, Int.reduceEq, if_true, if_false, Bool.false_eq_true, decide_true, decide_false, true_and, and_true, Bool.not_true, Bool.not_false, List.set_nil, List.length_set, ne_eq, not_false_eq_true, reduceCtorEq, and_self, List.isEmpty_cons, List.isEmpty_nil, List.length_map, List.set_set, decide_eq_true_eq, i1, i2]
        exact fin _ _ (by omega) (by omega) (fun v hv => hQ _ v (by omega) (by omega) hv)
      · exact fin _ _ (by omega) (by omega) (fun v hv => hQ _ v (by omega) (by omega) hv)
    · exact fin _ _ (by omega) (by omega) (fun v hv => hQ _ v (by omega) (by omega) hv)

end K70

set_option Elab.async false
set_option linter.all false
set_option maxRecDepth 100000
set_option maxHeartbeats 2000000
namespace K70
open PySem PySem.Spec L2 Q
theorem s_QQ : (("Q" : Str) == "Q") = true := by decide +kernel
theorem s_FF : (("F" : Str) == "F") = true := by decide +kernel
theorem s_PP : (("P" : Str) == "P") = true := by decide +kernel
theorem s_FQ : (("F" : Str) == "Q") = false := by decide +kernel
theorem s_FP : (("F" : Str) == "P") = false := by decide +kernel
theorem s_QF : (("Q" : Str) == "F") = false := by decide +kernel
theorem s_QP : (("Q" : Str) == "P") = false := by decide +kernel
theorem s_PQ : (("P" : Str) == "Q") = false := by decide +kernel
theorem s_PF : (("P" : Str) == "F") = false := by decide +kernel
theorem s_ZQ : (("Z" : Str) == "Q") = false := by decide +kernel
theorem s_ZF : (("Z" : Str) == "F") = false := by decide +kernel
theorem s_ZP : (("Z" : Str) == "P") = false := by decide +kernel
theorem Ext.new {c : Nat} {S S2 : Sto} {x : Cell} (h : Ext c (S ++ [x]) S2) (hc : c < S.length) : S2[S.length]? = some x :=
  (h.same S.length (by simp) (by omega)).trans List.getElem?_concat_length
/-- a use of a promise -/
theorem Has.use {G : Gm} {f : Str} {sp : FSpec} (h : Has G f sp) {us : List U} {S : Sto} {Q : Ks} {X : Exn} (q : sp us S Q X) : optp (G.fns f) fun s => s us S Q X := by
  obtain ⟨s, e, hs⟩ := h
  rw [e]
  exact hs _ _ _ _ q
/-- the script's list stands at d -/
def CsD (S : Sto) (c d m : Nat) : Prop := ∃ L a b n, CsI S c d L a b n ∧ n ≤ m
theorem CsD.cs {S : Sto} {c d m : Nat} (h : CsD S c d m) : Cs S c m := ⟨d, h⟩
theorem CsD.mono {S : Sto} {c d m m' : Nat} (h : CsD S c d m) (hm : m ≤ m') : CsD S c d m' := by
  obtain ⟨L, a, b, n, i, hn⟩ := h
  exact ⟨L, a, b, n, i, by omega⟩
theorem CsD.lt {S : Sto} {c d m : Nat} (h : CsD S c d m) : c < S.length ∧ d < S.length ∧ c ≠ d := by
  obtain ⟨L, a, b, n, i, hn⟩ := h
  exact ⟨(List.getElem?_eq_some_iff.1 i.hc).1, (List.getElem?_eq_some_iff.1 i.hd).1, i.ne⟩
theorem CsD.push {S : Sto} {c d m : Nat} (h : CsD S c d m) (x : List Cell) : CsD (S ++ x) c d m := by
  obtain ⟨h1, h2, _⟩ := h.lt
  obtain ⟨L, a, b, n, i, hn⟩ := h
  exact ⟨L, a, b, n, ⟨by rw [List.getElem?_append_left h1]; exact i.hc, by rw [List.getElem?_append_left h2]; exact i.hd, i.ne, i.a0, i.a1, i.b0, i.n0⟩, hn⟩
theorem CsD.set {S : Sto} {c d m : Nat} (h : CsD S c d m) {k : Nat} (x : Cell) (h1 : k ≠ c) (h2 : k ≠ d) : CsD (S.set k x) c d m := by
  obtain ⟨L, a, b, n, i, hn⟩ := h
  exact ⟨L, a, b, n, ⟨by rw [List.getElem?_set_ne h1]; exact i.hc, by rw [List.getElem?_set_ne h2]; exact i.hd, i.ne, i.a0, i.a1, i.b0, i.n0⟩, hn⟩
def spTakeD : FSpec := fun us S Q _ => ∃ c many m d, us = [.lst c, .int many] ∧ 1 ≤ many ∧ many < 18446744073709551616 ∧ CsD S c d m ∧ m < 1000000 ∧
  ∀ dg S2, 0 ≤ dg → dg < many → Ext c S S2 → CsD S2 c d (m + 1) → Q (.int dg) S2
def spTake : FSpec := fun us S Q _ => ∃ c many m, us = [.lst c, .int many] ∧ 1 ≤ many ∧ many < 18446744073709551616 ∧ Cs S c m ∧ m < 1000000 ∧
  ∀ dg S2, 0 ≤ dg → dg < many → Ext c S S2 → Cs S2 c (m + 1) → Q (.int dg) S2
theorem take_end {S0 S : Sto} {c m : Nat} {many : Int} {d : Nat} {L : List Int} {a b n : Int} (I : CsI S c d L a b n) (hn : n ≤ m) (h0 : 1 ≤ many) (e : Ext c S0 S) {Q : Ks}
    (hQ : ∀ dg S2, 0 ≤ dg → dg < many → Ext c S0 S2 → CsD S2 c d m → Q (.int dg) S2) : Q (.int (b.fmod many)) (S.set c (.lst [.lst d, .int a, .int (b.fdiv many), .int n])) := by
  have hcl : c < S.length := (List.getElem?_eq_some_iff.1 I.hc).1
  refine hQ _ _ (Int.fmod_nonneg_of_pos _ (by omega)) (Int.fmod_lt_of_pos _ (by omega)) (e.trans (Ext.set _ _ _)) ⟨L, a, b.fdiv many, n, ⟨by rw [List.getElem?_set_self hcl], by rw [List.getElem?_set_ne I.ne]; exact I.hd, I.ne, I.a0, I.a1, ?_, I.n0⟩, hn⟩
  exact Int.fdiv_nonneg I.b0 (by omega)
theorem w_take (G : Gm) (hF : Has G "_law_fill" spFill) : Pf G n_law_take i_law_take spTakeD := by
  intro us S Q X h
  obtain ⟨c, many, m, d, rfl, h1, h2, ⟨L, a, b, n, I, hn⟩, hm, hQ⟩ := h
  obtain ⟨sF, eF, hF⟩ := hF
  have hcl : c < S.length := (List.getElem?_eq_some_iff.1 I.hc).1
  have hd1 : (many ≠ 0 ∧ many.natAbs.log2 < 9000) := div_ok (by omega) (by omega)
  have hd0 : many ≠ 0 := by omega
  simp only [wpSs, wpS, wpE, wpEs, wpO, wpC, wpT, wpTg, wpTs, wpI, wipeU, startU, z_cell, z_slot, z_int, z_bl, z_tup, z_fn, z_optb, z_hN, z_hB, z_hC, z_hP, z_hK, z_lst, z_nil, z_cons, z_opt, z_optu, z_srct, z_srcl, z_bopi, z_bopt, z_bopl, z_bopm, z_add, z_sub, z_mul, z_div, z_mod, z_pow, z_auga, z_augs, z_augd, z_eqii, z_eqss, z_eqbb, z_eqtt, z_eqll, z_ceq, z_cne, z_clt, z_cle, z_cgt, z_cge, z_cin, z_cni, z_int_t, z_trn, z_trb, z_tri, z_trt, z_trl, z_ixt, z_ixl, z_slt, z_sll, z_sls, z_lent, z_lenl, z_abs, z_max, z_min, z_toi, z_tob, z_tut, z_tul, z_lit, z_lil, z_any, z_all, z_sum, z_app, z_set, z_isn, z_isb, z_isi, z_iss, z_ist, z_isl, z_revl, isNon, atI_0, atI_1, atI_2, atI_3, ixN_1, ixN_2, ixN_3, List.map_cons, List.map_nil, List.length_cons, List.length_nil, List.replicate, List.cons_append, List.nil_append, List.append_nil, List.set_cons_zero, List.set_cons_succ, List.getElem?_cons_zero, List.getElem?_cons_succ, Nat.reduceAdd, Nat.reduceSub, Nat.reduceLT, Nat.reduceLeDiff, Nat.reduceEqDiff, Int.reduceNeg, Int.reduceAdd, Int.reduceSub, Int.reduceMul, Int.reducePow, Int.reduceToNat, Int.reduceLT, Int.reduceLE, Int.reduceEq, if_true, if_false, Bool.false_eq_true, decide_true, decide_false, true_and, and_true, Bool.not_true, Bool.not_false, List.set_nil, List.length_set, ne_eq, not_false_eq_true, reduceCtorEq, and_self, List.isEmpty_cons, List.isEmpty_nil, List.length_map, List.set_set, decide_eq_true_eq, n_law_take, i_law_take, I.hc]
  by_cases hb : b < many
  · rw [if_pos hb]
    simp only [wpSs, wpS, wpE, wpEs, wpO, wpC, wpT, wpTg, wpTs, wpI, wipeU, startU, z_cell, z_slot, z_int, z_bl, z_tup, z_fn, z_optb, z_hN, z_hB, z_hC, z_hP, z_hK, z_lst, z_nil, z_cons, z_opt, z_optu, z_srct, z_srcl, z_bopi, z_bopt, z_bopl, z_bopm, z_add, z_sub, z_mul, z_div, z_mod, z_pow, z_auga, z_augs, z_augd, z_eqii, z_eqss, z_eqbb, z_eqtt, z_eqll, z_ceq, z_cne, z_clt, z_cle, z_cgt, z_cge, z_cin, z_cni, z_int_t, z_trn, z_trb, z_tri, z_trt, z_trl, z_ixt, z_ixl, z_slt, z_sll, z_sls, z_lent, z_lenl, z_abs, z_max, z_min, z_toi, z_tob, z_tut, z_tul, z_lit, z_lil, z_any, z_all, z_sum, z_app, z_set, z_isn, z_isb, z_isi, z_iss, z_ist, z_isl, z_revl, isNon, atI_0, atI_1, atI_2, atI_3, ixN_1, ixN_2, ixN_3, List.map_cons, List.map_nil, List.length_cons, List.length_nil, List.replicate, List.cons_append, List.nil_append, List.append_nil, List.set_cons_zero, List.set_cons_succ, List.getElem?_cons_zero, List.getElem?_cons_succ, Nat.reduceAdd, Nat.reduceSub, Nat.reduceLT, Nat.reduceLeDiff, Nat.reduceEqDiff, Int.reduceNeg, Int.reduceAdd, Int.reduceSub, Int.reduceMul, Int.reducePow, Int.reduceToNat, Int.reduceLT, Int.reduceLE, Int.reduceEq, if_true, if_false, Bool.false_eq_true, decide_true, decide_false, true_and, and_true, Bool.not_true, Bool.not_false, List.set_nil, List.length_set, ne_eq, not_false_eq_true, reduceCtorEq, and_self, List.isEmpty_cons, List.isEmpty_nil, List.length_map, List.set_set, decide_eq_true_eq, eF]
    refine hF _ _ _ _ ⟨c, d, L, a, b, n, rfl, I, by omega, fun a' v ha ha1 hv => ?_⟩
    have i1 : ∀ x, (S.set c x)[c]? = some x := fun x => by rw [List.getElem?_set_self hcl]
    simp only [wpSs, wpS, wpE, wpEs, wpO, wpC, wpT, wpTg, wpTs, wpI, wipeU, startU, z_cell, z_slot, z_int, z_bl, z_tup, z_fn, z_optb, z_hN, z_hB, z_hC, z_hP, z_hK, z_lst, z_nil, z_cons, z_opt, z_optu, z_srct, z_srcl, z_bopi, z_bopt, z_bopl, z_bopm, z_add, z_sub, z_mul, z_div, z_mod, z_pow, z_auga, z_augs, z_augd, z_eqii, z_eqss, z_eqbb, z_eqtt, z_eqll, z_ceq, z_cne, z_clt, z_cle, z_cgt, z_cge, z_cin, z_cni, z_int_t, z_trn, z_trb, z_tri, z_trt, z_trl, z_ixt, z_ixl, z_slt, z_sll, z_sls, z_lent, z_lenl, z_abs, z_max, z_min, z_toi, z_tob, z_tut, z_tul, z_lit, z_lil, z_any, z_all, z_sum, z_app, z_set, z_isn, z_isb, z_isi, z_iss, z_ist, z_isl, z_revl, isNon, atI_0, atI_1, atI_2, atI_3, ixN_1, ixN_2, ixN_3, List.map_cons, List.map_nil, List.length_cons, List.length_nil, List.replicate, List.cons_append, List.nil_append, List.append_nil, List.set_cons_zero, List.set_cons_succ, List.getElem?_cons_zero, List.getElem?_cons_succ, Nat.reduceAdd, Nat.reduceSub, Nat.reduceLT, Nat.reduceLeDiff, Nat.reduceEqDiff, Int.reduceNeg, Int.reduceAdd, Int.reduceSub, Int.reduceMul, Int.reducePow, Int.reduceToNat, Int.reduceLT, Int.reduceLE, Int.reduceEq, if_true, if_false, Bool.false_eq_true, decide_true, decide_false, true_and, and_true, Bool.not_true, Bool.not_false, List.set_nil, List.length_set, ne_eq, not_false_eq_true, reduceCtorEq, and_self, List.isEmpty_cons, List.isEmpty_nil, List.length_map, List.set_set, decide_eq_true_eq, i1, hd0, hd1.2]
    have := take_end (S0 := S) (S := S.set c (.lst [.lst d, .int a', .int v, .int (n + 1)])) (m := m + 1) (many := many) (Q := Q) (c := c) (d := d) (L := L) (a := a') (b := v) (n := n + 1)
      ⟨i1 _, by rw [List.getElem?_set_ne I.ne]; exact I.hd, I.ne, ha, ha1, hv, by have := I.n0; omega⟩ (by omega) h1 (Ext.set _ _ _) (fun dg S2 a1 a2 a3 a4 => hQ dg S2 a1 a2 a3 a4)
    rw [List.set_set] at this
    exact this
  · rw [if_neg hb]
    simp only [wpSs, wpS, wpE, wpEs, wpO, wpC, wpT, wpTg, wpTs, wpI, wipeU, startU, z_cell, z_slot, z_int, z_bl, z_tup, z_fn, z_optb, z_hN, z_hB, z_hC, z_hP, z_hK, z_lst, z_nil, z_cons, z_opt, z_optu, z_srct, z_srcl, z_bopi, z_bopt, z_bopl, z_bopm, z_add, z_sub, z_mul, z_div, z_mod, z_pow, z_auga, z_augs, z_augd, z_eqii, z_eqss, z_eqbb, z_eqtt, z_eqll, z_ceq, z_cne, z_clt, z_cle, z_cgt, z_cge, z_cin, z_cni, z_int_t, z_trn, z_trb, z_tri, z_trt, z_trl, z_ixt, z_ixl, z_slt, z_sll, z_sls, z_lent, z_lenl, z_abs, z_max, z_min, z_toi, z_tob, z_tut, z_tul, z_lit, z_lil, z_any, z_all, z_sum, z_app, z_set, z_isn, z_isb, z_isi, z_iss, z_ist, z_isl, z_revl, isNon, atI_0, atI_1, atI_2, atI_3, ixN_1, ixN_2, ixN_3, List.map_cons, List.map_nil, List.length_cons, List.length_nil, List.replicate, List.cons_append, List.nil_append, List.append_nil, List.set_cons_zero, List.set_cons_succ, List.getElem?_cons_zero, List.getElem?_cons_succ, Nat.reduceAdd, Nat.reduceSub, Nat.reduceLT, Nat.reduceLeDiff, Nat.reduceEqDiff, Int.reduceNeg, Int.reduceAdd, Int.reduceSub, Int.reduceMul, Int.reducePow, Int.reduceToNat, Int.reduceLT, Int.reduceLE, Int.reduceEq, if_true, if_false, Bool.false_eq_true, decide_true, decide_false, true_and, and_true, Bool.not_true, Bool.not_false, List.set_nil, List.length_set, ne_eq, not_false_eq_true, reduceCtorEq, and_self, List.isEmpty_cons, List.isEmpty_nil, List.length_map, List.set_set, decide_eq_true_eq, I.hc, hd0, hd1.2]
    exact take_end (S0 := S) (m := m + 1) I (by omega) h1 (Ext.refl _ _) hQ
theorem has_weak {G : Gm} {f : Str} {sp sp' : FSpec} (h : Has G f sp) (k : ∀ us S Q X, sp' us S Q X → sp us S Q X) : Has G f sp' := by
  obtain ⟨s, e, hs⟩ := h
  exact ⟨s, e, fun us S Q X q => hs _ _ _ _ (k _ _ _ _ q)⟩
theorem has_take {G : Gm} (h : Has G "_law_take" spTakeD) : Has G "_law_take" spTake := has_weak h fun us S Q X ⟨c, many, m, e, h1, h2, ⟨d, hc⟩, h3, hQ⟩ => ⟨c, many, m, d, e, h1, h2, hc, h3, fun dg S2 a b e2 c2 => hQ dg S2 a b e2 c2.cs⟩
def spStart : FSpec := fun us S Q _ => ∃ ns, us = [.scr ns] ∧ ∀ c S2, Cs S2 c 0 → Q (.lst c) S2
theorem w_start (G : Gm) : Pf G n_law_start i_law_start spStart := by
  intro us S Q X h
  obtain ⟨ns, rfl, hQ⟩ := h
  have hs4 : 4 ≤ sizeLine := by decide
  have hl : (cutU ns none (some 63)).length ≤ 63 := by
    unfold cutU
    rw [List.length_take]
    have : HT.sIx ns.length ns.length (some 63) = min 63 ns.length := HT.sIx_nat ns.length ns.length 63
    rw [this]
    omega
  simp only [wpSs, wpS, wpE, wpEs, wpO, wpC, wpT, wpTg, wpTs, wpI, wipeU, startU, z_cell, z_slot, z_int, z_bl, z_tup, z_fn, z_optb, z_hN, z_hB, z_hC, z_hP, z_hK, z_lst, z_nil, z_cons, z_opt, z_optu, z_srct, z_srcl, z_bopi, z_bopt, z_bopl, z_bopm, z_add, z_sub, z_mul, z_div, z_mod, z_pow, z_auga, z_augs, z_augd, z_eqii, z_eqss, z_eqbb, z_eqtt, z_eqll, z_ceq, z_cne, z_clt, z_cle, z_cgt, z_cge, z_cin, z_cni, z_int_t, z_trn, z_trb, z_tri, z_trt, z_trl, z_ixt, z_ixl, z_slt, z_sll, z_sls, z_lent, z_lenl, z_abs, z_max, z_min, z_toi, z_tob, z_tut, z_tul, z_lit, z_lil, z_any, z_all, z_sum, z_app, z_set, z_isn, z_isb, z_isi, z_iss, z_ist, z_isl, z_revl, isNon, atI_0, atI_1, atI_2, atI_3, ixN_1, ixN_2, ixN_3, List.map_cons, List.map_nil, List.length_cons, List.length_nil, List.replicate, List.cons_append, List.nil_append, List.append_nil, List.set_cons_zero, List.set_cons_succ, List.getElem?_cons_zero, List.getElem?_cons_succ, Nat.reduceAdd, Nat.reduceSub, Nat.reduceLT, Nat.reduceLeDiff, Nat.reduceEqDiff, Int.reduceNeg, Int.reduceAdd, Int.reduceSub, Int.reduceMul, Int.reducePow, Int.reduceToNat, Int.reduceLT, Int.reduceLE, Int.reduceEq, if_true, if_false, Bool.false_eq_true, decide_true, decide_false, true_and, and_true, Bool.not_true, Bool.not_false, List.set_nil, List.length_set, ne_eq, not_false_eq_true, reduceCtorEq, and_self, List.isEmpty_cons, List.isEmpty_nil, List.length_map, List.set_set, decide_eq_true_eq, n_law_start, i_law_start, List.getElem?_concat_length]
  generalize cutU ns none (some 63) = L at hl
  refine lcL_ind (fun us acc S4 => ∃ j : Nat, us = (L.drop j).map U.int ∧ acc = (L.take j).map U.int ∧ S4 = S ++ [.lst (L.map U.int)]) ?_ ?_ ?_ _ _ _ ⟨0, rfl, rfl, rfl⟩
  · rintro us acc S4 ⟨j, _, _, rfl⟩
    exact List.getElem?_concat_length
  · rintro acc S4 ⟨j, hu, rfl, rfl⟩
    have hj : L.length ≤ j := by
      have := congrArg List.length hu
      simp at this
      omega
    rw [List.take_of_length_le hj]
    refine ⟨hs4, hQ _ _ ⟨_, L, 0, 0, 0, ⟨List.getElem?_concat_length, ?_, ?_, by decide, by omega, by decide, by decide⟩, by decide⟩⟩
    · rw [List.getElem?_append_left (by simp)]
      exact List.getElem?_concat_length
    · simp
  · rintro u us acc S4 k2 ⟨j, hu, rfl, rfl⟩ ks kn
    have hj : j < L.length := by
      have := congrArg List.length hu
      simp at this
      omega
    rw [List.drop_eq_getElem_cons hj, List.map_cons] at hu
    injection hu with h1 h2
    subst h1
    simp only [wpSs, wpS, wpE, wpEs, wpO, wpC, wpT, wpTg, wpTs, wpI, wipeU, startU, z_cell, z_slot, z_int, z_bl, z_tup, z_fn, z_optb, z_hN, z_hB, z_hC, z_hP, z_hK, z_lst, z_nil, z_cons, z_opt, z_optu, z_srct, z_srcl, z_bopi, z_bopt, z_bopl, z_bopm, z_add, z_sub, z_mul, z_div, z_mod, z_pow, z_auga, z_augs, z_augd, z_eqii, z_eqss, z_eqbb, z_eqtt, z_eqll, z_ceq, z_cne, z_clt, z_cle, z_cgt, z_cge, z_cin, z_cni, z_int_t, z_trn, z_trb, z_tri, z_trt, z_trl, z_ixt, z_ixl, z_slt, z_sll, z_sls, z_lent, z_lenl, z_abs, z_max, z_min, z_toi, z_tob, z_tut, z_tul, z_lit, z_lil, z_any, z_all, z_sum, z_app, z_set, z_isn, z_isb, z_isi, z_iss, z_ist, z_isl, z_revl, isNon, atI_0, atI_1, atI_2, atI_3, ixN_1, ixN_2, ixN_3, List.map_cons, List.map_nil, List.length_cons, List.length_nil, List.replicate, List.cons_append, List.nil_append, List.append_nil, List.set_cons_zero, List.set_cons_succ, List.getElem?_cons_zero, List.getElem?_cons_succ, Nat.reduceAdd, Nat.reduceSub, Nat.reduceLT, Nat.reduceLeDiff, Nat.reduceEqDiff, Int.reduceNeg, Int.reduceAdd, Int.reduceSub, Int.reduceMul, Int.reducePow, Int.reduceToNat, Int.reduceLT, Int.reduceLE, Int.reduceEq, if_true, if_false, Bool.false_eq_true, decide_true, decide_false, true_and, and_true, Bool.not_true, Bool.not_false, List.set_nil, List.length_set, ne_eq, not_false_eq_true, reduceCtorEq, and_self, List.isEmpty_cons, List.isEmpty_nil, List.length_map, List.set_set, decide_eq_true_eq]
    refine ks _ _ (Nat.lt_of_le_of_lt (show _ ≤ 63 by simp; omega) (by decide)) ⟨j + 1, h2, ?_, rfl⟩
    rw [List.take_succ_eq_append_getElem hj, List.map_append]; rfl
end K70

set_option Elab.async false
set_option linter.all false
set_option maxRecDepth 100000
set_option maxHeartbeats 2000000
namespace K70
open PySem PySem.Spec L2 Q
/-! ### fractions -/
def fr (q : Rat) : U := .tup [.int q.num, .int q.den]
def qd : U := .tup [.str "Q"]
def gI (n d : Int) : Int := if d < 0 then -(Int.gcd n d : Int) else (Int.gcd n d : Int)
theorem fdiv_mul (g a : Int) (hg : g ≠ 0) : (g * a).fdiv g = a := by
  rw [Int.fdiv_eq_ediv_of_dvd ⟨a, rfl⟩]
  exact Int.mul_ediv_cancel_left a hg
theorem fr_divInt (n d : Int) (hd : d ≠ 0) : n.fdiv (gI n d) = (Rat.divInt n d).num ∧ d.fdiv (gI n d) = ((Rat.divInt n d).den : Int) := by
  have hg : Int.gcd n d ≠ 0 := by
    intro h
    exact hd (Int.gcd_eq_zero_iff.1 h).2
  obtain ⟨a, ha⟩ := Int.gcd_dvd_left n d
  obtain ⟨b, hb⟩ := Int.gcd_dvd_right n d
  rw [Rat.num_divInt, Rat.den_divInt, Int.gcd_comm d n, if_neg hd]
  unfold gI
  generalize hgn : Int.gcd n d = g at ha hb hg
  have hgz : (g : Int) ≠ 0 := by omega
  by_cases h : d < 0
  · rw [if_pos h, Int.sign_eq_neg_one_of_neg h]
    constructor
    · rw [ha, show (g : Int) * a = (-(g : Int)) * (-a) by grind, fdiv_mul _ _ (by omega), show -1 * (-(g : Int) * -a) = (g : Int) * (-a) by grind, Int.mul_ediv_cancel_left _ hgz]
    · have h1 : d.natAbs / g = b.natAbs := by
        rw [hb, Int.natAbs_mul, Int.natAbs_natCast]
        exact Nat.mul_div_cancel_left _ (by omega)
      rw [h1, hb, show (g : Int) * b = (-(g : Int)) * (-b) by grind, fdiv_mul _ _ (by omega)]
      have : b < 0 := by
        apply Int.lt_of_not_ge
        intro hb0
        have := Int.mul_nonneg (show (0 : Int) ≤ g by omega) hb0
        omega
      omega
  · rw [if_neg h, Int.sign_eq_one_of_pos (by omega)]
    constructor
    · rw [ha, fdiv_mul _ _ hgz, Int.one_mul, Int.mul_ediv_cancel_left _ hgz]
    · have h1 : d.natAbs / g = b.natAbs := by
        rw [hb, Int.natAbs_mul, Int.natAbs_natCast]
        exact Nat.mul_div_cancel_left _ (by omega)
      rw [h1, hb, fdiv_mul _ _ hgz]
      have : 0 ≤ b := by
        apply Int.le_of_not_gt
        intro hb0
        have := Int.mul_neg_of_pos_of_neg (show (0 : Int) < g by omega) hb0
        omega
      omega
theorem gI_ok {n d : Int} (hd : d ≠ 0) (h : d.natAbs < 2 ^ 9000) : gI n d ≠ 0 ∧ (gI n d).natAbs.log2 < 9000 := by
  have hg : Int.gcd n d ≠ 0 := by
    intro h
    exact hd (Int.gcd_eq_zero_iff.1 h).2
  have hle := Int.gcd_le_natAbs_right n hd
  have e : (gI n d).natAbs = Int.gcd n d := by
    unfold gI
    split <;> omega
  refine ⟨by unfold gI; split <;> omega, ?_⟩
  rw [e]
  exact lg _ 9000 (by decide) (Nat.lt_of_le_of_lt hle h)
def spGcd : FSpec := fun us S Q _ => ∃ a b : Int, us = [.int a, .int b] ∧ Q (.int (Int.gcd a b)) S
theorem gcd_step (x y : Nat) : Nat.gcd y (x % y) = Nat.gcd x y := by
  rw [Nat.gcd_comm y, ← Nat.gcd_rec, Nat.gcd_comm]
theorem w_divisor (G : Gm) : Pf G n_divisor i_divisor spGcd := by
  rintro us S Q X ⟨a, b, rfl, hQ⟩
  simp only [wpSs, wpS, wpE, wpEs, wpO, wpC, wpT, wpTg, wpTs, wpI, wipeU, startU, z_cell, z_slot, z_int, z_bl, z_tup, z_fn, z_lst, z_nil, z_cons, z_opt, z_optu, z_srct, z_srcl, z_bopi, z_bopt, z_bopl, z_bopm, z_add, z_sub, z_mul, z_div, z_mod, z_pow, z_auga, z_augs, z_augd, z_eqii, z_eqss, z_eqbb, z_eqtt, z_eqll, z_ceq, z_cne, z_clt, z_cle, z_cgt, z_cge, z_cin, z_cni, z_int_t, z_trn, z_trb, z_tri, z_trt, z_trl, z_ixt, z_ixl, z_slt, z_sll, z_sls, z_lent, z_lenl, z_abs, z_max, z_min, z_toi, z_tob, z_tut, z_tul, z_lit, z_lil, z_any, z_all, z_sum, z_app, z_set, z_isn, z_isb, z_isi, z_iss, z_ist, z_isl, z_revl, isNon, atI_0, atI_1, atI_2, atI_3, ixN_1, ixN_2, ixN_3, List.map_cons, List.map_nil, List.length_cons, List.length_nil, List.replicate, List.cons_append, List.nil_append, List.append_nil, List.set_cons_zero, List.set_cons_succ, List.getElem?_cons_zero, List.getElem?_cons_succ, Nat.reduceAdd, Nat.reduceSub, Nat.reduceLT, Nat.reduceLeDiff, Nat.reduceEqDiff, Int.reduceNeg, Int.reduceAdd, Int.reduceSub, Int.reduceMul, Int.reducePow, Int.reduceToNat, Int.reduceLT, Int.reduceLE, Int.reduceEq, if_true, if_false, Bool.false_eq_true, decide_true, decide_false, true_and, and_true, Bool.not_true, Bool.not_false, List.set_nil, List.length_set, ne_eq, not_false_eq_true, reduceCtorEq, and_self, List.isEmpty_cons, List.isEmpty_nil, List.length_map, List.set_set, decide_eq_true_eq, n_divisor, i_divisor]
  have ea : ∀ a : Int, (if a < 0 then -a else a) = (a.natAbs : Int) := fun a => by split <;> omega
  rw [ea, ea]
  refine whl_ind (n := b.natAbs) (fun n σ S2 => S2 = S ∧ ∃ x y : Nat, σ = [some (.int x), some (.int y)] ∧ Nat.gcd x y = Int.gcd a b ∧ n = y) ⟨rfl, _, _, rfl, rfl, rfl⟩ ?_
  rintro n σ S2 k ⟨rfl, x, y, rfl, h1, rfl⟩ hk
  simp only [wpSs, wpS, wpE, wpEs, wpO, wpC, wpT, wpTg, wpTs, wpI, wipeU, startU, z_cell, z_slot, z_int, z_bl, z_tup, z_fn, z_lst, z_nil, z_cons, z_opt, z_optu, z_srct, z_srcl, z_bopi, z_bopt, z_bopl, z_bopm, z_add, z_sub, z_mul, z_div, z_mod, z_pow, z_auga, z_augs, z_augd, z_eqii, z_eqss, z_eqbb, z_eqtt, z_eqll, z_ceq, z_cne, z_clt, z_cle, z_cgt, z_cge, z_cin, z_cni, z_int_t, z_trn, z_trb, z_tri, z_trt, z_trl, z_ixt, z_ixl, z_slt, z_sll, z_sls, z_lent, z_lenl, z_abs, z_max, z_min, z_toi, z_tob, z_tut, z_tul, z_lit, z_lil, z_any, z_all, z_sum, z_app, z_set, z_isn, z_isb, z_isi, z_iss, z_ist, z_isl, z_revl, isNon, atI_0, atI_1, atI_2, atI_3, ixN_1, ixN_2, ixN_3, List.map_cons, List.map_nil, List.length_cons, List.length_nil, List.replicate, List.cons_append, List.nil_append, List.append_nil, List.set_cons_zero, List.set_cons_succ, List.getElem?_cons_zero, List.getElem?_cons_succ, Nat.reduceAdd, Nat.reduceSub, Nat.reduceLT, Nat.reduceLeDiff, Nat.reduceEqDiff, Int.reduceNeg, Int.reduceAdd, Int.reduceSub, Int.reduceMul, Int.reducePow, Int.reduceToNat, Int.reduceLT, Int.reduceLE, Int.reduceEq, if_true, if_false, Bool.false_eq_true, decide_true, decide_false, true_and, and_true, Bool.not_true, Bool.not_false, List.set_nil, List.length_set, ne_eq, not_false_eq_true, reduceCtorEq, and_self, List.isEmpty_cons, List.isEmpty_nil, List.length_map, List.set_set, decide_eq_true_eq]
  by_cases hz : n = 0
  · subst hz
    rw [Nat.gcd_zero_right] at h1
    have hz3 : ((0 : Nat) : Int) = 0 := rfl
    simp only [wpSs, wpS, wpE, wpEs, wpO, wpC, wpT, wpTg, wpTs, wpI, wipeU, startU, z_cell, z_slot, z_int, z_bl, z_tup, z_fn, z_lst, z_nil, z_cons, z_opt, z_optu, z_srct, z_srcl, z_bopi, z_bopt, z_bopl, z_bopm, z_add, z_sub, z_mul, z_div, z_mod, z_pow, z_auga, z_augs, z_augd, z_eqii, z_eqss, z_eqbb, z_eqtt, z_eqll, z_ceq, z_cne, z_clt, z_cle, z_cgt, z_cge, z_cin, z_cni, z_int_t, z_trn, z_trb, z_tri, z_trt, z_trl, z_ixt, z_ixl, z_slt, z_sll, z_sls, z_lent, z_lenl, z_abs, z_max, z_min, z_toi, z_tob, z_tut, z_tul, z_lit, z_lil, z_any, z_all, z_sum, z_app, z_set, z_isn, z_isb, z_isi, z_iss, z_ist, z_isl, z_revl, isNon, atI_0, atI_1, atI_2, atI_3, ixN_1, ixN_2, ixN_3, List.map_cons, List.map_nil, List.length_cons, List.length_nil, List.replicate, List.cons_append, List.nil_append, List.append_nil, List.set_cons_zero, List.set_cons_succ, List.getElem?_cons_zero, List.getElem?_cons_succ, Nat.reduceAdd, Nat.reduceSub, Nat.reduceLT, Nat.reduceLeDiff, Nat.reduceEqDiff, Int.reduceNeg, Int.reduceAdd, Int.reduceSub, Int.reduceMul, Int.reducePow, Int.reduceToNat, Int.reduceLT, Int.reduceLE, Int.reduceEq, if_true, if_false, Bool.false_eq_true, decide_true, decide_false, true_and, and_true, Bool.not_true, Bool.not_false, List.set_nil, List.length_set, ne_eq, not_false_eq_true, reduceCtorEq, and_self, List.isEmpty_cons, List.isEmpty_nil, List.length_map, List.set_set, decide_eq_true_eq, hz3]
    rw [h1]
    exact hQ
  · have hz2 : ¬ ((n : Int) = 0) := by omega
    simp only [wpSs, wpS, wpE, wpEs, wpO, wpC, wpT, wpTg, wpTs, wpI, wipeU, startU, z_cell, z_slot, z_int, z_bl, z_tup, z_fn, z_lst, z_nil, z_cons, z_opt, z_optu, z_srct, z_srcl, z_bopi, z_bopt, z_bopl, z_bopm, z_add, z_sub, z_mul, z_div, z_mod, z_pow, z_auga, z_augs, z_augd, z_eqii, z_eqss, z_eqbb, z_eqtt, z_eqll, z_ceq, z_cne, z_clt, z_cle, z_cgt, z_cge, z_cin, z_cni, z_int_t, z_trn, z_trb, z_tri, z_trt, z_trl, z_ixt, z_ixl, z_slt, z_sll, z_sls, z_lent, z_lenl, z_abs, z_max, z_min, z_toi, z_tob, z_tut, z_tul, z_lit, z_lil, z_any, z_all, z_sum, z_app, z_set, z_isn, z_isb, z_isi, z_iss, z_ist, z_isl, z_revl, isNon, atI_0, atI_1, atI_2, atI_3, ixN_1, ixN_2, ixN_3, List.map_cons, List.map_nil, List.length_cons, List.length_nil, List.replicate, List.cons_append, List.nil_append, List.append_nil, List.set_cons_zero, List.set_cons_succ, List.getElem?_cons_zero, List.getElem?_cons_succ, Nat.reduceAdd, Nat.reduceSub, Nat.reduceLT, Nat.reduceLeDiff, Nat.reduceEqDiff, Int.reduceNeg, Int.reduceAdd, Int.reduceSub, Int.reduceMul, Int.reducePow, Int.reduceToNat, Int.reduceLT, Int.reduceLE, Int.reduceEq, if_true, if_false, Bool.false_eq_true, decide_true, decide_false, true_and, and_true, Bool.not_true, Bool.not_false, List.set_nil, List.length_set, ne_eq, not_false_eq_true, reduceCtorEq, and_self, List.isEmpty_cons, List.isEmpty_nil, List.length_map, List.set_set, decide_eq_true_eq, hz2]
    refine hk (x % n) _ _ (Nat.mod_lt _ (by omega)) ⟨rfl, n, x % n, ?_, by rw [gcd_step]; exact h1, rfl⟩
    rw [Int.fmod_eq_emod_of_nonneg _ (by omega)]
    rfl
theorem w_law_common (G : Gm) : Pf G n_law_common i_law_common spGcd := by
  rintro us S Q X ⟨a, b, rfl, hQ⟩
  simp only [wpSs, wpS, wpE, wpEs, wpO, wpC, wpT, wpTg, wpTs, wpI, wipeU, startU, z_cell, z_slot, z_int, z_bl, z_tup, z_fn, z_lst, z_nil, z_cons, z_opt, z_optu, z_srct, z_srcl, z_bopi, z_bopt, z_bopl, z_bopm, z_add, z_sub, z_mul, z_div, z_mod, z_pow, z_auga, z_augs, z_augd, z_eqii, z_eqss, z_eqbb, z_eqtt, z_eqll, z_ceq, z_cne, z_clt, z_cle, z_cgt, z_cge, z_cin, z_cni, z_int_t, z_trn, z_trb, z_tri, z_trt, z_trl, z_ixt, z_ixl, z_slt, z_sll, z_sls, z_lent, z_lenl, z_abs, z_max, z_min, z_toi, z_tob, z_tut, z_tul, z_lit, z_lil, z_any, z_all, z_sum, z_app, z_set, z_isn, z_isb, z_isi, z_iss, z_ist, z_isl, z_revl, isNon, atI_0, atI_1, atI_2, atI_3, ixN_1, ixN_2, ixN_3, List.map_cons, List.map_nil, List.length_cons, List.length_nil, List.replicate, List.cons_append, List.nil_append, List.append_nil, List.set_cons_zero, List.set_cons_succ, List.getElem?_cons_zero, List.getElem?_cons_succ, Nat.reduceAdd, Nat.reduceSub, Nat.reduceLT, Nat.reduceLeDiff, Nat.reduceEqDiff, Int.reduceNeg, Int.reduceAdd, Int.reduceSub, Int.reduceMul, Int.reducePow, Int.reduceToNat, Int.reduceLT, Int.reduceLE, Int.reduceEq, if_true, if_false, Bool.false_eq_true, decide_true, decide_false, true_and, and_true, Bool.not_true, Bool.not_false, List.set_nil, List.length_set, ne_eq, not_false_eq_true, reduceCtorEq, and_self, List.isEmpty_cons, List.isEmpty_nil, List.length_map, List.set_set, decide_eq_true_eq, n_law_common, i_law_common]
  have ea : ∀ a : Int, (if a < 0 then -a else a) = (a.natAbs : Int) := fun a => by split <;> omega
  rw [ea, ea]
  refine whl_ind (n := b.natAbs) (fun n σ S2 => S2 = S ∧ ∃ x y : Nat, ∃ o : Option U, σ = [some (.int x), some (.int y), o] ∧ Nat.gcd x y = Int.gcd a b ∧ n = y) ⟨rfl, _, _, _, rfl, rfl, rfl⟩ ?_
  rintro n σ S2 k ⟨rfl, x, y, o, rfl, h1, rfl⟩ hk
  simp only [wpSs, wpS, wpE, wpEs, wpO, wpC, wpT, wpTg, wpTs, wpI, wipeU, startU, z_cell, z_slot, z_int, z_bl, z_tup, z_fn, z_lst, z_nil, z_cons, z_opt, z_optu, z_srct, z_srcl, z_bopi, z_bopt, z_bopl, z_bopm, z_add, z_sub, z_mul, z_div, z_mod, z_pow, z_auga, z_augs, z_augd, z_eqii, z_eqss, z_eqbb, z_eqtt, z_eqll, z_ceq, z_cne, z_clt, z_cle, z_cgt, z_cge, z_cin, z_cni, z_int_t, z_trn, z_trb, z_tri, z_trt, z_trl, z_ixt, z_ixl, z_slt, z_sll, z_sls, z_lent, z_lenl, z_abs, z_max, z_min, z_toi, z_tob, z_tut, z_tul, z_lit, z_lil, z_any, z_all, z_sum, z_app, z_set, z_isn, z_isb, z_isi, z_iss, z_ist, z_isl, z_revl, isNon, atI_0, atI_1, atI_2, atI_3, ixN_1, ixN_2, ixN_3, List.map_cons, List.map_nil, List.length_cons, List.length_nil, List.replicate, List.cons_append, List.nil_append, List.append_nil, List.set_cons_zero, List.set_cons_succ, List.getElem?_cons_zero, List.getElem?_cons_succ, Nat.reduceAdd, Nat.reduceSub, Nat.reduceLT, Nat.reduceLeDiff, Nat.reduceEqDiff, Int.reduceNeg, Int.reduceAdd, Int.reduceSub, Int.reduceMul, Int.reducePow, Int.reduceToNat, Int.reduceLT, Int.reduceLE, Int.reduceEq, if_true, if_false, Bool.false_eq_true, decide_true, decide_false, true_and, and_true, Bool.not_true, Bool.not_false, List.set_nil, List.length_set, ne_eq, not_false_eq_true, reduceCtorEq, and_self, List.isEmpty_cons, List.isEmpty_nil, List.length_map, List.set_set, decide_eq_true_eq]
  by_cases hz : n = 0
  · subst hz
    rw [Nat.gcd_zero_right] at h1
    have hz3 : ((0 : Nat) : Int) = 0 := rfl
    simp only [wpSs, wpS, wpE, wpEs, wpO, wpC, wpT, wpTg, wpTs, wpI, wipeU, startU, z_cell, z_slot, z_int, z_bl, z_tup, z_fn, z_lst, z_nil, z_cons, z_opt, z_optu, z_srct, z_srcl, z_bopi, z_bopt, z_bopl, z_bopm, z_add, z_sub, z_mul, z_div, z_mod, z_pow, z_auga, z_augs, z_augd, z_eqii, z_eqss, z_eqbb, z_eqtt, z_eqll, z_ceq, z_cne, z_clt, z_cle, z_cgt, z_cge, z_cin, z_cni, z_int_t, z_trn, z_trb, z_tri, z_trt, z_trl, z_ixt, z_ixl, z_slt, z_sll, z_sls, z_lent, z_lenl, z_abs, z_max, z_min, z_toi, z_tob, z_tut, z_tul, z_lit, z_lil, z_any, z_all, z_sum, z_app, z_set, z_isn, z_isb, z_isi, z_iss, z_ist, z_isl, z_revl, isNon, atI_0, atI_1, atI_2, atI_3, ixN_1, ixN_2, ixN_3, List.map_cons, List.map_nil, List.length_cons, List.length_nil, List.replicate, List.cons_append, List.nil_append, List.append_nil, List.set_cons_zero, List.set_cons_succ, List.getElem?_cons_zero, List.getElem?_cons_succ, Nat.reduceAdd, Nat.reduceSub, Nat.reduceLT, Nat.reduceLeDiff, Nat.reduceEqDiff, Int.reduceNeg, Int.reduceAdd, Int.reduceSub, Int.reduceMul, Int.reducePow, Int.reduceToNat, Int.reduceLT, Int.reduceLE, Int.reduceEq, if_true, if_false, Bool.false_eq_true, decide_true, decide_false, true_and, and_true, Bool.not_true, Bool.not_false, List.set_nil, List.length_set, ne_eq, not_false_eq_true, reduceCtorEq, and_self, List.isEmpty_cons, List.isEmpty_nil, List.length_map, List.set_set, decide_eq_true_eq, hz3]
    rw [h1]
    exact hQ
  · have hz2 : ¬ ((n : Int) = 0) := by omega
    simp only [wpSs, wpS, wpE, wpEs, wpO, wpC, wpT, wpTg, wpTs, wpI, wipeU, startU, z_cell, z_slot, z_int, z_bl, z_tup, z_fn, z_lst, z_nil, z_cons, z_opt, z_optu, z_srct, z_srcl, z_bopi, z_bopt, z_bopl, z_bopm, z_add, z_sub, z_mul, z_div, z_mod, z_pow, z_auga, z_augs, z_augd, z_eqii, z_eqss, z_eqbb, z_eqtt, z_eqll, z_ceq, z_cne, z_clt, z_cle, z_cgt, z_cge, z_cin, z_cni, z_int_t, z_trn, z_trb, z_tri, z_trt, z_trl, z_ixt, z_ixl, z_slt, z_sll, z_sls, z_lent, z_lenl, z_abs, z_max, z_min, z_toi, z_tob, z_tut, z_tul, z_lit, z_lil, z_any, z_all, z_sum, z_app, z_set, z_isn, z_isb, z_isi, z_iss, z_ist, z_isl, z_revl, isNon, atI_0, atI_1, atI_2, atI_3, ixN_1, ixN_2, ixN_3, List.map_cons, List.map_nil, List.length_cons, List.length_nil, List.replicate, List.cons_append, List.nil_append, List.append_nil, List.set_cons_zero, List.set_cons_succ, List.getElem?_cons_zero, List.getElem?_cons_succ, Nat.reduceAdd, Nat.reduceSub, Nat.reduceLT, Nat.reduceLeDiff, Nat.reduceEqDiff, Int.reduceNeg, Int.reduceAdd, Int.reduceSub, Int.reduceMul, Int.reducePow, Int.reduceToNat, Int.reduceLT, Int.reduceLE, Int.reduceEq, if_true, if_false, Bool.false_eq_true, decide_true, decide_false, true_and, and_true, Bool.not_true, Bool.not_false, List.set_nil, List.length_set, ne_eq, not_false_eq_true, reduceCtorEq, and_self, List.isEmpty_cons, List.isEmpty_nil, List.length_map, List.set_set, decide_eq_true_eq, hz2]
    have em : (x : Int).fmod n = ((x % n : Nat) : Int) := by
      rw [Int.fmod_eq_emod_of_nonneg _ (by omega)]
      rfl
    exact hk (x % n) _ _ (Nat.mod_lt _ (by omega)) ⟨rfl, n, x % n, some (.int ((x % n : Nat) : Int)), by rw [em], by rw [gcd_step]; exact h1, rfl⟩
def spFr : FSpec := fun us S Q _ => ∃ n d : Int, us = [.int n, .int d] ∧ d ≠ 0 ∧ d.natAbs < 2 ^ 9000 ∧ Q (fr (Rat.divInt n d)) S
theorem w_fraction (G : Gm) (hC : Has G "divisor" spGcd) : Pf G n_fraction i_fraction spFr := by
  rintro us S Q X ⟨n, d, rfl, hd, hb, hQ⟩
  obtain ⟨sC, eC, hC⟩ := hC
  simp only [wpSs, wpS, wpE, wpEs, wpO, wpC, wpT, wpTg, wpTs, wpI, wipeU, startU, z_cell, z_slot, z_int, z_bl, z_tup, z_fn, z_lst, z_nil, z_cons, z_opt, z_optu, z_srct, z_srcl, z_bopi, z_bopt, z_bopl, z_bopm, z_add, z_sub, z_mul, z_div, z_mod, z_pow, z_auga, z_augs, z_augd, z_eqii, z_eqss, z_eqbb, z_eqtt, z_eqll, z_ceq, z_cne, z_clt, z_cle, z_cgt, z_cge, z_cin, z_cni, z_int_t, z_trn, z_trb, z_tri, z_trt, z_trl, z_ixt, z_ixl, z_slt, z_sll, z_sls, z_lent, z_lenl, z_abs, z_max, z_min, z_toi, z_tob, z_tut, z_tul, z_lit, z_lil, z_any, z_all, z_sum, z_app, z_set, z_isn, z_isb, z_isi, z_iss, z_ist, z_isl, z_revl, isNon, atI_0, atI_1, atI_2, atI_3, ixN_1, ixN_2, ixN_3, List.map_cons, List.map_nil, List.length_cons, List.length_nil, List.replicate, List.cons_append, List.nil_append, List.append_nil, List.set_cons_zero, List.set_cons_succ, List.getElem?_cons_zero, List.getElem?_cons_succ, Nat.reduceAdd, Nat.reduceSub, Nat.reduceLT, Nat.reduceLeDiff, Nat.reduceEqDiff, Int.reduceNeg, Int.reduceAdd, Int.reduceSub, Int.reduceMul, Int.reducePow, Int.reduceToNat, Int.reduceLT, Int.reduceLE, Int.reduceEq, if_true, if_false, Bool.false_eq_true, decide_true, decide_false, true_and, and_true, Bool.not_true, Bool.not_false, List.set_nil, List.length_set, ne_eq, not_false_eq_true, reduceCtorEq, and_self, List.isEmpty_cons, List.isEmpty_nil, List.length_map, List.set_set, decide_eq_true_eq, n_fraction, i_fraction, eC]
  refine hC _ _ _ _ ⟨n, d, rfl, ?_⟩
  have hs2 : 2 ≤ sizeLine := by decide
  have ok := gI_ok (n := n) hd hb
  obtain ⟨e1, e2⟩ := fr_divInt n d hd
  unfold fr at hQ
  rw [← e1, ← e2] at hQ
  unfold gI at ok hQ
  by_cases hdn : d < 0
  · rw [if_pos hdn] at ok hQ
    simp only [wpSs, wpS, wpE, wpEs, wpO, wpC, wpT, wpTg, wpTs, wpI, wipeU, startU, z_cell, z_slot, z_int, z_bl, z_tup, z_fn, z_lst, z_nil, z_cons, z_opt, z_optu, z_srct, z_srcl, z_bopi, z_bopt, z_bopl, z_bopm, z_add, z_sub, z_mul, z_div, z_mod, z_pow, z_auga, z_augs, z_augd, z_eqii, z_eqss, z_eqbb, z_eqtt, z_eqll, z_ceq, z_cne, z_clt, z_cle, z_cgt, z_cge, z_cin, z_cni, z_int_t, z_trn, z_trb, z_tri, z_trt, z_trl, z_ixt, z_ixl, z_slt, z_sll, z_sls, z_lent, z_lenl, z_abs, z_max, z_min, z_toi, z_tob, z_tut, z_tul, z_lit, z_lil, z_any, z_all, z_sum, z_app, z_set, z_isn, z_isb, z_isi, z_iss, z_ist, z_isl, z_revl, isNon, atI_0, atI_1, atI_2, atI_3, ixN_1, ixN_2, ixN_3, List.map_cons, List.map_nil, List.length_cons, List.length_nil, List.replicate, List.cons_append, List.nil_append, List.append_nil, List.set_cons_zero, List.set_cons_succ, List.getElem?_cons_zero, List.getElem?_cons_succ, Nat.reduceAdd, Nat.reduceSub, Nat.reduceLT, Nat.reduceLeDiff, Nat.reduceEqDiff, Int.reduceNeg, Int.reduceAdd, Int.reduceSub, Int.reduceMul, Int.reducePow, Int.reduceToNat, Int.reduceLT, Int.reduceLE, Int.reduceEq, if_true, if_false, Bool.false_eq_true, decide_true, decide_false, true_and, and_true, Bool.not_true, Bool.not_false, List.set_nil, List.length_set, ne_eq, not_false_eq_true, reduceCtorEq, and_self, List.isEmpty_cons, List.isEmpty_nil, List.length_map, List.set_set, decide_eq_true_eq, hdn]
    exact ⟨ok, ok, hs2, hQ⟩
  · rw [if_neg hdn] at ok hQ
    simp only [wpSs, wpS, wpE, wpEs, wpO, wpC, wpT, wpTg, wpTs, wpI, wipeU, startU, z_cell, z_slot, z_int, z_bl, z_tup, z_fn, z_lst, z_nil, z_cons, z_opt, z_optu, z_srct, z_srcl, z_bopi, z_bopt, z_bopl, z_bopm, z_add, z_sub, z_mul, z_div, z_mod, z_pow, z_auga, z_augs, z_augd, z_eqii, z_eqss, z_eqbb, z_eqtt, z_eqll, z_ceq, z_cne, z_clt, z_cle, z_cgt, z_cge, z_cin, z_cni, z_int_t, z_trn, z_trb, z_tri, z_trt, z_trl, z_ixt, z_ixl, z_slt, z_sll, z_sls, z_lent, z_lenl, z_abs, z_max, z_min, z_toi, z_tob, z_tut, z_tul, z_lit, z_lil, z_any, z_all, z_sum, z_app, z_set, z_isn, z_isb, z_isi, z_iss, z_ist, z_isl, z_revl, isNon, atI_0, atI_1, atI_2, atI_3, ixN_1, ixN_2, ixN_3, List.map_cons, List.map_nil, List.length_cons, List.length_nil, List.replicate, List.cons_append, List.nil_append, List.append_nil, List.set_cons_zero, List.set_cons_succ, List.getElem?_cons_zero, List.getElem?_cons_succ, Nat.reduceAdd, Nat.reduceSub, Nat.reduceLT, Nat.reduceLeDiff, Nat.reduceEqDiff, Int.reduceNeg, Int.reduceAdd, Int.reduceSub, Int.reduceMul, Int.reducePow, Int.reduceToNat, Int.reduceLT, Int.reduceLE, Int.reduceEq, if_true, if_false, Bool.false_eq_true, decide_true, decide_false, true_and, and_true, Bool.not_true, Bool.not_false, List.set_nil, List.length_set, ne_eq, not_false_eq_true, reduceCtorEq, and_self, List.isEmpty_cons, List.isEmpty_nil, List.length_map, List.set_set, decide_eq_true_eq, hdn]
    exact ⟨ok, ok, hs2, hQ⟩
theorem w_law_fraction (G : Gm) (hC : Has G "_law_common" spGcd) : Pf G n_law_fraction i_law_fraction spFr := by
  rintro us S Q X ⟨n, d, rfl, hd, hb, hQ⟩
  obtain ⟨sC, eC, hC⟩ := hC
  simp only [wpSs, wpS, wpE, wpEs, wpO, wpC, wpT, wpTg, wpTs, wpI, wipeU, startU, z_cell, z_slot, z_int, z_bl, z_tup, z_fn, z_lst, z_nil, z_cons, z_opt, z_optu, z_srct, z_srcl, z_bopi, z_bopt, z_bopl, z_bopm, z_add, z_sub, z_mul, z_div, z_mod, z_pow, z_auga, z_augs, z_augd, z_eqii, z_eqss, z_eqbb, z_eqtt, z_eqll, z_ceq, z_cne, z_clt, z_cle, z_cgt, z_cge, z_cin, z_cni, z_int_t, z_trn, z_trb, z_tri, z_trt, z_trl, z_ixt, z_ixl, z_slt, z_sll, z_sls, z_lent, z_lenl, z_abs, z_max, z_min, z_toi, z_tob, z_tut, z_tul, z_lit, z_lil, z_any, z_all, z_sum, z_app, z_set, z_isn, z_isb, z_isi, z_iss, z_ist, z_isl, z_revl, isNon, atI_0, atI_1, atI_2, atI_3, ixN_1, ixN_2, ixN_3, List.map_cons, List.map_nil, List.length_cons, List.length_nil, List.replicate, List.cons_append, List.nil_append, List.append_nil, List.set_cons_zero, List.set_cons_succ, List.getElem?_cons_zero, List.getElem?_cons_succ, Nat.reduceAdd, Nat.reduceSub, Nat.reduceLT, Nat.reduceLeDiff, Nat.reduceEqDiff, Int.reduceNeg, Int.reduceAdd, Int.reduceSub, Int.reduceMul, Int.reducePow, Int.reduceToNat, Int.reduceLT, Int.reduceLE, Int.reduceEq, if_true, if_false, Bool.false_eq_true, decide_true, decide_false, true_and, and_true, Bool.not_true, Bool.not_false, List.set_nil, List.length_set, ne_eq, not_false_eq_true, reduceCtorEq, and_self, List.isEmpty_cons, List.isEmpty_nil, List.length_map, List.set_set, decide_eq_true_eq, n_law_fraction, i_law_fraction, eC]
  refine hC _ _ _ _ ⟨n, d, rfl, ?_⟩
  have hs2 : 2 ≤ sizeLine := by decide
  have ok := gI_ok (n := n) hd hb
  obtain ⟨e1, e2⟩ := fr_divInt n d hd
  unfold fr at hQ
  rw [← e1, ← e2] at hQ
  unfold gI at ok hQ
  by_cases hdn : d < 0
  · rw [if_pos hdn] at ok hQ
    simp only [wpSs, wpS, wpE, wpEs, wpO, wpC, wpT, wpTg, wpTs, wpI, wipeU, startU, z_cell, z_slot, z_int, z_bl, z_tup, z_fn, z_lst, z_nil, z_cons, z_opt, z_optu, z_srct, z_srcl, z_bopi, z_bopt, z_bopl, z_bopm, z_add, z_sub, z_mul, z_div, z_mod, z_pow, z_auga, z_augs, z_augd, z_eqii, z_eqss, z_eqbb, z_eqtt, z_eqll, z_ceq, z_cne, z_clt, z_cle, z_cgt, z_cge, z_cin, z_cni, z_int_t, z_trn, z_trb, z_tri, z_trt, z_trl, z_ixt, z_ixl, z_slt, z_sll, z_sls, z_lent, z_lenl, z_abs, z_max, z_min, z_toi, z_tob, z_tut, z_tul, z_lit, z_lil, z_any, z_all, z_sum, z_app, z_set, z_isn, z_isb, z_isi, z_iss, z_ist, z_isl, z_revl, isNon, atI_0, atI_1, atI_2, atI_3, ixN_1, ixN_2, ixN_3, List.map_cons, List.map_nil, List.length_cons, List.length_nil, List.replicate, List.cons_append, List.nil_append, List.append_nil, List.set_cons_zero, List.set_cons_succ, List.getElem?_cons_zero, List.getElem?_cons_succ, Nat.reduceAdd, Nat.reduceSub, Nat.reduceLT, Nat.reduceLeDiff, Nat.reduceEqDiff, Int.reduceNeg, Int.reduceAdd, Int.reduceSub, Int.reduceMul, Int.reducePow, Int.reduceToNat, Int.reduceLT, Int.reduceLE, Int.reduceEq, if_true, if_false, Bool.false_eq_true, decide_true, decide_false, true_and, and_true, Bool.not_true, Bool.not_false, List.set_nil, List.length_set, ne_eq, not_false_eq_true, reduceCtorEq, and_self, List.isEmpty_cons, List.isEmpty_nil, List.length_map, List.set_set, decide_eq_true_eq, hdn, Int.zero_sub]
    exact ⟨ok, ok, hs2, hQ⟩
  · rw [if_neg hdn] at ok hQ
    simp only [wpSs, wpS, wpE, wpEs, wpO, wpC, wpT, wpTg, wpTs, wpI, wipeU, startU, z_cell, z_slot, z_int, z_bl, z_tup, z_fn, z_lst, z_nil, z_cons, z_opt, z_optu, z_srct, z_srcl, z_bopi, z_bopt, z_bopl, z_bopm, z_add, z_sub, z_mul, z_div, z_mod, z_pow, z_auga, z_augs, z_augd, z_eqii, z_eqss, z_eqbb, z_eqtt, z_eqll, z_ceq, z_cne, z_clt, z_cle, z_cgt, z_cge, z_cin, z_cni, z_int_t, z_trn, z_trb, z_tri, z_trt, z_trl, z_ixt, z_ixl, z_slt, z_sll, z_sls, z_lent, z_lenl, z_abs, z_max, z_min, z_toi, z_tob, z_tut, z_tul, z_lit, z_lil, z_any, z_all, z_sum, z_app, z_set, z_isn, z_isb, z_isi, z_iss, z_ist, z_isl, z_revl, isNon, atI_0, atI_1, atI_2, atI_3, ixN_1, ixN_2, ixN_3, List.map_cons, List.map_nil, List.length_cons, List.length_nil, List.replicate, List.cons_append, List.nil_append, List.append_nil, List.set_cons_zero, List.set_cons_succ, List.getElem?_cons_zero, List.getElem?_cons_succ, Nat.reduceAdd, Nat.reduceSub, Nat.reduceLT, Nat.reduceLeDiff, Nat.reduceEqDiff, Int.reduceNeg, Int.reduceAdd, Int.reduceSub, Int.reduceMul, Int.reducePow, Int.reduceToNat, Int.reduceLT, Int.reduceLE, Int.reduceEq, if_true, if_false, Bool.false_eq_true, decide_true, decide_false, true_and, and_true, Bool.not_true, Bool.not_false, List.set_nil, List.length_set, ne_eq, not_false_eq_true, reduceCtorEq, and_self, List.isEmpty_cons, List.isEmpty_nil, List.length_map, List.set_set, decide_eq_true_eq, hdn]
    exact ⟨ok, ok, hs2, hQ⟩

/-! ### sizes and the four operations -/
def Sm (q : Rat) : Prop := q.num.natAbs < 2 ^ 100000 ∧ q.den < 2 ^ 4400
theorem lgB {x : Nat} (k : Nat) (hk : 0 < k) (h : x < 2 ^ k) : x.log2 < k := lg x k hk h
theorem Sm.neg {a : Rat} (h : Sm a) : Sm (-a) := by
  unfold Sm at *
  rw [Rat.neg_num, Rat.neg_den]
  exact ⟨by omega, h.2⟩
theorem Sm.nn {a b : Rat} (ha : Sm a) (hb : Sm b) : a.num.natAbs.log2 + b.num.natAbs.log2 < 1000000 := by
  have := lgB 100000 (by decide) ha.1
  have := lgB 100000 (by decide) hb.1
  omega
theorem Sm.nd {a b : Rat} (ha : Sm a) (hb : Sm b) : a.num.natAbs.log2 + (b.den : Int).natAbs.log2 < 1000000 := by
  have := lgB 100000 (by decide) ha.1
  have := lgB 4400 (by decide) hb.2
  rw [Int.natAbs_natCast]
  omega
theorem Sm.dd {a b : Rat} (ha : Sm a) (hb : Sm b) : (a.den : Int).natAbs.log2 + (b.den : Int).natAbs.log2 < 1000000 := by
  have := lgB 4400 (by decide) ha.2
  have := lgB 4400 (by decide) hb.2
  rw [Int.natAbs_natCast, Int.natAbs_natCast]
  omega
theorem den_pos (a : Rat) : 0 < a.den := Nat.pos_of_ne_zero a.den_nz
theorem pow_mul2 {x y i j k : Nat} (hx : x < 2 ^ i) (hy : y < 2 ^ j) (hk : i + j ≤ k) : x * y < 2 ^ k := by
  by_cases h0 : y = 0
  · subst h0
    rw [Nat.mul_zero]
    exact Nat.pow_pos (by decide)
  · calc x * y < 2 ^ i * y := Nat.mul_lt_mul_of_pos_right hx (by omega)
      _ ≤ 2 ^ i * 2 ^ j := Nat.mul_le_mul_left _ (Nat.le_of_lt hy)
      _ = 2 ^ (i + j) := (Nat.pow_add ..).symm
      _ ≤ 2 ^ k := Nat.pow_le_pow_right (by decide) hk
theorem Sm.den {a b : Rat} (ha : Sm a) (hb : Sm b) : (a.den : Int) * b.den ≠ 0 ∧ ((a.den : Int) * b.den).natAbs < 2 ^ 9000 := by
  have := den_pos a
  have := den_pos b
  refine ⟨Int.mul_ne_zero (by omega) (by omega), ?_⟩
  rw [Int.natAbs_mul, Int.natAbs_natCast, Int.natAbs_natCast]
  exact pow_mul2 ha.2 hb.2 (by decide)
theorem add_eq (a b : Rat) : Rat.divInt (a.num * b.den + b.num * a.den) (a.den * b.den) = a + b := by
  have h := Rat.divInt_add_divInt a.num b.num (d₁ := a.den) (d₂ := b.den) (by have := den_pos a; omega) (by have := den_pos b; omega)
  rw [Rat.num_divInt_den, Rat.num_divInt_den] at h
  exact h.symm
theorem mul_eq (a b : Rat) : Rat.divInt (a.num * b.num) (a.den * b.den) = a * b := by
  have h := Rat.divInt_mul_divInt a.num b.num (d₁ := a.den) (d₂ := b.den)
  rw [Rat.num_divInt_den, Rat.num_divInt_den] at h
  exact h.symm
def spOp2 (f : Rat → Rat → Rat) : FSpec := fun us S Q _ => ∃ a b : Rat, us = [qd, fr a, fr b] ∧ Sm a ∧ Sm b ∧ Q (fr (f a b)) S
theorem s_QZ : (("Q" : Str) == "Z") = false := by decide +kernel
theorem w_add (G : Gm) (hF : Has G "fraction" spFr) : Pf G n_add i_add (spOp2 (· + ·)) := by
  rintro us S Q X ⟨a, b, rfl, ha, hb, hQ⟩
  obtain ⟨sF, eF, hF⟩ := hF
  unfold fr qd
  simp only [wpSs, wpS, wpE, wpEs, wpO, wpC, wpT, wpTg, wpTs, wpI, wipeU, startU, z_cell, z_slot, z_int, z_bl, z_tup, z_fn, z_lst, z_nil, z_cons, z_opt, z_optu, z_srct, z_srcl, z_bopi, z_bopt, z_bopl, z_bopm, z_add, z_sub, z_mul, z_div, z_mod, z_pow, z_auga, z_augs, z_augd, z_eqii, z_eqss, z_eqbb, z_eqtt, z_eqll, z_ceq, z_cne, z_clt, z_cle, z_cgt, z_cge, z_cin, z_cni, z_int_t, z_trn, z_trb, z_tri, z_trt, z_trl, z_ixt, z_ixl, z_slt, z_sll, z_sls, z_lent, z_lenl, z_abs, z_max, z_min, z_toi, z_tob, z_tut, z_tul, z_lit, z_lil, z_any, z_all, z_sum, z_app, z_set, z_isn, z_isb, z_isi, z_iss, z_ist, z_isl, z_revl, isNon, atI_0, atI_1, atI_2, atI_3, ixN_1, ixN_2, ixN_3, List.map_cons, List.map_nil, List.length_cons, List.length_nil, List.replicate, List.cons_append, List.nil_append, List.append_nil, List.set_cons_zero, List.set_cons_succ, List.getElem?_cons_zero, List.getElem?_cons_succ, Nat.reduceAdd, Nat.reduceSub, Nat.reduceLT, Nat.reduceLeDiff, Nat.reduceEqDiff, Int.reduceNeg, Int.reduceAdd, Int.reduceSub, Int.reduceMul, Int.reducePow, Int.reduceToNat, Int.reduceLT, Int.reduceLE, Int.reduceEq, if_true, if_false, Bool.false_eq_true, decide_true, decide_false, true_and, and_true, Bool.not_true, Bool.not_false, List.set_nil, List.length_set, ne_eq, not_false_eq_true, reduceCtorEq, and_self, List.isEmpty_cons, List.isEmpty_nil, List.length_map, List.set_set, decide_eq_true_eq, n_add, i_add, s_QQ, s_QZ, s_QF, eF]
  exact ⟨ha.nd hb, hb.nd ha, ha.dd hb, hF _ _ _ _ ⟨_, _, rfl, (ha.den hb).1, (ha.den hb).2, by rw [add_eq]; exact hQ⟩⟩
theorem w_multiply (G : Gm) (hF : Has G "fraction" spFr) : Pf G n_multiply i_multiply (spOp2 (· * ·)) := by
  rintro us S Q X ⟨a, b, rfl, ha, hb, hQ⟩
  obtain ⟨sF, eF, hF⟩ := hF
  unfold fr qd
  simp only [wpSs, wpS, wpE, wpEs, wpO, wpC, wpT, wpTg, wpTs, wpI, wipeU, startU, z_cell, z_slot, z_int, z_bl, z_tup, z_fn, z_lst, z_nil, z_cons, z_opt, z_optu, z_srct, z_srcl, z_bopi, z_bopt, z_bopl, z_bopm, z_add, z_sub, z_mul, z_div, z_mod, z_pow, z_auga, z_augs, z_augd, z_eqii, z_eqss, z_eqbb, z_eqtt, z_eqll, z_ceq, z_cne, z_clt, z_cle, z_cgt, z_cge, z_cin, z_cni, z_int_t, z_trn, z_trb, z_tri, z_trt, z_trl, z_ixt, z_ixl, z_slt, z_sll, z_sls, z_lent, z_lenl, z_abs, z_max, z_min, z_toi, z_tob, z_tut, z_tul, z_lit, z_lil, z_any, z_all, z_sum, z_app, z_set, z_isn, z_isb, z_isi, z_iss, z_ist, z_isl, z_revl, isNon, atI_0, atI_1, atI_2, atI_3, ixN_1, ixN_2, ixN_3, List.map_cons, List.map_nil, List.length_cons, List.length_nil, List.replicate, List.cons_append, List.nil_append, List.append_nil, List.set_cons_zero, List.set_cons_succ, List.getElem?_cons_zero, List.getElem?_cons_succ, Nat.reduceAdd, Nat.reduceSub, Nat.reduceLT, Nat.reduceLeDiff, Nat.reduceEqDiff, Int.reduceNeg, Int.reduceAdd, Int.reduceSub, Int.reduceMul, Int.reducePow, Int.reduceToNat, Int.reduceLT, Int.reduceLE, Int.reduceEq, if_true, if_false, Bool.false_eq_true, decide_true, decide_false, true_and, and_true, Bool.not_true, Bool.not_false, List.set_nil, List.length_set, ne_eq, not_false_eq_true, reduceCtorEq, and_self, List.isEmpty_cons, List.isEmpty_nil, List.length_map, List.set_set, decide_eq_true_eq, n_multiply, i_multiply, s_QQ, s_QZ, s_QF, eF]
  exact ⟨ha.nn hb, ha.dd hb, hF _ _ _ _ ⟨_, _, rfl, (ha.den hb).1, (ha.den hb).2, by rw [mul_eq]; exact hQ⟩⟩
theorem w_law_add (G : Gm) (hF : Has G "_law_fraction" spFr) : Pf G n_law_add i_law_add (spOp2 (· + ·)) := by
  rintro us S Q X ⟨a, b, rfl, ha, hb, hQ⟩
  obtain ⟨sF, eF, hF⟩ := hF
  unfold fr qd
  simp only [wpSs, wpS, wpE, wpEs, wpO, wpC, wpT, wpTg, wpTs, wpI, wipeU, startU, z_cell, z_slot, z_int, z_bl, z_tup, z_fn, z_lst, z_nil, z_cons, z_opt, z_optu, z_srct, z_srcl, z_bopi, z_bopt, z_bopl, z_bopm, z_add, z_sub, z_mul, z_div, z_mod, z_pow, z_auga, z_augs, z_augd, z_eqii, z_eqss, z_eqbb, z_eqtt, z_eqll, z_ceq, z_cne, z_clt, z_cle, z_cgt, z_cge, z_cin, z_cni, z_int_t, z_trn, z_trb, z_tri, z_trt, z_trl, z_ixt, z_ixl, z_slt, z_sll, z_sls, z_lent, z_lenl, z_abs, z_max, z_min, z_toi, z_tob, z_tut, z_tul, z_lit, z_lil, z_any, z_all, z_sum, z_app, z_set, z_isn, z_isb, z_isi, z_iss, z_ist, z_isl, z_revl, isNon, atI_0, atI_1, atI_2, atI_3, ixN_1, ixN_2, ixN_3, List.map_cons, List.map_nil, List.length_cons, List.length_nil, List.replicate, List.cons_append, List.nil_append, List.append_nil, List.set_cons_zero, List.set_cons_succ, List.getElem?_cons_zero, List.getElem?_cons_succ, Nat.reduceAdd, Nat.reduceSub, Nat.reduceLT, Nat.reduceLeDiff, Nat.reduceEqDiff, Int.reduceNeg, Int.reduceAdd, Int.reduceSub, Int.reduceMul, Int.reducePow, Int.reduceToNat, Int.reduceLT, Int.reduceLE, Int.reduceEq, if_true, if_false, Bool.false_eq_true, decide_true, decide_false, true_and, and_true, Bool.not_true, Bool.not_false, List.set_nil, List.length_set, ne_eq, not_false_eq_true, reduceCtorEq, and_self, List.isEmpty_cons, List.isEmpty_nil, List.length_map, List.set_set, decide_eq_true_eq, n_law_add, i_law_add, s_QQ, s_QZ, s_QF, eF]
  exact ⟨ha.nd hb, hb.nd ha, ha.dd hb, hF _ _ _ _ ⟨_, _, rfl, (ha.den hb).1, (ha.den hb).2, by rw [add_eq]; exact hQ⟩⟩
theorem w_law_multiply (G : Gm) (hF : Has G "_law_fraction" spFr) : Pf G n_law_multiply i_law_multiply (spOp2 (· * ·)) := by
  rintro us S Q X ⟨a, b, rfl, ha, hb, hQ⟩
  obtain ⟨sF, eF, hF⟩ := hF
  unfold fr qd
  simp only [wpSs, wpS, wpE, wpEs, wpO, wpC, wpT, wpTg, wpTs, wpI, wipeU, startU, z_cell, z_slot, z_int, z_bl, z_tup, z_fn, z_lst, z_nil, z_cons, z_opt, z_optu, z_srct, z_srcl, z_bopi, z_bopt, z_bopl, z_bopm, z_add, z_sub, z_mul, z_div, z_mod, z_pow, z_auga, z_augs, z_augd, z_eqii, z_eqss, z_eqbb, z_eqtt, z_eqll, z_ceq, z_cne, z_clt, z_cle, z_cgt, z_cge, z_cin, z_cni, z_int_t, z_trn, z_trb, z_tri, z_trt, z_trl, z_ixt, z_ixl, z_slt, z_sll, z_sls, z_lent, z_lenl, z_abs, z_max, z_min, z_toi, z_tob, z_tut, z_tul, z_lit, z_lil, z_any, z_all, z_sum, z_app, z_set, z_isn, z_isb, z_isi, z_iss, z_ist, z_isl, z_revl, isNon, atI_0, atI_1, atI_2, atI_3, ixN_1, ixN_2, ixN_3, List.map_cons, List.map_nil, List.length_cons, List.length_nil, List.replicate, List.cons_append, List.nil_append, List.append_nil, List.set_cons_zero, List.set_cons_succ, List.getElem?_cons_zero, List.getElem?_cons_succ, Nat.reduceAdd, Nat.reduceSub, Nat.reduceLT, Nat.reduceLeDiff, Nat.reduceEqDiff, Int.reduceNeg, Int.reduceAdd, Int.reduceSub, Int.reduceMul, Int.reducePow, Int.reduceToNat, Int.reduceLT, Int.reduceLE, Int.reduceEq, if_true, if_false, Bool.false_eq_true, decide_true, decide_false, true_and, and_true, Bool.not_true, Bool.not_false, List.set_nil, List.length_set, ne_eq, not_false_eq_true, reduceCtorEq, and_self, List.isEmpty_cons, List.isEmpty_nil, List.length_map, List.set_set, decide_eq_true_eq, n_law_multiply, i_law_multiply, s_QQ, s_QZ, s_QF, eF]
  exact ⟨ha.nn hb, ha.dd hb, hF _ _ _ _ ⟨_, _, rfl, (ha.den hb).1, (ha.den hb).2, by rw [mul_eq]; exact hQ⟩⟩
def spNeg : FSpec := fun us S Q _ => ∃ a : Rat, us = [qd, fr a] ∧ Q (fr (-a)) S
theorem w_negate (G : Gm) : Pf G n_negate i_negate spNeg := by
  rintro us S Q X ⟨a, rfl, hQ⟩
  have hs2 : 2 ≤ sizeLine := by decide
  unfold fr at hQ
  rw [Rat.neg_num, Rat.neg_den] at hQ
  unfold fr qd
  simp only [wpSs, wpS, wpE, wpEs, wpO, wpC, wpT, wpTg, wpTs, wpI, wipeU, startU, z_cell, z_slot, z_int, z_bl, z_tup, z_fn, z_lst, z_nil, z_cons, z_opt, z_optu, z_srct, z_srcl, z_bopi, z_bopt, z_bopl, z_bopm, z_add, z_sub, z_mul, z_div, z_mod, z_pow, z_auga, z_augs, z_augd, z_eqii, z_eqss, z_eqbb, z_eqtt, z_eqll, z_ceq, z_cne, z_clt, z_cle, z_cgt, z_cge, z_cin, z_cni, z_int_t, z_trn, z_trb, z_tri, z_trt, z_trl, z_ixt, z_ixl, z_slt, z_sll, z_sls, z_lent, z_lenl, z_abs, z_max, z_min, z_toi, z_tob, z_tut, z_tul, z_lit, z_lil, z_any, z_all, z_sum, z_app, z_set, z_isn, z_isb, z_isi, z_iss, z_ist, z_isl, z_revl, isNon, atI_0, atI_1, atI_2, atI_3, ixN_1, ixN_2, ixN_3, List.map_cons, List.map_nil, List.length_cons, List.length_nil, List.replicate, List.cons_append, List.nil_append, List.append_nil, List.set_cons_zero, List.set_cons_succ, List.getElem?_cons_zero, List.getElem?_cons_succ, Nat.reduceAdd, Nat.reduceSub, Nat.reduceLT, Nat.reduceLeDiff, Nat.reduceEqDiff, Int.reduceNeg, Int.reduceAdd, Int.reduceSub, Int.reduceMul, Int.reducePow, Int.reduceToNat, Int.reduceLT, Int.reduceLE, Int.reduceEq, if_true, if_false, Bool.false_eq_true, decide_true, decide_false, true_and, and_true, Bool.not_true, Bool.not_false, List.set_nil, List.length_set, ne_eq, not_false_eq_true, reduceCtorEq, and_self, List.isEmpty_cons, List.isEmpty_nil, List.length_map, List.set_set, decide_eq_true_eq, n_negate, i_negate, s_QQ, s_QZ, s_QF]
  exact ⟨hs2, hQ⟩
theorem w_subtract (G : Gm) (hA : Has G "add" (spOp2 (· + ·))) (hN : Has G "negate" spNeg) : Pf G n_subtract i_subtract (spOp2 (· - ·)) := by
  rintro us S Q X ⟨a, b, rfl, ha, hb, hQ⟩
  obtain ⟨sA, eA, hA⟩ := hA
  obtain ⟨sN, eN, hN⟩ := hN
  simp only [wpSs, wpS, wpE, wpEs, wpO, wpC, wpT, wpTg, wpTs, wpI, wipeU, startU, z_cell, z_slot, z_int, z_bl, z_tup, z_fn, z_lst, z_nil, z_cons, z_opt, z_optu, z_srct, z_srcl, z_bopi, z_bopt, z_bopl, z_bopm, z_add, z_sub, z_mul, z_div, z_mod, z_pow, z_auga, z_augs, z_augd, z_eqii, z_eqss, z_eqbb, z_eqtt, z_eqll, z_ceq, z_cne, z_clt, z_cle, z_cgt, z_cge, z_cin, z_cni, z_int_t, z_trn, z_trb, z_tri, z_trt, z_trl, z_ixt, z_ixl, z_slt, z_sll, z_sls, z_lent, z_lenl, z_abs, z_max, z_min, z_toi, z_tob, z_tut, z_tul, z_lit, z_lil, z_any, z_all, z_sum, z_app, z_set, z_isn, z_isb, z_isi, z_iss, z_ist, z_isl, z_revl, isNon, atI_0, atI_1, atI_2, atI_3, ixN_1, ixN_2, ixN_3, List.map_cons, List.map_nil, List.length_cons, List.length_nil, List.replicate, List.cons_append, List.nil_append, List.append_nil, List.set_cons_zero, List.set_cons_succ, List.getElem?_cons_zero, List.getElem?_cons_succ, Nat.reduceAdd, Nat.reduceSub, Nat.reduceLT, Nat.reduceLeDiff, Nat.reduceEqDiff, Int.reduceNeg, Int.reduceAdd, Int.reduceSub, Int.reduceMul, Int.reducePow, Int.reduceToNat, Int.reduceLT, Int.reduceLE, Int.reduceEq, if_true, if_false, Bool.false_eq_true, decide_true, decide_false, true_and, and_true, Bool.not_true, Bool.not_false, List.set_nil, List.length_set, ne_eq, not_false_eq_true, reduceCtorEq, and_self, List.isEmpty_cons, List.isEmpty_nil, List.length_map, List.set_set, decide_eq_true_eq, n_subtract, i_subtract, eA, eN]
  refine hN _ _ _ _ ⟨b, rfl, hA _ _ _ _ ⟨a, -b, rfl, ha, hb.neg, ?_⟩⟩
  show Q (fr (a + -b)) S
  rw [← Rat.sub_eq_add_neg]
  exact hQ
def spLNum : FSpec := fun us S Q _ => ∃ n : Int, us = [qd, .int n] ∧ Q (.tup [.int n, .int 1]) S
theorem w_law_number (G : Gm) : Pf G n_law_number i_law_number spLNum := by
  rintro us S Q X ⟨n, rfl, hQ⟩
  have hs2 : 2 ≤ sizeLine := by decide
  unfold qd
  simp only [wpSs, wpS, wpE, wpEs, wpO, wpC, wpT, wpTg, wpTs, wpI, wipeU, startU, z_cell, z_slot, z_int, z_bl, z_tup, z_fn, z_lst, z_nil, z_cons, z_opt, z_optu, z_srct, z_srcl, z_bopi, z_bopt, z_bopl, z_bopm, z_add, z_sub, z_mul, z_div, z_mod, z_pow, z_auga, z_augs, z_augd, z_eqii, z_eqss, z_eqbb, z_eqtt, z_eqll, z_ceq, z_cne, z_clt, z_cle, z_cgt, z_cge, z_cin, z_cni, z_int_t, z_trn, z_trb, z_tri, z_trt, z_trl, z_ixt, z_ixl, z_slt, z_sll, z_sls, z_lent, z_lenl, z_abs, z_max, z_min, z_toi, z_tob, z_tut, z_tul, z_lit, z_lil, z_any, z_all, z_sum, z_app, z_set, z_isn, z_isb, z_isi, z_iss, z_ist, z_isl, z_revl, isNon, atI_0, atI_1, atI_2, atI_3, ixN_1, ixN_2, ixN_3, List.map_cons, List.map_nil, List.length_cons, List.length_nil, List.replicate, List.cons_append, List.nil_append, List.append_nil, List.set_cons_zero, List.set_cons_succ, List.getElem?_cons_zero, List.getElem?_cons_succ, Nat.reduceAdd, Nat.reduceSub, Nat.reduceLT, Nat.reduceLeDiff, Nat.reduceEqDiff, Int.reduceNeg, Int.reduceAdd, Int.reduceSub, Int.reduceMul, Int.reducePow, Int.reduceToNat, Int.reduceLT, Int.reduceLE, Int.reduceEq, if_true, if_false, Bool.false_eq_true, decide_true, decide_false, true_and, and_true, Bool.not_true, Bool.not_false, List.set_nil, List.length_set, ne_eq, not_false_eq_true, reduceCtorEq, and_self, List.isEmpty_cons, List.isEmpty_nil, List.length_map, List.set_set, decide_eq_true_eq, n_law_number, i_law_number, s_QQ]
  exact ⟨hs2, hQ⟩
theorem fr_int (n : Int) : fr (n : Rat) = .tup [.int n, .int 1] := rfl
theorem sm_int {n : Int} (h : n.natAbs < 2 ^ 100000) : Sm (n : Rat) := ⟨h, Nat.one_lt_two_pow (by decide)⟩
theorem w_law_subtract (G : Gm) (hA : Has G "_law_add" (spOp2 (· + ·))) (hM : Has G "_law_multiply" (spOp2 (· * ·))) (hN : Has G "_law_number" spLNum) : Pf G n_law_subtract i_law_subtract (spOp2 (· - ·)) := by
  rintro us S Q X ⟨a, b, rfl, ha, hb, hQ⟩
  obtain ⟨sA, eA, hA⟩ := hA
  obtain ⟨sM, eM, hM⟩ := hM
  obtain ⟨sN, eN, hN⟩ := hN
  simp only [wpSs, wpS, wpE, wpEs, wpO, wpC, wpT, wpTg, wpTs, wpI, wipeU, startU, z_cell, z_slot, z_int, z_bl, z_tup, z_fn, z_lst, z_nil, z_cons, z_opt, z_optu, z_srct, z_srcl, z_bopi, z_bopt, z_bopl, z_bopm, z_add, z_sub, z_mul, z_div, z_mod, z_pow, z_auga, z_augs, z_augd, z_eqii, z_eqss, z_eqbb, z_eqtt, z_eqll, z_ceq, z_cne, z_clt, z_cle, z_cgt, z_cge, z_cin, z_cni, z_int_t, z_trn, z_trb, z_tri, z_trt, z_trl, z_ixt, z_ixl, z_slt, z_sll, z_sls, z_lent, z_lenl, z_abs, z_max, z_min, z_toi, z_tob, z_tut, z_tul, z_lit, z_lil, z_any, z_all, z_sum, z_app, z_set, z_isn, z_isb, z_isi, z_iss, z_ist, z_isl, z_revl, isNon, atI_0, atI_1, atI_2, atI_3, ixN_1, ixN_2, ixN_3, List.map_cons, List.map_nil, List.length_cons, List.length_nil, List.replicate, List.cons_append, List.nil_append, List.append_nil, List.set_cons_zero, List.set_cons_succ, List.getElem?_cons_zero, List.getElem?_cons_succ, Nat.reduceAdd, Nat.reduceSub, Nat.reduceLT, Nat.reduceLeDiff, Nat.reduceEqDiff, Int.reduceNeg, Int.reduceAdd, Int.reduceSub, Int.reduceMul, Int.reducePow, Int.reduceToNat, Int.reduceLT, Int.reduceLE, Int.reduceEq, if_true, if_false, Bool.false_eq_true, decide_true, decide_false, true_and, and_true, Bool.not_true, Bool.not_false, List.set_nil, List.length_set, ne_eq, not_false_eq_true, reduceCtorEq, and_self, List.isEmpty_cons, List.isEmpty_nil, List.length_map, List.set_set, decide_eq_true_eq, n_law_subtract, i_law_subtract, eA, eM, eN]
  refine hN _ _ _ _ ⟨-1, rfl, hM _ _ _ _ ⟨((-1 : Int) : Rat), b, rfl, sm_int (Nat.one_lt_two_pow (by decide)), hb, ?_⟩⟩
  have e : ((-1 : Int) : Rat) * b = -b := by grind
  show sA [qd, fr a, fr (((-1 : Int) : Rat) * b)] S Q _
  rw [e]
  refine hA _ _ _ _ ⟨a, -b, rfl, ha, hb.neg, ?_⟩
  show Q (fr (a + -b)) S
  rw [← Rat.sub_eq_add_neg]
  exact hQ

/-! ### the field of fractions -/
theorem t_ii : (("int" : String) == "int") = true := by decide
theorem t_tt : (("tuple" : String) == "tuple") = true := by decide
theorem t_ss : (("str" : String) == "str") = true := by decide
def spIsF : FSpec := fun us S Q _ => us = [qd] ∧ Q (.bl true) S
theorem w_is_field (G : Gm) : Pf G n_is_field i_is_field spIsF := by
  rintro us S Q X ⟨rfl, hQ⟩
  unfold qd
  simp only [wpSs, wpS, wpE, wpEs, wpO, wpC, wpT, wpTg, wpTs, wpI, wipeU, startU, z_cell, z_slot, z_int, z_bl, z_tup, z_fn, z_lst, z_nil, z_cons, z_opt, z_optu, z_srct, z_srcl, z_bopi, z_bopt, z_bopl, z_bopm, z_add, z_sub, z_mul, z_div, z_mod, z_pow, z_auga, z_augs, z_augd, z_eqii, z_eqss, z_eqbb, z_eqtt, z_eqll, z_ceq, z_cne, z_clt, z_cle, z_cgt, z_cge, z_cin, z_cni, z_int_t, z_trn, z_trb, z_tri, z_trt, z_trl, z_ixt, z_ixl, z_slt, z_sll, z_sls, z_lent, z_lenl, z_abs, z_max, z_min, z_toi, z_tob, z_tut, z_tul, z_lit, z_lil, z_any, z_all, z_sum, z_app, z_set, z_isn, z_isb, z_isi, z_iss, z_ist, z_isl, z_revl, isNon, atI_0, atI_1, atI_2, atI_3, ixN_1, ixN_2, ixN_3, List.map_cons, List.map_nil, List.length_cons, List.length_nil, List.replicate, List.cons_append, List.nil_append, List.append_nil, List.set_cons_zero, List.set_cons_succ, List.getElem?_cons_zero, List.getElem?_cons_succ, Nat.reduceAdd, Nat.reduceSub, Nat.reduceLT, Nat.reduceLeDiff, Nat.reduceEqDiff, Int.reduceNeg, Int.reduceAdd, Int.reduceSub, Int.reduceMul, Int.reducePow, Int.reduceToNat, Int.reduceLT, Int.reduceLE, Int.reduceEq, if_true, if_false, Bool.false_eq_true, decide_true, decide_false, true_and, and_true, Bool.not_true, Bool.not_false, List.set_nil, List.length_set, ne_eq, not_false_eq_true, reduceCtorEq, and_self, List.isEmpty_cons, List.isEmpty_nil, List.length_map, List.set_set, decide_eq_true_eq, n_is_field, i_is_field, t_tt, t_ss, s_QQ]
  exact hQ
def spNF : FSpec := fun us S Q _ => us = [qd] ∧ Q .non S
theorem w_need_field (G : Gm) (hI : Has G "is_field" spIsF) : Pf G n_need_field i_need_field spNF := by
  rintro us S Q X ⟨rfl, hQ⟩
  obtain ⟨sI, eI, hI⟩ := hI
  simp only [wpSs, wpS, wpE, wpEs, wpO, wpC, wpT, wpTg, wpTs, wpI, wipeU, startU, z_cell, z_slot, z_int, z_bl, z_tup, z_fn, z_lst, z_nil, z_cons, z_opt, z_optu, z_srct, z_srcl, z_bopi, z_bopt, z_bopl, z_bopm, z_add, z_sub, z_mul, z_div, z_mod, z_pow, z_auga, z_augs, z_augd, z_eqii, z_eqss, z_eqbb, z_eqtt, z_eqll, z_ceq, z_cne, z_clt, z_cle, z_cgt, z_cge, z_cin, z_cni, z_int_t, z_trn, z_trb, z_tri, z_trt, z_trl, z_ixt, z_ixl, z_slt, z_sll, z_sls, z_lent, z_lenl, z_abs, z_max, z_min, z_toi, z_tob, z_tut, z_tul, z_lit, z_lil, z_any, z_all, z_sum, z_app, z_set, z_isn, z_isb, z_isi, z_iss, z_ist, z_isl, z_revl, isNon, atI_0, atI_1, atI_2, atI_3, ixN_1, ixN_2, ixN_3, List.map_cons, List.map_nil, List.length_cons, List.length_nil, List.replicate, List.cons_append, List.nil_append, List.append_nil, List.set_cons_zero, List.set_cons_succ, List.getElem?_cons_zero, List.getElem?_cons_succ, Nat.reduceAdd, Nat.reduceSub, Nat.reduceLT, Nat.reduceLeDiff, Nat.reduceEqDiff, Int.reduceNeg, Int.reduceAdd, Int.reduceSub, Int.reduceMul, Int.reducePow, Int.reduceToNat, Int.reduceLT, Int.reduceLE, Int.reduceEq, if_true, if_false, Bool.false_eq_true, decide_true, decide_false, true_and, and_true, Bool.not_true, Bool.not_false, List.set_nil, List.length_set, ne_eq, not_false_eq_true, reduceCtorEq, and_self, List.isEmpty_cons, List.isEmpty_nil, List.length_map, List.set_set, decide_eq_true_eq, n_need_field, i_need_field, eI]
  refine hI _ _ _ _ ⟨rfl, ?_⟩
  simp only [wpSs, wpS, wpE, wpEs, wpO, wpC, wpT, wpTg, wpTs, wpI, wipeU, startU, z_cell, z_slot, z_int, z_bl, z_tup, z_fn, z_lst, z_nil, z_cons, z_opt, z_optu, z_srct, z_srcl, z_bopi, z_bopt, z_bopl, z_bopm, z_add, z_sub, z_mul, z_div, z_mod, z_pow, z_auga, z_augs, z_augd, z_eqii, z_eqss, z_eqbb, z_eqtt, z_eqll, z_ceq, z_cne, z_clt, z_cle, z_cgt, z_cge, z_cin, z_cni, z_int_t, z_trn, z_trb, z_tri, z_trt, z_trl, z_ixt, z_ixl, z_slt, z_sll, z_sls, z_lent, z_lenl, z_abs, z_max, z_min, z_toi, z_tob, z_tut, z_tul, z_lit, z_lil, z_any, z_all, z_sum, z_app, z_set, z_isn, z_isb, z_isi, z_iss, z_ist, z_isl, z_revl, isNon, atI_0, atI_1, atI_2, atI_3, ixN_1, ixN_2, ixN_3, List.map_cons, List.map_nil, List.length_cons, List.length_nil, List.replicate, List.cons_append, List.nil_append, List.append_nil, List.set_cons_zero, List.set_cons_succ, List.getElem?_cons_zero, List.getElem?_cons_succ, Nat.reduceAdd, Nat.reduceSub, Nat.reduceLT, Nat.reduceLeDiff, Nat.reduceEqDiff, Int.reduceNeg, Int.reduceAdd, Int.reduceSub, Int.reduceMul, Int.reducePow, Int.reduceToNat, Int.reduceLT, Int.reduceLE, Int.reduceEq, if_true, if_false, Bool.false_eq_true, decide_true, decide_false, true_and, and_true, Bool.not_true, Bool.not_false, List.set_nil, List.length_set, ne_eq, not_false_eq_true, reduceCtorEq, and_self, List.isEmpty_cons, List.isEmpty_nil, List.length_map, List.set_set, decide_eq_true_eq]
  exact hQ
def spZero : FSpec := fun us S Q _ => us = [qd] ∧ Q (fr 0) S
theorem fr_0 : fr 0 = .tup [.int 0, .int 1] := rfl
theorem w_zero (G : Gm) : Pf G n_zero i_zero spZero := by
  rintro us S Q X ⟨rfl, hQ⟩
  have hs2 : 2 ≤ sizeLine := by decide
  rw [fr_0] at hQ
  unfold qd
  simp only [wpSs, wpS, wpE, wpEs, wpO, wpC, wpT, wpTg, wpTs, wpI, wipeU, startU, z_cell, z_slot, z_int, z_bl, z_tup, z_fn, z_lst, z_nil, z_cons, z_opt, z_optu, z_srct, z_srcl, z_bopi, z_bopt, z_bopl, z_bopm, z_add, z_sub, z_mul, z_div, z_mod, z_pow, z_auga, z_augs, z_augd, z_eqii, z_eqss, z_eqbb, z_eqtt, z_eqll, z_ceq, z_cne, z_clt, z_cle, z_cgt, z_cge, z_cin, z_cni, z_int_t, z_trn, z_trb, z_tri, z_trt, z_trl, z_ixt, z_ixl, z_slt, z_sll, z_sls, z_lent, z_lenl, z_abs, z_max, z_min, z_toi, z_tob, z_tut, z_tul, z_lit, z_lil, z_any, z_all, z_sum, z_app, z_set, z_isn, z_isb, z_isi, z_iss, z_ist, z_isl, z_revl, isNon, atI_0, atI_1, atI_2, atI_3, ixN_1, ixN_2, ixN_3, List.map_cons, List.map_nil, List.length_cons, List.length_nil, List.replicate, List.cons_append, List.nil_append, List.append_nil, List.set_cons_zero, List.set_cons_succ, List.getElem?_cons_zero, List.getElem?_cons_succ, Nat.reduceAdd, Nat.reduceSub, Nat.reduceLT, Nat.reduceLeDiff, Nat.reduceEqDiff, Int.reduceNeg, Int.reduceAdd, Int.reduceSub, Int.reduceMul, Int.reducePow, Int.reduceToNat, Int.reduceLT, Int.reduceLE, Int.reduceEq, if_true, if_false, Bool.false_eq_true, decide_true, decide_false, true_and, and_true, Bool.not_true, Bool.not_false, List.set_nil, List.length_set, ne_eq, not_false_eq_true, reduceCtorEq, and_self, List.isEmpty_cons, List.isEmpty_nil, List.length_map, List.set_set, decide_eq_true_eq, n_zero, i_zero, s_QQ]
  exact ⟨hs2, hQ⟩
theorem w_law_zero (G : Gm) : Pf G n_law_zero i_law_zero spZero := by
  rintro us S Q X ⟨rfl, hQ⟩
  have hs2 : 2 ≤ sizeLine := by decide
  rw [fr_0] at hQ
  unfold qd
  simp only [wpSs, wpS, wpE, wpEs, wpO, wpC, wpT, wpTg, wpTs, wpI, wipeU, startU, z_cell, z_slot, z_int, z_bl, z_tup, z_fn, z_lst, z_nil, z_cons, z_opt, z_optu, z_srct, z_srcl, z_bopi, z_bopt, z_bopl, z_bopm, z_add, z_sub, z_mul, z_div, z_mod, z_pow, z_auga, z_augs, z_augd, z_eqii, z_eqss, z_eqbb, z_eqtt, z_eqll, z_ceq, z_cne, z_clt, z_cle, z_cgt, z_cge, z_cin, z_cni, z_int_t, z_trn, z_trb, z_tri, z_trt, z_trl, z_ixt, z_ixl, z_slt, z_sll, z_sls, z_lent, z_lenl, z_abs, z_max, z_min, z_toi, z_tob, z_tut, z_tul, z_lit, z_lil, z_any, z_all, z_sum, z_app, z_set, z_isn, z_isb, z_isi, z_iss, z_ist, z_isl, z_revl, isNon, atI_0, atI_1, atI_2, atI_3, ixN_1, ixN_2, ixN_3, List.map_cons, List.map_nil, List.length_cons, List.length_nil, List.replicate, List.cons_append, List.nil_append, List.append_nil, List.set_cons_zero, List.set_cons_succ, List.getElem?_cons_zero, List.getElem?_cons_succ, Nat.reduceAdd, Nat.reduceSub, Nat.reduceLT, Nat.reduceLeDiff, Nat.reduceEqDiff, Int.reduceNeg, Int.reduceAdd, Int.reduceSub, Int.reduceMul, Int.reducePow, Int.reduceToNat, Int.reduceLT, Int.reduceLE, Int.reduceEq, if_true, if_false, Bool.false_eq_true, decide_true, decide_false, true_and, and_true, Bool.not_true, Bool.not_false, List.set_nil, List.length_set, ne_eq, not_false_eq_true, reduceCtorEq, and_self, List.isEmpty_cons, List.isEmpty_nil, List.length_map, List.set_set, decide_eq_true_eq, n_law_zero, i_law_zero, s_QQ]
  exact ⟨hs2, hQ⟩
theorem fr_eq (a b : Rat) : eqv (fr a) (fr b) = decide (a = b) := by
  show ((a.num == b.num) && (((a.den : Int) == b.den) && true)) = _
  by_cases h : a = b
  · subst h
    simp
  · rw [decide_eq_false h, Bool.eq_false_iff]
    intro h2
    simp at h2
    exact h (Rat.ext h2.1 (by omega))
theorem dat_fr (a : Rat) : dat 60 (fr a) = true := rfl
theorem z_eqfr {a b : Rat} {St : Sto} {kb : Bool → Prop} : eqp (fr a) (fr b) St kb = kb (decide (a = b)) := by
  rw [z_eqd (dat_fr a) (dat_fr b), fr_eq]
def SmI (b : Rat) : Prop := b ≠ 0 ∧ b.num.natAbs < 2 ^ 4400 ∧ b.den < 2 ^ 4400
theorem num_ne {b : Rat} (h : b ≠ 0) : b.num ≠ 0 := fun e => h (Rat.num_eq_zero.1 e)
def spInv : FSpec := fun us S Q _ => ∃ b : Rat, us = [qd, fr b] ∧ SmI b ∧ Q (fr b⁻¹) S
theorem small_big {x : Nat} (h : x < 2 ^ 4400) : x < 2 ^ 9000 := Nat.lt_of_lt_of_le h (Nat.pow_le_pow_right (by decide) (by decide))
theorem w_inverse (G : Gm) (hN : Has G "need_field" spNF) (hZ : Has G "zero" spZero) (hF : Has G "fraction" spFr) : Pf G n_inverse i_inverse spInv := by
  rintro us S Q X ⟨b, rfl, hb, hQ⟩
  obtain ⟨sN, eN, hN⟩ := hN
  obtain ⟨sZ, eZ, hZ⟩ := hZ
  obtain ⟨sF, eF, hF⟩ := hF
  simp only [wpSs, wpS, wpE, wpEs, wpO, wpC, wpT, wpTg, wpTs, wpI, wipeU, startU, z_cell, z_slot, z_int, z_bl, z_tup, z_fn, z_lst, z_nil, z_cons, z_opt, z_optu, z_srct, z_srcl, z_bopi, z_bopt, z_bopl, z_bopm, z_add, z_sub, z_mul, z_div, z_mod, z_pow, z_auga, z_augs, z_augd, z_eqii, z_eqss, z_eqbb, z_eqtt, z_eqll, z_ceq, z_cne, z_clt, z_cle, z_cgt, z_cge, z_cin, z_cni, z_int_t, z_trn, z_trb, z_tri, z_trt, z_trl, z_ixt, z_ixl, z_slt, z_sll, z_sls, z_lent, z_lenl, z_abs, z_max, z_min, z_toi, z_tob, z_tut, z_tul, z_lit, z_lil, z_any, z_all, z_sum, z_app, z_set, z_isn, z_isb, z_isi, z_iss, z_ist, z_isl, z_revl, isNon, atI_0, atI_1, atI_2, atI_3, ixN_1, ixN_2, ixN_3, List.map_cons, List.map_nil, List.length_cons, List.length_nil, List.replicate, List.cons_append, List.nil_append, List.append_nil, List.set_cons_zero, List.set_cons_succ, List.getElem?_cons_zero, List.getElem?_cons_succ, Nat.reduceAdd, Nat.reduceSub, Nat.reduceLT, Nat.reduceLeDiff, Nat.reduceEqDiff, Int.reduceNeg, Int.reduceAdd, Int.reduceSub, Int.reduceMul, Int.reducePow, Int.reduceToNat, Int.reduceLT, Int.reduceLE, Int.reduceEq, if_true, if_false, Bool.false_eq_true, decide_true, decide_false, true_and, and_true, Bool.not_true, Bool.not_false, List.set_nil, List.length_set, ne_eq, not_false_eq_true, reduceCtorEq, and_self, List.isEmpty_cons, List.isEmpty_nil, List.length_map, List.set_set, decide_eq_true_eq, n_inverse, i_inverse, eN, eZ, eF]
  refine hN _ _ _ _ ⟨rfl, ?_⟩
  refine hZ _ _ _ _ ⟨rfl, ?_⟩
  have hd : decide (b = 0) = false := decide_eq_false hb.1
  dsimp only
  rw [z_eqfr, hd]
  unfold fr qd
  simp only [wpSs, wpS, wpE, wpEs, wpO, wpC, wpT, wpTg, wpTs, wpI, wipeU, startU, z_cell, z_slot, z_int, z_bl, z_tup, z_fn, z_lst, z_nil, z_cons, z_opt, z_optu, z_srct, z_srcl, z_bopi, z_bopt, z_bopl, z_bopm, z_add, z_sub, z_mul, z_div, z_mod, z_pow, z_auga, z_augs, z_augd, z_eqii, z_eqss, z_eqbb, z_eqtt, z_eqll, z_ceq, z_cne, z_clt, z_cle, z_cgt, z_cge, z_cin, z_cni, z_int_t, z_trn, z_trb, z_tri, z_trt, z_trl, z_ixt, z_ixl, z_slt, z_sll, z_sls, z_lent, z_lenl, z_abs, z_max, z_min, z_toi, z_tob, z_tut, z_tul, z_lit, z_lil, z_any, z_all, z_sum, z_app, z_set, z_isn, z_isb, z_isi, z_iss, z_ist, z_isl, z_revl, isNon, atI_0, atI_1, atI_2, atI_3, ixN_1, ixN_2, ixN_3, List.map_cons, List.map_nil, List.length_cons, List.length_nil, List.replicate, List.cons_append, List.nil_append, List.append_nil, List.set_cons_zero, List.set_cons_succ, List.getElem?_cons_zero, List.getElem?_cons_succ, Nat.reduceAdd, Nat.reduceSub, Nat.reduceLT, Nat.reduceLeDiff, Nat.reduceEqDiff, Int.reduceNeg, Int.reduceAdd, Int.reduceSub, Int.reduceMul, Int.reducePow, Int.reduceToNat, Int.reduceLT, Int.reduceLE, Int.reduceEq, if_true, if_false, Bool.false_eq_true, decide_true, decide_false, true_and, and_true, Bool.not_true, Bool.not_false, List.set_nil, List.length_set, ne_eq, not_false_eq_true, reduceCtorEq, and_self, List.isEmpty_cons, List.isEmpty_nil, List.length_map, List.set_set, decide_eq_true_eq, s_QQ]
  refine hF _ _ _ _ ⟨_, _, rfl, num_ne hb.1, small_big hb.2.1, ?_⟩
  rw [← Rat.inv_def]
  exact hQ
theorem w_law_inverse (G : Gm) (hF : Has G "_law_fraction" spFr) : Pf G n_law_inverse i_law_inverse spInv := by
  rintro us S Q X ⟨b, rfl, hb, hQ⟩
  obtain ⟨sF, eF, hF⟩ := hF
  unfold fr qd
  simp only [wpSs, wpS, wpE, wpEs, wpO, wpC, wpT, wpTg, wpTs, wpI, wipeU, startU, z_cell, z_slot, z_int, z_bl, z_tup, z_fn, z_lst, z_nil, z_cons, z_opt, z_optu, z_srct, z_srcl, z_bopi, z_bopt, z_bopl, z_bopm, z_add, z_sub, z_mul, z_div, z_mod, z_pow, z_auga, z_augs, z_augd, z_eqii, z_eqss, z_eqbb, z_eqtt, z_eqll, z_ceq, z_cne, z_clt, z_cle, z_cgt, z_cge, z_cin, z_cni, z_int_t, z_trn, z_trb, z_tri, z_trt, z_trl, z_ixt, z_ixl, z_slt, z_sll, z_sls, z_lent, z_lenl, z_abs, z_max, z_min, z_toi, z_tob, z_tut, z_tul, z_lit, z_lil, z_any, z_all, z_sum, z_app, z_set, z_isn, z_isb, z_isi, z_iss, z_ist, z_isl, z_revl, isNon, atI_0, atI_1, atI_2, atI_3, ixN_1, ixN_2, ixN_3, List.map_cons, List.map_nil, List.length_cons, List.length_nil, List.replicate, List.cons_append, List.nil_append, List.append_nil, List.set_cons_zero, List.set_cons_succ, List.getElem?_cons_zero, List.getElem?_cons_succ, Nat.reduceAdd, Nat.reduceSub, Nat.reduceLT, Nat.reduceLeDiff, Nat.reduceEqDiff, Int.reduceNeg, Int.reduceAdd, Int.reduceSub, Int.reduceMul, Int.reducePow, Int.reduceToNat, Int.reduceLT, Int.reduceLE, Int.reduceEq, if_true, if_false, Bool.false_eq_true, decide_true, decide_false, true_and, and_true, Bool.not_true, Bool.not_false, List.set_nil, List.length_set, ne_eq, not_false_eq_true, reduceCtorEq, and_self, List.isEmpty_cons, List.isEmpty_nil, List.length_map, List.set_set, decide_eq_true_eq, n_law_inverse, i_law_inverse, eF, s_QQ]
  refine hF _ _ _ _ ⟨_, _, rfl, num_ne hb.1, small_big hb.2.1, ?_⟩
  rw [← Rat.inv_def]
  exact hQ
theorem SmI.inv {b : Rat} (h : SmI b) : Sm b⁻¹ := by
  have hn := num_ne h.1
  have e1 : b⁻¹.num.natAbs ≤ b.den := by
    rw [Rat.inv_def, Rat.num_divInt]
    rw [Int.natAbs_ediv_of_dvd ?_]
    · refine Nat.le_trans (Nat.div_le_self _ _) ?_
      rw [Int.natAbs_mul, Int.natAbs_sign_of_ne_zero hn, Nat.one_mul, Int.natAbs_natCast]
      exact Nat.le_refl _
    · exact Int.dvd_mul_of_dvd_right (Int.gcd_dvd_right ..)
  have e2 : b⁻¹.den ≤ b.num.natAbs := by
    rw [Rat.inv_def, Rat.den_divInt, if_neg hn]
    exact Nat.div_le_self _ _
  exact ⟨Nat.lt_of_le_of_lt e1 (Nat.lt_of_lt_of_le h.2.2 (Nat.pow_le_pow_right (by decide) (by decide))), Nat.lt_of_le_of_lt e2 h.2.1⟩
def spQuot : FSpec := fun us S Q _ => ∃ a b : Rat, us = [qd, fr a, fr b] ∧ Sm a ∧ SmI b ∧ Q (fr (a / b)) S
theorem w_quotient (G : Gm) (hM : Has G "multiply" (spOp2 (· * ·))) (hI : Has G "inverse" spInv) : Pf G n_quotient i_quotient spQuot := by
  rintro us S Q X ⟨a, b, rfl, ha, hb, hQ⟩
  obtain ⟨sM, eM, hM⟩ := hM
  obtain ⟨sI, eI, hI⟩ := hI
  simp only [wpSs, wpS, wpE, wpEs, wpO, wpC, wpT, wpTg, wpTs, wpI, wipeU, startU, z_cell, z_slot, z_int, z_bl, z_tup, z_fn, z_lst, z_nil, z_cons, z_opt, z_optu, z_srct, z_srcl, z_bopi, z_bopt, z_bopl, z_bopm, z_add, z_sub, z_mul, z_div, z_mod, z_pow, z_auga, z_augs, z_augd, z_eqii, z_eqss, z_eqbb, z_eqtt, z_eqll, z_ceq, z_cne, z_clt, z_cle, z_cgt, z_cge, z_cin, z_cni, z_int_t, z_trn, z_trb, z_tri, z_trt, z_trl, z_ixt, z_ixl, z_slt, z_sll, z_sls, z_lent, z_lenl, z_abs, z_max, z_min, z_toi, z_tob, z_tut, z_tul, z_lit, z_lil, z_any, z_all, z_sum, z_app, z_set, z_isn, z_isb, z_isi, z_iss, z_ist, z_isl, z_revl, isNon, atI_0, atI_1, atI_2, atI_3, ixN_1, ixN_2, ixN_3, List.map_cons, List.map_nil, List.length_cons, List.length_nil, List.replicate, List.cons_append, List.nil_append, List.append_nil, List.set_cons_zero, List.set_cons_succ, List.getElem?_cons_zero, List.getElem?_cons_succ, Nat.reduceAdd, Nat.reduceSub, Nat.reduceLT, Nat.reduceLeDiff, Nat.reduceEqDiff, Int.reduceNeg, Int.reduceAdd, Int.reduceSub, Int.reduceMul, Int.reducePow, Int.reduceToNat, Int.reduceLT, Int.reduceLE, Int.reduceEq, if_true, if_false, Bool.false_eq_true, decide_true, decide_false, true_and, and_true, Bool.not_true, Bool.not_false, List.set_nil, List.length_set, ne_eq, not_false_eq_true, reduceCtorEq, and_self, List.isEmpty_cons, List.isEmpty_nil, List.length_map, List.set_set, decide_eq_true_eq, n_quotient, i_quotient, eM, eI]
  refine hI _ _ _ _ ⟨b, rfl, hb, hM _ _ _ _ ⟨a, b⁻¹, rfl, ha, hb.inv, ?_⟩⟩
  show Q (fr (a * b⁻¹)) S
  rw [← Rat.div_def]
  exact hQ
end K70

set_option Elab.async false
set_option linter.all false
set_option maxRecDepth 100000
set_option maxHeartbeats 2000000
/-! K70M: plain laws: sums, rows that depend, the projection. -/
namespace GSM
def sum : Nat → (Nat → Rat) → Rat
  | 0, _ => 0
  | n + 1, f => sum n f + f n
theorem sum_congr {n : Nat} {f g : Nat → Rat} (h : ∀ i, i < n → f i = g i) : sum n f = sum n g := by
  induction n with
  | zero => rfl
  | succ n ih => rw [sum, sum, ih fun i hi => h i (by omega), h n (by omega)]
theorem sum_zero {n : Nat} {f : Nat → Rat} (h : ∀ i, i < n → f i = 0) : sum n f = 0 := by
  induction n with
  | zero => rfl
  | succ n ih => rw [sum, ih fun i hi => h i (by omega), h n (by omega)]; grind
theorem sum_add (n : Nat) (f g : Nat → Rat) : sum n (fun i => f i + g i) = sum n f + sum n g := by
  induction n with
  | zero => simp only [sum]; grind
  | succ n ih => simp only [sum]; rw [ih]; grind
theorem sum_sub (n : Nat) (f g : Nat → Rat) : sum n (fun i => f i - g i) = sum n f - sum n g := by
  induction n with
  | zero => simp only [sum]; grind
  | succ n ih => simp only [sum]; rw [ih]; grind
theorem sum_mul (n : Nat) (c : Rat) (f : Nat → Rat) : sum n (fun i => c * f i) = c * sum n f := by
  induction n with
  | zero => simp only [sum]; grind
  | succ n ih => simp only [sum]; rw [ih]; grind
theorem sum_swap (n m : Nat) (f : Nat → Nat → Rat) : sum n (fun j => sum m (fun k => f k j)) = sum m (fun k => sum n (fun j => f k j)) := by
  induction n with
  | zero => simp only [sum]; exact (sum_zero fun _ _ => rfl).symm
  | succ n ih => simp only [sum]; rw [ih, ← sum_add]
theorem sum_one {n k : Nat} {f : Nat → Rat} (hk : k < n) (h : ∀ i, i < n → i ≠ k → f i = 0) : sum n f = f k := by
  induction n with
  | zero => omega
  | succ n ih =>
    rw [sum]
    by_cases e : k = n
    · subst e
      rw [sum_zero fun i hi => h i (by omega) (by omega)]; grind
    · rw [ih (by omega) fun i hi => h i (by omega), h n (by omega) (fun z => e z.symm)]; grind
theorem sum_nn {n : Nat} {f : Nat → Rat} (h : ∀ i, i < n → 0 ≤ f i) : 0 ≤ sum n f := by
  induction n with
  | zero => exact Rat.le_refl
  | succ n ih =>
    have h1 := ih fun i hi => h i (by omega)
    have h2 := h n (by omega)
    rw [sum]; grind
theorem sum_le {n : Nat} {f g : Nat → Rat} (h : ∀ i, i < n → f i ≤ g i) : sum n f ≤ sum n g := by
  induction n with
  | zero => exact Rat.le_refl
  | succ n ih =>
    have h1 := ih fun i hi => h i (by omega)
    have h2 := h n (by omega)
    rw [sum, sum]; grind
theorem sq_nn (x : Rat) : 0 ≤ x * x := by
  by_cases h : 0 ≤ x
  · exact Rat.mul_nonneg h h
  · have : 0 ≤ -x := by grind
    have := Rat.mul_nonneg this this
    grind
theorem sum_sq0 {n : Nat} {f : Nat → Rat} (h : sum n (fun i => f i * f i) = 0) : ∀ i, i < n → f i = 0 := by
  induction n with
  | zero => intro i hi; omega
  | succ n ih =>
    rw [sum] at h
    have h1 : 0 ≤ sum n (fun i => f i * f i) := sum_nn fun i _ => sq_nn _
    have h2 := sq_nn (f n)
    have h3 : f n * f n = 0 := by grind
    have h4 : sum n (fun i => f i * f i) = 0 := by grind
    have h5 : f n = 0 := by grind
    intro i hi
    by_cases e : i = n
    · subst e; exact h5
    · exact ih h4 i (by omega)
def dot (n : Nat) (u v : Nat → Rat) : Rat := sum n fun j => u j * v j
theorem dot_comm (n : Nat) (u v : Nat → Rat) : dot n u v = dot n v u := sum_congr fun j _ => by grind
/-- the rows depend -/
def Dep (m n : Nat) (R : Nat → Nat → Rat) : Prop := ∃ c : Nat → Rat, (∃ i, i < m ∧ c i ≠ 0) ∧ ∀ j, j < n → sum m (fun i => c i * R i j) = 0
/-! ### the projection -/
def coef (n : Nat) (r v : Nat → Rat) : Rat := if dot n v v = 0 then 0 else dot n r v / dot n v v
def part (n : Nat) (r : Nat → Rat) : List (Nat → Rat) → (Nat → Rat)
  | [] => r
  | v :: vs => fun j => part n r vs j - coef n r v * v j
def ownL (n : Nat) (b : Nat → Nat → Rat) : Nat → List (Nat → Rat)
  | 0 => []
  | i + 1 => part n (b i) (ownL n b i) :: ownL n b i
def own (n : Nat) (b : Nat → Nat → Rat) (i : Nat) : Nat → Rat := part n (b i) (ownL n b i)
/-- the row r less its first t projections -/
def pt (n : Nat) (b : Nat → Nat → Rat) (r : Nat → Rat) (t : Nat) : Nat → Rat := fun j => r j - sum t (fun k => coef n r (own n b k) * own n b k j)
theorem part_pt (n : Nat) (b : Nat → Nat → Rat) (r : Nat → Rat) (i j : Nat) : part n r (ownL n b i) j = pt n b r i j := by
  unfold pt
  induction i with
  | zero => simp only [ownL, part, sum]; grind
  | succ i ih =>
    simp only [ownL, part, sum]
    rw [ih]
    show _ - coef n r (own n b i) * own n b i j = _
    grind
theorem own_eq (n : Nat) (b : Nat → Nat → Rat) (i j : Nat) : own n b i j = b i j - sum i (fun k => coef n (b i) (own n b k) * own n b k j) := part_pt n b (b i) i j
theorem dot_pt (n : Nat) (b : Nat → Nat → Rat) (r u : Nat → Rat) (t : Nat) : dot n (pt n b r t) u = dot n r u - sum t (fun k => coef n r (own n b k) * dot n (own n b k) u) := by
  unfold dot pt
  have h1 : sum n (fun j => (r j - sum t (fun k => coef n r (own n b k) * own n b k j)) * u j) = sum n (fun j => r j * u j - sum t (fun k => coef n r (own n b k) * (own n b k j * u j))) := sum_congr fun j _ => by
    have : sum t (fun k => coef n r (own n b k) * (own n b k j * u j)) = sum t (fun k => coef n r (own n b k) * own n b k j) * u j := by
      rw [show sum t (fun k => coef n r (own n b k) * own n b k j) * u j = u j * sum t (fun k => coef n r (own n b k) * own n b k j) by grind, ← sum_mul]
      exact sum_congr fun k _ => by grind
    rw [this]; grind
  rw [h1, sum_sub, sum_swap]
  congr 1
  exact sum_congr fun k _ => sum_mul ..
theorem dot_zero_right {n : Nat} {r v : Nat → Rat} (h : dot n v v = 0) : dot n r v = 0 := sum_zero fun j hj => by
  rw [sum_sq0 h j hj]; grind
theorem coef_mul (n : Nat) (r v : Nat → Rat) : coef n r v * dot n v v = dot n r v := by
  unfold coef
  by_cases h : dot n v v = 0
  · rw [if_pos h, dot_zero_right (r := r) h]; grind
  · rw [if_neg h]; grind
theorem orth (n : Nat) (b : Nat → Nat → Rat) : ∀ i k, k < i → dot n (own n b i) (own n b k) = 0 := by
  intro i
  induction i using Nat.strongRecOn with
  | ind i ih =>
    intro k hk
    have e : dot n (own n b i) (own n b k) = dot n (pt n b (b i) i) (own n b k) := sum_congr fun j _ => by rw [own_eq]; rfl
    rw [e, dot_pt, sum_one hk, coef_mul]
    · grind
    · intro l hl hne
      have : dot n (own n b l) (own n b k) = 0 := by
        by_cases h : k < l
        · exact ih l hl k h
        · rw [dot_comm]; exact ih k hk l (by omega)
      rw [this]; grind
/-- after t projections the row is at right angles to the first t -/
theorem pt_orth (n : Nat) (b : Nat → Nat → Rat) (r : Nat → Rat) (t k : Nat) (hk : k < t) : dot n (pt n b r t) (own n b k) = 0 := by
  rw [dot_pt, sum_one hk, coef_mul]
  · grind
  · intro l hl hne
    have : dot n (own n b l) (own n b k) = 0 := by
      by_cases h : k < l
      · exact orth n b l k h
      · rw [dot_comm]; exact orth n b k l (by omega)
    rw [this]; grind
theorem pt_next (n : Nat) (b : Nat → Nat → Rat) (r : Nat → Rat) (t : Nat) : dot n (pt n b r t) (own n b t) = dot n r (own n b t) := by
  rw [dot_pt, sum_zero]
  · grind
  · intro l hl
    rw [dot_comm n (own n b l), orth n b t l hl]; grind
theorem pt_succ (n : Nat) (b : Nat → Nat → Rat) (r : Nat → Rat) (t j : Nat) : pt n b r (t + 1) j = pt n b r t j - coef n r (own n b t) * own n b t j := by
  unfold pt
  rw [sum]; grind
theorem pt_norm (n : Nat) (b : Nat → Nat → Rat) (r : Nat → Rat) (t : Nat) : dot n (pt n b r (t + 1)) (pt n b r (t + 1)) ≤ dot n (pt n b r t) (pt n b r t) := by
  have h1 : dot n (pt n b r (t + 1)) (pt n b r (t + 1)) = dot n (pt n b r t) (pt n b r t) - 2 * coef n r (own n b t) * dot n (pt n b r t) (own n b t) + coef n r (own n b t) * coef n r (own n b t) * dot n (own n b t) (own n b t) := by
    unfold dot
    rw [← sum_mul, ← sum_mul, ← sum_sub, ← sum_add]
    exact sum_congr fun j _ => by rw [pt_succ]; grind
  have h2 := pt_next n b r t
  have h3 := coef_mul n r (own n b t)
  have h4 : 0 ≤ dot n (own n b t) (own n b t) := sum_nn fun i _ => sq_nn _
  have h5 := Rat.mul_nonneg (sq_nn (coef n r (own n b t))) h4
  rw [h1, h2]
  generalize coef n r (own n b t) = c at *
  generalize dot n (own n b t) (own n b t) = s at *
  generalize dot n r (own n b t) = d at *
  subst h3
  grind
theorem pt_le (n : Nat) (b : Nat → Nat → Rat) (r : Nat → Rat) (t : Nat) : dot n (pt n b r t) (pt n b r t) ≤ dot n r r := by
  induction t with
  | zero => 
    have : dot n (pt n b r 0) (pt n b r 0) = dot n r r := sum_congr fun j _ => by unfold pt; rw [sum]; grind
    rw [this]; exact Rat.le_refl
  | succ t ih => exact Rat.le_trans (pt_norm n b r t) ih
/-! ### rows that depend, and the projection -/
theorem sum_trunc {k n : Nat} {f : Nat → Rat} (hk : k ≤ n) (h : ∀ i, k ≤ i → i < n → f i = 0) : sum n f = sum k f := by
  induction n with
  | zero => obtain rfl : k = 0 := by omega
            rfl
  | succ n ih =>
    by_cases e : k = n + 1
    · rw [e]
    · rw [sum, ih (by omega) fun i h1 h2 => h i h1 (by omega), h n (by omega) (by omega)]; grind
theorem own_span (n : Nat) (b : Nat → Nat → Rat) : ∀ k, ∃ c : Nat → Rat, c k = 1 ∧ (∀ i, k < i → c i = 0) ∧ ∀ j, own n b k j = sum (k + 1) fun i => c i * b i j := by
  intro k
  induction k using Nat.strongRecOn with
  | ind k ih =>
    have hc : ∃ C : Nat → Nat → Rat, ∀ l, l < k → (∀ i, l < i → C l i = 0) ∧ ∀ j, own n b l j = sum (l + 1) fun i => C l i * b i j := by
      refine ⟨fun l => if h : l < k then (ih l h).choose else fun _ => 0, fun l hl => ?_⟩
      simp only [hl, dif_pos]
      exact (ih l hl).choose_spec.2
    obtain ⟨C, hC⟩ := hc
    refine ⟨fun i => if i = k then 1 else if i < k then - sum k (fun l => coef n (b k) (own n b l) * C l i) else 0, by simp, fun i hi => ?_, fun j => ?_⟩
    · dsimp only
      rw [if_neg (by omega), if_neg (by omega)]
    · rw [own_eq, sum]
      dsimp only
      rw [if_pos rfl]
      have h1 : sum k (fun i => (if i = k then 1 else if i < k then - sum k (fun l => coef n (b k) (own n b l) * C l i) else 0) * b i j) = sum k (fun i => (-1) * sum k (fun l => coef n (b k) (own n b l) * (C l i * b i j))) := sum_congr fun i hi => by
        rw [if_neg (by omega), if_pos hi]
        have : sum k (fun l => coef n (b k) (own n b l) * (C l i * b i j)) = b i j * sum k (fun l => coef n (b k) (own n b l) * C l i) := by
          rw [← sum_mul]
          exact sum_congr fun l _ => by grind
        rw [this]; grind
      rw [h1, sum_mul, sum_swap]
      have h2 : sum k (fun l => sum k (fun i => coef n (b k) (own n b l) * (C l i * b i j))) = sum k (fun l => coef n (b k) (own n b l) * own n b l j) := sum_congr fun l hl => by
        rw [sum_mul, (hC l hl).2 j, sum_trunc (k := l + 1) (n := k) (by omega)]
        intro i h3 h4
        rw [(hC l hl).1 i (by omega)]; grind
      rw [h2]; grind
theorem dep_of_zero {m n k : Nat} {b : Nat → Nat → Rat} (hk : k < m) (h : dot n (own n b k) (own n b k) = 0) : Dep m n b := by
  obtain ⟨c, h1, h2, h3⟩ := own_span n b k
  refine ⟨c, ⟨k, hk, by rw [h1]; grind⟩, fun j hj => ?_⟩
  rw [sum_trunc (k := k + 1) (by omega), ← h3]
  · exact sum_sq0 h j hj
  · intro i h4 _
    rw [h2 i (by omega)]; grind
theorem dot_b_own {n : Nat} {b : Nat → Nat → Rat} {i k : Nat} (h : i < k) : dot n (b i) (own n b k) = 0 := by
  have h1 : dot n (own n b i) (own n b k) = dot n (pt n b (b i) i) (own n b k) := sum_congr fun j _ => by rw [own_eq]; rfl
  rw [dot_pt, dot_comm n (own n b i), orth n b k i h, sum_zero] at h1
  · grind
  · intro l hl
    rw [dot_comm n (own n b l), orth n b k l (by omega)]; grind
theorem dot_b_self (n : Nat) (b : Nat → Nat → Rat) (k : Nat) : dot n (b k) (own n b k) = dot n (own n b k) (own n b k) := by
  rw [← pt_next n b (b k) k]
  exact sum_congr fun j _ => by rw [own_eq]; rfl
theorem indep {n : Nat} {b : Nat → Nat → Rat} : ∀ m, (∀ k, k < m → dot n (own n b k) (own n b k) ≠ 0) → ∀ c : Nat → Rat, (∀ j, j < n → sum m (fun i => c i * b i j) = 0) → ∀ i, i < m → c i = 0
  | 0, _, c, _, i, hi => by omega
  | m + 1, hs, c, hc, i, hi => by
    have h1 : sum n (fun j => sum (m + 1) (fun i => c i * b i j) * own n b m j) = 0 := sum_zero fun j hj => by rw [hc j hj]; grind
    have h2 : sum n (fun j => sum (m + 1) (fun i => c i * b i j) * own n b m j) = sum (m + 1) (fun i => c i * dot n (b i) (own n b m)) := by
      have h3 : sum n (fun j => sum (m + 1) (fun i => c i * b i j) * own n b m j) = sum n (fun j => sum (m + 1) (fun i => c i * (b i j * own n b m j))) := sum_congr fun j _ => by
        rw [show sum (m + 1) (fun i => c i * b i j) * own n b m j = own n b m j * sum (m + 1) (fun i => c i * b i j) by grind, ← sum_mul]
        exact sum_congr fun i _ => by grind
      rw [h3, sum_swap]
      exact sum_congr fun i _ => sum_mul ..
    rw [h2, sum, sum_zero, dot_b_self] at h1
    · have h4 := hs m (by omega)
      have h5 : c m = 0 := by grind
      by_cases e : i = m
      · rw [e]; exact h5
      · refine indep m (fun k hk => hs k (by omega)) c (fun j hj => ?_) i (by omega)
        have := hc j hj
        rw [sum, h5] at this
        grind
    · intro i hi
      rw [dot_b_own hi]; grind
theorem dep_iff (m n : Nat) (b : Nat → Nat → Rat) : Dep m n b ↔ ∃ k, k < m ∧ dot n (own n b k) (own n b k) = 0 := by
  constructor
  · rintro ⟨c, ⟨i, hi, hci⟩, hc⟩
    apply Classical.byContradiction
    intro hn
    exact hci (indep m (fun k hk h => hn ⟨k, hk, h⟩) c hc i hi)
  · rintro ⟨k, hk, h⟩
    exact dep_of_zero hk h
/-! ### row operations -/
theorem sum_upd {n i : Nat} {f : Nat → Rat} {y : Rat} (hi : i < n) : sum n (fun r => if r = i then f r + y else f r) = sum n f + y := by
  induction n with
  | zero => omega
  | succ n ih =>
    rw [sum, sum]
    by_cases e : i = n
    · subst e
      rw [if_pos rfl, sum_congr (g := f) fun r hr => if_neg (by omega)]; grind
    · rw [ih (by omega), if_neg (fun z => e z.symm)]; grind
def addm (R : Nat → Nat → Rat) (i a : Nat) (x : Rat) : Nat → Nat → Rat := fun r j => if r = i then R i j + x * R a j else R r j
def scl (R : Nat → Nat → Rat) (a : Nat) (s : Rat) : Nat → Nat → Rat := fun r j => if r = a then s * R a j else R r j
def swp (R : Nat → Nat → Rat) (a i : Nat) : Nat → Nat → Rat := fun r => if r = a then R i else if r = i then R a else R r
theorem Dep.congr {m n : Nat} {R R' : Nat → Nat → Rat} (h : Dep m n R) (e : ∀ i j, i < m → j < n → R i j = R' i j) : Dep m n R' := by
  obtain ⟨c, hc, h⟩ := h
  exact ⟨c, hc, fun j hj => by rw [← h j hj]; exact sum_congr fun i hi => by rw [e i j hi hj]⟩
theorem dep_addm {m n i a : Nat} {R : Nat → Nat → Rat} {x : Rat} (hi : i < m) (ha : a < m) (hne : i ≠ a) (h : Dep m n (addm R i a x)) : Dep m n R := by
  obtain ⟨c, ⟨k, hk, hck⟩, h⟩ := h
  refine ⟨fun r => if r = a then c r + c i * x else c r, ?_, fun j hj => ?_⟩
  · apply Classical.byContradiction
    intro hn
    have z : ∀ r, r < m → (if r = a then c r + c i * x else c r) = 0 := fun r hr => Classical.byContradiction fun q => hn ⟨r, hr, q⟩
    have h1 := z i hi
    rw [if_neg hne] at h1
    have h2 := z a ha
    rw [if_pos rfl, h1] at h2
    have h3 := z k hk
    by_cases e : k = a
    · subst e; grind
    · rw [if_neg e] at h3; exact hck h3
  · have h1 := h j hj
    have h2 : sum m (fun r => c r * addm R i a x r j) = sum m (fun r => c r * R r j) + c i * (x * R a j) := by
      rw [← sum_upd hi]
      exact sum_congr fun r _ => by
        unfold addm
        by_cases e : r = i
        · subst e; rw [if_pos rfl, if_pos rfl]; grind
        · rw [if_neg e, if_neg e]
    have h3 : sum m (fun r => (if r = a then c r + c i * x else c r) * R r j) = sum m (fun r => c r * R r j) + c i * x * R a j := by
      rw [← sum_upd ha]
      exact sum_congr fun r _ => by
        by_cases e : r = a
        · subst e; rw [if_pos rfl, if_pos rfl]; grind
        · rw [if_neg e, if_neg e]
    rw [h3]
    rw [h2] at h1
    grind
theorem addm_iff {m n i a : Nat} {R : Nat → Nat → Rat} {x : Rat} (hi : i < m) (ha : a < m) (hne : i ≠ a) : Dep m n (addm R i a x) ↔ Dep m n R := by
  refine ⟨dep_addm hi ha hne, fun h => ?_⟩
  refine dep_addm (R := addm R i a x) (x := -x) hi ha hne (h.congr fun r j _ _ => ?_)
  unfold addm
  by_cases e : r = i
  · subst e
    rw [if_pos rfl, if_pos rfl, if_neg (fun z => hne z.symm)]; grind
  · rw [if_neg e, if_neg e]
theorem dep_scl {m n a : Nat} {R : Nat → Nat → Rat} {s : Rat} (hs : s ≠ 0) (h : Dep m n (scl R a s)) : Dep m n R := by
  obtain ⟨c, ⟨k, hk, hck⟩, h⟩ := h
  refine ⟨fun r => if r = a then c r * s else c r, ⟨k, hk, ?_⟩, fun j hj => ?_⟩
  · dsimp only
    split
    · grind
    · exact hck
  · rw [← h j hj]
    exact sum_congr fun r _ => by
      unfold scl
      dsimp only
      by_cases e : r = a
      · subst e; rw [if_pos rfl, if_pos rfl]; grind
      · rw [if_neg e, if_neg e]
theorem scl_iff {m n a : Nat} {R : Nat → Nat → Rat} {s : Rat} (hs : s ≠ 0) : Dep m n (scl R a s) ↔ Dep m n R := by
  refine ⟨dep_scl hs, fun h => ?_⟩
  refine dep_scl (R := scl R a s) (a := a) (s := s⁻¹) (by grind) (h.congr fun r j _ _ => ?_)
  unfold scl
  by_cases e : r = a
  · subst e; rw [if_pos rfl, if_pos rfl]; grind
  · rw [if_neg e, if_neg e]
theorem sum_perm {m a i : Nat} (ha : a < m) (hi : i < m) (f : Nat → Rat) : sum m (fun r => if r = a then f i else if r = i then f a else f r) = sum m f := by
  by_cases e : a = i
  · subst e
    exact sum_congr fun r _ => by split <;> simp_all
  · have h1 : sum m (fun r => if r = a then f i else if r = i then f a else f r) = sum m (fun r => if r = a then (fun r => if r = i then f r + (f a - f i) else f r) r + (f i - f a) else (fun r => if r = i then f r + (f a - f i) else f r) r) := sum_congr fun r _ => by
      dsimp only
      by_cases h : r = a
      · subst h; rw [if_pos rfl, if_pos rfl, if_neg e]; grind
      · rw [if_neg h, if_neg h]
        by_cases h2 : r = i
        · subst h2; rw [if_pos rfl, if_pos rfl]; grind
        · rw [if_neg h2, if_neg h2]
    rw [h1, sum_upd ha, sum_upd hi]; grind
theorem dep_swp {m n a i : Nat} {R : Nat → Nat → Rat} (ha : a < m) (hi : i < m) (h : Dep m n (swp R a i)) : Dep m n R := by
  obtain ⟨c, ⟨k, hk, hck⟩, h⟩ := h
  refine ⟨fun r => if r = a then c i else if r = i then c a else c r, ?_, fun j hj => ?_⟩
  · by_cases e1 : k = a
    · by_cases e2 : a = i
      · exact ⟨k, hk, by dsimp only; rw [if_pos e1, ← e2, ← e1]; exact hck⟩
      · exact ⟨i, hi, by dsimp only; rw [if_neg (fun z => e2 z.symm), if_pos rfl, ← e1]; exact hck⟩
    · by_cases e2 : k = i
      · exact ⟨a, ha, by dsimp only; rw [if_pos rfl, ← e2]; exact hck⟩
      · exact ⟨k, hk, by dsimp only; rw [if_neg e1, if_neg e2]; exact hck⟩
  · rw [← h j hj, ← sum_perm ha hi (fun r => c r * swp R a i r j)]
    exact sum_congr fun r _ => by
      unfold swp
      dsimp only
      by_cases h1 : r = a
      · subst h1
        rw [if_pos rfl, if_pos rfl]
        by_cases h2 : i = r
        · subst h2; simp
        · rw [if_neg h2, if_pos rfl]
      · rw [if_neg h1, if_neg h1]
        by_cases h2 : r = i
        · subst h2; rw [if_pos rfl, if_pos rfl, if_pos rfl]
        · rw [if_neg h2, if_neg h2, if_neg h1, if_neg h2]
theorem swp_iff {m n a i : Nat} {R : Nat → Nat → Rat} (ha : a < m) (hi : i < m) : Dep m n (swp R a i) ↔ Dep m n R := by
  refine ⟨dep_swp ha hi, fun h => dep_swp (R := swp R a i) (a := a) (i := i) ha hi (h.congr fun r j _ _ => ?_)⟩
  unfold swp
  by_cases h1 : r = a
  · subst h1
    rw [if_pos rfl]
    by_cases h2 : i = r
    · subst h2; simp
    · rw [if_neg h2, if_pos rfl]
  · rw [if_neg h1]
    by_cases h2 : r = i
    · subst h2; rw [if_pos rfl, if_pos rfl]
    · rw [if_neg h2, if_neg h1, if_neg h2]
/-- the first j columns are done: r pivots -/
structure Piv (m : Nat) (R : Nat → Nat → Rat) (j r : Nat) (p : Nat → Nat) : Prop where
  le : r ≤ m
  at_ : ∀ t, t < r → p t < j ∧ ∀ i, i < m → R i (p t) = if i = t then 1 else 0
  zero : ∀ i, r ≤ i → i < m → ∀ l, l < j → R i l = 0
theorem Piv.full {m n r : Nat} {R : Nat → Nat → Rat} {p : Nat → Nat} (h : Piv m R n r p) : Dep m n R ↔ r ≠ m := by
  constructor
  · rintro ⟨c, ⟨k, hk, hck⟩, hd⟩ rfl
    obtain ⟨h1, h2⟩ := h.at_ k hk
    have := hd (p k) h1
    rw [sum_one hk] at this
    · rw [h2 k hk, if_pos rfl] at this
      apply hck; grind
    · intro i hi hne
      rw [h2 i hi, if_neg hne]; grind
  · intro hr
    have hle := h.le
    refine ⟨fun i => if i = r then 1 else 0, ⟨r, by omega, by dsimp only; rw [if_pos rfl]; grind⟩, fun j hj => ?_⟩
    refine sum_zero fun i hi => ?_
    by_cases e : i = r
    · subst e
      rw [h.zero i (Nat.le_refl _) hi j hj]; grind
    · dsimp only; rw [if_neg e]; grind
theorem Piv.skip {m r j : Nat} {R : Nat → Nat → Rat} {p : Nat → Nat} (h : Piv m R j r p) (hz : ∀ i, r ≤ i → i < m → R i j = 0) : Piv m R (j + 1) r p :=
  ⟨h.le, fun t ht => ⟨by have := (h.at_ t ht).1; omega, (h.at_ t ht).2⟩, fun i h1 h2 l hl => by
    by_cases e : l = j
    · rw [e]; exact hz i h1 h2
    · exact h.zero i h1 h2 l (by omega)⟩
end GSM

set_option Elab.async false
set_option linter.all false
set_option maxRecDepth 100000
set_option maxHeartbeats 2000000
namespace GSM
/-! ### a pivot's step -/
def clr (R : Nat → Nat → Rat) (r j t : Nat) : Nat → Nat → Rat := fun i l => if i < t ∧ i ≠ r then R i l + (- R i j) * R r l else R i l
theorem clr_iff {m n r j : Nat} {R : Nat → Nat → Rat} (hr : r < m) : ∀ t, t ≤ m → (Dep m n (clr R r j t) ↔ Dep m n R)
  | 0, _ => by
    have : clr R r j 0 = R := by
      funext i l
      unfold clr
      rw [if_neg (by omega)]
    rw [this]
  | t + 1, ht => by
    refine Iff.trans ?_ (clr_iff (R := R) (j := j) hr t (by omega))
    by_cases e : t = r
    · have : clr R r j (t + 1) = clr R r j t := by
        funext i l
        unfold clr
        by_cases h : i < t ∧ i ≠ r
        · rw [if_pos h, if_pos ⟨by omega, h.2⟩]
        · rw [if_neg h, if_neg (by omega)]
      rw [this]
    · refine Iff.trans ?_ (addm_iff (m := m) (n := n) (R := clr R r j t) (i := t) (a := r) (x := - R t j) (by omega) hr e)
      have : clr R r j (t + 1) = addm (clr R r j t) t r (- R t j) := by
        funext i l
        unfold addm
        by_cases h : i = t
        · subst h
          rw [if_pos rfl]
          unfold clr
          rw [if_pos ⟨by omega, e⟩, if_neg (by omega), if_neg (by omega)]
        · rw [if_neg h]
          unfold clr
          by_cases h2 : i < t ∧ i ≠ r
          · rw [if_pos h2, if_pos ⟨by omega, h2.2⟩]
          · rw [if_neg h2, if_neg (by omega)]
      rw [this]
def piv (R : Nat → Nat → Rat) (r i0 j : Nat) : Nat → Nat → Rat := scl (swp R r i0) r ((swp R r i0 r j)⁻¹)
theorem swp_at (R : Nat → Nat → Rat) (r i0 : Nat) : swp R r i0 r = R i0 := by unfold swp; rw [if_pos rfl]
theorem step_iff {m n r i0 j : Nat} {R : Nat → Nat → Rat} (hr : r < m) (hi : i0 < m) (hz : R i0 j ≠ 0) : Dep m n (clr (piv R r i0 j) r j m) ↔ Dep m n R := by
  rw [clr_iff hr m (Nat.le_refl _)]
  unfold piv
  rw [scl_iff (by rw [swp_at]; grind), swp_iff hr hi]
theorem swp_low {m r i0 j l : Nat} {R : Nat → Nat → Rat} (h : ∀ i, r ≤ i → i < m → R i l = 0) (hr : r < m) (hi0 : r ≤ i0) (hi : i0 < m) (i : Nat) (h1 : r ≤ i) (h2 : i < m) : swp R r i0 i l = 0 := by
  unfold swp
  split
  · exact h i0 hi0 hi
  · split
    · exact h r (Nat.le_refl _) hr
    · exact h i h1 h2
theorem Piv.step {m r i0 j : Nat} {R : Nat → Nat → Rat} {p : Nat → Nat} (h : Piv m R j r p) (hr : r < m) (hi0 : r ≤ i0) (hi : i0 < m) (hz : R i0 j ≠ 0) : Piv m (clr (piv R r i0 j) r j m) (j + 1) (r + 1) (fun t => if t = r then j else p t) := by
  have prr : piv R r i0 j r j = 1 := by
    unfold piv scl
    rw [if_pos rfl, swp_at]; grind
  have prl : ∀ l, l < j → piv R r i0 j r l = 0 := fun l hl => by
    unfold piv scl
    rw [if_pos rfl, swp_at, h.zero i0 hi0 hi l hl]; grind
  have pil : ∀ i, r ≤ i → i < m → ∀ l, l < j → piv R r i0 j i l = 0 := fun i h1 h2 l hl => by
    by_cases e : i = r
    · rw [e]; exact prl l hl
    · unfold piv scl
      rw [if_neg e]
      exact swp_low (j := j) (fun i h1 h2 => h.zero i h1 h2 l hl) hr hi0 hi i h1 h2
  have pt : ∀ t, t < r → ∀ i, i < m → piv R r i0 j i (p t) = if i = t then 1 else 0 := fun t ht i him => by
    obtain ⟨h1, h2⟩ := h.at_ t ht
    by_cases e : i = r
    · subst e
      rw [prl _ h1, if_neg (by omega)]
    · unfold piv scl
      rw [if_neg e]
      unfold swp
      rw [if_neg e]
      by_cases e2 : i = i0
      · subst e2
        rw [if_pos rfl, h2 r hr, if_neg (by omega), if_neg (by omega)]
      · rw [if_neg e2, h2 i him]
  refine ⟨by omega, fun t ht => ?_, fun i h1 h2 l hl => ?_⟩
  · by_cases e : t = r
    · subst e
      rw [if_pos rfl]
      refine ⟨by omega, fun i him => ?_⟩
      unfold clr
      by_cases e2 : i = t
      · subst e2
        rw [if_neg (by omega), prr, if_pos rfl]
      · rw [if_pos ⟨him, e2⟩, if_neg e2, prr]; grind
    · rw [if_neg e]
      have ht2 : t < r := by omega
      refine ⟨by have := (h.at_ t ht2).1; omega, fun i him => ?_⟩
      unfold clr
      have h3 := pt t ht2 r hr
      rw [if_neg (by omega)] at h3
      split
      · rw [h3, pt t ht2 i him]; grind
      · exact pt t ht2 i him
  · unfold clr
    rw [if_pos ⟨h2, by omega⟩]
    by_cases e : l = j
    · subst e
      rw [prr]; grind
    · rw [pil i (by omega) h2 l (by omega), prl l (by omega)]; grind
/-! ### sizes in the elimination -/
/-- a numerator of at most A bits, a denominator of at most B -/
def Bt (A B : Nat) (q : Rat) : Prop := ∃ (z : Int) (d : Nat), 0 < d ∧ z.natAbs < 2 ^ A ∧ d ≤ 2 ^ B ∧ q = (z : Rat) / (d : Rat)
theorem den_dvd {z : Int} {d : Nat} (hd : 0 < d) : ((z : Rat) / (d : Rat)).den ∣ d ∧ (((z : Rat) / (d : Rat)).num.natAbs ≤ z.natAbs) := by
  have e : ((z : Rat) / (d : Rat)) = Rat.divInt z (d : Int) := by
    rw [Rat.divInt_eq_div]; rfl
  rw [e, Rat.den_divInt, if_neg (by omega), Rat.num_divInt]
  constructor
  · rw [Int.natAbs_natCast]
    refine Nat.div_dvd_of_dvd ?_
    have := Int.gcd_dvd_left (d : Int) z
    omega
  · rw [Int.sign_eq_one_of_pos (by omega), Int.one_mul, Int.natAbs_ediv_of_dvd (Int.gcd_dvd_right ..)]
    exact Nat.div_le_self _ _
theorem Bt.num {A B : Nat} {q : Rat} (h : Bt A B q) : q.num.natAbs < 2 ^ A ∧ q.den ≤ 2 ^ B := by
  obtain ⟨z, d, hd, hz, hb, rfl⟩ := h
  obtain ⟨h1, h2⟩ := den_dvd (z := z) hd
  exact ⟨Nat.lt_of_le_of_lt h2 hz, Nat.le_trans (Nat.le_of_dvd hd h1) hb⟩
theorem Bt.mono {A B A' B' : Nat} {q : Rat} (h : Bt A B q) (ha : A ≤ A') (hb : B ≤ B') : Bt A' B' q := by
  obtain ⟨z, d, hd, hz, hb2, rfl⟩ := h
  exact ⟨z, d, hd, Nat.lt_of_lt_of_le hz (Nat.pow_le_pow_right (by decide) ha), Nat.le_trans hb2 (Nat.pow_le_pow_right (by decide) hb), rfl⟩
theorem natpos {d : Nat} (h : 0 < d) : (d : Rat) ≠ 0 := by
  intro e
  have : (d : Rat) = ((0 : Nat) : Rat) := e
  have := Rat.natCast_inj.1 this
  omega
theorem mul_lt2 {x y i j : Nat} (hx : x < 2 ^ i) (hy : y < 2 ^ j) : x * y < 2 ^ (i + j) := by
  rw [Nat.pow_add]
  exact Nat.mul_lt_mul'' hx hy
theorem mul_lt3 {x y i j : Nat} (hx : x < 2 ^ i) (hy : y ≤ 2 ^ j) : x * y < 2 ^ (i + j) := by
  rw [Nat.pow_add]
  have : 0 < 2 ^ j := Nat.pow_pos (by decide)
  calc x * y ≤ x * 2 ^ j := Nat.mul_le_mul_left _ hy
    _ < 2 ^ i * 2 ^ j := Nat.mul_lt_mul_of_pos_right hx this
theorem Bt.mul {A B A' B' : Nat} {x y : Rat} (hx : Bt A B x) (hy : Bt A' B' y) : Bt (A + A') (B + B') (x * y) := by
  obtain ⟨z, d, hd, hz, hb, rfl⟩ := hx
  obtain ⟨z', d', hd', hz', hb', rfl⟩ := hy
  refine ⟨z * z', d * d', Nat.mul_pos hd hd', by rw [Int.natAbs_mul]; exact mul_lt2 hz hz', by rw [Nat.pow_add]; exact Nat.mul_le_mul hb hb', ?_⟩
  have h1 := natpos hd
  have h2 := natpos hd'
  rw [Rat.intCast_mul, Rat.natCast_mul]
  grind
theorem Bt.neg {A B : Nat} {x : Rat} (hx : Bt A B x) : Bt A B (-x) := by
  obtain ⟨z, d, hd, hz, hb, rfl⟩ := hx
  refine ⟨-z, d, hd, by omega, hb, ?_⟩
  have h1 := natpos hd
  rw [Rat.intCast_neg]
  grind
theorem Bt.add {A B A' B' C : Nat} {x y : Rat} (hx : Bt A B x) (hy : Bt A' B' y) (h1 : A + B' ≤ C) (h2 : A' + B ≤ C) : Bt (C + 1) (B + B') (x + y) := by
  obtain ⟨z, d, hd, hz, hb, rfl⟩ := hx
  obtain ⟨z', d', hd', hz', hb', rfl⟩ := hy
  refine ⟨z * d' + z' * d, d * d', Nat.mul_pos hd hd', ?_, by rw [Nat.pow_add]; exact Nat.mul_le_mul hb hb', ?_⟩
  · have e1 : (z * d').natAbs < 2 ^ C := by
      rw [Int.natAbs_mul, Int.natAbs_natCast]
      exact Nat.lt_of_lt_of_le (mul_lt3 hz hb') (Nat.pow_le_pow_right (by decide) h1)
    have e2 : (z' * d).natAbs < 2 ^ C := by
      rw [Int.natAbs_mul, Int.natAbs_natCast]
      exact Nat.lt_of_lt_of_le (mul_lt3 hz' hb) (Nat.pow_le_pow_right (by decide) h2)
    rw [Nat.pow_succ]
    omega
  · have h1 := natpos hd
    have h2 := natpos hd'
    rw [Rat.intCast_add, Rat.intCast_mul, Rat.intCast_mul, Rat.natCast_mul]
    have e3 : ((d' : Int) : Rat) = (d' : Rat) := rfl
    have e4 : ((d : Int) : Rat) = (d : Rat) := rfl
    rw [e3, e4]
    grind
theorem Bt.inv {A B : Nat} {x : Rat} (hx : Bt A B x) (h0 : x ≠ 0) : Bt (B + 1) A x⁻¹ := by
  obtain ⟨z, d, hd, hz, hb, rfl⟩ := hx
  have h1 := natpos hd
  have hz0 : z ≠ 0 := by
    intro e
    apply h0
    rw [e]
    grind
  have hp : 0 < 2 ^ B := Nat.pow_pos (by decide)
  have hpow : 2 ^ (B + 1) = 2 ^ B * 2 := Nat.pow_succ ..
  by_cases hs : 0 < z
  · obtain ⟨w, rfl⟩ := Int.eq_ofNat_of_zero_le (show 0 ≤ z by omega)
    have hw : 0 < w := by omega
    have h2 := natpos hw
    refine ⟨d, w, hw, by rw [Int.natAbs_natCast]; omega, by rw [Int.natAbs_natCast] at hz; omega, ?_⟩
    have e3 : ((d : Int) : Rat) = (d : Rat) := rfl
    have e4 : ((w : Int) : Rat) = (w : Rat) := rfl
    rw [e3, e4]
    grind
  · obtain ⟨w, hw⟩ := Int.eq_ofNat_of_zero_le (show 0 ≤ -z by omega)
    obtain rfl : z = -(w : Int) := by omega
    have hw : 0 < w := by omega
    have h2 := natpos hw
    refine ⟨-(d : Int), w, hw, by rw [Int.natAbs_neg, Int.natAbs_natCast]; omega, by rw [Int.natAbs_neg, Int.natAbs_natCast] at hz; omega, ?_⟩
    have e3 : ((d : Int) : Rat) = (d : Rat) := rfl
    have e4 : ((w : Int) : Rat) = (w : Rat) := rfl
    rw [Rat.intCast_neg, Rat.intCast_neg, e3, e4]
    grind
/-! ### denominators of the projection -/
def IsZ (q : Rat) : Prop := ∃ z : Int, q = z
theorem IsZ.add {x y : Rat} (hx : IsZ x) (hy : IsZ y) : IsZ (x + y) := by
  obtain ⟨a, rfl⟩ := hx
  obtain ⟨b, rfl⟩ := hy
  exact ⟨a + b, by rw [Rat.intCast_add]⟩
theorem IsZ.sub {x y : Rat} (hx : IsZ x) (hy : IsZ y) : IsZ (x - y) := by
  obtain ⟨a, rfl⟩ := hx
  obtain ⟨b, rfl⟩ := hy
  exact ⟨a - b, by rw [Rat.intCast_sub]⟩
theorem IsZ.mul {x y : Rat} (hx : IsZ x) (hy : IsZ y) : IsZ (x * y) := by
  obtain ⟨a, rfl⟩ := hx
  obtain ⟨b, rfl⟩ := hy
  exact ⟨a * b, by rw [Rat.intCast_mul]⟩
theorem IsZ.nat (n : Nat) : IsZ (n : Rat) := ⟨n, rfl⟩
theorem IsZ.zero : IsZ 0 := ⟨0, rfl⟩
theorem IsZ.sum {n : Nat} {f : Nat → Rat} (h : ∀ i, i < n → IsZ (f i)) : IsZ (sum n f) := by
  induction n with
  | zero => exact IsZ.zero
  | succ n ih => exact (ih fun i hi => h i (by omega)).add (h n (by omega))
section
variable (n : Nat) (b : Nat → Nat → Rat)
def sqs (k : Nat) : Rat := dot n (own n b k) (own n b k)
def Dn : Nat → Nat
  | 0 => 1
  | k + 1 => Dn k * (if sqs n b k = 0 then 1 else (sqs n b k * Dn k * Dn k).num.natAbs)
def Sn (k : Nat) : Nat := if sqs n b k = 0 then 1 else (sqs n b k * Dn n b k * Dn n b k).num.natAbs
theorem Dn_succ (k : Nat) : Dn n b (k + 1) = Dn n b k * Sn n b k := rfl
theorem Sn_dvd {l k : Nat} (h : l < k) : Sn n b l ∣ Dn n b k := by
  induction k with
  | zero => omega
  | succ k ih =>
    rw [Dn_succ]
    by_cases e : l = k
    · rw [e]; exact Nat.dvd_mul_left ..
    · exact Nat.dvd_mul_right_of_dvd (ih (by omega)) _
end
end GSM

set_option Elab.async false
set_option linter.all false
set_option maxRecDepth 100000
set_option maxHeartbeats 2000000
namespace GSM
section
variable {n : Nat} {b : Nat → Nat → Rat}
theorem coef_s (r : Nat → Rat) (k : Nat) : coef n r (own n b k) = if sqs n b k = 0 then 0 else dot n r (own n b k) / sqs n b k := rfl
theorem sqs_nn (k : Nat) : 0 ≤ sqs n b k := sum_nn fun i _ => sq_nn _
theorem dot_scale (u v : Nat → Rat) (x y : Rat) : dot n u v * x * y = dot n (fun j => u j * x) (fun j => v j * y) := by
  unfold dot
  rw [show sum n (fun j => u j * v j) * x * y = (x * y) * sum n (fun j => u j * v j) by grind, ← sum_mul]
  exact sum_congr fun j _ => by grind
theorem sq_int {k : Nat} {D : Rat} (h : ∀ j, IsZ (own n b k j * D)) : IsZ (sqs n b k * D * D) := by
  unfold sqs
  rw [dot_scale]
  exact IsZ.sum fun j _ => (h j).mul (h j)
theorem sn_eq {k : Nat} (h : ∀ j, IsZ (own n b k j * Dn n b k)) (hs : sqs n b k ≠ 0) (hD : 0 < Dn n b k) : ((Sn n b k : Nat) : Rat) = sqs n b k * Dn n b k * Dn n b k ∧ 0 < Sn n b k := by
  obtain ⟨z, hz⟩ := sq_int h
  have h0 := natpos hD
  have h1 : sqs n b k * Dn n b k * Dn n b k ≠ 0 := by grind
  have h2 : 0 ≤ sqs n b k * Dn n b k * Dn n b k := by
    have := Rat.mul_nonneg (sqs_nn (n := n) (b := b) k) (sq_nn (Dn n b k : Rat))
    grind
  have hS : Sn n b k = z.natAbs := by
    unfold Sn
    rw [if_neg hs, hz, Rat.num_intCast]
  have hz0 : 0 < z := by
    rw [hz] at h1 h2
    have h3 : (0 : Int) ≤ z := by
      have : ((0 : Int) : Rat) ≤ (z : Rat) := h2
      exact Rat.intCast_le_intCast.1 this
    have h4 : z ≠ 0 := by
      intro e
      apply h1
      rw [e]; rfl
    omega
  rw [hS, hz]
  constructor
  · have : ((z.natAbs : Int) : Rat) = (z : Rat) := by rw [show (z.natAbs : Int) = z by omega]
    exact this
  · omega
theorem sn_pos {k : Nat} (h : ∀ j, IsZ (own n b k j * Dn n b k)) (hD : 0 < Dn n b k) : 0 < Sn n b k := by
  by_cases hs : sqs n b k = 0
  · unfold Sn; rw [if_pos hs]; omega
  · exact (sn_eq h hs hD).2
/-- a row of whole numbers times a vector of the projection -/
theorem dot_int {r : Nat → Rat} {k : Nat} (hr : ∀ j, IsZ (r j)) (h : ∀ j, IsZ (own n b k j * Dn n b k)) : IsZ (dot n r (own n b k) * Dn n b k) := by
  have e : dot n r (own n b k) * Dn n b k = sum n (fun j => r j * (own n b k j * Dn n b k)) := by
    unfold dot
    rw [show sum n (fun j => r j * own n b k j) * (Dn n b k : Rat) = (Dn n b k : Rat) * sum n (fun j => r j * own n b k j) by grind, ← sum_mul]
    exact sum_congr fun j _ => by grind
  rw [e]
  exact IsZ.sum fun j _ => (hr j).mul (h j)
theorem coef_int {r : Nat → Rat} {k : Nat} (hr : ∀ j, IsZ (r j)) (h : ∀ j, IsZ (own n b k j * Dn n b k)) (hD : 0 < Dn n b k) : IsZ (coef n r (own n b k) * Sn n b k) := by
  by_cases hs : sqs n b k = 0
  · rw [coef_s, if_pos hs]
    exact ⟨0, by grind⟩
  · obtain ⟨e, _⟩ := sn_eq h hs hD
    have h1 := natpos hD
    rw [e]
    rw [coef_s, if_neg hs]
    have : dot n r (own n b k) / sqs n b k * (sqs n b k * Dn n b k * Dn n b k) = dot n r (own n b k) * Dn n b k * Dn n b k := by
      grind
    rw [this]
    exact (dot_int hr h).mul (IsZ.nat _)
theorem term_int {r : Nat → Rat} {k : Nat} (hr : ∀ j, IsZ (r j)) (h : ∀ j, IsZ (own n b k j * Dn n b k)) (hD : 0 < Dn n b k) (j : Nat) : IsZ (coef n r (own n b k) * own n b k j * Sn n b k) := by
  by_cases hs : sqs n b k = 0
  · rw [coef_s, if_pos hs]
    exact ⟨0, by grind⟩
  · obtain ⟨e, _⟩ := sn_eq h hs hD
    have h1 := natpos hD
    rw [e]
    rw [coef_s, if_neg hs]
    have : dot n r (own n b k) / sqs n b k * own n b k j * (sqs n b k * Dn n b k * Dn n b k) = (dot n r (own n b k) * Dn n b k) * (own n b k j * Dn n b k) := by
      grind
    rw [this]
    exact (dot_int hr h).mul (h j)
theorem IsZ.dvd {q : Rat} {s d : Nat} (h : IsZ (q * s)) (hd : s ∣ d) : IsZ (q * d) := by
  obtain ⟨m, rfl⟩ := hd
  rw [Rat.natCast_mul, show q * ((s : Rat) * (m : Rat)) = q * s * m by grind]
  exact h.mul (IsZ.nat _)
theorem own_int (hb : ∀ i j, IsZ (b i j)) : ∀ k, 0 < Dn n b k ∧ ∀ j, IsZ (own n b k j * Dn n b k) := by
  intro k
  induction k using Nat.strongRecOn with
  | ind k ih =>
    have hD : 0 < Dn n b k := by
      cases k with
      | zero => exact Nat.one_pos
      | succ k =>
        obtain ⟨h1, h2⟩ := ih k (by omega)
        rw [Dn_succ]
        exact Nat.mul_pos h1 (sn_pos h2 h1)
    refine ⟨hD, fun j => ?_⟩
    rw [own_eq]
    have e : (b k j - sum k (fun l => coef n (b k) (own n b l) * own n b l j)) * (Dn n b k : Rat) = b k j * Dn n b k - sum k (fun l => coef n (b k) (own n b l) * own n b l j * Dn n b k) := by
      have : sum k (fun l => coef n (b k) (own n b l) * own n b l j * Dn n b k) = (Dn n b k : Rat) * sum k (fun l => coef n (b k) (own n b l) * own n b l j) := by
        rw [← sum_mul]
        exact sum_congr fun l _ => by grind
      rw [this]; grind
    rw [e]
    refine ((hb k j).mul (IsZ.nat _)).sub (IsZ.sum fun l hl => ?_)
    obtain ⟨h1, h2⟩ := ih l hl
    exact (term_int (hb k) h2 h1 j).dvd (Sn_dvd n b hl)
/-- the row r less t projections, all denominators -/
theorem pt_int (hb : ∀ i j, IsZ (b i j)) {r : Nat → Rat} (hr : ∀ j, IsZ (r j)) (t j : Nat) : IsZ (pt n b r t j * Dn n b t) := by
  unfold pt
  have e : (r j - sum t (fun l => coef n r (own n b l) * own n b l j)) * (Dn n b t : Rat) = r j * Dn n b t - sum t (fun l => coef n r (own n b l) * own n b l j * Dn n b t) := by
    have : sum t (fun l => coef n r (own n b l) * own n b l j * Dn n b t) = (Dn n b t : Rat) * sum t (fun l => coef n r (own n b l) * own n b l j) := by
      rw [← sum_mul]
      exact sum_congr fun l _ => by grind
    rw [this]; grind
  rw [e]
  refine ((hr j).mul (IsZ.nat _)).sub (IsZ.sum fun l hl => ?_)
  obtain ⟨h1, h2⟩ := own_int (n := n) hb l
  exact (term_int hr h2 h1 j).dvd (Sn_dvd n b hl)
/-! ### bounds -/
theorem abs_sq {x c : Rat} (hc : 0 ≤ c) (h : x * x ≤ c * c) : -c ≤ x ∧ x ≤ c := by
  constructor
  · apply Rat.not_lt.1
    intro h1
    have h2 : 0 < (-x - c) := by grind
    have h3 : 0 ≤ (-x + c) := by grind
    have h4 : 0 < -x + c := by grind
    have := Rat.mul_pos h2 h4
    grind
  · apply Rat.not_lt.1
    intro h1
    have h2 : 0 < (x - c) := by grind
    have h4 : 0 < x + c := by grind
    have := Rat.mul_pos h2 h4
    grind
theorem one_le_sum {m i : Nat} {f : Nat → Rat} (hi : i < m) (h : ∀ i, i < m → 0 ≤ f i) : f i ≤ sum m f := by
  induction m with
  | zero => omega
  | succ m ih =>
    rw [sum]
    have h1 := h m (by omega)
    by_cases e : i = m
    · subst e
      have : 0 ≤ sum i f := sum_nn fun k hk => h k (by omega)
      grind
    · have := ih (by omega) fun k hk => h k (by omega)
      grind
/-- whole over d, not beyond c -/
theorem inD {q : Rat} {d c : Nat} (hd : 0 < d) (h : IsZ (q * d)) (h1 : -(c : Rat) ≤ q) (h2 : q ≤ c) : q.den ≤ d ∧ q.num.natAbs ≤ c * d := by
  obtain ⟨z, hz⟩ := h
  have h0 := natpos hd
  have e : q = (z : Rat) / (d : Rat) := by rw [← hz]; grind
  obtain ⟨h3, h4⟩ := den_dvd (z := z) hd
  rw [← e] at h3 h4
  refine ⟨Nat.le_of_dvd hd h3, Nat.le_trans h4 ?_⟩
  have hd0 : (0 : Rat) ≤ (d : Rat) := Rat.natCast_nonneg
  have h5 : (z : Rat) ≤ ((c * d : Nat) : Rat) := by
    rw [← hz, Rat.natCast_mul]
    exact Rat.mul_le_mul_of_nonneg_right h2 hd0
  have h6 : (-(c * d : Nat) : Rat) ≤ (z : Rat) := by
    rw [← hz, Rat.natCast_mul]
    have := Rat.mul_le_mul_of_nonneg_right h1 hd0
    grind
  have h7 : z ≤ ((c * d : Nat) : Int) := Rat.intCast_le_intCast.1 h5
  have h8 : -((c * d : Nat) : Int) ≤ z := by
    apply Rat.intCast_le_intCast.1
    rw [Rat.intCast_neg]
    exact h6
  omega
end
end GSM

set_option Elab.async false
set_option linter.all false
set_option maxRecDepth 100000
set_option maxHeartbeats 2000000
namespace GSM
def bits : Nat → Nat
  | 0 => 0
  | k + 1 => 3 * bits k + 14
theorem bits_mono {k l : Nat} (h : k ≤ l) : bits k ≤ bits l := by
  induction l with
  | zero => obtain rfl : k = 0 := by omega
            exact Nat.le_refl _
  | succ l ih =>
    by_cases e : k = l + 1
    · rw [e]; exact Nat.le_refl _
    · have := ih (by omega)
      rw [bits]; omega
/-- the rows are whole, none is long -/
structure Rows (m n : Nat) (b : Nat → Nat → Rat) : Prop where
  z : ∀ i j, IsZ (b i j)
  le : ∀ i, i < m → dot n (b i) (b i) ≤ ((2 ^ 14 : Nat) : Rat)
  m6 : m ≤ 6
  n7 : n ≤ 7
theorem sum_len {T n : Nat} {f : Nat → Rat} (hT : T ≤ n) (h : ∀ j, 0 ≤ f j) : sum T f ≤ sum n f := by
  induction n with
  | zero =>
    obtain rfl : T = 0 := by omega
    exact Rat.le_refl
  | succ n ih =>
    by_cases e : T = n + 1
    · rw [e]; exact Rat.le_refl
    · have h1 := ih (by omega)
      have h2 := h n
      rw [sum]; grind
def SmQ (q : Rat) : Prop := q.num.natAbs < 2 ^ 100000 ∧ q.den < 2 ^ 4400
theorem smq {q : Rat} {d c : Nat} (hd : 0 < d) (hd2 : d ≤ 2 ^ 4300) (hc : c ≤ 2 ^ 9000) (h : IsZ (q * d)) (h1 : -(c : Rat) ≤ q) (h2 : q ≤ c) : SmQ q := by
  obtain ⟨h3, h4⟩ := inD hd h h1 h2
  refine ⟨Nat.lt_of_le_of_lt h4 (Nat.lt_of_le_of_lt (Nat.mul_le_mul hc hd2) ?_), Nat.lt_of_le_of_lt (Nat.le_trans h3 hd2) (Nat.pow_lt_pow_right (by decide) (by decide))⟩
  rw [← Nat.pow_add]
  exact Nat.pow_lt_pow_right (by decide) (by decide)
theorem natCast_le_rat {a b : Nat} (h : (a : Rat) ≤ (b : Rat)) : a ≤ b := by
  have : ((a : Int) : Rat) ≤ ((b : Int) : Rat) := h
  have := Rat.intCast_le_intCast.1 this
  omega
theorem rat_le_natCast {a b : Nat} (h : a ≤ b) : (a : Rat) ≤ (b : Rat) := by
  have : ((a : Int) : Rat) ≤ ((b : Int) : Rat) := Rat.intCast_le_intCast.2 (by omega)
  exact this
section
variable {m n : Nat} {b : Nat → Nat → Rat} (H : Rows m n b)
include H
theorem Rows.sqs_le {k : Nat} (hk : k < m) : sqs n b k ≤ ((2 ^ 14 : Nat) : Rat) := by
  refine Rat.le_trans ?_ (H.le k hk)
  have : sqs n b k = dot n (pt n b (b k) k) (pt n b (b k) k) := sum_congr fun j _ => by rw [own_eq]; rfl
  rw [this]
  exact pt_le n b (b k) k
theorem Rows.D_pos (k : Nat) : 0 < Dn n b k := (own_int H.z k).1
theorem Rows.S_pos (k : Nat) : 0 < Sn n b k := sn_pos (own_int H.z k).2 (H.D_pos k)
theorem Rows.S_le {k : Nat} (hk : k < m) : Sn n b k ≤ 2 ^ 14 * (Dn n b k * Dn n b k) := by
  have hD := H.D_pos k
  by_cases hs : sqs n b k = 0
  · have h1 : Sn n b k = 1 := by unfold Sn; rw [if_pos hs]
    rw [h1]
    have := Nat.mul_pos hD hD
    omega
  · apply natCast_le_rat
    rw [(sn_eq (own_int H.z k).2 hs hD).1, Rat.natCast_mul, Rat.natCast_mul]
    have h1 := H.sqs_le hk
    have h2 : (0 : Rat) ≤ (Dn n b k : Rat) * (Dn n b k : Rat) := sq_nn _
    have := Rat.mul_le_mul_of_nonneg_right h1 h2
    grind
theorem Rows.D_le : ∀ k, k ≤ m → Dn n b k ≤ 2 ^ bits k
  | 0, _ => Nat.le_refl _
  | k + 1, hk => by
    have h1 := Rows.D_le k (by omega)
    have h2 := H.S_le (show k < m by omega)
    rw [Dn_succ, bits]
    calc Dn n b k * Sn n b k ≤ 2 ^ bits k * (2 ^ 14 * (2 ^ bits k * 2 ^ bits k)) := Nat.mul_le_mul h1 (Nat.le_trans h2 (Nat.mul_le_mul_left _ (Nat.mul_le_mul h1 h1)))
      _ = 2 ^ (3 * bits k + 14) := by
        rw [← Nat.pow_add, ← Nat.pow_add, ← Nat.pow_add]
        congr 1
        omega
theorem Rows.D5 {k : Nat} (hk : k < m) : Dn n b k ≤ 2 ^ 1694 := by
  refine Nat.le_trans (H.D_le k (by omega)) (Nat.pow_le_pow_right (by decide) ?_)
  have := H.m6
  exact Nat.le_trans (bits_mono (show k ≤ 5 by omega)) (by decide)
theorem Rows.DD {k : Nat} (hk : k < m) : Dn n b k * Dn n b k ≤ 2 ^ 3388 := by
  have := Nat.mul_le_mul (H.D5 hk) (H.D5 hk)
  rwa [← Nat.pow_add] at this
theorem Rows.S5 {k : Nat} (hk : k < m) : Sn n b k ≤ 2 ^ 3402 := by
  refine Nat.le_trans (H.S_le hk) ?_
  have := Nat.mul_le_mul_left (2 ^ 14) (H.DD hk)
  rwa [← Nat.pow_add] at this
/-- a vector not longer than a row: its entries -/
theorem entry_le {u : Nat → Rat} {j : Nat} (hj : j < n) (h : dot n u u ≤ ((2 ^ 14 : Nat) : Rat)) : -((2 ^ 7 : Nat) : Rat) ≤ u j ∧ u j ≤ ((2 ^ 7 : Nat) : Rat) := by
  refine abs_sq Rat.natCast_nonneg (Rat.le_trans (one_le_sum hj (f := fun j => u j * u j) fun i _ => sq_nn _) (Rat.le_trans h ?_))
  rw [← Rat.natCast_mul]
  exact rat_le_natCast (by decide)
omit H in
theorem mul_abs {x y : Rat} {c d : Nat} (h1 : -(c : Rat) ≤ x) (h2 : x ≤ c) (h3 : -(d : Rat) ≤ y) (h4 : y ≤ d) : -((c * d : Nat) : Rat) ≤ x * y ∧ x * y ≤ ((c * d : Nat) : Rat) := by
  rw [Rat.natCast_mul]
  have a1 := Rat.mul_nonneg (show 0 ≤ (c : Rat) - x by grind) (show 0 ≤ (d : Rat) - y by grind)
  have a2 := Rat.mul_nonneg (show 0 ≤ (c : Rat) + x by grind) (show 0 ≤ (d : Rat) + y by grind)
  have a3 := Rat.mul_nonneg (show 0 ≤ (c : Rat) - x by grind) (show 0 ≤ (d : Rat) + y by grind)
  have a4 := Rat.mul_nonneg (show 0 ≤ (c : Rat) + x by grind) (show 0 ≤ (d : Rat) - y by grind)
  constructor <;> grind
omit H in
theorem sum_abs {T c : Nat} {f : Nat → Rat} (h : ∀ j, j < T → -(c : Rat) ≤ f j ∧ f j ≤ c) : -((T * c : Nat) : Rat) ≤ sum T f ∧ sum T f ≤ ((T * c : Nat) : Rat) := by
  induction T with
  | zero =>
    have : ((0 * c : Nat) : Rat) = 0 := by rw [Nat.zero_mul]; rfl
    rw [this, sum]
    constructor <;> grind
  | succ T ih =>
    obtain ⟨h1, h2⟩ := ih fun j hj => h j (by omega)
    obtain ⟨h3, h4⟩ := h T (by omega)
    have : (((T + 1) * c : Nat) : Rat) = ((T * c : Nat) : Rat) + (c : Rat) := by rw [Nat.succ_mul, Rat.natCast_add]
    rw [this, sum]
    constructor <;> grind
theorem Rows.own_le {k j : Nat} (hk : k < m) (hj : j < n) : -((2 ^ 7 : Nat) : Rat) ≤ own n b k j ∧ own n b k j ≤ ((2 ^ 7 : Nat) : Rat) := entry_le H hj (H.sqs_le hk)
theorem Rows.pt_ent {i t j : Nat} (hi : i < m) (hj : j < n) : -((2 ^ 7 : Nat) : Rat) ≤ pt n b (b i) t j ∧ pt n b (b i) t j ≤ ((2 ^ 7 : Nat) : Rat) := entry_le H hj (Rat.le_trans (pt_le n b (b i) t) (H.le i hi))
theorem Rows.b_ent {i j : Nat} (hi : i < m) (hj : j < n) : -((2 ^ 7 : Nat) : Rat) ≤ b i j ∧ b i j ≤ ((2 ^ 7 : Nat) : Rat) := entry_le H hj (H.le i hi)
theorem Rows.D43 {k : Nat} (hk : k < m) : Dn n b k ≤ 2 ^ 4300 := Nat.le_trans (H.D5 hk) (Nat.pow_le_pow_right (by decide) (by decide))
theorem Rows.sm_own {k j : Nat} (hk : k < m) (hj : j < n) : SmQ (own n b k j) :=
  smq (H.D_pos k) (H.D43 hk) (Nat.pow_le_pow_right (by decide) (by decide)) ((own_int H.z k).2 j) (H.own_le hk hj).1 (H.own_le hk hj).2
theorem Rows.sm_pt {i t j : Nat} (hi : i < m) (ht : t < m) (hj : j < n) : SmQ (pt n b (b i) t j) :=
  smq (H.D_pos t) (H.D43 ht) (Nat.pow_le_pow_right (by decide) (by decide)) (pt_int H.z (H.z i) t j) (H.pt_ent hi hj).1 (H.pt_ent hi hj).2
theorem Rows.sm_b {i j : Nat} (hi : i < m) (hj : j < n) : SmQ (b i j) :=
  smq (d := 1) (by decide) (Nat.one_le_two_pow) (Nat.pow_le_pow_right (by decide) (by decide)) ((H.z i j).mul (IsZ.nat 1)) (H.b_ent hi hj).1 (H.b_ent hi hj).2
theorem Rows.bo_ent {i k j : Nat} (hi : i < m) (hk : k < m) (hj : j < n) : -((2 ^ 14 : Nat) : Rat) ≤ b i j * own n b k j ∧ b i j * own n b k j ≤ ((2 ^ 14 : Nat) : Rat) :=
  by
  have h := mul_abs (H.b_ent hi hj).1 (H.b_ent hi hj).2 (H.own_le hk hj).1 (H.own_le hk hj).2
  rwa [show 2 ^ 7 * 2 ^ 7 = 2 ^ 14 by decide] at h
theorem Rows.sm_bo {i k j : Nat} (hi : i < m) (hk : k < m) (hj : j < n) : SmQ (b i j * own n b k j) := by
  refine smq (H.D_pos k) (H.D43 hk) (Nat.pow_le_pow_right (by decide) (by decide)) ?_ (H.bo_ent hi hk hj).1 (H.bo_ent hi hk hj).2
  rw [show b i j * own n b k j * (Dn n b k : Rat) = b i j * (own n b k j * Dn n b k) by grind]
  exact (H.z i j).mul ((own_int H.z k).2 j)
theorem Rows.bo_sum {i k T : Nat} (hi : i < m) (hk : k < m) (hT : T ≤ n) : -((7 * 2 ^ 14 : Nat) : Rat) ≤ sum T (fun j => b i j * own n b k j) ∧ sum T (fun j => b i j * own n b k j) ≤ ((7 * 2 ^ 14 : Nat) : Rat) := by
  obtain ⟨h1, h2⟩ := sum_abs (T := T) (c := 2 ^ 14) (f := fun j => b i j * own n b k j) fun j hj => H.bo_ent hi hk (by omega)
  have h3 : ((T * 2 ^ 14 : Nat) : Rat) ≤ ((7 * 2 ^ 14 : Nat) : Rat) := rat_le_natCast (Nat.mul_le_mul_right _ (Nat.le_trans hT H.n7))
  constructor <;> grind
theorem Rows.sm_bos {i k T : Nat} (hi : i < m) (hk : k < m) (hT : T ≤ n) : SmQ (sum T fun j => b i j * own n b k j) := by
  refine smq (H.D_pos k) (H.D43 hk) (Nat.le_trans (show 7 * 2 ^ 14 ≤ 2 ^ 17 by decide) (Nat.pow_le_pow_right (by decide) (by decide))) ?_ (H.bo_sum hi hk hT).1 (H.bo_sum hi hk hT).2
  rw [show sum T (fun j => b i j * own n b k j) * (Dn n b k : Rat) = (Dn n b k : Rat) * sum T (fun j => b i j * own n b k j) by grind, ← sum_mul]
  refine IsZ.sum fun j _ => ?_
  rw [show (Dn n b k : Rat) * (b i j * own n b k j) = b i j * (own n b k j * Dn n b k) by grind]
  exact (H.z i j).mul ((own_int H.z k).2 j)
theorem Rows.oo_z {k j : Nat} : IsZ (own n b k j * own n b k j * ((Dn n b k * Dn n b k : Nat) : Rat)) := by
  rw [Rat.natCast_mul, show own n b k j * own n b k j * ((Dn n b k : Rat) * (Dn n b k : Rat)) = (own n b k j * Dn n b k) * (own n b k j * Dn n b k) by grind]
  exact ((own_int H.z k).2 j).mul ((own_int H.z k).2 j)
theorem Rows.DD43 {k : Nat} (hk : k < m) : Dn n b k * Dn n b k ≤ 2 ^ 4300 := Nat.le_trans (H.DD hk) (Nat.pow_le_pow_right (by decide) (by decide))
theorem Rows.sm_oo {k j : Nat} (hk : k < m) (hj : j < n) : SmQ (own n b k j * own n b k j) := by
  obtain ⟨h1, h2⟩ := mul_abs (H.own_le hk hj).1 (H.own_le hk hj).2 (H.own_le hk hj).1 (H.own_le hk hj).2
  exact smq (Nat.mul_pos (H.D_pos k) (H.D_pos k)) (H.DD43 hk) (Nat.le_trans (show 2 ^ 7 * 2 ^ 7 ≤ 2 ^ 14 by decide) (Nat.pow_le_pow_right (by decide) (by decide))) H.oo_z h1 h2
theorem Rows.oos {k T : Nat} (hk : k < m) (hT : T ≤ n) : 0 ≤ sum T (fun j => own n b k j * own n b k j) ∧ sum T (fun j => own n b k j * own n b k j) ≤ ((2 ^ 14 : Nat) : Rat) := by
  refine ⟨sum_nn fun _ _ => sq_nn _, Rat.le_trans ?_ (H.sqs_le hk)⟩
  exact sum_len hT fun _ => sq_nn _
theorem Rows.sm_oos {k T : Nat} (hk : k < m) (hT : T ≤ n) : SmQ (sum T fun j => own n b k j * own n b k j) := by
  obtain ⟨h1, h2⟩ := H.oos hk hT
  refine smq (c := 2 ^ 14) (Nat.mul_pos (H.D_pos k) (H.D_pos k)) (H.DD43 hk) (Nat.pow_le_pow_right (by decide) (by decide)) ?_ (by have : (0 : Rat) ≤ ((2 ^ 14 : Nat) : Rat) := Rat.natCast_nonneg; grind) h2
  rw [show sum T (fun j => own n b k j * own n b k j) * ((Dn n b k * Dn n b k : Nat) : Rat) = ((Dn n b k * Dn n b k : Nat) : Rat) * sum T (fun j => own n b k j * own n b k j) by grind, ← sum_mul]
  refine IsZ.sum fun j _ => ?_
  rw [show ((Dn n b k * Dn n b k : Nat) : Rat) * (own n b k j * own n b k j) = own n b k j * own n b k j * ((Dn n b k * Dn n b k : Nat) : Rat) by grind]
  exact H.oo_z
theorem Rows.dot_le {i k : Nat} (hi : i < m) (hk : k < m) : -((7 * 2 ^ 14 : Nat) : Rat) ≤ dot n (b i) (own n b k) ∧ dot n (b i) (own n b k) ≤ ((7 * 2 ^ 14 : Nat) : Rat) := H.bo_sum hi hk (Nat.le_refl n)
/-- the factor of a projection -/
theorem Rows.coef_le {i k : Nat} (hi : i < m) (hk : k < m) : -((7 * 2 ^ 14 * (Dn n b k * Dn n b k) : Nat) : Rat) ≤ coef n (b i) (own n b k) ∧ coef n (b i) (own n b k) ≤ ((7 * 2 ^ 14 * (Dn n b k * Dn n b k) : Nat) : Rat) := by
  obtain ⟨h1, h2⟩ := H.dot_le hi hk
  have hD := H.D_pos k
  have h0 := natpos hD
  by_cases hs : sqs n b k = 0
  · rw [coef_s, if_pos hs]
    have : (0 : Rat) ≤ ((7 * 2 ^ 14 * (Dn n b k * Dn n b k) : Nat) : Rat) := Rat.natCast_nonneg
    constructor <;> grind
  · obtain ⟨e, hS⟩ := sn_eq (own_int H.z k).2 hs hD
    have h3 : (1 : Rat) ≤ sqs n b k * Dn n b k * Dn n b k := by
      rw [← e]
      exact rat_le_natCast hS
    have hc := coef_mul n (b i) (own n b k)
    have hc2 : coef n (b i) (own n b k) * sqs n b k = dot n (b i) (own n b k) := hc
    rw [Rat.natCast_mul (7 * 2 ^ 14), Rat.natCast_mul (Dn n b k)]
    generalize coef n (b i) (own n b k) = x at *
    generalize dot n (b i) (own n b k) = d at *
    generalize sqs n b k = s at *
    generalize (Dn n b k : Rat) = D at *
    generalize ((7 * 2 ^ 14 : Nat) : Rat) = C at *
    have hDD : 0 ≤ D * D := sq_nn D
    have hC : 0 ≤ C := by grind
    have h4 : 0 ≤ (C - d) * (D * D) := Rat.mul_nonneg (by grind) hDD
    have h5 : 0 ≤ (C + d) * (D * D) := Rat.mul_nonneg (by grind) hDD
    have h6 : x * (s * D * D) = d * (D * D) := by grind
    constructor
    · by_cases hx : 0 ≤ x
      · have := Rat.mul_nonneg hC hDD
        grind
      · have := Rat.mul_nonneg (show 0 ≤ -x by grind) (show 0 ≤ s * D * D - 1 by grind)
        grind
    · by_cases hx : 0 ≤ x
      · have := Rat.mul_nonneg hx (show 0 ≤ s * D * D - 1 by grind)
        grind
      · have := Rat.mul_nonneg hC hDD
        grind
omit H in
theorem big_c {c d : Nat} (hc : c ≤ 2 ^ 30) (hd : d ≤ 2 ^ 3388) : c * d ≤ 2 ^ 9000 := by
  refine Nat.le_trans (Nat.mul_le_mul hc hd) ?_
  rw [← Nat.pow_add]
  exact Nat.pow_le_pow_right (by decide) (by decide)
theorem Rows.S43 {k : Nat} (hk : k < m) : Sn n b k ≤ 2 ^ 4300 := Nat.le_trans (H.S5 hk) (Nat.pow_le_pow_right (by decide) (by decide))
theorem Rows.sm_coef {i k : Nat} (hi : i < m) (hk : k < m) : SmQ (coef n (b i) (own n b k)) :=
  smq (H.S_pos k) (H.S43 hk) (big_c (by decide) (H.DD hk)) (coef_int (H.z i) (own_int H.z k).2 (H.D_pos k)) (H.coef_le hi hk).1 (H.coef_le hi hk).2
theorem Rows.sm_term {i k j : Nat} (hi : i < m) (hk : k < m) (hj : j < n) : SmQ (coef n (b i) (own n b k) * own n b k j) := by
  obtain ⟨h1, h2⟩ := mul_abs (H.coef_le hi hk).1 (H.coef_le hi hk).2 (H.own_le hk hj).1 (H.own_le hk hj).2
  refine smq (H.S_pos k) (H.S43 hk) ?_ (term_int (H.z i) (own_int H.z k).2 (H.D_pos k) j) h1 h2
  rw [show 7 * 2 ^ 14 * (Dn n b k * Dn n b k) * 2 ^ 7 = (7 * 2 ^ 14 * 2 ^ 7) * (Dn n b k * Dn n b k) by grind]
  exact big_c (by decide) (H.DD hk)
/-- a square may be divided by -/
theorem Rows.sq_inv {k : Nat} (hk : k < m) : (sqs n b k).num.natAbs < 2 ^ 4400 ∧ (sqs n b k).den < 2 ^ 4400 := by
  obtain ⟨h1, h2⟩ := H.oos hk (Nat.le_refl n)
  have hz : IsZ (sqs n b k * ((Dn n b k * Dn n b k : Nat) : Rat)) := by
    have := sq_int (n := n) (own_int H.z k).2
    rw [Rat.natCast_mul, show sqs n b k * ((Dn n b k : Rat) * (Dn n b k : Rat)) = sqs n b k * Dn n b k * Dn n b k by grind]
    exact this
  have h0 : (0 : Rat) ≤ ((2 ^ 14 : Nat) : Rat) := Rat.natCast_nonneg
  have h3 : sqs n b k ≤ ((2 ^ 14 : Nat) : Rat) := h2
  have h4 : 0 ≤ sqs n b k := h1
  obtain ⟨h5, h6⟩ := inD (c := 2 ^ 14) (Nat.mul_pos (H.D_pos k) (H.D_pos k)) hz (by grind) h3
  refine ⟨Nat.lt_of_le_of_lt h6 (Nat.lt_of_le_of_lt (Nat.mul_le_mul_left _ (H.DD hk)) ?_), Nat.lt_of_le_of_lt (Nat.le_trans h5 (H.DD hk)) (Nat.pow_lt_pow_right (by decide) (by decide))⟩
  rw [← Nat.pow_add]
  exact Nat.pow_lt_pow_right (by decide) (by decide)
end
end GSM

set_option Elab.async false
set_option linter.all false
set_option maxRecDepth 100000
set_option maxHeartbeats 2000000
namespace GSM
section
variable {m n : Nat} {b : Nat → Nat → Rat} (H : Rows m n b)
include H
theorem Rows.D4 {k : Nat} (hk : k + 1 < m) : Dn n b k ≤ 2 ^ 560 := by
  refine Nat.le_trans (H.D_le k (by omega)) (Nat.pow_le_pow_right (by decide) ?_)
  have := H.m6
  exact Nat.le_trans (bits_mono (show k ≤ 4 by omega)) (by decide)
theorem Rows.DD4 {k : Nat} (hk : k + 1 < m) : Dn n b k * Dn n b k ≤ 2 ^ 1120 := by
  have := Nat.mul_le_mul (H.D4 hk) (H.D4 hk)
  rwa [← Nat.pow_add] at this
theorem Rows.S4 {k : Nat} (hk : k + 1 < m) : Sn n b k ≤ 2 ^ 1134 := by
  refine Nat.le_trans (H.S_le (by omega)) ?_
  have := Nat.mul_le_mul_left (2 ^ 14) (H.DD4 hk)
  rwa [← Nat.pow_add] at this
theorem Rows.SS4 {k : Nat} (hk : k + 1 < m) : Sn n b k * Sn n b k ≤ 2 ^ 2268 := by
  have := Nat.mul_le_mul (H.S4 hk) (H.S4 hk)
  rwa [← Nat.pow_add] at this
/-- the bound of a factor -/
theorem Rows.C4 {k : Nat} (hk : k + 1 < m) : 7 * 2 ^ 14 * (Dn n b k * Dn n b k) ≤ 2 ^ 1137 := by
  refine Nat.le_trans (Nat.mul_le_mul (show 7 * 2 ^ 14 ≤ 2 ^ 17 by decide) (H.DD4 hk)) ?_
  rw [← Nat.pow_add]
  exact Nat.le_refl _
theorem Rows.cc_le {i k : Nat} (hi : i < m) (hk : k + 1 < m) : -((2 ^ 2274 : Nat) : Rat) ≤ coef n (b i) (own n b k) * coef n (b i) (own n b k) ∧ coef n (b i) (own n b k) * coef n (b i) (own n b k) ≤ ((2 ^ 2274 : Nat) : Rat) := by
  obtain ⟨h1, h2⟩ := H.coef_le hi (show k < m by omega)
  obtain ⟨h3, h4⟩ := mul_abs h1 h2 h1 h2
  have h5 : 7 * 2 ^ 14 * (Dn n b k * Dn n b k) * (7 * 2 ^ 14 * (Dn n b k * Dn n b k)) ≤ 2 ^ 2274 := by
    have := Nat.mul_le_mul (H.C4 hk) (H.C4 hk)
    rwa [← Nat.pow_add] at this
  have h6 := rat_le_natCast h5
  constructor <;> grind
theorem Rows.cc_z {i k : Nat} : IsZ (coef n (b i) (own n b k) * coef n (b i) (own n b k) * ((Sn n b k * Sn n b k : Nat) : Rat)) := by
  have h := coef_int (H.z i) (own_int H.z k).2 (H.D_pos k)
  rw [Rat.natCast_mul, show coef n (b i) (own n b k) * coef n (b i) (own n b k) * ((Sn n b k : Rat) * (Sn n b k : Rat)) = (coef n (b i) (own n b k) * Sn n b k) * (coef n (b i) (own n b k) * Sn n b k) by grind]
  exact h.mul h
theorem Rows.sm_cc {i k : Nat} (hi : i < m) (hk : k + 1 < m) : SmQ (coef n (b i) (own n b k) * coef n (b i) (own n b k)) :=
  smq (Nat.mul_pos (H.S_pos k) (H.S_pos k)) (Nat.le_trans (H.SS4 hk) (Nat.pow_le_pow_right (by decide) (by decide))) (Nat.pow_le_pow_right (by decide) (by decide)) H.cc_z (H.cc_le hi hk).1 (H.cc_le hi hk).2
/-- 3/4 less a square -/
def tq (x : Rat) : Rat := (3 : Rat) / 4 - x * x
theorem Rows.tq_z {i k : Nat} : IsZ (tq (coef n (b i) (own n b k)) * ((4 * (Sn n b k * Sn n b k) : Nat) : Rat)) := by
  obtain ⟨z, hz⟩ := H.cc_z (i := i) (k := k)
  rw [Rat.natCast_mul 4]
  have e4 : ((4 : Nat) : Rat) = 4 := rfl
  rw [e4]
  have : tq (coef n (b i) (own n b k)) * (4 * ((Sn n b k * Sn n b k : Nat) : Rat)) = 3 * ((Sn n b k * Sn n b k : Nat) : Rat) - 4 * (coef n (b i) (own n b k) * coef n (b i) (own n b k) * ((Sn n b k * Sn n b k : Nat) : Rat)) := by
    unfold tq; grind
  rw [this, hz]
  exact (IsZ.mul ⟨3, rfl⟩ (IsZ.nat _)).sub (IsZ.mul ⟨4, rfl⟩ ⟨z, rfl⟩)
theorem Rows.tq_le {i k : Nat} (hi : i < m) (hk : k + 1 < m) : -((2 ^ 2275 : Nat) : Rat) ≤ tq (coef n (b i) (own n b k)) ∧ tq (coef n (b i) (own n b k)) ≤ ((2 ^ 2275 : Nat) : Rat) := by
  obtain ⟨h1, h2⟩ := H.cc_le hi hk
  have e : ((2 ^ 2275 : Nat) : Rat) = ((2 ^ 2274 : Nat) : Rat) + ((2 ^ 2274 : Nat) : Rat) := by
    rw [← Rat.natCast_add]
    congr 1
  have h3 : (1 : Rat) ≤ ((2 ^ 2274 : Nat) : Rat) := rat_le_natCast (a := 1) Nat.one_le_two_pow
  rw [e]
  generalize ((2 ^ 2274 : Nat) : Rat) = C at *
  unfold tq
  constructor <;> grind
theorem Rows.F4 {k : Nat} (hk : k + 1 < m) : 4 * (Sn n b k * Sn n b k) ≤ 2 ^ 2270 := by
  refine Nat.le_trans (Nat.mul_le_mul_left 4 (H.SS4 hk)) ?_
  rw [show 4 = 2 ^ 2 from rfl, ← Nat.pow_add]
  exact Nat.le_refl _
theorem Rows.F_pos (k : Nat) : 0 < 4 * (Sn n b k * Sn n b k) := Nat.mul_pos (by decide) (Nat.mul_pos (H.S_pos k) (H.S_pos k))
theorem Rows.sm_tq {i k : Nat} (hi : i < m) (hk : k + 1 < m) : SmQ (tq (coef n (b i) (own n b k))) :=
  smq (H.F_pos k) (Nat.le_trans (H.F4 hk) (Nat.pow_le_pow_right (by decide) (by decide))) (Nat.pow_le_pow_right (by decide) (by decide)) H.tq_z (H.tq_le hi hk).1 (H.tq_le hi hk).2
theorem Rows.sm_sq {k : Nat} (hk : k < m) : SmQ (sqs n b k) := H.sm_oos hk (Nat.le_refl n)
theorem Rows.sm_least {i k : Nat} (hi : i < m) (hk : k + 1 < m) : SmQ (tq (coef n (b i) (own n b k)) * sqs n b k) := by
  have hkm : k < m := by omega
  obtain ⟨h1, h2⟩ := H.tq_le hi hk
  have hs1 := H.sqs_le hkm
  have hs0 : 0 ≤ sqs n b k := sqs_nn k
  have h0 : (0 : Rat) ≤ ((2 ^ 14 : Nat) : Rat) := Rat.natCast_nonneg
  obtain ⟨h3, h4⟩ := mul_abs h1 h2 (show -((2 ^ 14 : Nat) : Rat) ≤ sqs n b k by grind) hs1
  refine smq (d := 4 * (Sn n b k * Sn n b k) * (Dn n b k * Dn n b k)) (Nat.mul_pos (H.F_pos k) (Nat.mul_pos (H.D_pos k) (H.D_pos k))) ?_ ?_ ?_ h3 h4
  · refine Nat.le_trans (Nat.mul_le_mul (H.F4 hk) (H.DD4 hk)) ?_
    rw [← Nat.pow_add]
    exact Nat.pow_le_pow_right (by decide) (by decide)
  · rw [← Nat.pow_add]
    exact Nat.pow_le_pow_right (by decide) (by decide)
  · have hz := H.tq_z (i := i) (k := k)
    have hq := sq_int (n := n) (own_int H.z k).2
    rw [Rat.natCast_mul (4 * (Sn n b k * Sn n b k)), Rat.natCast_mul (Dn n b k),
      show tq (coef n (b i) (own n b k)) * sqs n b k * (((4 * (Sn n b k * Sn n b k) : Nat) : Rat) * ((Dn n b k : Rat) * (Dn n b k : Rat))) = (tq (coef n (b i) (own n b k)) * ((4 * (Sn n b k * Sn n b k) : Nat) : Rat)) * (sqs n b k * Dn n b k * Dn n b k) by grind]
    exact hz.mul hq
end
end GSM

set_option Elab.async false
set_option linter.all false
set_option maxRecDepth 100000
set_option maxHeartbeats 2000000
namespace K70
open PySem PySem.Spec L2 Q GSM
/-! ### vectors, the change of the domain -/
def vecU (n : Nat) (u : Nat → Rat) : List U := (List.range n).map fun j => fr (u j)
theorem vec_len (n : Nat) (u : Nat → Rat) : (vecU n u).length = n := by simp [vecU]
theorem vec_at {n i : Nat} {u : Nat → Rat} (h : i < n) : (vecU n u)[i]? = some (fr (u i)) := by
  unfold vecU
  rw [List.getElem?_map, List.getElem?_range h]; rfl
theorem vec_atI {n i : Nat} {u : Nat → Rat} (h : i < n) : L2.atI (vecU n u) (i : Int) = some (fr (u i)) := by
  rw [_root_.Q.atI_nat, vec_at h]
theorem vec_push (n : Nat) (u : Nat → Rat) : vecU (n + 1) u = vecU n u ++ [fr (u n)] := by
  unfold vecU
  rw [List.range_succ, List.map_append]; rfl
theorem vec_congr {n : Nat} {u v : Nat → Rat} (h : ∀ j, j < n → u j = v j) : vecU n u = vecU n v := by
  unfold vecU
  exact List.map_congr_left fun j hj => by rw [h j (List.mem_range.1 hj)]
theorem enm_drop {l us : List U} {a : U} {i : Nat} (h : a :: us = (enmL l).drop i) : i < l.length ∧ (∃ x, l[i]? = some x ∧ a = .tup [.int i, x]) ∧ us = (enmL l).drop (i + 1) := by
  have hl : (enmL l).length = l.length := by unfold enmL; simp
  have hi : i < (enmL l).length := by
    apply Nat.lt_of_not_le
    intro hh
    rw [List.drop_eq_nil_of_le hh] at h
    cases h
  rw [List.drop_eq_getElem_cons hi] at h
  injection h with h1 h2
  rw [hl] at hi
  refine ⟨hi, ?_, h2⟩
  rw [h1]
  exact _root_.Q.enm_at (List.getElem?_eq_getElem (by rw [hl]; exact hi))
theorem enm_end {l : List U} {i : Nat} (h : [] = (enmL l).drop i) (hi : i ≤ l.length) : i = l.length := by
  have hl : (enmL l).length = l.length := by unfold enmL; simp
  have := congrArg List.length h
  rw [List.length_drop, hl] at this
  simp at this
  omega
def zd : U := .tup [.str "Z"]
theorem s_ZZ : (("Z" : Str) == "Z") = true := by decide +kernel
def spIsDom : FSpec := fun us S Q _ => (us = [zd] ∨ us = [qd]) ∧ Q (.bl true) S
theorem eq_zz : eqv zd zd = true := by
  show ((("Z" : Str) == "Z") && true) = true
  decide +kernel
theorem eq_qz : eqv qd zd = false := by
  show ((("Q" : Str) == "Z") && true) = false
  decide +kernel
theorem eq_zq : eqv zd qd = false := by
  show ((("Z" : Str) == "Q") && true) = false
  decide +kernel
theorem w_is_domain (G : Gm) (hF : Has G "is_field" spIsF) : Pf G n_is_domain i_is_domain spIsDom := by
  rintro us S Q X ⟨h, hQ⟩
  obtain ⟨sF, eF, hF⟩ := hF
  have hs1 : 1 ≤ sizeLine := by decide
  have d1 : dats 59 [.str "Z"] = true := rfl
  have d2 : dats 59 [.str "Q"] = true := rfl
  have e1 : eqvs [.str "Z"] [.str "Z"] = true := eq_zz
  have e2 : eqvs [.str "Q"] [.str "Z"] = false := eq_qz
  rcases h with rfl | rfl
  · unfold zd
    simp only [wpSs, wpS, wpE, wpEs, wpO, wpC, wpT, wpTg, wpTs, wpI, wipeU, startU, z_cell, z_slot, z_int, z_bl, z_tup, z_fn, z_lst, z_nil, z_cons, z_opt, z_optu, z_srct, z_srcl, z_bopi, z_bopt, z_bopl, z_bopm, z_add, z_sub, z_mul, z_div, z_mod, z_pow, z_auga, z_augs, z_augd, z_eqii, z_eqss, z_eqbb, z_eqtt, z_eqll, z_ceq, z_cne, z_clt, z_cle, z_cgt, z_cge, z_cin, z_cni, z_int_t, z_trn, z_trb, z_tri, z_trt, z_trl, z_ixt, z_ixl, z_slt, z_sll, z_sls, z_lent, z_lenl, z_abs, z_max, z_min, z_toi, z_tob, z_tut, z_tul, z_lit, z_lil, z_any, z_all, z_sum, z_app, z_set, z_isn, z_isb, z_isi, z_iss, z_ist, z_isl, z_revl, isNon, atI_0, atI_1, atI_2, atI_3, ixN_1, ixN_2, ixN_3, List.map_cons, List.map_nil, List.length_cons, List.length_nil, List.replicate, List.cons_append, List.nil_append, List.append_nil, List.set_cons_zero, List.set_cons_succ, List.getElem?_cons_zero, List.getElem?_cons_succ, Nat.reduceAdd, Nat.reduceSub, Nat.reduceLT, Nat.reduceLeDiff, Nat.reduceEqDiff, Int.reduceNeg, Int.reduceAdd, Int.reduceSub, Int.reduceMul, Int.reducePow, Int.reduceToNat, Int.reduceLT, Int.reduceLE, Int.reduceEq, if_true, if_false, Bool.false_eq_true, decide_true, decide_false, true_and, and_true, Bool.not_true, Bool.not_false, List.set_nil, List.length_set, ne_eq, not_false_eq_true, reduceCtorEq, and_self, List.isEmpty_cons, List.isEmpty_nil, List.length_map, List.set_set, decide_eq_true_eq, n_is_domain, i_is_domain, t_tt, t_ss, s_ZP, hs1, d1, e1]
    exact hQ
  · unfold qd
    simp only [wpSs, wpS, wpE, wpEs, wpO, wpC, wpT, wpTg, wpTs, wpI, wipeU, startU, z_cell, z_slot, z_int, z_bl, z_tup, z_fn, z_lst, z_nil, z_cons, z_opt, z_optu, z_srct, z_srcl, z_bopi, z_bopt, z_bopl, z_bopm, z_add, z_sub, z_mul, z_div, z_mod, z_pow, z_auga, z_augs, z_augd, z_eqii, z_eqss, z_eqbb, z_eqtt, z_eqll, z_ceq, z_cne, z_clt, z_cle, z_cgt, z_cge, z_cin, z_cni, z_int_t, z_trn, z_trb, z_tri, z_trt, z_trl, z_ixt, z_ixl, z_slt, z_sll, z_sls, z_lent, z_lenl, z_abs, z_max, z_min, z_toi, z_tob, z_tut, z_tul, z_lit, z_lil, z_any, z_all, z_sum, z_app, z_set, z_isn, z_isb, z_isi, z_iss, z_ist, z_isl, z_revl, isNon, atI_0, atI_1, atI_2, atI_3, ixN_1, ixN_2, ixN_3, List.map_cons, List.map_nil, List.length_cons, List.length_nil, List.replicate, List.cons_append, List.nil_append, List.append_nil, List.set_cons_zero, List.set_cons_succ, List.getElem?_cons_zero, List.getElem?_cons_succ, Nat.reduceAdd, Nat.reduceSub, Nat.reduceLT, Nat.reduceLeDiff, Nat.reduceEqDiff, Int.reduceNeg, Int.reduceAdd, Int.reduceSub, Int.reduceMul, Int.reducePow, Int.reduceToNat, Int.reduceLT, Int.reduceLE, Int.reduceEq, if_true, if_false, Bool.false_eq_true, decide_true, decide_false, true_and, and_true, Bool.not_true, Bool.not_false, List.set_nil, List.length_set, ne_eq, not_false_eq_true, reduceCtorEq, and_self, List.isEmpty_cons, List.isEmpty_nil, List.length_map, List.set_set, decide_eq_true_eq, n_is_domain, i_is_domain, t_tt, t_ss, s_QP, hs1, d1, d2, e2, eF]
    exact hF _ _ _ _ ⟨rfl, hQ⟩
def spMay : FSpec := fun us S Q _ => us = [zd, qd] ∧ Q (.bl true) S
theorem w_may_change (G : Gm) (hF : Has G "is_field" spIsF) : Pf G n_may_change i_may_change spMay := by
  rintro us S Q X ⟨rfl, hQ⟩
  obtain ⟨sF, eF, hF⟩ := hF
  unfold zd
  simp only [wpSs, wpS, wpE, wpEs, wpO, wpC, wpT, wpTg, wpTs, wpI, wipeU, startU, z_cell, z_slot, z_int, z_bl, z_tup, z_fn, z_lst, z_nil, z_cons, z_opt, z_optu, z_srct, z_srcl, z_bopi, z_bopt, z_bopl, z_bopm, z_add, z_sub, z_mul, z_div, z_mod, z_pow, z_auga, z_augs, z_augd, z_eqii, z_eqss, z_eqbb, z_eqtt, z_eqll, z_ceq, z_cne, z_clt, z_cle, z_cgt, z_cge, z_cin, z_cni, z_int_t, z_trn, z_trb, z_tri, z_trt, z_trl, z_ixt, z_ixl, z_slt, z_sll, z_sls, z_lent, z_lenl, z_abs, z_max, z_min, z_toi, z_tob, z_tut, z_tul, z_lit, z_lil, z_any, z_all, z_sum, z_app, z_set, z_isn, z_isb, z_isi, z_iss, z_ist, z_isl, z_revl, isNon, atI_0, atI_1, atI_2, atI_3, ixN_1, ixN_2, ixN_3, List.map_cons, List.map_nil, List.length_cons, List.length_nil, List.replicate, List.cons_append, List.nil_append, List.append_nil, List.set_cons_zero, List.set_cons_succ, List.getElem?_cons_zero, List.getElem?_cons_succ, Nat.reduceAdd, Nat.reduceSub, Nat.reduceLT, Nat.reduceLeDiff, Nat.reduceEqDiff, Int.reduceNeg, Int.reduceAdd, Int.reduceSub, Int.reduceMul, Int.reducePow, Int.reduceToNat, Int.reduceLT, Int.reduceLE, Int.reduceEq, if_true, if_false, Bool.false_eq_true, decide_true, decide_false, true_and, and_true, Bool.not_true, Bool.not_false, List.set_nil, List.length_set, ne_eq, not_false_eq_true, reduceCtorEq, and_self, List.isEmpty_cons, List.isEmpty_nil, List.length_map, List.set_set, decide_eq_true_eq, n_may_change, i_may_change, s_ZZ, eF]
  exact hF _ _ _ _ ⟨rfl, hQ⟩
def spFromInt : FSpec := fun us S Q _ => ∃ n : Int, us = [qd, .int n] ∧ Q (fr (n : Rat)) S
theorem w_from_integer (G : Gm) : Pf G n_from_integer i_from_integer spFromInt := by
  rintro us S Q X ⟨n, rfl, hQ⟩
  have hs2 : 2 ≤ sizeLine := by decide
  rw [fr_int] at hQ
  unfold qd
  simp only [wpSs, wpS, wpE, wpEs, wpO, wpC, wpT, wpTg, wpTs, wpI, wipeU, startU, z_cell, z_slot, z_int, z_bl, z_tup, z_fn, z_lst, z_nil, z_cons, z_opt, z_optu, z_srct, z_srcl, z_bopi, z_bopt, z_bopl, z_bopm, z_add, z_sub, z_mul, z_div, z_mod, z_pow, z_auga, z_augs, z_augd, z_eqii, z_eqss, z_eqbb, z_eqtt, z_eqll, z_ceq, z_cne, z_clt, z_cle, z_cgt, z_cge, z_cin, z_cni, z_int_t, z_trn, z_trb, z_tri, z_trt, z_trl, z_ixt, z_ixl, z_slt, z_sll, z_sls, z_lent, z_lenl, z_abs, z_max, z_min, z_toi, z_tob, z_tut, z_tul, z_lit, z_lil, z_any, z_all, z_sum, z_app, z_set, z_isn, z_isb, z_isi, z_iss, z_ist, z_isl, z_revl, isNon, atI_0, atI_1, atI_2, atI_3, ixN_1, ixN_2, ixN_3, List.map_cons, List.map_nil, List.length_cons, List.length_nil, List.replicate, List.cons_append, List.nil_append, List.append_nil, List.set_cons_zero, List.set_cons_succ, List.getElem?_cons_zero, List.getElem?_cons_succ, Nat.reduceAdd, Nat.reduceSub, Nat.reduceLT, Nat.reduceLeDiff, Nat.reduceEqDiff, Int.reduceNeg, Int.reduceAdd, Int.reduceSub, Int.reduceMul, Int.reducePow, Int.reduceToNat, Int.reduceLT, Int.reduceLE, Int.reduceEq, if_true, if_false, Bool.false_eq_true, decide_true, decide_false, true_and, and_true, Bool.not_true, Bool.not_false, List.set_nil, List.length_set, ne_eq, not_false_eq_true, reduceCtorEq, and_self, List.isEmpty_cons, List.isEmpty_nil, List.length_map, List.set_set, decide_eq_true_eq, n_from_integer, i_from_integer, s_QZ, s_QQ]
  exact ⟨hs2, hQ⟩
def spChanged : FSpec := fun us S Q _ => ∃ n : Int, us = [zd, qd, .int n] ∧ Q (fr (n : Rat)) S
theorem w_changed (G : Gm) (hF : Has G "is_field" spIsF) (hI : Has G "from_integer" spFromInt) : Pf G n_changed i_changed spChanged := by
  rintro us S Q X ⟨n, rfl, hQ⟩
  obtain ⟨sF, eF, hF⟩ := hF
  obtain ⟨sI, eI, hI⟩ := hI
  have d1 : dats 59 [.str "Z"] = true := rfl
  have d2 : dats 59 [.str "Q"] = true := rfl
  have e2 : eqvs [.str "Z"] [.str "Q"] = false := eq_zq
  unfold zd qd
  simp only [wpSs, wpS, wpE, wpEs, wpO, wpC, wpT, wpTg, wpTs, wpI, wipeU, startU, z_cell, z_slot, z_int, z_bl, z_tup, z_fn, z_lst, z_nil, z_cons, z_opt, z_optu, z_srct, z_srcl, z_bopi, z_bopt, z_bopl, z_bopm, z_add, z_sub, z_mul, z_div, z_mod, z_pow, z_auga, z_augs, z_augd, z_eqii, z_eqss, z_eqbb, z_eqtt, z_eqll, z_ceq, z_cne, z_clt, z_cle, z_cgt, z_cge, z_cin, z_cni, z_int_t, z_trn, z_trb, z_tri, z_trt, z_trl, z_ixt, z_ixl, z_slt, z_sll, z_sls, z_lent, z_lenl, z_abs, z_max, z_min, z_toi, z_tob, z_tut, z_tul, z_lit, z_lil, z_any, z_all, z_sum, z_app, z_set, z_isn, z_isb, z_isi, z_iss, z_ist, z_isl, z_revl, isNon, atI_0, atI_1, atI_2, atI_3, ixN_1, ixN_2, ixN_3, List.map_cons, List.map_nil, List.length_cons, List.length_nil, List.replicate, List.cons_append, List.nil_append, List.append_nil, List.set_cons_zero, List.set_cons_succ, List.getElem?_cons_zero, List.getElem?_cons_succ, Nat.reduceAdd, Nat.reduceSub, Nat.reduceLT, Nat.reduceLeDiff, Nat.reduceEqDiff, Int.reduceNeg, Int.reduceAdd, Int.reduceSub, Int.reduceMul, Int.reducePow, Int.reduceToNat, Int.reduceLT, Int.reduceLE, Int.reduceEq, if_true, if_false, Bool.false_eq_true, decide_true, decide_false, true_and, and_true, Bool.not_true, Bool.not_false, List.set_nil, List.length_set, ne_eq, not_false_eq_true, reduceCtorEq, and_self, List.isEmpty_cons, List.isEmpty_nil, List.length_map, List.set_set, decide_eq_true_eq, n_changed, i_changed, s_ZZ, d1, d2, e2, eF, eI]
  refine hF _ _ _ _ ⟨rfl, ?_⟩
  simp only [wpSs, wpS, wpE, wpEs, wpO, wpC, wpT, wpTg, wpTs, wpI, wipeU, startU, z_cell, z_slot, z_int, z_bl, z_tup, z_fn, z_lst, z_nil, z_cons, z_opt, z_optu, z_srct, z_srcl, z_bopi, z_bopt, z_bopl, z_bopm, z_add, z_sub, z_mul, z_div, z_mod, z_pow, z_auga, z_augs, z_augd, z_eqii, z_eqss, z_eqbb, z_eqtt, z_eqll, z_ceq, z_cne, z_clt, z_cle, z_cgt, z_cge, z_cin, z_cni, z_int_t, z_trn, z_trb, z_tri, z_trt, z_trl, z_ixt, z_ixl, z_slt, z_sll, z_sls, z_lent, z_lenl, z_abs, z_max, z_min, z_toi, z_tob, z_tut, z_tul, z_lit, z_lil, z_any, z_all, z_sum, z_app, z_set, z_isn, z_isb, z_isi, z_iss, z_ist, z_isl, z_revl, isNon, atI_0, atI_1, atI_2, atI_3, ixN_1, ixN_2, ixN_3, List.map_cons, List.map_nil, List.length_cons, List.length_nil, List.replicate, List.cons_append, List.nil_append, List.append_nil, List.set_cons_zero, List.set_cons_succ, List.getElem?_cons_zero, List.getElem?_cons_succ, Nat.reduceAdd, Nat.reduceSub, Nat.reduceLT, Nat.reduceLeDiff, Nat.reduceEqDiff, Int.reduceNeg, Int.reduceAdd, Int.reduceSub, Int.reduceMul, Int.reducePow, Int.reduceToNat, Int.reduceLT, Int.reduceLE, Int.reduceEq, if_true, if_false, Bool.false_eq_true, decide_true, decide_false, true_and, and_true, Bool.not_true, Bool.not_false, List.set_nil, List.length_set, ne_eq, not_false_eq_true, reduceCtorEq, and_self, List.isEmpty_cons, List.isEmpty_nil, List.length_map, List.set_set, decide_eq_true_eq]
  exact hI _ _ _ _ ⟨n, rfl, hQ⟩
/-- a matrix of whole numbers, of fractions -/
def zMat (m n : Nat) (b : Nat → Nat → Int) : U := .tup [.int m, .int n, .tup ((List.range m).map fun i => .tup ((List.range n).map fun j => .int (b i j)))]
def qMat (m n : Nat) (b : Nat → Nat → Rat) : U := .tup [.int m, .int n, .tup ((List.range m).map fun i => .tup (vecU n (b i)))]
theorem map_drop {α : Type} {n i : Nat} {f : Nat → α} {a : α} {us : List α} (h : a :: us = ((List.range n).map f).drop i) : i < n ∧ a = f i ∧ us = ((List.range n).map f).drop (i + 1) := by
  have hl : ((List.range n).map f).length = n := by simp
  have hi : i < ((List.range n).map f).length := by
    apply Nat.lt_of_not_le
    intro hh
    rw [List.drop_eq_nil_of_le hh] at h
    cases h
  rw [List.drop_eq_getElem_cons hi] at h
  injection h with h1 h2
  exact ⟨by omega, by rw [h1]; simp, h2⟩
theorem map_end {α : Type} {n i : Nat} {f : Nat → α} (h : [] = ((List.range n).map f).drop i) (hi : i ≤ n) : i = n := by
  have := congrArg List.length h
  simp at this
  omega
def spChange : FSpec := fun us S Q _ => ∃ (m n : Nat) (b : Nat → Nat → Int), us = [zd, qd, zMat m n b] ∧ m ≤ 1000 ∧ n ≤ 1000 ∧ ∀ x, Q (qMat m n fun i j => (b i j : Rat)) (S ++ x)
theorem w_change (G : Gm) (hD : Has G "is_domain" spIsDom) (hM : Has G "may_change" spMay) (hC : Has G "changed" spChanged) : Pf G n_change i_change spChange := by
  rintro us S Q X ⟨m, n, b, rfl, hm, hn, hQ⟩
  obtain ⟨sD, eD, hD⟩ := hD
  obtain ⟨sM, eM, hM⟩ := hM
  obtain ⟨sC, eC, hC⟩ := hC
  have hs3 : 3 ≤ sizeLine := by decide
  have d1 : dat 60 zd = true := rfl
  have d2 : dat 60 qd = true := rfl
  simp only [wpSs, wpS, wpE, wpEs, wpO, wpC, wpT, wpTg, wpTs, wpI, wipeU, startU, z_cell, z_slot, z_int, z_bl, z_tup, z_fn, z_lst, z_nil, z_cons, z_opt, z_optu, z_srct, z_srcl, z_bopi, z_bopt, z_bopl, z_bopm, z_add, z_sub, z_mul, z_div, z_mod, z_pow, z_auga, z_augs, z_augd, z_eqii, z_eqss, z_eqbb, z_eqtt, z_eqll, z_ceq, z_cne, z_clt, z_cle, z_cgt, z_cge, z_cin, z_cni, z_int_t, z_trn, z_trb, z_tri, z_trt, z_trl, z_ixt, z_ixl, z_slt, z_sll, z_sls, z_lent, z_lenl, z_abs, z_max, z_min, z_toi, z_tob, z_tut, z_tul, z_lit, z_lil, z_any, z_all, z_sum, z_app, z_set, z_isn, z_isb, z_isi, z_iss, z_ist, z_isl, z_revl, isNon, atI_0, atI_1, atI_2, atI_3, ixN_1, ixN_2, ixN_3, List.map_cons, List.map_nil, List.length_cons, List.length_nil, List.replicate, List.cons_append, List.nil_append, List.append_nil, List.set_cons_zero, List.set_cons_succ, List.getElem?_cons_zero, List.getElem?_cons_succ, Nat.reduceAdd, Nat.reduceSub, Nat.reduceLT, Nat.reduceLeDiff, Nat.reduceEqDiff, Int.reduceNeg, Int.reduceAdd, Int.reduceSub, Int.reduceMul, Int.reducePow, Int.reduceToNat, Int.reduceLT, Int.reduceLE, Int.reduceEq, if_true, if_false, Bool.false_eq_true, decide_true, decide_false, true_and, and_true, Bool.not_true, Bool.not_false, List.set_nil, List.length_set, ne_eq, not_false_eq_true, reduceCtorEq, and_self, List.isEmpty_cons, List.isEmpty_nil, List.length_map, List.set_set, decide_eq_true_eq, n_change, i_change, eD, eM, eC]
  refine hD _ _ _ _ ⟨.inl rfl, ?_⟩
  simp only [wpSs, wpS, wpE, wpEs, wpO, wpC, wpT, wpTg, wpTs, wpI, wipeU, startU, z_cell, z_slot, z_int, z_bl, z_tup, z_fn, z_lst, z_nil, z_cons, z_opt, z_optu, z_srct, z_srcl, z_bopi, z_bopt, z_bopl, z_bopm, z_add, z_sub, z_mul, z_div, z_mod, z_pow, z_auga, z_augs, z_augd, z_eqii, z_eqss, z_eqbb, z_eqtt, z_eqll, z_ceq, z_cne, z_clt, z_cle, z_cgt, z_cge, z_cin, z_cni, z_int_t, z_trn, z_trb, z_tri, z_trt, z_trl, z_ixt, z_ixl, z_slt, z_sll, z_sls, z_lent, z_lenl, z_abs, z_max, z_min, z_toi, z_tob, z_tut, z_tul, z_lit, z_lil, z_any, z_all, z_sum, z_app, z_set, z_isn, z_isb, z_isi, z_iss, z_ist, z_isl, z_revl, isNon, atI_0, atI_1, atI_2, atI_3, ixN_1, ixN_2, ixN_3, List.map_cons, List.map_nil, List.length_cons, List.length_nil, List.replicate, List.cons_append, List.nil_append, List.append_nil, List.set_cons_zero, List.set_cons_succ, List.getElem?_cons_zero, List.getElem?_cons_succ, Nat.reduceAdd, Nat.reduceSub, Nat.reduceLT, Nat.reduceLeDiff, Nat.reduceEqDiff, Int.reduceNeg, Int.reduceAdd, Int.reduceSub, Int.reduceMul, Int.reducePow, Int.reduceToNat, Int.reduceLT, Int.reduceLE, Int.reduceEq, if_true, if_false, Bool.false_eq_true, decide_true, decide_false, true_and, and_true, Bool.not_true, Bool.not_false, List.set_nil, List.length_set, ne_eq, not_false_eq_true, reduceCtorEq, and_self, List.isEmpty_cons, List.isEmpty_nil, List.length_map, List.set_set, decide_eq_true_eq]
  refine hD _ _ _ _ ⟨.inr rfl, ?_⟩
  simp only [wpSs, wpS, wpE, wpEs, wpO, wpC, wpT, wpTg, wpTs, wpI, wipeU, startU, z_cell, z_slot, z_int, z_bl, z_tup, z_fn, z_lst, z_nil, z_cons, z_opt, z_optu, z_srct, z_srcl, z_bopi, z_bopt, z_bopl, z_bopm, z_add, z_sub, z_mul, z_div, z_mod, z_pow, z_auga, z_augs, z_augd, z_eqii, z_eqss, z_eqbb, z_eqtt, z_eqll, z_ceq, z_cne, z_clt, z_cle, z_cgt, z_cge, z_cin, z_cni, z_int_t, z_trn, z_trb, z_tri, z_trt, z_trl, z_ixt, z_ixl, z_slt, z_sll, z_sls, z_lent, z_lenl, z_abs, z_max, z_min, z_toi, z_tob, z_tut, z_tul, z_lit, z_lil, z_any, z_all, z_sum, z_app, z_set, z_isn, z_isb, z_isi, z_iss, z_ist, z_isl, z_revl, isNon, atI_0, atI_1, atI_2, atI_3, ixN_1, ixN_2, ixN_3, List.map_cons, List.map_nil, List.length_cons, List.length_nil, List.replicate, List.cons_append, List.nil_append, List.append_nil, List.set_cons_zero, List.set_cons_succ, List.getElem?_cons_zero, List.getElem?_cons_succ, Nat.reduceAdd, Nat.reduceSub, Nat.reduceLT, Nat.reduceLeDiff, Nat.reduceEqDiff, Int.reduceNeg, Int.reduceAdd, Int.reduceSub, Int.reduceMul, Int.reducePow, Int.reduceToNat, Int.reduceLT, Int.reduceLE, Int.reduceEq, if_true, if_false, Bool.false_eq_true, decide_true, decide_false, true_and, and_true, Bool.not_true, Bool.not_false, List.set_nil, List.length_set, ne_eq, not_false_eq_true, reduceCtorEq, and_self, List.isEmpty_cons, List.isEmpty_nil, List.length_map, List.set_set, decide_eq_true_eq]
  rw [z_eqd d1 d2, eq_zq]
  simp only [wpSs, wpS, wpE, wpEs, wpO, wpC, wpT, wpTg, wpTs, wpI, wipeU, startU, z_cell, z_slot, z_int, z_bl, z_tup, z_fn, z_lst, z_nil, z_cons, z_opt, z_optu, z_srct, z_srcl, z_bopi, z_bopt, z_bopl, z_bopm, z_add, z_sub, z_mul, z_div, z_mod, z_pow, z_auga, z_augs, z_augd, z_eqii, z_eqss, z_eqbb, z_eqtt, z_eqll, z_ceq, z_cne, z_clt, z_cle, z_cgt, z_cge, z_cin, z_cni, z_int_t, z_trn, z_trb, z_tri, z_trt, z_trl, z_ixt, z_ixl, z_slt, z_sll, z_sls, z_lent, z_lenl, z_abs, z_max, z_min, z_toi, z_tob, z_tut, z_tul, z_lit, z_lil, z_any, z_all, z_sum, z_app, z_set, z_isn, z_isb, z_isi, z_iss, z_ist, z_isl, z_revl, isNon, atI_0, atI_1, atI_2, atI_3, ixN_1, ixN_2, ixN_3, List.map_cons, List.map_nil, List.length_cons, List.length_nil, List.replicate, List.cons_append, List.nil_append, List.append_nil, List.set_cons_zero, List.set_cons_succ, List.getElem?_cons_zero, List.getElem?_cons_succ, Nat.reduceAdd, Nat.reduceSub, Nat.reduceLT, Nat.reduceLeDiff, Nat.reduceEqDiff, Int.reduceNeg, Int.reduceAdd, Int.reduceSub, Int.reduceMul, Int.reducePow, Int.reduceToNat, Int.reduceLT, Int.reduceLE, Int.reduceEq, if_true, if_false, Bool.false_eq_true, decide_true, decide_false, true_and, and_true, Bool.not_true, Bool.not_false, List.set_nil, List.length_set, ne_eq, not_false_eq_true, reduceCtorEq, and_self, List.isEmpty_cons, List.isEmpty_nil, List.length_map, List.set_set, decide_eq_true_eq]
  refine hM _ _ _ _ ⟨rfl, ?_⟩
  unfold zMat
  simp only [wpSs, wpS, wpE, wpEs, wpO, wpC, wpT, wpTg, wpTs, wpI, wipeU, startU, z_cell, z_slot, z_int, z_bl, z_tup, z_fn, z_lst, z_nil, z_cons, z_opt, z_optu, z_srct, z_srcl, z_bopi, z_bopt, z_bopl, z_bopm, z_add, z_sub, z_mul, z_div, z_mod, z_pow, z_auga, z_augs, z_augd, z_eqii, z_eqss, z_eqbb, z_eqtt, z_eqll, z_ceq, z_cne, z_clt, z_cle, z_cgt, z_cge, z_cin, z_cni, z_int_t, z_trn, z_trb, z_tri, z_trt, z_trl, z_ixt, z_ixl, z_slt, z_sll, z_sls, z_lent, z_lenl, z_abs, z_max, z_min, z_toi, z_tob, z_tut, z_tul, z_lit, z_lil, z_any, z_all, z_sum, z_app, z_set, z_isn, z_isb, z_isi, z_iss, z_ist, z_isl, z_revl, isNon, atI_0, atI_1, atI_2, atI_3, ixN_1, ixN_2, ixN_3, List.map_cons, List.map_nil, List.length_cons, List.length_nil, List.replicate, List.cons_append, List.nil_append, List.append_nil, List.set_cons_zero, List.set_cons_succ, List.getElem?_cons_zero, List.getElem?_cons_succ, Nat.reduceAdd, Nat.reduceSub, Nat.reduceLT, Nat.reduceLeDiff, Nat.reduceEqDiff, Int.reduceNeg, Int.reduceAdd, Int.reduceSub, Int.reduceMul, Int.reducePow, Int.reduceToNat, Int.reduceLT, Int.reduceLE, Int.reduceEq, if_true, if_false, Bool.false_eq_true, decide_true, decide_false, true_and, and_true, Bool.not_true, Bool.not_false, List.set_nil, List.length_set, ne_eq, not_false_eq_true, reduceCtorEq, and_self, List.isEmpty_cons, List.isEmpty_nil, List.length_map, List.set_set, decide_eq_true_eq]
  refine lcL_ind (fun us acc S4 => ∃ i : Nat, i ≤ m ∧ us = ((List.range m).map fun i => U.tup ((List.range n).map fun j => U.int (b i j))).drop i ∧ acc = ((List.range i).map fun i => U.tup (vecU n fun j => (b i j : Rat))) ∧ ∃ x, S4 = S ++ x) ?_ ?_ ?_ _ _ _ ⟨0, by omega, rfl, rfl, [], by simp⟩
  · intros; trivial
  · rintro acc S4 ⟨i, hi, hu, rfl, x, rfl⟩
    obtain rfl := map_end hu hi
    simp only [wpSs, wpS, wpE, wpEs, wpO, wpC, wpT, wpTg, wpTs, wpI, wipeU, startU, z_cell, z_slot, z_int, z_bl, z_tup, z_fn, z_lst, z_nil, z_cons, z_opt, z_optu, z_srct, z_srcl, z_bopi, z_bopt, z_bopl, z_bopm, z_add, z_sub, z_mul, z_div, z_mod, z_pow, z_auga, z_augs, z_augd, z_eqii, z_eqss, z_eqbb, z_eqtt, z_eqll, z_ceq, z_cne, z_clt, z_cle, z_cgt, z_cge, z_cin, z_cni, z_int_t, z_trn, z_trb, z_tri, z_trt, z_trl, z_ixt, z_ixl, z_slt, z_sll, z_sls, z_lent, z_lenl, z_abs, z_max, z_min, z_toi, z_tob, z_tut, z_tul, z_lit, z_lil, z_any, z_all, z_sum, z_app, z_set, z_isn, z_isb, z_isi, z_iss, z_ist, z_isl, z_revl, isNon, atI_0, atI_1, atI_2, atI_3, ixN_1, ixN_2, ixN_3, List.map_cons, List.map_nil, List.length_cons, List.length_nil, List.replicate, List.cons_append, List.nil_append, List.append_nil, List.set_cons_zero, List.set_cons_succ, List.getElem?_cons_zero, List.getElem?_cons_succ, Nat.reduceAdd, Nat.reduceSub, Nat.reduceLT, Nat.reduceLeDiff, Nat.reduceEqDiff, Int.reduceNeg, Int.reduceAdd, Int.reduceSub, Int.reduceMul, Int.reducePow, Int.reduceToNat, Int.reduceLT, Int.reduceLE, Int.reduceEq, if_true, if_false, Bool.false_eq_true, decide_true, decide_false, true_and, and_true, Bool.not_true, Bool.not_false, List.set_nil, List.length_set, ne_eq, not_false_eq_true, reduceCtorEq, and_self, List.isEmpty_cons, List.isEmpty_nil, List.length_map, List.set_set, decide_eq_true_eq, List.getElem?_concat_length]
    refine ⟨hs3, ?_⟩
    rw [List.append_assoc]
    exact hQ _
  · rintro u us acc S4 k2 ⟨i, hi, hu, rfl, x, rfl⟩ ks kn
    obtain ⟨hi2, rfl, hus⟩ := map_drop hu
    simp only [wpSs, wpS, wpE, wpEs, wpO, wpC, wpT, wpTg, wpTs, wpI, wipeU, startU, z_cell, z_slot, z_int, z_bl, z_tup, z_fn, z_lst, z_nil, z_cons, z_opt, z_optu, z_srct, z_srcl, z_bopi, z_bopt, z_bopl, z_bopm, z_add, z_sub, z_mul, z_div, z_mod, z_pow, z_auga, z_augs, z_augd, z_eqii, z_eqss, z_eqbb, z_eqtt, z_eqll, z_ceq, z_cne, z_clt, z_cle, z_cgt, z_cge, z_cin, z_cni, z_int_t, z_trn, z_trb, z_tri, z_trt, z_trl, z_ixt, z_ixl, z_slt, z_sll, z_sls, z_lent, z_lenl, z_abs, z_max, z_min, z_toi, z_tob, z_tut, z_tul, z_lit, z_lil, z_any, z_all, z_sum, z_app, z_set, z_isn, z_isb, z_isi, z_iss, z_ist, z_isl, z_revl, isNon, atI_0, atI_1, atI_2, atI_3, ixN_1, ixN_2, ixN_3, List.map_cons, List.map_nil, List.length_cons, List.length_nil, List.replicate, List.cons_append, List.nil_append, List.append_nil, List.set_cons_zero, List.set_cons_succ, List.getElem?_cons_zero, List.getElem?_cons_succ, Nat.reduceAdd, Nat.reduceSub, Nat.reduceLT, Nat.reduceLeDiff, Nat.reduceEqDiff, Int.reduceNeg, Int.reduceAdd, Int.reduceSub, Int.reduceMul, Int.reducePow, Int.reduceToNat, Int.reduceLT, Int.reduceLE, Int.reduceEq, if_true, if_false, Bool.false_eq_true, decide_true, decide_false, true_and, and_true, Bool.not_true, Bool.not_false, List.set_nil, List.length_set, ne_eq, not_false_eq_true, reduceCtorEq, and_self, List.isEmpty_cons, List.isEmpty_nil, List.length_map, List.set_set, decide_eq_true_eq]
    refine lcL_ind (fun us acc S5 => ∃ j : Nat, j ≤ n ∧ us = ((List.range n).map fun j => U.int (b i j)).drop j ∧ acc = (vecU j fun j => (b i j : Rat)) ∧ ∃ x, S5 = S ++ x) ?_ ?_ ?_ _ _ _ ⟨0, by omega, rfl, rfl, x, rfl⟩
    · intros; trivial
    · rintro acc2 S5 ⟨j, hj, hu2, rfl, y, rfl⟩
      obtain rfl := map_end hu2 hj
      simp only [wpSs, wpS, wpE, wpEs, wpO, wpC, wpT, wpTg, wpTs, wpI, wipeU, startU, z_cell, z_slot, z_int, z_bl, z_tup, z_fn, z_lst, z_nil, z_cons, z_opt, z_optu, z_srct, z_srcl, z_bopi, z_bopt, z_bopl, z_bopm, z_add, z_sub, z_mul, z_div, z_mod, z_pow, z_auga, z_augs, z_augd, z_eqii, z_eqss, z_eqbb, z_eqtt, z_eqll, z_ceq, z_cne, z_clt, z_cle, z_cgt, z_cge, z_cin, z_cni, z_int_t, z_trn, z_trb, z_tri, z_trt, z_trl, z_ixt, z_ixl, z_slt, z_sll, z_sls, z_lent, z_lenl, z_abs, z_max, z_min, z_toi, z_tob, z_tut, z_tul, z_lit, z_lil, z_any, z_all, z_sum, z_app, z_set, z_isn, z_isb, z_isi, z_iss, z_ist, z_isl, z_revl, isNon, atI_0, atI_1, atI_2, atI_3, ixN_1, ixN_2, ixN_3, List.map_cons, List.map_nil, List.length_cons, List.length_nil, List.replicate, List.cons_append, List.nil_append, List.append_nil, List.set_cons_zero, List.set_cons_succ, List.getElem?_cons_zero, List.getElem?_cons_succ, Nat.reduceAdd, Nat.reduceSub, Nat.reduceLT, Nat.reduceLeDiff, Nat.reduceEqDiff, Int.reduceNeg, Int.reduceAdd, Int.reduceSub, Int.reduceMul, Int.reducePow, Int.reduceToNat, Int.reduceLT, Int.reduceLE, Int.reduceEq, if_true, if_false, Bool.false_eq_true, decide_true, decide_false, true_and, and_true, Bool.not_true, Bool.not_false, List.set_nil, List.length_set, ne_eq, not_false_eq_true, reduceCtorEq, and_self, List.isEmpty_cons, List.isEmpty_nil, List.length_map, List.set_set, decide_eq_true_eq, List.getElem?_concat_length]
      refine ks _ _ (by simp; exact Nat.lt_of_lt_of_le (show i < 1001 by omega) (by decide)) ⟨i + 1, hi2, hus, ?_, y ++ _, by rw [List.append_assoc]⟩
      rw [List.range_succ, List.map_append]; rfl
    · rintro u2 us2 acc2 S5 k3 ⟨j, hj, hu2, rfl, y, rfl⟩ ks2 kn2
      obtain ⟨hj2, rfl, hus2⟩ := map_drop hu2
      refine hC _ _ _ _ ⟨b i j, rfl, ks2 _ _ (by rw [vec_len]; exact Nat.lt_of_lt_of_le (show j < 1001 by omega) (by decide)) ⟨j + 1, hj2, hus2, ?_, y, rfl⟩⟩
      rw [vec_push]
def spDot : FSpec := fun us S Q _ => ∃ (n : Nat) (u v : Nat → Rat), us = [qd, .tup (vecU n u), .tup (vecU n v)] ∧ (∀ j, j < n → SmQ (u j) ∧ SmQ (v j) ∧ SmQ (u j * v j)) ∧ (∀ T, T ≤ n → SmQ (GSM.sum T fun j => u j * v j)) ∧ Q (fr (dot n u v)) S
theorem w_dot (G : Gm) (hZ : Has G "zero" spZero) (hA : Has G "add" (spOp2 (· + ·))) (hM : Has G "multiply" (spOp2 (· * ·))) : Pf G n_dot i_dot spDot := by
  rintro us S Q X ⟨n, u, v, rfl, h1, h2, hQ⟩
  obtain ⟨sZ, eZ, hZ⟩ := hZ
  obtain ⟨sA, eA, hA⟩ := hA
  obtain ⟨sM, eM, hM⟩ := hM
  simp only [wpSs, wpS, wpE, wpEs, wpO, wpC, wpT, wpTg, wpTs, wpI, wipeU, startU, z_cell, z_slot, z_int, z_bl, z_tup, z_fn, z_lst, z_nil, z_cons, z_opt, z_optu, z_srct, z_srcl, z_bopi, z_bopt, z_bopl, z_bopm, z_add, z_sub, z_mul, z_div, z_mod, z_pow, z_auga, z_augs, z_augd, z_eqii, z_eqss, z_eqbb, z_eqtt, z_eqll, z_ceq, z_cne, z_clt, z_cle, z_cgt, z_cge, z_cin, z_cni, z_int_t, z_trn, z_trb, z_tri, z_trt, z_trl, z_ixt, z_ixl, z_slt, z_sll, z_sls, z_lent, z_lenl, z_abs, z_max, z_min, z_toi, z_tob, z_tut, z_tul, z_lit, z_lil, z_any, z_all, z_sum, z_app, z_set, z_isn, z_isb, z_isi, z_iss, z_ist, z_isl, z_revl, isNon, atI_0, atI_1, atI_2, atI_3, ixN_1, ixN_2, ixN_3, List.map_cons, List.map_nil, List.length_cons, List.length_nil, List.replicate, List.cons_append, List.nil_append, List.append_nil, List.set_cons_zero, List.set_cons_succ, List.getElem?_cons_zero, List.getElem?_cons_succ, Nat.reduceAdd, Nat.reduceSub, Nat.reduceLT, Nat.reduceLeDiff, Nat.reduceEqDiff, Int.reduceNeg, Int.reduceAdd, Int.reduceSub, Int.reduceMul, Int.reducePow, Int.reduceToNat, Int.reduceLT, Int.reduceLE, Int.reduceEq, if_true, if_false, Bool.false_eq_true, decide_true, decide_false, true_and, and_true, Bool.not_true, Bool.not_false, List.set_nil, List.length_set, ne_eq, not_false_eq_true, reduceCtorEq, and_self, List.isEmpty_cons, List.isEmpty_nil, List.length_map, List.set_set, decide_eq_true_eq, n_dot, i_dot, eZ, eA, eM]
  refine hZ _ _ _ _ ⟨rfl, ?_⟩
  simp only [wpSs, wpS, wpE, wpEs, wpO, wpC, wpT, wpTg, wpTs, wpI, wipeU, startU, z_cell, z_slot, z_int, z_bl, z_tup, z_fn, z_lst, z_nil, z_cons, z_opt, z_optu, z_srct, z_srcl, z_bopi, z_bopt, z_bopl, z_bopm, z_add, z_sub, z_mul, z_div, z_mod, z_pow, z_auga, z_augs, z_augd, z_eqii, z_eqss, z_eqbb, z_eqtt, z_eqll, z_ceq, z_cne, z_clt, z_cle, z_cgt, z_cge, z_cin, z_cni, z_int_t, z_trn, z_trb, z_tri, z_trt, z_trl, z_ixt, z_ixl, z_slt, z_sll, z_sls, z_lent, z_lenl, z_abs, z_max, z_min, z_toi, z_tob, z_tut, z_tul, z_lit, z_lil, z_any, z_all, z_sum, z_app, z_set, z_isn, z_isb, z_isi, z_iss, z_ist, z_isl, z_revl, isNon, atI_0, atI_1, atI_2, atI_3, ixN_1, ixN_2, ixN_3, List.map_cons, List.map_nil, List.length_cons, List.length_nil, List.replicate, List.cons_append, List.nil_append, List.append_nil, List.set_cons_zero, List.set_cons_succ, List.getElem?_cons_zero, List.getElem?_cons_succ, Nat.reduceAdd, Nat.reduceSub, Nat.reduceLT, Nat.reduceLeDiff, Nat.reduceEqDiff, Int.reduceNeg, Int.reduceAdd, Int.reduceSub, Int.reduceMul, Int.reducePow, Int.reduceToNat, Int.reduceLT, Int.reduceLE, Int.reduceEq, if_true, if_false, Bool.false_eq_true, decide_true, decide_false, true_and, and_true, Bool.not_true, Bool.not_false, List.set_nil, List.length_set, ne_eq, not_false_eq_true, reduceCtorEq, and_self, List.isEmpty_cons, List.isEmpty_nil, List.length_map, List.set_set, decide_eq_true_eq]
  refine forL_ind (fun us σ S4 => S4 = S ∧ ∃ i : Nat, i ≤ n ∧ us = (enmL (vecU n u)).drop i ∧ ∃ o1 o2 : Option U, σ = [some qd, some (.tup (vecU n u)), some (.tup (vecU n v)), some (fr (GSM.sum i fun j => u j * v j)), o1, o2]) ?_ ?_ ?_ _ _ _ ⟨rfl, 0, by omega, rfl, none, none, rfl⟩
  · intros; trivial
  · rintro σ S4 ⟨rfl, i, hi, hu, o1, o2, rfl⟩
    obtain rfl : i = n := by
      have := enm_end hu (by rw [vec_len]; exact hi)
      rwa [vec_len] at this
    simp only [wpSs, wpS, wpE, wpEs, wpO, wpC, wpT, wpTg, wpTs, wpI, wipeU, startU, z_cell, z_slot, z_int, z_bl, z_tup, z_fn, z_lst, z_nil, z_cons, z_opt, z_optu, z_srct, z_srcl, z_bopi, z_bopt, z_bopl, z_bopm, z_add, z_sub, z_mul, z_div, z_mod, z_pow, z_auga, z_augs, z_augd, z_eqii, z_eqss, z_eqbb, z_eqtt, z_eqll, z_ceq, z_cne, z_clt, z_cle, z_cgt, z_cge, z_cin, z_cni, z_int_t, z_trn, z_trb, z_tri, z_trt, z_trl, z_ixt, z_ixl, z_slt, z_sll, z_sls, z_lent, z_lenl, z_abs, z_max, z_min, z_toi, z_tob, z_tut, z_tul, z_lit, z_lil, z_any, z_all, z_sum, z_app, z_set, z_isn, z_isb, z_isi, z_iss, z_ist, z_isl, z_revl, isNon, atI_0, atI_1, atI_2, atI_3, ixN_1, ixN_2, ixN_3, List.map_cons, List.map_nil, List.length_cons, List.length_nil, List.replicate, List.cons_append, List.nil_append, List.append_nil, List.set_cons_zero, List.set_cons_succ, List.getElem?_cons_zero, List.getElem?_cons_succ, Nat.reduceAdd, Nat.reduceSub, Nat.reduceLT, Nat.reduceLeDiff, Nat.reduceEqDiff, Int.reduceNeg, Int.reduceAdd, Int.reduceSub, Int.reduceMul, Int.reducePow, Int.reduceToNat, Int.reduceLT, Int.reduceLE, Int.reduceEq, if_true, if_false, Bool.false_eq_true, decide_true, decide_false, true_and, and_true, Bool.not_true, Bool.not_false, List.set_nil, List.length_set, ne_eq, not_false_eq_true, reduceCtorEq, and_self, List.isEmpty_cons, List.isEmpty_nil, List.length_map, List.set_set, decide_eq_true_eq]
    exact hQ
  · rintro a us σ S4 k ⟨rfl, i, hi, hu, o1, o2, rfl⟩ hk
    obtain ⟨hi2, ⟨x, hx, rfl⟩, hus⟩ := enm_drop hu
    rw [vec_len] at hi2
    rw [vec_at hi2] at hx
    cases hx
    have ei := vec_atI (u := v) hi2
    simp only [wpSs, wpS, wpE, wpEs, wpO, wpC, wpT, wpTg, wpTs, wpI, wipeU, startU, z_cell, z_slot, z_int, z_bl, z_tup, z_fn, z_lst, z_nil, z_cons, z_opt, z_optu, z_srct, z_srcl, z_bopi, z_bopt, z_bopl, z_bopm, z_add, z_sub, z_mul, z_div, z_mod, z_pow, z_auga, z_augs, z_augd, z_eqii, z_eqss, z_eqbb, z_eqtt, z_eqll, z_ceq, z_cne, z_clt, z_cle, z_cgt, z_cge, z_cin, z_cni, z_int_t, z_trn, z_trb, z_tri, z_trt, z_trl, z_ixt, z_ixl, z_slt, z_sll, z_sls, z_lent, z_lenl, z_abs, z_max, z_min, z_toi, z_tob, z_tut, z_tul, z_lit, z_lil, z_any, z_all, z_sum, z_app, z_set, z_isn, z_isb, z_isi, z_iss, z_ist, z_isl, z_revl, isNon, atI_0, atI_1, atI_2, atI_3, ixN_1, ixN_2, ixN_3, List.map_cons, List.map_nil, List.length_cons, List.length_nil, List.replicate, List.cons_append, List.nil_append, List.append_nil, List.set_cons_zero, List.set_cons_succ, List.getElem?_cons_zero, List.getElem?_cons_succ, Nat.reduceAdd, Nat.reduceSub, Nat.reduceLT, Nat.reduceLeDiff, Nat.reduceEqDiff, Int.reduceNeg, Int.reduceAdd, Int.reduceSub, Int.reduceMul, Int.reducePow, Int.reduceToNat, Int.reduceLT, Int.reduceLE, Int.reduceEq, if_true, if_false, Bool.false_eq_true, decide_true, decide_false, true_and, and_true, Bool.not_true, Bool.not_false, List.set_nil, List.length_set, ne_eq, not_false_eq_true, reduceCtorEq, and_self, List.isEmpty_cons, List.isEmpty_nil, List.length_map, List.set_set, decide_eq_true_eq, lenTs, ei]
    refine hM _ _ _ _ ⟨u i, v i, rfl, (h1 i hi2).1, (h1 i hi2).2.1, ?_⟩
    refine hA _ _ _ _ ⟨GSM.sum i fun j => u j * v j, u i * v i, rfl, h2 i (by omega), (h1 i hi2).2.2, ?_⟩
    exact hk _ _ ⟨rfl, i + 1, hi2, hus, _, _, rfl⟩
end K70

set_option Elab.async false
set_option linter.all false
set_option maxRecDepth 100000
set_option maxHeartbeats 4000000
namespace K70
open PySem PySem.Spec L2 Q GSM
/-! ### a matrix in the store -/
structure MatS (S : Sto) (r m n : Nat) (R : Nat → Nat → Rat) (cs : Nat → Nat) : Prop where
  hr : S[r]? = some (.lst ((List.range m).map fun i => U.lst (cs i)))
  hc : ∀ i, i < m → S[cs i]? = some (.lst (vecU n (R i)))
  inj : ∀ i j, i < m → j < m → cs i = cs j → i = j
  ne : ∀ i, i < m → cs i ≠ r
theorem vec_set {n j : Nat} {u : Nat → Rat} {v : Rat} (hj : j < n) : (vecU n u).set j (fr v) = vecU n fun l => if l = j then v else u l := by
  apply List.ext_getElem?
  intro i
  rw [List.getElem?_set]
  by_cases e : j = i
  · subst e
    rw [if_pos rfl, if_pos (by rw [vec_len]; exact hj), vec_at hj, if_pos rfl]
  · rw [if_neg e]
    by_cases hi : i < n
    · rw [vec_at hi, vec_at hi, if_neg (fun z => e z.symm)]
    · rw [List.getElem?_eq_none (by rw [vec_len]; omega), List.getElem?_eq_none (by rw [vec_len]; omega)]
theorem row_at {m i : Nat} {cs : Nat → Nat} (hi : i < m) : L2.atI ((List.range m).map fun i => U.lst (cs i)) (i : Int) = some (.lst (cs i)) := by
  rw [_root_.Q.atI_nat, List.getElem?_map, List.getElem?_range hi]; rfl
theorem MatS.lt {S : Sto} {r m n : Nat} {R : Nat → Nat → Rat} {cs : Nat → Nat} (M : MatS S r m n R cs) {i : Nat} (hi : i < m) : cs i < S.length := (List.getElem?_eq_some_iff.1 (M.hc i hi)).1
/-- a row written in its place -/
theorem MatS.wr {S : Sto} {r m n : Nat} {R : Nat → Nat → Rat} {cs : Nat → Nat} (M : MatS S r m n R cs) {i : Nat} (hi : i < m) (u : Nat → Rat) : MatS (S.set (cs i) (.lst (vecU n u))) r m n (fun k => if k = i then u else R k) cs := by
  refine ⟨by rw [List.getElem?_set_ne (M.ne i hi)]; exact M.hr, fun k hk => ?_, M.inj, M.ne⟩
  by_cases e : k = i
  · subst e
    rw [List.getElem?_set_self (M.lt hk), if_pos rfl]
  · rw [List.getElem?_set_ne (fun z => e (M.inj _ _ hi hk z).symm), if_neg e]
    exact M.hc k hk
def spAddRow : FSpec := fun us S Q _ => ∃ (r m n i a : Nat) (R : Nat → Nat → Rat) (cs : Nat → Nat) (x : Rat), us = [qd, .lst r, .int i, fr x, .int a] ∧ MatS S r m n R cs ∧ i < m ∧ a < m ∧ i ≠ a ∧ Sm x ∧ (∀ j, j < n → Sm (R i j) ∧ Sm (R a j) ∧ Sm (x * R a j)) ∧
  Q .non (S.set (cs i) (.lst (vecU n fun l => R i l + x * R a l)))
theorem w_add_row (G : Gm) (hA : Has G "add" (spOp2 (· + ·))) (hM : Has G "multiply" (spOp2 (· * ·))) : Pf G n_add_row i_add_row spAddRow := by
  rintro us S Q X ⟨r, m, n, i, a, R, cs, x, rfl, M, hi, ha, hne, hx, hs, hQ⟩
  obtain ⟨sA, eA, hA⟩ := hA
  obtain ⟨sM, eM, hM⟩ := hM
  have ri := row_at (cs := cs) hi
  have ra := row_at (cs := cs) ha
  simp only [wpSs, wpS, wpE, wpEs, wpO, wpC, wpT, wpTg, wpTs, wpI, wipeU, startU, z_cell, z_slot, z_int, z_bl, z_tup, z_fn, z_lst, z_nil, z_cons, z_opt, z_optu, z_srct, z_srcl, z_bopi, z_bopt, z_bopl, z_bopm, z_add, z_sub, z_mul, z_div, z_mod, z_pow, z_auga, z_augs, z_augd, z_eqii, z_eqss, z_eqbb, z_eqtt, z_eqll, z_ceq, z_cne, z_clt, z_cle, z_cgt, z_cge, z_cin, z_cni, z_int_t, z_trn, z_trb, z_tri, z_trt, z_trl, z_ixt, z_ixl, z_slt, z_sll, z_sls, z_lent, z_lenl, z_abs, z_max, z_min, z_toi, z_tob, z_tut, z_tul, z_lit, z_lil, z_any, z_all, z_sum, z_app, z_set, z_isn, z_isb, z_isi, z_iss, z_ist, z_isl, z_revl, isNon, atI_0, atI_1, atI_2, atI_3, ixN_1, ixN_2, ixN_3, List.map_cons, List.map_nil, List.length_cons, List.length_nil, List.replicate, List.cons_append, List.nil_append, List.append_nil, List.set_cons_zero, List.set_cons_succ, List.getElem?_cons_zero, List.getElem?_cons_succ, Nat.reduceAdd, Nat.reduceSub, Nat.reduceLT, Nat.reduceLeDiff, Nat.reduceEqDiff, Int.reduceNeg, Int.reduceAdd, Int.reduceSub, Int.reduceMul, Int.reducePow, Int.reduceToNat, Int.reduceLT, Int.reduceLE, Int.reduceEq, if_true, if_false, Bool.false_eq_true, decide_true, decide_false, true_and, and_true, Bool.not_true, Bool.not_false, List.set_nil, List.length_set, ne_eq, not_false_eq_true, reduceCtorEq, and_self, List.isEmpty_cons, List.isEmpty_nil, List.length_map, List.set_set, decide_eq_true_eq, n_add_row, i_add_row, eA, eM, M.hr, ra, M.hc a ha]
  refine forL_ind (fun us σ S4 => ∃ j : Nat, j ≤ n ∧ us = (enmL (vecU n (R a))).drop j ∧ S4 = S.set (cs i) (.lst (vecU n fun l => if l < j then R i l + x * R a l else R i l)) ∧ ∃ o1 o2 : Option U, σ = [some qd, some (.lst r), some (.int i), some (fr x), some (.int a), o1, o2]) ?_ ?_ ?_ _ _ _ ⟨0, by omega, rfl, ?_, none, none, rfl⟩
  · rintro us σ S4 ⟨j, hj, hu, rfl, o1, o2, rfl⟩
    show (S.set (cs i) _)[cs a]? = _
    rw [List.getElem?_set_ne (fun z => hne (M.inj _ _ hi ha z))]
    exact M.hc a ha
  · rintro σ S4 ⟨j, hj, hu, rfl, o1, o2, rfl⟩
    obtain rfl : j = n := by
      have := enm_end hu (by rw [vec_len]; exact hj)
      rwa [vec_len] at this
    rw [vec_congr (v := fun l => R i l + x * R a l) fun l hl => if_pos hl]
    exact hQ
  · rintro z us σ S4 k ⟨j, hj, hu, rfl, o1, o2, rfl⟩ hk
    obtain ⟨hj2, ⟨y, hy, rfl⟩, hus⟩ := enm_drop hu
    rw [vec_len] at hj2
    rw [vec_at hj2] at hy
    cases hy
    have hr2 : ∀ u, (S.set (cs i) (.lst (vecU n u)))[r]? = some (.lst ((List.range m).map fun i => U.lst (cs i))) := fun u => by
      rw [List.getElem?_set_ne (M.ne i hi)]; exact M.hr
    have hc2 : ∀ u, (S.set (cs i) (.lst (vecU n u)))[cs i]? = some (.lst (vecU n u)) := fun u => List.getElem?_set_self (M.lt hi)
    have e1 : L2.atI (vecU n fun l => if l < j then R i l + x * R a l else R i l) (j : Int) = some (fr (R i j)) := by
      rw [vec_atI hj2, if_neg (by omega)]
    have e2 : L2.ixN (vecU n fun l => if l < j then R i l + x * R a l else R i l).length (j : Int) = some j := by
      rw [vec_len]; exact _root_.Q.ixN_nat n j hj2
    simp only [wpSs, wpS, wpE, wpEs, wpO, wpC, wpT, wpTg, wpTs, wpI, wipeU, startU, z_cell, z_slot, z_int, z_bl, z_tup, z_fn, z_lst, z_nil, z_cons, z_opt, z_optu, z_srct, z_srcl, z_bopi, z_bopt, z_bopl, z_bopm, z_add, z_sub, z_mul, z_div, z_mod, z_pow, z_auga, z_augs, z_augd, z_eqii, z_eqss, z_eqbb, z_eqtt, z_eqll, z_ceq, z_cne, z_clt, z_cle, z_cgt, z_cge, z_cin, z_cni, z_int_t, z_trn, z_trb, z_tri, z_trt, z_trl, z_ixt, z_ixl, z_slt, z_sll, z_sls, z_lent, z_lenl, z_abs, z_max, z_min, z_toi, z_tob, z_tut, z_tul, z_lit, z_lil, z_any, z_all, z_sum, z_app, z_set, z_isn, z_isb, z_isi, z_iss, z_ist, z_isl, z_revl, isNon, atI_0, atI_1, atI_2, atI_3, ixN_1, ixN_2, ixN_3, List.map_cons, List.map_nil, List.length_cons, List.length_nil, List.replicate, List.cons_append, List.nil_append, List.append_nil, List.set_cons_zero, List.set_cons_succ, List.getElem?_cons_zero, List.getElem?_cons_succ, Nat.reduceAdd, Nat.reduceSub, Nat.reduceLT, Nat.reduceLeDiff, Nat.reduceEqDiff, Int.reduceNeg, Int.reduceAdd, Int.reduceSub, Int.reduceMul, Int.reducePow, Int.reduceToNat, Int.reduceLT, Int.reduceLE, Int.reduceEq, if_true, if_false, Bool.false_eq_true, decide_true, decide_false, true_and, and_true, Bool.not_true, Bool.not_false, List.set_nil, List.length_set, ne_eq, not_false_eq_true, reduceCtorEq, and_self, List.isEmpty_cons, List.isEmpty_nil, List.length_map, List.set_set, decide_eq_true_eq, lenTs, hr2, ri, hc2, e1]
    refine hM _ _ _ _ ⟨x, R a j, rfl, hx, (hs j hj2).2.1, ?_⟩
    refine hA _ _ _ _ ⟨R i j, x * R a j, rfl, (hs j hj2).1, (hs j hj2).2.2, ?_⟩
    simp only [wpSs, wpS, wpE, wpEs, wpO, wpC, wpT, wpTg, wpTs, wpI, wipeU, startU, z_cell, z_slot, z_int, z_bl, z_tup, z_fn, z_lst, z_nil, z_cons, z_opt, z_optu, z_srct, z_srcl, z_bopi, z_bopt, z_bopl, z_bopm, z_add, z_sub, z_mul, z_div, z_mod, z_pow, z_auga, z_augs, z_augd, z_eqii, z_eqss, z_eqbb, z_eqtt, z_eqll, z_ceq, z_cne, z_clt, z_cle, z_cgt, z_cge, z_cin, z_cni, z_int_t, z_trn, z_trb, z_tri, z_trt, z_trl, z_ixt, z_ixl, z_slt, z_sll, z_sls, z_lent, z_lenl, z_abs, z_max, z_min, z_toi, z_tob, z_tut, z_tul, z_lit, z_lil, z_any, z_all, z_sum, z_app, z_set, z_isn, z_isb, z_isi, z_iss, z_ist, z_isl, z_revl, isNon, atI_0, atI_1, atI_2, atI_3, ixN_1, ixN_2, ixN_3, List.map_cons, List.map_nil, List.length_cons, List.length_nil, List.replicate, List.cons_append, List.nil_append, List.append_nil, List.set_cons_zero, List.set_cons_succ, List.getElem?_cons_zero, List.getElem?_cons_succ, Nat.reduceAdd, Nat.reduceSub, Nat.reduceLT, Nat.reduceLeDiff, Nat.reduceEqDiff, Int.reduceNeg, Int.reduceAdd, Int.reduceSub, Int.reduceMul, Int.reducePow, Int.reduceToNat, Int.reduceLT, Int.reduceLE, Int.reduceEq, if_true, if_false, Bool.false_eq_true, decide_true, decide_false, true_and, and_true, Bool.not_true, Bool.not_false, List.set_nil, List.length_set, ne_eq, not_false_eq_true, reduceCtorEq, and_self, List.isEmpty_cons, List.isEmpty_nil, List.length_map, List.set_set, decide_eq_true_eq, hr2, ri, hc2, e2]
    refine hk _ _ ⟨j + 1, hj2, hus, ?_, _, _, rfl⟩
    rw [vec_set hj2]
    congr 2
    refine vec_congr fun l hl => ?_
    by_cases e : l = j
    · rw [e, if_pos rfl, if_pos (by omega)]
    · rw [if_neg e]
      by_cases h : l < j
      · rw [if_pos h, if_pos (by omega)]
      · rw [if_neg h, if_neg (by omega)]
  · rw [vec_congr (v := R i) fun l hl => if_neg (by omega)]
    have hl := M.lt hi
    have hcl := (List.getElem?_eq_some_iff.1 (M.hc i hi)).2
    rw [← hcl, List.set_getElem_self]
end K70

set_option Elab.async false
set_option linter.all false
set_option maxRecDepth 100000
set_option maxHeartbeats 8000000
namespace K70
open PySem PySem.Spec L2 Q GSM
def els (A0 : Nat) : Nat → Nat × Nat
  | 0 => (A0, 0)
  | t + 1 => (2 * (els A0 t).1 + 2 * (els A0 t).2 + 2, (els A0 t).1 + 3 * (els A0 t).2)
def Fit (A0 m : Nat) : Prop := ∀ t, t < m → (els A0 t).1 + 2 * (els A0 t).2 < 4399
theorem bt_sm {A B : Nat} {q : Rat} (h : Bt A B q) (ha : A ≤ 100000) (hb : B < 4400) : Sm q := by
  obtain ⟨h1, h2⟩ := h.num
  exact ⟨Nat.lt_of_lt_of_le h1 (Nat.pow_le_pow_right (by decide) ha), Nat.lt_of_le_of_lt h2 (Nat.pow_lt_pow_right (by decide) hb)⟩
theorem bt_smi {A B : Nat} {q : Rat} (h : Bt A B q) (h0 : q ≠ 0) (ha : A ≤ 4400) (hb : B < 4400) : SmI q := by
  obtain ⟨h1, h2⟩ := h.num
  exact ⟨h0, Nat.lt_of_lt_of_le h1 (Nat.pow_le_pow_right (by decide) ha), Nat.lt_of_le_of_lt h2 (Nat.pow_lt_pow_right (by decide) hb)⟩
structure Keep (P : Nat → Prop) (S S' : Sto) : Prop where
  len : S.length ≤ S'.length
  same : ∀ i, i < S.length → P i → S'[i]? = S[i]?
theorem Keep.refl (P : Nat → Prop) (S : Sto) : Keep P S S := ⟨Nat.le_refl _, fun _ _ _ => rfl⟩
theorem Keep.push {P : Nat → Prop} {S S' : Sto} (h : Keep P S S') (x : List Cell) : Keep P S (S' ++ x) :=
  ⟨by rw [List.length_append]; have := h.len; omega, fun i hi hp => by rw [List.getElem?_append_left (Nat.lt_of_lt_of_le hi h.len)]; exact h.same i hi hp⟩
theorem Keep.set {P : Nat → Prop} {S S' : Sto} (h : Keep P S S') {k : Nat} (x : Cell) (hk : k < S.length → ¬ P k) : Keep P S (S'.set k x) :=
  ⟨by rw [List.length_set]; exact h.len, fun i hi hp => by
    have hne : k ≠ i := fun z => by
      subst z
      exact hk hi hp
    rw [List.getElem?_set_ne hne]
    exact h.same i hi hp⟩
theorem MatS.congr {S : Sto} {r m n : Nat} {R R' : Nat → Nat → Rat} {cs : Nat → Nat} (M : MatS S r m n R cs) (h : ∀ i j, i < m → j < n → R i j = R' i j) : MatS S r m n R' cs :=
  ⟨M.hr, fun i hi => by rw [M.hc i hi, vec_congr fun j hj => h i j hi hj], M.inj, M.ne⟩
theorem MatS.push {S : Sto} {r m n : Nat} {R : Nat → Nat → Rat} {cs : Nat → Nat} (M : MatS S r m n R cs) (x : List Cell) : MatS (S ++ x) r m n R cs :=
  ⟨by rw [List.getElem?_append_left (List.getElem?_eq_some_iff.1 M.hr).1]; exact M.hr, fun i hi => by rw [List.getElem?_append_left (M.lt hi)]; exact M.hc i hi, M.inj, M.ne⟩
theorem MatS.other {S : Sto} {r m n : Nat} {R : Nat → Nat → Rat} {cs : Nat → Nat} (M : MatS S r m n R cs) {k : Nat} (x : Cell) (h1 : k ≠ r) (h2 : ∀ i, i < m → cs i ≠ k) : MatS (S.set k x) r m n R cs :=
  ⟨by rw [List.getElem?_set_ne h1]; exact M.hr, fun i hi => by rw [List.getElem?_set_ne (fun z => h2 i hi z.symm)]; exact M.hc i hi, M.inj, M.ne⟩
/-- the list of rows written anew -/
theorem MatS.rows {S : Sto} {r m n : Nat} {R R' : Nat → Nat → Rat} {cs cs' : Nat → Nat} (M : MatS S r m n R cs) (hc : ∀ i, i < m → S[cs' i]? = some (.lst (vecU n (R' i)))) (hi : ∀ i j, i < m → j < m → cs' i = cs' j → i = j) (hn : ∀ i, i < m → cs' i ≠ r) :
    MatS (S.set r (.lst ((List.range m).map fun i => U.lst (cs' i)))) r m n R' cs' :=
  ⟨List.getElem?_set_self (List.getElem?_eq_some_iff.1 M.hr).1, fun i h => by rw [List.getElem?_set_ne (fun z => hn i h z.symm)]; exact hc i h, hi, hn⟩
theorem map_set {m a y : Nat} {cs : Nat → Nat} (ha : a < m) : ((List.range m).map fun i => U.lst (cs i)).set a (.lst y) = (List.range m).map fun i => U.lst (if i = a then y else cs i) := by
  apply List.ext_getElem?
  intro i
  rw [List.getElem?_set, List.getElem?_map, List.getElem?_map]
  by_cases e : a = i
  · subst e
    rw [if_pos rfl, if_pos (by simpa using ha), List.getElem?_range ha]
    simp
  · rw [if_neg e]
    by_cases hi : i < m
    · rw [List.getElem?_range hi]
      simp
      intro z
      exact absurd z.symm e
    · rw [List.getElem?_eq_none (by simpa using hi)]; rfl
theorem rows_len (m : Nat) (cs : Nat → Nat) : ((List.range m).map fun i => U.lst (cs i)).length = m := by simp
def spElim : FSpec := fun us S Q _ => ∃ (r m n A0 : Nat) (R : Nat → Nat → Rat) (cs : Nat → Nat), us = [qd, .lst r, .int n] ∧ MatS S r m n R cs ∧ m ≤ 6 ∧ n ≤ 7 ∧ Fit A0 m ∧ (∀ i j, i < m → j < n → Bt A0 0 (R i j)) ∧
  ∀ pl S2, pl.length ≤ m → (Dep m n R ↔ pl.length ≠ m) → Keep (fun i => i ≠ r ∧ ∀ k, k < m → i ≠ cs k) S S2 → Q (.tup pl) S2
/-- between two columns -/
structure Mid (S0 : Sto) (r m n A0 : Nat) (R0 : Nat → Nat → Rat) (cs0 : Nat → Nat) (j : Nat) (S : Sto) (pv : Nat) (pl : List U) (R : Nat → Nat → Rat) (cs : Nat → Nat) (p : Nat → Nat) : Prop where
  M : MatS S r m n R cs
  P : Piv m R j pl.length p
  dep : Dep m n R ↔ Dep m n R0
  bt : ∀ i l, i < m → l < n → Bt (els A0 pl.length).1 (els A0 pl.length).2 (R i l)
  hp : S[pv]? = some (.lst pl)
  pr : pv ≠ r
  pc : ∀ i, i < m → cs i ≠ pv
  p0 : S0.length ≤ pv
  old : ∀ i, i < m → (∃ l, l < m ∧ cs i = cs0 l) ∨ S0.length ≤ cs i
  keep : Keep (fun i => i ≠ r ∧ ∀ k, k < m → i ≠ cs0 k) S0 S
theorem rng_drop {lo : Int} {n j : Nat} {u : U} {us : List U} (h : u :: us = (rngL lo n).drop j) : j < n ∧ u = .int (lo + j) ∧ us = (rngL lo n).drop (j + 1) := by
  have hl : (rngL lo n).length = n := by simp [rngL]
  have hj : j < n := by
    apply Nat.lt_of_not_le
    intro hh
    rw [List.drop_eq_nil_of_le (by omega)] at h
    cases h
  rw [List.drop_eq_getElem_cons (by omega)] at h
  injection h with h1 h2
  refine ⟨hj, ?_, h2⟩
  rw [h1]
  simp [rngL]
theorem rng_end {lo : Int} {n j : Nat} (h : [] = (rngL lo n).drop j) (hj : j ≤ n) : j = n := by
  have := congrArg List.length h
  simp [rngL] at this
  omega
theorem rep9 (r n pv : Nat) (o : Nat → Option U) : True := trivial
theorem w_eliminate (G : Gm) (hZ : Has G "zero" spZero) (hI : Has G "inverse" spInv) (hM : Has G "multiply" (spOp2 (· * ·))) (hN : Has G "negate" spNeg) (hR : Has G "add_row" spAddRow) : Pf G n_eliminate i_eliminate spElim := by
  rintro us S0 Q X ⟨r, m, n, A0, R0, cs0, rfl, M0, hm, hn, hfit, hb0, hQ⟩
  obtain ⟨sZ, eZ, hZ⟩ := hZ
  obtain ⟨sI, eI, hI⟩ := hI
  obtain ⟨sM, eM, hM⟩ := hM
  obtain ⟨sN, eN, hN⟩ := hN
  obtain ⟨sR, eR, hR⟩ := hR
  have hs0 : 0 ≤ sizeLine := by decide
  have hs2 : 2 ≤ sizeLine := by decide
  simp only [wpSs, wpS, wpE, wpEs, wpO, wpC, wpT, wpTg, wpTs, wpI, wipeU, startU, z_cell, z_slot, z_int, z_bl, z_tup, z_fn, z_lst, z_nil, z_cons, z_opt, z_optu, z_srct, z_srcl, z_bopi, z_bopt, z_bopl, z_bopm, z_add, z_sub, z_mul, z_div, z_mod, z_pow, z_auga, z_augs, z_augd, z_eqii, z_eqss, z_eqbb, z_eqtt, z_eqll, z_ceq, z_cne, z_clt, z_cle, z_cgt, z_cge, z_cin, z_cni, z_int_t, z_trn, z_trb, z_tri, z_trt, z_trl, z_ixt, z_ixl, z_slt, z_sll, z_sls, z_lent, z_lenl, z_abs, z_max, z_min, z_toi, z_tob, z_tut, z_tul, z_lit, z_lil, z_any, z_all, z_sum, z_app, z_set, z_isn, z_isb, z_isi, z_iss, z_ist, z_isl, z_revl, isNon, atI_0, atI_1, atI_2, atI_3, ixN_1, ixN_2, ixN_3, List.map_cons, List.map_nil, List.length_cons, List.length_nil, List.replicate, List.cons_append, List.nil_append, List.append_nil, List.set_cons_zero, List.set_cons_succ, List.getElem?_cons_zero, List.getElem?_cons_succ, Nat.reduceAdd, Nat.reduceSub, Nat.reduceLT, Nat.reduceLeDiff, Nat.reduceEqDiff, Int.reduceNeg, Int.reduceAdd, Int.reduceSub, Int.reduceMul, Int.reducePow, Int.reduceToNat, Int.reduceLT, Int.reduceLE, Int.reduceEq, if_true, if_false, Bool.false_eq_true, decide_true, decide_false, true_and, and_true, Bool.not_true, Bool.not_false, List.set_nil, List.length_set, ne_eq, not_false_eq_true, reduceCtorEq, and_self, List.isEmpty_cons, List.isEmpty_nil, List.length_map, List.set_set, decide_eq_true_eq, n_eliminate, i_eliminate, eZ, eI, eM, eN, eR, hs0]
  refine ⟨⟨by omega, by omega⟩, ?_⟩
  rw [Int.toNat_natCast]
  have hrl : r < S0.length := (List.getElem?_eq_some_iff.1 M0.hr).1
  refine forL_ind (fun us σ S => ∃ j : Nat, j ≤ n ∧ us = (rngL 0 n).drop j ∧ ∃ pl R cs p, Mid S0 r m n A0 R0 cs0 j S S0.length pl R cs p ∧ ∃ o4 o5 o6 o7 o8 o9 : Option U, σ = [some qd, some (.lst r), some (.int n), some (.lst S0.length), o4, o5, o6, o7, o8, o9]) ?_ ?_ ?_ _ _ _
    ⟨0, by omega, rfl, [], R0, cs0, fun _ => 0, ⟨M0.push _, ⟨by simp, fun t ht => by simp at ht, fun i _ _ l hl => by omega⟩, Iff.rfl, hb0, List.getElem?_concat_length, by omega, fun i hi => by have := M0.lt hi; omega, Nat.le_refl _, fun i hi => .inl ⟨i, hi, rfl⟩, (Keep.refl _ _).push _⟩, none, none, none, none, none, none, rfl⟩
  · intros; trivial
  · rintro σ S ⟨j, hj, hu, pl, R, cs, p, D, o4, o5, o6, o7, o8, o9, rfl⟩
    obtain rfl := rng_end hu hj
    simp only [wpSs, wpS, wpE, wpEs, wpO, wpC, wpT, wpTg, wpTs, wpI, wipeU, startU, z_cell, z_slot, z_int, z_bl, z_tup, z_fn, z_lst, z_nil, z_cons, z_opt, z_optu, z_srct, z_srcl, z_bopi, z_bopt, z_bopl, z_bopm, z_add, z_sub, z_mul, z_div, z_mod, z_pow, z_auga, z_augs, z_augd, z_eqii, z_eqss, z_eqbb, z_eqtt, z_eqll, z_ceq, z_cne, z_clt, z_cle, z_cgt, z_cge, z_cin, z_cni, z_int_t, z_trn, z_trb, z_tri, z_trt, z_trl, z_ixt, z_ixl, z_slt, z_sll, z_sls, z_lent, z_lenl, z_abs, z_max, z_min, z_toi, z_tob, z_tut, z_tul, z_lit, z_lil, z_any, z_all, z_sum, z_app, z_set, z_isn, z_isb, z_isi, z_iss, z_ist, z_isl, z_revl, isNon, atI_0, atI_1, atI_2, atI_3, ixN_1, ixN_2, ixN_3, List.map_cons, List.map_nil, List.length_cons, List.length_nil, List.replicate, List.cons_append, List.nil_append, List.append_nil, List.set_cons_zero, List.set_cons_succ, List.getElem?_cons_zero, List.getElem?_cons_succ, Nat.reduceAdd, Nat.reduceSub, Nat.reduceLT, Nat.reduceLeDiff, Nat.reduceEqDiff, Int.reduceNeg, Int.reduceAdd, Int.reduceSub, Int.reduceMul, Int.reducePow, Int.reduceToNat, Int.reduceLT, Int.reduceLE, Int.reduceEq, if_true, if_false, Bool.false_eq_true, decide_true, decide_false, true_and, and_true, Bool.not_true, Bool.not_false, List.set_nil, List.length_set, ne_eq, not_false_eq_true, reduceCtorEq, and_self, List.isEmpty_cons, List.isEmpty_nil, List.length_map, List.set_set, decide_eq_true_eq, D.hp]
    refine hQ pl S D.P.le ?_ D.keep
    rw [← D.dep]
    exact D.P.full
  · rintro u us σ S k ⟨j, hj, hu, pl, R, cs, p, D, o4, o5, o6, o7, o8, o9, rfl⟩ hk
    obtain ⟨hj2, rfl, hus⟩ := rng_drop hu
    have ej : (0 + (j : Int)) = j := by omega
    have hrS : r < S.length := (List.getElem?_eq_some_iff.1 D.M.hr).1
    rw [ej]
    have hle := D.P.le
    simp only [wpSs, wpS, wpE, wpEs, wpO, wpC, wpT, wpTg, wpTs, wpI, wipeU, startU, z_cell, z_slot, z_int, z_bl, z_tup, z_fn, z_lst, z_nil, z_cons, z_opt, z_optu, z_srct, z_srcl, z_bopi, z_bopt, z_bopl, z_bopm, z_add, z_sub, z_mul, z_div, z_mod, z_pow, z_auga, z_augs, z_augd, z_eqii, z_eqss, z_eqbb, z_eqtt, z_eqll, z_ceq, z_cne, z_clt, z_cle, z_cgt, z_cge, z_cin, z_cni, z_int_t, z_trn, z_trb, z_tri, z_trt, z_trl, z_ixt, z_ixl, z_slt, z_sll, z_sls, z_lent, z_lenl, z_abs, z_max, z_min, z_toi, z_tob, z_tut, z_tul, z_lit, z_lil, z_any, z_all, z_sum, z_app, z_set, z_isn, z_isb, z_isi, z_iss, z_ist, z_isl, z_revl, isNon, atI_0, atI_1, atI_2, atI_3, ixN_1, ixN_2, ixN_3, List.map_cons, List.map_nil, List.length_cons, List.length_nil, List.replicate, List.cons_append, List.nil_append, List.append_nil, List.set_cons_zero, List.set_cons_succ, List.getElem?_cons_zero, List.getElem?_cons_succ, Nat.reduceAdd, Nat.reduceSub, Nat.reduceLT, Nat.reduceLeDiff, Nat.reduceEqDiff, Int.reduceNeg, Int.reduceAdd, Int.reduceSub, Int.reduceMul, Int.reducePow, Int.reduceToNat, Int.reduceLT, Int.reduceLE, Int.reduceEq, if_true, if_false, Bool.false_eq_true, decide_true, decide_false, true_and, and_true, Bool.not_true, Bool.not_false, List.set_nil, List.length_set, ne_eq, not_false_eq_true, reduceCtorEq, and_self, List.isEmpty_cons, List.isEmpty_nil, List.length_map, List.set_set, decide_eq_true_eq, D.hp, D.M.hr, rows_len, List.length_range]
    refine ⟨⟨by omega, by omega, by omega, by omega⟩, ?_⟩
    refine lcL_ind (fun us acc S4 => S4 = S ∧ ∃ t : Nat, t ≤ m - pl.length ∧ us = (rngL pl.length (m - pl.length)).drop t ∧ acc.length ≤ t ∧ ((acc = [] ∧ ∀ i, pl.length ≤ i → i < pl.length + t → R i j = 0) ∨ ∃ (i0 : Nat) (rest : List U), acc = .int i0 :: rest ∧ pl.length ≤ i0 ∧ i0 < m ∧ R i0 j ≠ 0)) ?_ ?_ ?_ _ _ _ ⟨rfl, 0, by omega, ?_, by simp, .inl ⟨rfl, fun i _ _ => by omega⟩⟩
    · intros; trivial
    · rintro acc S4 ⟨rfl, t, ht, hu2, hal, hcase⟩
      have ht2 := rng_end hu2 ht
      rcases hcase with ⟨rfl, hz⟩ | ⟨i0, rest, rfl, hi0, him, hne⟩
      · simp only [wpSs, wpS, wpE, wpEs, wpO, wpC, wpT, wpTg, wpTs, wpI, wipeU, startU, z_cell, z_slot, z_int, z_bl, z_tup, z_fn, z_lst, z_nil, z_cons, z_opt, z_optu, z_srct, z_srcl, z_bopi, z_bopt, z_bopl, z_bopm, z_add, z_sub, z_mul, z_div, z_mod, z_pow, z_auga, z_augs, z_augd, z_eqii, z_eqss, z_eqbb, z_eqtt, z_eqll, z_ceq, z_cne, z_clt, z_cle, z_cgt, z_cge, z_cin, z_cni, z_int_t, z_trn, z_trb, z_tri, z_trt, z_trl, z_ixt, z_ixl, z_slt, z_sll, z_sls, z_lent, z_lenl, z_abs, z_max, z_min, z_toi, z_tob, z_tut, z_tul, z_lit, z_lil, z_any, z_all, z_sum, z_app, z_set, z_isn, z_isb, z_isi, z_iss, z_ist, z_isl, z_revl, isNon, atI_0, atI_1, atI_2, atI_3, ixN_1, ixN_2, ixN_3, List.map_cons, List.map_nil, List.length_cons, List.length_nil, List.replicate, List.cons_append, List.nil_append, List.append_nil, List.set_cons_zero, List.set_cons_succ, List.getElem?_cons_zero, List.getElem?_cons_succ, Nat.reduceAdd, Nat.reduceSub, Nat.reduceLT, Nat.reduceLeDiff, Nat.reduceEqDiff, Int.reduceNeg, Int.reduceAdd, Int.reduceSub, Int.reduceMul, Int.reducePow, Int.reduceToNat, Int.reduceLT, Int.reduceLE, Int.reduceEq, if_true, if_false, Bool.false_eq_true, decide_true, decide_false, true_and, and_true, Bool.not_true, Bool.not_false, List.set_nil, List.length_set, ne_eq, not_false_eq_true, reduceCtorEq, and_self, List.isEmpty_cons, List.isEmpty_nil, List.length_map, List.set_set, decide_eq_true_eq, List.getElem?_concat_length]
        exact hk _ _ ⟨j + 1, hj2, hus, pl, R, cs, p, ⟨D.M.push _, D.P.skip fun i h1 h2 => hz i h1 (by omega), D.dep, D.bt, by rw [List.getElem?_append_left (List.getElem?_eq_some_iff.1 D.hp).1]; exact D.hp, D.pr, D.pc, D.p0, D.old, D.keep.push _⟩, _, _, _, _, _, _, rfl⟩
      · have ha : pl.length < m := by omega
        have hcl : ∀ i, i < m → cs i < S4.length := fun i hi => D.M.lt hi
        have hpl : S0.length < S4.length := (List.getElem?_eq_some_iff.1 D.hp).1
        obtain ⟨rows2, hrows2⟩ : ∃ x, x = ((List.range m).map fun i => U.lst (if i = i0 then cs pl.length else if i = pl.length then cs i0 else cs i)) := ⟨_, rfl⟩
        have f1 : (S4 ++ [Cell.lst (.int i0 :: rest)])[r]? = some (.lst ((List.range m).map fun i => U.lst (cs i))) := by
          rw [List.getElem?_append_left hrS]; exact D.M.hr
        have f2 : ∀ x, ((S4 ++ [Cell.lst (.int i0 :: rest)]).set r x)[S4.length]? = some (.lst (.int i0 :: rest)) := fun x => by
          rw [List.getElem?_set_ne (by omega)]; exact List.getElem?_concat_length
        have f3 : ∀ x, ((S4 ++ [Cell.lst (.int i0 :: rest)]).set r x)[r]? = some x := fun x => List.getElem?_set_self (by rw [List.length_append]; omega)
        have f4 : ∀ x, ((S4 ++ [Cell.lst (.int i0 :: rest)]).set r x)[cs i0]? = some (.lst (vecU n (R i0))) := fun x => by
          rw [List.getElem?_set_ne (fun z => D.M.ne i0 him z.symm), List.getElem?_append_left (hcl i0 him)]
          exact D.M.hc i0 him
        have g1 := row_at (cs := cs) ha
        have g2 := row_at (cs := cs) him
        have g3 : L2.ixN m (pl.length : Int) = some pl.length := _root_.Q.ixN_nat m _ ha
        have g4 : L2.ixN m (i0 : Int) = some i0 := _root_.Q.ixN_nat m _ him
        have g5 : (((List.range m).map fun i => U.lst (cs i)).set pl.length (.lst (cs i0))).set i0 (.lst (cs pl.length)) = rows2 := by
          rw [map_set ha, map_set (cs := fun i => if i = pl.length then cs i0 else cs i) him, hrows2]
        have g6 : L2.atI rows2 (pl.length : Int) = some (.lst (cs i0)) := by
          rw [hrows2, row_at (cs := fun i => if i = i0 then cs pl.length else if i = pl.length then cs i0 else cs i) ha]
          by_cases e : pl.length = i0
          · rw [if_pos e, ← e]
          · rw [if_neg e, if_pos rfl]
        have g7 : L2.atI (vecU n (R i0)) (j : Int) = some (fr (R i0 j)) := vec_atI hj2
        have hfa := hfit pl.length ha
        have B0 := D.bt i0 j him hj2
        have smi := bt_smi B0 hne (by omega) (by omega)
        simp only [wpSs, wpS, wpE, wpEs, wpO, wpC, wpT, wpTg, wpTs, wpI, wipeU, startU, z_cell, z_slot, z_int, z_bl, z_tup, z_fn, z_lst, z_nil, z_cons, z_opt, z_optu, z_srct, z_srcl, z_bopi, z_bopt, z_bopl, z_bopm, z_add, z_sub, z_mul, z_div, z_mod, z_pow, z_auga, z_augs, z_augd, z_eqii, z_eqss, z_eqbb, z_eqtt, z_eqll, z_ceq, z_cne, z_clt, z_cle, z_cgt, z_cge, z_cin, z_cni, z_int_t, z_trn, z_trb, z_tri, z_trt, z_trl, z_ixt, z_ixl, z_slt, z_sll, z_sls, z_lent, z_lenl, z_abs, z_max, z_min, z_toi, z_tob, z_tut, z_tul, z_lit, z_lil, z_any, z_all, z_sum, z_app, z_set, z_isn, z_isb, z_isi, z_iss, z_ist, z_isl, z_revl, isNon, atI_0, atI_1, atI_2, atI_3, ixN_1, ixN_2, ixN_3, List.map_cons, List.map_nil, List.length_cons, List.length_nil, List.replicate, List.cons_append, List.nil_append, List.append_nil, List.set_cons_zero, List.set_cons_succ, List.getElem?_cons_zero, List.getElem?_cons_succ, Nat.reduceAdd, Nat.reduceSub, Nat.reduceLT, Nat.reduceLeDiff, Nat.reduceEqDiff, Int.reduceNeg, Int.reduceAdd, Int.reduceSub, Int.reduceMul, Int.reducePow, Int.reduceToNat, Int.reduceLT, Int.reduceLE, Int.reduceEq, if_true, if_false, Bool.false_eq_true, decide_true, decide_false, true_and, and_true, Bool.not_true, Bool.not_false, List.set_nil, List.length_set, ne_eq, not_false_eq_true, reduceCtorEq, and_self, List.isEmpty_cons, List.isEmpty_nil, List.length_map, List.set_set, decide_eq_true_eq, List.getElem?_concat_length, lenTs, f1, f2, f3, f4, g1, g2, g3, g4, g5, g6, g7, hs2, List.length_range]
        refine hI _ _ _ _ ⟨R i0 j, rfl, smi, ?_⟩
        simp only [wpSs, wpS, wpE, wpEs, wpO, wpC, wpT, wpTg, wpTs, wpI, wipeU, startU, z_cell, z_slot, z_int, z_bl, z_tup, z_fn, z_lst, z_nil, z_cons, z_opt, z_optu, z_srct, z_srcl, z_bopi, z_bopt, z_bopl, z_bopm, z_add, z_sub, z_mul, z_div, z_mod, z_pow, z_auga, z_augs, z_augd, z_eqii, z_eqss, z_eqbb, z_eqtt, z_eqll, z_ceq, z_cne, z_clt, z_cle, z_cgt, z_cge, z_cin, z_cni, z_int_t, z_trn, z_trb, z_tri, z_trt, z_trl, z_ixt, z_ixl, z_slt, z_sll, z_sls, z_lent, z_lenl, z_abs, z_max, z_min, z_toi, z_tob, z_tut, z_tul, z_lit, z_lil, z_any, z_all, z_sum, z_app, z_set, z_isn, z_isb, z_isi, z_iss, z_ist, z_isl, z_revl, isNon, atI_0, atI_1, atI_2, atI_3, ixN_1, ixN_2, ixN_3, List.map_cons, List.map_nil, List.length_cons, List.length_nil, List.replicate, List.cons_append, List.nil_append, List.append_nil, List.set_cons_zero, List.set_cons_succ, List.getElem?_cons_zero, List.getElem?_cons_succ, Nat.reduceAdd, Nat.reduceSub, Nat.reduceLT, Nat.reduceLeDiff, Nat.reduceEqDiff, Int.reduceNeg, Int.reduceAdd, Int.reduceSub, Int.reduceMul, Int.reducePow, Int.reduceToNat, Int.reduceLT, Int.reduceLE, Int.reduceEq, if_true, if_false, Bool.false_eq_true, decide_true, decide_false, true_and, and_true, Bool.not_true, Bool.not_false, List.set_nil, List.length_set, ne_eq, not_false_eq_true, reduceCtorEq, and_self, List.isEmpty_cons, List.isEmpty_nil, List.length_map, List.set_set, decide_eq_true_eq, f3, g6, f4]
        have Bs := B0.inv hne
        generalize hS5 : (S4 ++ [Cell.lst (.int i0 :: rest)]).set r (.lst rows2) = S5 at *
        have L5 : S5.length = S4.length + 1 := by rw [← hS5, List.length_set, List.length_append]; rfl
        have f5 : ∀ k, k < S4.length → k ≠ r → S5[k]? = S4[k]? := fun k hk hkr => by
          rw [← hS5, List.getElem?_set_ne (fun z => hkr z.symm), List.getElem?_append_left hk]
        have f6 : S5[r]? = some (.lst rows2) := by rw [← hS5]; exact f3 _
        have f7 : S5[cs i0]? = some (.lst (vecU n (R i0))) := by rw [← hS5]; exact f4 _
        refine lcL_ind (fun us acc S6 => S6 = S5 ∧ ∃ t : Nat, t ≤ n ∧ us = (vecU n (R i0)).drop t ∧ acc = vecU t fun l => (R i0 j)⁻¹ * R i0 l) ?_ ?_ ?_ _ _ _ ⟨rfl, 0, by omega, rfl, rfl⟩
        · rintro us acc S6 ⟨rfl, _⟩
          exact f7
        · rintro acc S6 ⟨rfl, t3, ht3, hu3, rfl⟩
          obtain rfl : t3 = n := map_end hu3 ht3
          have hlen2 : rows2.length = m := by rw [hrows2]; simp
          obtain ⟨cs3, hcs3⟩ : ∃ c, c = (fun i => if i = pl.length then S6.length else if i = i0 then cs pl.length else if i = pl.length then cs i0 else cs i) := ⟨_, rfl⟩
          have g8 : rows2.set pl.length (.lst S6.length) = (List.range m).map fun i => U.lst (cs3 i) := by
            rw [hrows2, map_set (cs := fun i => if i = i0 then cs pl.length else if i = pl.length then cs i0 else cs i) ha, hcs3]
          have g9 : (S6 ++ [Cell.lst (vecU t3 fun l => (R i0 j)⁻¹ * R i0 l)])[r]? = some (.lst rows2) := by
            rw [List.getElem?_append_left (by omega)]; exact f6
          have g10 : ∀ x, ((S6 ++ [Cell.lst (vecU t3 fun l => (R i0 j)⁻¹ * R i0 l)]).set r x)[r]? = some x := fun x => List.getElem?_set_self (by rw [List.length_append]; omega)
          simp only [wpSs, wpS, wpE, wpEs, wpO, wpC, wpT, wpTg, wpTs, wpI, wipeU, startU, z_cell, z_slot, z_int, z_bl, z_tup, z_fn, z_lst, z_nil, z_cons, z_opt, z_optu, z_srct, z_srcl, z_bopi, z_bopt, z_bopl, z_bopm, z_add, z_sub, z_mul, z_div, z_mod, z_pow, z_auga, z_augs, z_augd, z_eqii, z_eqss, z_eqbb, z_eqtt, z_eqll, z_ceq, z_cne, z_clt, z_cle, z_cgt, z_cge, z_cin, z_cni, z_int_t, z_trn, z_trb, z_tri, z_trt, z_trl, z_ixt, z_ixl, z_slt, z_sll, z_sls, z_lent, z_lenl, z_abs, z_max, z_min, z_toi, z_tob, z_tut, z_tul, z_lit, z_lil, z_any, z_all, z_sum, z_app, z_set, z_isn, z_isb, z_isi, z_iss, z_ist, z_isl, z_revl, isNon, atI_0, atI_1, atI_2, atI_3, ixN_1, ixN_2, ixN_3, List.map_cons, List.map_nil, List.length_cons, List.length_nil, List.replicate, List.cons_append, List.nil_append, List.append_nil, List.set_cons_zero, List.set_cons_succ, List.getElem?_cons_zero, List.getElem?_cons_succ, Nat.reduceAdd, Nat.reduceSub, Nat.reduceLT, Nat.reduceLeDiff, Nat.reduceEqDiff, Int.reduceNeg, Int.reduceAdd, Int.reduceSub, Int.reduceMul, Int.reducePow, Int.reduceToNat, Int.reduceLT, Int.reduceLE, Int.reduceEq, if_true, if_false, Bool.false_eq_true, decide_true, decide_false, true_and, and_true, Bool.not_true, Bool.not_false, List.set_nil, List.length_set, ne_eq, not_false_eq_true, reduceCtorEq, and_self, List.isEmpty_cons, List.isEmpty_nil, List.length_map, List.set_set, decide_eq_true_eq, g9, hlen2, g3, g8, g10, List.length_range]
          refine ⟨⟨by omega, by omega⟩, ?_⟩
          rw [Int.toNat_natCast]
          obtain ⟨S8, hS8⟩ : ∃ x, x = (S6 ++ [Cell.lst (vecU t3 fun l => (R i0 j)⁻¹ * R i0 l)]).set r (.lst ((List.range m).map fun i => U.lst (cs3 i))) := ⟨_, rfl⟩
          rw [← hS8]
          have L8 : S8.length = S4.length + 2 := by rw [hS8, List.length_set, List.length_append, L5]; rfl
          have f8 : ∀ k, k < S4.length → k ≠ r → S8[k]? = S4[k]? := fun k hk hkr => by
            rw [hS8, List.getElem?_set_ne (fun z => hkr z.symm), List.getElem?_append_left (by omega)]
            exact f5 k hk hkr
          have f9 : S8[S6.length]? = some (.lst (vecU t3 fun l => (R i0 j)⁻¹ * R i0 l)) := by
            rw [hS8, List.getElem?_set_ne (by omega)]; exact List.getElem?_concat_length
          have pa : ∀ l, piv R pl.length i0 j pl.length l = (R i0 j)⁻¹ * R i0 l := fun l => by
            unfold piv scl
            rw [if_pos rfl, swp_at]
          have pi : ∀ i, i ≠ pl.length → piv R pl.length i0 j i = if i = i0 then R pl.length else R i := fun i hi => by
            funext l
            unfold piv scl
            rw [if_neg hi]
            unfold swp
            rw [if_neg hi]
          have M8 : MatS S8 r m t3 (piv R pl.length i0 j) cs3 := by
            refine ⟨by rw [hS8]; exact g10 _, fun i hi => ?_, fun i i2 hi hi2 he => ?_, fun i hi => ?_⟩
            · rw [hcs3]
              dsimp only
              by_cases e : i = pl.length
              · rw [if_pos e, f9, e, vec_congr fun l _ => (pa l)]
              · rw [if_neg e, pi i e]
                by_cases e2 : i = i0
                · rw [if_pos e2, if_pos e2, f8 _ (hcl _ ha) (D.M.ne _ ha)]
                  exact D.M.hc _ ha
                · rw [if_neg e2, if_neg e, if_neg e2, f8 _ (hcl _ hi) (D.M.ne _ hi)]
                  exact D.M.hc _ hi
            · rw [hcs3] at he
              dsimp only at he
              have h1 := hcl _ ha
              have h2 := hcl _ hi
              have h3 := hcl _ hi2
              have j1 := fun h => D.M.inj i i2 hi hi2 h
              have j2 := fun h => D.M.inj pl.length i2 ha hi2 h
              have j3 := fun h => D.M.inj i pl.length hi ha h
              by_cases e1 : i = pl.length
              · rw [if_pos e1] at he
                by_cases e2 : i2 = pl.length
                · omega
                · rw [if_neg e2, if_neg e2] at he
                  split at he <;> omega
              · rw [if_neg e1, if_neg e1] at he
                by_cases e2 : i2 = pl.length
                · rw [if_pos e2] at he
                  split at he <;> omega
                · rw [if_neg e2, if_neg e2] at he
                  by_cases e3 : i = i0
                  · rw [if_pos e3] at he
                    by_cases e4 : i2 = i0
                    · omega
                    · rw [if_neg e4] at he
                      have := j2 he
                      omega
                  · rw [if_neg e3] at he
                    by_cases e4 : i2 = i0
                    · rw [if_pos e4] at he
                      have := j3 he
                      omega
                    · rw [if_neg e4] at he
                      exact j1 he
            · rw [hcs3]
              dsimp only
              have h1 := D.M.ne _ ha
              have h2 := D.M.ne _ hi
              split
              · omega
              · split
                · exact h1
                · exact h2
          have p8 : S8[S0.length]? = some (.lst pl) := by
            rw [f8 _ hpl D.pr]; exact D.hp
          have pc8 : ∀ i, i < m → cs3 i ≠ S0.length := fun i hi => by
            rw [hcs3]
            dsimp only
            have h1 := D.pc _ ha
            have h2 := D.pc _ hi
            split
            · omega
            · split
              · exact h1
              · exact h2
          have o8 : ∀ i, i < m → (∃ l, l < m ∧ cs3 i = cs0 l) ∨ S0.length ≤ cs3 i := fun i hi => by
            rw [hcs3]
            dsimp only
            have h1 := D.old _ ha
            have h2 := D.old _ hi
            split
            · right; omega
            · split
              · exact h1
              · exact h2
          have k8 : Keep (fun i => i ≠ r ∧ ∀ k, k < m → i ≠ cs0 k) S0 S8 := by
            rw [hS8, ← hS5]
            exact (((D.keep.push _).set _ (fun _ h => h.1 rfl)).push _).set _ (fun _ h => h.1 rfl)
          have bA : ∀ l, l < t3 → Bt ((els A0 pl.length).2 + 1 + (els A0 pl.length).1) ((els A0 pl.length).1 + (els A0 pl.length).2) (piv R pl.length i0 j pl.length l) := fun l hl => by
            rw [pa]; exact Bs.mul (D.bt i0 l him hl)
          have bP : ∀ i l, i < m → l < t3 → i ≠ pl.length → Bt (els A0 pl.length).1 (els A0 pl.length).2 (piv R pl.length i0 j i l) := fun i l hi hl hne2 => by
            rw [pi i hne2]
            split
            · exact D.bt _ l ha hl
            · exact D.bt _ l hi hl
          refine forL_ind (fun us σ S9 => ∃ t : Nat, t ≤ m ∧ us = (rngL 0 m).drop t ∧ MatS S9 r m t3 (clr (piv R pl.length i0 j) pl.length j t) cs3 ∧ S9[S0.length]? = some (.lst pl) ∧ Keep (fun i => i ≠ r ∧ ∀ k, k < m → i ≠ cs0 k) S0 S9 ∧ ∃ o8 o9 : Option U, σ = [some qd, some (.lst r), some (.int t3), some (.lst S0.length), some (.int j), some (.int pl.length), some (.lst S4.length), some (fr (R i0 j)⁻¹), o8, o9]) ?_ ?_ ?_ _ _ _
            ⟨0, by omega, rfl, M8.congr fun i l _ _ => by unfold clr; rw [if_neg (by omega)], p8, k8, _, _, rfl⟩
          · intros; trivial
          · rintro σ S9 ⟨t, ht5, hu5, M9, p9, k9, q8, q9, rfl⟩
            obtain rfl := rng_end hu5 ht5
            have hpl2 : pl.length < sizeLine := Nat.lt_of_lt_of_le (show pl.length < 7 by omega) (by decide)
            simp only [wpSs, wpS, wpE, wpEs, wpO, wpC, wpT, wpTg, wpTs, wpI, wipeU, startU, z_cell, z_slot, z_int, z_bl, z_tup, z_fn, z_lst, z_nil, z_cons, z_opt, z_optu, z_srct, z_srcl, z_bopi, z_bopt, z_bopl, z_bopm, z_add, z_sub, z_mul, z_div, z_mod, z_pow, z_auga, z_augs, z_augd, z_eqii, z_eqss, z_eqbb, z_eqtt, z_eqll, z_ceq, z_cne, z_clt, z_cle, z_cgt, z_cge, z_cin, z_cni, z_int_t, z_trn, z_trb, z_tri, z_trt, z_trl, z_ixt, z_ixl, z_slt, z_sll, z_sls, z_lent, z_lenl, z_abs, z_max, z_min, z_toi, z_tob, z_tut, z_tul, z_lit, z_lil, z_any, z_all, z_sum, z_app, z_set, z_isn, z_isb, z_isi, z_iss, z_ist, z_isl, z_revl, isNon, atI_0, atI_1, atI_2, atI_3, ixN_1, ixN_2, ixN_3, List.map_cons, List.map_nil, List.length_cons, List.length_nil, List.replicate, List.cons_append, List.nil_append, List.append_nil, List.set_cons_zero, List.set_cons_succ, List.getElem?_cons_zero, List.getElem?_cons_succ, Nat.reduceAdd, Nat.reduceSub, Nat.reduceLT, Nat.reduceLeDiff, Nat.reduceEqDiff, Int.reduceNeg, Int.reduceAdd, Int.reduceSub, Int.reduceMul, Int.reducePow, Int.reduceToNat, Int.reduceLT, Int.reduceLE, Int.reduceEq, if_true, if_false, Bool.false_eq_true, decide_true, decide_false, true_and, and_true, Bool.not_true, Bool.not_false, List.set_nil, List.length_set, ne_eq, not_false_eq_true, reduceCtorEq, and_self, List.isEmpty_cons, List.isEmpty_nil, List.length_map, List.set_set, decide_eq_true_eq, p9]
            refine ⟨hpl2, ?_⟩
            refine hk _ _ ⟨j + 1, hj2, hus, pl ++ [.int j], clr (piv R pl.length i0 j) pl.length j t, cs3, fun x => if x = pl.length then j else p x, ?_, _, _, _, _, _, _, rfl⟩
            have hl1 : (pl ++ [U.int j]).length = pl.length + 1 := by simp
            refine ⟨M9.other _ D.pr pc8, by rw [hl1]; exact D.P.step ha hi0 him hne, (step_iff ha him hne).trans D.dep, fun i l hi hl => ?_, List.getElem?_set_self (List.getElem?_eq_some_iff.1 p9).1, D.pr, pc8, D.p0, o8, k9.set _ (fun h => absurd h (by omega))⟩
            rw [hl1]
            show Bt (2 * (els A0 pl.length).1 + 2 * (els A0 pl.length).2 + 2) ((els A0 pl.length).1 + 3 * (els A0 pl.length).2) _
            unfold clr
            by_cases e : i = pl.length
            · rw [if_neg (by omega), e]
              exact (bA l hl).mono (by omega) (by omega)
            · rw [if_pos ⟨hi, e⟩]
              have h1 := bP i l hi hl e
              have h2 := ((bP i j hi hj2 e).neg).mul (bA l hl)
              exact (h1.add (C := 2 * (els A0 pl.length).1 + 2 * (els A0 pl.length).2 + 1) h2 (by omega) (by omega)).mono (by omega) (by omega)
          · rintro u5 us5 σ S9 k5 ⟨t, ht5, hu5, M9, p9, k9, q8, q9, rfl⟩ hk5
            obtain ⟨ht6, rfl, hus5⟩ := rng_drop hu5
            have et : (0 + (t : Int)) = t := by omega
            have r1 := row_at (cs := cs3) ht6
            have r2 := vec_atI (u := clr (piv R pl.length i0 j) pl.length j t t) hj2
            rw [et]
            by_cases e : t = pl.length
            · have ee : ((t : Int) = (pl.length : Int)) := by omega
              simp only [wpSs, wpS, wpE, wpEs, wpO, wpC, wpT, wpTg, wpTs, wpI, wipeU, startU, z_cell, z_slot, z_int, z_bl, z_tup, z_fn, z_lst, z_nil, z_cons, z_opt, z_optu, z_srct, z_srcl, z_bopi, z_bopt, z_bopl, z_bopm, z_add, z_sub, z_mul, z_div, z_mod, z_pow, z_auga, z_augs, z_augd, z_eqii, z_eqss, z_eqbb, z_eqtt, z_eqll, z_ceq, z_cne, z_clt, z_cle, z_cgt, z_cge, z_cin, z_cni, z_int_t, z_trn, z_trb, z_tri, z_trt, z_trl, z_ixt, z_ixl, z_slt, z_sll, z_sls, z_lent, z_lenl, z_abs, z_max, z_min, z_toi, z_tob, z_tut, z_tul, z_lit, z_lil, z_any, z_all, z_sum, z_app, z_set, z_isn, z_isb, z_isi, z_iss, z_ist, z_isl, z_revl, isNon, atI_0, atI_1, atI_2, atI_3, ixN_1, ixN_2, ixN_3, List.map_cons, List.map_nil, List.length_cons, List.length_nil, List.replicate, List.cons_append, List.nil_append, List.append_nil, List.set_cons_zero, List.set_cons_succ, List.getElem?_cons_zero, List.getElem?_cons_succ, Nat.reduceAdd, Nat.reduceSub, Nat.reduceLT, Nat.reduceLeDiff, Nat.reduceEqDiff, Int.reduceNeg, Int.reduceAdd, Int.reduceSub, Int.reduceMul, Int.reducePow, Int.reduceToNat, Int.reduceLT, Int.reduceLE, Int.reduceEq, if_true, if_false, Bool.false_eq_true, decide_true, decide_false, true_and, and_true, Bool.not_true, Bool.not_false, List.set_nil, List.length_set, ne_eq, not_false_eq_true, reduceCtorEq, and_self, List.isEmpty_cons, List.isEmpty_nil, List.length_map, List.set_set, decide_eq_true_eq, ee]
              refine hk5 _ _ ⟨t + 1, ht6, hus5, M9.congr fun i l _ _ => ?_, p9, k9, _, _, rfl⟩
              unfold clr
              by_cases h : i < t ∧ i ≠ pl.length
              · rw [if_pos h, if_pos ⟨by omega, h.2⟩]
              · rw [if_neg h, if_neg (by omega)]
            · have ee : ¬ ((t : Int) = (pl.length : Int)) := by omega
              have ct : clr (piv R pl.length i0 j) pl.length j t t = piv R pl.length i0 j t := by
                funext l
                unfold clr
                rw [if_neg (by omega)]
              have ca : clr (piv R pl.length i0 j) pl.length j t pl.length = piv R pl.length i0 j pl.length := by
                funext l
                unfold clr
                rw [if_neg (by omega)]
              simp only [wpSs, wpS, wpE, wpEs, wpO, wpC, wpT, wpTg, wpTs, wpI, wipeU, startU, z_cell, z_slot, z_int, z_bl, z_tup, z_fn, z_lst, z_nil, z_cons, z_opt, z_optu, z_srct, z_srcl, z_bopi, z_bopt, z_bopl, z_bopm, z_add, z_sub, z_mul, z_div, z_mod, z_pow, z_auga, z_augs, z_augd, z_eqii, z_eqss, z_eqbb, z_eqtt, z_eqll, z_ceq, z_cne, z_clt, z_cle, z_cgt, z_cge, z_cin, z_cni, z_int_t, z_trn, z_trb, z_tri, z_trt, z_trl, z_ixt, z_ixl, z_slt, z_sll, z_sls, z_lent, z_lenl, z_abs, z_max, z_min, z_toi, z_tob, z_tut, z_tul, z_lit, z_lil, z_any, z_all, z_sum, z_app, z_set, z_isn, z_isb, z_isi, z_iss, z_ist, z_isl, z_revl, isNon, atI_0, atI_1, atI_2, atI_3, ixN_1, ixN_2, ixN_3, List.map_cons, List.map_nil, List.length_cons, List.length_nil, List.replicate, List.cons_append, List.nil_append, List.append_nil, List.set_cons_zero, List.set_cons_succ, List.getElem?_cons_zero, List.getElem?_cons_succ, Nat.reduceAdd, Nat.reduceSub, Nat.reduceLT, Nat.reduceLeDiff, Nat.reduceEqDiff, Int.reduceNeg, Int.reduceAdd, Int.reduceSub, Int.reduceMul, Int.reducePow, Int.reduceToNat, Int.reduceLT, Int.reduceLE, Int.reduceEq, if_true, if_false, Bool.false_eq_true, decide_true, decide_false, true_and, and_true, Bool.not_true, Bool.not_false, List.set_nil, List.length_set, ne_eq, not_false_eq_true, reduceCtorEq, and_self, List.isEmpty_cons, List.isEmpty_nil, List.length_map, List.set_set, decide_eq_true_eq, ee, M9.hr, r1, M9.hc t ht6, r2]
              refine hZ _ _ _ _ ⟨rfl, ?_⟩
              dsimp only
              rw [z_eqfr]
              by_cases hz : clr (piv R pl.length i0 j) pl.length j t t j = 0
              · simp only [wpSs, wpS, wpE, wpEs, wpO, wpC, wpT, wpTg, wpTs, wpI, wipeU, startU, z_cell, z_slot, z_int, z_bl, z_tup, z_fn, z_lst, z_nil, z_cons, z_opt, z_optu, z_srct, z_srcl, z_bopi, z_bopt, z_bopl, z_bopm, z_add, z_sub, z_mul, z_div, z_mod, z_pow, z_auga, z_augs, z_augd, z_eqii, z_eqss, z_eqbb, z_eqtt, z_eqll, z_ceq, z_cne, z_clt, z_cle, z_cgt, z_cge, z_cin, z_cni, z_int_t, z_trn, z_trb, z_tri, z_trt, z_trl, z_ixt, z_ixl, z_slt, z_sll, z_sls, z_lent, z_lenl, z_abs, z_max, z_min, z_toi, z_tob, z_tut, z_tul, z_lit, z_lil, z_any, z_all, z_sum, z_app, z_set, z_isn, z_isb, z_isi, z_iss, z_ist, z_isl, z_revl, isNon, atI_0, atI_1, atI_2, atI_3, ixN_1, ixN_2, ixN_3, List.map_cons, List.map_nil, List.length_cons, List.length_nil, List.replicate, List.cons_append, List.nil_append, List.append_nil, List.set_cons_zero, List.set_cons_succ, List.getElem?_cons_zero, List.getElem?_cons_succ, Nat.reduceAdd, Nat.reduceSub, Nat.reduceLT, Nat.reduceLeDiff, Nat.reduceEqDiff, Int.reduceNeg, Int.reduceAdd, Int.reduceSub, Int.reduceMul, Int.reducePow, Int.reduceToNat, Int.reduceLT, Int.reduceLE, Int.reduceEq, if_true, if_false, Bool.false_eq_true, decide_true, decide_false, true_and, and_true, Bool.not_true, Bool.not_false, List.set_nil, List.length_set, ne_eq, not_false_eq_true, reduceCtorEq, and_self, List.isEmpty_cons, List.isEmpty_nil, List.length_map, List.set_set, decide_eq_true_eq, hz]
                refine hk5 _ _ ⟨t + 1, ht6, hus5, M9.congr fun i l hi hl => ?_, p9, k9, _, _, rfl⟩
                rw [ct] at hz
                unfold clr
                by_cases h : i < t ∧ i ≠ pl.length
                · rw [if_pos h, if_pos ⟨by omega, h.2⟩]
                · rw [if_neg h]
                  by_cases h2 : i = t
                  · rw [if_pos ⟨by omega, by omega⟩, h2, hz]; grind
                  · rw [if_neg (by omega)]
              · simp only [wpSs, wpS, wpE, wpEs, wpO, wpC, wpT, wpTg, wpTs, wpI, wipeU, startU, z_cell, z_slot, z_int, z_bl, z_tup, z_fn, z_lst, z_nil, z_cons, z_opt, z_optu, z_srct, z_srcl, z_bopi, z_bopt, z_bopl, z_bopm, z_add, z_sub, z_mul, z_div, z_mod, z_pow, z_auga, z_augs, z_augd, z_eqii, z_eqss, z_eqbb, z_eqtt, z_eqll, z_ceq, z_cne, z_clt, z_cle, z_cgt, z_cge, z_cin, z_cni, z_int_t, z_trn, z_trb, z_tri, z_trt, z_trl, z_ixt, z_ixl, z_slt, z_sll, z_sls, z_lent, z_lenl, z_abs, z_max, z_min, z_toi, z_tob, z_tut, z_tul, z_lit, z_lil, z_any, z_all, z_sum, z_app, z_set, z_isn, z_isb, z_isi, z_iss, z_ist, z_isl, z_revl, isNon, atI_0, atI_1, atI_2, atI_3, ixN_1, ixN_2, ixN_3, List.map_cons, List.map_nil, List.length_cons, List.length_nil, List.replicate, List.cons_append, List.nil_append, List.append_nil, List.set_cons_zero, List.set_cons_succ, List.getElem?_cons_zero, List.getElem?_cons_succ, Nat.reduceAdd, Nat.reduceSub, Nat.reduceLT, Nat.reduceLeDiff, Nat.reduceEqDiff, Int.reduceNeg, Int.reduceAdd, Int.reduceSub, Int.reduceMul, Int.reducePow, Int.reduceToNat, Int.reduceLT, Int.reduceLE, Int.reduceEq, if_true, if_false, Bool.false_eq_true, decide_true, decide_false, true_and, and_true, Bool.not_true, Bool.not_false, List.set_nil, List.length_set, ne_eq, not_false_eq_true, reduceCtorEq, and_self, List.isEmpty_cons, List.isEmpty_nil, List.length_map, List.set_set, decide_eq_true_eq, hz, M9.hr, r1, M9.hc t ht6, r2]
                refine hN _ _ _ _ ⟨_, rfl, ?_⟩
                have Bx := (bP t j ht6 hj2 e).neg
                refine hR _ _ _ _ ⟨r, m, t3, t, pl.length, _, cs3, _, rfl, M9, ht6, ha, e, by rw [ct]; exact bt_sm Bx (by omega) (by omega), fun l hl => ?_, ?_⟩
                · rw [ct, ca]
                  exact ⟨bt_sm (bP t l ht6 hl e) (by omega) (by omega), bt_sm (bA l hl) (by omega) (by omega), bt_sm (Bx.mul (bA l hl)) (by omega) (by omega)⟩
                · refine hk5 _ _ ⟨t + 1, ht6, hus5, (M9.wr ht6 _).congr fun i l hi hl => ?_, ?_, k9.set _ (fun h => ?_), _, _, rfl⟩
                  · by_cases h2 : i = t
                    · rw [if_pos h2, ct, ca, h2]
                      unfold clr
                      rw [if_pos ⟨by omega, by omega⟩]
                    · rw [if_neg h2]
                      unfold clr
                      by_cases h : i < t ∧ i ≠ pl.length
                      · rw [if_pos h, if_pos ⟨by omega, h.2⟩]
                      · rw [if_neg h, if_neg (by omega)]
                  · rw [List.getElem?_set_ne (pc8 t ht6)]
                    exact p9
                  · rcases o8 t ht6 with ⟨l, hl, he⟩ | h3
                    · exact fun z => z.2 l hl he
                    · omega
        · rintro u3 us3 acc S6 k3 ⟨rfl, t3, ht3, hu3, rfl⟩ ks3 kn3
          obtain ⟨ht4, rfl, hus3⟩ := map_drop hu3
          refine hM _ _ _ _ ⟨(R i0 j)⁻¹, R i0 t3, rfl, bt_sm Bs (by omega) (by omega), bt_sm (D.bt i0 t3 him ht4) (by omega) (by omega), ?_⟩
          refine ks3 _ _ (by rw [vec_len]; exact Nat.lt_of_lt_of_le (show t3 < 7 by omega) (by decide)) ⟨rfl, t3 + 1, ht4, hus3, ?_⟩
          rw [vec_push]
    · rintro u2 us2 acc S4 k2 ⟨rfl, t, ht, hu2, hal, hcase⟩ ks kn
      obtain ⟨ht2, rfl, hus2⟩ := rng_drop hu2
      have hit : pl.length + t < m := by omega
      have ei : (pl.length : Int) + (t : Int) = ((pl.length + t : Nat) : Int) := by omega
      have q1 := row_at (cs := cs) hit
      have q2 := vec_atI (u := R (pl.length + t)) hj2
      rw [ei]
      simp only [wpSs, wpS, wpE, wpEs, wpO, wpC, wpT, wpTg, wpTs, wpI, wipeU, startU, z_cell, z_slot, z_int, z_bl, z_tup, z_fn, z_lst, z_nil, z_cons, z_opt, z_optu, z_srct, z_srcl, z_bopi, z_bopt, z_bopl, z_bopm, z_add, z_sub, z_mul, z_div, z_mod, z_pow, z_auga, z_augs, z_augd, z_eqii, z_eqss, z_eqbb, z_eqtt, z_eqll, z_ceq, z_cne, z_clt, z_cle, z_cgt, z_cge, z_cin, z_cni, z_int_t, z_trn, z_trb, z_tri, z_trt, z_trl, z_ixt, z_ixl, z_slt, z_sll, z_sls, z_lent, z_lenl, z_abs, z_max, z_min, z_toi, z_tob, z_tut, z_tul, z_lit, z_lil, z_any, z_all, z_sum, z_app, z_set, z_isn, z_isb, z_isi, z_iss, z_ist, z_isl, z_revl, isNon, atI_0, atI_1, atI_2, atI_3, ixN_1, ixN_2, ixN_3, List.map_cons, List.map_nil, List.length_cons, List.length_nil, List.replicate, List.cons_append, List.nil_append, List.append_nil, List.set_cons_zero, List.set_cons_succ, List.getElem?_cons_zero, List.getElem?_cons_succ, Nat.reduceAdd, Nat.reduceSub, Nat.reduceLT, Nat.reduceLeDiff, Nat.reduceEqDiff, Int.reduceNeg, Int.reduceAdd, Int.reduceSub, Int.reduceMul, Int.reducePow, Int.reduceToNat, Int.reduceLT, Int.reduceLE, Int.reduceEq, if_true, if_false, Bool.false_eq_true, decide_true, decide_false, true_and, and_true, Bool.not_true, Bool.not_false, List.set_nil, List.length_set, ne_eq, not_false_eq_true, reduceCtorEq, and_self, List.isEmpty_cons, List.isEmpty_nil, List.length_map, List.set_set, decide_eq_true_eq, D.M.hr, q1, D.M.hc _ hit, q2]
      refine hZ _ _ _ _ ⟨rfl, ?_⟩
      dsimp only
      rw [z_eqfr]
      by_cases hz : R (pl.length + t) j = 0
      · simp only [wpSs, wpS, wpE, wpEs, wpO, wpC, wpT, wpTg, wpTs, wpI, wipeU, startU, z_cell, z_slot, z_int, z_bl, z_tup, z_fn, z_lst, z_nil, z_cons, z_opt, z_optu, z_srct, z_srcl, z_bopi, z_bopt, z_bopl, z_bopm, z_add, z_sub, z_mul, z_div, z_mod, z_pow, z_auga, z_augs, z_augd, z_eqii, z_eqss, z_eqbb, z_eqtt, z_eqll, z_ceq, z_cne, z_clt, z_cle, z_cgt, z_cge, z_cin, z_cni, z_int_t, z_trn, z_trb, z_tri, z_trt, z_trl, z_ixt, z_ixl, z_slt, z_sll, z_sls, z_lent, z_lenl, z_abs, z_max, z_min, z_toi, z_tob, z_tut, z_tul, z_lit, z_lil, z_any, z_all, z_sum, z_app, z_set, z_isn, z_isb, z_isi, z_iss, z_ist, z_isl, z_revl, isNon, atI_0, atI_1, atI_2, atI_3, ixN_1, ixN_2, ixN_3, List.map_cons, List.map_nil, List.length_cons, List.length_nil, List.replicate, List.cons_append, List.nil_append, List.append_nil, List.set_cons_zero, List.set_cons_succ, List.getElem?_cons_zero, List.getElem?_cons_succ, Nat.reduceAdd, Nat.reduceSub, Nat.reduceLT, Nat.reduceLeDiff, Nat.reduceEqDiff, Int.reduceNeg, Int.reduceAdd, Int.reduceSub, Int.reduceMul, Int.reducePow, Int.reduceToNat, Int.reduceLT, Int.reduceLE, Int.reduceEq, if_true, if_false, Bool.false_eq_true, decide_true, decide_false, true_and, and_true, Bool.not_true, Bool.not_false, List.set_nil, List.length_set, ne_eq, not_false_eq_true, reduceCtorEq, and_self, List.isEmpty_cons, List.isEmpty_nil, List.length_map, List.set_set, decide_eq_true_eq, hz]
        refine kn _ ⟨rfl, t + 1, ht2, hus2, by omega, ?_⟩
        rcases hcase with ⟨rfl, hz0⟩ | h
        · exact .inl ⟨rfl, fun i h1 h2 => by
            by_cases e : i = pl.length + t
            · rw [e]; exact hz
            · exact hz0 i h1 (by omega)⟩
        · exact .inr h
      · simp only [wpSs, wpS, wpE, wpEs, wpO, wpC, wpT, wpTg, wpTs, wpI, wipeU, startU, z_cell, z_slot, z_int, z_bl, z_tup, z_fn, z_lst, z_nil, z_cons, z_opt, z_optu, z_srct, z_srcl, z_bopi, z_bopt, z_bopl, z_bopm, z_add, z_sub, z_mul, z_div, z_mod, z_pow, z_auga, z_augs, z_augd, z_eqii, z_eqss, z_eqbb, z_eqtt, z_eqll, z_ceq, z_cne, z_clt, z_cle, z_cgt, z_cge, z_cin, z_cni, z_int_t, z_trn, z_trb, z_tri, z_trt, z_trl, z_ixt, z_ixl, z_slt, z_sll, z_sls, z_lent, z_lenl, z_abs, z_max, z_min, z_toi, z_tob, z_tut, z_tul, z_lit, z_lil, z_any, z_all, z_sum, z_app, z_set, z_isn, z_isb, z_isi, z_iss, z_ist, z_isl, z_revl, isNon, atI_0, atI_1, atI_2, atI_3, ixN_1, ixN_2, ixN_3, List.map_cons, List.map_nil, List.length_cons, List.length_nil, List.replicate, List.cons_append, List.nil_append, List.append_nil, List.set_cons_zero, List.set_cons_succ, List.getElem?_cons_zero, List.getElem?_cons_succ, Nat.reduceAdd, Nat.reduceSub, Nat.reduceLT, Nat.reduceLeDiff, Nat.reduceEqDiff, Int.reduceNeg, Int.reduceAdd, Int.reduceSub, Int.reduceMul, Int.reducePow, Int.reduceToNat, Int.reduceLT, Int.reduceLE, Int.reduceEq, if_true, if_false, Bool.false_eq_true, decide_true, decide_false, true_and, and_true, Bool.not_true, Bool.not_false, List.set_nil, List.length_set, ne_eq, not_false_eq_true, reduceCtorEq, and_self, List.isEmpty_cons, List.isEmpty_nil, List.length_map, List.set_set, decide_eq_true_eq, hz]
        refine ks _ _ (Nat.lt_of_lt_of_le (show acc.length < 7 by omega) (by decide)) ⟨rfl, t + 1, ht2, hus2, by simp; omega, ?_⟩
        rcases hcase with ⟨rfl, hz0⟩ | ⟨i0, rest, rfl, h1, h2, h3⟩
        · exact .inr ⟨pl.length + t, [], rfl, by omega, hit, hz⟩
        · exact .inr ⟨i0, rest ++ [.int ((pl.length + t : Nat) : Int)], rfl, h1, h2, h3⟩
    · have : ((m : Int) - (pl.length : Int)).toNat = m - pl.length := by omega
      rw [this]; rfl
end K70

set_option Elab.async false
set_option linter.all false
set_option maxRecDepth 100000
set_option maxHeartbeats 4000000
namespace K70
open PySem PySem.Spec L2 Q GSM
abbrev All (S S2 : Sto) : Prop := Keep (fun _ => True) S S2
theorem Keep.trans {P : Nat → Prop} {S S1 S2 : Sto} (a : Keep P S S1) (b : Keep P S1 S2) : Keep P S S2 :=
  ⟨Nat.le_trans a.len b.len, fun i hi hp => (b.same i (Nat.lt_of_lt_of_le hi a.len) hp).trans (a.same i hi hp)⟩
def spPiv : FSpec := fun us S Q _ => ∃ (m n A0 : Nat) (R : Nat → Nat → Rat), us = [qd, qMat m n R] ∧ m ≤ 6 ∧ n ≤ 7 ∧ Fit A0 m ∧ (∀ i j, i < m → j < n → Bt A0 0 (R i j)) ∧
  ∀ r pl S2, (Dep m n R ↔ pl.length ≠ m) → All S S2 → Q (.tup [.lst r, .tup pl]) S2
theorem w_pivots_of (G : Gm) (hF : Has G "need_field" spNF) (hE : Has G "eliminate" spElim) : Pf G n_pivots_of i_pivots_of spPiv := by
  rintro us S Q X ⟨m, n, A0, R, rfl, hm, hn, hfit, hb, hQ⟩
  obtain ⟨sF, eF, hF⟩ := hF
  obtain ⟨sE, eE, hE⟩ := hE
  have hs2 : 2 ≤ sizeLine := by decide
  simp only [wpSs, wpS, wpE, wpEs, wpO, wpC, wpT, wpTg, wpTs, wpI, wipeU, startU, z_cell, z_slot, z_int, z_bl, z_tup, z_fn, z_lst, z_nil, z_cons, z_opt, z_optu, z_srct, z_srcl, z_bopi, z_bopt, z_bopl, z_bopm, z_add, z_sub, z_mul, z_div, z_mod, z_pow, z_auga, z_augs, z_augd, z_eqii, z_eqss, z_eqbb, z_eqtt, z_eqll, z_ceq, z_cne, z_clt, z_cle, z_cgt, z_cge, z_cin, z_cni, z_int_t, z_trn, z_trb, z_tri, z_trt, z_trl, z_ixt, z_ixl, z_slt, z_sll, z_sls, z_lent, z_lenl, z_abs, z_max, z_min, z_toi, z_tob, z_tut, z_tul, z_lit, z_lil, z_any, z_all, z_sum, z_app, z_set, z_isn, z_isb, z_isi, z_iss, z_ist, z_isl, z_revl, isNon, atI_0, atI_1, atI_2, atI_3, ixN_1, ixN_2, ixN_3, List.map_cons, List.map_nil, List.length_cons, List.length_nil, List.replicate, List.cons_append, List.nil_append, List.append_nil, List.set_cons_zero, List.set_cons_succ, List.getElem?_cons_zero, List.getElem?_cons_succ, Nat.reduceAdd, Nat.reduceSub, Nat.reduceLT, Nat.reduceLeDiff, Nat.reduceEqDiff, Int.reduceNeg, Int.reduceAdd, Int.reduceSub, Int.reduceMul, Int.reducePow, Int.reduceToNat, Int.reduceLT, Int.reduceLE, Int.reduceEq, if_true, if_false, Bool.false_eq_true, decide_true, decide_false, true_and, and_true, Bool.not_true, Bool.not_false, List.set_nil, List.length_set, ne_eq, not_false_eq_true, reduceCtorEq, and_self, List.isEmpty_cons, List.isEmpty_nil, List.length_map, List.set_set, decide_eq_true_eq, n_pivots_of, i_pivots_of, eF, eE]
  refine hF _ _ _ _ ⟨rfl, ?_⟩
  unfold qMat
  simp only [wpSs, wpS, wpE, wpEs, wpO, wpC, wpT, wpTg, wpTs, wpI, wipeU, startU, z_cell, z_slot, z_int, z_bl, z_tup, z_fn, z_lst, z_nil, z_cons, z_opt, z_optu, z_srct, z_srcl, z_bopi, z_bopt, z_bopl, z_bopm, z_add, z_sub, z_mul, z_div, z_mod, z_pow, z_auga, z_augs, z_augd, z_eqii, z_eqss, z_eqbb, z_eqtt, z_eqll, z_ceq, z_cne, z_clt, z_cle, z_cgt, z_cge, z_cin, z_cni, z_int_t, z_trn, z_trb, z_tri, z_trt, z_trl, z_ixt, z_ixl, z_slt, z_sll, z_sls, z_lent, z_lenl, z_abs, z_max, z_min, z_toi, z_tob, z_tut, z_tul, z_lit, z_lil, z_any, z_all, z_sum, z_app, z_set, z_isn, z_isb, z_isi, z_iss, z_ist, z_isl, z_revl, isNon, atI_0, atI_1, atI_2, atI_3, ixN_1, ixN_2, ixN_3, List.map_cons, List.map_nil, List.length_cons, List.length_nil, List.replicate, List.cons_append, List.nil_append, List.append_nil, List.set_cons_zero, List.set_cons_succ, List.getElem?_cons_zero, List.getElem?_cons_succ, Nat.reduceAdd, Nat.reduceSub, Nat.reduceLT, Nat.reduceLeDiff, Nat.reduceEqDiff, Int.reduceNeg, Int.reduceAdd, Int.reduceSub, Int.reduceMul, Int.reducePow, Int.reduceToNat, Int.reduceLT, Int.reduceLE, Int.reduceEq, if_true, if_false, Bool.false_eq_true, decide_true, decide_false, true_and, and_true, Bool.not_true, Bool.not_false, List.set_nil, List.length_set, ne_eq, not_false_eq_true, reduceCtorEq, and_self, List.isEmpty_cons, List.isEmpty_nil, List.length_map, List.set_set, decide_eq_true_eq]
  refine lcL_ind (fun us acc S4 => ∃ i : Nat, i ≤ m ∧ us = ((List.range m).map fun i => U.tup (vecU n (R i))).drop i ∧ acc = ((List.range i).map fun i => U.lst (S.length + i)) ∧ S4 = S ++ (List.range i).map fun i => Cell.lst (vecU n (R i))) ?_ ?_ ?_ _ _ _ ⟨0, by omega, rfl, rfl, by simp⟩
  · intros; trivial
  · rintro acc S4 ⟨i, hi, hu, rfl, rfl⟩
    obtain rfl := map_end hu hi
    have len4 : (S ++ (List.range i).map fun i => Cell.lst (vecU n (R i))).length = S.length + i := by simp
    refine hE _ _ _ _ ⟨_, i, n, A0, R, fun k => S.length + k, rfl, ⟨List.getElem?_concat_length, fun k hk => ?_, fun _ _ _ _ h => by omega, fun k hk => by omega⟩, hm, hn, hfit, hb, fun pl S2 _ hd hk => ?_⟩
    · rw [List.getElem?_append_left (by omega), List.getElem?_append_right (by omega), show S.length + k - S.length = k by omega, List.getElem?_map, List.getElem?_range hk]; rfl
    · refine ⟨hs2, hQ _ pl S2 hd ⟨?_, fun k h1 _ => ?_⟩⟩
      · have := hk.len
        rw [List.length_append, len4] at this
        omega
      · have h2 := hk.same k (by rw [List.length_append, len4]; omega) ⟨by rw [len4]; omega, fun l _ => by show k ≠ S.length + l; omega⟩
        rw [h2, List.getElem?_append_left (by omega), List.getElem?_append_left h1]
  · rintro u us acc S4 k2 ⟨i, hi, hu, rfl, rfl⟩ ks kn
    obtain ⟨hi2, rfl, hus⟩ := map_drop hu
    simp only [wpSs, wpS, wpE, wpEs, wpO, wpC, wpT, wpTg, wpTs, wpI, wipeU, startU, z_cell, z_slot, z_int, z_bl, z_tup, z_fn, z_lst, z_nil, z_cons, z_opt, z_optu, z_srct, z_srcl, z_bopi, z_bopt, z_bopl, z_bopm, z_add, z_sub, z_mul, z_div, z_mod, z_pow, z_auga, z_augs, z_augd, z_eqii, z_eqss, z_eqbb, z_eqtt, z_eqll, z_ceq, z_cne, z_clt, z_cle, z_cgt, z_cge, z_cin, z_cni, z_int_t, z_trn, z_trb, z_tri, z_trt, z_trl, z_ixt, z_ixl, z_slt, z_sll, z_sls, z_lent, z_lenl, z_abs, z_max, z_min, z_toi, z_tob, z_tut, z_tul, z_lit, z_lil, z_any, z_all, z_sum, z_app, z_set, z_isn, z_isb, z_isi, z_iss, z_ist, z_isl, z_revl, isNon, atI_0, atI_1, atI_2, atI_3, ixN_1, ixN_2, ixN_3, List.map_cons, List.map_nil, List.length_cons, List.length_nil, List.replicate, List.cons_append, List.nil_append, List.append_nil, List.set_cons_zero, List.set_cons_succ, List.getElem?_cons_zero, List.getElem?_cons_succ, Nat.reduceAdd, Nat.reduceSub, Nat.reduceLT, Nat.reduceLeDiff, Nat.reduceEqDiff, Int.reduceNeg, Int.reduceAdd, Int.reduceSub, Int.reduceMul, Int.reducePow, Int.reduceToNat, Int.reduceLT, Int.reduceLE, Int.reduceEq, if_true, if_false, Bool.false_eq_true, decide_true, decide_false, true_and, and_true, Bool.not_true, Bool.not_false, List.set_nil, List.length_set, ne_eq, not_false_eq_true, reduceCtorEq, and_self, List.isEmpty_cons, List.isEmpty_nil, List.length_map, List.set_set, decide_eq_true_eq]
    refine ks _ _ (by simp; exact Nat.lt_of_lt_of_le (show i < 7 by omega) (by decide)) ⟨i + 1, hi2, hus, ?_, ?_⟩
    · rw [List.range_succ, List.map_append]
      simp
    · rw [List.range_succ, List.map_append, List.append_assoc]; rfl
def spRank : FSpec := fun us S Q _ => ∃ (m n A0 : Nat) (R : Nat → Nat → Rat), us = [qd, qMat m n R] ∧ m ≤ 6 ∧ n ≤ 7 ∧ Fit A0 m ∧ (∀ i j, i < m → j < n → Bt A0 0 (R i j)) ∧
  ∀ (k : Nat) S2, (Dep m n R ↔ k ≠ m) → All S S2 → Q (.int k) S2
theorem w_rank (G : Gm) (hP : Has G "pivots_of" spPiv) : Pf G n_rank i_rank spRank := by
  rintro us S Q X ⟨m, n, A0, R, rfl, hm, hn, hfit, hb, hQ⟩
  obtain ⟨sP, eP, hP⟩ := hP
  simp only [wpSs, wpS, wpE, wpEs, wpO, wpC, wpT, wpTg, wpTs, wpI, wipeU, startU, z_cell, z_slot, z_int, z_bl, z_tup, z_fn, z_lst, z_nil, z_cons, z_opt, z_optu, z_srct, z_srcl, z_bopi, z_bopt, z_bopl, z_bopm, z_add, z_sub, z_mul, z_div, z_mod, z_pow, z_auga, z_augs, z_augd, z_eqii, z_eqss, z_eqbb, z_eqtt, z_eqll, z_ceq, z_cne, z_clt, z_cle, z_cgt, z_cge, z_cin, z_cni, z_int_t, z_trn, z_trb, z_tri, z_trt, z_trl, z_ixt, z_ixl, z_slt, z_sll, z_sls, z_lent, z_lenl, z_abs, z_max, z_min, z_toi, z_tob, z_tut, z_tul, z_lit, z_lil, z_any, z_all, z_sum, z_app, z_set, z_isn, z_isb, z_isi, z_iss, z_ist, z_isl, z_revl, isNon, atI_0, atI_1, atI_2, atI_3, ixN_1, ixN_2, ixN_3, List.map_cons, List.map_nil, List.length_cons, List.length_nil, List.replicate, List.cons_append, List.nil_append, List.append_nil, List.set_cons_zero, List.set_cons_succ, List.getElem?_cons_zero, List.getElem?_cons_succ, Nat.reduceAdd, Nat.reduceSub, Nat.reduceLT, Nat.reduceLeDiff, Nat.reduceEqDiff, Int.reduceNeg, Int.reduceAdd, Int.reduceSub, Int.reduceMul, Int.reducePow, Int.reduceToNat, Int.reduceLT, Int.reduceLE, Int.reduceEq, if_true, if_false, Bool.false_eq_true, decide_true, decide_false, true_and, and_true, Bool.not_true, Bool.not_false, List.set_nil, List.length_set, ne_eq, not_false_eq_true, reduceCtorEq, and_self, List.isEmpty_cons, List.isEmpty_nil, List.length_map, List.set_set, decide_eq_true_eq, n_rank, i_rank, eP]
  refine hP _ _ _ _ ⟨m, n, A0, R, rfl, hm, hn, hfit, hb, fun r pl S2 hd hk => ?_⟩
  simp only [wpSs, wpS, wpE, wpEs, wpO, wpC, wpT, wpTg, wpTs, wpI, wipeU, startU, z_cell, z_slot, z_int, z_bl, z_tup, z_fn, z_lst, z_nil, z_cons, z_opt, z_optu, z_srct, z_srcl, z_bopi, z_bopt, z_bopl, z_bopm, z_add, z_sub, z_mul, z_div, z_mod, z_pow, z_auga, z_augs, z_augd, z_eqii, z_eqss, z_eqbb, z_eqtt, z_eqll, z_ceq, z_cne, z_clt, z_cle, z_cgt, z_cge, z_cin, z_cni, z_int_t, z_trn, z_trb, z_tri, z_trt, z_trl, z_ixt, z_ixl, z_slt, z_sll, z_sls, z_lent, z_lenl, z_abs, z_max, z_min, z_toi, z_tob, z_tut, z_tul, z_lit, z_lil, z_any, z_all, z_sum, z_app, z_set, z_isn, z_isb, z_isi, z_iss, z_ist, z_isl, z_revl, isNon, atI_0, atI_1, atI_2, atI_3, ixN_1, ixN_2, ixN_3, List.map_cons, List.map_nil, List.length_cons, List.length_nil, List.replicate, List.cons_append, List.nil_append, List.append_nil, List.set_cons_zero, List.set_cons_succ, List.getElem?_cons_zero, List.getElem?_cons_succ, Nat.reduceAdd, Nat.reduceSub, Nat.reduceLT, Nat.reduceLeDiff, Nat.reduceEqDiff, Int.reduceNeg, Int.reduceAdd, Int.reduceSub, Int.reduceMul, Int.reducePow, Int.reduceToNat, Int.reduceLT, Int.reduceLE, Int.reduceEq, if_true, if_false, Bool.false_eq_true, decide_true, decide_false, true_and, and_true, Bool.not_true, Bool.not_false, List.set_nil, List.length_set, ne_eq, not_false_eq_true, reduceCtorEq, and_self, List.isEmpty_cons, List.isEmpty_nil, List.length_map, List.set_set, decide_eq_true_eq]
  exact hQ _ S2 hd hk
def spFracs : FSpec := fun us S Q _ => ∃ (m n : Nat) (b : Nat → Nat → Int), us = [zMat m n b] ∧ m ≤ 1000 ∧ n ≤ 1000 ∧ ∀ S2, All S S2 → Q (qMat m n fun i j => (b i j : Rat)) S2
theorem w_fractions (G : Gm) (hC : Has G "change" spChange) (hz : G.cts "Z" = some zd) (hq : G.cts "Q" = some qd) : Pf G n_fractions i_fractions spFracs := by
  rintro us S Q X ⟨m, n, b, rfl, hm, hn, hQ⟩
  obtain ⟨sC, eC, hC⟩ := hC
  simp only [wpSs, wpS, wpE, wpEs, wpO, wpC, wpT, wpTg, wpTs, wpI, wipeU, startU, z_cell, z_slot, z_int, z_bl, z_tup, z_fn, z_lst, z_nil, z_cons, z_opt, z_optu, z_srct, z_srcl, z_bopi, z_bopt, z_bopl, z_bopm, z_add, z_sub, z_mul, z_div, z_mod, z_pow, z_auga, z_augs, z_augd, z_eqii, z_eqss, z_eqbb, z_eqtt, z_eqll, z_ceq, z_cne, z_clt, z_cle, z_cgt, z_cge, z_cin, z_cni, z_int_t, z_trn, z_trb, z_tri, z_trt, z_trl, z_ixt, z_ixl, z_slt, z_sll, z_sls, z_lent, z_lenl, z_abs, z_max, z_min, z_toi, z_tob, z_tut, z_tul, z_lit, z_lil, z_any, z_all, z_sum, z_app, z_set, z_isn, z_isb, z_isi, z_iss, z_ist, z_isl, z_revl, isNon, atI_0, atI_1, atI_2, atI_3, ixN_1, ixN_2, ixN_3, List.map_cons, List.map_nil, List.length_cons, List.length_nil, List.replicate, List.cons_append, List.nil_append, List.append_nil, List.set_cons_zero, List.set_cons_succ, List.getElem?_cons_zero, List.getElem?_cons_succ, Nat.reduceAdd, Nat.reduceSub, Nat.reduceLT, Nat.reduceLeDiff, Nat.reduceEqDiff, Int.reduceNeg, Int.reduceAdd, Int.reduceSub, Int.reduceMul, Int.reducePow, Int.reduceToNat, Int.reduceLT, Int.reduceLE, Int.reduceEq, if_true, if_false, Bool.false_eq_true, decide_true, decide_false, true_and, and_true, Bool.not_true, Bool.not_false, List.set_nil, List.length_set, ne_eq, not_false_eq_true, reduceCtorEq, and_self, List.isEmpty_cons, List.isEmpty_nil, List.length_map, List.set_set, decide_eq_true_eq, n_fractions, i_fractions, eC, hz, hq]
  exact hC _ _ _ _ ⟨m, n, b, rfl, hm, hn, fun x => hQ _ ((Keep.refl _ _).push x)⟩
/-- a basis that the law builds -/
structure Bas (m n : Nat) (b : Nat → Nat → Int) (A0 : Nat) : Prop where
  m6 : m ≤ 6
  n7 : n ≤ 7
  fit : Fit A0 m
  bt : ∀ i j, i < m → j < n → (b i j).natAbs < 2 ^ A0
  sq : ∀ i, i < m → dot n (fun j => (b i j : Rat)) (fun j => (b i j : Rat)) ≤ ((2 ^ 14 : Nat) : Rat)
abbrev rb (b : Nat → Nat → Int) : Nat → Nat → Rat := fun i j => (b i j : Rat)
theorem Bas.rows {m n A0 : Nat} {b : Nat → Nat → Int} (B : Bas m n b A0) : Rows m n (rb b) := ⟨fun i j => ⟨b i j, rfl⟩, B.sq, B.m6, B.n7⟩
theorem Bas.btq {m n A0 : Nat} {b : Nat → Nat → Int} (B : Bas m n b A0) (i j : Nat) (hi : i < m) (hj : j < n) : Bt A0 0 (rb b i j) := ⟨b i j, 1, by decide, B.bt i j hi hj, by decide, by
  show (b i j : Rat) = (b i j : Rat) / ((1 : Nat) : Rat)
  have : ((1 : Nat) : Rat) = 1 := rfl
  rw [this]; grind⟩
def spNeed : FSpec := fun us S Q X => ∃ (m n A0 : Nat) (b : Nat → Nat → Int), us = [zMat m n b] ∧ Bas m n b A0 ∧ (¬ Dep m n (rb b) → ∀ S2, All S S2 → Q .non S2) ∧ (Dep m n (rb b) → ∀ S2, All S S2 → X "SingularError" [] S2)
theorem w_need_basis (G : Gm) (hR : Has G "rank" spRank) (hF : Has G "fractions" spFracs) (hq : G.cts "Q" = some qd) : Pf G n_need_basis i_need_basis spNeed := by
  rintro us S Q X ⟨m, n, A0, b, rfl, B, h1, h2⟩
  obtain ⟨sR, eR, hR⟩ := hR
  obtain ⟨sF, eF, hF⟩ := hF
  have hm := B.m6
  have hn := B.n7
  simp only [wpSs, wpS, wpE, wpEs, wpO, wpC, wpT, wpTg, wpTs, wpI, wipeU, startU, z_cell, z_slot, z_int, z_bl, z_tup, z_fn, z_lst, z_nil, z_cons, z_opt, z_optu, z_srct, z_srcl, z_bopi, z_bopt, z_bopl, z_bopm, z_add, z_sub, z_mul, z_div, z_mod, z_pow, z_auga, z_augs, z_augd, z_eqii, z_eqss, z_eqbb, z_eqtt, z_eqll, z_ceq, z_cne, z_clt, z_cle, z_cgt, z_cge, z_cin, z_cni, z_int_t, z_trn, z_trb, z_tri, z_trt, z_trl, z_ixt, z_ixl, z_slt, z_sll, z_sls, z_lent, z_lenl, z_abs, z_max, z_min, z_toi, z_tob, z_tut, z_tul, z_lit, z_lil, z_any, z_all, z_sum, z_app, z_set, z_isn, z_isb, z_isi, z_iss, z_ist, z_isl, z_revl, isNon, atI_0, atI_1, atI_2, atI_3, ixN_1, ixN_2, ixN_3, List.map_cons, List.map_nil, List.length_cons, List.length_nil, List.replicate, List.cons_append, List.nil_append, List.append_nil, List.set_cons_zero, List.set_cons_succ, List.getElem?_cons_zero, List.getElem?_cons_succ, Nat.reduceAdd, Nat.reduceSub, Nat.reduceLT, Nat.reduceLeDiff, Nat.reduceEqDiff, Int.reduceNeg, Int.reduceAdd, Int.reduceSub, Int.reduceMul, Int.reducePow, Int.reduceToNat, Int.reduceLT, Int.reduceLE, Int.reduceEq, if_true, if_false, Bool.false_eq_true, decide_true, decide_false, true_and, and_true, Bool.not_true, Bool.not_false, List.set_nil, List.length_set, ne_eq, not_false_eq_true, reduceCtorEq, and_self, List.isEmpty_cons, List.isEmpty_nil, List.length_map, List.set_set, decide_eq_true_eq, n_need_basis, i_need_basis, eR, eF, hq]
  refine hF _ _ _ _ ⟨m, n, b, rfl, by omega, by omega, fun S1 k1 => ?_⟩
  refine hR _ _ _ _ ⟨m, n, A0, rb b, rfl, hm, hn, B.fit, B.btq, fun k S2 hd k2 => ?_⟩
  unfold zMat
  simp only [wpSs, wpS, wpE, wpEs, wpO, wpC, wpT, wpTg, wpTs, wpI, wipeU, startU, z_cell, z_slot, z_int, z_bl, z_tup, z_fn, z_lst, z_nil, z_cons, z_opt, z_optu, z_srct, z_srcl, z_bopi, z_bopt, z_bopl, z_bopm, z_add, z_sub, z_mul, z_div, z_mod, z_pow, z_auga, z_augs, z_augd, z_eqii, z_eqss, z_eqbb, z_eqtt, z_eqll, z_ceq, z_cne, z_clt, z_cle, z_cgt, z_cge, z_cin, z_cni, z_int_t, z_trn, z_trb, z_tri, z_trt, z_trl, z_ixt, z_ixl, z_slt, z_sll, z_sls, z_lent, z_lenl, z_abs, z_max, z_min, z_toi, z_tob, z_tut, z_tul, z_lit, z_lil, z_any, z_all, z_sum, z_app, z_set, z_isn, z_isb, z_isi, z_iss, z_ist, z_isl, z_revl, isNon, atI_0, atI_1, atI_2, atI_3, ixN_1, ixN_2, ixN_3, List.map_cons, List.map_nil, List.length_cons, List.length_nil, List.replicate, List.cons_append, List.nil_append, List.append_nil, List.set_cons_zero, List.set_cons_succ, List.getElem?_cons_zero, List.getElem?_cons_succ, Nat.reduceAdd, Nat.reduceSub, Nat.reduceLT, Nat.reduceLeDiff, Nat.reduceEqDiff, Int.reduceNeg, Int.reduceAdd, Int.reduceSub, Int.reduceMul, Int.reducePow, Int.reduceToNat, Int.reduceLT, Int.reduceLE, Int.reduceEq, if_true, if_false, Bool.false_eq_true, decide_true, decide_false, true_and, and_true, Bool.not_true, Bool.not_false, List.set_nil, List.length_set, ne_eq, not_false_eq_true, reduceCtorEq, and_self, List.isEmpty_cons, List.isEmpty_nil, List.length_map, List.set_set, decide_eq_true_eq]
  by_cases e : k = m
  · have e2 : ((k : Int) = (m : Int)) := by omega
    simp only [wpSs, wpS, wpE, wpEs, wpO, wpC, wpT, wpTg, wpTs, wpI, wipeU, startU, z_cell, z_slot, z_int, z_bl, z_tup, z_fn, z_lst, z_nil, z_cons, z_opt, z_optu, z_srct, z_srcl, z_bopi, z_bopt, z_bopl, z_bopm, z_add, z_sub, z_mul, z_div, z_mod, z_pow, z_auga, z_augs, z_augd, z_eqii, z_eqss, z_eqbb, z_eqtt, z_eqll, z_ceq, z_cne, z_clt, z_cle, z_cgt, z_cge, z_cin, z_cni, z_int_t, z_trn, z_trb, z_tri, z_trt, z_trl, z_ixt, z_ixl, z_slt, z_sll, z_sls, z_lent, z_lenl, z_abs, z_max, z_min, z_toi, z_tob, z_tut, z_tul, z_lit, z_lil, z_any, z_all, z_sum, z_app, z_set, z_isn, z_isb, z_isi, z_iss, z_ist, z_isl, z_revl, isNon, atI_0, atI_1, atI_2, atI_3, ixN_1, ixN_2, ixN_3, List.map_cons, List.map_nil, List.length_cons, List.length_nil, List.replicate, List.cons_append, List.nil_append, List.append_nil, List.set_cons_zero, List.set_cons_succ, List.getElem?_cons_zero, List.getElem?_cons_succ, Nat.reduceAdd, Nat.reduceSub, Nat.reduceLT, Nat.reduceLeDiff, Nat.reduceEqDiff, Int.reduceNeg, Int.reduceAdd, Int.reduceSub, Int.reduceMul, Int.reducePow, Int.reduceToNat, Int.reduceLT, Int.reduceLE, Int.reduceEq, if_true, if_false, Bool.false_eq_true, decide_true, decide_false, true_and, and_true, Bool.not_true, Bool.not_false, List.set_nil, List.length_set, ne_eq, not_false_eq_true, reduceCtorEq, and_self, List.isEmpty_cons, List.isEmpty_nil, List.length_map, List.set_set, decide_eq_true_eq, e2]
    exact h1 (fun h => hd.1 h e) _ (k1.trans k2)
  · have e2 : ¬ ((k : Int) = (m : Int)) := by omega
    simp only [wpSs, wpS, wpE, wpEs, wpO, wpC, wpT, wpTg, wpTs, wpI, wipeU, startU, z_cell, z_slot, z_int, z_bl, z_tup, z_fn, z_lst, z_nil, z_cons, z_opt, z_optu, z_srct, z_srcl, z_bopi, z_bopt, z_bopl, z_bopm, z_add, z_sub, z_mul, z_div, z_mod, z_pow, z_auga, z_augs, z_augd, z_eqii, z_eqss, z_eqbb, z_eqtt, z_eqll, z_ceq, z_cne, z_clt, z_cle, z_cgt, z_cge, z_cin, z_cni, z_int_t, z_trn, z_trb, z_tri, z_trt, z_trl, z_ixt, z_ixl, z_slt, z_sll, z_sls, z_lent, z_lenl, z_abs, z_max, z_min, z_toi, z_tob, z_tut, z_tul, z_lit, z_lil, z_any, z_all, z_sum, z_app, z_set, z_isn, z_isb, z_isi, z_iss, z_ist, z_isl, z_revl, isNon, atI_0, atI_1, atI_2, atI_3, ixN_1, ixN_2, ixN_3, List.map_cons, List.map_nil, List.length_cons, List.length_nil, List.replicate, List.cons_append, List.nil_append, List.append_nil, List.set_cons_zero, List.set_cons_succ, List.getElem?_cons_zero, List.getElem?_cons_succ, Nat.reduceAdd, Nat.reduceSub, Nat.reduceLT, Nat.reduceLeDiff, Nat.reduceEqDiff, Int.reduceNeg, Int.reduceAdd, Int.reduceSub, Int.reduceMul, Int.reducePow, Int.reduceToNat, Int.reduceLT, Int.reduceLE, Int.reduceEq, if_true, if_false, Bool.false_eq_true, decide_true, decide_false, true_and, and_true, Bool.not_true, Bool.not_false, List.set_nil, List.length_set, ne_eq, not_false_eq_true, reduceCtorEq, and_self, List.isEmpty_cons, List.isEmpty_nil, List.length_map, List.set_set, decide_eq_true_eq, e2]
    exact h2 (hd.2 e) _ (k1.trans k2)
end K70

set_option Elab.async false
set_option linter.all false
set_option maxRecDepth 100000
set_option maxHeartbeats 8000000
namespace K70
open PySem PySem.Spec L2 Q GSM
abbrev cf (n : Nat) (b : Nat → Nat → Int) (i k : Nat) : Rat := coef n (rb b i) (own n (rb b) k)
def muRow (m n : Nat) (b : Nat → Nat → Int) (i : Nat) : U := .tup (vecU i (cf n b i) ++ [fr 1] ++ List.replicate (m - i - 1) (fr 0))
def muU (m n : Nat) (b : Nat → Nat → Int) : U := .tup [.int m, .int m, .tup ((List.range m).map (muRow m n b))]
def sqU (m n : Nat) (b : Nat → Nat → Int) : U := .tup (vecU m (sqs n (rb b)))
def ownU (n : Nat) (b : Nat → Nat → Int) (k : Nat) : U := .tup (vecU n (own n (rb b) k))
/-- the three lists of orthogonal -/
structure OS (S0 S : Sto) (v q w : Nat) (m n : Nat) (b : Nat → Nat → Int) (i : Nat) : Prop where
  hv : S[v]? = some (.lst ((List.range i).map (ownU n b)))
  hq : S[q]? = some (.lst (vecU i (sqs n (rb b))))
  hw : S[w]? = some (.lst ((List.range i).map (muRow m n b)))
  vq : v ≠ q
  vw : v ≠ w
  qw : q ≠ w
  lv : S0.length ≤ v
  lq : S0.length ≤ q
  lw : S0.length ≤ w
  keep : All S0 S
section
variable {S0 S : Sto} {v q w m n i : Nat} {b : Nat → Nat → Int}
theorem OS.lts (O : OS S0 S v q w m n b i) : v < S.length ∧ q < S.length ∧ w < S.length := ⟨(List.getElem?_eq_some_iff.1 O.hv).1, (List.getElem?_eq_some_iff.1 O.hq).1, (List.getElem?_eq_some_iff.1 O.hw).1⟩
theorem OS.push (O : OS S0 S v q w m n b i) (x : List Cell) : OS S0 (S ++ x) v q w m n b i := by
  obtain ⟨h1, h2, h3⟩ := O.lts
  exact ⟨by rw [List.getElem?_append_left h1]; exact O.hv, by rw [List.getElem?_append_left h2]; exact O.hq, by rw [List.getElem?_append_left h3]; exact O.hw, O.vq, O.vw, O.qw, O.lv, O.lq, O.lw, O.keep.push x⟩
theorem OS.other (O : OS S0 S v q w m n b i) {k : Nat} (x : Cell) (h1 : k ≠ v) (h2 : k ≠ q) (h3 : k ≠ w) (h4 : S0.length ≤ k) : OS S0 (S.set k x) v q w m n b i :=
  ⟨by rw [List.getElem?_set_ne h1]; exact O.hv, by rw [List.getElem?_set_ne h2]; exact O.hq, by rw [List.getElem?_set_ne h3]; exact O.hw, O.vq, O.vw, O.qw, O.lv, O.lq, O.lw, O.keep.set x (fun h => absurd h (by omega))⟩
end
def spOrth : FSpec := fun us S Q X => ∃ (m n A0 : Nat) (b : Nat → Nat → Int), us = [zMat m n b] ∧ Bas m n b A0 ∧ (¬ Dep m n (rb b) → ∀ S2, All S S2 → Q (.tup [muU m n b, sqU m n b]) S2) ∧ (Dep m n (rb b) → ∀ S2, All S S2 → X "SingularError" [] S2)
theorem fr_1 : fr 1 = .tup [.int 1, .int 1] := rfl
theorem own_at {n i k : Nat} {b : Nat → Nat → Int} (h : k < i) : ((List.range i).map (ownU n b))[k]? = some (ownU n b k) := by
  rw [List.getElem?_map, List.getElem?_range h]; rfl
theorem w_orthogonal (G : Gm) (hN : Has G "need_basis" spNeed) (hF : Has G "fractions" spFracs) (hQt : Has G "quotient" spQuot) (hD : Has G "dot" spDot) (hS : Has G "subtract" (spOp2 (· - ·))) (hM : Has G "multiply" (spOp2 (· * ·))) (hq : G.cts "Q" = some qd) : Pf G n_orthogonal i_orthogonal spOrth := by
  rintro us S0 Q X ⟨m, n, A0, b, rfl, B, hQ, hX⟩
  obtain ⟨sN, eN, hN⟩ := hN
  obtain ⟨sF, eF, hF⟩ := hF
  obtain ⟨sQ, eQ, hQt⟩ := hQt
  obtain ⟨sD, eD, hD⟩ := hD
  obtain ⟨sS, eS, hS⟩ := hS
  obtain ⟨sM, eM, hM⟩ := hM
  have H := B.rows
  have hm := B.m6
  have hn := B.n7
  have hs0 : 0 ≤ sizeLine := by decide
  have hs1 : 1 ≤ sizeLine := by decide
  have hs2 : 2 ≤ sizeLine := by decide
  have hs3 : 3 ≤ sizeLine := by decide
  simp only [wpSs, wpS, wpE, wpEs, wpO, wpC, wpT, wpTg, wpTs, wpI, wipeU, startU, z_cell, z_slot, z_int, z_bl, z_tup, z_fn, z_lst, z_nil, z_cons, z_opt, z_optu, z_srct, z_srcl, z_bopi, z_bopt, z_bopl, z_bopm, z_add, z_sub, z_mul, z_div, z_mod, z_pow, z_auga, z_augs, z_augd, z_eqii, z_eqss, z_eqbb, z_eqtt, z_eqll, z_ceq, z_cne, z_clt, z_cle, z_cgt, z_cge, z_cin, z_cni, z_int_t, z_trn, z_trb, z_tri, z_trt, z_trl, z_ixt, z_ixl, z_slt, z_sll, z_sls, z_lent, z_lenl, z_abs, z_max, z_min, z_toi, z_tob, z_tut, z_tul, z_lit, z_lil, z_any, z_all, z_sum, z_app, z_set, z_isn, z_isb, z_isi, z_iss, z_ist, z_isl, z_revl, isNon, atI_0, atI_1, atI_2, atI_3, ixN_1, ixN_2, ixN_3, List.map_cons, List.map_nil, List.length_cons, List.length_nil, List.replicate, List.cons_append, List.nil_append, List.append_nil, List.set_cons_zero, List.set_cons_succ, List.getElem?_cons_zero, List.getElem?_cons_succ, Nat.reduceAdd, Nat.reduceSub, Nat.reduceLT, Nat.reduceLeDiff, Nat.reduceEqDiff, Int.reduceNeg, Int.reduceAdd, Int.reduceSub, Int.reduceMul, Int.reducePow, Int.reduceToNat, Int.reduceLT, Int.reduceLE, Int.reduceEq, if_true, if_false, Bool.false_eq_true, decide_true, decide_false, true_and, and_true, Bool.not_true, Bool.not_false, List.set_nil, List.length_set, ne_eq, not_false_eq_true, reduceCtorEq, and_self, List.isEmpty_cons, List.isEmpty_nil, List.length_map, List.set_set, decide_eq_true_eq, n_orthogonal, i_orthogonal, eN, eF, eQ, eD, eS, eM, hq, hs0, hs1, hs2]
  refine hN _ _ _ _ ⟨m, n, A0, b, rfl, B, fun hnd S1 k1 => ?_, hX⟩
  have sq0 : ∀ k, k < m → sqs n (rb b) k ≠ 0 := fun k hk h => hnd ((dep_iff m n (rb b)).2 ⟨k, hk, h⟩)
  simp only [wpSs, wpS, wpE, wpEs, wpO, wpC, wpT, wpTg, wpTs, wpI, wipeU, startU, z_cell, z_slot, z_int, z_bl, z_tup, z_fn, z_lst, z_nil, z_cons, z_opt, z_optu, z_srct, z_srcl, z_bopi, z_bopt, z_bopl, z_bopm, z_add, z_sub, z_mul, z_div, z_mod, z_pow, z_auga, z_augs, z_augd, z_eqii, z_eqss, z_eqbb, z_eqtt, z_eqll, z_ceq, z_cne, z_clt, z_cle, z_cgt, z_cge, z_cin, z_cni, z_int_t, z_trn, z_trb, z_tri, z_trt, z_trl, z_ixt, z_ixl, z_slt, z_sll, z_sls, z_lent, z_lenl, z_abs, z_max, z_min, z_toi, z_tob, z_tut, z_tul, z_lit, z_lil, z_any, z_all, z_sum, z_app, z_set, z_isn, z_isb, z_isi, z_iss, z_ist, z_isl, z_revl, isNon, atI_0, atI_1, atI_2, atI_3, ixN_1, ixN_2, ixN_3, List.map_cons, List.map_nil, List.length_cons, List.length_nil, List.replicate, List.cons_append, List.nil_append, List.append_nil, List.set_cons_zero, List.set_cons_succ, List.getElem?_cons_zero, List.getElem?_cons_succ, Nat.reduceAdd, Nat.reduceSub, Nat.reduceLT, Nat.reduceLeDiff, Nat.reduceEqDiff, Int.reduceNeg, Int.reduceAdd, Int.reduceSub, Int.reduceMul, Int.reducePow, Int.reduceToNat, Int.reduceLT, Int.reduceLE, Int.reduceEq, if_true, if_false, Bool.false_eq_true, decide_true, decide_false, true_and, and_true, Bool.not_true, Bool.not_false, List.set_nil, List.length_set, ne_eq, not_false_eq_true, reduceCtorEq, and_self, List.isEmpty_cons, List.isEmpty_nil, List.length_map, List.set_set, decide_eq_true_eq]
  refine hF _ _ _ _ ⟨m, n, b, rfl, by omega, by omega, fun S2 k2 => ?_⟩
  unfold qMat
  simp only [wpSs, wpS, wpE, wpEs, wpO, wpC, wpT, wpTg, wpTs, wpI, wipeU, startU, z_cell, z_slot, z_int, z_bl, z_tup, z_fn, z_lst, z_nil, z_cons, z_opt, z_optu, z_srct, z_srcl, z_bopi, z_bopt, z_bopl, z_bopm, z_add, z_sub, z_mul, z_div, z_mod, z_pow, z_auga, z_augs, z_augd, z_eqii, z_eqss, z_eqbb, z_eqtt, z_eqll, z_ceq, z_cne, z_clt, z_cle, z_cgt, z_cge, z_cin, z_cni, z_int_t, z_trn, z_trb, z_tri, z_trt, z_trl, z_ixt, z_ixl, z_slt, z_sll, z_sls, z_lent, z_lenl, z_abs, z_max, z_min, z_toi, z_tob, z_tut, z_tul, z_lit, z_lil, z_any, z_all, z_sum, z_app, z_set, z_isn, z_isb, z_isi, z_iss, z_ist, z_isl, z_revl, isNon, atI_0, atI_1, atI_2, atI_3, ixN_1, ixN_2, ixN_3, List.map_cons, List.map_nil, List.length_cons, List.length_nil, List.replicate, List.cons_append, List.nil_append, List.append_nil, List.set_cons_zero, List.set_cons_succ, List.getElem?_cons_zero, List.getElem?_cons_succ, Nat.reduceAdd, Nat.reduceSub, Nat.reduceLT, Nat.reduceLeDiff, Nat.reduceEqDiff, Int.reduceNeg, Int.reduceAdd, Int.reduceSub, Int.reduceMul, Int.reducePow, Int.reduceToNat, Int.reduceLT, Int.reduceLE, Int.reduceEq, if_true, if_false, Bool.false_eq_true, decide_true, decide_false, true_and, and_true, Bool.not_true, Bool.not_false, List.set_nil, List.length_set, ne_eq, not_false_eq_true, reduceCtorEq, and_self, List.isEmpty_cons, List.isEmpty_nil, List.length_map, List.set_set, decide_eq_true_eq]
  have l1 : S1.length ≤ S2.length := by have := k2.len; simp at this; omega
  have gS : ∀ k, k < S1.length + 3 → S2[k]? = (S1 ++ [Cell.lst []] ++ [Cell.lst []] ++ [Cell.lst []])[k]? := fun k hk => k2.same k (by simp; omega) trivial
  have O0 : OS S0 S2 S1.length (S1.length + 1) (S1.length + 2) m n b 0 := by
    have h0 := k1.len
    refine ⟨?_, ?_, ?_, by omega, by omega, by omega, by omega, by omega, by omega, ?_⟩
    · rw [gS _ (by omega), List.getElem?_append_left (by simp), List.getElem?_append_left (by simp)]
      exact List.getElem?_concat_length
    · rw [gS _ (by omega), List.getElem?_append_left (by simp), show S1.length + 1 = (S1 ++ [Cell.lst []]).length by simp]
      exact List.getElem?_concat_length
    · rw [gS _ (by omega), show S1.length + 2 = (S1 ++ [Cell.lst []] ++ [Cell.lst []]).length by simp]
      exact List.getElem?_concat_length
    · exact (((k1.push _).push _).push _).trans k2
  have eq1 : (S1 ++ [Cell.lst []]).length = S1.length + 1 := by simp
  have eq2 : (S1 ++ [Cell.lst []] ++ [Cell.lst []]).length = S1.length + 2 := by simp
  rw [eq1, eq2]
  clear gS l1 k2
  generalize S1.length + 1 = q at *
  generalize S1.length + 2 = w at *
  generalize S1.length = v at *
  refine forL_ind (fun us σ S4 => ∃ i : Nat, i ≤ m ∧ us = ((List.range m).map fun i => U.tup (vecU n (rb b i))).drop i ∧ OS S0 S4 v q w m n b i ∧ ∃ o4 o5 o6 o7 o8 o9 o10 o11 : Option U, σ = [some (zMat m n b), some (.lst v), some (.lst q), some (.lst w), o4, o5, o6, o7, o8, o9, o10, o11]) ?_ ?_ ?_ _ _ _ ⟨0, by omega, rfl, O0, _, _, _, _, _, _, _, _, rfl⟩
  · intros; trivial
  · rintro σ S4 ⟨i, hi, hu, O, o4, o5, o6, o7, o8, o9, o10, o11, rfl⟩
    obtain rfl := map_end hu hi
    unfold zMat
    simp only [wpSs, wpS, wpE, wpEs, wpO, wpC, wpT, wpTg, wpTs, wpI, wipeU, startU, z_cell, z_slot, z_int, z_bl, z_tup, z_fn, z_lst, z_nil, z_cons, z_opt, z_optu, z_srct, z_srcl, z_bopi, z_bopt, z_bopl, z_bopm, z_add, z_sub, z_mul, z_div, z_mod, z_pow, z_auga, z_augs, z_augd, z_eqii, z_eqss, z_eqbb, z_eqtt, z_eqll, z_ceq, z_cne, z_clt, z_cle, z_cgt, z_cge, z_cin, z_cni, z_int_t, z_trn, z_trb, z_tri, z_trt, z_trl, z_ixt, z_ixl, z_slt, z_sll, z_sls, z_lent, z_lenl, z_abs, z_max, z_min, z_toi, z_tob, z_tut, z_tul, z_lit, z_lil, z_any, z_all, z_sum, z_app, z_set, z_isn, z_isb, z_isi, z_iss, z_ist, z_isl, z_revl, isNon, atI_0, atI_1, atI_2, atI_3, ixN_1, ixN_2, ixN_3, List.map_cons, List.map_nil, List.length_cons, List.length_nil, List.replicate, List.cons_append, List.nil_append, List.append_nil, List.set_cons_zero, List.set_cons_succ, List.getElem?_cons_zero, List.getElem?_cons_succ, Nat.reduceAdd, Nat.reduceSub, Nat.reduceLT, Nat.reduceLeDiff, Nat.reduceEqDiff, Int.reduceNeg, Int.reduceAdd, Int.reduceSub, Int.reduceMul, Int.reducePow, Int.reduceToNat, Int.reduceLT, Int.reduceLE, Int.reduceEq, if_true, if_false, Bool.false_eq_true, decide_true, decide_false, true_and, and_true, Bool.not_true, Bool.not_false, List.set_nil, List.length_set, ne_eq, not_false_eq_true, reduceCtorEq, and_self, List.isEmpty_cons, List.isEmpty_nil, List.length_map, List.set_set, decide_eq_true_eq, O.hw, O.hq]
    exact ⟨hs3, hQ hnd _ O.keep⟩
  · rintro u us σ S4 k ⟨i, hi, hu, O, o4, o5, o6, o7, o8, o9, o10, o11, rfl⟩ hk
    obtain ⟨him, rfl, hus⟩ := map_drop hu
    have O1 := O.push [.lst []]
    obtain ⟨lv, lq, lw⟩ := O.lts
    simp only [wpSs, wpS, wpE, wpEs, wpO, wpC, wpT, wpTg, wpTs, wpI, wipeU, startU, z_cell, z_slot, z_int, z_bl, z_tup, z_fn, z_lst, z_nil, z_cons, z_opt, z_optu, z_srct, z_srcl, z_bopi, z_bopt, z_bopl, z_bopm, z_add, z_sub, z_mul, z_div, z_mod, z_pow, z_auga, z_augs, z_augd, z_eqii, z_eqss, z_eqbb, z_eqtt, z_eqll, z_ceq, z_cne, z_clt, z_cle, z_cgt, z_cge, z_cin, z_cni, z_int_t, z_trn, z_trb, z_tri, z_trt, z_trl, z_ixt, z_ixl, z_slt, z_sll, z_sls, z_lent, z_lenl, z_abs, z_max, z_min, z_toi, z_tob, z_tut, z_tul, z_lit, z_lil, z_any, z_all, z_sum, z_app, z_set, z_isn, z_isb, z_isi, z_iss, z_ist, z_isl, z_revl, isNon, atI_0, atI_1, atI_2, atI_3, ixN_1, ixN_2, ixN_3, List.map_cons, List.map_nil, List.length_cons, List.length_nil, List.replicate, List.cons_append, List.nil_append, List.append_nil, List.set_cons_zero, List.set_cons_succ, List.getElem?_cons_zero, List.getElem?_cons_succ, Nat.reduceAdd, Nat.reduceSub, Nat.reduceLT, Nat.reduceLeDiff, Nat.reduceEqDiff, Int.reduceNeg, Int.reduceAdd, Int.reduceSub, Int.reduceMul, Int.reducePow, Int.reduceToNat, Int.reduceLT, Int.reduceLE, Int.reduceEq, if_true, if_false, Bool.false_eq_true, decide_true, decide_false, true_and, and_true, Bool.not_true, Bool.not_false, List.set_nil, List.length_set, ne_eq, not_false_eq_true, reduceCtorEq, and_self, List.isEmpty_cons, List.isEmpty_nil, List.length_map, List.set_set, decide_eq_true_eq, O1.hv]
    refine forL_ind (fun us σ S5 => ∃ t : Nat, t ≤ i ∧ us = (enmL ((List.range i).map (ownU n b))).drop t ∧ OS S0 S5 v q w m n b i ∧ S5[S4.length]? = some (.lst (vecU t (cf n b i))) ∧ ∃ o7 o8 o9 o10 o11 : Option U, σ = [some (zMat m n b), some (.lst v), some (.lst q), some (.lst w), some (.tup (vecU n (rb b i))), some (.tup (vecU n (pt n (rb b) (rb b i) t))), some (.lst S4.length), o7, o8, o9, o10, o11]) ?_ ?_ ?_ _ _ _
      ⟨0, by omega, rfl, O1, List.getElem?_concat_length, o7, o8, o9, o10, o11, by
        rw [show pt n (rb b) (rb b i) 0 = rb b i from funext fun j => by unfold pt; rw [GSM.sum]; grind]⟩
    · rintro us σ S5 ⟨t, _, _, O5, _⟩
      exact O5.hv
    · rintro σ S5 ⟨t, ht, hu5, O5, h5, o7, o8, o9, o10, o11, rfl⟩
      have ht2 : t = i := by
        have := enm_end hu5 (by simp; exact ht)
        simpa using this
      subst ht2
      obtain ⟨lv5, lq5, lw5⟩ := O5.lts
      have l5 : S4.length < S5.length := (List.getElem?_eq_some_iff.1 h5).1
      have h0 := O.keep.len
      have e1 : vecU n (pt n (rb b) (rb b t) t) = vecU n (own n (rb b) t) := vec_congr fun j _ => (own_eq n (rb b) t j).symm
      rw [e1]
      have z1 : ((List.range t).map (ownU n b)).length < sizeLine := by simp; exact Nat.lt_of_lt_of_le (show t < 7 by omega) (by decide)
      have z2 : (vecU t (sqs n (rb b))).length < sizeLine := by rw [vec_len]; exact Nat.lt_of_lt_of_le (show t < 7 by omega) (by decide)
      have z3 : ((List.range t).map (muRow m n b)).length < sizeLine := by simp; exact Nat.lt_of_lt_of_le (show t < 7 by omega) (by decide)
      have a1 : ∀ x, (S5.set v x)[q]? = some (.lst (vecU t (sqs n (rb b)))) := fun x => by rw [List.getElem?_set_ne O5.vq]; exact O5.hq
      simp only [wpSs, wpS, wpE, wpEs, wpO, wpC, wpT, wpTg, wpTs, wpI, wipeU, startU, z_cell, z_slot, z_int, z_bl, z_tup, z_fn, z_lst, z_nil, z_cons, z_opt, z_optu, z_srct, z_srcl, z_bopi, z_bopt, z_bopl, z_bopm, z_add, z_sub, z_mul, z_div, z_mod, z_pow, z_auga, z_augs, z_augd, z_eqii, z_eqss, z_eqbb, z_eqtt, z_eqll, z_ceq, z_cne, z_clt, z_cle, z_cgt, z_cge, z_cin, z_cni, z_int_t, z_trn, z_trb, z_tri, z_trt, z_trl, z_ixt, z_ixl, z_slt, z_sll, z_sls, z_lent, z_lenl, z_abs, z_max, z_min, z_toi, z_tob, z_tut, z_tul, z_lit, z_lil, z_any, z_all, z_sum, z_app, z_set, z_isn, z_isb, z_isi, z_iss, z_ist, z_isl, z_revl, isNon, atI_0, atI_1, atI_2, atI_3, ixN_1, ixN_2, ixN_3, List.map_cons, List.map_nil, List.length_cons, List.length_nil, List.replicate, List.cons_append, List.nil_append, List.append_nil, List.set_cons_zero, List.set_cons_succ, List.getElem?_cons_zero, List.getElem?_cons_succ, Nat.reduceAdd, Nat.reduceSub, Nat.reduceLT, Nat.reduceLeDiff, Nat.reduceEqDiff, Int.reduceNeg, Int.reduceAdd, Int.reduceSub, Int.reduceMul, Int.reducePow, Int.reduceToNat, Int.reduceLT, Int.reduceLE, Int.reduceEq, if_true, if_false, Bool.false_eq_true, decide_true, decide_false, true_and, and_true, Bool.not_true, Bool.not_false, List.set_nil, List.length_set, ne_eq, not_false_eq_true, reduceCtorEq, and_self, List.isEmpty_cons, List.isEmpty_nil, List.length_map, List.set_set, decide_eq_true_eq, O5.hv, a1]
      refine ⟨by simpa using z1, ?_⟩
      refine hD _ _ _ _ ⟨n, own n (rb b) t, own n (rb b) t, rfl, fun j hj => ⟨H.sm_own him hj, H.sm_own him hj, H.sm_oo him hj⟩, fun T hT => H.sm_oos him hT, ?_⟩
      simp only [wpSs, wpS, wpE, wpEs, wpO, wpC, wpT, wpTg, wpTs, wpI, wipeU, startU, z_cell, z_slot, z_int, z_bl, z_tup, z_fn, z_lst, z_nil, z_cons, z_opt, z_optu, z_srct, z_srcl, z_bopi, z_bopt, z_bopl, z_bopm, z_add, z_sub, z_mul, z_div, z_mod, z_pow, z_auga, z_augs, z_augd, z_eqii, z_eqss, z_eqbb, z_eqtt, z_eqll, z_ceq, z_cne, z_clt, z_cle, z_cgt, z_cge, z_cin, z_cni, z_int_t, z_trn, z_trb, z_tri, z_trt, z_trl, z_ixt, z_ixl, z_slt, z_sll, z_sls, z_lent, z_lenl, z_abs, z_max, z_min, z_toi, z_tob, z_tut, z_tul, z_lit, z_lil, z_any, z_all, z_sum, z_app, z_set, z_isn, z_isb, z_isi, z_iss, z_ist, z_isl, z_revl, isNon, atI_0, atI_1, atI_2, atI_3, ixN_1, ixN_2, ixN_3, List.map_cons, List.map_nil, List.length_cons, List.length_nil, List.replicate, List.cons_append, List.nil_append, List.append_nil, List.set_cons_zero, List.set_cons_succ, List.getElem?_cons_zero, List.getElem?_cons_succ, Nat.reduceAdd, Nat.reduceSub, Nat.reduceLT, Nat.reduceLeDiff, Nat.reduceEqDiff, Int.reduceNeg, Int.reduceAdd, Int.reduceSub, Int.reduceMul, Int.reducePow, Int.reduceToNat, Int.reduceLT, Int.reduceLE, Int.reduceEq, if_true, if_false, Bool.false_eq_true, decide_true, decide_false, true_and, and_true, Bool.not_true, Bool.not_false, List.set_nil, List.length_set, ne_eq, not_false_eq_true, reduceCtorEq, and_self, List.isEmpty_cons, List.isEmpty_nil, List.length_map, List.set_set, decide_eq_true_eq, a1]
      refine ⟨by simpa using z2, ?_⟩
      have T1 : OS S0 (S5.set v (.lst ((List.range t).map (ownU n b)))) v q w m n b t := ⟨List.getElem?_set_self lv5, a1 _, by rw [List.getElem?_set_ne O5.vw]; exact O5.hw, O5.vq, O5.vw, O5.qw, O5.lv, O5.lq, O5.lw, O5.keep.set _ (fun h => absurd h (by have := O5.lv; omega))⟩
      obtain ⟨T, hT⟩ : ∃ T, T = (S5.set v (.lst ((List.range t).map (ownU n b) ++ [U.tup (vecU n (own n (rb b) t))]))).set q (.lst (vecU t (sqs n (rb b)) ++ [fr (dot n (own n (rb b) t) (own n (rb b) t))])) := ⟨_, rfl⟩
      have hTm : T[S4.length]? = some (.lst (vecU t (cf n b t))) := by
        rw [hT, List.getElem?_set_ne (by omega), List.getElem?_set_ne (by omega)]; exact h5
      have hTv : T[v]? = some (.lst ((List.range (t + 1)).map (ownU n b))) := by
        rw [hT, List.getElem?_set_ne O5.vq.symm, List.getElem?_set_self lv5, List.range_succ, List.map_append]; rfl
      have hTq : T[q]? = some (.lst (vecU (t + 1) (sqs n (rb b)))) := by
        rw [hT, List.getElem?_set_self (by rw [List.length_set]; exact lq5), vec_push]; rfl
      have hTw : T[w]? = some (.lst ((List.range t).map (muRow m n b))) := by
        rw [hT, List.getElem?_set_ne O5.qw, List.getElem?_set_ne O5.vw]; exact O5.hw
      have hTk : All S0 T := by
        rw [hT]
        exact (O5.keep.set _ (fun h => absurd h (by have := O5.lv; omega))).set _ (fun h => absurd h (by have := O5.lq; omega))
      rw [← hT]
      have LT : T.length = S5.length := by rw [hT, List.length_set, List.length_set]
      have b1 : ∀ x : Cell, (T ++ [x])[S4.length]? = some (.lst (vecU t (cf n b t))) := fun x => by rw [List.getElem?_append_left (by omega)]; exact hTm
      have b2 : ∀ x y : Cell, (T ++ [x] ++ [y])[S4.length]? = some (.lst (vecU t (cf n b t))) := fun x y => by rw [List.getElem?_append_left (by simp; omega)]; exact b1 x
      unfold zMat
      have b3 : ∀ x : Cell, (T ++ [x])[S5.length]? = some x := fun x => by rw [← LT]; exact List.getElem?_concat_length
      simp only [wpSs, wpS, wpE, wpEs, wpO, wpC, wpT, wpTg, wpTs, wpI, wipeU, startU, z_cell, z_slot, z_int, z_bl, z_tup, z_fn, z_lst, z_nil, z_cons, z_opt, z_optu, z_srct, z_srcl, z_bopi, z_bopt, z_bopl, z_bopm, z_add, z_sub, z_mul, z_div, z_mod, z_pow, z_auga, z_augs, z_augd, z_eqii, z_eqss, z_eqbb, z_eqtt, z_eqll, z_ceq, z_cne, z_clt, z_cle, z_cgt, z_cge, z_cin, z_cni, z_int_t, z_trn, z_trb, z_tri, z_trt, z_trl, z_ixt, z_ixl, z_slt, z_sll, z_sls, z_lent, z_lenl, z_abs, z_max, z_min, z_toi, z_tob, z_tut, z_tul, z_lit, z_lil, z_any, z_all, z_sum, z_app, z_set, z_isn, z_isb, z_isi, z_iss, z_ist, z_isl, z_revl, isNon, atI_0, atI_1, atI_2, atI_3, ixN_1, ixN_2, ixN_3, List.map_cons, List.map_nil, List.length_cons, List.length_nil, List.replicate, List.cons_append, List.nil_append, List.append_nil, List.set_cons_zero, List.set_cons_succ, List.getElem?_cons_zero, List.getElem?_cons_succ, Nat.reduceAdd, Nat.reduceSub, Nat.reduceLT, Nat.reduceLeDiff, Nat.reduceEqDiff, Int.reduceNeg, Int.reduceAdd, Int.reduceSub, Int.reduceMul, Int.reducePow, Int.reduceToNat, Int.reduceLT, Int.reduceLE, Int.reduceEq, if_true, if_false, Bool.false_eq_true, decide_true, decide_false, true_and, and_true, Bool.not_true, Bool.not_false, List.set_nil, List.length_set, ne_eq, not_false_eq_true, reduceCtorEq, and_self, List.isEmpty_cons, List.isEmpty_nil, List.length_map, List.set_set, decide_eq_true_eq, b1, b2, b3, List.getElem?_concat_length, vec_len]
      have hsz : (20 : Nat) ≤ sizeLine := by decide
      refine ⟨by omega, ⟨by omega, by omega⟩, ?_⟩
      rw [show ((m : Int) - (t : Int) - 1).toNat = m - t - 1 by omega]
      obtain ⟨T2, hT2⟩ : ∃ T2, T2 = T ++ [Cell.lst [U.tup [U.int 1, U.int 1]]] ++ [Cell.lst (vecU t (cf n b t) ++ [U.tup [U.int 1, U.int 1]])] := ⟨_, rfl⟩
      have c1 : ∀ x : Cell, (T2 ++ [x])[(T ++ [Cell.lst [U.tup [U.int 1, U.int 1]]]).length]? = some (.lst (vecU t (cf n b t) ++ [U.tup [U.int 1, U.int 1]])) := fun x => by
        rw [hT2, List.getElem?_append_left (by simp)]
        exact List.getElem?_concat_length
      have lwT : w < T.length := (List.getElem?_eq_some_iff.1 hTw).1
      have lT2 : T.length < T2.length := by rw [hT2]; simp
      have c0 : ∀ k, k < T.length → T2[k]? = T[k]? := fun k hk => by
        rw [hT2, List.getElem?_append_left (by simp; omega), List.getElem?_append_left hk]
      have c2 : ∀ x y : Cell, (T2 ++ [x] ++ [y])[w]? = some (.lst ((List.range t).map (muRow m n b))) := fun x y => by
        rw [List.getElem?_append_left (by simp; omega), List.getElem?_append_left (by omega), c0 w lwT]; exact hTw
      rw [← hT2]
      refine lcL_ind (fun us acc S7 => S7 = T2 ∧ ∃ j : Nat, j ≤ m - t - 1 ∧ us = (rngL 0 (m - t - 1)).drop j ∧ acc = List.replicate j (U.tup [U.int 0, U.int 1])) ?_ ?_ ?_ _ _ _ ⟨rfl, 0, by omega, rfl, rfl⟩
      · intros; trivial
      · rintro acc S7 ⟨rfl, j, hj, hu7, rfl⟩
        have hj2 := rng_end hu7 hj
        subst hj2
        simp only [wpSs, wpS, wpE, wpEs, wpO, wpC, wpT, wpTg, wpTs, wpI, wipeU, startU, z_cell, z_slot, z_int, z_bl, z_tup, z_fn, z_lst, z_nil, z_cons, z_opt, z_optu, z_srct, z_srcl, z_bopi, z_bopt, z_bopl, z_bopm, z_add, z_sub, z_mul, z_div, z_mod, z_pow, z_auga, z_augs, z_augd, z_eqii, z_eqss, z_eqbb, z_eqtt, z_eqll, z_ceq, z_cne, z_clt, z_cle, z_cgt, z_cge, z_cin, z_cni, z_int_t, z_trn, z_trb, z_tri, z_trt, z_trl, z_ixt, z_ixl, z_slt, z_sll, z_sls, z_lent, z_lenl, z_abs, z_max, z_min, z_toi, z_tob, z_tut, z_tul, z_lit, z_lil, z_any, z_all, z_sum, z_app, z_set, z_isn, z_isb, z_isi, z_iss, z_ist, z_isl, z_revl, isNon, atI_0, atI_1, atI_2, atI_3, ixN_1, ixN_2, ixN_3, List.map_cons, List.map_nil, List.length_cons, List.length_nil, List.replicate, List.cons_append, List.nil_append, List.append_nil, List.set_cons_zero, List.set_cons_succ, List.getElem?_cons_zero, List.getElem?_cons_succ, Nat.reduceAdd, Nat.reduceSub, Nat.reduceLT, Nat.reduceLeDiff, Nat.reduceEqDiff, Int.reduceNeg, Int.reduceAdd, Int.reduceSub, Int.reduceMul, Int.reducePow, Int.reduceToNat, Int.reduceLT, Int.reduceLE, Int.reduceEq, if_true, if_false, Bool.false_eq_true, decide_true, decide_false, true_and, and_true, Bool.not_true, Bool.not_false, List.set_nil, List.length_set, ne_eq, not_false_eq_true, reduceCtorEq, and_self, List.isEmpty_cons, List.isEmpty_nil, List.length_map, List.set_set, decide_eq_true_eq, c1, c2, vec_len, List.length_replicate, List.length_range]
        have hw3 : ∀ x y : Cell, w < (S7 ++ [x] ++ [y]).length := fun x y => by simp; omega
        have c5 : ∀ (x y : Cell) (k : Nat), k < T.length → (S7 ++ [x] ++ [y])[k]? = T[k]? := fun x y k hk => by
          rw [List.getElem?_append_left (by simp; omega), List.getElem?_append_left (by omega), c0 k hk]
        have lvT : v < T.length := (List.getElem?_eq_some_iff.1 hTv).1
        have lqT : q < T.length := (List.getElem?_eq_some_iff.1 hTq).1
        refine ⟨by rw [List.length_append, vec_len]; simp; omega, by omega, hk _ _ ⟨t + 1, him, hus, ⟨?_, ?_, ?_, O5.vq, O5.vw, O5.qw, O5.lv, O5.lq, O5.lw, ?_⟩, _, _, _, _, _, _, _, _, rfl⟩⟩
        · rw [List.getElem?_set_ne O5.vw.symm, c5 _ _ v lvT]; exact hTv
        · rw [List.getElem?_set_ne O5.qw.symm, c5 _ _ q lqT]; exact hTq
        · rw [List.getElem?_set_self (hw3 _ _), List.range_succ, List.map_append]; rfl
        · rw [hT2]
          exact ((((hTk.push _).push _).push _).push _).set _ (fun h => absurd h (by have := O5.lw; omega))
      · rintro z7 us7 acc S7 k7 ⟨rfl, j, hj, hu7, rfl⟩ ks7 kn7
        obtain ⟨hj2, rfl, hus7⟩ := rng_drop hu7
        refine ks7 _ _ (by rw [List.length_replicate]; omega) ⟨rfl, j + 1, hj2, hus7, ?_⟩
        rw [List.replicate_succ']
    · rintro z us5 σ S5 k5 ⟨t, ht, hu5, O5, h5, o7, o8, o9, o10, o11, rfl⟩ hk5
      obtain ⟨ht2, ⟨y, hy, rfl⟩, hus5⟩ := enm_drop hu5
      have ht3 : t < i := by simpa using ht2
      rw [own_at ht3] at hy
      cases hy
      have htm : t < m := by omega
      have g1 := vec_atI (u := sqs n (rb b)) ht3
      have l5 : S4.length < S5.length := (List.getElem?_eq_some_iff.1 h5).1
      have hsz : (vecU t (cf n b i)).length < sizeLine := by rw [vec_len]; exact Nat.lt_of_lt_of_le (show t < 7 by omega) (by decide)
      unfold ownU
      simp only [wpSs, wpS, wpE, wpEs, wpO, wpC, wpT, wpTg, wpTs, wpI, wipeU, startU, z_cell, z_slot, z_int, z_bl, z_tup, z_fn, z_lst, z_nil, z_cons, z_opt, z_optu, z_srct, z_srcl, z_bopi, z_bopt, z_bopl, z_bopm, z_add, z_sub, z_mul, z_div, z_mod, z_pow, z_auga, z_augs, z_augd, z_eqii, z_eqss, z_eqbb, z_eqtt, z_eqll, z_ceq, z_cne, z_clt, z_cle, z_cgt, z_cge, z_cin, z_cni, z_int_t, z_trn, z_trb, z_tri, z_trt, z_trl, z_ixt, z_ixl, z_slt, z_sll, z_sls, z_lent, z_lenl, z_abs, z_max, z_min, z_toi, z_tob, z_tut, z_tul, z_lit, z_lil, z_any, z_all, z_sum, z_app, z_set, z_isn, z_isb, z_isi, z_iss, z_ist, z_isl, z_revl, isNon, atI_0, atI_1, atI_2, atI_3, ixN_1, ixN_2, ixN_3, List.map_cons, List.map_nil, List.length_cons, List.length_nil, List.replicate, List.cons_append, List.nil_append, List.append_nil, List.set_cons_zero, List.set_cons_succ, List.getElem?_cons_zero, List.getElem?_cons_succ, Nat.reduceAdd, Nat.reduceSub, Nat.reduceLT, Nat.reduceLeDiff, Nat.reduceEqDiff, Int.reduceNeg, Int.reduceAdd, Int.reduceSub, Int.reduceMul, Int.reducePow, Int.reduceToNat, Int.reduceLT, Int.reduceLE, Int.reduceEq, if_true, if_false, Bool.false_eq_true, decide_true, decide_false, true_and, and_true, Bool.not_true, Bool.not_false, List.set_nil, List.length_set, ne_eq, not_false_eq_true, reduceCtorEq, and_self, List.isEmpty_cons, List.isEmpty_nil, List.length_map, List.set_set, decide_eq_true_eq, lenTs]
      refine hD _ _ _ _ ⟨n, rb b i, own n (rb b) t, rfl, fun j hj => ⟨H.sm_b him hj, H.sm_own htm hj, H.sm_bo him htm hj⟩, fun T hT => H.sm_bos him htm hT, ?_⟩
      simp only [wpSs, wpS, wpE, wpEs, wpO, wpC, wpT, wpTg, wpTs, wpI, wipeU, startU, z_cell, z_slot, z_int, z_bl, z_tup, z_fn, z_lst, z_nil, z_cons, z_opt, z_optu, z_srct, z_srcl, z_bopi, z_bopt, z_bopl, z_bopm, z_add, z_sub, z_mul, z_div, z_mod, z_pow, z_auga, z_augs, z_augd, z_eqii, z_eqss, z_eqbb, z_eqtt, z_eqll, z_ceq, z_cne, z_clt, z_cle, z_cgt, z_cge, z_cin, z_cni, z_int_t, z_trn, z_trb, z_tri, z_trt, z_trl, z_ixt, z_ixl, z_slt, z_sll, z_sls, z_lent, z_lenl, z_abs, z_max, z_min, z_toi, z_tob, z_tut, z_tul, z_lit, z_lil, z_any, z_all, z_sum, z_app, z_set, z_isn, z_isb, z_isi, z_iss, z_ist, z_isl, z_revl, isNon, atI_0, atI_1, atI_2, atI_3, ixN_1, ixN_2, ixN_3, List.map_cons, List.map_nil, List.length_cons, List.length_nil, List.replicate, List.cons_append, List.nil_append, List.append_nil, List.set_cons_zero, List.set_cons_succ, List.getElem?_cons_zero, List.getElem?_cons_succ, Nat.reduceAdd, Nat.reduceSub, Nat.reduceLT, Nat.reduceLeDiff, Nat.reduceEqDiff, Int.reduceNeg, Int.reduceAdd, Int.reduceSub, Int.reduceMul, Int.reducePow, Int.reduceToNat, Int.reduceLT, Int.reduceLE, Int.reduceEq, if_true, if_false, Bool.false_eq_true, decide_true, decide_false, true_and, and_true, Bool.not_true, Bool.not_false, List.set_nil, List.length_set, ne_eq, not_false_eq_true, reduceCtorEq, and_self, List.isEmpty_cons, List.isEmpty_nil, List.length_map, List.set_set, decide_eq_true_eq, O5.hq, g1]
      refine hQt _ _ _ _ ⟨_, _, rfl, H.sm_bos him htm (Nat.le_refl n), ⟨sq0 t htm, H.sq_inv htm⟩, ?_⟩
      have ec : dot n (rb b i) (own n (rb b) t) / sqs n (rb b) t = cf n b i t := by
        show _ = coef n (rb b i) (own n (rb b) t)
        rw [coef_s, if_neg (sq0 t htm)]
      rw [ec]
      simp only [wpSs, wpS, wpE, wpEs, wpO, wpC, wpT, wpTg, wpTs, wpI, wipeU, startU, z_cell, z_slot, z_int, z_bl, z_tup, z_fn, z_lst, z_nil, z_cons, z_opt, z_optu, z_srct, z_srcl, z_bopi, z_bopt, z_bopl, z_bopm, z_add, z_sub, z_mul, z_div, z_mod, z_pow, z_auga, z_augs, z_augd, z_eqii, z_eqss, z_eqbb, z_eqtt, z_eqll, z_ceq, z_cne, z_clt, z_cle, z_cgt, z_cge, z_cin, z_cni, z_int_t, z_trn, z_trb, z_tri, z_trt, z_trl, z_ixt, z_ixl, z_slt, z_sll, z_sls, z_lent, z_lenl, z_abs, z_max, z_min, z_toi, z_tob, z_tut, z_tul, z_lit, z_lil, z_any, z_all, z_sum, z_app, z_set, z_isn, z_isb, z_isi, z_iss, z_ist, z_isl, z_revl, isNon, atI_0, atI_1, atI_2, atI_3, ixN_1, ixN_2, ixN_3, List.map_cons, List.map_nil, List.length_cons, List.length_nil, List.replicate, List.cons_append, List.nil_append, List.append_nil, List.set_cons_zero, List.set_cons_succ, List.getElem?_cons_zero, List.getElem?_cons_succ, Nat.reduceAdd, Nat.reduceSub, Nat.reduceLT, Nat.reduceLeDiff, Nat.reduceEqDiff, Int.reduceNeg, Int.reduceAdd, Int.reduceSub, Int.reduceMul, Int.reducePow, Int.reduceToNat, Int.reduceLT, Int.reduceLE, Int.reduceEq, if_true, if_false, Bool.false_eq_true, decide_true, decide_false, true_and, and_true, Bool.not_true, Bool.not_false, List.set_nil, List.length_set, ne_eq, not_false_eq_true, reduceCtorEq, and_self, List.isEmpty_cons, List.isEmpty_nil, List.length_map, List.set_set, decide_eq_true_eq, h5, lenTs]
      refine ⟨hsz, ?_⟩
      have h0 := O.keep.len
      have O6 : OS S0 (S5.set S4.length (.lst (vecU t (cf n b i) ++ [fr (cf n b i t)]))) v q w m n b i := O5.other _ (by omega) (by omega) (by omega) h0
      have h6 : (S5.set S4.length (.lst (vecU t (cf n b i) ++ [fr (cf n b i t)])))[S4.length]? = some (.lst (vecU (t + 1) (cf n b i))) := by
        rw [List.getElem?_set_self l5, vec_push]
      generalize S5.set S4.length (.lst (vecU t (cf n b i) ++ [fr (cf n b i t)])) = S6 at *
      refine lcL_ind (fun us acc S7 => S7 = S6 ∧ ∃ j : Nat, j ≤ n ∧ us = (enmL (vecU n (pt n (rb b) (rb b i) t))).drop j ∧ acc = vecU j (pt n (rb b) (rb b i) (t + 1))) ?_ ?_ ?_ _ _ _ ⟨rfl, 0, by omega, rfl, rfl⟩
      · intros; trivial
      · rintro acc S7 ⟨rfl, j, hj, hu7, rfl⟩
        have hj2 : j = n := by
          have := enm_end hu7 (by rw [vec_len]; exact hj)
          rwa [vec_len] at this
        subst hj2
        simp only [wpSs, wpS, wpE, wpEs, wpO, wpC, wpT, wpTg, wpTs, wpI, wipeU, startU, z_cell, z_slot, z_int, z_bl, z_tup, z_fn, z_lst, z_nil, z_cons, z_opt, z_optu, z_srct, z_srcl, z_bopi, z_bopt, z_bopl, z_bopm, z_add, z_sub, z_mul, z_div, z_mod, z_pow, z_auga, z_augs, z_augd, z_eqii, z_eqss, z_eqbb, z_eqtt, z_eqll, z_ceq, z_cne, z_clt, z_cle, z_cgt, z_cge, z_cin, z_cni, z_int_t, z_trn, z_trb, z_tri, z_trt, z_trl, z_ixt, z_ixl, z_slt, z_sll, z_sls, z_lent, z_lenl, z_abs, z_max, z_min, z_toi, z_tob, z_tut, z_tul, z_lit, z_lil, z_any, z_all, z_sum, z_app, z_set, z_isn, z_isb, z_isi, z_iss, z_ist, z_isl, z_revl, isNon, atI_0, atI_1, atI_2, atI_3, ixN_1, ixN_2, ixN_3, List.map_cons, List.map_nil, List.length_cons, List.length_nil, List.replicate, List.cons_append, List.nil_append, List.append_nil, List.set_cons_zero, List.set_cons_succ, List.getElem?_cons_zero, List.getElem?_cons_succ, Nat.reduceAdd, Nat.reduceSub, Nat.reduceLT, Nat.reduceLeDiff, Nat.reduceEqDiff, Int.reduceNeg, Int.reduceAdd, Int.reduceSub, Int.reduceMul, Int.reducePow, Int.reduceToNat, Int.reduceLT, Int.reduceLE, Int.reduceEq, if_true, if_false, Bool.false_eq_true, decide_true, decide_false, true_and, and_true, Bool.not_true, Bool.not_false, List.set_nil, List.length_set, ne_eq, not_false_eq_true, reduceCtorEq, and_self, List.isEmpty_cons, List.isEmpty_nil, List.length_map, List.set_set, decide_eq_true_eq, List.getElem?_concat_length]
        exact hk5 _ _ ⟨t + 1, ht3, hus5, O6.push _, by rw [List.getElem?_append_left (List.getElem?_eq_some_iff.1 h6).1]; exact h6, _, _, _, _, _, rfl⟩
      · rintro z7 us7 acc S7 k7 ⟨rfl, j, hj, hu7, rfl⟩ ks7 kn7
        obtain ⟨hj2, ⟨y, hy, rfl⟩, hus7⟩ := enm_drop hu7
        rw [vec_len] at hj2
        rw [vec_at hj2] at hy
        cases hy
        have g2 := vec_atI (u := own n (rb b) t) hj2
        simp only [wpSs, wpS, wpE, wpEs, wpO, wpC, wpT, wpTg, wpTs, wpI, wipeU, startU, z_cell, z_slot, z_int, z_bl, z_tup, z_fn, z_lst, z_nil, z_cons, z_opt, z_optu, z_srct, z_srcl, z_bopi, z_bopt, z_bopl, z_bopm, z_add, z_sub, z_mul, z_div, z_mod, z_pow, z_auga, z_augs, z_augd, z_eqii, z_eqss, z_eqbb, z_eqtt, z_eqll, z_ceq, z_cne, z_clt, z_cle, z_cgt, z_cge, z_cin, z_cni, z_int_t, z_trn, z_trb, z_tri, z_trt, z_trl, z_ixt, z_ixl, z_slt, z_sll, z_sls, z_lent, z_lenl, z_abs, z_max, z_min, z_toi, z_tob, z_tut, z_tul, z_lit, z_lil, z_any, z_all, z_sum, z_app, z_set, z_isn, z_isb, z_isi, z_iss, z_ist, z_isl, z_revl, isNon, atI_0, atI_1, atI_2, atI_3, ixN_1, ixN_2, ixN_3, List.map_cons, List.map_nil, List.length_cons, List.length_nil, List.replicate, List.cons_append, List.nil_append, List.append_nil, List.set_cons_zero, List.set_cons_succ, List.getElem?_cons_zero, List.getElem?_cons_succ, Nat.reduceAdd, Nat.reduceSub, Nat.reduceLT, Nat.reduceLeDiff, Nat.reduceEqDiff, Int.reduceNeg, Int.reduceAdd, Int.reduceSub, Int.reduceMul, Int.reducePow, Int.reduceToNat, Int.reduceLT, Int.reduceLE, Int.reduceEq, if_true, if_false, Bool.false_eq_true, decide_true, decide_false, true_and, and_true, Bool.not_true, Bool.not_false, List.set_nil, List.length_set, ne_eq, not_false_eq_true, reduceCtorEq, and_self, List.isEmpty_cons, List.isEmpty_nil, List.length_map, List.set_set, decide_eq_true_eq, lenTs, g2]
        refine hM _ _ _ _ ⟨cf n b i t, own n (rb b) t j, rfl, H.sm_coef him htm, H.sm_own htm hj2, ?_⟩
        refine hS _ _ _ _ ⟨pt n (rb b) (rb b i) t j, cf n b i t * own n (rb b) t j, rfl, H.sm_pt him htm hj2, H.sm_term him htm hj2, ?_⟩
        refine ks7 _ _ (by rw [vec_len]; exact Nat.lt_of_lt_of_le (show j < 8 by omega) (by decide)) ⟨rfl, j + 1, hj2, hus7, ?_⟩
        rw [vec_push, pt_succ]
end K70

set_option Elab.async false
set_option linter.all false
set_option maxRecDepth 100000
set_option maxHeartbeats 8000000
namespace K70
open PySem PySem.Spec L2 Q GSM
def absI (i : Int) : Int := if i < 0 then -i else i
def badK (n : Nat) (b : Nat → Nat → Int) (i k : Nat) : Prop := ((cf n b i k).den : Int) < 2 * absI (cf n b i k).num
def least (n : Nat) (b : Nat → Nat → Int) (i : Nat) : Rat := tq (cf n b i (i - 1)) * sqs n (rb b) (i - 1)
def badI (n : Nat) (b : Nat → Nat → Int) (i : Nat) : Prop := 0 < i ∧ (sqs n (rb b) i).num * ((least n b i).den : Int) < (least n b i).num * ((sqs n (rb b) i).den : Int)
def Red (m n : Nat) (b : Nat → Nat → Int) : Prop := ∀ i, i < m → (∀ k, k < i → ¬ badK n b i k) ∧ ¬ badI n b i
theorem n34 : ((3 : Rat) / 4).num = 3 := by decide +kernel
theorem d34 : ((3 : Rat) / 4).den = 4 := by decide +kernel
theorem fr_34 : fr ((3 : Rat) / 4) = .tup [.int 3, .int 4] := by
  unfold fr
  rw [n34, d34]; rfl
theorem sm34 : Sm ((3 : Rat) / 4) := by
  unfold Sm
  rw [n34, d34]
  exact ⟨Nat.lt_of_lt_of_le (show 3 < 2 ^ 2 by decide) (Nat.pow_le_pow_right (by decide) (by decide)), Nat.lt_of_lt_of_le (show 4 < 2 ^ 3 by decide) (Nat.pow_le_pow_right (by decide) (by decide))⟩
theorem mu_at {m n i : Nat} {b : Nat → Nat → Int} (h : i < m) : L2.atI ((List.range m).map (muRow m n b)) (i : Int) = some (muRow m n b i) := by
  rw [_root_.Q.atI_nat, List.getElem?_map, List.getElem?_range h]; rfl
theorem mu_in {m n i k : Nat} {b : Nat → Nat → Int} (h : k < i) : L2.atI (vecU i (cf n b i) ++ [fr 1] ++ List.replicate (m - i - 1) (fr 0)) (k : Int) = some (fr (cf n b i k)) := by
  rw [_root_.Q.atI_nat, List.getElem?_append_left (by rw [List.length_append, vec_len]; simp; omega), List.getElem?_append_left (by rw [vec_len]; exact h), vec_at h]
def spRed : FSpec := fun us S Q X => ∃ (m n A0 : Nat) (b : Nat → Nat → Int), us = [zMat m n b] ∧ Bas m n b A0 ∧ (¬ Dep m n (rb b) → ∀ (r : Bool) S2, All S S2 → (r = true ↔ Red m n b) → Q (.bl r) S2) ∧ (Dep m n (rb b) → ∀ S2, All S S2 → X "SingularError" [] S2)
theorem w_is_reduced (G : Gm) (hO : Has G "orthogonal" spOrth) (hM : Has G "multiply" (spOp2 (· * ·))) (hS : Has G "subtract" (spOp2 (· - ·))) (hq : G.cts "Q" = some qd) : Pf G n_is_reduced i_is_reduced spRed := by
  rintro us S Q X ⟨m, n, A0, b, rfl, B, hQ, hX⟩
  obtain ⟨sO, eO, hO⟩ := hO
  obtain ⟨sM, eM, hM⟩ := hM
  obtain ⟨sS, eS, hS⟩ := hS
  have H := B.rows
  have hm := B.m6
  have hs2 : 2 ≤ sizeLine := by decide
  simp only [wpSs, wpS, wpE, wpEs, wpO, wpC, wpT, wpTg, wpTs, wpI, wipeU, startU, z_cell, z_slot, z_int, z_bl, z_tup, z_fn, z_lst, z_nil, z_cons, z_opt, z_optu, z_srct, z_srcl, z_bopi, z_bopt, z_bopl, z_bopm, z_add, z_sub, z_mul, z_div, z_mod, z_pow, z_auga, z_augs, z_augd, z_eqii, z_eqss, z_eqbb, z_eqtt, z_eqll, z_ceq, z_cne, z_clt, z_cle, z_cgt, z_cge, z_cin, z_cni, z_int_t, z_trn, z_trb, z_tri, z_trt, z_trl, z_ixt, z_ixl, z_slt, z_sll, z_sls, z_lent, z_lenl, z_abs, z_max, z_min, z_toi, z_tob, z_tut, z_tul, z_lit, z_lil, z_any, z_all, z_sum, z_app, z_set, z_isn, z_isb, z_isi, z_iss, z_ist, z_isl, z_revl, isNon, atI_0, atI_1, atI_2, atI_3, ixN_1, ixN_2, ixN_3, List.map_cons, List.map_nil, List.length_cons, List.length_nil, List.replicate, List.cons_append, List.nil_append, List.append_nil, List.set_cons_zero, List.set_cons_succ, List.getElem?_cons_zero, List.getElem?_cons_succ, Nat.reduceAdd, Nat.reduceSub, Nat.reduceLT, Nat.reduceLeDiff, Nat.reduceEqDiff, Int.reduceNeg, Int.reduceAdd, Int.reduceSub, Int.reduceMul, Int.reducePow, Int.reduceToNat, Int.reduceLT, Int.reduceLE, Int.reduceEq, if_true, if_false, Bool.false_eq_true, decide_true, decide_false, true_and, and_true, Bool.not_true, Bool.not_false, List.set_nil, List.length_set, ne_eq, not_false_eq_true, reduceCtorEq, and_self, List.isEmpty_cons, List.isEmpty_nil, List.length_map, List.set_set, decide_eq_true_eq, n_is_reduced, i_is_reduced, eO, eM, eS, hq, hs2]
  refine hO _ _ _ _ ⟨m, n, A0, b, rfl, B, fun hnd S1 k1 => ?_, hX⟩
  unfold zMat muU sqU
  simp only [wpSs, wpS, wpE, wpEs, wpO, wpC, wpT, wpTg, wpTs, wpI, wipeU, startU, z_cell, z_slot, z_int, z_bl, z_tup, z_fn, z_lst, z_nil, z_cons, z_opt, z_optu, z_srct, z_srcl, z_bopi, z_bopt, z_bopl, z_bopm, z_add, z_sub, z_mul, z_div, z_mod, z_pow, z_auga, z_augs, z_augd, z_eqii, z_eqss, z_eqbb, z_eqtt, z_eqll, z_ceq, z_cne, z_clt, z_cle, z_cgt, z_cge, z_cin, z_cni, z_int_t, z_trn, z_trb, z_tri, z_trt, z_trl, z_ixt, z_ixl, z_slt, z_sll, z_sls, z_lent, z_lenl, z_abs, z_max, z_min, z_toi, z_tob, z_tut, z_tul, z_lit, z_lil, z_any, z_all, z_sum, z_app, z_set, z_isn, z_isb, z_isi, z_iss, z_ist, z_isl, z_revl, isNon, atI_0, atI_1, atI_2, atI_3, ixN_1, ixN_2, ixN_3, List.map_cons, List.map_nil, List.length_cons, List.length_nil, List.replicate, List.cons_append, List.nil_append, List.append_nil, List.set_cons_zero, List.set_cons_succ, List.getElem?_cons_zero, List.getElem?_cons_succ, Nat.reduceAdd, Nat.reduceSub, Nat.reduceLT, Nat.reduceLeDiff, Nat.reduceEqDiff, Int.reduceNeg, Int.reduceAdd, Int.reduceSub, Int.reduceMul, Int.reducePow, Int.reduceToNat, Int.reduceLT, Int.reduceLE, Int.reduceEq, if_true, if_false, Bool.false_eq_true, decide_true, decide_false, true_and, and_true, Bool.not_true, Bool.not_false, List.set_nil, List.length_set, ne_eq, not_false_eq_true, reduceCtorEq, and_self, List.isEmpty_cons, List.isEmpty_nil, List.length_map, List.set_set, decide_eq_true_eq, lenTs]
  refine ⟨⟨by omega, by omega⟩, ?_⟩
  rw [Int.toNat_natCast]
  refine forL_ind (fun us σ S4 => S4 = S1 ∧ ∃ i : Nat, i ≤ m ∧ us = (rngL 0 m).drop i ∧ (∀ i2, i2 < i → (∀ k, k < i2 → ¬ badK n b i2 k) ∧ ¬ badI n b i2) ∧ ∃ o3 o4 o5 o6 o7 o8 : Option U, σ = [some (zMat m n b), some (muU m n b), some (sqU m n b), o3, o4, o5, o6, o7, o8]) ?_ ?_ ?_ _ _ _ ⟨rfl, 0, by omega, rfl, fun i2 h => by omega, _, _, _, _, _, _, rfl⟩
  · intros; trivial
  · rintro σ S4 ⟨rfl, i, hi, hu, hg, o3, o4, o5, o6, o7, o8, rfl⟩
    obtain rfl := rng_end hu hi
    exact hQ hnd true _ k1 ⟨fun _ => hg, fun _ => rfl⟩
  · rintro u us σ S4 k ⟨rfl, i, hi, hu, hg, o3, o4, o5, o6, o7, o8, rfl⟩ hk
    obtain ⟨him, rfl, hus⟩ := rng_drop hu
    have ei : (0 + (i : Int)) = i := by omega
    rw [ei]
    simp only [wpSs, wpS, wpE, wpEs, wpO, wpC, wpT, wpTg, wpTs, wpI, wipeU, startU, z_cell, z_slot, z_int, z_bl, z_tup, z_fn, z_lst, z_nil, z_cons, z_opt, z_optu, z_srct, z_srcl, z_bopi, z_bopt, z_bopl, z_bopm, z_add, z_sub, z_mul, z_div, z_mod, z_pow, z_auga, z_augs, z_augd, z_eqii, z_eqss, z_eqbb, z_eqtt, z_eqll, z_ceq, z_cne, z_clt, z_cle, z_cgt, z_cge, z_cin, z_cni, z_int_t, z_trn, z_trb, z_tri, z_trt, z_trl, z_ixt, z_ixl, z_slt, z_sll, z_sls, z_lent, z_lenl, z_abs, z_max, z_min, z_toi, z_tob, z_tut, z_tul, z_lit, z_lil, z_any, z_all, z_sum, z_app, z_set, z_isn, z_isb, z_isi, z_iss, z_ist, z_isl, z_revl, isNon, atI_0, atI_1, atI_2, atI_3, ixN_1, ixN_2, ixN_3, List.map_cons, List.map_nil, List.length_cons, List.length_nil, List.replicate, List.cons_append, List.nil_append, List.append_nil, List.set_cons_zero, List.set_cons_succ, List.getElem?_cons_zero, List.getElem?_cons_succ, Nat.reduceAdd, Nat.reduceSub, Nat.reduceLT, Nat.reduceLeDiff, Nat.reduceEqDiff, Int.reduceNeg, Int.reduceAdd, Int.reduceSub, Int.reduceMul, Int.reducePow, Int.reduceToNat, Int.reduceLT, Int.reduceLE, Int.reduceEq, if_true, if_false, Bool.false_eq_true, decide_true, decide_false, true_and, and_true, Bool.not_true, Bool.not_false, List.set_nil, List.length_set, ne_eq, not_false_eq_true, reduceCtorEq, and_self, List.isEmpty_cons, List.isEmpty_nil, List.length_map, List.set_set, decide_eq_true_eq]
    refine ⟨⟨by omega, by omega⟩, ?_⟩
    rw [Int.toNat_natCast]
    refine forL_ind (fun us σ S5 => S5 = S4 ∧ ∃ t : Nat, t ≤ i ∧ us = (rngL 0 i).drop t ∧ (∀ k, k < t → ¬ badK n b i k) ∧ ∃ o4 o5 o6 o7 o8 : Option U, σ = [some (zMat m n b), some (muU m n b), some (sqU m n b), some (.int i), o4, o5, o6, o7, o8]) ?_ ?_ ?_ _ _ _ ⟨rfl, 0, by omega, rfl, fun k h => by omega, _, _, _, _, _, rfl⟩
    · intros; trivial
    · rintro σ S5 ⟨rfl, t, ht, hu5, hgk, o4, o5, o6, o7, o8, rfl⟩
      obtain rfl := rng_end hu5 ht
      have g1 := mu_at (n := n) (b := b) him
      have g3 := vec_atI (u := sqs n (rb b)) him
      by_cases h0 : t = 0
      · have h01 : ¬ ((0 : Int) < (t : Int)) := by omega
        simp only [wpSs, wpS, wpE, wpEs, wpO, wpC, wpT, wpTg, wpTs, wpI, wipeU, startU, z_cell, z_slot, z_int, z_bl, z_tup, z_fn, z_lst, z_nil, z_cons, z_opt, z_optu, z_srct, z_srcl, z_bopi, z_bopt, z_bopl, z_bopm, z_add, z_sub, z_mul, z_div, z_mod, z_pow, z_auga, z_augs, z_augd, z_eqii, z_eqss, z_eqbb, z_eqtt, z_eqll, z_ceq, z_cne, z_clt, z_cle, z_cgt, z_cge, z_cin, z_cni, z_int_t, z_trn, z_trb, z_tri, z_trt, z_trl, z_ixt, z_ixl, z_slt, z_sll, z_sls, z_lent, z_lenl, z_abs, z_max, z_min, z_toi, z_tob, z_tut, z_tul, z_lit, z_lil, z_any, z_all, z_sum, z_app, z_set, z_isn, z_isb, z_isi, z_iss, z_ist, z_isl, z_revl, isNon, atI_0, atI_1, atI_2, atI_3, ixN_1, ixN_2, ixN_3, List.map_cons, List.map_nil, List.length_cons, List.length_nil, List.replicate, List.cons_append, List.nil_append, List.append_nil, List.set_cons_zero, List.set_cons_succ, List.getElem?_cons_zero, List.getElem?_cons_succ, Nat.reduceAdd, Nat.reduceSub, Nat.reduceLT, Nat.reduceLeDiff, Nat.reduceEqDiff, Int.reduceNeg, Int.reduceAdd, Int.reduceSub, Int.reduceMul, Int.reducePow, Int.reduceToNat, Int.reduceLT, Int.reduceLE, Int.reduceEq, if_true, if_false, Bool.false_eq_true, decide_true, decide_false, true_and, and_true, Bool.not_true, Bool.not_false, List.set_nil, List.length_set, ne_eq, not_false_eq_true, reduceCtorEq, and_self, List.isEmpty_cons, List.isEmpty_nil, List.length_map, List.set_set, decide_eq_true_eq, h01]
        refine hk _ _ ⟨rfl, t + 1, him, hus, fun i2 h2 => ?_, _, _, _, _, _, _, rfl⟩
        by_cases e : i2 = t
        · rw [e]; exact ⟨hgk, fun z => by have := z.1; omega⟩
        · exact hg i2 (by omega)
      · have h01 : ((0 : Int) < (t : Int)) := by omega
        have e1 : ((t : Int) - 1) = ((t - 1 : Nat) : Int) := by omega
        have g2 := mu_in (m := m) (n := n) (b := b) (show t - 1 < t by omega)
        have g4 := vec_atI (n := m) (u := sqs n (rb b)) (show t - 1 < m by omega)
        have ht1 : (t - 1) + 1 < m := by omega
        unfold muU sqU
        simp only [wpSs, wpS, wpE, wpEs, wpO, wpC, wpT, wpTg, wpTs, wpI, wipeU, startU, z_cell, z_slot, z_int, z_bl, z_tup, z_fn, z_lst, z_nil, z_cons, z_opt, z_optu, z_srct, z_srcl, z_bopi, z_bopt, z_bopl, z_bopm, z_add, z_sub, z_mul, z_div, z_mod, z_pow, z_auga, z_augs, z_augd, z_eqii, z_eqss, z_eqbb, z_eqtt, z_eqll, z_ceq, z_cne, z_clt, z_cle, z_cgt, z_cge, z_cin, z_cni, z_int_t, z_trn, z_trb, z_tri, z_trt, z_trl, z_ixt, z_ixl, z_slt, z_sll, z_sls, z_lent, z_lenl, z_abs, z_max, z_min, z_toi, z_tob, z_tut, z_tul, z_lit, z_lil, z_any, z_all, z_sum, z_app, z_set, z_isn, z_isb, z_isi, z_iss, z_ist, z_isl, z_revl, isNon, atI_0, atI_1, atI_2, atI_3, ixN_1, ixN_2, ixN_3, List.map_cons, List.map_nil, List.length_cons, List.length_nil, List.replicate, List.cons_append, List.nil_append, List.append_nil, List.set_cons_zero, List.set_cons_succ, List.getElem?_cons_zero, List.getElem?_cons_succ, Nat.reduceAdd, Nat.reduceSub, Nat.reduceLT, Nat.reduceLeDiff, Nat.reduceEqDiff, Int.reduceNeg, Int.reduceAdd, Int.reduceSub, Int.reduceMul, Int.reducePow, Int.reduceToNat, Int.reduceLT, Int.reduceLE, Int.reduceEq, if_true, if_false, Bool.false_eq_true, decide_true, decide_false, true_and, and_true, Bool.not_true, Bool.not_false, List.set_nil, List.length_set, ne_eq, not_false_eq_true, reduceCtorEq, and_self, List.isEmpty_cons, List.isEmpty_nil, List.length_map, List.set_set, decide_eq_true_eq, h01, e1, g1]
        unfold muRow
        simp only [wpSs, wpS, wpE, wpEs, wpO, wpC, wpT, wpTg, wpTs, wpI, wipeU, startU, z_cell, z_slot, z_int, z_bl, z_tup, z_fn, z_lst, z_nil, z_cons, z_opt, z_optu, z_srct, z_srcl, z_bopi, z_bopt, z_bopl, z_bopm, z_add, z_sub, z_mul, z_div, z_mod, z_pow, z_auga, z_augs, z_augd, z_eqii, z_eqss, z_eqbb, z_eqtt, z_eqll, z_ceq, z_cne, z_clt, z_cle, z_cgt, z_cge, z_cin, z_cni, z_int_t, z_trn, z_trb, z_tri, z_trt, z_trl, z_ixt, z_ixl, z_slt, z_sll, z_sls, z_lent, z_lenl, z_abs, z_max, z_min, z_toi, z_tob, z_tut, z_tul, z_lit, z_lil, z_any, z_all, z_sum, z_app, z_set, z_isn, z_isb, z_isi, z_iss, z_ist, z_isl, z_revl, isNon, atI_0, atI_1, atI_2, atI_3, ixN_1, ixN_2, ixN_3, List.map_cons, List.map_nil, List.length_cons, List.length_nil, List.replicate, List.cons_append, List.nil_append, List.append_nil, List.set_cons_zero, List.set_cons_succ, List.getElem?_cons_zero, List.getElem?_cons_succ, Nat.reduceAdd, Nat.reduceSub, Nat.reduceLT, Nat.reduceLeDiff, Nat.reduceEqDiff, Int.reduceNeg, Int.reduceAdd, Int.reduceSub, Int.reduceMul, Int.reducePow, Int.reduceToNat, Int.reduceLT, Int.reduceLE, Int.reduceEq, if_true, if_false, Bool.false_eq_true, decide_true, decide_false, true_and, and_true, Bool.not_true, Bool.not_false, List.set_nil, List.length_set, ne_eq, not_false_eq_true, reduceCtorEq, and_self, List.isEmpty_cons, List.isEmpty_nil, List.length_map, List.set_set, decide_eq_true_eq, g2]
        refine hM _ _ _ _ ⟨cf n b t (t - 1), cf n b t (t - 1), rfl, H.sm_coef him (by omega), H.sm_coef him (by omega), ?_⟩
        refine hS _ _ _ _ ⟨(3 : Rat) / 4, cf n b t (t - 1) * cf n b t (t - 1), by rw [fr_34], sm34, H.sm_cc him ht1, ?_⟩
        simp only [wpSs, wpS, wpE, wpEs, wpO, wpC, wpT, wpTg, wpTs, wpI, wipeU, startU, z_cell, z_slot, z_int, z_bl, z_tup, z_fn, z_lst, z_nil, z_cons, z_opt, z_optu, z_srct, z_srcl, z_bopi, z_bopt, z_bopl, z_bopm, z_add, z_sub, z_mul, z_div, z_mod, z_pow, z_auga, z_augs, z_augd, z_eqii, z_eqss, z_eqbb, z_eqtt, z_eqll, z_ceq, z_cne, z_clt, z_cle, z_cgt, z_cge, z_cin, z_cni, z_int_t, z_trn, z_trb, z_tri, z_trt, z_trl, z_ixt, z_ixl, z_slt, z_sll, z_sls, z_lent, z_lenl, z_abs, z_max, z_min, z_toi, z_tob, z_tut, z_tul, z_lit, z_lil, z_any, z_all, z_sum, z_app, z_set, z_isn, z_isb, z_isi, z_iss, z_ist, z_isl, z_revl, isNon, atI_0, atI_1, atI_2, atI_3, ixN_1, ixN_2, ixN_3, List.map_cons, List.map_nil, List.length_cons, List.length_nil, List.replicate, List.cons_append, List.nil_append, List.append_nil, List.set_cons_zero, List.set_cons_succ, List.getElem?_cons_zero, List.getElem?_cons_succ, Nat.reduceAdd, Nat.reduceSub, Nat.reduceLT, Nat.reduceLeDiff, Nat.reduceEqDiff, Int.reduceNeg, Int.reduceAdd, Int.reduceSub, Int.reduceMul, Int.reducePow, Int.reduceToNat, Int.reduceLT, Int.reduceLE, Int.reduceEq, if_true, if_false, Bool.false_eq_true, decide_true, decide_false, true_and, and_true, Bool.not_true, Bool.not_false, List.set_nil, List.length_set, ne_eq, not_false_eq_true, reduceCtorEq, and_self, List.isEmpty_cons, List.isEmpty_nil, List.length_map, List.set_set, decide_eq_true_eq, g4]
        refine hM _ _ _ _ ⟨tq (cf n b t (t - 1)), sqs n (rb b) (t - 1), rfl, H.sm_tq him ht1, H.sm_sq (by omega), ?_⟩
        have smL : Sm (least n b t) := H.sm_least him ht1
        have smq1 : Sm (sqs n (rb b) t) := H.sm_sq him
        show _
        simp only [wpSs, wpS, wpE, wpEs, wpO, wpC, wpT, wpTg, wpTs, wpI, wipeU, startU, z_cell, z_slot, z_int, z_bl, z_tup, z_fn, z_lst, z_nil, z_cons, z_opt, z_optu, z_srct, z_srcl, z_bopi, z_bopt, z_bopl, z_bopm, z_add, z_sub, z_mul, z_div, z_mod, z_pow, z_auga, z_augs, z_augd, z_eqii, z_eqss, z_eqbb, z_eqtt, z_eqll, z_ceq, z_cne, z_clt, z_cle, z_cgt, z_cge, z_cin, z_cni, z_int_t, z_trn, z_trb, z_tri, z_trt, z_trl, z_ixt, z_ixl, z_slt, z_sll, z_sls, z_lent, z_lenl, z_abs, z_max, z_min, z_toi, z_tob, z_tut, z_tul, z_lit, z_lil, z_any, z_all, z_sum, z_app, z_set, z_isn, z_isb, z_isi, z_iss, z_ist, z_isl, z_revl, isNon, atI_0, atI_1, atI_2, atI_3, ixN_1, ixN_2, ixN_3, List.map_cons, List.map_nil, List.length_cons, List.length_nil, List.replicate, List.cons_append, List.nil_append, List.append_nil, List.set_cons_zero, List.set_cons_succ, List.getElem?_cons_zero, List.getElem?_cons_succ, Nat.reduceAdd, Nat.reduceSub, Nat.reduceLT, Nat.reduceLeDiff, Nat.reduceEqDiff, Int.reduceNeg, Int.reduceAdd, Int.reduceSub, Int.reduceMul, Int.reducePow, Int.reduceToNat, Int.reduceLT, Int.reduceLE, Int.reduceEq, if_true, if_false, Bool.false_eq_true, decide_true, decide_false, true_and, and_true, Bool.not_true, Bool.not_false, List.set_nil, List.length_set, ne_eq, not_false_eq_true, reduceCtorEq, and_self, List.isEmpty_cons, List.isEmpty_nil, List.length_map, List.set_set, decide_eq_true_eq, g3]
        have q1 : sqs n (rb b) t = sqs n (rb b) t := rfl
        obtain ⟨L, hL⟩ : ∃ L, L = tq (cf n b t (t - 1)) * sqs n (rb b) (t - 1) := ⟨_, rfl⟩
        have smL2 : Sm L := by rw [hL]; exact smL
        have hbad : badI n b t ↔ (sqs n (rb b) t).num * (L.den : Int) < L.num * ((sqs n (rb b) t).den : Int) := by
          unfold badI least
          rw [hL]
          exact ⟨fun z => z.2, fun z => ⟨by omega, z⟩⟩
        rw [← hL]
        obtain ⟨s2, hs2'⟩ : ∃ s2, s2 = sqs n (rb b) t := ⟨_, rfl⟩
        rw [← hs2'] at hbad smq1 ⊢
        have m1 := smq1.nd smL2
        have m2 := smL2.nd smq1
        unfold fr
        simp only [wpSs, wpS, wpE, wpEs, wpO, wpC, wpT, wpTg, wpTs, wpI, wipeU, startU, z_cell, z_slot, z_int, z_bl, z_tup, z_fn, z_lst, z_nil, z_cons, z_opt, z_optu, z_srct, z_srcl, z_bopi, z_bopt, z_bopl, z_bopm, z_add, z_sub, z_mul, z_div, z_mod, z_pow, z_auga, z_augs, z_augd, z_eqii, z_eqss, z_eqbb, z_eqtt, z_eqll, z_ceq, z_cne, z_clt, z_cle, z_cgt, z_cge, z_cin, z_cni, z_int_t, z_trn, z_trb, z_tri, z_trt, z_trl, z_ixt, z_ixl, z_slt, z_sll, z_sls, z_lent, z_lenl, z_abs, z_max, z_min, z_toi, z_tob, z_tut, z_tul, z_lit, z_lil, z_any, z_all, z_sum, z_app, z_set, z_isn, z_isb, z_isi, z_iss, z_ist, z_isl, z_revl, isNon, atI_0, atI_1, atI_2, atI_3, ixN_1, ixN_2, ixN_3, List.map_cons, List.map_nil, List.length_cons, List.length_nil, List.replicate, List.cons_append, List.nil_append, List.append_nil, List.set_cons_zero, List.set_cons_succ, List.getElem?_cons_zero, List.getElem?_cons_succ, Nat.reduceAdd, Nat.reduceSub, Nat.reduceLT, Nat.reduceLeDiff, Nat.reduceEqDiff, Int.reduceNeg, Int.reduceAdd, Int.reduceSub, Int.reduceMul, Int.reducePow, Int.reduceToNat, Int.reduceLT, Int.reduceLE, Int.reduceEq, if_true, if_false, Bool.false_eq_true, decide_true, decide_false, true_and, and_true, Bool.not_true, Bool.not_false, List.set_nil, List.length_set, ne_eq, not_false_eq_true, reduceCtorEq, and_self, List.isEmpty_cons, List.isEmpty_nil, List.length_map, List.set_set, decide_eq_true_eq, m1, m2]
        by_cases hlt : s2.num * (L.den : Int) < L.num * (s2.den : Int)
        · rw [if_pos hlt]
          exact hQ hnd false _ k1 ⟨(fun z => nomatch z), fun z => absurd (hbad.2 hlt) (z t him).2⟩
        · rw [if_neg hlt]
          refine hk _ _ ⟨rfl, t + 1, him, hus, fun i2 h2 => ?_, _, _, _, _, _, _, rfl⟩
          by_cases e : i2 = t
          · rw [e]; exact ⟨hgk, fun z => hlt (hbad.1 z)⟩
          · exact hg i2 (by omega)
    · rintro u5 us5 σ S5 k5 ⟨rfl, t, ht, hu5, hgk, o4, o5, o6, o7, o8, rfl⟩ hk5
      obtain ⟨ht2, rfl, hus5⟩ := rng_drop hu5
      have et : (0 + (t : Int)) = t := by omega
      have g1 := mu_at (n := n) (b := b) him
      have g2 := mu_in (m := m) (n := n) (b := b) ht2
      rw [et]
      unfold muU
      simp only [wpSs, wpS, wpE, wpEs, wpO, wpC, wpT, wpTg, wpTs, wpI, wipeU, startU, z_cell, z_slot, z_int, z_bl, z_tup, z_fn, z_lst, z_nil, z_cons, z_opt, z_optu, z_srct, z_srcl, z_bopi, z_bopt, z_bopl, z_bopm, z_add, z_sub, z_mul, z_div, z_mod, z_pow, z_auga, z_augs, z_augd, z_eqii, z_eqss, z_eqbb, z_eqtt, z_eqll, z_ceq, z_cne, z_clt, z_cle, z_cgt, z_cge, z_cin, z_cni, z_int_t, z_trn, z_trb, z_tri, z_trt, z_trl, z_ixt, z_ixl, z_slt, z_sll, z_sls, z_lent, z_lenl, z_abs, z_max, z_min, z_toi, z_tob, z_tut, z_tul, z_lit, z_lil, z_any, z_all, z_sum, z_app, z_set, z_isn, z_isb, z_isi, z_iss, z_ist, z_isl, z_revl, isNon, atI_0, atI_1, atI_2, atI_3, ixN_1, ixN_2, ixN_3, List.map_cons, List.map_nil, List.length_cons, List.length_nil, List.replicate, List.cons_append, List.nil_append, List.append_nil, List.set_cons_zero, List.set_cons_succ, List.getElem?_cons_zero, List.getElem?_cons_succ, Nat.reduceAdd, Nat.reduceSub, Nat.reduceLT, Nat.reduceLeDiff, Nat.reduceEqDiff, Int.reduceNeg, Int.reduceAdd, Int.reduceSub, Int.reduceMul, Int.reducePow, Int.reduceToNat, Int.reduceLT, Int.reduceLE, Int.reduceEq, if_true, if_false, Bool.false_eq_true, decide_true, decide_false, true_and, and_true, Bool.not_true, Bool.not_false, List.set_nil, List.length_set, ne_eq, not_false_eq_true, reduceCtorEq, and_self, List.isEmpty_cons, List.isEmpty_nil, List.length_map, List.set_set, decide_eq_true_eq, g1]
      unfold muRow
      simp only [wpSs, wpS, wpE, wpEs, wpO, wpC, wpT, wpTg, wpTs, wpI, wipeU, startU, z_cell, z_slot, z_int, z_bl, z_tup, z_fn, z_lst, z_nil, z_cons, z_opt, z_optu, z_srct, z_srcl, z_bopi, z_bopt, z_bopl, z_bopm, z_add, z_sub, z_mul, z_div, z_mod, z_pow, z_auga, z_augs, z_augd, z_eqii, z_eqss, z_eqbb, z_eqtt, z_eqll, z_ceq, z_cne, z_clt, z_cle, z_cgt, z_cge, z_cin, z_cni, z_int_t, z_trn, z_trb, z_tri, z_trt, z_trl, z_ixt, z_ixl, z_slt, z_sll, z_sls, z_lent, z_lenl, z_abs, z_max, z_min, z_toi, z_tob, z_tut, z_tul, z_lit, z_lil, z_any, z_all, z_sum, z_app, z_set, z_isn, z_isb, z_isi, z_iss, z_ist, z_isl, z_revl, isNon, atI_0, atI_1, atI_2, atI_3, ixN_1, ixN_2, ixN_3, List.map_cons, List.map_nil, List.length_cons, List.length_nil, List.replicate, List.cons_append, List.nil_append, List.append_nil, List.set_cons_zero, List.set_cons_succ, List.getElem?_cons_zero, List.getElem?_cons_succ, Nat.reduceAdd, Nat.reduceSub, Nat.reduceLT, Nat.reduceLeDiff, Nat.reduceEqDiff, Int.reduceNeg, Int.reduceAdd, Int.reduceSub, Int.reduceMul, Int.reducePow, Int.reduceToNat, Int.reduceLT, Int.reduceLE, Int.reduceEq, if_true, if_false, Bool.false_eq_true, decide_true, decide_false, true_and, and_true, Bool.not_true, Bool.not_false, List.set_nil, List.length_set, ne_eq, not_false_eq_true, reduceCtorEq, and_self, List.isEmpty_cons, List.isEmpty_nil, List.length_map, List.set_set, decide_eq_true_eq, g2]
      unfold fr
      simp only [wpSs, wpS, wpE, wpEs, wpO, wpC, wpT, wpTg, wpTs, wpI, wipeU, startU, z_cell, z_slot, z_int, z_bl, z_tup, z_fn, z_lst, z_nil, z_cons, z_opt, z_optu, z_srct, z_srcl, z_bopi, z_bopt, z_bopl, z_bopm, z_add, z_sub, z_mul, z_div, z_mod, z_pow, z_auga, z_augs, z_augd, z_eqii, z_eqss, z_eqbb, z_eqtt, z_eqll, z_ceq, z_cne, z_clt, z_cle, z_cgt, z_cge, z_cin, z_cni, z_int_t, z_trn, z_trb, z_tri, z_trt, z_trl, z_ixt, z_ixl, z_slt, z_sll, z_sls, z_lent, z_lenl, z_abs, z_max, z_min, z_toi, z_tob, z_tut, z_tul, z_lit, z_lil, z_any, z_all, z_sum, z_app, z_set, z_isn, z_isb, z_isi, z_iss, z_ist, z_isl, z_revl, isNon, atI_0, atI_1, atI_2, atI_3, ixN_1, ixN_2, ixN_3, List.map_cons, List.map_nil, List.length_cons, List.length_nil, List.replicate, List.cons_append, List.nil_append, List.append_nil, List.set_cons_zero, List.set_cons_succ, List.getElem?_cons_zero, List.getElem?_cons_succ, Nat.reduceAdd, Nat.reduceSub, Nat.reduceLT, Nat.reduceLeDiff, Nat.reduceEqDiff, Int.reduceNeg, Int.reduceAdd, Int.reduceSub, Int.reduceMul, Int.reducePow, Int.reduceToNat, Int.reduceLT, Int.reduceLE, Int.reduceEq, if_true, if_false, Bool.false_eq_true, decide_true, decide_false, true_and, and_true, Bool.not_true, Bool.not_false, List.set_nil, List.length_set, ne_eq, not_false_eq_true, reduceCtorEq, and_self, List.isEmpty_cons, List.isEmpty_nil, List.length_map, List.set_set, decide_eq_true_eq, lenTs]
      have smc : Sm (cf n b i t) := H.sm_coef him (by omega)
      have m1 : (Int.natAbs 2).log2 + (if (cf n b i t).num < 0 then -(cf n b i t).num else (cf n b i t).num).natAbs.log2 < 1000000 := by
        have h1 := lgB 100000 (by decide) smc.1
        have h2 : (Int.natAbs 2).log2 < 2 := by decide
        have h3 : (if (cf n b i t).num < 0 then -(cf n b i t).num else (cf n b i t).num).natAbs = (cf n b i t).num.natAbs := by split <;> omega
        rw [h3]
        omega
      refine ⟨m1, ?_⟩
      by_cases hb : ((cf n b i t).den : Int) < 2 * (if (cf n b i t).num < 0 then -(cf n b i t).num else (cf n b i t).num)
      · rw [if_pos hb]
        exact hQ hnd false _ k1 ⟨(fun z => nomatch z), fun z => absurd hb ((z i him).1 t ht2)⟩
      · rw [if_neg hb]
        refine hk5 _ _ ⟨rfl, t + 1, ht2, hus5, fun k h => ?_, _, _, _, _, _, rfl⟩
        by_cases e : k = t
        · rw [e]; exact hb
        · exact hgk k (by omega)
end K70

set_option Elab.async false
set_option linter.all false
set_option maxRecDepth 100000
set_option maxHeartbeats 4000000
namespace K70
open PySem PySem.Spec L2 Q GSM
/-! ### the law's own helpers -/
def spLDot : FSpec := fun us S Q _ => ∃ (a c n : Nat) (u v : Nat → Rat), us = [qd, .lst a, .lst c] ∧ S[a]? = some (.lst (vecU n u)) ∧ S[c]? = some (.lst (vecU n v)) ∧ n ≤ 1000 ∧ (∀ j, j < n → SmQ (u j) ∧ SmQ (v j) ∧ SmQ (u j * v j)) ∧ (∀ T, T ≤ n → SmQ (GSM.sum T fun j => u j * v j)) ∧ Q (fr (dot n u v)) S
theorem w_law_dot (G : Gm) (hZ : Has G "_law_zero" spZero) (hA : Has G "_law_add" (spOp2 (· + ·))) (hM : Has G "_law_multiply" (spOp2 (· * ·))) : Pf G n_law_dot i_law_dot spLDot := by
  rintro us S Q X ⟨a, c, n, u, v, rfl, ha, hc, hn, h1, h2, hQ⟩
  obtain ⟨sZ, eZ, hZ⟩ := hZ
  obtain ⟨sA, eA, hA⟩ := hA
  obtain ⟨sM, eM, hM⟩ := hM
  simp only [wpSs, wpS, wpE, wpEs, wpO, wpC, wpT, wpTg, wpTs, wpI, wipeU, startU, z_cell, z_slot, z_int, z_bl, z_tup, z_fn, z_lst, z_nil, z_cons, z_opt, z_optu, z_srct, z_srcl, z_bopi, z_bopt, z_bopl, z_bopm, z_add, z_sub, z_mul, z_div, z_mod, z_pow, z_auga, z_augs, z_augd, z_eqii, z_eqss, z_eqbb, z_eqtt, z_eqll, z_ceq, z_cne, z_clt, z_cle, z_cgt, z_cge, z_cin, z_cni, z_int_t, z_trn, z_trb, z_tri, z_trt, z_trl, z_ixt, z_ixl, z_slt, z_sll, z_sls, z_lent, z_lenl, z_abs, z_max, z_min, z_toi, z_tob, z_tut, z_tul, z_lit, z_lil, z_any, z_all, z_sum, z_app, z_set, z_isn, z_isb, z_isi, z_iss, z_ist, z_isl, z_revl, isNon, atI_0, atI_1, atI_2, atI_3, ixN_1, ixN_2, ixN_3, List.map_cons, List.map_nil, List.length_cons, List.length_nil, List.replicate, List.cons_append, List.nil_append, List.append_nil, List.set_cons_zero, List.set_cons_succ, List.getElem?_cons_zero, List.getElem?_cons_succ, Nat.reduceAdd, Nat.reduceSub, Nat.reduceLT, Nat.reduceLeDiff, Nat.reduceEqDiff, Int.reduceNeg, Int.reduceAdd, Int.reduceSub, Int.reduceMul, Int.reducePow, Int.reduceToNat, Int.reduceLT, Int.reduceLE, Int.reduceEq, if_true, if_false, Bool.false_eq_true, decide_true, decide_false, true_and, and_true, Bool.not_true, Bool.not_false, List.set_nil, List.length_set, ne_eq, not_false_eq_true, reduceCtorEq, and_self, List.isEmpty_cons, List.isEmpty_nil, List.length_map, List.set_set, decide_eq_true_eq, n_law_dot, i_law_dot, eZ, eA, eM]
  refine hZ _ _ _ _ ⟨rfl, ?_⟩
  simp only [wpSs, wpS, wpE, wpEs, wpO, wpC, wpT, wpTg, wpTs, wpI, wipeU, startU, z_cell, z_slot, z_int, z_bl, z_tup, z_fn, z_lst, z_nil, z_cons, z_opt, z_optu, z_srct, z_srcl, z_bopi, z_bopt, z_bopl, z_bopm, z_add, z_sub, z_mul, z_div, z_mod, z_pow, z_auga, z_augs, z_augd, z_eqii, z_eqss, z_eqbb, z_eqtt, z_eqll, z_ceq, z_cne, z_clt, z_cle, z_cgt, z_cge, z_cin, z_cni, z_int_t, z_trn, z_trb, z_tri, z_trt, z_trl, z_ixt, z_ixl, z_slt, z_sll, z_sls, z_lent, z_lenl, z_abs, z_max, z_min, z_toi, z_tob, z_tut, z_tul, z_lit, z_lil, z_any, z_all, z_sum, z_app, z_set, z_isn, z_isb, z_isi, z_iss, z_ist, z_isl, z_revl, isNon, atI_0, atI_1, atI_2, atI_3, ixN_1, ixN_2, ixN_3, List.map_cons, List.map_nil, List.length_cons, List.length_nil, List.replicate, List.cons_append, List.nil_append, List.append_nil, List.set_cons_zero, List.set_cons_succ, List.getElem?_cons_zero, List.getElem?_cons_succ, Nat.reduceAdd, Nat.reduceSub, Nat.reduceLT, Nat.reduceLeDiff, Nat.reduceEqDiff, Int.reduceNeg, Int.reduceAdd, Int.reduceSub, Int.reduceMul, Int.reducePow, Int.reduceToNat, Int.reduceLT, Int.reduceLE, Int.reduceEq, if_true, if_false, Bool.false_eq_true, decide_true, decide_false, true_and, and_true, Bool.not_true, Bool.not_false, List.set_nil, List.length_set, ne_eq, not_false_eq_true, reduceCtorEq, and_self, List.isEmpty_cons, List.isEmpty_nil, List.length_map, List.set_set, decide_eq_true_eq, ha, vec_len]
  refine ⟨⟨by omega, by omega⟩, ?_⟩
  rw [Int.toNat_natCast]
  refine forL_ind (fun us σ S4 => S4 = S ∧ ∃ i : Nat, i ≤ n ∧ us = (rngL 0 n).drop i ∧ ∃ o1 : Option U, σ = [some qd, some (.lst a), some (.lst c), some (fr (GSM.sum i fun j => u j * v j)), o1]) ?_ ?_ ?_ _ _ _ ⟨rfl, 0, by omega, rfl, none, rfl⟩
  · intros; trivial
  · rintro σ S4 ⟨rfl, i, hi, hu, o1, rfl⟩
    obtain rfl := rng_end hu hi
    exact hQ
  · rintro z us σ S4 k ⟨rfl, i, hi, hu, o1, rfl⟩ hk
    obtain ⟨hi2, rfl, hus⟩ := rng_drop hu
    have ei : (0 + (i : Int)) = i := by omega
    have e1 := vec_atI (u := u) hi2
    have e2 := vec_atI (u := v) hi2
    rw [ei]
    simp only [wpSs, wpS, wpE, wpEs, wpO, wpC, wpT, wpTg, wpTs, wpI, wipeU, startU, z_cell, z_slot, z_int, z_bl, z_tup, z_fn, z_lst, z_nil, z_cons, z_opt, z_optu, z_srct, z_srcl, z_bopi, z_bopt, z_bopl, z_bopm, z_add, z_sub, z_mul, z_div, z_mod, z_pow, z_auga, z_augs, z_augd, z_eqii, z_eqss, z_eqbb, z_eqtt, z_eqll, z_ceq, z_cne, z_clt, z_cle, z_cgt, z_cge, z_cin, z_cni, z_int_t, z_trn, z_trb, z_tri, z_trt, z_trl, z_ixt, z_ixl, z_slt, z_sll, z_sls, z_lent, z_lenl, z_abs, z_max, z_min, z_toi, z_tob, z_tut, z_tul, z_lit, z_lil, z_any, z_all, z_sum, z_app, z_set, z_isn, z_isb, z_isi, z_iss, z_ist, z_isl, z_revl, isNon, atI_0, atI_1, atI_2, atI_3, ixN_1, ixN_2, ixN_3, List.map_cons, List.map_nil, List.length_cons, List.length_nil, List.replicate, List.cons_append, List.nil_append, List.append_nil, List.set_cons_zero, List.set_cons_succ, List.getElem?_cons_zero, List.getElem?_cons_succ, Nat.reduceAdd, Nat.reduceSub, Nat.reduceLT, Nat.reduceLeDiff, Nat.reduceEqDiff, Int.reduceNeg, Int.reduceAdd, Int.reduceSub, Int.reduceMul, Int.reducePow, Int.reduceToNat, Int.reduceLT, Int.reduceLE, Int.reduceEq, if_true, if_false, Bool.false_eq_true, decide_true, decide_false, true_and, and_true, Bool.not_true, Bool.not_false, List.set_nil, List.length_set, ne_eq, not_false_eq_true, reduceCtorEq, and_self, List.isEmpty_cons, List.isEmpty_nil, List.length_map, List.set_set, decide_eq_true_eq, ha, hc, e1, e2]
    refine hM _ _ _ _ ⟨u i, v i, rfl, (h1 i hi2).1, (h1 i hi2).2.1, ?_⟩
    refine hA _ _ _ _ ⟨GSM.sum i fun j => u j * v j, u i * v i, rfl, h2 i (by omega), (h1 i hi2).2.2, ?_⟩
    exact hk _ _ ⟨rfl, i + 1, hi2, hus, _, rfl⟩
def spSmallZ : FSpec := fun us S Q _ => ∃ c m, us = [.lst c, zd] ∧ Cs S c m ∧ m < 999900 ∧ ∀ x S2, -49 ≤ x → x ≤ 49 → Ext c S S2 → Cs S2 c (m + 3) → Q (.int x) S2
theorem w_law_small (G : Gm) (hT : Has G "_law_take" spTake) : Pf G n_law_small i_law_small spSmallZ := by
  rintro us S Q X ⟨c, m, rfl, hC, hm, hQ⟩
  obtain ⟨sT, eT, hT⟩ := hT
  have hs5 : 5 ≤ sizeLine := by decide
  unfold zd
  simp only [wpSs, wpS, wpE, wpEs, wpO, wpC, wpT, wpTg, wpTs, wpI, wipeU, startU, z_cell, z_slot, z_int, z_bl, z_tup, z_fn, z_lst, z_nil, z_cons, z_opt, z_optu, z_srct, z_srcl, z_bopi, z_bopt, z_bopl, z_bopm, z_add, z_sub, z_mul, z_div, z_mod, z_pow, z_auga, z_augs, z_augd, z_eqii, z_eqss, z_eqbb, z_eqtt, z_eqll, z_ceq, z_cne, z_clt, z_cle, z_cgt, z_cge, z_cin, z_cni, z_int_t, z_trn, z_trb, z_tri, z_trt, z_trl, z_ixt, z_ixl, z_slt, z_sll, z_sls, z_lent, z_lenl, z_abs, z_max, z_min, z_toi, z_tob, z_tut, z_tul, z_lit, z_lil, z_any, z_all, z_sum, z_app, z_set, z_isn, z_isb, z_isi, z_iss, z_ist, z_isl, z_revl, isNon, atI_0, atI_1, atI_2, atI_3, ixN_1, ixN_2, ixN_3, List.map_cons, List.map_nil, List.length_cons, List.length_nil, List.replicate, List.cons_append, List.nil_append, List.append_nil, List.set_cons_zero, List.set_cons_succ, List.getElem?_cons_zero, List.getElem?_cons_succ, Nat.reduceAdd, Nat.reduceSub, Nat.reduceLT, Nat.reduceLeDiff, Nat.reduceEqDiff, Int.reduceNeg, Int.reduceAdd, Int.reduceSub, Int.reduceMul, Int.reducePow, Int.reduceToNat, Int.reduceLT, Int.reduceLE, Int.reduceEq, if_true, if_false, Bool.false_eq_true, decide_true, decide_false, true_and, and_true, Bool.not_true, Bool.not_false, List.set_nil, List.length_set, ne_eq, not_false_eq_true, reduceCtorEq, and_self, List.isEmpty_cons, List.isEmpty_nil, List.length_map, List.set_set, decide_eq_true_eq, n_law_small, i_law_small, s_ZF, s_ZQ, s_ZP, eT]
  refine hT _ _ _ _ ⟨c, 9, m, rfl, by decide, by decide, hC, by omega, fun dg S2 d0 d1 e2 c2 => ?_⟩
  simp only [wpSs, wpS, wpE, wpEs, wpO, wpC, wpT, wpTg, wpTs, wpI, wipeU, startU, z_cell, z_slot, z_int, z_bl, z_tup, z_fn, z_lst, z_nil, z_cons, z_opt, z_optu, z_srct, z_srcl, z_bopi, z_bopt, z_bopl, z_bopm, z_add, z_sub, z_mul, z_div, z_mod, z_pow, z_auga, z_augs, z_augd, z_eqii, z_eqss, z_eqbb, z_eqtt, z_eqll, z_ceq, z_cne, z_clt, z_cle, z_cgt, z_cge, z_cin, z_cni, z_int_t, z_trn, z_trb, z_tri, z_trt, z_trl, z_ixt, z_ixl, z_slt, z_sll, z_sls, z_lent, z_lenl, z_abs, z_max, z_min, z_toi, z_tob, z_tut, z_tul, z_lit, z_lil, z_any, z_all, z_sum, z_app, z_set, z_isn, z_isb, z_isi, z_iss, z_ist, z_isl, z_revl, isNon, atI_0, atI_1, atI_2, atI_3, ixN_1, ixN_2, ixN_3, List.map_cons, List.map_nil, List.length_cons, List.length_nil, List.replicate, List.cons_append, List.nil_append, List.append_nil, List.set_cons_zero, List.set_cons_succ, List.getElem?_cons_zero, List.getElem?_cons_succ, Nat.reduceAdd, Nat.reduceSub, Nat.reduceLT, Nat.reduceLeDiff, Nat.reduceEqDiff, Int.reduceNeg, Int.reduceAdd, Int.reduceSub, Int.reduceMul, Int.reducePow, Int.reduceToNat, Int.reduceLT, Int.reduceLE, Int.reduceEq, if_true, if_false, Bool.false_eq_true, decide_true, decide_false, true_and, and_true, Bool.not_true, Bool.not_false, List.set_nil, List.length_set, ne_eq, not_false_eq_true, reduceCtorEq, and_self, List.isEmpty_cons, List.isEmpty_nil, List.length_map, List.set_set, decide_eq_true_eq]
  refine hT _ _ _ _ ⟨c, 99, m + 1, rfl, by decide, by decide, c2, by omega, fun dg2 S3 d2 d3 e3 c3 => ?_⟩
  simp only [wpSs, wpS, wpE, wpEs, wpO, wpC, wpT, wpTg, wpTs, wpI, wipeU, startU, z_cell, z_slot, z_int, z_bl, z_tup, z_fn, z_lst, z_nil, z_cons, z_opt, z_optu, z_srct, z_srcl, z_bopi, z_bopt, z_bopl, z_bopm, z_add, z_sub, z_mul, z_div, z_mod, z_pow, z_auga, z_augs, z_augd, z_eqii, z_eqss, z_eqbb, z_eqtt, z_eqll, z_ceq, z_cne, z_clt, z_cle, z_cgt, z_cge, z_cin, z_cni, z_int_t, z_trn, z_trb, z_tri, z_trt, z_trl, z_ixt, z_ixl, z_slt, z_sll, z_sls, z_lent, z_lenl, z_abs, z_max, z_min, z_toi, z_tob, z_tut, z_tul, z_lit, z_lil, z_any, z_all, z_sum, z_app, z_set, z_isn, z_isb, z_isi, z_iss, z_ist, z_isl, z_revl, isNon, atI_0, atI_1, atI_2, atI_3, ixN_1, ixN_2, ixN_3, List.map_cons, List.map_nil, List.length_cons, List.length_nil, List.replicate, List.cons_append, List.nil_append, List.append_nil, List.set_cons_zero, List.set_cons_succ, List.getElem?_cons_zero, List.getElem?_cons_succ, Nat.reduceAdd, Nat.reduceSub, Nat.reduceLT, Nat.reduceLeDiff, Nat.reduceEqDiff, Int.reduceNeg, Int.reduceAdd, Int.reduceSub, Int.reduceMul, Int.reducePow, Int.reduceToNat, Int.reduceLT, Int.reduceLE, Int.reduceEq, if_true, if_false, Bool.false_eq_true, decide_true, decide_false, true_and, and_true, Bool.not_true, Bool.not_false, List.set_nil, List.length_set, ne_eq, not_false_eq_true, reduceCtorEq, and_self, List.isEmpty_cons, List.isEmpty_nil, List.length_map, List.set_set, decide_eq_true_eq]
  refine ⟨hs5, ?_⟩
  refine hT _ _ _ _ ⟨c, 5, m + 2, rfl, by decide, by decide, c3.push _, by omega, fun dg4 S4 d4 d5 e4 c4 => ?_⟩
  have hl := e4.new c3.lt
  have e4 := (e2.trans (e3.trans (Ext.push c S3 _))).trans e4
  simp only [wpSs, wpS, wpE, wpEs, wpO, wpC, wpT, wpTg, wpTs, wpI, wipeU, startU, z_cell, z_slot, z_int, z_bl, z_tup, z_fn, z_lst, z_nil, z_cons, z_opt, z_optu, z_srct, z_srcl, z_bopi, z_bopt, z_bopl, z_bopm, z_add, z_sub, z_mul, z_div, z_mod, z_pow, z_auga, z_augs, z_augd, z_eqii, z_eqss, z_eqbb, z_eqtt, z_eqll, z_ceq, z_cne, z_clt, z_cle, z_cgt, z_cge, z_cin, z_cni, z_int_t, z_trn, z_trb, z_tri, z_trt, z_trl, z_ixt, z_ixl, z_slt, z_sll, z_sls, z_lent, z_lenl, z_abs, z_max, z_min, z_toi, z_tob, z_tut, z_tul, z_lit, z_lil, z_any, z_all, z_sum, z_app, z_set, z_isn, z_isb, z_isi, z_iss, z_ist, z_isl, z_revl, isNon, atI_0, atI_1, atI_2, atI_3, ixN_1, ixN_2, ixN_3, List.map_cons, List.map_nil, List.length_cons, List.length_nil, List.replicate, List.cons_append, List.nil_append, List.append_nil, List.set_cons_zero, List.set_cons_succ, List.getElem?_cons_zero, List.getElem?_cons_succ, Nat.reduceAdd, Nat.reduceSub, Nat.reduceLT, Nat.reduceLeDiff, Nat.reduceEqDiff, Int.reduceNeg, Int.reduceAdd, Int.reduceSub, Int.reduceMul, Int.reducePow, Int.reduceToNat, Int.reduceLT, Int.reduceLE, Int.reduceEq, if_true, if_false, Bool.false_eq_true, decide_true, decide_false, true_and, and_true, Bool.not_true, Bool.not_false, List.set_nil, List.length_set, ne_eq, not_false_eq_true, reduceCtorEq, and_self, List.isEmpty_cons, List.isEmpty_nil, List.length_map, List.set_set, decide_eq_true_eq, hl]
  have : dg4 = 0 ∨ dg4 = 1 ∨ dg4 = 2 ∨ dg4 = 3 ∨ dg4 = 4 := by omega
  rcases this with rfl | rfl | rfl | rfl | rfl <;> exact hQ _ _ (by omega) (by omega) e4 (c4.mono (by omega))
theorem map_ext {j : Nat} {f : Nat → Int} {x : Int} : ((List.range j).map fun k => U.int (f k)) ++ [.int x] = (List.range (j + 1)).map fun k => U.int (if k = j then x else f k) := by
  rw [List.range_succ, List.map_append]
  congr 1
  · refine List.map_congr_left fun k hk => ?_
    rw [if_neg (by have := List.mem_range.1 hk; omega)]
  · simp
def spMatZ : FSpec := fun us S Q _ => ∃ (c m p q : Nat), us = [.lst c, zd, .int p, .int q] ∧ p ≤ 10 ∧ q ≤ 10 ∧ Cs S c m ∧ m < 900000 ∧ ∀ b S2, (∀ i j, -49 ≤ b i j ∧ b i j ≤ 49) → Ext c S S2 → Cs S2 c (m + 1000) → Q (zMat p q b) S2
theorem w_law_matrix (G : Gm) (hN : Has G "_law_small" spSmallZ) : Pf G n_law_matrix i_law_matrix spMatZ := by
  rintro us S Q X ⟨c, m, p, q, rfl, hp, hq, hC, hm, hQ⟩
  obtain ⟨sN, eN, hN⟩ := hN
  have hs3 : 3 ≤ sizeLine := by decide
  simp only [wpSs, wpS, wpE, wpEs, wpO, wpC, wpT, wpTg, wpTs, wpI, wipeU, startU, z_cell, z_slot, z_int, z_bl, z_tup, z_fn, z_lst, z_nil, z_cons, z_opt, z_optu, z_srct, z_srcl, z_bopi, z_bopt, z_bopl, z_bopm, z_add, z_sub, z_mul, z_div, z_mod, z_pow, z_auga, z_augs, z_augd, z_eqii, z_eqss, z_eqbb, z_eqtt, z_eqll, z_ceq, z_cne, z_clt, z_cle, z_cgt, z_cge, z_cin, z_cni, z_int_t, z_trn, z_trb, z_tri, z_trt, z_trl, z_ixt, z_ixl, z_slt, z_sll, z_sls, z_lent, z_lenl, z_abs, z_max, z_min, z_toi, z_tob, z_tut, z_tul, z_lit, z_lil, z_any, z_all, z_sum, z_app, z_set, z_isn, z_isb, z_isi, z_iss, z_ist, z_isl, z_revl, isNon, atI_0, atI_1, atI_2, atI_3, ixN_1, ixN_2, ixN_3, List.map_cons, List.map_nil, List.length_cons, List.length_nil, List.replicate, List.cons_append, List.nil_append, List.append_nil, List.set_cons_zero, List.set_cons_succ, List.getElem?_cons_zero, List.getElem?_cons_succ, Nat.reduceAdd, Nat.reduceSub, Nat.reduceLT, Nat.reduceLeDiff, Nat.reduceEqDiff, Int.reduceNeg, Int.reduceAdd, Int.reduceSub, Int.reduceMul, Int.reducePow, Int.reduceToNat, Int.reduceLT, Int.reduceLE, Int.reduceEq, if_true, if_false, Bool.false_eq_true, decide_true, decide_false, true_and, and_true, Bool.not_true, Bool.not_false, List.set_nil, List.length_set, ne_eq, not_false_eq_true, reduceCtorEq, and_self, List.isEmpty_cons, List.isEmpty_nil, List.length_map, List.set_set, decide_eq_true_eq, n_law_matrix, i_law_matrix, eN]
  refine ⟨⟨by omega, by omega⟩, ?_⟩
  rw [Int.toNat_natCast]
  refine lcL_ind (fun us acc S4 => ∃ i : Nat, i ≤ p ∧ us = (rngL 0 p).drop i ∧ (∃ b : Nat → Nat → Int, (∀ i j, -49 ≤ b i j ∧ b i j ≤ 49) ∧ acc = (List.range i).map fun i => U.tup ((List.range q).map fun j => U.int (b i j))) ∧ Ext c S S4 ∧ Cs S4 c (m + 50 * i)) ?_ ?_ ?_ _ _ _ ⟨0, by omega, rfl, ⟨fun _ _ => 0, fun _ _ => ⟨by show (-49 : Int) ≤ 0; decide, by show (0 : Int) ≤ 49; decide⟩, rfl⟩, Ext.refl _ _, hC⟩
  · intros; trivial
  · rintro acc S4 ⟨i, hi, hu, ⟨b, hb, rfl⟩, e4, c4⟩
    obtain rfl := rng_end hu hi
    simp only [wpSs, wpS, wpE, wpEs, wpO, wpC, wpT, wpTg, wpTs, wpI, wipeU, startU, z_cell, z_slot, z_int, z_bl, z_tup, z_fn, z_lst, z_nil, z_cons, z_opt, z_optu, z_srct, z_srcl, z_bopi, z_bopt, z_bopl, z_bopm, z_add, z_sub, z_mul, z_div, z_mod, z_pow, z_auga, z_augs, z_augd, z_eqii, z_eqss, z_eqbb, z_eqtt, z_eqll, z_ceq, z_cne, z_clt, z_cle, z_cgt, z_cge, z_cin, z_cni, z_int_t, z_trn, z_trb, z_tri, z_trt, z_trl, z_ixt, z_ixl, z_slt, z_sll, z_sls, z_lent, z_lenl, z_abs, z_max, z_min, z_toi, z_tob, z_tut, z_tul, z_lit, z_lil, z_any, z_all, z_sum, z_app, z_set, z_isn, z_isb, z_isi, z_iss, z_ist, z_isl, z_revl, isNon, atI_0, atI_1, atI_2, atI_3, ixN_1, ixN_2, ixN_3, List.map_cons, List.map_nil, List.length_cons, List.length_nil, List.replicate, List.cons_append, List.nil_append, List.append_nil, List.set_cons_zero, List.set_cons_succ, List.getElem?_cons_zero, List.getElem?_cons_succ, Nat.reduceAdd, Nat.reduceSub, Nat.reduceLT, Nat.reduceLeDiff, Nat.reduceEqDiff, Int.reduceNeg, Int.reduceAdd, Int.reduceSub, Int.reduceMul, Int.reducePow, Int.reduceToNat, Int.reduceLT, Int.reduceLE, Int.reduceEq, if_true, if_false, Bool.false_eq_true, decide_true, decide_false, true_and, and_true, Bool.not_true, Bool.not_false, List.set_nil, List.length_set, ne_eq, not_false_eq_true, reduceCtorEq, and_self, List.isEmpty_cons, List.isEmpty_nil, List.length_map, List.set_set, decide_eq_true_eq, List.getElem?_concat_length]
    exact ⟨hs3, hQ b _ hb (e4.trans (Ext.push _ _ _)) ((c4.push _).mono (by omega))⟩
  · rintro u us acc S4 k2 ⟨i, hi, hu, ⟨b, hb, rfl⟩, e4, c4⟩ ks kn
    obtain ⟨hi2, rfl, hus⟩ := rng_drop hu
    refine ⟨⟨by omega, by omega⟩, ?_⟩
    refine lcL_ind (fun us acc S4 => ∃ j : Nat, j ≤ q ∧ us = (rngL 0 q).drop j ∧ (∃ f : Nat → Int, (∀ j, -49 ≤ f j ∧ f j ≤ 49) ∧ acc = (List.range j).map fun j => U.int (f j)) ∧ Ext c S S4 ∧ Cs S4 c (m + 50 * i + 3 * j)) ?_ ?_ ?_ _ _ _ ⟨0, by omega, rfl, ⟨fun _ => 0, fun _ => ⟨by show (-49 : Int) ≤ 0; decide, by show (0 : Int) ≤ 49; decide⟩, rfl⟩, e4, c4⟩
    · intros; trivial
    · rintro acc2 S5 ⟨j, hj, hu2, ⟨f, hf, rfl⟩, e5, c5⟩
      obtain rfl := rng_end hu2 hj
      simp only [wpSs, wpS, wpE, wpEs, wpO, wpC, wpT, wpTg, wpTs, wpI, wipeU, startU, z_cell, z_slot, z_int, z_bl, z_tup, z_fn, z_lst, z_nil, z_cons, z_opt, z_optu, z_srct, z_srcl, z_bopi, z_bopt, z_bopl, z_bopm, z_add, z_sub, z_mul, z_div, z_mod, z_pow, z_auga, z_augs, z_augd, z_eqii, z_eqss, z_eqbb, z_eqtt, z_eqll, z_ceq, z_cne, z_clt, z_cle, z_cgt, z_cge, z_cin, z_cni, z_int_t, z_trn, z_trb, z_tri, z_trt, z_trl, z_ixt, z_ixl, z_slt, z_sll, z_sls, z_lent, z_lenl, z_abs, z_max, z_min, z_toi, z_tob, z_tut, z_tul, z_lit, z_lil, z_any, z_all, z_sum, z_app, z_set, z_isn, z_isb, z_isi, z_iss, z_ist, z_isl, z_revl, isNon, atI_0, atI_1, atI_2, atI_3, ixN_1, ixN_2, ixN_3, List.map_cons, List.map_nil, List.length_cons, List.length_nil, List.replicate, List.cons_append, List.nil_append, List.append_nil, List.set_cons_zero, List.set_cons_succ, List.getElem?_cons_zero, List.getElem?_cons_succ, Nat.reduceAdd, Nat.reduceSub, Nat.reduceLT, Nat.reduceLeDiff, Nat.reduceEqDiff, Int.reduceNeg, Int.reduceAdd, Int.reduceSub, Int.reduceMul, Int.reducePow, Int.reduceToNat, Int.reduceLT, Int.reduceLE, Int.reduceEq, if_true, if_false, Bool.false_eq_true, decide_true, decide_false, true_and, and_true, Bool.not_true, Bool.not_false, List.set_nil, List.length_set, ne_eq, not_false_eq_true, reduceCtorEq, and_self, List.isEmpty_cons, List.isEmpty_nil, List.length_map, List.set_set, decide_eq_true_eq, List.getElem?_concat_length]
      refine ks _ _ (by simp; exact Nat.lt_of_lt_of_le (show i < 11 by omega) (by decide)) ⟨i + 1, hi2, hus, ⟨fun k l => if k = i then f l else b k l, fun k l => ?_, ?_⟩, e5.trans (Ext.push _ _ _), (c5.push _).mono (by omega)⟩
      · dsimp only
        split
        · exact hf l
        · exact hb k l
      · rw [List.range_succ, List.map_append]
        congr 1
        · refine List.map_congr_left fun k hk => ?_
          have hki : ¬ k = i := by have := List.mem_range.1 hk; omega
          simp only [hki, if_false]
        · simp
    · rintro u2 us2 acc2 S5 k3 ⟨j, hj, hu2, ⟨f, hf, rfl⟩, e5, c5⟩ ks2 kn2
      obtain ⟨hj2, rfl, hus2⟩ := rng_drop hu2
      refine hN _ _ _ _ ⟨c, m + 50 * i + 3 * j, rfl, c5, by omega, fun x S6 x0 x1 e6 c6 => ?_⟩
      refine ks2 _ _ (by simp; exact Nat.lt_of_lt_of_le (show j < 11 by omega) (by decide)) ⟨j + 1, hj2, hus2, ⟨fun k => if k = j then x else f k, fun k => by (dsimp only; split; exact ⟨x0, x1⟩; exact hf k), map_ext⟩, e5.trans e6, c6.mono (by omega)⟩
def spAtmost : FSpec := fun us S Q _ => ∃ a b : Rat, us = [fr a, fr b] ∧ Sm a ∧ Sm b ∧ ∀ r : Bool, (r = true ↔ a.num * (b.den : Int) ≤ b.num * (a.den : Int)) → Q (.bl r) S
theorem w_law_atmost (G : Gm) : Pf G n_law_atmost i_law_atmost spAtmost := by
  rintro us S Q X ⟨a, b, rfl, ha, hb, hQ⟩
  have m1 := ha.nd hb
  have m2 := hb.nd ha
  unfold fr
  simp only [wpSs, wpS, wpE, wpEs, wpO, wpC, wpT, wpTg, wpTs, wpI, wipeU, startU, z_cell, z_slot, z_int, z_bl, z_tup, z_fn, z_lst, z_nil, z_cons, z_opt, z_optu, z_srct, z_srcl, z_bopi, z_bopt, z_bopl, z_bopm, z_add, z_sub, z_mul, z_div, z_mod, z_pow, z_auga, z_augs, z_augd, z_eqii, z_eqss, z_eqbb, z_eqtt, z_eqll, z_ceq, z_cne, z_clt, z_cle, z_cgt, z_cge, z_cin, z_cni, z_int_t, z_trn, z_trb, z_tri, z_trt, z_trl, z_ixt, z_ixl, z_slt, z_sll, z_sls, z_lent, z_lenl, z_abs, z_max, z_min, z_toi, z_tob, z_tut, z_tul, z_lit, z_lil, z_any, z_all, z_sum, z_app, z_set, z_isn, z_isb, z_isi, z_iss, z_ist, z_isl, z_revl, isNon, atI_0, atI_1, atI_2, atI_3, ixN_1, ixN_2, ixN_3, List.map_cons, List.map_nil, List.length_cons, List.length_nil, List.replicate, List.cons_append, List.nil_append, List.append_nil, List.set_cons_zero, List.set_cons_succ, List.getElem?_cons_zero, List.getElem?_cons_succ, Nat.reduceAdd, Nat.reduceSub, Nat.reduceLT, Nat.reduceLeDiff, Nat.reduceEqDiff, Int.reduceNeg, Int.reduceAdd, Int.reduceSub, Int.reduceMul, Int.reducePow, Int.reduceToNat, Int.reduceLT, Int.reduceLE, Int.reduceEq, if_true, if_false, Bool.false_eq_true, decide_true, decide_false, true_and, and_true, Bool.not_true, Bool.not_false, List.set_nil, List.length_set, ne_eq, not_false_eq_true, reduceCtorEq, and_self, List.isEmpty_cons, List.isEmpty_nil, List.length_map, List.set_set, decide_eq_true_eq, n_law_atmost, i_law_atmost, m1, m2]
  exact hQ _ (by simp)
end K70

set_option Elab.async false
set_option linter.all false
set_option maxRecDepth 100000
set_option maxHeartbeats 8000000
namespace K70
open PySem PySem.Spec L2 Q GSM
/-- the lists of _law_squares -/
structure LS (S0 S : Sto) (v w q : Nat) (m n : Nat) (b : Nat → Nat → Int) (i : Nat) (ro : Nat → Nat) : Prop where
  hv : S[v]? = some (.lst ((List.range i).map fun k => U.lst (ro k)))
  hr : ∀ k, k < i → S[ro k]? = some (.lst (vecU n (own n (rb b) k)))
  hw : S[w]? = some (.lst ((List.range i).map (muRow m n b)))
  hq : S[q]? = some (.lst (vecU i (sqs n (rb b))))
  vw : v ≠ w
  vq : v ≠ q
  wq : w ≠ q
  rv : ∀ k, k < i → ro k ≠ v ∧ ro k ≠ w ∧ ro k ≠ q
  lv : S0.length ≤ v
  lw : S0.length ≤ w
  lq : S0.length ≤ q
  lr : ∀ k, k < i → S0.length ≤ ro k
  keep : All S0 S
section
variable {S0 S : Sto} {v w q m n i : Nat} {b : Nat → Nat → Int} {ro : Nat → Nat}
theorem LS.lts (O : LS S0 S v w q m n b i ro) : v < S.length ∧ w < S.length ∧ q < S.length := ⟨(List.getElem?_eq_some_iff.1 O.hv).1, (List.getElem?_eq_some_iff.1 O.hw).1, (List.getElem?_eq_some_iff.1 O.hq).1⟩
theorem LS.ltr (O : LS S0 S v w q m n b i ro) {k : Nat} (h : k < i) : ro k < S.length := (List.getElem?_eq_some_iff.1 (O.hr k h)).1
theorem LS.push (O : LS S0 S v w q m n b i ro) (x : List Cell) : LS S0 (S ++ x) v w q m n b i ro := by
  obtain ⟨h1, h2, h3⟩ := O.lts
  exact ⟨by rw [List.getElem?_append_left h1]; exact O.hv, fun k hk => by rw [List.getElem?_append_left (O.ltr hk)]; exact O.hr k hk, by rw [List.getElem?_append_left h2]; exact O.hw, by rw [List.getElem?_append_left h3]; exact O.hq, O.vw, O.vq, O.wq, O.rv, O.lv, O.lw, O.lq, O.lr, O.keep.push x⟩
theorem LS.other (O : LS S0 S v w q m n b i ro) {k : Nat} (x : Cell) (h1 : k ≠ v) (h2 : k ≠ w) (h3 : k ≠ q) (h5 : ∀ l, l < i → ro l ≠ k) (h4 : S0.length ≤ k) : LS S0 (S.set k x) v w q m n b i ro :=
  ⟨by rw [List.getElem?_set_ne h1]; exact O.hv, fun l hl => by rw [List.getElem?_set_ne (fun z => h5 l hl z.symm)]; exact O.hr l hl, by rw [List.getElem?_set_ne h2]; exact O.hw, by rw [List.getElem?_set_ne h3]; exact O.hq, O.vw, O.vq, O.wq, O.rv, O.lv, O.lw, O.lq, O.lr, O.keep.set x (fun h => absurd h (by omega))⟩
end
theorem ro_at {i k : Nat} {ro : Nat → Nat} (h : k < i) : L2.atI ((List.range i).map fun k => U.lst (ro k)) (k : Int) = some (.lst (ro k)) := row_at h
/-- the law's own Gram-Schmidt: a list of two -/
def spSq : FSpec := fun us S Q _ => ∃ (m n A0 : Nat) (b : Nat → Nat → Int), us = [zMat m n b] ∧ Bas m n b A0 ∧ ∀ l S2, S2[l]? = some (.lst [muU m n b, sqU m n b]) → All S S2 → S.length ≤ l → Q (.lst l) S2
theorem z_gp {T l : Sto} {k : Nat} : (T ++ l)[T.length + k]? = l[k]? := by
  rw [List.getElem?_append_right (by omega)]
  congr 1
  omega
theorem z_g0 {T l : Sto} : (T ++ l)[T.length]? = l[0]? := by
  rw [List.getElem?_append_right (by omega)]
  congr 1
  omega
theorem fr_int1 (x : Int) : (U.tup [.int x, .int 1]) = fr (x : Rat) := rfl
theorem w_law_squares (G : Gm) (hM : Has G "_law_multiply" (spOp2 (· * ·))) (hD : Has G "_law_dot" spLDot) (hI : Has G "_law_inverse" spInv) (hS : Has G "_law_subtract" (spOp2 (· - ·))) : Pf G n_law_squares i_law_squares spSq := by
  rintro us S0 Q X ⟨m, n, A0, b, rfl, B, hQ⟩
  obtain ⟨sM, eM, hM⟩ := hM
  obtain ⟨sD, eD, hD⟩ := hD
  obtain ⟨sI, eI, hI⟩ := hI
  obtain ⟨sS, eS, hS⟩ := hS
  have H := B.rows
  have hm := B.m6
  have hn := B.n7
  have hs0 : 0 ≤ sizeLine := by decide
  have hs1 : 1 ≤ sizeLine := by decide
  have hs2 : 2 ≤ sizeLine := by decide
  have hs3 : 3 ≤ sizeLine := by decide
  unfold zMat
  simp only [wpSs, wpS, wpE, wpEs, wpO, wpC, wpT, wpTg, wpTs, wpI, wipeU, startU, z_cell, z_slot, z_int, z_bl, z_tup, z_fn, z_lst, z_nil, z_cons, z_opt, z_optu, z_srct, z_srcl, z_bopi, z_bopt, z_bopl, z_bopm, z_add, z_sub, z_mul, z_div, z_mod, z_pow, z_auga, z_augs, z_augd, z_eqii, z_eqss, z_eqbb, z_eqtt, z_eqll, z_ceq, z_cne, z_clt, z_cle, z_cgt, z_cge, z_cin, z_cni, z_int_t, z_trn, z_trb, z_tri, z_trt, z_trl, z_ixt, z_ixl, z_slt, z_sll, z_sls, z_lent, z_lenl, z_abs, z_max, z_min, z_toi, z_tob, z_tut, z_tul, z_lit, z_lil, z_any, z_all, z_sum, z_app, z_set, z_isn, z_isb, z_isi, z_iss, z_ist, z_isl, z_revl, isNon, atI_0, atI_1, atI_2, atI_3, ixN_1, ixN_2, ixN_3, List.map_cons, List.map_nil, List.length_cons, List.length_nil, List.replicate, List.cons_append, List.nil_append, List.append_nil, List.set_cons_zero, List.set_cons_succ, List.getElem?_cons_zero, List.getElem?_cons_succ, Nat.reduceAdd, Nat.reduceSub, Nat.reduceLT, Nat.reduceLeDiff, Nat.reduceEqDiff, Int.reduceNeg, Int.reduceAdd, Int.reduceSub, Int.reduceMul, Int.reducePow, Int.reduceToNat, Int.reduceLT, Int.reduceLE, Int.reduceEq, if_true, if_false, Bool.false_eq_true, decide_true, decide_false, true_and, and_true, Bool.not_true, Bool.not_false, List.set_nil, List.length_set, ne_eq, not_false_eq_true, reduceCtorEq, and_self, List.isEmpty_cons, List.isEmpty_nil, List.length_map, List.set_set, decide_eq_true_eq, n_law_squares, i_law_squares, eM, eD, eI, eS, hs0, hs1, hs2]
  refine ⟨⟨by omega, by omega⟩, ?_⟩
  rw [Int.toNat_natCast]
  have eq1 : (S0 ++ [Cell.lst []]).length = S0.length + 1 := by simp
  have eq2 : (S0 ++ [Cell.lst []] ++ [Cell.lst []]).length = S0.length + 2 := by simp
  rw [eq1, eq2]
  have O0 : LS S0 (S0 ++ [Cell.lst []] ++ [Cell.lst []] ++ [Cell.lst []]) S0.length (S0.length + 1) (S0.length + 2) m n b 0 (fun _ => 0) := by
    refine ⟨?_, fun k hk => by omega, ?_, ?_, by omega, by omega, by omega, fun k hk => by omega, by omega, by omega, by omega, fun k hk => by omega, (((Keep.refl _ _).push _).push _).push _⟩
    · rw [List.getElem?_append_left (by simp), List.getElem?_append_left (by simp)]
      exact List.getElem?_concat_length
    · rw [List.getElem?_append_left (by simp), show S0.length + 1 = (S0 ++ [Cell.lst []]).length by simp]
      exact List.getElem?_concat_length
    · rw [show S0.length + 2 = (S0 ++ [Cell.lst []] ++ [Cell.lst []]).length by simp]
      exact List.getElem?_concat_length
  generalize S0.length + 1 = w at *
  generalize S0.length + 2 = q at *
  clear eq1 eq2
  have hlen0 : S0.length ≤ S0.length := Nat.le_refl _
  obtain ⟨v, hv0⟩ : ∃ v, v = S0.length := ⟨_, rfl⟩
  rw [← hv0] at O0 ⊢
  refine forL_ind (fun us σ S4 => ∃ i : Nat, i ≤ m ∧ us = (rngL 0 m).drop i ∧ (∃ ro, LS S0 S4 v w q m n b i ro) ∧ ∃ o5 o6 o7 o8 o9 o10 o11 : Option U, σ = [some (zMat m n b), some qd, some (.lst v), some (.lst w), some (.lst q), o5, o6, o7, o8, o9, o10, o11]) ?_ ?_ ?_ _ _ _ ⟨0, by omega, rfl, ⟨_, O0⟩, _, _, _, _, _, _, _, rfl⟩
  · intros; trivial
  · rintro σ S4 ⟨i, hi, hu, ⟨ro, O⟩, o5, o6, o7, o8, o9, o10, o11, rfl⟩
    obtain rfl := rng_end hu hi
    have hs32 : 3 ≤ sizeLine := hs3
    unfold zMat
    simp only [wpSs, wpS, wpE, wpEs, wpO, wpC, wpT, wpTg, wpTs, wpI, wipeU, startU, z_cell, z_slot, z_int, z_bl, z_tup, z_fn, z_lst, z_nil, z_cons, z_opt, z_optu, z_srct, z_srcl, z_bopi, z_bopt, z_bopl, z_bopm, z_add, z_sub, z_mul, z_div, z_mod, z_pow, z_auga, z_augs, z_augd, z_eqii, z_eqss, z_eqbb, z_eqtt, z_eqll, z_ceq, z_cne, z_clt, z_cle, z_cgt, z_cge, z_cin, z_cni, z_int_t, z_trn, z_trb, z_tri, z_trt, z_trl, z_ixt, z_ixl, z_slt, z_sll, z_sls, z_lent, z_lenl, z_abs, z_max, z_min, z_toi, z_tob, z_tut, z_tul, z_lit, z_lil, z_any, z_all, z_sum, z_app, z_set, z_isn, z_isb, z_isi, z_iss, z_ist, z_isl, z_revl, isNon, atI_0, atI_1, atI_2, atI_3, ixN_1, ixN_2, ixN_3, List.map_cons, List.map_nil, List.length_cons, List.length_nil, List.replicate, List.cons_append, List.nil_append, List.append_nil, List.set_cons_zero, List.set_cons_succ, List.getElem?_cons_zero, List.getElem?_cons_succ, Nat.reduceAdd, Nat.reduceSub, Nat.reduceLT, Nat.reduceLeDiff, Nat.reduceEqDiff, Int.reduceNeg, Int.reduceAdd, Int.reduceSub, Int.reduceMul, Int.reducePow, Int.reduceToNat, Int.reduceLT, Int.reduceLE, Int.reduceEq, if_true, if_false, Bool.false_eq_true, decide_true, decide_false, true_and, and_true, Bool.not_true, Bool.not_false, List.set_nil, List.length_set, ne_eq, not_false_eq_true, reduceCtorEq, and_self, List.isEmpty_cons, List.isEmpty_nil, List.length_map, List.set_set, decide_eq_true_eq, O.hw, O.hq]
    first
      | exact hQ _ _ List.getElem?_concat_length (O.keep.push _) O.keep.len
      | exact ⟨hs3, hQ _ _ List.getElem?_concat_length (O.keep.push _) O.keep.len⟩
  · rintro u us σ S4 k ⟨i, hi, hu, ⟨ro, O⟩, o5, o6, o7, o8, o9, o10, o11, rfl⟩ hk
    obtain ⟨him, rfl, hus⟩ := rng_drop hu
    have ei : (0 + (i : Int)) = i := by omega
    have g1 : L2.atI ((List.range m).map fun i => U.tup ((List.range n).map fun j => U.int (b i j))) (i : Int) = some (.tup ((List.range n).map fun j => U.int (b i j))) := by
      rw [_root_.Q.atI_nat, List.getElem?_map, List.getElem?_range him]; rfl
    obtain ⟨lv, lw, lq⟩ := O.lts
    have h0 := O.keep.len
    rw [ei]
    unfold zMat
    simp only [wpSs, wpS, wpE, wpEs, wpO, wpC, wpT, wpTg, wpTs, wpI, wipeU, startU, z_cell, z_slot, z_int, z_bl, z_tup, z_fn, z_lst, z_nil, z_cons, z_opt, z_optu, z_srct, z_srcl, z_bopi, z_bopt, z_bopl, z_bopm, z_add, z_sub, z_mul, z_div, z_mod, z_pow, z_auga, z_augs, z_augd, z_eqii, z_eqss, z_eqbb, z_eqtt, z_eqll, z_ceq, z_cne, z_clt, z_cle, z_cgt, z_cge, z_cin, z_cni, z_int_t, z_trn, z_trb, z_tri, z_trt, z_trl, z_ixt, z_ixl, z_slt, z_sll, z_sls, z_lent, z_lenl, z_abs, z_max, z_min, z_toi, z_tob, z_tut, z_tul, z_lit, z_lil, z_any, z_all, z_sum, z_app, z_set, z_isn, z_isb, z_isi, z_iss, z_ist, z_isl, z_revl, isNon, atI_0, atI_1, atI_2, atI_3, ixN_1, ixN_2, ixN_3, List.map_cons, List.map_nil, List.length_cons, List.length_nil, List.replicate, List.cons_append, List.nil_append, List.append_nil, List.set_cons_zero, List.set_cons_succ, List.getElem?_cons_zero, List.getElem?_cons_succ, Nat.reduceAdd, Nat.reduceSub, Nat.reduceLT, Nat.reduceLeDiff, Nat.reduceEqDiff, Int.reduceNeg, Int.reduceAdd, Int.reduceSub, Int.reduceMul, Int.reducePow, Int.reduceToNat, Int.reduceLT, Int.reduceLE, Int.reduceEq, if_true, if_false, Bool.false_eq_true, decide_true, decide_false, true_and, and_true, Bool.not_true, Bool.not_false, List.set_nil, List.length_set, ne_eq, not_false_eq_true, reduceCtorEq, and_self, List.isEmpty_cons, List.isEmpty_nil, List.length_map, List.set_set, decide_eq_true_eq, g1]
    refine lcL_ind (fun us acc S5 => S5 = S4 ∧ ∃ t : Nat, t ≤ n ∧ us = ((List.range n).map fun j => U.int (b i j)).drop t ∧ acc = vecU t (rb b i)) ?_ ?_ ?_ _ _ _ ⟨rfl, 0, by omega, rfl, rfl⟩
    · intros; trivial
    · rintro acc S5 ⟨rfl, t0, ht0, hu5, rfl⟩
      have et0 := map_end hu5 ht0
      rw [et0]
      refine ⟨⟨by omega, by omega⟩, ?_⟩
      rw [Int.toNat_natCast]
      obtain ⟨lc0, hlc0⟩ : ∃ x, x = (S5 ++ [Cell.lst (vecU n (rb b i))]).length := ⟨_, rfl⟩
      have elc : lc0 = S5.length + 1 := by rw [hlc0]; simp
      rw [← hlc0]
      have O1 := (O.push [Cell.lst (vecU n (rb b i))]).push [Cell.lst []]
      have hl0 : S0.length ≤ lc0 := by omega
      have nl : lc0 ≠ v ∧ lc0 ≠ w ∧ lc0 ≠ q ∧ ∀ l, l < i → ro l ≠ lc0 := ⟨by omega, by omega, by omega, fun l hl => by have := O.ltr hl; omega⟩
      refine forL_ind (fun us σ S6 => ∃ t : Nat, t ≤ i ∧ us = (rngL 0 i).drop t ∧ ∃ oc, LS S0 S6 v w q m n b i ro ∧ S6[oc]? = some (.lst (vecU n (pt n (rb b) (rb b i) t))) ∧ S6[lc0]? = some (.lst (vecU t (cf n b i))) ∧ (oc ≠ v ∧ oc ≠ w ∧ oc ≠ q ∧ ∀ l, l < i → ro l ≠ oc) ∧ oc ≠ lc0 ∧ S0.length ≤ oc ∧ ∃ o8 o9 o10 o11 : Option U, σ = [some (zMat m n b), some qd, some (.lst v), some (.lst w), some (.lst q), some (.int i), some (.lst oc), some (.lst lc0), o8, o9, o10, o11]) ?_ ?_ ?_ _ _ _
        ⟨0, by omega, rfl, S5.length, O1, by
          rw [List.getElem?_append_left (by simp), List.getElem?_concat_length, show pt n (rb b) (rb b i) 0 = rb b i from funext fun j => by unfold pt; rw [GSM.sum]; grind], by rw [hlc0]; exact List.getElem?_concat_length, ⟨by omega, by omega, by omega, fun l hl => by have := O.ltr hl; omega⟩, by omega, h0, o8, _, _, _, rfl⟩
      · intros; trivial
      · rintro σ S6 ⟨t, ht, hu6, oc, O6, h6o, h6l, no, hol, hoc0, o8, o9, o10, o11, rfl⟩
        obtain rfl := rng_end hu6 ht
        have e1 : vecU n (pt n (rb b) (rb b t) t) = vecU n (own n (rb b) t) := vec_congr fun j _ => (own_eq n (rb b) t j).symm
        rw [e1] at h6o
        obtain ⟨lv6, lw6, lq6⟩ := O6.lts
        have lo6 : oc < S6.length := (List.getElem?_eq_some_iff.1 h6o).1
        have ll6 : lc0 < S6.length := (List.getElem?_eq_some_iff.1 h6l).1
        have z1 : t < sizeLine := Nat.lt_of_lt_of_le (show t < 7 by omega) (by decide)
        have a1 : ∀ x, (S6.set v x)[oc]? = some (.lst (vecU n (own n (rb b) t))) := fun x => by rw [List.getElem?_set_ne no.1.symm]; exact h6o
        have a2 : ∀ x, (S6.set v x)[q]? = some (.lst (vecU t (sqs n (rb b)))) := fun x => by rw [List.getElem?_set_ne O6.vq]; exact O6.hq
        simp only [wpSs, wpS, wpE, wpEs, wpO, wpC, wpT, wpTg, wpTs, wpI, wipeU, startU, z_cell, z_slot, z_int, z_bl, z_tup, z_fn, z_lst, z_nil, z_cons, z_opt, z_optu, z_srct, z_srcl, z_bopi, z_bopt, z_bopl, z_bopm, z_add, z_sub, z_mul, z_div, z_mod, z_pow, z_auga, z_augs, z_augd, z_eqii, z_eqss, z_eqbb, z_eqtt, z_eqll, z_ceq, z_cne, z_clt, z_cle, z_cgt, z_cge, z_cin, z_cni, z_int_t, z_trn, z_trb, z_tri, z_trt, z_trl, z_ixt, z_ixl, z_slt, z_sll, z_sls, z_lent, z_lenl, z_abs, z_max, z_min, z_toi, z_tob, z_tut, z_tul, z_lit, z_lil, z_any, z_all, z_sum, z_app, z_set, z_isn, z_isb, z_isi, z_iss, z_ist, z_isl, z_revl, isNon, atI_0, atI_1, atI_2, atI_3, ixN_1, ixN_2, ixN_3, List.map_cons, List.map_nil, List.length_cons, List.length_nil, List.replicate, List.cons_append, List.nil_append, List.append_nil, List.set_cons_zero, List.set_cons_succ, List.getElem?_cons_zero, List.getElem?_cons_succ, Nat.reduceAdd, Nat.reduceSub, Nat.reduceLT, Nat.reduceLeDiff, Nat.reduceEqDiff, Int.reduceNeg, Int.reduceAdd, Int.reduceSub, Int.reduceMul, Int.reducePow, Int.reduceToNat, Int.reduceLT, Int.reduceLE, Int.reduceEq, if_true, if_false, Bool.false_eq_true, decide_true, decide_false, true_and, and_true, Bool.not_true, Bool.not_false, List.set_nil, List.length_set, ne_eq, not_false_eq_true, reduceCtorEq, and_self, List.isEmpty_cons, List.isEmpty_nil, List.length_map, List.set_set, decide_eq_true_eq, O6.hv, List.length_range, z1]
        refine hD _ _ _ _ ⟨oc, oc, n, own n (rb b) t, own n (rb b) t, rfl, a1 _, a1 _, by omega, fun j hj => ⟨H.sm_own him hj, H.sm_own him hj, H.sm_oo him hj⟩, fun T hT => H.sm_oos him hT, ?_⟩
        simp only [wpSs, wpS, wpE, wpEs, wpO, wpC, wpT, wpTg, wpTs, wpI, wipeU, startU, z_cell, z_slot, z_int, z_bl, z_tup, z_fn, z_lst, z_nil, z_cons, z_opt, z_optu, z_srct, z_srcl, z_bopi, z_bopt, z_bopl, z_bopm, z_add, z_sub, z_mul, z_div, z_mod, z_pow, z_auga, z_augs, z_augd, z_eqii, z_eqss, z_eqbb, z_eqtt, z_eqll, z_ceq, z_cne, z_clt, z_cle, z_cgt, z_cge, z_cin, z_cni, z_int_t, z_trn, z_trb, z_tri, z_trt, z_trl, z_ixt, z_ixl, z_slt, z_sll, z_sls, z_lent, z_lenl, z_abs, z_max, z_min, z_toi, z_tob, z_tut, z_tul, z_lit, z_lil, z_any, z_all, z_sum, z_app, z_set, z_isn, z_isb, z_isi, z_iss, z_ist, z_isl, z_revl, isNon, atI_0, atI_1, atI_2, atI_3, ixN_1, ixN_2, ixN_3, List.map_cons, List.map_nil, List.length_cons, List.length_nil, List.replicate, List.cons_append, List.nil_append, List.append_nil, List.set_cons_zero, List.set_cons_succ, List.getElem?_cons_zero, List.getElem?_cons_succ, Nat.reduceAdd, Nat.reduceSub, Nat.reduceLT, Nat.reduceLeDiff, Nat.reduceEqDiff, Int.reduceNeg, Int.reduceAdd, Int.reduceSub, Int.reduceMul, Int.reducePow, Int.reduceToNat, Int.reduceLT, Int.reduceLE, Int.reduceEq, if_true, if_false, Bool.false_eq_true, decide_true, decide_false, true_and, and_true, Bool.not_true, Bool.not_false, List.set_nil, List.length_set, ne_eq, not_false_eq_true, reduceCtorEq, and_self, List.isEmpty_cons, List.isEmpty_nil, List.length_map, List.set_set, decide_eq_true_eq, a2, vec_len, z1]
        obtain ⟨T, hT⟩ : ∃ T, T = (S6.set v (.lst ((List.range t).map (fun k => U.lst (ro k)) ++ [U.lst oc]))).set q (.lst (vecU t (sqs n (rb b)) ++ [fr (dot n (own n (rb b) t) (own n (rb b) t))])) := ⟨_, rfl⟩
        rw [← hT]
        have gT : ∀ k, k ≠ v → k ≠ q → T[k]? = S6[k]? := fun k h1 h2 => by rw [hT, List.getElem?_set_ne h2.symm, List.getElem?_set_ne h1.symm]
        have hTv : T[v]? = some (.lst ((List.range (t + 1)).map fun k => U.lst (if k = t then oc else ro k))) := by
          rw [hT, List.getElem?_set_ne O6.vq.symm, List.getElem?_set_self lv6, List.range_succ, List.map_append]
          congr 3
          · refine List.map_congr_left fun k hk => ?_
            rw [if_neg (by have := List.mem_range.1 hk; omega)]
          · simp
        have hTq : T[q]? = some (.lst (vecU (t + 1) (sqs n (rb b)))) := by
          rw [hT, List.getElem?_set_self (by rw [List.length_set]; exact lq6), vec_push]; rfl
        have LT : T.length = S6.length := by rw [hT, List.length_set, List.length_set]
        have hTk : All S0 T := by
          rw [hT]
          exact (O6.keep.set _ (fun h => absurd h (by have := O6.lv; omega))).set _ (fun h => absurd h (by have := O6.lq; omega))
        have hTw : T[w]? = some (.lst ((List.range t).map (muRow m n b))) := by rw [gT w O6.vw.symm O6.wq]; exact O6.hw
        have hTl : T[lc0]? = some (.lst (vecU t (cf n b t))) := by rw [gT lc0 nl.1 nl.2.2.1]; exact h6l
        have hTr : ∀ k, k < t + 1 → T[if k = t then oc else ro k]? = some (.lst (vecU n (own n (rb b) k))) := fun k hk => by
          by_cases e : k = t
          · rw [if_pos e, gT oc no.1 no.2.2.1, e]; exact h6o
          · rw [if_neg e, gT _ (O6.rv k (by omega)).1 (O6.rv k (by omega)).2.2]; exact O6.hr k (by omega)
        have lwT : w < T.length := by omega
        have llT : lc0 < T.length := by omega
        have gA : ∀ (x : List Cell) k, k < T.length → (T ++ x)[k]? = T[k]? := fun x k hk => List.getElem?_append_left hk
        unfold zMat
        simp only [wpSs, wpS, wpE, wpEs, wpO, wpC, wpT, wpTg, wpTs, wpI, wipeU, startU, z_cell, z_slot, z_int, z_bl, z_tup, z_fn, z_lst, z_nil, z_cons, z_opt, z_optu, z_srct, z_srcl, z_bopi, z_bopt, z_bopl, z_bopm, z_add, z_sub, z_mul, z_div, z_mod, z_pow, z_auga, z_augs, z_augd, z_eqii, z_eqss, z_eqbb, z_eqtt, z_eqll, z_ceq, z_cne, z_clt, z_cle, z_cgt, z_cge, z_cin, z_cni, z_int_t, z_trn, z_trb, z_tri, z_trt, z_trl, z_ixt, z_ixl, z_slt, z_sll, z_sls, z_lent, z_lenl, z_abs, z_max, z_min, z_toi, z_tob, z_tut, z_tul, z_lit, z_lil, z_any, z_all, z_sum, z_app, z_set, z_isn, z_isb, z_isi, z_iss, z_ist, z_isl, z_revl, isNon, atI_0, atI_1, atI_2, atI_3, ixN_1, ixN_2, ixN_3, List.map_cons, List.map_nil, List.length_cons, List.length_nil, List.replicate, List.cons_append, List.nil_append, List.append_nil, List.set_cons_zero, List.set_cons_succ, List.getElem?_cons_zero, List.getElem?_cons_succ, Nat.reduceAdd, Nat.reduceSub, Nat.reduceLT, Nat.reduceLeDiff, Nat.reduceEqDiff, Int.reduceNeg, Int.reduceAdd, Int.reduceSub, Int.reduceMul, Int.reducePow, Int.reduceToNat, Int.reduceLT, Int.reduceLE, Int.reduceEq, if_true, if_false, Bool.false_eq_true, decide_true, decide_false, true_and, and_true, Bool.not_true, Bool.not_false, List.set_nil, List.length_set, ne_eq, not_false_eq_true, reduceCtorEq, and_self, List.isEmpty_cons, List.isEmpty_nil, List.length_map, List.set_set, decide_eq_true_eq, List.append_assoc, List.length_append, z_gp, z_g0, Nat.add_assoc, gA, hTl, llT, vec_len, hs1]
        rw [← LT]
        have hfl : (List.replicate ((m : Int) - (t : Int) - 1).toNat [U.tup [U.int 0, U.int 1]]).flatten = List.replicate (m - t - 1) (fr 0) := by
          rw [show ((m : Int) - (t : Int) - 1).toNat = m - t - 1 by omega, List.flatten_replicate_singleton]; rfl
        have hsz : (20 : Nat) ≤ sizeLine := by decide
        simp only [wpSs, wpS, wpE, wpEs, wpO, wpC, wpT, wpTg, wpTs, wpI, wipeU, startU, z_cell, z_slot, z_int, z_bl, z_tup, z_fn, z_lst, z_nil, z_cons, z_opt, z_optu, z_srct, z_srcl, z_bopi, z_bopt, z_bopl, z_bopm, z_add, z_sub, z_mul, z_div, z_mod, z_pow, z_auga, z_augs, z_augd, z_eqii, z_eqss, z_eqbb, z_eqtt, z_eqll, z_ceq, z_cne, z_clt, z_cle, z_cgt, z_cge, z_cin, z_cni, z_int_t, z_trn, z_trb, z_tri, z_trt, z_trl, z_ixt, z_ixl, z_slt, z_sll, z_sls, z_lent, z_lenl, z_abs, z_max, z_min, z_toi, z_tob, z_tut, z_tul, z_lit, z_lil, z_any, z_all, z_sum, z_app, z_set, z_isn, z_isb, z_isi, z_iss, z_ist, z_isl, z_revl, isNon, atI_0, atI_1, atI_2, atI_3, ixN_1, ixN_2, ixN_3, List.map_cons, List.map_nil, List.length_cons, List.length_nil, List.replicate, List.cons_append, List.nil_append, List.append_nil, List.set_cons_zero, List.set_cons_succ, List.getElem?_cons_zero, List.getElem?_cons_succ, Nat.reduceAdd, Nat.reduceSub, Nat.reduceLT, Nat.reduceLeDiff, Nat.reduceEqDiff, Int.reduceNeg, Int.reduceAdd, Int.reduceSub, Int.reduceMul, Int.reducePow, Int.reduceToNat, Int.reduceLT, Int.reduceLE, Int.reduceEq, if_true, if_false, Bool.false_eq_true, decide_true, decide_false, true_and, and_true, Bool.not_true, Bool.not_false, List.set_nil, List.length_set, ne_eq, not_false_eq_true, reduceCtorEq, and_self, List.isEmpty_cons, List.isEmpty_nil, List.length_map, List.set_set, decide_eq_true_eq, z_g0, hfl, List.length_replicate, gA, lwT, hTw, List.length_range]
        refine ⟨by omega, ⟨by omega, by omega, by omega⟩, by omega, by omega, hk _ _ ⟨t + 1, him, hus, ⟨fun k => if k = t then oc else ro k, ?_⟩, _, _, _, _, _, _, _, rfl⟩⟩
        obtain ⟨Y, hY⟩ : ∃ Y : List Cell, Y = [Cell.lst [U.tup [U.int 1, U.int 1]], Cell.lst (vecU t (cf n b t) ++ [U.tup [U.int 1, U.int 1]]), Cell.lst [U.tup [U.int 0, U.int 1]], Cell.lst (List.replicate (m - t - 1) (fr 0)), Cell.lst (vecU t (cf n b t) ++ (U.tup [U.int 1, U.int 1] :: List.replicate (m - t - 1) (fr 0)))] := ⟨_, rfl⟩
        rw [← hY]
        have gB : ∀ (x : Cell) k, k < T.length → k ≠ w → ((T ++ Y).set w x)[k]? = T[k]? := fun x k hk hw => by rw [List.getElem?_set_ne (fun z => hw z.symm)]; exact gA _ _ hk
        have lrT : ∀ k, k < t + 1 → (if k = t then oc else ro k) < T.length := fun k hk => (List.getElem?_eq_some_iff.1 (hTr k hk)).1
        have nr : ∀ k, k < t + 1 → (if k = t then oc else ro k) ≠ v ∧ (if k = t then oc else ro k) ≠ w ∧ (if k = t then oc else ro k) ≠ q := fun k hk => by
          by_cases e : k = t
          · rw [if_pos e]; exact ⟨no.1, no.2.1, no.2.2.1⟩
          · rw [if_neg e]; exact O6.rv k (by omega)
        refine ⟨?_, fun k hk => ?_, ?_, ?_, O6.vw, O6.vq, O6.wq, nr, O6.lv, O6.lw, O6.lq, fun k hk => ?_, ?_⟩
        · rw [gB _ v (by omega) O6.vw]; exact hTv
        · rw [gB _ _ (lrT k hk) (nr k hk).2.1]; exact hTr k hk
        · rw [List.getElem?_set_self (by rw [List.length_append]; omega), List.range_succ, List.map_append]
          congr 3
          show [U.tup _] = [muRow m n b t]
          unfold muRow
          rw [List.append_assoc]; rfl
        · rw [gB _ q (by omega) O6.wq.symm]; exact hTq
        · by_cases e : k = t
          · rw [if_pos e]; exact hoc0
          · rw [if_neg e]; exact O6.lr k (by omega)
        · exact (hTk.push _).set _ (fun h => absurd h (by have := O6.lw; omega))
      · rintro z us5 σ S6 k5 ⟨t, ht, hu6, oc, O6, h6o, h6l, no, hol, hoc0, o8, o9, o10, o11, rfl⟩ hk5
        obtain ⟨ht2, rfl, hus5⟩ := rng_drop hu6
        have et : (0 + (t : Int)) = t := by omega
        have htm : t < m := by omega
        have g4 := vec_atI (u := sqs n (rb b)) ht2
        have hsz : (vecU t (cf n b i)).length < sizeLine := by rw [vec_len]; exact Nat.lt_of_lt_of_le (show t < 7 by omega) (by decide)
        rw [et]
        unfold zMat
        simp only [wpSs, wpS, wpE, wpEs, wpO, wpC, wpT, wpTg, wpTs, wpI, wipeU, startU, z_cell, z_slot, z_int, z_bl, z_tup, z_fn, z_lst, z_nil, z_cons, z_opt, z_optu, z_srct, z_srcl, z_bopi, z_bopt, z_bopl, z_bopm, z_add, z_sub, z_mul, z_div, z_mod, z_pow, z_auga, z_augs, z_augd, z_eqii, z_eqss, z_eqbb, z_eqtt, z_eqll, z_ceq, z_cne, z_clt, z_cle, z_cgt, z_cge, z_cin, z_cni, z_int_t, z_trn, z_trb, z_tri, z_trt, z_trl, z_ixt, z_ixl, z_slt, z_sll, z_sls, z_lent, z_lenl, z_abs, z_max, z_min, z_toi, z_tob, z_tut, z_tul, z_lit, z_lil, z_any, z_all, z_sum, z_app, z_set, z_isn, z_isb, z_isi, z_iss, z_ist, z_isl, z_revl, isNon, atI_0, atI_1, atI_2, atI_3, ixN_1, ixN_2, ixN_3, List.map_cons, List.map_nil, List.length_cons, List.length_nil, List.replicate, List.cons_append, List.nil_append, List.append_nil, List.set_cons_zero, List.set_cons_succ, List.getElem?_cons_zero, List.getElem?_cons_succ, Nat.reduceAdd, Nat.reduceSub, Nat.reduceLT, Nat.reduceLeDiff, Nat.reduceEqDiff, Int.reduceNeg, Int.reduceAdd, Int.reduceSub, Int.reduceMul, Int.reducePow, Int.reduceToNat, Int.reduceLT, Int.reduceLE, Int.reduceEq, if_true, if_false, Bool.false_eq_true, decide_true, decide_false, true_and, and_true, Bool.not_true, Bool.not_false, List.set_nil, List.length_set, ne_eq, not_false_eq_true, reduceCtorEq, and_self, List.isEmpty_cons, List.isEmpty_nil, List.length_map, List.set_set, decide_eq_true_eq, O6.hq, g4]
        rw [← fr_0, z_eqfr]
        by_cases hz : sqs n (rb b) t = 0
        · simp only [wpSs, wpS, wpE, wpEs, wpO, wpC, wpT, wpTg, wpTs, wpI, wipeU, startU, z_cell, z_slot, z_int, z_bl, z_tup, z_fn, z_lst, z_nil, z_cons, z_opt, z_optu, z_srct, z_srcl, z_bopi, z_bopt, z_bopl, z_bopm, z_add, z_sub, z_mul, z_div, z_mod, z_pow, z_auga, z_augs, z_augd, z_eqii, z_eqss, z_eqbb, z_eqtt, z_eqll, z_ceq, z_cne, z_clt, z_cle, z_cgt, z_cge, z_cin, z_cni, z_int_t, z_trn, z_trb, z_tri, z_trt, z_trl, z_ixt, z_ixl, z_slt, z_sll, z_sls, z_lent, z_lenl, z_abs, z_max, z_min, z_toi, z_tob, z_tut, z_tul, z_lit, z_lil, z_any, z_all, z_sum, z_app, z_set, z_isn, z_isb, z_isi, z_iss, z_ist, z_isl, z_revl, isNon, atI_0, atI_1, atI_2, atI_3, ixN_1, ixN_2, ixN_3, List.map_cons, List.map_nil, List.length_cons, List.length_nil, List.replicate, List.cons_append, List.nil_append, List.append_nil, List.set_cons_zero, List.set_cons_succ, List.getElem?_cons_zero, List.getElem?_cons_succ, Nat.reduceAdd, Nat.reduceSub, Nat.reduceLT, Nat.reduceLeDiff, Nat.reduceEqDiff, Int.reduceNeg, Int.reduceAdd, Int.reduceSub, Int.reduceMul, Int.reducePow, Int.reduceToNat, Int.reduceLT, Int.reduceLE, Int.reduceEq, if_true, if_false, Bool.false_eq_true, decide_true, decide_false, true_and, and_true, Bool.not_true, Bool.not_false, List.set_nil, List.length_set, ne_eq, not_false_eq_true, reduceCtorEq, and_self, List.isEmpty_cons, List.isEmpty_nil, List.length_map, List.set_set, decide_eq_true_eq, hz]
          have ec : cf n b i t = 0 := by
            show coef n (rb b i) (own n (rb b) t) = 0
            rw [coef_s, if_pos hz]
          rw [show fr 0 = fr (cf n b i t) by rw [ec]]
          obtain ⟨S7, hS7⟩ : ∃ S7, S7 = S6 := ⟨_, rfl⟩
          have O7 := O6
          have h7o := h6o
          have h7l := h6l
          rw [← hS7] at O7 h7o h7l ⊢
          simp only [wpSs, wpS, wpE, wpEs, wpO, wpC, wpT, wpTg, wpTs, wpI, wipeU, startU, z_cell, z_slot, z_int, z_bl, z_tup, z_fn, z_lst, z_nil, z_cons, z_opt, z_optu, z_srct, z_srcl, z_bopi, z_bopt, z_bopl, z_bopm, z_add, z_sub, z_mul, z_div, z_mod, z_pow, z_auga, z_augs, z_augd, z_eqii, z_eqss, z_eqbb, z_eqtt, z_eqll, z_ceq, z_cne, z_clt, z_cle, z_cgt, z_cge, z_cin, z_cni, z_int_t, z_trn, z_trb, z_tri, z_trt, z_trl, z_ixt, z_ixl, z_slt, z_sll, z_sls, z_lent, z_lenl, z_abs, z_max, z_min, z_toi, z_tob, z_tut, z_tul, z_lit, z_lil, z_any, z_all, z_sum, z_app, z_set, z_isn, z_isb, z_isi, z_iss, z_ist, z_isl, z_revl, isNon, atI_0, atI_1, atI_2, atI_3, ixN_1, ixN_2, ixN_3, List.map_cons, List.map_nil, List.length_cons, List.length_nil, List.replicate, List.cons_append, List.nil_append, List.append_nil, List.set_cons_zero, List.set_cons_succ, List.getElem?_cons_zero, List.getElem?_cons_succ, Nat.reduceAdd, Nat.reduceSub, Nat.reduceLT, Nat.reduceLeDiff, Nat.reduceEqDiff, Int.reduceNeg, Int.reduceAdd, Int.reduceSub, Int.reduceMul, Int.reducePow, Int.reduceToNat, Int.reduceLT, Int.reduceLE, Int.reduceEq, if_true, if_false, Bool.false_eq_true, decide_true, decide_false, true_and, and_true, Bool.not_true, Bool.not_false, List.set_nil, List.length_set, ne_eq, not_false_eq_true, reduceCtorEq, and_self, List.isEmpty_cons, List.isEmpty_nil, List.length_map, List.set_set, decide_eq_true_eq, h7l]
          refine ⟨hsz, ?_⟩
          have O8 : LS S0 (S7.set lc0 (.lst (vecU t (cf n b i) ++ [fr (cf n b i t)]))) v w q m n b i ro := O7.other _ nl.1 nl.2.1 nl.2.2.1 nl.2.2.2 hl0
          have h8l : (S7.set lc0 (.lst (vecU t (cf n b i) ++ [fr (cf n b i t)])))[lc0]? = some (.lst (vecU (t + 1) (cf n b i))) := by
            rw [List.getElem?_set_self (List.getElem?_eq_some_iff.1 h7l).1, vec_push]
          have h8o : (S7.set lc0 (.lst (vecU t (cf n b i) ++ [fr (cf n b i t)])))[oc]? = some (.lst (vecU n (pt n (rb b) (rb b i) t))) := by
            rw [List.getElem?_set_ne hol.symm]; exact h7o
          generalize S7.set lc0 (.lst (vecU t (cf n b i) ++ [fr (cf n b i t)])) = S8 at *
          refine ⟨⟨by omega, by omega⟩, ?_⟩
          rw [Int.toNat_natCast]
          have g5 := ro_at (ro := ro) ht2
          refine lcL_ind (fun us acc S9 => S9 = S8 ∧ ∃ j : Nat, j ≤ n ∧ us = (rngL 0 n).drop j ∧ acc = vecU j (pt n (rb b) (rb b i) (t + 1))) ?_ ?_ ?_ _ _ _ ⟨rfl, 0, by omega, rfl, rfl⟩
          · intros; trivial
          · rintro acc S9 ⟨rfl, j, hj, hu9, rfl⟩
            obtain rfl := rng_end hu9 hj
            exact hk5 _ _ ⟨t + 1, ht2, hus5, S9.length, O8.push _, List.getElem?_concat_length, by rw [List.getElem?_append_left (List.getElem?_eq_some_iff.1 h8l).1]; exact h8l, ⟨by have := O8.lts; omega, by have := O8.lts; omega, by have := O8.lts; omega, fun l hl => by have := O8.ltr hl; omega⟩, by have := (List.getElem?_eq_some_iff.1 h8l).1; omega, by have := O8.keep.len; omega, _, _, _, _, rfl⟩
          · rintro z9 us9 acc S9 k9 ⟨rfl, j, hj, hu9, rfl⟩ ks9 kn9
            obtain ⟨hj2, rfl, hus9⟩ := rng_drop hu9
            have e9 : (0 + (j : Int)) = j := by omega
            have p1 := vec_atI (u := pt n (rb b) (rb b i) t) hj2
            have p2 := vec_atI (u := own n (rb b) t) hj2
            rw [e9]
            simp only [wpSs, wpS, wpE, wpEs, wpO, wpC, wpT, wpTg, wpTs, wpI, wipeU, startU, z_cell, z_slot, z_int, z_bl, z_tup, z_fn, z_lst, z_nil, z_cons, z_opt, z_optu, z_srct, z_srcl, z_bopi, z_bopt, z_bopl, z_bopm, z_add, z_sub, z_mul, z_div, z_mod, z_pow, z_auga, z_augs, z_augd, z_eqii, z_eqss, z_eqbb, z_eqtt, z_eqll, z_ceq, z_cne, z_clt, z_cle, z_cgt, z_cge, z_cin, z_cni, z_int_t, z_trn, z_trb, z_tri, z_trt, z_trl, z_ixt, z_ixl, z_slt, z_sll, z_sls, z_lent, z_lenl, z_abs, z_max, z_min, z_toi, z_tob, z_tut, z_tul, z_lit, z_lil, z_any, z_all, z_sum, z_app, z_set, z_isn, z_isb, z_isi, z_iss, z_ist, z_isl, z_revl, isNon, atI_0, atI_1, atI_2, atI_3, ixN_1, ixN_2, ixN_3, List.map_cons, List.map_nil, List.length_cons, List.length_nil, List.replicate, List.cons_append, List.nil_append, List.append_nil, List.set_cons_zero, List.set_cons_succ, List.getElem?_cons_zero, List.getElem?_cons_succ, Nat.reduceAdd, Nat.reduceSub, Nat.reduceLT, Nat.reduceLeDiff, Nat.reduceEqDiff, Int.reduceNeg, Int.reduceAdd, Int.reduceSub, Int.reduceMul, Int.reducePow, Int.reduceToNat, Int.reduceLT, Int.reduceLE, Int.reduceEq, if_true, if_false, Bool.false_eq_true, decide_true, decide_false, true_and, and_true, Bool.not_true, Bool.not_false, List.set_nil, List.length_set, ne_eq, not_false_eq_true, reduceCtorEq, and_self, List.isEmpty_cons, List.isEmpty_nil, List.length_map, List.set_set, decide_eq_true_eq, h8o, p1, O8.hv, g5, O8.hr t ht2, p2]
            refine hM _ _ _ _ ⟨cf n b i t, own n (rb b) t j, rfl, H.sm_coef him htm, H.sm_own htm hj2, ?_⟩
            refine hS _ _ _ _ ⟨pt n (rb b) (rb b i) t j, cf n b i t * own n (rb b) t j, rfl, H.sm_pt him htm hj2, H.sm_term him htm hj2, ?_⟩
            refine ks9 _ _ (by rw [vec_len]; exact Nat.lt_of_lt_of_le (show j < 8 by omega) (by decide)) ⟨rfl, j + 1, hj2, hus9, ?_⟩
            rw [vec_push, pt_succ]
        · simp only [wpSs, wpS, wpE, wpEs, wpO, wpC, wpT, wpTg, wpTs, wpI, wipeU, startU, z_cell, z_slot, z_int, z_bl, z_tup, z_fn, z_lst, z_nil, z_cons, z_opt, z_optu, z_srct, z_srcl, z_bopi, z_bopt, z_bopl, z_bopm, z_add, z_sub, z_mul, z_div, z_mod, z_pow, z_auga, z_augs, z_augd, z_eqii, z_eqss, z_eqbb, z_eqtt, z_eqll, z_ceq, z_cne, z_clt, z_cle, z_cgt, z_cge, z_cin, z_cni, z_int_t, z_trn, z_trb, z_tri, z_trt, z_trl, z_ixt, z_ixl, z_slt, z_sll, z_sls, z_lent, z_lenl, z_abs, z_max, z_min, z_toi, z_tob, z_tut, z_tul, z_lit, z_lil, z_any, z_all, z_sum, z_app, z_set, z_isn, z_isb, z_isi, z_iss, z_ist, z_isl, z_revl, isNon, atI_0, atI_1, atI_2, atI_3, ixN_1, ixN_2, ixN_3, List.map_cons, List.map_nil, List.length_cons, List.length_nil, List.replicate, List.cons_append, List.nil_append, List.append_nil, List.set_cons_zero, List.set_cons_succ, List.getElem?_cons_zero, List.getElem?_cons_succ, Nat.reduceAdd, Nat.reduceSub, Nat.reduceLT, Nat.reduceLeDiff, Nat.reduceEqDiff, Int.reduceNeg, Int.reduceAdd, Int.reduceSub, Int.reduceMul, Int.reducePow, Int.reduceToNat, Int.reduceLT, Int.reduceLE, Int.reduceEq, if_true, if_false, Bool.false_eq_true, decide_true, decide_false, true_and, and_true, Bool.not_true, Bool.not_false, List.set_nil, List.length_set, ne_eq, not_false_eq_true, reduceCtorEq, and_self, List.isEmpty_cons, List.isEmpty_nil, List.length_map, List.set_set, decide_eq_true_eq, hz, g1]
          refine lcL_ind (fun us acc S9 => S9 = S6 ∧ ∃ t : Nat, t ≤ n ∧ us = ((List.range n).map fun j => U.int (b i j)).drop t ∧ acc = vecU t (rb b i)) ?_ ?_ ?_ _ _ _ ⟨rfl, 0, by omega, rfl, rfl⟩
          · intros; trivial
          · rintro acc S9 ⟨rfl, t9, ht9, hu9, rfl⟩
            have et9 := map_end hu9 ht9
            rw [et9]
            have O7 := O6.push [Cell.lst (vecU n (rb b i))]
            have g5 := ro_at (ro := ro) ht2
            simp only [wpSs, wpS, wpE, wpEs, wpO, wpC, wpT, wpTg, wpTs, wpI, wipeU, startU, z_cell, z_slot, z_int, z_bl, z_tup, z_fn, z_lst, z_nil, z_cons, z_opt, z_optu, z_srct, z_srcl, z_bopi, z_bopt, z_bopl, z_bopm, z_add, z_sub, z_mul, z_div, z_mod, z_pow, z_auga, z_augs, z_augd, z_eqii, z_eqss, z_eqbb, z_eqtt, z_eqll, z_ceq, z_cne, z_clt, z_cle, z_cgt, z_cge, z_cin, z_cni, z_int_t, z_trn, z_trb, z_tri, z_trt, z_trl, z_ixt, z_ixl, z_slt, z_sll, z_sls, z_lent, z_lenl, z_abs, z_max, z_min, z_toi, z_tob, z_tut, z_tul, z_lit, z_lil, z_any, z_all, z_sum, z_app, z_set, z_isn, z_isb, z_isi, z_iss, z_ist, z_isl, z_revl, isNon, atI_0, atI_1, atI_2, atI_3, ixN_1, ixN_2, ixN_3, List.map_cons, List.map_nil, List.length_cons, List.length_nil, List.replicate, List.cons_append, List.nil_append, List.append_nil, List.set_cons_zero, List.set_cons_succ, List.getElem?_cons_zero, List.getElem?_cons_succ, Nat.reduceAdd, Nat.reduceSub, Nat.reduceLT, Nat.reduceLeDiff, Nat.reduceEqDiff, Int.reduceNeg, Int.reduceAdd, Int.reduceSub, Int.reduceMul, Int.reducePow, Int.reduceToNat, Int.reduceLT, Int.reduceLE, Int.reduceEq, if_true, if_false, Bool.false_eq_true, decide_true, decide_false, true_and, and_true, Bool.not_true, Bool.not_false, List.set_nil, List.length_set, ne_eq, not_false_eq_true, reduceCtorEq, and_self, List.isEmpty_cons, List.isEmpty_nil, List.length_map, List.set_set, decide_eq_true_eq, O7.hv, g5]
            refine hD _ _ _ _ ⟨S9.length, ro t, n, rb b i, own n (rb b) t, rfl, List.getElem?_concat_length, O7.hr t ht2, by omega, fun j hj => ⟨H.sm_b him hj, H.sm_own htm hj, H.sm_bo him htm hj⟩, fun T hT => H.sm_bos him htm hT, ?_⟩
            simp only [wpSs, wpS, wpE, wpEs, wpO, wpC, wpT, wpTg, wpTs, wpI, wipeU, startU, z_cell, z_slot, z_int, z_bl, z_tup, z_fn, z_lst, z_nil, z_cons, z_opt, z_optu, z_srct, z_srcl, z_bopi, z_bopt, z_bopl, z_bopm, z_add, z_sub, z_mul, z_div, z_mod, z_pow, z_auga, z_augs, z_augd, z_eqii, z_eqss, z_eqbb, z_eqtt, z_eqll, z_ceq, z_cne, z_clt, z_cle, z_cgt, z_cge, z_cin, z_cni, z_int_t, z_trn, z_trb, z_tri, z_trt, z_trl, z_ixt, z_ixl, z_slt, z_sll, z_sls, z_lent, z_lenl, z_abs, z_max, z_min, z_toi, z_tob, z_tut, z_tul, z_lit, z_lil, z_any, z_all, z_sum, z_app, z_set, z_isn, z_isb, z_isi, z_iss, z_ist, z_isl, z_revl, isNon, atI_0, atI_1, atI_2, atI_3, ixN_1, ixN_2, ixN_3, List.map_cons, List.map_nil, List.length_cons, List.length_nil, List.replicate, List.cons_append, List.nil_append, List.append_nil, List.set_cons_zero, List.set_cons_succ, List.getElem?_cons_zero, List.getElem?_cons_succ, Nat.reduceAdd, Nat.reduceSub, Nat.reduceLT, Nat.reduceLeDiff, Nat.reduceEqDiff, Int.reduceNeg, Int.reduceAdd, Int.reduceSub, Int.reduceMul, Int.reducePow, Int.reduceToNat, Int.reduceLT, Int.reduceLE, Int.reduceEq, if_true, if_false, Bool.false_eq_true, decide_true, decide_false, true_and, and_true, Bool.not_true, Bool.not_false, List.set_nil, List.length_set, ne_eq, not_false_eq_true, reduceCtorEq, and_self, List.isEmpty_cons, List.isEmpty_nil, List.length_map, List.set_set, decide_eq_true_eq, O7.hq, g4]
            refine hI _ _ _ _ ⟨sqs n (rb b) t, rfl, ⟨hz, H.sq_inv htm⟩, ?_⟩
            have sI2 : SmI (sqs n (rb b) t) := ⟨hz, H.sq_inv htm⟩
            refine hM _ _ _ _ ⟨dot n (rb b i) (own n (rb b) t), (sqs n (rb b) t)⁻¹, rfl, H.sm_bos him htm (Nat.le_refl n), sI2.inv, ?_⟩
            have ec : dot n (rb b i) (own n (rb b) t) * (sqs n (rb b) t)⁻¹ = cf n b i t := by
              show _ = coef n (rb b i) (own n (rb b) t)
              rw [coef_s, if_neg hz, Rat.div_def]
            dsimp only
            rw [ec]
            have h7o : (S9 ++ [Cell.lst (vecU n (rb b i))])[oc]? = some (.lst (vecU n (pt n (rb b) (rb b i) t))) := by
              rw [List.getElem?_append_left (List.getElem?_eq_some_iff.1 h6o).1]; exact h6o
            have h7l : (S9 ++ [Cell.lst (vecU n (rb b i))])[lc0]? = some (.lst (vecU t (cf n b i))) := by
              rw [List.getElem?_append_left (List.getElem?_eq_some_iff.1 h6l).1]; exact h6l
            obtain ⟨S7, hS7⟩ : ∃ S7, S7 = S9 ++ [Cell.lst (vecU n (rb b i))] := ⟨_, rfl⟩
            rw [← hS7] at O7 h7o h7l ⊢
            simp only [wpSs, wpS, wpE, wpEs, wpO, wpC, wpT, wpTg, wpTs, wpI, wipeU, startU, z_cell, z_slot, z_int, z_bl, z_tup, z_fn, z_lst, z_nil, z_cons, z_opt, z_optu, z_srct, z_srcl, z_bopi, z_bopt, z_bopl, z_bopm, z_add, z_sub, z_mul, z_div, z_mod, z_pow, z_auga, z_augs, z_augd, z_eqii, z_eqss, z_eqbb, z_eqtt, z_eqll, z_ceq, z_cne, z_clt, z_cle, z_cgt, z_cge, z_cin, z_cni, z_int_t, z_trn, z_trb, z_tri, z_trt, z_trl, z_ixt, z_ixl, z_slt, z_sll, z_sls, z_lent, z_lenl, z_abs, z_max, z_min, z_toi, z_tob, z_tut, z_tul, z_lit, z_lil, z_any, z_all, z_sum, z_app, z_set, z_isn, z_isb, z_isi, z_iss, z_ist, z_isl, z_revl, isNon, atI_0, atI_1, atI_2, atI_3, ixN_1, ixN_2, ixN_3, List.map_cons, List.map_nil, List.length_cons, List.length_nil, List.replicate, List.cons_append, List.nil_append, List.append_nil, List.set_cons_zero, List.set_cons_succ, List.getElem?_cons_zero, List.getElem?_cons_succ, Nat.reduceAdd, Nat.reduceSub, Nat.reduceLT, Nat.reduceLeDiff, Nat.reduceEqDiff, Int.reduceNeg, Int.reduceAdd, Int.reduceSub, Int.reduceMul, Int.reducePow, Int.reduceToNat, Int.reduceLT, Int.reduceLE, Int.reduceEq, if_true, if_false, Bool.false_eq_true, decide_true, decide_false, true_and, and_true, Bool.not_true, Bool.not_false, List.set_nil, List.length_set, ne_eq, not_false_eq_true, reduceCtorEq, and_self, List.isEmpty_cons, List.isEmpty_nil, List.length_map, List.set_set, decide_eq_true_eq, h7l]
            refine ⟨hsz, ?_⟩
            have O8 : LS S0 (S7.set lc0 (.lst (vecU t (cf n b i) ++ [fr (cf n b i t)]))) v w q m n b i ro := O7.other _ nl.1 nl.2.1 nl.2.2.1 nl.2.2.2 hl0
            have h8l : (S7.set lc0 (.lst (vecU t (cf n b i) ++ [fr (cf n b i t)])))[lc0]? = some (.lst (vecU (t + 1) (cf n b i))) := by
              rw [List.getElem?_set_self (List.getElem?_eq_some_iff.1 h7l).1, vec_push]
            have h8o : (S7.set lc0 (.lst (vecU t (cf n b i) ++ [fr (cf n b i t)])))[oc]? = some (.lst (vecU n (pt n (rb b) (rb b i) t))) := by
              rw [List.getElem?_set_ne hol.symm]; exact h7o
            generalize S7.set lc0 (.lst (vecU t (cf n b i) ++ [fr (cf n b i t)])) = S8 at *
            refine ⟨⟨by omega, by omega⟩, ?_⟩
            rw [Int.toNat_natCast]
            have g5 := ro_at (ro := ro) ht2
            refine lcL_ind (fun us acc Sx => Sx = S8 ∧ ∃ j : Nat, j ≤ n ∧ us = (rngL 0 n).drop j ∧ acc = vecU j (pt n (rb b) (rb b i) (t + 1))) ?_ ?_ ?_ _ _ _ ⟨rfl, 0, by omega, rfl, rfl⟩
            · intros; trivial
            · rintro acc Sx ⟨rfl, j, hj, hu9, rfl⟩
              obtain rfl := rng_end hu9 hj
              exact hk5 _ _ ⟨t + 1, ht2, hus5, Sx.length, O8.push _, List.getElem?_concat_length, by rw [List.getElem?_append_left (List.getElem?_eq_some_iff.1 h8l).1]; exact h8l, ⟨by have := O8.lts; omega, by have := O8.lts; omega, by have := O8.lts; omega, fun l hl => by have := O8.ltr hl; omega⟩, by have := (List.getElem?_eq_some_iff.1 h8l).1; omega, by have := O8.keep.len; omega, _, _, _, _, rfl⟩
            · rintro z9 us9 acc Sx k9 ⟨rfl, j, hj, hu9, rfl⟩ ks9 kn9
              obtain ⟨hj2, rfl, hus9⟩ := rng_drop hu9
              have e9 : (0 + (j : Int)) = j := by omega
              have p1 := vec_atI (u := pt n (rb b) (rb b i) t) hj2
              have p2 := vec_atI (u := own n (rb b) t) hj2
              rw [e9]
              simp only [wpSs, wpS, wpE, wpEs, wpO, wpC, wpT, wpTg, wpTs, wpI, wipeU, startU, z_cell, z_slot, z_int, z_bl, z_tup, z_fn, z_lst, z_nil, z_cons, z_opt, z_optu, z_srct, z_srcl, z_bopi, z_bopt, z_bopl, z_bopm, z_add, z_sub, z_mul, z_div, z_mod, z_pow, z_auga, z_augs, z_augd, z_eqii, z_eqss, z_eqbb, z_eqtt, z_eqll, z_ceq, z_cne, z_clt, z_cle, z_cgt, z_cge, z_cin, z_cni, z_int_t, z_trn, z_trb, z_tri, z_trt, z_trl, z_ixt, z_ixl, z_slt, z_sll, z_sls, z_lent, z_lenl, z_abs, z_max, z_min, z_toi, z_tob, z_tut, z_tul, z_lit, z_lil, z_any, z_all, z_sum, z_app, z_set, z_isn, z_isb, z_isi, z_iss, z_ist, z_isl, z_revl, isNon, atI_0, atI_1, atI_2, atI_3, ixN_1, ixN_2, ixN_3, List.map_cons, List.map_nil, List.length_cons, List.length_nil, List.replicate, List.cons_append, List.nil_append, List.append_nil, List.set_cons_zero, List.set_cons_succ, List.getElem?_cons_zero, List.getElem?_cons_succ, Nat.reduceAdd, Nat.reduceSub, Nat.reduceLT, Nat.reduceLeDiff, Nat.reduceEqDiff, Int.reduceNeg, Int.reduceAdd, Int.reduceSub, Int.reduceMul, Int.reducePow, Int.reduceToNat, Int.reduceLT, Int.reduceLE, Int.reduceEq, if_true, if_false, Bool.false_eq_true, decide_true, decide_false, true_and, and_true, Bool.not_true, Bool.not_false, List.set_nil, List.length_set, ne_eq, not_false_eq_true, reduceCtorEq, and_self, List.isEmpty_cons, List.isEmpty_nil, List.length_map, List.set_set, decide_eq_true_eq, h8o, p1, O8.hv, g5, O8.hr t ht2, p2]
              refine hM _ _ _ _ ⟨cf n b i t, own n (rb b) t j, rfl, H.sm_coef him htm, H.sm_own htm hj2, ?_⟩
              refine hS _ _ _ _ ⟨pt n (rb b) (rb b i) t j, cf n b i t * own n (rb b) t j, rfl, H.sm_pt him htm hj2, H.sm_term him htm hj2, ?_⟩
              refine ks9 _ _ (by rw [vec_len]; exact Nat.lt_of_lt_of_le (show j < 8 by omega) (by decide)) ⟨rfl, j + 1, hj2, hus9, ?_⟩
              rw [vec_push, pt_succ]
          · rintro z9 us9 acc S9 k9 ⟨rfl, t9, ht9, hu9, rfl⟩ ks9 kn9
            obtain ⟨ht10, rfl, hus9⟩ := map_drop hu9
            refine ks9 _ _ (by rw [vec_len]; exact Nat.lt_of_lt_of_le (show t9 < 8 by omega) (by decide)) ⟨rfl, t9 + 1, ht10, hus9, ?_⟩
            rw [vec_push]; rfl
    · rintro z us5 acc S5 k5 ⟨rfl, t0, ht0, hu5, rfl⟩ ks5 kn5
      obtain ⟨ht1, rfl, hus5⟩ := map_drop hu5
      refine ks5 _ _ (by rw [vec_len]; exact Nat.lt_of_lt_of_le (show t0 < 8 by omega) (by decide)) ⟨rfl, t0 + 1, ht1, hus5, ?_⟩
      rw [vec_push]; rfl
end K70

set_option Elab.async false
set_option linter.all false
set_option maxRecDepth 100000
set_option maxHeartbeats 8000000
namespace K70
open PySem PySem.Spec L2 Q GSM
theorem z_fr0 {q : Rat} {St : Sto} {Q : Ks} : idxp (fr q) (.int 0) St Q = Q (.int q.num) St := rfl
theorem z_fr1 {q : Rat} {St : Sto} {Q : Ks} : idxp (fr q) (.int 1) St Q = Q (.int (q.den : Int)) St := rfl
def spLRed : FSpec := fun us S Q _ => ∃ (m n A0 : Nat) (b : Nat → Nat → Int), us = [zMat m n b] ∧ Bas m n b A0 ∧ ∀ (r : Bool) S2, All S S2 → (r = true ↔ Red m n b) → Q (.bl r) S2
theorem w_law_is_reduced (G : Gm) (hSq : Has G "_law_squares" spSq) (hM : Has G "_law_multiply" (spOp2 (· * ·))) (hS : Has G "_law_subtract" (spOp2 (· - ·))) (hA : Has G "_law_atmost" spAtmost) : Pf G n_law_is_reduced i_law_is_reduced spLRed := by
  rintro us S Q X ⟨m, n, A0, b, rfl, B, hQ⟩
  obtain ⟨sO, eO, hSq⟩ := hSq
  obtain ⟨sM, eM, hM⟩ := hM
  obtain ⟨sS, eS, hS⟩ := hS
  obtain ⟨sA, eA, hA⟩ := hA
  have H := B.rows
  have hm := B.m6
  have hs1 : 1 ≤ sizeLine := by decide
  have hs2 : 2 ≤ sizeLine := by decide
  simp only [wpSs, wpS, wpE, wpEs, wpO, wpC, wpT, wpTg, wpTs, wpI, wipeU, startU, z_cell, z_slot, z_int, z_bl, z_tup, z_fn, z_optb, z_hN, z_hB, z_hC, z_hP, z_hK, z_lst, z_nil, z_cons, z_opt, z_optu, z_srct, z_srcl, z_bopi, z_bopt, z_bopl, z_bopm, z_add, z_sub, z_mul, z_div, z_mod, z_pow, z_auga, z_augs, z_augd, z_eqii, z_eqss, z_eqbb, z_eqtt, z_eqll, z_ceq, z_cne, z_clt, z_cle, z_cgt, z_cge, z_cin, z_cni, z_int_t, z_trn, z_trb, z_tri, z_trt, z_trl, z_ixt, z_ixl, z_slt, z_sll, z_sls, z_lent, z_lenl, z_abs, z_max, z_min, z_toi, z_tob, z_tut, z_tul, z_lit, z_lil, z_any, z_all, z_sum, z_app, z_set, z_isn, z_isb, z_isi, z_iss, z_ist, z_isl, z_revl, isNon, atI_0, atI_1, atI_2, atI_3, ixN_1, ixN_2, ixN_3, List.map_cons, List.map_nil, List.length_cons, List.length_nil, List.replicate, List.cons_append, List.nil_append, List.append_nil, List.set_cons_zero, List.set_cons_succ, List.getElem?_cons_zero, List.getElem?_cons_succ, Nat.reduceAdd, Nat.reduceSub, Nat.reduceLT, Nat.reduceLeDiff, Nat.reduceEqDiff, Int.reduceNeg, Int.reduceAdd, Int.reduceSub, Int.reduceMul, Int.reducePow, Int.reduceToNat, Int.reduceLT, Int.reduceLE, Int.reduceEq, if_true, if_false, Bool.false_eq_true, decide_true, decide_false, true_and, and_true, Bool.not_true, Bool.not_false, List.set_nil, List.length_set, ne_eq, not_false_eq_true, reduceCtorEq, and_self, List.isEmpty_cons, List.isEmpty_nil, List.length_map, List.set_set, decide_eq_true_eq, n_law_is_reduced, i_law_is_reduced, eO, eM, eS, eA, hs1, hs2]
  refine hSq _ _ _ _ ⟨m, n, A0, b, rfl, B, fun l S1 hl k1 _ => ?_⟩
  unfold zMat
  simp only [wpSs, wpS, wpE, wpEs, wpO, wpC, wpT, wpTg, wpTs, wpI, wipeU, startU, z_cell, z_slot, z_int, z_bl, z_tup, z_fn, z_optb, z_hN, z_hB, z_hC, z_hP, z_hK, z_lst, z_nil, z_cons, z_opt, z_optu, z_srct, z_srcl, z_bopi, z_bopt, z_bopl, z_bopm, z_add, z_sub, z_mul, z_div, z_mod, z_pow, z_auga, z_augs, z_augd, z_eqii, z_eqss, z_eqbb, z_eqtt, z_eqll, z_ceq, z_cne, z_clt, z_cle, z_cgt, z_cge, z_cin, z_cni, z_int_t, z_trn, z_trb, z_tri, z_trt, z_trl, z_ixt, z_ixl, z_slt, z_sll, z_sls, z_lent, z_lenl, z_abs, z_max, z_min, z_toi, z_tob, z_tut, z_tul, z_lit, z_lil, z_any, z_all, z_sum, z_app, z_set, z_isn, z_isb, z_isi, z_iss, z_ist, z_isl, z_revl, isNon, atI_0, atI_1, atI_2, atI_3, ixN_1, ixN_2, ixN_3, List.map_cons, List.map_nil, List.length_cons, List.length_nil, List.replicate, List.cons_append, List.nil_append, List.append_nil, List.set_cons_zero, List.set_cons_succ, List.getElem?_cons_zero, List.getElem?_cons_succ, Nat.reduceAdd, Nat.reduceSub, Nat.reduceLT, Nat.reduceLeDiff, Nat.reduceEqDiff, Int.reduceNeg, Int.reduceAdd, Int.reduceSub, Int.reduceMul, Int.reducePow, Int.reduceToNat, Int.reduceLT, Int.reduceLE, Int.reduceEq, if_true, if_false, Bool.false_eq_true, decide_true, decide_false, true_and, and_true, Bool.not_true, Bool.not_false, List.set_nil, List.length_set, ne_eq, not_false_eq_true, reduceCtorEq, and_self, List.isEmpty_cons, List.isEmpty_nil, List.length_map, List.set_set, decide_eq_true_eq, lenTs]
  refine ⟨⟨by omega, by omega⟩, ?_⟩
  rw [Int.toNat_natCast]
  refine forL_ind (fun us σ S4 => S4 = S1 ∧ ∃ i : Nat, i ≤ m ∧ us = (rngL 0 m).drop i ∧ (∀ i2, i2 < i → (∀ k, k < i2 → ¬ badK n b i2 k) ∧ ¬ badI n b i2) ∧ ∃ o3 o4 o5 o6 : Option U, σ = [some (zMat m n b), some qd, some (.lst l), o3, o4, o5, o6]) ?_ ?_ ?_ _ _ _ ⟨rfl, 0, by omega, rfl, fun i2 h => by omega, _, _, _, _, rfl⟩
  · intros; trivial
  · rintro σ S4 ⟨rfl, i, hi, hu, hg, o3, o4, o5, o6, rfl⟩
    obtain rfl := rng_end hu hi
    exact hQ true _ k1 ⟨fun _ => hg, fun _ => rfl⟩
  · rintro u us σ S4 k ⟨rfl, i, hi, hu, hg, o3, o4, o5, o6, rfl⟩ hk
    obtain ⟨him, rfl, hus⟩ := rng_drop hu
    have ei : (0 + (i : Int)) = i := by omega
    rw [ei]
    simp only [wpSs, wpS, wpE, wpEs, wpO, wpC, wpT, wpTg, wpTs, wpI, wipeU, startU, z_cell, z_slot, z_int, z_bl, z_tup, z_fn, z_optb, z_hN, z_hB, z_hC, z_hP, z_hK, z_lst, z_nil, z_cons, z_opt, z_optu, z_srct, z_srcl, z_bopi, z_bopt, z_bopl, z_bopm, z_add, z_sub, z_mul, z_div, z_mod, z_pow, z_auga, z_augs, z_augd, z_eqii, z_eqss, z_eqbb, z_eqtt, z_eqll, z_ceq, z_cne, z_clt, z_cle, z_cgt, z_cge, z_cin, z_cni, z_int_t, z_trn, z_trb, z_tri, z_trt, z_trl, z_ixt, z_ixl, z_slt, z_sll, z_sls, z_lent, z_lenl, z_abs, z_max, z_min, z_toi, z_tob, z_tut, z_tul, z_lit, z_lil, z_any, z_all, z_sum, z_app, z_set, z_isn, z_isb, z_isi, z_iss, z_ist, z_isl, z_revl, isNon, atI_0, atI_1, atI_2, atI_3, ixN_1, ixN_2, ixN_3, List.map_cons, List.map_nil, List.length_cons, List.length_nil, List.replicate, List.cons_append, List.nil_append, List.append_nil, List.set_cons_zero, List.set_cons_succ, List.getElem?_cons_zero, List.getElem?_cons_succ, Nat.reduceAdd, Nat.reduceSub, Nat.reduceLT, Nat.reduceLeDiff, Nat.reduceEqDiff, Int.reduceNeg, Int.reduceAdd, Int.reduceSub, Int.reduceMul, Int.reducePow, Int.reduceToNat, Int.reduceLT, Int.reduceLE, Int.reduceEq, if_true, if_false, Bool.false_eq_true, decide_true, decide_false, true_and, and_true, Bool.not_true, Bool.not_false, List.set_nil, List.length_set, ne_eq, not_false_eq_true, reduceCtorEq, and_self, List.isEmpty_cons, List.isEmpty_nil, List.length_map, List.set_set, decide_eq_true_eq]
    refine ⟨⟨by omega, by omega⟩, ?_⟩
    rw [Int.toNat_natCast]
    refine forL_ind (fun us σ S5 => S5 = S4 ∧ ∃ t : Nat, t ≤ i ∧ us = (rngL 0 i).drop t ∧ (∀ k, k < t → ¬ badK n b i k) ∧ ∃ o4 o5 o6 : Option U, σ = [some (zMat m n b), some qd, some (.lst l), some (.int i), o4, o5, o6]) ?_ ?_ ?_ _ _ _ ⟨rfl, 0, by omega, rfl, fun k h => by omega, _, _, _, rfl⟩
    · intros; trivial
    · rintro σ S5 ⟨rfl, t, ht, hu5, hgk, o4, o5, o6, rfl⟩
      obtain rfl := rng_end hu5 ht
      have g1 := mu_at (n := n) (b := b) him
      have g3 := vec_atI (u := sqs n (rb b)) him
      by_cases h0 : t = 0
      · have h01 : ¬ ((0 : Int) < (t : Int)) := by omega
        simp only [wpSs, wpS, wpE, wpEs, wpO, wpC, wpT, wpTg, wpTs, wpI, wipeU, startU, z_cell, z_slot, z_int, z_bl, z_tup, z_fn, z_optb, z_hN, z_hB, z_hC, z_hP, z_hK, z_lst, z_nil, z_cons, z_opt, z_optu, z_srct, z_srcl, z_bopi, z_bopt, z_bopl, z_bopm, z_add, z_sub, z_mul, z_div, z_mod, z_pow, z_auga, z_augs, z_augd, z_eqii, z_eqss, z_eqbb, z_eqtt, z_eqll, z_ceq, z_cne, z_clt, z_cle, z_cgt, z_cge, z_cin, z_cni, z_int_t, z_trn, z_trb, z_tri, z_trt, z_trl, z_ixt, z_ixl, z_slt, z_sll, z_sls, z_lent, z_lenl, z_abs, z_max, z_min, z_toi, z_tob, z_tut, z_tul, z_lit, z_lil, z_any, z_all, z_sum, z_app, z_set, z_isn, z_isb, z_isi, z_iss, z_ist, z_isl, z_revl, isNon, atI_0, atI_1, atI_2, atI_3, ixN_1, ixN_2, ixN_3, List.map_cons, List.map_nil, List.length_cons, List.length_nil, List.replicate, List.cons_append, List.nil_append, List.append_nil, List.set_cons_zero, List.set_cons_succ, List.getElem?_cons_zero, List.getElem?_cons_succ, Nat.reduceAdd, Nat.reduceSub, Nat.reduceLT, Nat.reduceLeDiff, Nat.reduceEqDiff, Int.reduceNeg, Int.reduceAdd, Int.reduceSub, Int.reduceMul, Int.reducePow, Int.reduceToNat, Int.reduceLT, Int.reduceLE, Int.reduceEq, if_true, if_false, Bool.false_eq_true, decide_true, decide_false, true_and, and_true, Bool.not_true, Bool.not_false, List.set_nil, List.length_set, ne_eq, not_false_eq_true, reduceCtorEq, and_self, List.isEmpty_cons, List.isEmpty_nil, List.length_map, List.set_set, decide_eq_true_eq, h01]
        refine hk _ _ ⟨rfl, t + 1, him, hus, fun i2 h2 => ?_, _, _, _, _, rfl⟩
        by_cases e : i2 = t
        · rw [e]; exact ⟨hgk, fun z => by have := z.1; omega⟩
        · exact hg i2 (by omega)
      · have h01 : ((0 : Int) < (t : Int)) := by omega
        have e1 : ((t : Int) - 1) = ((t - 1 : Nat) : Int) := by omega
        have g2 := mu_in (m := m) (n := n) (b := b) (show t - 1 < t by omega)
        have g4 := vec_atI (n := m) (u := sqs n (rb b)) (show t - 1 < m by omega)
        have ht1 : (t - 1) + 1 < m := by omega
        have hl2 : S5[l]? = some (.lst [.tup [.int m, .int m, .tup ((List.range m).map (muRow m n b))], .tup (vecU m (sqs n (rb b)))]) := hl
        simp only [wpSs, wpS, wpE, wpEs, wpO, wpC, wpT, wpTg, wpTs, wpI, wipeU, startU, z_cell, z_slot, z_int, z_bl, z_tup, z_fn, z_optb, z_hN, z_hB, z_hC, z_hP, z_hK, z_lst, z_nil, z_cons, z_opt, z_optu, z_srct, z_srcl, z_bopi, z_bopt, z_bopl, z_bopm, z_add, z_sub, z_mul, z_div, z_mod, z_pow, z_auga, z_augs, z_augd, z_eqii, z_eqss, z_eqbb, z_eqtt, z_eqll, z_ceq, z_cne, z_clt, z_cle, z_cgt, z_cge, z_cin, z_cni, z_int_t, z_trn, z_trb, z_tri, z_trt, z_trl, z_ixt, z_ixl, z_slt, z_sll, z_sls, z_lent, z_lenl, z_abs, z_max, z_min, z_toi, z_tob, z_tut, z_tul, z_lit, z_lil, z_any, z_all, z_sum, z_app, z_set, z_isn, z_isb, z_isi, z_iss, z_ist, z_isl, z_revl, isNon, atI_0, atI_1, atI_2, atI_3, ixN_1, ixN_2, ixN_3, List.map_cons, List.map_nil, List.length_cons, List.length_nil, List.replicate, List.cons_append, List.nil_append, List.append_nil, List.set_cons_zero, List.set_cons_succ, List.getElem?_cons_zero, List.getElem?_cons_succ, Nat.reduceAdd, Nat.reduceSub, Nat.reduceLT, Nat.reduceLeDiff, Nat.reduceEqDiff, Int.reduceNeg, Int.reduceAdd, Int.reduceSub, Int.reduceMul, Int.reducePow, Int.reduceToNat, Int.reduceLT, Int.reduceLE, Int.reduceEq, if_true, if_false, Bool.false_eq_true, decide_true, decide_false, true_and, and_true, Bool.not_true, Bool.not_false, List.set_nil, List.length_set, ne_eq, not_false_eq_true, reduceCtorEq, and_self, List.isEmpty_cons, List.isEmpty_nil, List.length_map, List.set_set, decide_eq_true_eq, h01, e1, hl2, g1]
        unfold muRow
        simp only [wpSs, wpS, wpE, wpEs, wpO, wpC, wpT, wpTg, wpTs, wpI, wipeU, startU, z_cell, z_slot, z_int, z_bl, z_tup, z_fn, z_optb, z_hN, z_hB, z_hC, z_hP, z_hK, z_lst, z_nil, z_cons, z_opt, z_optu, z_srct, z_srcl, z_bopi, z_bopt, z_bopl, z_bopm, z_add, z_sub, z_mul, z_div, z_mod, z_pow, z_auga, z_augs, z_augd, z_eqii, z_eqss, z_eqbb, z_eqtt, z_eqll, z_ceq, z_cne, z_clt, z_cle, z_cgt, z_cge, z_cin, z_cni, z_int_t, z_trn, z_trb, z_tri, z_trt, z_trl, z_ixt, z_ixl, z_slt, z_sll, z_sls, z_lent, z_lenl, z_abs, z_max, z_min, z_toi, z_tob, z_tut, z_tul, z_lit, z_lil, z_any, z_all, z_sum, z_app, z_set, z_isn, z_isb, z_isi, z_iss, z_ist, z_isl, z_revl, isNon, atI_0, atI_1, atI_2, atI_3, ixN_1, ixN_2, ixN_3, List.map_cons, List.map_nil, List.length_cons, List.length_nil, List.replicate, List.cons_append, List.nil_append, List.append_nil, List.set_cons_zero, List.set_cons_succ, List.getElem?_cons_zero, List.getElem?_cons_succ, Nat.reduceAdd, Nat.reduceSub, Nat.reduceLT, Nat.reduceLeDiff, Nat.reduceEqDiff, Int.reduceNeg, Int.reduceAdd, Int.reduceSub, Int.reduceMul, Int.reducePow, Int.reduceToNat, Int.reduceLT, Int.reduceLE, Int.reduceEq, if_true, if_false, Bool.false_eq_true, decide_true, decide_false, true_and, and_true, Bool.not_true, Bool.not_false, List.set_nil, List.length_set, ne_eq, not_false_eq_true, reduceCtorEq, and_self, List.isEmpty_cons, List.isEmpty_nil, List.length_map, List.set_set, decide_eq_true_eq, g2]
        refine hM _ _ _ _ ⟨cf n b t (t - 1), cf n b t (t - 1), rfl, H.sm_coef him (by omega), H.sm_coef him (by omega), ?_⟩
        refine hS _ _ _ _ ⟨(3 : Rat) / 4, cf n b t (t - 1) * cf n b t (t - 1), by rw [fr_34], sm34, H.sm_cc him ht1, ?_⟩
        simp only [wpSs, wpS, wpE, wpEs, wpO, wpC, wpT, wpTg, wpTs, wpI, wipeU, startU, z_cell, z_slot, z_int, z_bl, z_tup, z_fn, z_optb, z_hN, z_hB, z_hC, z_hP, z_hK, z_lst, z_nil, z_cons, z_opt, z_optu, z_srct, z_srcl, z_bopi, z_bopt, z_bopl, z_bopm, z_add, z_sub, z_mul, z_div, z_mod, z_pow, z_auga, z_augs, z_augd, z_eqii, z_eqss, z_eqbb, z_eqtt, z_eqll, z_ceq, z_cne, z_clt, z_cle, z_cgt, z_cge, z_cin, z_cni, z_int_t, z_trn, z_trb, z_tri, z_trt, z_trl, z_ixt, z_ixl, z_slt, z_sll, z_sls, z_lent, z_lenl, z_abs, z_max, z_min, z_toi, z_tob, z_tut, z_tul, z_lit, z_lil, z_any, z_all, z_sum, z_app, z_set, z_isn, z_isb, z_isi, z_iss, z_ist, z_isl, z_revl, isNon, atI_0, atI_1, atI_2, atI_3, ixN_1, ixN_2, ixN_3, List.map_cons, List.map_nil, List.length_cons, List.length_nil, List.replicate, List.cons_append, List.nil_append, List.append_nil, List.set_cons_zero, List.set_cons_succ, List.getElem?_cons_zero, List.getElem?_cons_succ, Nat.reduceAdd, Nat.reduceSub, Nat.reduceLT, Nat.reduceLeDiff, Nat.reduceEqDiff, Int.reduceNeg, Int.reduceAdd, Int.reduceSub, Int.reduceMul, Int.reducePow, Int.reduceToNat, Int.reduceLT, Int.reduceLE, Int.reduceEq, if_true, if_false, Bool.false_eq_true, decide_true, decide_false, true_and, and_true, Bool.not_true, Bool.not_false, List.set_nil, List.length_set, ne_eq, not_false_eq_true, reduceCtorEq, and_self, List.isEmpty_cons, List.isEmpty_nil, List.length_map, List.set_set, decide_eq_true_eq, hl2, g4]
        refine hM _ _ _ _ ⟨tq (cf n b t (t - 1)), sqs n (rb b) (t - 1), rfl, H.sm_tq him ht1, H.sm_sq (by omega), ?_⟩
        have smL : Sm (least n b t) := H.sm_least him ht1
        have smq1 : Sm (sqs n (rb b) t) := H.sm_sq him
        simp only [wpSs, wpS, wpE, wpEs, wpO, wpC, wpT, wpTg, wpTs, wpI, wipeU, startU, z_cell, z_slot, z_int, z_bl, z_tup, z_fn, z_optb, z_hN, z_hB, z_hC, z_hP, z_hK, z_lst, z_nil, z_cons, z_opt, z_optu, z_srct, z_srcl, z_bopi, z_bopt, z_bopl, z_bopm, z_add, z_sub, z_mul, z_div, z_mod, z_pow, z_auga, z_augs, z_augd, z_eqii, z_eqss, z_eqbb, z_eqtt, z_eqll, z_ceq, z_cne, z_clt, z_cle, z_cgt, z_cge, z_cin, z_cni, z_int_t, z_trn, z_trb, z_tri, z_trt, z_trl, z_ixt, z_ixl, z_slt, z_sll, z_sls, z_lent, z_lenl, z_abs, z_max, z_min, z_toi, z_tob, z_tut, z_tul, z_lit, z_lil, z_any, z_all, z_sum, z_app, z_set, z_isn, z_isb, z_isi, z_iss, z_ist, z_isl, z_revl, isNon, atI_0, atI_1, atI_2, atI_3, ixN_1, ixN_2, ixN_3, List.map_cons, List.map_nil, List.length_cons, List.length_nil, List.replicate, List.cons_append, List.nil_append, List.append_nil, List.set_cons_zero, List.set_cons_succ, List.getElem?_cons_zero, List.getElem?_cons_succ, Nat.reduceAdd, Nat.reduceSub, Nat.reduceLT, Nat.reduceLeDiff, Nat.reduceEqDiff, Int.reduceNeg, Int.reduceAdd, Int.reduceSub, Int.reduceMul, Int.reducePow, Int.reduceToNat, Int.reduceLT, Int.reduceLE, Int.reduceEq, if_true, if_false, Bool.false_eq_true, decide_true, decide_false, true_and, and_true, Bool.not_true, Bool.not_false, List.set_nil, List.length_set, ne_eq, not_false_eq_true, reduceCtorEq, and_self, List.isEmpty_cons, List.isEmpty_nil, List.length_map, List.set_set, decide_eq_true_eq, hl2, g3]
        refine hA _ _ _ _ ⟨least n b t, sqs n (rb b) t, rfl, smL, smq1, fun r hr => ?_⟩
        simp only [wpSs, wpS, wpE, wpEs, wpO, wpC, wpT, wpTg, wpTs, wpI, wipeU, startU, z_cell, z_slot, z_int, z_bl, z_tup, z_fn, z_optb, z_hN, z_hB, z_hC, z_hP, z_hK, z_lst, z_nil, z_cons, z_opt, z_optu, z_srct, z_srcl, z_bopi, z_bopt, z_bopl, z_bopm, z_add, z_sub, z_mul, z_div, z_mod, z_pow, z_auga, z_augs, z_augd, z_eqii, z_eqss, z_eqbb, z_eqtt, z_eqll, z_ceq, z_cne, z_clt, z_cle, z_cgt, z_cge, z_cin, z_cni, z_int_t, z_trn, z_trb, z_tri, z_trt, z_trl, z_ixt, z_ixl, z_slt, z_sll, z_sls, z_lent, z_lenl, z_abs, z_max, z_min, z_toi, z_tob, z_tut, z_tul, z_lit, z_lil, z_any, z_all, z_sum, z_app, z_set, z_isn, z_isb, z_isi, z_iss, z_ist, z_isl, z_revl, isNon, atI_0, atI_1, atI_2, atI_3, ixN_1, ixN_2, ixN_3, List.map_cons, List.map_nil, List.length_cons, List.length_nil, List.replicate, List.cons_append, List.nil_append, List.append_nil, List.set_cons_zero, List.set_cons_succ, List.getElem?_cons_zero, List.getElem?_cons_succ, Nat.reduceAdd, Nat.reduceSub, Nat.reduceLT, Nat.reduceLeDiff, Nat.reduceEqDiff, Int.reduceNeg, Int.reduceAdd, Int.reduceSub, Int.reduceMul, Int.reducePow, Int.reduceToNat, Int.reduceLT, Int.reduceLE, Int.reduceEq, if_true, if_false, Bool.false_eq_true, decide_true, decide_false, true_and, and_true, Bool.not_true, Bool.not_false, List.set_nil, List.length_set, ne_eq, not_false_eq_true, reduceCtorEq, and_self, List.isEmpty_cons, List.isEmpty_nil, List.length_map, List.set_set, decide_eq_true_eq]
        cases r with
        | false =>
          have hb : badI n b t := ⟨by omega, Int.lt_of_not_ge fun h => Bool.false_ne_true (hr.2 h)⟩
          simp only [wpSs, wpS, wpE, wpEs, wpO, wpC, wpT, wpTg, wpTs, wpI, wipeU, startU, z_cell, z_slot, z_int, z_bl, z_tup, z_fn, z_optb, z_hN, z_hB, z_hC, z_hP, z_hK, z_lst, z_nil, z_cons, z_opt, z_optu, z_srct, z_srcl, z_bopi, z_bopt, z_bopl, z_bopm, z_add, z_sub, z_mul, z_div, z_mod, z_pow, z_auga, z_augs, z_augd, z_eqii, z_eqss, z_eqbb, z_eqtt, z_eqll, z_ceq, z_cne, z_clt, z_cle, z_cgt, z_cge, z_cin, z_cni, z_int_t, z_trn, z_trb, z_tri, z_trt, z_trl, z_ixt, z_ixl, z_slt, z_sll, z_sls, z_lent, z_lenl, z_abs, z_max, z_min, z_toi, z_tob, z_tut, z_tul, z_lit, z_lil, z_any, z_all, z_sum, z_app, z_set, z_isn, z_isb, z_isi, z_iss, z_ist, z_isl, z_revl, isNon, atI_0, atI_1, atI_2, atI_3, ixN_1, ixN_2, ixN_3, List.map_cons, List.map_nil, List.length_cons, List.length_nil, List.replicate, List.cons_append, List.nil_append, List.append_nil, List.set_cons_zero, List.set_cons_succ, List.getElem?_cons_zero, List.getElem?_cons_succ, Nat.reduceAdd, Nat.reduceSub, Nat.reduceLT, Nat.reduceLeDiff, Nat.reduceEqDiff, Int.reduceNeg, Int.reduceAdd, Int.reduceSub, Int.reduceMul, Int.reducePow, Int.reduceToNat, Int.reduceLT, Int.reduceLE, Int.reduceEq, if_true, if_false, Bool.false_eq_true, decide_true, decide_false, true_and, and_true, Bool.not_true, Bool.not_false, List.set_nil, List.length_set, ne_eq, not_false_eq_true, reduceCtorEq, and_self, List.isEmpty_cons, List.isEmpty_nil, List.length_map, List.set_set, decide_eq_true_eq]
          exact hQ false _ k1 ⟨(fun z => nomatch z), fun z => absurd hb (z t him).2⟩
        | true =>
          simp only [wpSs, wpS, wpE, wpEs, wpO, wpC, wpT, wpTg, wpTs, wpI, wipeU, startU, z_cell, z_slot, z_int, z_bl, z_tup, z_fn, z_optb, z_hN, z_hB, z_hC, z_hP, z_hK, z_lst, z_nil, z_cons, z_opt, z_optu, z_srct, z_srcl, z_bopi, z_bopt, z_bopl, z_bopm, z_add, z_sub, z_mul, z_div, z_mod, z_pow, z_auga, z_augs, z_augd, z_eqii, z_eqss, z_eqbb, z_eqtt, z_eqll, z_ceq, z_cne, z_clt, z_cle, z_cgt, z_cge, z_cin, z_cni, z_int_t, z_trn, z_trb, z_tri, z_trt, z_trl, z_ixt, z_ixl, z_slt, z_sll, z_sls, z_lent, z_lenl, z_abs, z_max, z_min, z_toi, z_tob, z_tut, z_tul, z_lit, z_lil, z_any, z_all, z_sum, z_app, z_set, z_isn, z_isb, z_isi, z_iss, z_ist, z_isl, z_revl, isNon, atI_0, atI_1, atI_2, atI_3, ixN_1, ixN_2, ixN_3, List.map_cons, List.map_nil, List.length_cons, List.length_nil, List.replicate, List.cons_append, List.nil_append, List.append_nil, List.set_cons_zero, List.set_cons_succ, List.getElem?_cons_zero, List.getElem?_cons_succ, Nat.reduceAdd, Nat.reduceSub, Nat.reduceLT, Nat.reduceLeDiff, Nat.reduceEqDiff, Int.reduceNeg, Int.reduceAdd, Int.reduceSub, Int.reduceMul, Int.reducePow, Int.reduceToNat, Int.reduceLT, Int.reduceLE, Int.reduceEq, if_true, if_false, Bool.false_eq_true, decide_true, decide_false, true_and, and_true, Bool.not_true, Bool.not_false, List.set_nil, List.length_set, ne_eq, not_false_eq_true, reduceCtorEq, and_self, List.isEmpty_cons, List.isEmpty_nil, List.length_map, List.set_set, decide_eq_true_eq]
          refine hk _ _ ⟨rfl, t + 1, him, hus, fun i2 h2 => ?_, _, _, _, _, rfl⟩
          by_cases e : i2 = t
          · rw [e]; exact ⟨hgk, fun z => absurd z.2 (Int.not_lt.2 (hr.1 rfl))⟩
          · exact hg i2 (by omega)
    · rintro u5 us5 σ S5 k5 ⟨rfl, t, ht, hu5, hgk, o4, o5, o6, rfl⟩ hk5
      obtain ⟨ht2, rfl, hus5⟩ := rng_drop hu5
      have et : (0 + (t : Int)) = t := by omega
      have g1 := mu_at (n := n) (b := b) him
      have g2 := mu_in (m := m) (n := n) (b := b) ht2
      have hl2 : S5[l]? = some (.lst [.tup [.int m, .int m, .tup ((List.range m).map (muRow m n b))], .tup (vecU m (sqs n (rb b)))]) := hl
      rw [et]
      have hmu : ∀ S Q, idxp (muRow m n b i) (.int t) S Q = Q (fr (cf n b i t)) S := fun S Q => by
        unfold muRow
        rw [z_ixt, g2, z_optu]
      simp only [wpSs, wpS, wpE, wpEs, wpO, wpC, wpT, wpTg, wpTs, wpI, wipeU, startU, z_cell, z_slot, z_int, z_bl, z_tup, z_fn, z_optb, z_hN, z_hB, z_hC, z_hP, z_hK, z_lst, z_nil, z_cons, z_opt, z_optu, z_srct, z_srcl, z_bopi, z_bopt, z_bopl, z_bopm, z_add, z_sub, z_mul, z_div, z_mod, z_pow, z_auga, z_augs, z_augd, z_eqii, z_eqss, z_eqbb, z_eqtt, z_eqll, z_ceq, z_cne, z_clt, z_cle, z_cgt, z_cge, z_cin, z_cni, z_int_t, z_trn, z_trb, z_tri, z_trt, z_trl, z_ixt, z_ixl, z_slt, z_sll, z_sls, z_lent, z_lenl, z_abs, z_max, z_min, z_toi, z_tob, z_tut, z_tul, z_lit, z_lil, z_any, z_all, z_sum, z_app, z_set, z_isn, z_isb, z_isi, z_iss, z_ist, z_isl, z_revl, isNon, atI_0, atI_1, atI_2, atI_3, ixN_1, ixN_2, ixN_3, List.map_cons, List.map_nil, List.length_cons, List.length_nil, List.replicate, List.cons_append, List.nil_append, List.append_nil, List.set_cons_zero, List.set_cons_succ, List.getElem?_cons_zero, List.getElem?_cons_succ, Nat.reduceAdd, Nat.reduceSub, Nat.reduceLT, Nat.reduceLeDiff, Nat.reduceEqDiff, Int.reduceNeg, Int.reduceAdd, Int.reduceSub, Int.reduceMul, Int.reducePow, Int.reduceToNat, Int.reduceLT, Int.reduceLE, Int.reduceEq, if_true, if_false, Bool.false_eq_true, decide_true, decide_false, true_and, and_true, Bool.not_true, Bool.not_false, List.set_nil, List.length_set, ne_eq, not_false_eq_true, reduceCtorEq, and_self, List.isEmpty_cons, List.isEmpty_nil, List.length_map, List.set_set, decide_eq_true_eq, hl2, g1, hmu, z_fr0, z_fr1]
      have smc : Sm (cf n b i t) := H.sm_coef him (by omega)
      have m1 : (Int.natAbs 2).log2 + (if (cf n b i t).num < 0 then -(cf n b i t).num else (cf n b i t).num).natAbs.log2 < 1000000 := by
        have h1 := lgB 100000 (by decide) smc.1
        have h2 : (Int.natAbs 2).log2 < 2 := by decide
        have h3 : (if (cf n b i t).num < 0 then -(cf n b i t).num else (cf n b i t).num).natAbs = (cf n b i t).num.natAbs := by split <;> omega
        rw [h3]
        omega
      refine ⟨m1, ?_⟩
      by_cases hb : ((cf n b i t).den : Int) < 2 * (if (cf n b i t).num < 0 then -(cf n b i t).num else (cf n b i t).num)
      · rw [if_pos hb]
        exact hQ false _ k1 ⟨(fun z => nomatch z), fun z => absurd hb ((z i him).1 t ht2)⟩
      · rw [if_neg hb]
        refine hk5 _ _ ⟨rfl, t + 1, ht2, hus5, fun k h => ?_, _, _, _, rfl⟩
        by_cases e : k = t
        · rw [e]; exact hb
        · exact hgk k (by omega)
/-- the squares of a basis are not zero -/
def spIsBas : FSpec := fun us S Q _ => ∃ (m n A0 : Nat) (b : Nat → Nat → Int), us = [zMat m n b] ∧ Bas m n b A0 ∧ ∀ (r : Bool) S2, All S S2 → (r = true ↔ ¬ Dep m n (rb b)) → Q (.bl r) S2
theorem w_law_is_basis (G : Gm) (hSq : Has G "_law_squares" spSq) : Pf G n_law_is_basis i_law_is_basis spIsBas := by
  rintro us S Q X ⟨m, n, A0, b, rfl, B, hQ⟩
  obtain ⟨sO, eO, hSq⟩ := hSq
  have hm := B.m6
  have hs2 : 2 ≤ sizeLine := by decide
  simp only [wpSs, wpS, wpE, wpEs, wpO, wpC, wpT, wpTg, wpTs, wpI, wipeU, startU, z_cell, z_slot, z_int, z_bl, z_tup, z_fn, z_optb, z_hN, z_hB, z_hC, z_hP, z_hK, z_lst, z_nil, z_cons, z_opt, z_optu, z_srct, z_srcl, z_bopi, z_bopt, z_bopl, z_bopm, z_add, z_sub, z_mul, z_div, z_mod, z_pow, z_auga, z_augs, z_augd, z_eqii, z_eqss, z_eqbb, z_eqtt, z_eqll, z_ceq, z_cne, z_clt, z_cle, z_cgt, z_cge, z_cin, z_cni, z_int_t, z_trn, z_trb, z_tri, z_trt, z_trl, z_ixt, z_ixl, z_slt, z_sll, z_sls, z_lent, z_lenl, z_abs, z_max, z_min, z_toi, z_tob, z_tut, z_tul, z_lit, z_lil, z_any, z_all, z_sum, z_app, z_set, z_isn, z_isb, z_isi, z_iss, z_ist, z_isl, z_revl, isNon, atI_0, atI_1, atI_2, atI_3, ixN_1, ixN_2, ixN_3, List.map_cons, List.map_nil, List.length_cons, List.length_nil, List.replicate, List.cons_append, List.nil_append, List.append_nil, List.set_cons_zero, List.set_cons_succ, List.getElem?_cons_zero, List.getElem?_cons_succ, Nat.reduceAdd, Nat.reduceSub, Nat.reduceLT, Nat.reduceLeDiff, Nat.reduceEqDiff, Int.reduceNeg, Int.reduceAdd, Int.reduceSub, Int.reduceMul, Int.reducePow, Int.reduceToNat, Int.reduceLT, Int.reduceLE, Int.reduceEq, if_true, if_false, Bool.false_eq_true, decide_true, decide_false, true_and, and_true, Bool.not_true, Bool.not_false, List.set_nil, List.length_set, ne_eq, not_false_eq_true, reduceCtorEq, and_self, List.isEmpty_cons, List.isEmpty_nil, List.length_map, List.set_set, decide_eq_true_eq, n_law_is_basis, i_law_is_basis, eO, hs2]
  refine hSq _ _ _ _ ⟨m, n, A0, b, rfl, B, fun l S1 hl k1 _ => ?_⟩
  have hl2 : S1[l]? = some (.lst [muU m n b, .tup (vecU m (sqs n (rb b)))]) := hl
  simp only [wpSs, wpS, wpE, wpEs, wpO, wpC, wpT, wpTg, wpTs, wpI, wipeU, startU, z_cell, z_slot, z_int, z_bl, z_tup, z_fn, z_optb, z_hN, z_hB, z_hC, z_hP, z_hK, z_lst, z_nil, z_cons, z_opt, z_optu, z_srct, z_srcl, z_bopi, z_bopt, z_bopl, z_bopm, z_add, z_sub, z_mul, z_div, z_mod, z_pow, z_auga, z_augs, z_augd, z_eqii, z_eqss, z_eqbb, z_eqtt, z_eqll, z_ceq, z_cne, z_clt, z_cle, z_cgt, z_cge, z_cin, z_cni, z_int_t, z_trn, z_trb, z_tri, z_trt, z_trl, z_ixt, z_ixl, z_slt, z_sll, z_sls, z_lent, z_lenl, z_abs, z_max, z_min, z_toi, z_tob, z_tut, z_tul, z_lit, z_lil, z_any, z_all, z_sum, z_app, z_set, z_isn, z_isb, z_isi, z_iss, z_ist, z_isl, z_revl, isNon, atI_0, atI_1, atI_2, atI_3, ixN_1, ixN_2, ixN_3, List.map_cons, List.map_nil, List.length_cons, List.length_nil, List.replicate, List.cons_append, List.nil_append, List.append_nil, List.set_cons_zero, List.set_cons_succ, List.getElem?_cons_zero, List.getElem?_cons_succ, Nat.reduceAdd, Nat.reduceSub, Nat.reduceLT, Nat.reduceLeDiff, Nat.reduceEqDiff, Int.reduceNeg, Int.reduceAdd, Int.reduceSub, Int.reduceMul, Int.reducePow, Int.reduceToNat, Int.reduceLT, Int.reduceLE, Int.reduceEq, if_true, if_false, Bool.false_eq_true, decide_true, decide_false, true_and, and_true, Bool.not_true, Bool.not_false, List.set_nil, List.length_set, ne_eq, not_false_eq_true, reduceCtorEq, and_self, List.isEmpty_cons, List.isEmpty_nil, List.length_map, List.set_set, decide_eq_true_eq, hl2]
  refine lcL_ind (fun us acc S5 => S5 = S1 ∧ ∃ t : Nat, t ≤ m ∧ us = (vecU m (sqs n (rb b))).drop t ∧ acc = (List.range t).map fun k => U.bl (!(decide (sqs n (rb b) k = 0)))) ?_ ?_ ?_ _ _ _ ⟨rfl, 0, by omega, rfl, rfl⟩
  · intros; trivial
  · rintro acc S5 ⟨rfl, t, ht, hu, rfl⟩
    obtain rfl := map_end hu ht
    have hb : ∀ l : List Nat, blsU (l.map fun k => U.bl (!(decide (sqs n (rb b) k = 0)))) = some (l.map fun k => !(decide (sqs n (rb b) k = 0))) := fun l => by
      induction l with
      | nil => rfl
      | cons x xs ih => simp only [List.map_cons, blsU, ih]; rfl
    simp only [wpSs, wpS, wpE, wpEs, wpO, wpC, wpT, wpTg, wpTs, wpI, wipeU, startU, z_cell, z_slot, z_int, z_bl, z_tup, z_fn, z_optb, z_hN, z_hB, z_hC, z_hP, z_hK, z_lst, z_nil, z_cons, z_opt, z_optu, z_srct, z_srcl, z_bopi, z_bopt, z_bopl, z_bopm, z_add, z_sub, z_mul, z_div, z_mod, z_pow, z_auga, z_augs, z_augd, z_eqii, z_eqss, z_eqbb, z_eqtt, z_eqll, z_ceq, z_cne, z_clt, z_cle, z_cgt, z_cge, z_cin, z_cni, z_int_t, z_trn, z_trb, z_tri, z_trt, z_trl, z_ixt, z_ixl, z_slt, z_sll, z_sls, z_lent, z_lenl, z_abs, z_max, z_min, z_toi, z_tob, z_tut, z_tul, z_lit, z_lil, z_any, z_all, z_sum, z_app, z_set, z_isn, z_isb, z_isi, z_iss, z_ist, z_isl, z_revl, isNon, atI_0, atI_1, atI_2, atI_3, ixN_1, ixN_2, ixN_3, List.map_cons, List.map_nil, List.length_cons, List.length_nil, List.replicate, List.cons_append, List.nil_append, List.append_nil, List.set_cons_zero, List.set_cons_succ, List.getElem?_cons_zero, List.getElem?_cons_succ, Nat.reduceAdd, Nat.reduceSub, Nat.reduceLT, Nat.reduceLeDiff, Nat.reduceEqDiff, Int.reduceNeg, Int.reduceAdd, Int.reduceSub, Int.reduceMul, Int.reducePow, Int.reduceToNat, Int.reduceLT, Int.reduceLE, Int.reduceEq, if_true, if_false, Bool.false_eq_true, decide_true, decide_false, true_and, and_true, Bool.not_true, Bool.not_false, List.set_nil, List.length_set, ne_eq, not_false_eq_true, reduceCtorEq, and_self, List.isEmpty_cons, List.isEmpty_nil, List.length_map, List.set_set, decide_eq_true_eq, List.getElem?_concat_length, hb]
    refine hQ _ _ (k1.push _) ?_
    rw [dep_iff]
    simp only [List.all_map, List.all_eq_true, List.mem_range, Function.comp, id, Bool.not_eq_true', decide_eq_false_iff_not]
    constructor
    · rintro h ⟨k, hk, hz⟩
      exact h k hk hz
    · intro h k hk hz
      exact h ⟨k, hk, hz⟩
  · rintro z us acc S5 k5 ⟨rfl, t, ht, hu, rfl⟩ ks kn
    obtain ⟨ht2, rfl, hus⟩ := map_drop hu
    rw [← fr_0, z_eqfr]
    refine ks _ _ (by simp; exact Nat.lt_of_lt_of_le (show t < 7 by omega) (by decide)) ⟨rfl, t + 1, ht2, hus, ?_⟩
    rw [List.range_succ, List.map_append]; rfl
def spTold : FSpec := fun us S Q _ => ∃ (m n A0 : Nat) (b : Nat → Nat → Int), us = [zMat m n b] ∧ Bas m n b A0 ∧ (¬ Dep m n (rb b) → ∀ S2, All S S2 → Q (.tup [muU m n b, sqU m n b]) S2) ∧ (Dep m n (rb b) → ∀ S2, All S S2 → Q .non S2)
theorem w_law_told (G : Gm) (hO : Has G "orthogonal" spOrth) (hE : G.exm "SingularError" "SingularError" = some true) : Pf G n_law_told i_law_told spTold := by
  rintro us S Q X ⟨m, n, A0, b, rfl, B, h1, h2⟩
  obtain ⟨sO, eO, hO⟩ := hO
  simp only [wpSs, wpS, wpE, wpEs, wpO, wpC, wpT, wpTg, wpTs, wpI, wipeU, startU, z_cell, z_slot, z_int, z_bl, z_tup, z_fn, z_optb, z_hN, z_hB, z_hC, z_hP, z_hK, z_lst, z_nil, z_cons, z_opt, z_optu, z_srct, z_srcl, z_bopi, z_bopt, z_bopl, z_bopm, z_add, z_sub, z_mul, z_div, z_mod, z_pow, z_auga, z_augs, z_augd, z_eqii, z_eqss, z_eqbb, z_eqtt, z_eqll, z_ceq, z_cne, z_clt, z_cle, z_cgt, z_cge, z_cin, z_cni, z_int_t, z_trn, z_trb, z_tri, z_trt, z_trl, z_ixt, z_ixl, z_slt, z_sll, z_sls, z_lent, z_lenl, z_abs, z_max, z_min, z_toi, z_tob, z_tut, z_tul, z_lit, z_lil, z_any, z_all, z_sum, z_app, z_set, z_isn, z_isb, z_isi, z_iss, z_ist, z_isl, z_revl, isNon, atI_0, atI_1, atI_2, atI_3, ixN_1, ixN_2, ixN_3, List.map_cons, List.map_nil, List.length_cons, List.length_nil, List.replicate, List.cons_append, List.nil_append, List.append_nil, List.set_cons_zero, List.set_cons_succ, List.getElem?_cons_zero, List.getElem?_cons_succ, Nat.reduceAdd, Nat.reduceSub, Nat.reduceLT, Nat.reduceLeDiff, Nat.reduceEqDiff, Int.reduceNeg, Int.reduceAdd, Int.reduceSub, Int.reduceMul, Int.reducePow, Int.reduceToNat, Int.reduceLT, Int.reduceLE, Int.reduceEq, if_true, if_false, Bool.false_eq_true, decide_true, decide_false, true_and, and_true, Bool.not_true, Bool.not_false, List.set_nil, List.length_set, ne_eq, not_false_eq_true, reduceCtorEq, and_self, List.isEmpty_cons, List.isEmpty_nil, List.length_map, List.set_set, decide_eq_true_eq, n_law_told, i_law_told, eO]
  refine hO _ _ _ _ ⟨m, n, A0, b, rfl, B, fun hn S2 k2 => ?_, fun hd S2 k2 => ?_⟩
  · simp only [wpSs, wpS, wpE, wpEs, wpO, wpC, wpT, wpTg, wpTs, wpI, wipeU, startU, z_cell, z_slot, z_int, z_bl, z_tup, z_fn, z_optb, z_hN, z_hB, z_hC, z_hP, z_hK, z_lst, z_nil, z_cons, z_opt, z_optu, z_srct, z_srcl, z_bopi, z_bopt, z_bopl, z_bopm, z_add, z_sub, z_mul, z_div, z_mod, z_pow, z_auga, z_augs, z_augd, z_eqii, z_eqss, z_eqbb, z_eqtt, z_eqll, z_ceq, z_cne, z_clt, z_cle, z_cgt, z_cge, z_cin, z_cni, z_int_t, z_trn, z_trb, z_tri, z_trt, z_trl, z_ixt, z_ixl, z_slt, z_sll, z_sls, z_lent, z_lenl, z_abs, z_max, z_min, z_toi, z_tob, z_tut, z_tul, z_lit, z_lil, z_any, z_all, z_sum, z_app, z_set, z_isn, z_isb, z_isi, z_iss, z_ist, z_isl, z_revl, isNon, atI_0, atI_1, atI_2, atI_3, ixN_1, ixN_2, ixN_3, List.map_cons, List.map_nil, List.length_cons, List.length_nil, List.replicate, List.cons_append, List.nil_append, List.append_nil, List.set_cons_zero, List.set_cons_succ, List.getElem?_cons_zero, List.getElem?_cons_succ, Nat.reduceAdd, Nat.reduceSub, Nat.reduceLT, Nat.reduceLeDiff, Nat.reduceEqDiff, Int.reduceNeg, Int.reduceAdd, Int.reduceSub, Int.reduceMul, Int.reducePow, Int.reduceToNat, Int.reduceLT, Int.reduceLE, Int.reduceEq, if_true, if_false, Bool.false_eq_true, decide_true, decide_false, true_and, and_true, Bool.not_true, Bool.not_false, List.set_nil, List.length_set, ne_eq, not_false_eq_true, reduceCtorEq, and_self, List.isEmpty_cons, List.isEmpty_nil, List.length_map, List.set_set, decide_eq_true_eq]
    exact h1 hn _ k2
  · simp only [wpSs, wpS, wpE, wpEs, wpO, wpC, wpT, wpTg, wpTs, wpI, wipeU, startU, z_cell, z_slot, z_int, z_bl, z_tup, z_fn, z_optb, z_hN, z_hB, z_hC, z_hP, z_hK, z_lst, z_nil, z_cons, z_opt, z_optu, z_srct, z_srcl, z_bopi, z_bopt, z_bopl, z_bopm, z_add, z_sub, z_mul, z_div, z_mod, z_pow, z_auga, z_augs, z_augd, z_eqii, z_eqss, z_eqbb, z_eqtt, z_eqll, z_ceq, z_cne, z_clt, z_cle, z_cgt, z_cge, z_cin, z_cni, z_int_t, z_trn, z_trb, z_tri, z_trt, z_trl, z_ixt, z_ixl, z_slt, z_sll, z_sls, z_lent, z_lenl, z_abs, z_max, z_min, z_toi, z_tob, z_tut, z_tul, z_lit, z_lil, z_any, z_all, z_sum, z_app, z_set, z_isn, z_isb, z_isi, z_iss, z_ist, z_isl, z_revl, isNon, atI_0, atI_1, atI_2, atI_3, ixN_1, ixN_2, ixN_3, List.map_cons, List.map_nil, List.length_cons, List.length_nil, List.replicate, List.cons_append, List.nil_append, List.append_nil, List.set_cons_zero, List.set_cons_succ, List.getElem?_cons_zero, List.getElem?_cons_succ, Nat.reduceAdd, Nat.reduceSub, Nat.reduceLT, Nat.reduceLeDiff, Nat.reduceEqDiff, Int.reduceNeg, Int.reduceAdd, Int.reduceSub, Int.reduceMul, Int.reducePow, Int.reduceToNat, Int.reduceLT, Int.reduceLE, Int.reduceEq, if_true, if_false, Bool.false_eq_true, decide_true, decide_false, true_and, and_true, Bool.not_true, Bool.not_false, List.set_nil, List.length_set, ne_eq, not_false_eq_true, reduceCtorEq, and_self, List.isEmpty_cons, List.isEmpty_nil, List.length_map, List.set_set, decide_eq_true_eq, hE]
    exact h2 hd _ k2
def spLRef : FSpec := fun us S Q _ => ∃ (m n A0 : Nat) (b : Nat → Nat → Int), us = [zMat m n b] ∧ Bas m n b A0 ∧ Dep m n (rb b) ∧ ∀ S2, All S S2 → Q (.bl true) S2
theorem w_law_refused (G : Gm) (hO : Has G "is_reduced" spRed) (hE : G.exm "SingularError" "SingularError" = some true) : Pf G n_law_refused i_law_refused spLRef := by
  rintro us S Q X ⟨m, n, A0, b, rfl, B, hd, h2⟩
  obtain ⟨sO, eO, hO⟩ := hO
  simp only [wpSs, wpS, wpE, wpEs, wpO, wpC, wpT, wpTg, wpTs, wpI, wipeU, startU, z_cell, z_slot, z_int, z_bl, z_tup, z_fn, z_optb, z_hN, z_hB, z_hC, z_hP, z_hK, z_lst, z_nil, z_cons, z_opt, z_optu, z_srct, z_srcl, z_bopi, z_bopt, z_bopl, z_bopm, z_add, z_sub, z_mul, z_div, z_mod, z_pow, z_auga, z_augs, z_augd, z_eqii, z_eqss, z_eqbb, z_eqtt, z_eqll, z_ceq, z_cne, z_clt, z_cle, z_cgt, z_cge, z_cin, z_cni, z_int_t, z_trn, z_trb, z_tri, z_trt, z_trl, z_ixt, z_ixl, z_slt, z_sll, z_sls, z_lent, z_lenl, z_abs, z_max, z_min, z_toi, z_tob, z_tut, z_tul, z_lit, z_lil, z_any, z_all, z_sum, z_app, z_set, z_isn, z_isb, z_isi, z_iss, z_ist, z_isl, z_revl, isNon, atI_0, atI_1, atI_2, atI_3, ixN_1, ixN_2, ixN_3, List.map_cons, List.map_nil, List.length_cons, List.length_nil, List.replicate, List.cons_append, List.nil_append, List.append_nil, List.set_cons_zero, List.set_cons_succ, List.getElem?_cons_zero, List.getElem?_cons_succ, Nat.reduceAdd, Nat.reduceSub, Nat.reduceLT, Nat.reduceLeDiff, Nat.reduceEqDiff, Int.reduceNeg, Int.reduceAdd, Int.reduceSub, Int.reduceMul, Int.reducePow, Int.reduceToNat, Int.reduceLT, Int.reduceLE, Int.reduceEq, if_true, if_false, Bool.false_eq_true, decide_true, decide_false, true_and, and_true, Bool.not_true, Bool.not_false, List.set_nil, List.length_set, ne_eq, not_false_eq_true, reduceCtorEq, and_self, List.isEmpty_cons, List.isEmpty_nil, List.length_map, List.set_set, decide_eq_true_eq, n_law_refused, i_law_refused, eO]
  refine hO _ _ _ _ ⟨m, n, A0, b, rfl, B, fun hn => absurd hd hn, fun hd S2 k2 => ?_⟩
  simp only [wpSs, wpS, wpE, wpEs, wpO, wpC, wpT, wpTg, wpTs, wpI, wipeU, startU, z_cell, z_slot, z_int, z_bl, z_tup, z_fn, z_optb, z_hN, z_hB, z_hC, z_hP, z_hK, z_lst, z_nil, z_cons, z_opt, z_optu, z_srct, z_srcl, z_bopi, z_bopt, z_bopl, z_bopm, z_add, z_sub, z_mul, z_div, z_mod, z_pow, z_auga, z_augs, z_augd, z_eqii, z_eqss, z_eqbb, z_eqtt, z_eqll, z_ceq, z_cne, z_clt, z_cle, z_cgt, z_cge, z_cin, z_cni, z_int_t, z_trn, z_trb, z_tri, z_trt, z_trl, z_ixt, z_ixl, z_slt, z_sll, z_sls, z_lent, z_lenl, z_abs, z_max, z_min, z_toi, z_tob, z_tut, z_tul, z_lit, z_lil, z_any, z_all, z_sum, z_app, z_set, z_isn, z_isb, z_isi, z_iss, z_ist, z_isl, z_revl, isNon, atI_0, atI_1, atI_2, atI_3, ixN_1, ixN_2, ixN_3, List.map_cons, List.map_nil, List.length_cons, List.length_nil, List.replicate, List.cons_append, List.nil_append, List.append_nil, List.set_cons_zero, List.set_cons_succ, List.getElem?_cons_zero, List.getElem?_cons_succ, Nat.reduceAdd, Nat.reduceSub, Nat.reduceLT, Nat.reduceLeDiff, Nat.reduceEqDiff, Int.reduceNeg, Int.reduceAdd, Int.reduceSub, Int.reduceMul, Int.reducePow, Int.reduceToNat, Int.reduceLT, Int.reduceLE, Int.reduceEq, if_true, if_false, Bool.false_eq_true, decide_true, decide_false, true_and, and_true, Bool.not_true, Bool.not_false, List.set_nil, List.length_set, ne_eq, not_false_eq_true, reduceCtorEq, and_self, List.isEmpty_cons, List.isEmpty_nil, List.length_map, List.set_set, decide_eq_true_eq, hE]
  exact h2 _ k2
/-! ### exact values -/
def spWhole : FSpec := fun us S Q _ => ∃ i : Int, us = [.int i] ∧ Q (.bl true) S
theorem t_ib : (("int" : String) == "bool") = false := by decide
theorem t_it : (("tuple" : String) == "int") = false := by decide
theorem t_is : (("int" : String) == "str") = false := by decide
theorem t_bb : (("bool" : String) == "bool") = true := by decide
theorem t_si : (("str" : String) == "int") = false := by decide
theorem t_bi : (("bool" : String) == "int") = false := by decide
theorem w_law_whole (G : Gm) : Pf G n_law_whole i_law_whole spWhole := by
  rintro us S Q X ⟨i, rfl, hQ⟩
  simp only [wpSs, wpS, wpE, wpEs, wpO, wpC, wpT, wpTg, wpTs, wpI, wipeU, startU, z_cell, z_slot, z_int, z_bl, z_tup, z_fn, z_optb, z_hN, z_hB, z_hC, z_hP, z_hK, z_lst, z_nil, z_cons, z_opt, z_optu, z_srct, z_srcl, z_bopi, z_bopt, z_bopl, z_bopm, z_add, z_sub, z_mul, z_div, z_mod, z_pow, z_auga, z_augs, z_augd, z_eqii, z_eqss, z_eqbb, z_eqtt, z_eqll, z_ceq, z_cne, z_clt, z_cle, z_cgt, z_cge, z_cin, z_cni, z_int_t, z_trn, z_trb, z_tri, z_trt, z_trl, z_ixt, z_ixl, z_slt, z_sll, z_sls, z_lent, z_lenl, z_abs, z_max, z_min, z_toi, z_tob, z_tut, z_tul, z_lit, z_lil, z_any, z_all, z_sum, z_app, z_set, z_isn, z_isb, z_isi, z_iss, z_ist, z_isl, z_revl, isNon, atI_0, atI_1, atI_2, atI_3, ixN_1, ixN_2, ixN_3, List.map_cons, List.map_nil, List.length_cons, List.length_nil, List.replicate, List.cons_append, List.nil_append, List.append_nil, List.set_cons_zero, List.set_cons_succ, List.getElem?_cons_zero, List.getElem?_cons_succ, Nat.reduceAdd, Nat.reduceSub, Nat.reduceLT, Nat.reduceLeDiff, Nat.reduceEqDiff, Int.reduceNeg, Int.reduceAdd, Int.reduceSub, Int.reduceMul, Int.reducePow, Int.reduceToNat, Int.reduceLT, Int.reduceLE, Int.reduceEq, if_true, if_false, Bool.false_eq_true, decide_true, decide_false, true_and, and_true, Bool.not_true, Bool.not_false, List.set_nil, List.length_set, ne_eq, not_false_eq_true, reduceCtorEq, and_self, List.isEmpty_cons, List.isEmpty_nil, List.length_map, List.set_set, decide_eq_true_eq, n_law_whole, i_law_whole, t_ii, t_bi]
  exact hQ
def exa : Nat → U → Prop
  | _, .int _ => True
  | d + 1, .tup l => l.length ≤ 1000 ∧ ∀ x ∈ l, exa d x
  | _, _ => False
def spExact (d : Nat) : FSpec := fun us S Q _ => ∃ u, us = [u] ∧ exa d u ∧ ∀ S2, All S S2 → Q (.bl true) S2
theorem w_law_exact (G : Gm) (d : Nat) (hW : Has G "_law_whole" spWhole) (hR : ∀ e, d = e + 1 → Has G "_law_exact" (spExact e)) : Pf G n_law_exact i_law_exact (spExact d) := by
  rintro us S Q X ⟨u, rfl, hu, hQ⟩
  obtain ⟨sW, eW, hW⟩ := hW
  cases u with
  | int i =>
    simp only [wpSs, wpS, wpE, wpEs, wpO, wpC, wpT, wpTg, wpTs, wpI, wipeU, startU, z_cell, z_slot, z_int, z_bl, z_tup, z_fn, z_optb, z_hN, z_hB, z_hC, z_hP, z_hK, z_lst, z_nil, z_cons, z_opt, z_optu, z_srct, z_srcl, z_bopi, z_bopt, z_bopl, z_bopm, z_add, z_sub, z_mul, z_div, z_mod, z_pow, z_auga, z_augs, z_augd, z_eqii, z_eqss, z_eqbb, z_eqtt, z_eqll, z_ceq, z_cne, z_clt, z_cle, z_cgt, z_cge, z_cin, z_cni, z_int_t, z_trn, z_trb, z_tri, z_trt, z_trl, z_ixt, z_ixl, z_slt, z_sll, z_sls, z_lent, z_lenl, z_abs, z_max, z_min, z_toi, z_tob, z_tut, z_tul, z_lit, z_lil, z_any, z_all, z_sum, z_app, z_set, z_isn, z_isb, z_isi, z_iss, z_ist, z_isl, z_revl, isNon, atI_0, atI_1, atI_2, atI_3, ixN_1, ixN_2, ixN_3, List.map_cons, List.map_nil, List.length_cons, List.length_nil, List.replicate, List.cons_append, List.nil_append, List.append_nil, List.set_cons_zero, List.set_cons_succ, List.getElem?_cons_zero, List.getElem?_cons_succ, Nat.reduceAdd, Nat.reduceSub, Nat.reduceLT, Nat.reduceLeDiff, Nat.reduceEqDiff, Int.reduceNeg, Int.reduceAdd, Int.reduceSub, Int.reduceMul, Int.reducePow, Int.reduceToNat, Int.reduceLT, Int.reduceLE, Int.reduceEq, if_true, if_false, Bool.false_eq_true, decide_true, decide_false, true_and, and_true, Bool.not_true, Bool.not_false, List.set_nil, List.length_set, ne_eq, not_false_eq_true, reduceCtorEq, and_self, List.isEmpty_cons, List.isEmpty_nil, List.length_map, List.set_set, decide_eq_true_eq, n_law_exact, i_law_exact, t_it, t_is, eW]
    exact hW _ _ _ _ ⟨i, rfl, hQ _ (Keep.refl _ _)⟩
  | tup l =>
    cases d with
    | zero => exact hu.elim
    | succ d =>
      obtain ⟨sR, eR, hR⟩ := hR d rfl
      obtain ⟨hll, hu⟩ : l.length ≤ 1000 ∧ ∀ x ∈ l, exa d x := hu
      simp only [wpSs, wpS, wpE, wpEs, wpO, wpC, wpT, wpTg, wpTs, wpI, wipeU, startU, z_cell, z_slot, z_int, z_bl, z_tup, z_fn, z_optb, z_hN, z_hB, z_hC, z_hP, z_hK, z_lst, z_nil, z_cons, z_opt, z_optu, z_srct, z_srcl, z_bopi, z_bopt, z_bopl, z_bopm, z_add, z_sub, z_mul, z_div, z_mod, z_pow, z_auga, z_augs, z_augd, z_eqii, z_eqss, z_eqbb, z_eqtt, z_eqll, z_ceq, z_cne, z_clt, z_cle, z_cgt, z_cge, z_cin, z_cni, z_int_t, z_trn, z_trb, z_tri, z_trt, z_trl, z_ixt, z_ixl, z_slt, z_sll, z_sls, z_lent, z_lenl, z_abs, z_max, z_min, z_toi, z_tob, z_tut, z_tul, z_lit, z_lil, z_any, z_all, z_sum, z_app, z_set, z_isn, z_isb, z_isi, z_iss, z_ist, z_isl, z_revl, isNon, atI_0, atI_1, atI_2, atI_3, ixN_1, ixN_2, ixN_3, List.map_cons, List.map_nil, List.length_cons, List.length_nil, List.replicate, List.cons_append, List.nil_append, List.append_nil, List.set_cons_zero, List.set_cons_succ, List.getElem?_cons_zero, List.getElem?_cons_succ, Nat.reduceAdd, Nat.reduceSub, Nat.reduceLT, Nat.reduceLeDiff, Nat.reduceEqDiff, Int.reduceNeg, Int.reduceAdd, Int.reduceSub, Int.reduceMul, Int.reducePow, Int.reduceToNat, Int.reduceLT, Int.reduceLE, Int.reduceEq, if_true, if_false, Bool.false_eq_true, decide_true, decide_false, true_and, and_true, Bool.not_true, Bool.not_false, List.set_nil, List.length_set, ne_eq, not_false_eq_true, reduceCtorEq, and_self, List.isEmpty_cons, List.isEmpty_nil, List.length_map, List.set_set, decide_eq_true_eq, n_law_exact, i_law_exact, t_tt, eR]
      refine lcL_ind (fun us acc S4 => All S S4 ∧ ∃ t : Nat, t ≤ l.length ∧ us = l.drop t ∧ acc = List.replicate t (U.bl true)) ?_ ?_ ?_ _ _ _ ⟨Keep.refl _ _, 0, by omega, rfl, rfl⟩
      · intros; trivial
      · rintro acc S4 ⟨k4, t, ht, hus, rfl⟩
        have hb : ∀ t, blsU (List.replicate t (U.bl true)) = some (List.replicate t true) := fun t => by
          induction t with
          | zero => rfl
          | succ t ih => rw [List.replicate_succ, blsU, ih]; rfl
        have ha : (List.replicate t true).all id = true := by
          rw [List.all_eq_true]
          intro x hx
          rw [(List.mem_replicate.1 hx).2]; rfl
        simp only [wpSs, wpS, wpE, wpEs, wpO, wpC, wpT, wpTg, wpTs, wpI, wipeU, startU, z_cell, z_slot, z_int, z_bl, z_tup, z_fn, z_optb, z_hN, z_hB, z_hC, z_hP, z_hK, z_lst, z_nil, z_cons, z_opt, z_optu, z_srct, z_srcl, z_bopi, z_bopt, z_bopl, z_bopm, z_add, z_sub, z_mul, z_div, z_mod, z_pow, z_auga, z_augs, z_augd, z_eqii, z_eqss, z_eqbb, z_eqtt, z_eqll, z_ceq, z_cne, z_clt, z_cle, z_cgt, z_cge, z_cin, z_cni, z_int_t, z_trn, z_trb, z_tri, z_trt, z_trl, z_ixt, z_ixl, z_slt, z_sll, z_sls, z_lent, z_lenl, z_abs, z_max, z_min, z_toi, z_tob, z_tut, z_tul, z_lit, z_lil, z_any, z_all, z_sum, z_app, z_set, z_isn, z_isb, z_isi, z_iss, z_ist, z_isl, z_revl, isNon, atI_0, atI_1, atI_2, atI_3, ixN_1, ixN_2, ixN_3, List.map_cons, List.map_nil, List.length_cons, List.length_nil, List.replicate, List.cons_append, List.nil_append, List.append_nil, List.set_cons_zero, List.set_cons_succ, List.getElem?_cons_zero, List.getElem?_cons_succ, Nat.reduceAdd, Nat.reduceSub, Nat.reduceLT, Nat.reduceLeDiff, Nat.reduceEqDiff, Int.reduceNeg, Int.reduceAdd, Int.reduceSub, Int.reduceMul, Int.reducePow, Int.reduceToNat, Int.reduceLT, Int.reduceLE, Int.reduceEq, if_true, if_false, Bool.false_eq_true, decide_true, decide_false, true_and, and_true, Bool.not_true, Bool.not_false, List.set_nil, List.length_set, ne_eq, not_false_eq_true, reduceCtorEq, and_self, List.isEmpty_cons, List.isEmpty_nil, List.length_map, List.set_set, decide_eq_true_eq, List.getElem?_concat_length, hb, ha]
        exact hQ _ (k4.push _)
      · rintro x us acc S4 k5 ⟨k4, t, ht, hus, rfl⟩ ks kn
        have ht2 : t < l.length := by
          apply Nat.lt_of_not_le
          intro hh
          rw [List.drop_eq_nil_of_le hh] at hus
          cases hus
        rw [List.drop_eq_getElem_cons ht2] at hus
        injection hus with e1 e2
        refine hR _ _ _ _ ⟨x, rfl, hu x (by rw [e1]; exact List.getElem_mem _), fun S5 k5' => ?_⟩
        exact ks _ _ (by rw [List.length_replicate]; exact Nat.lt_of_lt_of_le (show t < 1001 by omega) (by decide)) ⟨k4.trans k5', t + 1, ht2, e2, by rw [List.replicate_succ']⟩
  | _ => cases d <;> exact False.elim hu
theorem exa_fr (q : Rat) : exa 1 (fr q) := by
  refine ⟨show 2 ≤ 1000 by decide, fun x hx => ?_⟩
  rcases List.mem_cons.1 hx with rfl | hx
  · exact trivial
  · rw [List.mem_singleton.1 hx]; exact trivial
theorem exa_vec {n : Nat} (u : Nat → Rat) (hn : n ≤ 1000) : exa 2 (.tup (vecU n u)) := by
  refine ⟨by rw [vec_len]; exact hn, fun x hx => ?_⟩
  obtain ⟨j, _, rfl⟩ := List.mem_map.1 hx
  exact exa_fr _
theorem exa_succ : ∀ (d : Nat) (u : U), exa d u → exa (d + 1) u
  | 0, .int _, _ => trivial
  | d + 1, .int _, _ => trivial
  | 0, .tup l, h => False.elim h
  | d + 1, .tup l, h => ⟨h.1, fun x hx => exa_succ d x (h.2 x hx)⟩
  | 0, .non, h => False.elim h
  | 0, .bl _, h => False.elim h
  | 0, .str _, h => False.elim h
  | 0, .lst _, h => False.elim h
  | 0, .fn _, h => False.elim h
  | 0, .cls _, h => False.elim h
  | 0, .ty _, h => False.elim h
  | 0, .scr _, h => False.elim h
  | d + 1, .non, h => False.elim h
  | d + 1, .bl _, h => False.elim h
  | d + 1, .str _, h => False.elim h
  | d + 1, .lst _, h => False.elim h
  | d + 1, .fn _, h => False.elim h
  | d + 1, .cls _, h => False.elim h
  | d + 1, .ty _, h => False.elim h
  | d + 1, .scr _, h => False.elim h
theorem exa_row {m n : Nat} {b : Nat → Nat → Int} {i : Nat} (hm : m ≤ 6) (hi : i < m) : exa 2 (muRow m n b i) := by
  refine ⟨by rw [List.length_append, List.length_append, vec_len, List.length_replicate]; simp; omega, fun x hx => ?_⟩
  rcases List.mem_append.1 hx with hx | hx
  · rcases List.mem_append.1 hx with hx | hx
    · obtain ⟨j, _, rfl⟩ := List.mem_map.1 hx
      exact exa_fr _
    · rw [List.mem_singleton.1 hx]; exact exa_fr _
  · rw [(List.mem_replicate.1 hx).2]; exact exa_fr _
theorem exa_told {m n : Nat} {b : Nat → Nat → Int} (hm : m ≤ 6) : exa 5 (.tup [muU m n b, sqU m n b]) := by
  refine ⟨show 2 ≤ 1000 by decide, fun x hx => ?_⟩
  rcases List.mem_cons.1 hx with rfl | hx
  · refine ⟨show 3 ≤ 1000 by decide, fun y hy => ?_⟩
    rcases List.mem_cons.1 hy with rfl | hy
    · exact trivial
    · rcases List.mem_cons.1 hy with rfl | hy
      · exact trivial
      · rw [List.mem_singleton.1 hy]
        refine ⟨by simp; omega, fun z hz => ?_⟩
        obtain ⟨j, hj, rfl⟩ := List.mem_map.1 hz
        exact exa_row hm (List.mem_range.1 hj)
  · rw [List.mem_singleton.1 hx]
    exact exa_succ 3 _ (exa_succ 2 _ (exa_vec _ (by omega)))
/-! ### what the law builds -/
def Ent (b : Nat → Nat → Int) (c : Nat) : Prop := ∀ i j, -(c : Int) ≤ b i j ∧ b i j ≤ c
theorem ent_sq {n c : Nat} {b : Nat → Nat → Int} (h : Ent b c) (i : Nat) : dot n (fun j => (b i j : Rat)) (fun j => (b i j : Rat)) ≤ ((n * (c * c) : Nat) : Rat) := by
  refine (sum_abs (T := n) (c := c * c) (f := fun j => (b i j : Rat) * (b i j : Rat)) fun j _ => ?_).2
  have h1 : -((c : Nat) : Rat) ≤ (b i j : Rat) := by
    have := Rat.intCast_le_intCast.2 (h i j).1
    rw [Rat.intCast_neg] at this
    exact this
  have h2 : (b i j : Rat) ≤ ((c : Nat) : Rat) := Rat.intCast_le_intCast.2 (h i j).2
  exact mul_abs h1 h2 h1 h2
theorem fit63 : Fit 6 3 := by
  intro t ht
  have : t = 0 ∨ t = 1 ∨ t = 2 := by omega
  rcases this with rfl | rfl | rfl <;> decide
theorem fit36 : Fit 3 6 := by
  intro t ht
  have : t = 0 ∨ t = 1 ∨ t = 2 ∨ t = 3 ∨ t = 4 ∨ t = 5 := by omega
  rcases this with rfl | rfl | rfl | rfl | rfl | rfl <;> decide
theorem Fit.mono {A0 m m' : Nat} (h : Fit A0 m) (hm : m' ≤ m) : Fit A0 m' := fun t ht => h t (by omega)
theorem bas1 {m n : Nat} {b : Nat → Nat → Int} (hm : m ≤ 3) (hn : n ≤ 5) (h : Ent b 49) : Bas m n b 6 :=
  ⟨by omega, by omega, fit63.mono hm, fun i j _ _ => by have := h i j; omega, fun i _ => Rat.le_trans (ent_sq h i) (rat_le_natCast (Nat.le_trans (Nat.mul_le_mul_right _ hn) (by decide)))⟩
theorem bas2 {m n : Nat} {b : Nat → Nat → Int} (hm : m ≤ 6) (hn : n ≤ 7) (h : Ent b 6) : Bas m n b 3 :=
  ⟨hm, hn, fit36.mono hm, fun i j _ _ => by have := h i j; omega, fun i _ => Rat.le_trans (ent_sq h i) (rat_le_natCast (Nat.le_trans (Nat.mul_le_mul_right _ hn) (by decide)))⟩
def spBasis : FSpec := fun us S Q _ => ∃ c m, us = [.lst c, .int 5] ∧ Cs S c m ∧ m < 100000 ∧ ∀ p q b S2, p ≤ 3 → q ≤ 5 → 1 ≤ q → Ent b 49 → Ext c S S2 → Cs S2 c (m + 2000) → Q (zMat p q b) S2
theorem w_law_basis (G : Gm) (hT : Has G "_law_take" spTake) (hM : Has G "_law_matrix" spMatZ) : Pf G n_law_basis i_law_basis spBasis := by
  rintro us S Q X ⟨c, m, rfl, hC, hm, hQ⟩
  obtain ⟨sT, eT, hT⟩ := hT
  obtain ⟨sM, eM, hM⟩ := hM
  have hs6 : 6 ≤ sizeLine := by decide
  have hs1 : 1 ≤ sizeLine := by decide
  simp only [wpSs, wpS, wpE, wpEs, wpO, wpC, wpT, wpTg, wpTs, wpI, wipeU, startU, z_cell, z_slot, z_int, z_bl, z_tup, z_fn, z_optb, z_hN, z_hB, z_hC, z_hP, z_hK, z_lst, z_nil, z_cons, z_opt, z_optu, z_srct, z_srcl, z_bopi, z_bopt, z_bopl, z_bopm, z_add, z_sub, z_mul, z_div, z_mod, z_pow, z_auga, z_augs, z_augd, z_eqii, z_eqss, z_eqbb, z_eqtt, z_eqll, z_ceq, z_cne, z_clt, z_cle, z_cgt, z_cge, z_cin, z_cni, z_int_t, z_trn, z_trb, z_tri, z_trt, z_trl, z_ixt, z_ixl, z_slt, z_sll, z_sls, z_lent, z_lenl, z_abs, z_max, z_min, z_toi, z_tob, z_tut, z_tul, z_lit, z_lil, z_any, z_all, z_sum, z_app, z_set, z_isn, z_isb, z_isi, z_iss, z_ist, z_isl, z_revl, isNon, atI_0, atI_1, atI_2, atI_3, ixN_1, ixN_2, ixN_3, List.map_cons, List.map_nil, List.length_cons, List.length_nil, List.replicate, List.cons_append, List.nil_append, List.append_nil, List.set_cons_zero, List.set_cons_succ, List.getElem?_cons_zero, List.getElem?_cons_succ, Nat.reduceAdd, Nat.reduceSub, Nat.reduceLT, Nat.reduceLeDiff, Nat.reduceEqDiff, Int.reduceNeg, Int.reduceAdd, Int.reduceSub, Int.reduceMul, Int.reducePow, Int.reduceToNat, Int.reduceLT, Int.reduceLE, Int.reduceEq, if_true, if_false, Bool.false_eq_true, decide_true, decide_false, true_and, and_true, Bool.not_true, Bool.not_false, List.set_nil, List.length_set, ne_eq, not_false_eq_true, reduceCtorEq, and_self, List.isEmpty_cons, List.isEmpty_nil, List.length_map, List.set_set, decide_eq_true_eq, n_law_basis, i_law_basis, eT, eM, hs6, hs1]
  refine hT _ _ _ _ ⟨c, 6, m, rfl, by decide, by decide, hC.push _, by omega, fun dg S2 d0 d1 e2 c2 => ?_⟩
  have hl := e2.new hC.lt
  have e2 := (Ext.push c S _).trans e2
  simp only [wpSs, wpS, wpE, wpEs, wpO, wpC, wpT, wpTg, wpTs, wpI, wipeU, startU, z_cell, z_slot, z_int, z_bl, z_tup, z_fn, z_optb, z_hN, z_hB, z_hC, z_hP, z_hK, z_lst, z_nil, z_cons, z_opt, z_optu, z_srct, z_srcl, z_bopi, z_bopt, z_bopl, z_bopm, z_add, z_sub, z_mul, z_div, z_mod, z_pow, z_auga, z_augs, z_augd, z_eqii, z_eqss, z_eqbb, z_eqtt, z_eqll, z_ceq, z_cne, z_clt, z_cle, z_cgt, z_cge, z_cin, z_cni, z_int_t, z_trn, z_trb, z_tri, z_trt, z_trl, z_ixt, z_ixl, z_slt, z_sll, z_sls, z_lent, z_lenl, z_abs, z_max, z_min, z_toi, z_tob, z_tut, z_tul, z_lit, z_lil, z_any, z_all, z_sum, z_app, z_set, z_isn, z_isb, z_isi, z_iss, z_ist, z_isl, z_revl, isNon, atI_0, atI_1, atI_2, atI_3, ixN_1, ixN_2, ixN_3, List.map_cons, List.map_nil, List.length_cons, List.length_nil, List.replicate, List.cons_append, List.nil_append, List.append_nil, List.set_cons_zero, List.set_cons_succ, List.getElem?_cons_zero, List.getElem?_cons_succ, Nat.reduceAdd, Nat.reduceSub, Nat.reduceLT, Nat.reduceLeDiff, Nat.reduceEqDiff, Int.reduceNeg, Int.reduceAdd, Int.reduceSub, Int.reduceMul, Int.reducePow, Int.reduceToNat, Int.reduceLT, Int.reduceLE, Int.reduceEq, if_true, if_false, Bool.false_eq_true, decide_true, decide_false, true_and, and_true, Bool.not_true, Bool.not_false, List.set_nil, List.length_set, ne_eq, not_false_eq_true, reduceCtorEq, and_self, List.isEmpty_cons, List.isEmpty_nil, List.length_map, List.set_set, decide_eq_true_eq, hl]
  obtain ⟨p, hp, hpv⟩ : ∃ p : Nat, p ≤ 3 ∧ L2.atI [U.int 1, U.int 2, U.int 2, U.int 3, U.int 3, U.int 0] dg = some (.int p) := by
    have : dg = 0 ∨ dg = 1 ∨ dg = 2 ∨ dg = 3 ∨ dg = 4 ∨ dg = 5 := by omega
    rcases this with rfl | rfl | rfl | rfl | rfl | rfl
    · exact ⟨1, by decide, rfl⟩
    · exact ⟨2, by decide, rfl⟩
    · exact ⟨2, by decide, rfl⟩
    · exact ⟨3, by decide, rfl⟩
    · exact ⟨3, by decide, rfl⟩
    · exact ⟨0, by decide, rfl⟩
  simp only [wpSs, wpS, wpE, wpEs, wpO, wpC, wpT, wpTg, wpTs, wpI, wipeU, startU, z_cell, z_slot, z_int, z_bl, z_tup, z_fn, z_optb, z_hN, z_hB, z_hC, z_hP, z_hK, z_lst, z_nil, z_cons, z_opt, z_optu, z_srct, z_srcl, z_bopi, z_bopt, z_bopl, z_bopm, z_add, z_sub, z_mul, z_div, z_mod, z_pow, z_auga, z_augs, z_augd, z_eqii, z_eqss, z_eqbb, z_eqtt, z_eqll, z_ceq, z_cne, z_clt, z_cle, z_cgt, z_cge, z_cin, z_cni, z_int_t, z_trn, z_trb, z_tri, z_trt, z_trl, z_ixt, z_ixl, z_slt, z_sll, z_sls, z_lent, z_lenl, z_abs, z_max, z_min, z_toi, z_tob, z_tut, z_tul, z_lit, z_lil, z_any, z_all, z_sum, z_app, z_set, z_isn, z_isb, z_isi, z_iss, z_ist, z_isl, z_revl, isNon, atI_0, atI_1, atI_2, atI_3, ixN_1, ixN_2, ixN_3, List.map_cons, List.map_nil, List.length_cons, List.length_nil, List.replicate, List.cons_append, List.nil_append, List.append_nil, List.set_cons_zero, List.set_cons_succ, List.getElem?_cons_zero, List.getElem?_cons_succ, Nat.reduceAdd, Nat.reduceSub, Nat.reduceLT, Nat.reduceLeDiff, Nat.reduceEqDiff, Int.reduceNeg, Int.reduceAdd, Int.reduceSub, Int.reduceMul, Int.reducePow, Int.reduceToNat, Int.reduceLT, Int.reduceLE, Int.reduceEq, if_true, if_false, Bool.false_eq_true, decide_true, decide_false, true_and, and_true, Bool.not_true, Bool.not_false, List.set_nil, List.length_set, ne_eq, not_false_eq_true, reduceCtorEq, and_self, List.isEmpty_cons, List.isEmpty_nil, List.length_map, List.set_set, decide_eq_true_eq, hpv]
  refine hT _ _ _ _ ⟨c, 5, m + 1, rfl, by decide, by decide, c2, by omega, fun dg3 S3 d2 d3 e3 c3 => ?_⟩
  simp only [wpSs, wpS, wpE, wpEs, wpO, wpC, wpT, wpTg, wpTs, wpI, wipeU, startU, z_cell, z_slot, z_int, z_bl, z_tup, z_fn, z_optb, z_hN, z_hB, z_hC, z_hP, z_hK, z_lst, z_nil, z_cons, z_opt, z_optu, z_srct, z_srcl, z_bopi, z_bopt, z_bopl, z_bopm, z_add, z_sub, z_mul, z_div, z_mod, z_pow, z_auga, z_augs, z_augd, z_eqii, z_eqss, z_eqbb, z_eqtt, z_eqll, z_ceq, z_cne, z_clt, z_cle, z_cgt, z_cge, z_cin, z_cni, z_int_t, z_trn, z_trb, z_tri, z_trt, z_trl, z_ixt, z_ixl, z_slt, z_sll, z_sls, z_lent, z_lenl, z_abs, z_max, z_min, z_toi, z_tob, z_tut, z_tul, z_lit, z_lil, z_any, z_all, z_sum, z_app, z_set, z_isn, z_isb, z_isi, z_iss, z_ist, z_isl, z_revl, isNon, atI_0, atI_1, atI_2, atI_3, ixN_1, ixN_2, ixN_3, List.map_cons, List.map_nil, List.length_cons, List.length_nil, List.replicate, List.cons_append, List.nil_append, List.append_nil, List.set_cons_zero, List.set_cons_succ, List.getElem?_cons_zero, List.getElem?_cons_succ, Nat.reduceAdd, Nat.reduceSub, Nat.reduceLT, Nat.reduceLeDiff, Nat.reduceEqDiff, Int.reduceNeg, Int.reduceAdd, Int.reduceSub, Int.reduceMul, Int.reducePow, Int.reduceToNat, Int.reduceLT, Int.reduceLE, Int.reduceEq, if_true, if_false, Bool.false_eq_true, decide_true, decide_false, true_and, and_true, Bool.not_true, Bool.not_false, List.set_nil, List.length_set, ne_eq, not_false_eq_true, reduceCtorEq, and_self, List.isEmpty_cons, List.isEmpty_nil, List.length_map, List.set_set, decide_eq_true_eq]
  obtain ⟨q, hq⟩ : ∃ q : Nat, (q : Int) = if 1 + dg3 > (p : Int) then 1 + dg3 else (p : Int) := ⟨(if 1 + dg3 > (p : Int) then 1 + dg3 else (p : Int)).toNat, by split <;> omega⟩
  rw [← hq]
  have hq5 : q ≤ 5 ∧ 1 ≤ q := by split at hq <;> omega
  refine hM _ _ _ _ ⟨c, m + 2, p, q, rfl, by omega, by omega, c3, by omega, fun b S4 hb e4 c4 => hQ p q b S4 hp hq5.1 hq5.2 (fun i j => hb i j) ((e2.trans e3).trans e4) (c4.mono (by omega))⟩
end K70

set_option Elab.async false
set_option linter.all false
set_option maxRecDepth 100000
set_option maxHeartbeats 8000000
namespace K70
open PySem PySem.Spec L2 Q GSM
theorem Ext.at {c i : Nat} {S S2 : Sto} {x : Cell} (h : Ext c S S2) (h1 : S[i]? = some x) (h2 : i ≠ c) : S2[i]? = some x := by
  rw [h.same i (List.getElem?_eq_some_iff.1 h1).1 h2]; exact h1
theorem ent0 (c : Nat) : Ent (fun _ _ => 0) c := fun _ _ => ⟨by show -(c : Int) ≤ 0; omega, by show (0 : Int) ≤ c; omega⟩
theorem row_ext {i q : Nat} {b : Nat → Nat → Int} {f : Nat → Int} : ((List.range i).map fun i => U.tup ((List.range q).map fun j => U.int (b i j))) ++ [U.tup ((List.range q).map fun j => U.int (f j))] = (List.range (i + 1)).map fun k => U.tup ((List.range q).map fun j => U.int (if k = i then f j else b k j)) := by
  rw [List.range_succ, List.map_append]
  congr 1
  · refine List.map_congr_left fun k hk => ?_
    have hki : ¬ k = i := by have := List.mem_range.1 hk; omega
    simp only [hki, if_false]
  · simp
def spSparse : FSpec := fun us S Q _ => ∃ (c m p q : Nat), us = [.lst c, .int p, .int q] ∧ p ≤ 6 ∧ q ≤ 7 ∧ Cs S c m ∧ m < 100000 ∧ ∀ b S2, Ent b 6 → Ext c S S2 → Cs S2 c (m + 1000) → Q (zMat p q b) S2
theorem w_law_sparse (G : Gm) (hT : Has G "_law_take" spTakeD) : Pf G n_law_sparse i_law_sparse spSparse := by
  rintro us S Q X ⟨c, m, p, q, rfl, hp, hq, ⟨d, hC⟩, hm, hQ⟩
  have hC : CsD S c d m := hC
  obtain ⟨sT, eT, hT⟩ := hT
  have hs0 : 0 ≤ sizeLine := by decide
  have hs3 : 3 ≤ sizeLine := by decide
  have hs6 : 6 ≤ sizeLine := by decide
  obtain ⟨hcl, hdl, _⟩ := hC.lt
  simp only [wpSs, wpS, wpE, wpEs, wpO, wpC, wpT, wpTg, wpTs, wpI, wipeU, startU, z_cell, z_slot, z_int, z_bl, z_tup, z_fn, z_optb, z_hN, z_hB, z_hC, z_hP, z_hK, z_lst, z_nil, z_cons, z_opt, z_optu, z_srct, z_srcl, z_bopi, z_bopt, z_bopl, z_bopm, z_add, z_sub, z_mul, z_div, z_mod, z_pow, z_auga, z_augs, z_augd, z_eqii, z_eqss, z_eqbb, z_eqtt, z_eqll, z_ceq, z_cne, z_clt, z_cle, z_cgt, z_cge, z_cin, z_cni, z_int_t, z_trn, z_trb, z_tri, z_trt, z_trl, z_ixt, z_ixl, z_slt, z_sll, z_sls, z_lent, z_lenl, z_abs, z_max, z_min, z_toi, z_tob, z_tut, z_tul, z_lit, z_lil, z_any, z_all, z_sum, z_app, z_set, z_isn, z_isb, z_isi, z_iss, z_ist, z_isl, z_revl, isNon, atI_0, atI_1, atI_2, atI_3, ixN_1, ixN_2, ixN_3, List.map_cons, List.map_nil, List.length_cons, List.length_nil, List.replicate, List.cons_append, List.nil_append, List.append_nil, List.set_cons_zero, List.set_cons_succ, List.getElem?_cons_zero, List.getElem?_cons_succ, Nat.reduceAdd, Nat.reduceSub, Nat.reduceLT, Nat.reduceLeDiff, Nat.reduceEqDiff, Int.reduceNeg, Int.reduceAdd, Int.reduceSub, Int.reduceMul, Int.reducePow, Int.reduceToNat, Int.reduceLT, Int.reduceLE, Int.reduceEq, if_true, if_false, Bool.false_eq_true, decide_true, decide_false, true_and, and_true, Bool.not_true, Bool.not_false, List.set_nil, List.length_set, ne_eq, not_false_eq_true, reduceCtorEq, and_self, List.isEmpty_cons, List.isEmpty_nil, List.length_map, List.set_set, decide_eq_true_eq, n_law_sparse, i_law_sparse, eT, hs0, hs3, hs6]
  refine ⟨⟨by omega, by omega⟩, ?_⟩
  rw [Int.toNat_natCast]
  obtain ⟨rA, hrA⟩ : ∃ rA, rA = S.length := ⟨_, rfl⟩
  rw [← hrA]
  refine forL_ind (fun us σ S4 => ∃ i : Nat, i ≤ p ∧ us = (rngL 0 p).drop i ∧ (∃ b : Nat → Nat → Int, Ent b 6 ∧ S4[rA]? = some (.lst ((List.range i).map fun i => U.tup ((List.range q).map fun j => U.int (b i j))))) ∧ Ext c S S4 ∧ CsD S4 c d (m + 20 * i) ∧ ∃ o4 o5 o6 : Option U, σ = [some (.lst c), some (.int p), some (.int q), some (.lst rA), o4, o5, o6]) ?_ ?_ ?_ _ _ _ ⟨0, by omega, rfl, ⟨_, ent0 6, by rw [hrA]; exact List.getElem?_concat_length⟩, Ext.push _ _ _, hC.push _, _, _, _, rfl⟩
  · intros; trivial
  · rintro σ S4 ⟨i, hi, hu, ⟨b, hb, hr⟩, e4, c4, o4, o5, o6, rfl⟩
    obtain rfl := rng_end hu hi
    simp only [wpSs, wpS, wpE, wpEs, wpO, wpC, wpT, wpTg, wpTs, wpI, wipeU, startU, z_cell, z_slot, z_int, z_bl, z_tup, z_fn, z_optb, z_hN, z_hB, z_hC, z_hP, z_hK, z_lst, z_nil, z_cons, z_opt, z_optu, z_srct, z_srcl, z_bopi, z_bopt, z_bopl, z_bopm, z_add, z_sub, z_mul, z_div, z_mod, z_pow, z_auga, z_augs, z_augd, z_eqii, z_eqss, z_eqbb, z_eqtt, z_eqll, z_ceq, z_cne, z_clt, z_cle, z_cgt, z_cge, z_cin, z_cni, z_int_t, z_trn, z_trb, z_tri, z_trt, z_trl, z_ixt, z_ixl, z_slt, z_sll, z_sls, z_lent, z_lenl, z_abs, z_max, z_min, z_toi, z_tob, z_tut, z_tul, z_lit, z_lil, z_any, z_all, z_sum, z_app, z_set, z_isn, z_isb, z_isi, z_iss, z_ist, z_isl, z_revl, isNon, atI_0, atI_1, atI_2, atI_3, ixN_1, ixN_2, ixN_3, List.map_cons, List.map_nil, List.length_cons, List.length_nil, List.replicate, List.cons_append, List.nil_append, List.append_nil, List.set_cons_zero, List.set_cons_succ, List.getElem?_cons_zero, List.getElem?_cons_succ, Nat.reduceAdd, Nat.reduceSub, Nat.reduceLT, Nat.reduceLeDiff, Nat.reduceEqDiff, Int.reduceNeg, Int.reduceAdd, Int.reduceSub, Int.reduceMul, Int.reducePow, Int.reduceToNat, Int.reduceLT, Int.reduceLE, Int.reduceEq, if_true, if_false, Bool.false_eq_true, decide_true, decide_false, true_and, and_true, Bool.not_true, Bool.not_false, List.set_nil, List.length_set, ne_eq, not_false_eq_true, reduceCtorEq, and_self, List.isEmpty_cons, List.isEmpty_nil, List.length_map, List.set_set, decide_eq_true_eq, hr]
    exact hQ b _ hb e4 ⟨d, c4.mono (by omega)⟩
  · rintro u us σ S4 k ⟨i, hi, hu, ⟨b, hb, hr⟩, e4, c4, o4, o5, o6, rfl⟩ hk
    obtain ⟨hi2, rfl, hus⟩ := rng_drop hu
    have ei : (0 + (i : Int)) = i := by omega
    have hl4 := (List.getElem?_eq_some_iff.1 hr).1
    rw [ei]
    simp only [wpSs, wpS, wpE, wpEs, wpO, wpC, wpT, wpTg, wpTs, wpI, wipeU, startU, z_cell, z_slot, z_int, z_bl, z_tup, z_fn, z_optb, z_hN, z_hB, z_hC, z_hP, z_hK, z_lst, z_nil, z_cons, z_opt, z_optu, z_srct, z_srcl, z_bopi, z_bopt, z_bopl, z_bopm, z_add, z_sub, z_mul, z_div, z_mod, z_pow, z_auga, z_augs, z_augd, z_eqii, z_eqss, z_eqbb, z_eqtt, z_eqll, z_ceq, z_cne, z_clt, z_cle, z_cgt, z_cge, z_cin, z_cni, z_int_t, z_trn, z_trb, z_tri, z_trt, z_trl, z_ixt, z_ixl, z_slt, z_sll, z_sls, z_lent, z_lenl, z_abs, z_max, z_min, z_toi, z_tob, z_tut, z_tul, z_lit, z_lil, z_any, z_all, z_sum, z_app, z_set, z_isn, z_isb, z_isi, z_iss, z_ist, z_isl, z_revl, isNon, atI_0, atI_1, atI_2, atI_3, ixN_1, ixN_2, ixN_3, List.map_cons, List.map_nil, List.length_cons, List.length_nil, List.replicate, List.cons_append, List.nil_append, List.append_nil, List.set_cons_zero, List.set_cons_succ, List.getElem?_cons_zero, List.getElem?_cons_succ, Nat.reduceAdd, Nat.reduceSub, Nat.reduceLT, Nat.reduceLeDiff, Nat.reduceEqDiff, Int.reduceNeg, Int.reduceAdd, Int.reduceSub, Int.reduceMul, Int.reducePow, Int.reduceToNat, Int.reduceLT, Int.reduceLE, Int.reduceEq, if_true, if_false, Bool.false_eq_true, decide_true, decide_false, true_and, and_true, Bool.not_true, Bool.not_false, List.set_nil, List.length_set, ne_eq, not_false_eq_true, reduceCtorEq, and_self, List.isEmpty_cons, List.isEmpty_nil, List.length_map, List.set_set, decide_eq_true_eq]
    refine ⟨⟨by omega, by omega⟩, ?_⟩
    rw [Int.toNat_natCast]
    refine lcL_ind (fun us acc S5 => ∃ j : Nat, j ≤ q ∧ us = (rngL 0 q).drop j ∧ (∃ f : Nat → Int, (∀ j, -3 ≤ f j ∧ f j ≤ 3) ∧ acc = (List.range j).map fun j => U.int (f j)) ∧ Ext c S4 S5 ∧ CsD S5 c d (m + 20 * i + 2 * j)) ?_ ?_ ?_ _ _ _ ⟨0, by omega, rfl, ⟨fun _ => 0, fun _ => ⟨by show (-3 : Int) ≤ 0; decide, by show (0 : Int) ≤ 3; decide⟩, rfl⟩, Ext.refl _ _, c4⟩
    · intros; trivial
    · rintro acc S5 ⟨j, hj, hu5, ⟨f, hf, rfl⟩, e5, c5⟩
      have ej := rng_end hu5 hj
      rw [ej] at c5 ⊢
      clear hu5
      have l5 := e5.len
      have hr5 := e5.at hr (by omega)
      have hll : ((List.range i).map fun i => U.tup ((List.range q).map fun j => U.int (b i j))).length < sizeLine := by simp; exact Nat.lt_of_lt_of_le (show i < 7 by omega) (by decide)
      have hll : i < sizeLine := Nat.lt_of_lt_of_le (show i < 7 by omega) (by decide)
      obtain ⟨R, hR⟩ : ∃ R : Nat, R = S5.length := ⟨_, rfl⟩
      have fin : ∀ (g : Nat → Int) (S6 : Sto) (o6 : Option U), (∀ j, -6 ≤ g j ∧ g j ≤ 6) → S6[rA]? = some (.lst ((List.range i).map fun i => U.tup ((List.range q).map fun j => U.int (b i j)))) → Ext c S S6 → CsD S6 c d (m + 20 * (i + 1)) →
          k [some (.lst c), some (.int p), some (.int q), some (.lst rA), some (.int i), some (.lst R), o6] (S6.set rA (.lst (((List.range i).map fun i => U.tup ((List.range q).map fun j => U.int (b i j))) ++ [U.tup ((List.range q).map fun j => U.int (g j))]))) := by
        intro g S6 o6 hg h6 e6 c6
        have l6 := (List.getElem?_eq_some_iff.1 h6).1
        refine hk _ _ ⟨i + 1, hi2, hus, ⟨fun k j => if k = i then g j else b k j, fun k j => ?_, ?_⟩, ⟨by rw [List.length_set]; exact e6.len, fun z hz hne => by rw [List.getElem?_set_ne (by omega)]; exact e6.same z hz hne⟩, c6.set _ (by omega) (by omega), _, _, _, rfl⟩
        · dsimp only
          split
          · exact hg j
          · exact hb k j
        · rw [List.getElem?_set_self l6, row_ext]
      have e5' := e4.trans e5
      by_cases hiq : (i : Int) < (q : Int)
      · rw [if_pos hiq]
        have a1 : L2.atI ((List.range q).map fun j => U.int (f j)) (i : Int) = some (.int (f i)) := by
          rw [_root_.Q.atI_nat, List.getElem?_map, List.getElem?_range (by omega)]; rfl
        have a2 : L2.ixN q (i : Int) = some i := _root_.Q.ixN_nat q i (by omega)
        simp only [wpSs, wpS, wpE, wpEs, wpO, wpC, wpT, wpTg, wpTs, wpI, wipeU, startU, z_cell, z_slot, z_int, z_bl, z_tup, z_fn, z_optb, z_hN, z_hB, z_hC, z_hP, z_hK, z_lst, z_nil, z_cons, z_opt, z_optu, z_srct, z_srcl, z_bopi, z_bopt, z_bopl, z_bopm, z_add, z_sub, z_mul, z_div, z_mod, z_pow, z_auga, z_augs, z_augd, z_eqii, z_eqss, z_eqbb, z_eqtt, z_eqll, z_ceq, z_cne, z_clt, z_cle, z_cgt, z_cge, z_cin, z_cni, z_int_t, z_trn, z_trb, z_tri, z_trt, z_trl, z_ixt, z_ixl, z_slt, z_sll, z_sls, z_lent, z_lenl, z_abs, z_max, z_min, z_toi, z_tob, z_tut, z_tul, z_lit, z_lil, z_any, z_all, z_sum, z_app, z_set, z_isn, z_isb, z_isi, z_iss, z_ist, z_isl, z_revl, isNon, atI_0, atI_1, atI_2, atI_3, ixN_1, ixN_2, ixN_3, List.map_cons, List.map_nil, List.length_cons, List.length_nil, List.replicate, List.cons_append, List.nil_append, List.append_nil, List.set_cons_zero, List.set_cons_succ, List.getElem?_cons_zero, List.getElem?_cons_succ, Nat.reduceAdd, Nat.reduceSub, Nat.reduceLT, Nat.reduceLeDiff, Nat.reduceEqDiff, Int.reduceNeg, Int.reduceAdd, Int.reduceSub, Int.reduceMul, Int.reducePow, Int.reduceToNat, Int.reduceLT, Int.reduceLE, Int.reduceEq, if_true, if_false, Bool.false_eq_true, decide_true, decide_false, true_and, and_true, Bool.not_true, Bool.not_false, List.set_nil, List.length_set, ne_eq, not_false_eq_true, reduceCtorEq, and_self, List.isEmpty_cons, List.isEmpty_nil, List.length_map, List.set_set, decide_eq_true_eq, List.getElem?_concat_length, a1]
        refine hT _ _ _ _ ⟨c, 3, _, d, rfl, by decide, by decide, (c5.push _).push _, by omega, fun dg S6 d0 d1 e6 c6 => ?_⟩
        have hl1 := e6.new (by simp; have := c5.lt; omega)
        have hl0 : S6[S5.length]? = some (.lst ((List.range q).map fun j => U.int (f j))) := e6.at (by rw [List.getElem?_append_left (by simp)]; exact List.getElem?_concat_length) (by have := c5.lt; omega)
        have hr6 := e6.at (i := rA) (x := .lst ((List.range i).map fun i => U.tup ((List.range q).map fun j => U.int (b i j)))) (by rw [List.getElem?_append_left (by simp; omega), List.getElem?_append_left (by omega)]; exact hr5) (by omega)
        have e6 := (e5'.trans (Ext.push c S5 _)).trans ((Ext.push c _ _).trans e6)
        obtain ⟨x, hx, hxv⟩ : ∃ x : Int, (1 ≤ x ∧ x ≤ 3) ∧ L2.atI [U.int 1, U.int 2, U.int 3] dg = some (.int x) := by
          have : dg = 0 ∨ dg = 1 ∨ dg = 2 := by omega
          rcases this with rfl | rfl | rfl
          · exact ⟨1, by decide, rfl⟩
          · exact ⟨2, by decide, rfl⟩
          · exact ⟨3, by decide, rfl⟩
        have hset : ((List.range q).map fun j => U.int (f j)).set i (.int (f i + x)) = (List.range q).map fun j => U.int (if j = i then f i + x else f j) := by
          apply List.ext_getElem?
          intro z
          rw [List.getElem?_set, List.getElem?_map, List.getElem?_map]
          by_cases e : i = z
          · subst e
            rw [if_pos rfl, if_pos (by simp; omega), List.getElem?_range (by omega)]
            simp
          · rw [if_neg e]
            by_cases hz : z < q
            · rw [List.getElem?_range hz]
              simp
              intro y
              exact absurd y.symm e
            · rw [List.getElem?_eq_none (by simpa using hz)]; rfl
        have b1 : ∀ x, (S6.set S5.length x)[S5.length]? = some x := fun x => List.getElem?_set_self (List.getElem?_eq_some_iff.1 hl0).1
        have b2 : ∀ x, (S6.set S5.length x)[rA]? = some (.lst ((List.range i).map fun i => U.tup ((List.range q).map fun j => U.int (b i j)))) := fun x => by rw [List.getElem?_set_ne (by omega)]; exact hr6
        simp only [wpSs, wpS, wpE, wpEs, wpO, wpC, wpT, wpTg, wpTs, wpI, wipeU, startU, z_cell, z_slot, z_int, z_bl, z_tup, z_fn, z_optb, z_hN, z_hB, z_hC, z_hP, z_hK, z_lst, z_nil, z_cons, z_opt, z_optu, z_srct, z_srcl, z_bopi, z_bopt, z_bopl, z_bopm, z_add, z_sub, z_mul, z_div, z_mod, z_pow, z_auga, z_augs, z_augd, z_eqii, z_eqss, z_eqbb, z_eqtt, z_eqll, z_ceq, z_cne, z_clt, z_cle, z_cgt, z_cge, z_cin, z_cni, z_int_t, z_trn, z_trb, z_tri, z_trt, z_trl, z_ixt, z_ixl, z_slt, z_sll, z_sls, z_lent, z_lenl, z_abs, z_max, z_min, z_toi, z_tob, z_tut, z_tul, z_lit, z_lil, z_any, z_all, z_sum, z_app, z_set, z_isn, z_isb, z_isi, z_iss, z_ist, z_isl, z_revl, isNon, atI_0, atI_1, atI_2, atI_3, ixN_1, ixN_2, ixN_3, List.map_cons, List.map_nil, List.length_cons, List.length_nil, List.replicate, List.cons_append, List.nil_append, List.append_nil, List.set_cons_zero, List.set_cons_succ, List.getElem?_cons_zero, List.getElem?_cons_succ, Nat.reduceAdd, Nat.reduceSub, Nat.reduceLT, Nat.reduceLeDiff, Nat.reduceEqDiff, Int.reduceNeg, Int.reduceAdd, Int.reduceSub, Int.reduceMul, Int.reducePow, Int.reduceToNat, Int.reduceLT, Int.reduceLE, Int.reduceEq, if_true, if_false, Bool.false_eq_true, decide_true, decide_false, true_and, and_true, Bool.not_true, Bool.not_false, List.set_nil, List.length_set, ne_eq, not_false_eq_true, reduceCtorEq, and_self, List.isEmpty_cons, List.isEmpty_nil, List.length_map, List.set_set, decide_eq_true_eq, hl1, hxv, hl0, List.length_range, a2, b1, b2, hset, hll]
        rw [← hR]
        exact fin (fun j => if j = i then f i + x else f j) _ _ (fun j => by have := hf i; have := hf j; split <;> omega) (by rw [hR]; exact b2 _) (by
          rw [hR]
          exact ⟨by rw [List.length_set]; exact e6.len, fun z hz hne => by rw [List.getElem?_set_ne (by omega)]; exact e6.same z hz hne⟩) (by rw [hR]; exact (c6.set _ (by have := c5.lt; omega) (by have := c5.lt; omega)).mono (by omega))
      · rw [if_neg hiq]
        have b2 : ∀ x, (S5 ++ [x])[rA]? = some (.lst ((List.range i).map fun i => U.tup ((List.range q).map fun j => U.int (b i j)))) := fun x => by rw [List.getElem?_append_left (by omega)]; exact hr5
        simp only [wpSs, wpS, wpE, wpEs, wpO, wpC, wpT, wpTg, wpTs, wpI, wipeU, startU, z_cell, z_slot, z_int, z_bl, z_tup, z_fn, z_optb, z_hN, z_hB, z_hC, z_hP, z_hK, z_lst, z_nil, z_cons, z_opt, z_optu, z_srct, z_srcl, z_bopi, z_bopt, z_bopl, z_bopm, z_add, z_sub, z_mul, z_div, z_mod, z_pow, z_auga, z_augs, z_augd, z_eqii, z_eqss, z_eqbb, z_eqtt, z_eqll, z_ceq, z_cne, z_clt, z_cle, z_cgt, z_cge, z_cin, z_cni, z_int_t, z_trn, z_trb, z_tri, z_trt, z_trl, z_ixt, z_ixl, z_slt, z_sll, z_sls, z_lent, z_lenl, z_abs, z_max, z_min, z_toi, z_tob, z_tut, z_tul, z_lit, z_lil, z_any, z_all, z_sum, z_app, z_set, z_isn, z_isb, z_isi, z_iss, z_ist, z_isl, z_revl, isNon, atI_0, atI_1, atI_2, atI_3, ixN_1, ixN_2, ixN_3, List.map_cons, List.map_nil, List.length_cons, List.length_nil, List.replicate, List.cons_append, List.nil_append, List.append_nil, List.set_cons_zero, List.set_cons_succ, List.getElem?_cons_zero, List.getElem?_cons_succ, Nat.reduceAdd, Nat.reduceSub, Nat.reduceLT, Nat.reduceLeDiff, Nat.reduceEqDiff, Int.reduceNeg, Int.reduceAdd, Int.reduceSub, Int.reduceMul, Int.reducePow, Int.reduceToNat, Int.reduceLT, Int.reduceLE, Int.reduceEq, if_true, if_false, Bool.false_eq_true, decide_true, decide_false, true_and, and_true, Bool.not_true, Bool.not_false, List.set_nil, List.length_set, ne_eq, not_false_eq_true, reduceCtorEq, and_self, List.isEmpty_cons, List.isEmpty_nil, List.length_map, List.set_set, decide_eq_true_eq, List.getElem?_concat_length, b2, List.length_range, hll]
        rw [← hR]
        exact fin f _ _ (fun j => by have := hf j; omega) (b2 _) (e5'.trans (Ext.push _ _ _)) ((c5.push _).mono (by omega))
    · rintro u2 us2 acc S5 k3 ⟨j, hj, hu2, ⟨f, hf, rfl⟩, e5, c5⟩ ks2 kn2
      obtain ⟨hj2, rfl, hus2⟩ := rng_drop hu2
      refine hT _ _ _ _ ⟨c, 7, _, d, rfl, by decide, by decide, c5, by omega, fun dg S6 d0 d1 e6 c6 => ?_⟩
      simp only [wpSs, wpS, wpE, wpEs, wpO, wpC, wpT, wpTg, wpTs, wpI, wipeU, startU, z_cell, z_slot, z_int, z_bl, z_tup, z_fn, z_optb, z_hN, z_hB, z_hC, z_hP, z_hK, z_lst, z_nil, z_cons, z_opt, z_optu, z_srct, z_srcl, z_bopi, z_bopt, z_bopl, z_bopm, z_add, z_sub, z_mul, z_div, z_mod, z_pow, z_auga, z_augs, z_augd, z_eqii, z_eqss, z_eqbb, z_eqtt, z_eqll, z_ceq, z_cne, z_clt, z_cle, z_cgt, z_cge, z_cin, z_cni, z_int_t, z_trn, z_trb, z_tri, z_trt, z_trl, z_ixt, z_ixl, z_slt, z_sll, z_sls, z_lent, z_lenl, z_abs, z_max, z_min, z_toi, z_tob, z_tut, z_tul, z_lit, z_lil, z_any, z_all, z_sum, z_app, z_set, z_isn, z_isb, z_isi, z_iss, z_ist, z_isl, z_revl, isNon, atI_0, atI_1, atI_2, atI_3, ixN_1, ixN_2, ixN_3, List.map_cons, List.map_nil, List.length_cons, List.length_nil, List.replicate, List.cons_append, List.nil_append, List.append_nil, List.set_cons_zero, List.set_cons_succ, List.getElem?_cons_zero, List.getElem?_cons_succ, Nat.reduceAdd, Nat.reduceSub, Nat.reduceLT, Nat.reduceLeDiff, Nat.reduceEqDiff, Int.reduceNeg, Int.reduceAdd, Int.reduceSub, Int.reduceMul, Int.reducePow, Int.reduceToNat, Int.reduceLT, Int.reduceLE, Int.reduceEq, if_true, if_false, Bool.false_eq_true, decide_true, decide_false, true_and, and_true, Bool.not_true, Bool.not_false, List.set_nil, List.length_set, ne_eq, not_false_eq_true, reduceCtorEq, and_self, List.isEmpty_cons, List.isEmpty_nil, List.length_map, List.set_set, decide_eq_true_eq]
      refine hT _ _ _ _ ⟨c, 6, _, d, rfl, by decide, by decide, c6.push _, by omega, fun dg7 S7 d2 d3 e7 c7 => ?_⟩
      have hl := e7.new c6.lt.1
      have e7 := (e5.trans e6).trans ((Ext.push c S6 _).trans e7)
      obtain ⟨x, hx, hxv⟩ : ∃ x : Int, (-3 ≤ x ∧ x ≤ 3) ∧ L2.atI [U.int 0, U.int 0, U.int 0, U.int 1, U.int (-1), U.int (dg - 3)] dg7 = some (.int x) := by
        have : dg7 = 0 ∨ dg7 = 1 ∨ dg7 = 2 ∨ dg7 = 3 ∨ dg7 = 4 ∨ dg7 = 5 := by omega
        rcases this with rfl | rfl | rfl | rfl | rfl | rfl
        · exact ⟨0, by decide, rfl⟩
        · exact ⟨0, by decide, rfl⟩
        · exact ⟨0, by decide, rfl⟩
        · exact ⟨1, by decide, rfl⟩
        · exact ⟨-1, by decide, rfl⟩
        · exact ⟨dg - 3, by omega, rfl⟩
      simp only [wpSs, wpS, wpE, wpEs, wpO, wpC, wpT, wpTg, wpTs, wpI, wipeU, startU, z_cell, z_slot, z_int, z_bl, z_tup, z_fn, z_optb, z_hN, z_hB, z_hC, z_hP, z_hK, z_lst, z_nil, z_cons, z_opt, z_optu, z_srct, z_srcl, z_bopi, z_bopt, z_bopl, z_bopm, z_add, z_sub, z_mul, z_div, z_mod, z_pow, z_auga, z_augs, z_augd, z_eqii, z_eqss, z_eqbb, z_eqtt, z_eqll, z_ceq, z_cne, z_clt, z_cle, z_cgt, z_cge, z_cin, z_cni, z_int_t, z_trn, z_trb, z_tri, z_trt, z_trl, z_ixt, z_ixl, z_slt, z_sll, z_sls, z_lent, z_lenl, z_abs, z_max, z_min, z_toi, z_tob, z_tut, z_tul, z_lit, z_lil, z_any, z_all, z_sum, z_app, z_set, z_isn, z_isb, z_isi, z_iss, z_ist, z_isl, z_revl, isNon, atI_0, atI_1, atI_2, atI_3, ixN_1, ixN_2, ixN_3, List.map_cons, List.map_nil, List.length_cons, List.length_nil, List.replicate, List.cons_append, List.nil_append, List.append_nil, List.set_cons_zero, List.set_cons_succ, List.getElem?_cons_zero, List.getElem?_cons_succ, Nat.reduceAdd, Nat.reduceSub, Nat.reduceLT, Nat.reduceLeDiff, Nat.reduceEqDiff, Int.reduceNeg, Int.reduceAdd, Int.reduceSub, Int.reduceMul, Int.reducePow, Int.reduceToNat, Int.reduceLT, Int.reduceLE, Int.reduceEq, if_true, if_false, Bool.false_eq_true, decide_true, decide_false, true_and, and_true, Bool.not_true, Bool.not_false, List.set_nil, List.length_set, ne_eq, not_false_eq_true, reduceCtorEq, and_self, List.isEmpty_cons, List.isEmpty_nil, List.length_map, List.set_set, decide_eq_true_eq, hl, hxv]
      exact ks2 _ _ (by simp; exact Nat.lt_of_lt_of_le (show j < 11 by omega) (by decide)) ⟨j + 1, hj2, hus2, ⟨fun k => if k = j then x else f k, fun k => by (dsimp only; split; exact hx; exact hf k), map_ext⟩, e7, c7.mono (by omega)⟩
end K70

set_option Elab.async false
set_option linter.all false
set_option maxRecDepth 100000
set_option maxHeartbeats 8000000
namespace K70
open PySem PySem.Spec L2 Q GSM
def i_law_2 : Ss := (.cons (.ifs (.notE (.tst (.call "_law_is_basis" (.cons (.var 2) .nil)))) (.cons (.ret (.andE (.isN (.call "_law_told" (.cons (.var 2) .nil))) (.call "_law_refused" (.cons (.var 2) .nil))))
    .nil) .nil) (.cons (.asg (.name 4) (.call "_law_squares" (.cons (.var 2) .nil))) (.cons (.asg (.name 5) (.call "_law_told" (.cons (.var 2) .nil))) (.cons (.ifs (.orE (.tst (.cmp .ne (.var 5) (.tup (.cons (.idx (.var 4) (.int 0)) (.cons (.idx (.var 4) (.int 1)) .nil))))) (.orE (.notE (.tst (.call "_law_exact" (.cons (.var 5) .nil)))) (.notE (.tst (.isi (.call "is_reduced" (.cons (.var 2) .nil)) "bool"))))) (.cons (.ret (.bl false))
    .nil) .nil) (.cons (.ret (.cmp .eq (.call "is_reduced" (.cons (.var 2) .nil)) (.call "_law_is_reduced" (.cons (.var 2) .nil)))) .nil)))))
def i_law_1 : Ss := (.cons (.ifs (.andE (.tst (.cmp .gt (.idx (.var 2) (.int 0)) (.int 1))) (.tst (.cmp .eq (.call "_law_take" (.cons (.var 1) (.cons (.int 6) .nil))) (.int 0)))) (.cons (.asg (.name 2) (.tup (.cons (.idx (.var 2) (.int 0)) (.cons (.idx (.var 2) (.int 1)) (.cons (.bop .add (.slc (.idx (.var 2) (.int 2)) .none (.some (.neg (.int 1)))) (.tup (.cons (.idx (.idx (.var 2) (.int 2)) (.int 0)) .nil))) .nil)))))
    .nil) .nil) i_law_2)
theorem e_law : i_law = (.cons (.asg (.name 1) (.call "_law_start" (.cons (.var 0) .nil))) (.cons (.asg (.name 2) (.call "_law_basis" (.cons (.var 1) (.cons (.int 5) .nil)))) (.cons (.ifs (.tst (.cmp .eq (.call "_law_take" (.cons (.var 1) (.cons (.int 3) .nil))) (.int 0))) (.cons (.asg (.name 3) (.bop .add (.int 3) (.call "_law_take" (.cons (.var 1) (.cons (.int 4) .nil)))))
    (.cons (.asg (.name 2) (.call "_law_sparse" (.cons (.var 1) (.cons (.var 3) (.cons (.bop .add (.var 3) (.call "_law_take" (.cons (.var 1) (.cons (.int 2) .nil)))) .nil)))))
    .nil)) .nil) i_law_1))) := rfl
theorem e_law_1 : i_law_1 = (.cons (.ifs (.andE (.tst (.cmp .gt (.idx (.var 2) (.int 0)) (.int 1))) (.tst (.cmp .eq (.call "_law_take" (.cons (.var 1) (.cons (.int 6) .nil))) (.int 0)))) (.cons (.asg (.name 2) (.tup (.cons (.idx (.var 2) (.int 0)) (.cons (.idx (.var 2) (.int 1)) (.cons (.bop .add (.slc (.idx (.var 2) (.int 2)) .none (.some (.neg (.int 1)))) (.tup (.cons (.idx (.idx (.var 2) (.int 2)) (.int 0)) .nil))) .nil)))))
    .nil) .nil) i_law_2) := rfl
theorem e_law_2 : i_law_2 = (.cons (.ifs (.notE (.tst (.call "_law_is_basis" (.cons (.var 2) .nil)))) (.cons (.ret (.andE (.isN (.call "_law_told" (.cons (.var 2) .nil))) (.call "_law_refused" (.cons (.var 2) .nil))))
    .nil) .nil) (.cons (.asg (.name 4) (.call "_law_squares" (.cons (.var 2) .nil))) (.cons (.asg (.name 5) (.call "_law_told" (.cons (.var 2) .nil))) (.cons (.ifs (.orE (.tst (.cmp .ne (.var 5) (.tup (.cons (.idx (.var 4) (.int 0)) (.cons (.idx (.var 4) (.int 1)) .nil))))) (.orE (.notE (.tst (.call "_law_exact" (.cons (.var 5) .nil)))) (.notE (.tst (.isi (.call "is_reduced" (.cons (.var 2) .nil)) "bool"))))) (.cons (.ret (.bl false))
    .nil) .nil) (.cons (.ret (.cmp .eq (.call "is_reduced" (.cons (.var 2) .nil)) (.call "_law_is_reduced" (.cons (.var 2) .nil)))) .nil))))) := rfl
mutual
theorem exa_dat : ∀ (d : Nat) (u : U), exa d u → dat d u = true
  | 0, .int _, _ => rfl
  | d + 1, .int _, _ => rfl
  | d + 1, .tup l, h => exa_dats d l h.2
  | 0, .tup l, h => False.elim h
  | 0, .non, h => False.elim h
  | 0, .bl _, h => False.elim h
  | 0, .str _, h => False.elim h
  | 0, .lst _, h => False.elim h
  | 0, .fn _, h => False.elim h
  | 0, .cls _, h => False.elim h
  | 0, .ty _, h => False.elim h
  | 0, .scr _, h => False.elim h
  | d + 1, .non, h => False.elim h
  | d + 1, .bl _, h => False.elim h
  | d + 1, .str _, h => False.elim h
  | d + 1, .lst _, h => False.elim h
  | d + 1, .fn _, h => False.elim h
  | d + 1, .cls _, h => False.elim h
  | d + 1, .ty _, h => False.elim h
  | d + 1, .scr _, h => False.elim h
theorem exa_dats : ∀ (d : Nat) (l : List U), (∀ x ∈ l, exa d x) → dats d l = true
  | _, [], _ => by unfold dats; rfl
  | d, x :: xs, h => by
    unfold dats
    rw [exa_dat d x (h x List.mem_cons_self), exa_dats d xs fun y hy => h y (List.mem_cons_of_mem _ hy)]; rfl
end
mutual
theorem eqv_refl : ∀ (d : Nat) (u : U), exa d u → eqv u u = true
  | 0, .int i, _ => by simp [eqv]
  | d + 1, .int i, _ => by simp [eqv]
  | d + 1, .tup l, h => by rw [eqv]; exact eqvs_refl d l h.2
  | 0, .tup l, h => False.elim h
  | 0, .non, h => False.elim h
  | 0, .bl _, h => False.elim h
  | 0, .str _, h => False.elim h
  | 0, .lst _, h => False.elim h
  | 0, .fn _, h => False.elim h
  | 0, .cls _, h => False.elim h
  | 0, .ty _, h => False.elim h
  | 0, .scr _, h => False.elim h
  | d + 1, .non, h => False.elim h
  | d + 1, .bl _, h => False.elim h
  | d + 1, .str _, h => False.elim h
  | d + 1, .lst _, h => False.elim h
  | d + 1, .fn _, h => False.elim h
  | d + 1, .cls _, h => False.elim h
  | d + 1, .ty _, h => False.elim h
  | d + 1, .scr _, h => False.elim h
theorem eqvs_refl : ∀ (d : Nat) (l : List U), (∀ x ∈ l, exa d x) → eqvs l l = true
  | _, [], _ => by rw [eqvs]
  | d, x :: xs, h => by
    rw [eqvs, eqv_refl d x (h x List.mem_cons_self), eqvs_refl d xs fun y hy => h y (List.mem_cons_of_mem _ hy)]; rfl
end
theorem dats_mono : ∀ (d e : Nat) (l : List U), (∀ x ∈ l, exa d x) → d ≤ e → (∀ x ∈ l, exa e x) := fun d e l h hd x hx => by
  induction hd with
  | refl => exact h x hx
  | step _ ih => exact exa_succ _ _ ih
/-! ### the law -/
theorem law_2 (G : Gm) (hB : Has G "_law_is_basis" spIsBas) (hT : Has G "_law_told" spTold) (hF : Has G "_law_refused" spLRef) (hSq : Has G "_law_squares" spSq) (hE : Has G "_law_exact" (spExact 5)) (hR : Has G "is_reduced" spRed) (hLR : Has G "_law_is_reduced" spLRed)
    {X : ExS} {D : En} (m n A0 : Nat) (b : Nat → Nat → Int) (B : Bas m n b A0) (o0 o1 o3 o4 o5 : Option U) (S : Sto) (hQ : ∀ S2, D.rt (.bl true) S2) : wpSs G i_law_2 X D [o0, o1, some (zMat m n b), o3, o4, o5] S := by
  obtain ⟨sB, eB, hB⟩ := hB
  obtain ⟨sT, eT, hT⟩ := hT
  obtain ⟨sF, eF, hF⟩ := hF
  obtain ⟨sS, eS, hSq⟩ := hSq
  obtain ⟨sE, eE, hE⟩ := hE
  obtain ⟨sR, eR, hR⟩ := hR
  obtain ⟨sL, eL, hLR⟩ := hLR
  have hs2 : 2 ≤ sizeLine := by decide
  have hm := B.m6
  simp only [wpSs, wpS, wpE, wpEs, wpO, wpC, wpT, wpTg, wpTs, wpI, wipeU, startU, z_cell, z_slot, z_int, z_bl, z_tup, z_fn, z_optb, z_hN, z_hB, z_hC, z_hP, z_hK, z_lst, z_nil, z_cons, z_opt, z_optu, z_srct, z_srcl, z_bopi, z_bopt, z_bopl, z_bopm, z_add, z_sub, z_mul, z_div, z_mod, z_pow, z_auga, z_augs, z_augd, z_eqii, z_eqss, z_eqbb, z_eqtt, z_eqll, z_ceq, z_cne, z_clt, z_cle, z_cgt, z_cge, z_cin, z_cni, z_int_t, z_trn, z_trb, z_tri, z_trt, z_trl, z_ixt, z_ixl, z_slt, z_sll, z_sls, z_lent, z_lenl, z_abs, z_max, z_min, z_toi, z_tob, z_tut, z_tul, z_lit, z_lil, z_any, z_all, z_sum, z_app, z_set, z_isn, z_isb, z_isi, z_iss, z_ist, z_isl, z_revl, isNon, atI_0, atI_1, atI_2, atI_3, ixN_1, ixN_2, ixN_3, List.map_cons, List.map_nil, List.length_cons, List.length_nil, List.replicate, List.cons_append, List.nil_append, List.append_nil, List.set_cons_zero, List.set_cons_succ, List.getElem?_cons_zero, List.getElem?_cons_succ, Nat.reduceAdd, Nat.reduceSub, Nat.reduceLT, Nat.reduceLeDiff, Nat.reduceEqDiff, Int.reduceNeg, Int.reduceAdd, Int.reduceSub, Int.reduceMul, Int.reducePow, Int.reduceToNat, Int.reduceLT, Int.reduceLE, Int.reduceEq, if_true, if_false, Bool.false_eq_true, decide_true, decide_false, true_and, and_true, Bool.not_true, Bool.not_false, List.set_nil, List.length_set, ne_eq, not_false_eq_true, reduceCtorEq, and_self, List.isEmpty_cons, List.isEmpty_nil, List.length_map, List.set_set, decide_eq_true_eq, e_law_2, eB, eT, eF, eS, eE, eR, eL, hs2]
  refine hB _ _ _ _ ⟨m, n, A0, b, rfl, B, fun r S1 k1 hr => ?_⟩
  cases r with
  | false =>
    have hd : Dep m n (rb b) := Classical.byContradiction fun h => Bool.false_ne_true (hr.2 h)
    simp only [wpSs, wpS, wpE, wpEs, wpO, wpC, wpT, wpTg, wpTs, wpI, wipeU, startU, z_cell, z_slot, z_int, z_bl, z_tup, z_fn, z_optb, z_hN, z_hB, z_hC, z_hP, z_hK, z_lst, z_nil, z_cons, z_opt, z_optu, z_srct, z_srcl, z_bopi, z_bopt, z_bopl, z_bopm, z_add, z_sub, z_mul, z_div, z_mod, z_pow, z_auga, z_augs, z_augd, z_eqii, z_eqss, z_eqbb, z_eqtt, z_eqll, z_ceq, z_cne, z_clt, z_cle, z_cgt, z_cge, z_cin, z_cni, z_int_t, z_trn, z_trb, z_tri, z_trt, z_trl, z_ixt, z_ixl, z_slt, z_sll, z_sls, z_lent, z_lenl, z_abs, z_max, z_min, z_toi, z_tob, z_tut, z_tul, z_lit, z_lil, z_any, z_all, z_sum, z_app, z_set, z_isn, z_isb, z_isi, z_iss, z_ist, z_isl, z_revl, isNon, atI_0, atI_1, atI_2, atI_3, ixN_1, ixN_2, ixN_3, List.map_cons, List.map_nil, List.length_cons, List.length_nil, List.replicate, List.cons_append, List.nil_append, List.append_nil, List.set_cons_zero, List.set_cons_succ, List.getElem?_cons_zero, List.getElem?_cons_succ, Nat.reduceAdd, Nat.reduceSub, Nat.reduceLT, Nat.reduceLeDiff, Nat.reduceEqDiff, Int.reduceNeg, Int.reduceAdd, Int.reduceSub, Int.reduceMul, Int.reducePow, Int.reduceToNat, Int.reduceLT, Int.reduceLE, Int.reduceEq, if_true, if_false, Bool.false_eq_true, decide_true, decide_false, true_and, and_true, Bool.not_true, Bool.not_false, List.set_nil, List.length_set, ne_eq, not_false_eq_true, reduceCtorEq, and_self, List.isEmpty_cons, List.isEmpty_nil, List.length_map, List.set_set, decide_eq_true_eq]
    refine hT _ _ _ _ ⟨m, n, A0, b, rfl, B, fun h => absurd hd h, fun _ S2 k2 => ?_⟩
    simp only [wpSs, wpS, wpE, wpEs, wpO, wpC, wpT, wpTg, wpTs, wpI, wipeU, startU, z_cell, z_slot, z_int, z_bl, z_tup, z_fn, z_optb, z_hN, z_hB, z_hC, z_hP, z_hK, z_lst, z_nil, z_cons, z_opt, z_optu, z_srct, z_srcl, z_bopi, z_bopt, z_bopl, z_bopm, z_add, z_sub, z_mul, z_div, z_mod, z_pow, z_auga, z_augs, z_augd, z_eqii, z_eqss, z_eqbb, z_eqtt, z_eqll, z_ceq, z_cne, z_clt, z_cle, z_cgt, z_cge, z_cin, z_cni, z_int_t, z_trn, z_trb, z_tri, z_trt, z_trl, z_ixt, z_ixl, z_slt, z_sll, z_sls, z_lent, z_lenl, z_abs, z_max, z_min, z_toi, z_tob, z_tut, z_tul, z_lit, z_lil, z_any, z_all, z_sum, z_app, z_set, z_isn, z_isb, z_isi, z_iss, z_ist, z_isl, z_revl, isNon, atI_0, atI_1, atI_2, atI_3, ixN_1, ixN_2, ixN_3, List.map_cons, List.map_nil, List.length_cons, List.length_nil, List.replicate, List.cons_append, List.nil_append, List.append_nil, List.set_cons_zero, List.set_cons_succ, List.getElem?_cons_zero, List.getElem?_cons_succ, Nat.reduceAdd, Nat.reduceSub, Nat.reduceLT, Nat.reduceLeDiff, Nat.reduceEqDiff, Int.reduceNeg, Int.reduceAdd, Int.reduceSub, Int.reduceMul, Int.reducePow, Int.reduceToNat, Int.reduceLT, Int.reduceLE, Int.reduceEq, if_true, if_false, Bool.false_eq_true, decide_true, decide_false, true_and, and_true, Bool.not_true, Bool.not_false, List.set_nil, List.length_set, ne_eq, not_false_eq_true, reduceCtorEq, and_self, List.isEmpty_cons, List.isEmpty_nil, List.length_map, List.set_set, decide_eq_true_eq]
    exact hF _ _ _ _ ⟨m, n, A0, b, rfl, B, hd, fun S3 k3 => hQ _⟩
  | true =>
    have hd := hr.1 rfl
    simp only [wpSs, wpS, wpE, wpEs, wpO, wpC, wpT, wpTg, wpTs, wpI, wipeU, startU, z_cell, z_slot, z_int, z_bl, z_tup, z_fn, z_optb, z_hN, z_hB, z_hC, z_hP, z_hK, z_lst, z_nil, z_cons, z_opt, z_optu, z_srct, z_srcl, z_bopi, z_bopt, z_bopl, z_bopm, z_add, z_sub, z_mul, z_div, z_mod, z_pow, z_auga, z_augs, z_augd, z_eqii, z_eqss, z_eqbb, z_eqtt, z_eqll, z_ceq, z_cne, z_clt, z_cle, z_cgt, z_cge, z_cin, z_cni, z_int_t, z_trn, z_trb, z_tri, z_trt, z_trl, z_ixt, z_ixl, z_slt, z_sll, z_sls, z_lent, z_lenl, z_abs, z_max, z_min, z_toi, z_tob, z_tut, z_tul, z_lit, z_lil, z_any, z_all, z_sum, z_app, z_set, z_isn, z_isb, z_isi, z_iss, z_ist, z_isl, z_revl, isNon, atI_0, atI_1, atI_2, atI_3, ixN_1, ixN_2, ixN_3, List.map_cons, List.map_nil, List.length_cons, List.length_nil, List.replicate, List.cons_append, List.nil_append, List.append_nil, List.set_cons_zero, List.set_cons_succ, List.getElem?_cons_zero, List.getElem?_cons_succ, Nat.reduceAdd, Nat.reduceSub, Nat.reduceLT, Nat.reduceLeDiff, Nat.reduceEqDiff, Int.reduceNeg, Int.reduceAdd, Int.reduceSub, Int.reduceMul, Int.reducePow, Int.reduceToNat, Int.reduceLT, Int.reduceLE, Int.reduceEq, if_true, if_false, Bool.false_eq_true, decide_true, decide_false, true_and, and_true, Bool.not_true, Bool.not_false, List.set_nil, List.length_set, ne_eq, not_false_eq_true, reduceCtorEq, and_self, List.isEmpty_cons, List.isEmpty_nil, List.length_map, List.set_set, decide_eq_true_eq]
    refine hSq _ _ _ _ ⟨m, n, A0, b, rfl, B, fun l S2 hl k2 _ => ?_⟩
    simp only [wpSs, wpS, wpE, wpEs, wpO, wpC, wpT, wpTg, wpTs, wpI, wipeU, startU, z_cell, z_slot, z_int, z_bl, z_tup, z_fn, z_optb, z_hN, z_hB, z_hC, z_hP, z_hK, z_lst, z_nil, z_cons, z_opt, z_optu, z_srct, z_srcl, z_bopi, z_bopt, z_bopl, z_bopm, z_add, z_sub, z_mul, z_div, z_mod, z_pow, z_auga, z_augs, z_augd, z_eqii, z_eqss, z_eqbb, z_eqtt, z_eqll, z_ceq, z_cne, z_clt, z_cle, z_cgt, z_cge, z_cin, z_cni, z_int_t, z_trn, z_trb, z_tri, z_trt, z_trl, z_ixt, z_ixl, z_slt, z_sll, z_sls, z_lent, z_lenl, z_abs, z_max, z_min, z_toi, z_tob, z_tut, z_tul, z_lit, z_lil, z_any, z_all, z_sum, z_app, z_set, z_isn, z_isb, z_isi, z_iss, z_ist, z_isl, z_revl, isNon, atI_0, atI_1, atI_2, atI_3, ixN_1, ixN_2, ixN_3, List.map_cons, List.map_nil, List.length_cons, List.length_nil, List.replicate, List.cons_append, List.nil_append, List.append_nil, List.set_cons_zero, List.set_cons_succ, List.getElem?_cons_zero, List.getElem?_cons_succ, Nat.reduceAdd, Nat.reduceSub, Nat.reduceLT, Nat.reduceLeDiff, Nat.reduceEqDiff, Int.reduceNeg, Int.reduceAdd, Int.reduceSub, Int.reduceMul, Int.reducePow, Int.reduceToNat, Int.reduceLT, Int.reduceLE, Int.reduceEq, if_true, if_false, Bool.false_eq_true, decide_true, decide_false, true_and, and_true, Bool.not_true, Bool.not_false, List.set_nil, List.length_set, ne_eq, not_false_eq_true, reduceCtorEq, and_self, List.isEmpty_cons, List.isEmpty_nil, List.length_map, List.set_set, decide_eq_true_eq]
    refine hT _ _ _ _ ⟨m, n, A0, b, rfl, B, fun _ S3 k3 => ?_, fun h => absurd h hd⟩
    have hl3 : S3[l]? = some (.lst [muU m n b, sqU m n b]) := by rw [k3.same l (List.getElem?_eq_some_iff.1 hl).1 trivial]; exact hl
    have ex := exa_told (n := n) (b := b) hm
    have d1 : dats 59 [muU m n b, sqU m n b] = true := exa_dats 59 _ (dats_mono 4 59 _ ex.2 (by decide))
    have d2 : eqvs [muU m n b, sqU m n b] [muU m n b, sqU m n b] = true := eqvs_refl 4 _ ex.2
    simp only [wpSs, wpS, wpE, wpEs, wpO, wpC, wpT, wpTg, wpTs, wpI, wipeU, startU, z_cell, z_slot, z_int, z_bl, z_tup, z_fn, z_optb, z_hN, z_hB, z_hC, z_hP, z_hK, z_lst, z_nil, z_cons, z_opt, z_optu, z_srct, z_srcl, z_bopi, z_bopt, z_bopl, z_bopm, z_add, z_sub, z_mul, z_div, z_mod, z_pow, z_auga, z_augs, z_augd, z_eqii, z_eqss, z_eqbb, z_eqtt, z_eqll, z_ceq, z_cne, z_clt, z_cle, z_cgt, z_cge, z_cin, z_cni, z_int_t, z_trn, z_trb, z_tri, z_trt, z_trl, z_ixt, z_ixl, z_slt, z_sll, z_sls, z_lent, z_lenl, z_abs, z_max, z_min, z_toi, z_tob, z_tut, z_tul, z_lit, z_lil, z_any, z_all, z_sum, z_app, z_set, z_isn, z_isb, z_isi, z_iss, z_ist, z_isl, z_revl, isNon, atI_0, atI_1, atI_2, atI_3, ixN_1, ixN_2, ixN_3, List.map_cons, List.map_nil, List.length_cons, List.length_nil, List.replicate, List.cons_append, List.nil_append, List.append_nil, List.set_cons_zero, List.set_cons_succ, List.getElem?_cons_zero, List.getElem?_cons_succ, Nat.reduceAdd, Nat.reduceSub, Nat.reduceLT, Nat.reduceLeDiff, Nat.reduceEqDiff, Int.reduceNeg, Int.reduceAdd, Int.reduceSub, Int.reduceMul, Int.reducePow, Int.reduceToNat, Int.reduceLT, Int.reduceLE, Int.reduceEq, if_true, if_false, Bool.false_eq_true, decide_true, decide_false, true_and, and_true, Bool.not_true, Bool.not_false, List.set_nil, List.length_set, ne_eq, not_false_eq_true, reduceCtorEq, and_self, List.isEmpty_cons, List.isEmpty_nil, List.length_map, List.set_set, decide_eq_true_eq, hl3, d1, d2]
    refine hE _ _ _ _ ⟨_, rfl, ex, fun S4 k4 => ?_⟩
    simp only [wpSs, wpS, wpE, wpEs, wpO, wpC, wpT, wpTg, wpTs, wpI, wipeU, startU, z_cell, z_slot, z_int, z_bl, z_tup, z_fn, z_optb, z_hN, z_hB, z_hC, z_hP, z_hK, z_lst, z_nil, z_cons, z_opt, z_optu, z_srct, z_srcl, z_bopi, z_bopt, z_bopl, z_bopm, z_add, z_sub, z_mul, z_div, z_mod, z_pow, z_auga, z_augs, z_augd, z_eqii, z_eqss, z_eqbb, z_eqtt, z_eqll, z_ceq, z_cne, z_clt, z_cle, z_cgt, z_cge, z_cin, z_cni, z_int_t, z_trn, z_trb, z_tri, z_trt, z_trl, z_ixt, z_ixl, z_slt, z_sll, z_sls, z_lent, z_lenl, z_abs, z_max, z_min, z_toi, z_tob, z_tut, z_tul, z_lit, z_lil, z_any, z_all, z_sum, z_app, z_set, z_isn, z_isb, z_isi, z_iss, z_ist, z_isl, z_revl, isNon, atI_0, atI_1, atI_2, atI_3, ixN_1, ixN_2, ixN_3, List.map_cons, List.map_nil, List.length_cons, List.length_nil, List.replicate, List.cons_append, List.nil_append, List.append_nil, List.set_cons_zero, List.set_cons_succ, List.getElem?_cons_zero, List.getElem?_cons_succ, Nat.reduceAdd, Nat.reduceSub, Nat.reduceLT, Nat.reduceLeDiff, Nat.reduceEqDiff, Int.reduceNeg, Int.reduceAdd, Int.reduceSub, Int.reduceMul, Int.reducePow, Int.reduceToNat, Int.reduceLT, Int.reduceLE, Int.reduceEq, if_true, if_false, Bool.false_eq_true, decide_true, decide_false, true_and, and_true, Bool.not_true, Bool.not_false, List.set_nil, List.length_set, ne_eq, not_false_eq_true, reduceCtorEq, and_self, List.isEmpty_cons, List.isEmpty_nil, List.length_map, List.set_set, decide_eq_true_eq]
    refine hR _ _ _ _ ⟨m, n, A0, b, rfl, B, fun _ r S5 k5 hr5 => ?_, fun h => absurd h hd⟩
    simp only [wpSs, wpS, wpE, wpEs, wpO, wpC, wpT, wpTg, wpTs, wpI, wipeU, startU, z_cell, z_slot, z_int, z_bl, z_tup, z_fn, z_optb, z_hN, z_hB, z_hC, z_hP, z_hK, z_lst, z_nil, z_cons, z_opt, z_optu, z_srct, z_srcl, z_bopi, z_bopt, z_bopl, z_bopm, z_add, z_sub, z_mul, z_div, z_mod, z_pow, z_auga, z_augs, z_augd, z_eqii, z_eqss, z_eqbb, z_eqtt, z_eqll, z_ceq, z_cne, z_clt, z_cle, z_cgt, z_cge, z_cin, z_cni, z_int_t, z_trn, z_trb, z_tri, z_trt, z_trl, z_ixt, z_ixl, z_slt, z_sll, z_sls, z_lent, z_lenl, z_abs, z_max, z_min, z_toi, z_tob, z_tut, z_tul, z_lit, z_lil, z_any, z_all, z_sum, z_app, z_set, z_isn, z_isb, z_isi, z_iss, z_ist, z_isl, z_revl, isNon, atI_0, atI_1, atI_2, atI_3, ixN_1, ixN_2, ixN_3, List.map_cons, List.map_nil, List.length_cons, List.length_nil, List.replicate, List.cons_append, List.nil_append, List.append_nil, List.set_cons_zero, List.set_cons_succ, List.getElem?_cons_zero, List.getElem?_cons_succ, Nat.reduceAdd, Nat.reduceSub, Nat.reduceLT, Nat.reduceLeDiff, Nat.reduceEqDiff, Int.reduceNeg, Int.reduceAdd, Int.reduceSub, Int.reduceMul, Int.reducePow, Int.reduceToNat, Int.reduceLT, Int.reduceLE, Int.reduceEq, if_true, if_false, Bool.false_eq_true, decide_true, decide_false, true_and, and_true, Bool.not_true, Bool.not_false, List.set_nil, List.length_set, ne_eq, not_false_eq_true, reduceCtorEq, and_self, List.isEmpty_cons, List.isEmpty_nil, List.length_map, List.set_set, decide_eq_true_eq, t_bb]
    refine hR _ _ _ _ ⟨m, n, A0, b, rfl, B, fun _ r S5 k5 hr5 => ?_, fun h => absurd h hd⟩
    simp only [wpSs, wpS, wpE, wpEs, wpO, wpC, wpT, wpTg, wpTs, wpI, wipeU, startU, z_cell, z_slot, z_int, z_bl, z_tup, z_fn, z_optb, z_hN, z_hB, z_hC, z_hP, z_hK, z_lst, z_nil, z_cons, z_opt, z_optu, z_srct, z_srcl, z_bopi, z_bopt, z_bopl, z_bopm, z_add, z_sub, z_mul, z_div, z_mod, z_pow, z_auga, z_augs, z_augd, z_eqii, z_eqss, z_eqbb, z_eqtt, z_eqll, z_ceq, z_cne, z_clt, z_cle, z_cgt, z_cge, z_cin, z_cni, z_int_t, z_trn, z_trb, z_tri, z_trt, z_trl, z_ixt, z_ixl, z_slt, z_sll, z_sls, z_lent, z_lenl, z_abs, z_max, z_min, z_toi, z_tob, z_tut, z_tul, z_lit, z_lil, z_any, z_all, z_sum, z_app, z_set, z_isn, z_isb, z_isi, z_iss, z_ist, z_isl, z_revl, isNon, atI_0, atI_1, atI_2, atI_3, ixN_1, ixN_2, ixN_3, List.map_cons, List.map_nil, List.length_cons, List.length_nil, List.replicate, List.cons_append, List.nil_append, List.append_nil, List.set_cons_zero, List.set_cons_succ, List.getElem?_cons_zero, List.getElem?_cons_succ, Nat.reduceAdd, Nat.reduceSub, Nat.reduceLT, Nat.reduceLeDiff, Nat.reduceEqDiff, Int.reduceNeg, Int.reduceAdd, Int.reduceSub, Int.reduceMul, Int.reducePow, Int.reduceToNat, Int.reduceLT, Int.reduceLE, Int.reduceEq, if_true, if_false, Bool.false_eq_true, decide_true, decide_false, true_and, and_true, Bool.not_true, Bool.not_false, List.set_nil, List.length_set, ne_eq, not_false_eq_true, reduceCtorEq, and_self, List.isEmpty_cons, List.isEmpty_nil, List.length_map, List.set_set, decide_eq_true_eq]
    refine hLR _ _ _ _ ⟨m, n, A0, b, rfl, B, fun r6 S6 k6 hr6 => ?_⟩
    have e : r = r6 := by
      have := hr5.trans hr6.symm
      cases r <;> cases r6 <;> simp_all
    subst e
    simp only [wpSs, wpS, wpE, wpEs, wpO, wpC, wpT, wpTg, wpTs, wpI, wipeU, startU, z_cell, z_slot, z_int, z_bl, z_tup, z_fn, z_optb, z_hN, z_hB, z_hC, z_hP, z_hK, z_lst, z_nil, z_cons, z_opt, z_optu, z_srct, z_srcl, z_bopi, z_bopt, z_bopl, z_bopm, z_add, z_sub, z_mul, z_div, z_mod, z_pow, z_auga, z_augs, z_augd, z_eqii, z_eqss, z_eqbb, z_eqtt, z_eqll, z_ceq, z_cne, z_clt, z_cle, z_cgt, z_cge, z_cin, z_cni, z_int_t, z_trn, z_trb, z_tri, z_trt, z_trl, z_ixt, z_ixl, z_slt, z_sll, z_sls, z_lent, z_lenl, z_abs, z_max, z_min, z_toi, z_tob, z_tut, z_tul, z_lit, z_lil, z_any, z_all, z_sum, z_app, z_set, z_isn, z_isb, z_isi, z_iss, z_ist, z_isl, z_revl, isNon, atI_0, atI_1, atI_2, atI_3, ixN_1, ixN_2, ixN_3, List.map_cons, List.map_nil, List.length_cons, List.length_nil, List.replicate, List.cons_append, List.nil_append, List.append_nil, List.set_cons_zero, List.set_cons_succ, List.getElem?_cons_zero, List.getElem?_cons_succ, Nat.reduceAdd, Nat.reduceSub, Nat.reduceLT, Nat.reduceLeDiff, Nat.reduceEqDiff, Int.reduceNeg, Int.reduceAdd, Int.reduceSub, Int.reduceMul, Int.reducePow, Int.reduceToNat, Int.reduceLT, Int.reduceLE, Int.reduceEq, if_true, if_false, Bool.false_eq_true, decide_true, decide_false, true_and, and_true, Bool.not_true, Bool.not_false, List.set_nil, List.length_set, ne_eq, not_false_eq_true, reduceCtorEq, and_self, List.isEmpty_cons, List.isEmpty_nil, List.length_map, List.set_set, decide_eq_true_eq]
    have : (r == r) = true := by simp
    rw [this]
    exact hQ _
theorem law_1 (G : Gm) (hTk : Has G "_law_take" spTake) (hB : Has G "_law_is_basis" spIsBas) (hT : Has G "_law_told" spTold) (hF : Has G "_law_refused" spLRef) (hSq : Has G "_law_squares" spSq) (hE : Has G "_law_exact" (spExact 5)) (hR : Has G "is_reduced" spRed) (hLR : Has G "_law_is_reduced" spLRed)
    {X : ExS} {D : En} (c k m n A0 : Nat) (b : Nat → Nat → Int) (hn : 1 ≤ n) (hw : (m ≤ 3 ∧ n ≤ 5 ∧ Ent b 49) ∨ (m ≤ 6 ∧ n ≤ 7 ∧ Ent b 6)) (o0 o3 o4 o5 : Option U) (S : Sto) (hC : Cs S c k) (hk : k < 900000) (hQ : ∀ S2, D.rt (.bl true) S2) : wpSs G i_law_1 X D [o0, some (.lst c), some (zMat m n b), o3, o4, o5] S := by
  have bas : ∀ b, (m ≤ 3 ∧ n ≤ 5 ∧ Ent b 49) ∨ (m ≤ 6 ∧ n ≤ 7 ∧ Ent b 6) → ∃ A0, Bas m n b A0 := by
    rintro b (⟨h1, h2, h3⟩ | ⟨h1, h2, h3⟩)
    · exact ⟨_, bas1 h1 h2 h3⟩
    · exact ⟨_, bas2 h1 h2 h3⟩
  have go : ∀ b S, ((m ≤ 3 ∧ n ≤ 5 ∧ Ent b 49) ∨ (m ≤ 6 ∧ n ≤ 7 ∧ Ent b 6)) → wpSs G i_law_2 X D [o0, some (.lst c), some (zMat m n b), o3, o4, o5] S := fun b S h => by
    obtain ⟨A0, B⟩ := bas b h
    exact law_2 G hB hT hF hSq hE hR hLR m n A0 b B _ _ _ _ _ S hQ
  obtain ⟨sT, eT, hTk⟩ := hTk
  have hs3 : 3 ≤ sizeLine := by decide
  have hs1 : 1 ≤ sizeLine := by decide
  have hs7 : 7 ≤ sizeLine := by decide
  unfold zMat
  simp only [wpSs, wpS, wpE, wpEs, wpO, wpC, wpT, wpTg, wpTs, wpI, wipeU, startU, z_cell, z_slot, z_int, z_bl, z_tup, z_fn, z_optb, z_hN, z_hB, z_hC, z_hP, z_hK, z_lst, z_nil, z_cons, z_opt, z_optu, z_srct, z_srcl, z_bopi, z_bopt, z_bopl, z_bopm, z_add, z_sub, z_mul, z_div, z_mod, z_pow, z_auga, z_augs, z_augd, z_eqii, z_eqss, z_eqbb, z_eqtt, z_eqll, z_ceq, z_cne, z_clt, z_cle, z_cgt, z_cge, z_cin, z_cni, z_int_t, z_trn, z_trb, z_tri, z_trt, z_trl, z_ixt, z_ixl, z_slt, z_sll, z_sls, z_lent, z_lenl, z_abs, z_max, z_min, z_toi, z_tob, z_tut, z_tul, z_lit, z_lil, z_any, z_all, z_sum, z_app, z_set, z_isn, z_isb, z_isi, z_iss, z_ist, z_isl, z_revl, isNon, atI_0, atI_1, atI_2, atI_3, ixN_1, ixN_2, ixN_3, List.map_cons, List.map_nil, List.length_cons, List.length_nil, List.replicate, List.cons_append, List.nil_append, List.append_nil, List.set_cons_zero, List.set_cons_succ, List.getElem?_cons_zero, List.getElem?_cons_succ, Nat.reduceAdd, Nat.reduceSub, Nat.reduceLT, Nat.reduceLeDiff, Nat.reduceEqDiff, Int.reduceNeg, Int.reduceAdd, Int.reduceSub, Int.reduceMul, Int.reducePow, Int.reduceToNat, Int.reduceLT, Int.reduceLE, Int.reduceEq, if_true, if_false, Bool.false_eq_true, decide_true, decide_false, true_and, and_true, Bool.not_true, Bool.not_false, List.set_nil, List.length_set, ne_eq, not_false_eq_true, reduceCtorEq, and_self, List.isEmpty_cons, List.isEmpty_nil, List.length_map, List.set_set, decide_eq_true_eq, e_law_1, eT, hs3, hs1]
  by_cases h1 : (1 : Int) < (m : Int)
  · simp only [wpSs, wpS, wpE, wpEs, wpO, wpC, wpT, wpTg, wpTs, wpI, wipeU, startU, z_cell, z_slot, z_int, z_bl, z_tup, z_fn, z_optb, z_hN, z_hB, z_hC, z_hP, z_hK, z_lst, z_nil, z_cons, z_opt, z_optu, z_srct, z_srcl, z_bopi, z_bopt, z_bopl, z_bopm, z_add, z_sub, z_mul, z_div, z_mod, z_pow, z_auga, z_augs, z_augd, z_eqii, z_eqss, z_eqbb, z_eqtt, z_eqll, z_ceq, z_cne, z_clt, z_cle, z_cgt, z_cge, z_cin, z_cni, z_int_t, z_trn, z_trb, z_tri, z_trt, z_trl, z_ixt, z_ixl, z_slt, z_sll, z_sls, z_lent, z_lenl, z_abs, z_max, z_min, z_toi, z_tob, z_tut, z_tul, z_lit, z_lil, z_any, z_all, z_sum, z_app, z_set, z_isn, z_isb, z_isi, z_iss, z_ist, z_isl, z_revl, isNon, atI_0, atI_1, atI_2, atI_3, ixN_1, ixN_2, ixN_3, List.map_cons, List.map_nil, List.length_cons, List.length_nil, List.replicate, List.cons_append, List.nil_append, List.append_nil, List.set_cons_zero, List.set_cons_succ, List.getElem?_cons_zero, List.getElem?_cons_succ, Nat.reduceAdd, Nat.reduceSub, Nat.reduceLT, Nat.reduceLeDiff, Nat.reduceEqDiff, Int.reduceNeg, Int.reduceAdd, Int.reduceSub, Int.reduceMul, Int.reducePow, Int.reduceToNat, Int.reduceLT, Int.reduceLE, Int.reduceEq, if_true, if_false, Bool.false_eq_true, decide_true, decide_false, true_and, and_true, Bool.not_true, Bool.not_false, List.set_nil, List.length_set, ne_eq, not_false_eq_true, reduceCtorEq, and_self, List.isEmpty_cons, List.isEmpty_nil, List.length_map, List.set_set, decide_eq_true_eq, h1]
    refine hTk _ _ _ _ ⟨c, 6, k, rfl, by decide, by decide, hC, by omega, fun dg S2 d0 d1 e2 c2 => ?_⟩
    simp only [wpSs, wpS, wpE, wpEs, wpO, wpC, wpT, wpTg, wpTs, wpI, wipeU, startU, z_cell, z_slot, z_int, z_bl, z_tup, z_fn, z_optb, z_hN, z_hB, z_hC, z_hP, z_hK, z_lst, z_nil, z_cons, z_opt, z_optu, z_srct, z_srcl, z_bopi, z_bopt, z_bopl, z_bopm, z_add, z_sub, z_mul, z_div, z_mod, z_pow, z_auga, z_augs, z_augd, z_eqii, z_eqss, z_eqbb, z_eqtt, z_eqll, z_ceq, z_cne, z_clt, z_cle, z_cgt, z_cge, z_cin, z_cni, z_int_t, z_trn, z_trb, z_tri, z_trt, z_trl, z_ixt, z_ixl, z_slt, z_sll, z_sls, z_lent, z_lenl, z_abs, z_max, z_min, z_toi, z_tob, z_tut, z_tul, z_lit, z_lil, z_any, z_all, z_sum, z_app, z_set, z_isn, z_isb, z_isi, z_iss, z_ist, z_isl, z_revl, isNon, atI_0, atI_1, atI_2, atI_3, ixN_1, ixN_2, ixN_3, List.map_cons, List.map_nil, List.length_cons, List.length_nil, List.replicate, List.cons_append, List.nil_append, List.append_nil, List.set_cons_zero, List.set_cons_succ, List.getElem?_cons_zero, List.getElem?_cons_succ, Nat.reduceAdd, Nat.reduceSub, Nat.reduceLT, Nat.reduceLeDiff, Nat.reduceEqDiff, Int.reduceNeg, Int.reduceAdd, Int.reduceSub, Int.reduceMul, Int.reducePow, Int.reduceToNat, Int.reduceLT, Int.reduceLE, Int.reduceEq, if_true, if_false, Bool.false_eq_true, decide_true, decide_false, true_and, and_true, Bool.not_true, Bool.not_false, List.set_nil, List.length_set, ne_eq, not_false_eq_true, reduceCtorEq, and_self, List.isEmpty_cons, List.isEmpty_nil, List.length_map, List.set_set, decide_eq_true_eq]
    by_cases h2 : dg = 0
    · have a0 : ((List.range m).map fun i => U.tup ((List.range n).map fun j => U.int (b i j)))[0]? = some (.tup ((List.range n).map fun j => U.int (b 0 j))) := by
        rw [List.getElem?_map, List.getElem?_range (by omega)]; rfl
      have cut : cutU ((List.range m).map fun i => U.tup ((List.range n).map fun j => U.int (b i j))) none (some (-1)) = (List.range (m - 1)).map fun i => U.tup ((List.range n).map fun j => U.int (b i j)) := by
        unfold cutU
        have e1 : HT.sIx ((List.range m).map fun i => U.tup ((List.range n).map fun j => U.int (b i j))).length 0 none = 0 := rfl
        have e2 : HT.sIx ((List.range m).map fun i => U.tup ((List.range n).map fun j => U.int (b i j))).length ((List.range m).map fun i => U.tup ((List.range n).map fun j => U.int (b i j))).length (some (-1)) = m - 1 := by
          unfold HT.sIx
          simp
          omega
        rw [e1, e2, List.drop_zero, ← List.map_take, List.take_range]
        congr 2
        omega
      simp only [wpSs, wpS, wpE, wpEs, wpO, wpC, wpT, wpTg, wpTs, wpI, wipeU, startU, z_cell, z_slot, z_int, z_bl, z_tup, z_fn, z_optb, z_hN, z_hB, z_hC, z_hP, z_hK, z_lst, z_nil, z_cons, z_opt, z_optu, z_srct, z_srcl, z_bopi, z_bopt, z_bopl, z_bopm, z_add, z_sub, z_mul, z_div, z_mod, z_pow, z_auga, z_augs, z_augd, z_eqii, z_eqss, z_eqbb, z_eqtt, z_eqll, z_ceq, z_cne, z_clt, z_cle, z_cgt, z_cge, z_cin, z_cni, z_int_t, z_trn, z_trb, z_tri, z_trt, z_trl, z_ixt, z_ixl, z_slt, z_sll, z_sls, z_lent, z_lenl, z_abs, z_max, z_min, z_toi, z_tob, z_tut, z_tul, z_lit, z_lil, z_any, z_all, z_sum, z_app, z_set, z_isn, z_isb, z_isi, z_iss, z_ist, z_isl, z_revl, isNon, atI_0, atI_1, atI_2, atI_3, ixN_1, ixN_2, ixN_3, List.map_cons, List.map_nil, List.length_cons, List.length_nil, List.replicate, List.cons_append, List.nil_append, List.append_nil, List.set_cons_zero, List.set_cons_succ, List.getElem?_cons_zero, List.getElem?_cons_succ, Nat.reduceAdd, Nat.reduceSub, Nat.reduceLT, Nat.reduceLeDiff, Nat.reduceEqDiff, Int.reduceNeg, Int.reduceAdd, Int.reduceSub, Int.reduceMul, Int.reducePow, Int.reduceToNat, Int.reduceLT, Int.reduceLE, Int.reduceEq, if_true, if_false, Bool.false_eq_true, decide_true, decide_false, true_and, and_true, Bool.not_true, Bool.not_false, List.set_nil, List.length_set, ne_eq, not_false_eq_true, reduceCtorEq, and_self, List.isEmpty_cons, List.isEmpty_nil, List.length_map, List.set_set, decide_eq_true_eq, h2, a0, cut]
      refine ⟨by simp; omega, ?_⟩
      have e : ((List.range (m - 1)).map fun i => U.tup ((List.range n).map fun j => U.int (b i j))) ++ [U.tup ((List.range n).map fun j => U.int (b 0 j))] = (List.range m).map fun i => U.tup ((List.range n).map fun j => U.int (if i = m - 1 then b 0 j else b i j)) := by
        have := row_ext (i := m - 1) (q := n) (b := b) (f := b 0)
        rw [show m - 1 + 1 = m by omega] at this
        exact this
      rw [e]
      refine go (fun i j => if i = m - 1 then b 0 j else b i j) S2 ?_
      rcases hw with ⟨h1, h2, h3⟩ | ⟨h1, h2, h3⟩
      · exact .inl ⟨h1, h2, fun i j => by dsimp only; split; exact h3 0 j; exact h3 i j⟩
      · exact .inr ⟨h1, h2, fun i j => by dsimp only; split; exact h3 0 j; exact h3 i j⟩
    · simp only [wpSs, wpS, wpE, wpEs, wpO, wpC, wpT, wpTg, wpTs, wpI, wipeU, startU, z_cell, z_slot, z_int, z_bl, z_tup, z_fn, z_optb, z_hN, z_hB, z_hC, z_hP, z_hK, z_lst, z_nil, z_cons, z_opt, z_optu, z_srct, z_srcl, z_bopi, z_bopt, z_bopl, z_bopm, z_add, z_sub, z_mul, z_div, z_mod, z_pow, z_auga, z_augs, z_augd, z_eqii, z_eqss, z_eqbb, z_eqtt, z_eqll, z_ceq, z_cne, z_clt, z_cle, z_cgt, z_cge, z_cin, z_cni, z_int_t, z_trn, z_trb, z_tri, z_trt, z_trl, z_ixt, z_ixl, z_slt, z_sll, z_sls, z_lent, z_lenl, z_abs, z_max, z_min, z_toi, z_tob, z_tut, z_tul, z_lit, z_lil, z_any, z_all, z_sum, z_app, z_set, z_isn, z_isb, z_isi, z_iss, z_ist, z_isl, z_revl, isNon, atI_0, atI_1, atI_2, atI_3, ixN_1, ixN_2, ixN_3, List.map_cons, List.map_nil, List.length_cons, List.length_nil, List.replicate, List.cons_append, List.nil_append, List.append_nil, List.set_cons_zero, List.set_cons_succ, List.getElem?_cons_zero, List.getElem?_cons_succ, Nat.reduceAdd, Nat.reduceSub, Nat.reduceLT, Nat.reduceLeDiff, Nat.reduceEqDiff, Int.reduceNeg, Int.reduceAdd, Int.reduceSub, Int.reduceMul, Int.reducePow, Int.reduceToNat, Int.reduceLT, Int.reduceLE, Int.reduceEq, if_true, if_false, Bool.false_eq_true, decide_true, decide_false, true_and, and_true, Bool.not_true, Bool.not_false, List.set_nil, List.length_set, ne_eq, not_false_eq_true, reduceCtorEq, and_self, List.isEmpty_cons, List.isEmpty_nil, List.length_map, List.set_set, decide_eq_true_eq, h2]
      exact go b S2 hw
  · simp only [wpSs, wpS, wpE, wpEs, wpO, wpC, wpT, wpTg, wpTs, wpI, wipeU, startU, z_cell, z_slot, z_int, z_bl, z_tup, z_fn, z_optb, z_hN, z_hB, z_hC, z_hP, z_hK, z_lst, z_nil, z_cons, z_opt, z_optu, z_srct, z_srcl, z_bopi, z_bopt, z_bopl, z_bopm, z_add, z_sub, z_mul, z_div, z_mod, z_pow, z_auga, z_augs, z_augd, z_eqii, z_eqss, z_eqbb, z_eqtt, z_eqll, z_ceq, z_cne, z_clt, z_cle, z_cgt, z_cge, z_cin, z_cni, z_int_t, z_trn, z_trb, z_tri, z_trt, z_trl, z_ixt, z_ixl, z_slt, z_sll, z_sls, z_lent, z_lenl, z_abs, z_max, z_min, z_toi, z_tob, z_tut, z_tul, z_lit, z_lil, z_any, z_all, z_sum, z_app, z_set, z_isn, z_isb, z_isi, z_iss, z_ist, z_isl, z_revl, isNon, atI_0, atI_1, atI_2, atI_3, ixN_1, ixN_2, ixN_3, List.map_cons, List.map_nil, List.length_cons, List.length_nil, List.replicate, List.cons_append, List.nil_append, List.append_nil, List.set_cons_zero, List.set_cons_succ, List.getElem?_cons_zero, List.getElem?_cons_succ, Nat.reduceAdd, Nat.reduceSub, Nat.reduceLT, Nat.reduceLeDiff, Nat.reduceEqDiff, Int.reduceNeg, Int.reduceAdd, Int.reduceSub, Int.reduceMul, Int.reducePow, Int.reduceToNat, Int.reduceLT, Int.reduceLE, Int.reduceEq, if_true, if_false, Bool.false_eq_true, decide_true, decide_false, true_and, and_true, Bool.not_true, Bool.not_false, List.set_nil, List.length_set, ne_eq, not_false_eq_true, reduceCtorEq, and_self, List.isEmpty_cons, List.isEmpty_nil, List.length_map, List.set_set, decide_eq_true_eq, h1]
    exact go b S hw
def spLaw : FSpec := fun us S Q _ => ∃ ns, us = [.scr ns] ∧ ∀ S2, Q (.bl true) S2
theorem w_law (G : Gm) (hSt : Has G "_law_start" spStart) (hBs : Has G "_law_basis" spBasis) (hTk : Has G "_law_take" spTake) (hSp : Has G "_law_sparse" spSparse) (hB : Has G "_law_is_basis" spIsBas) (hT : Has G "_law_told" spTold) (hF : Has G "_law_refused" spLRef) (hSq : Has G "_law_squares" spSq) (hE : Has G "_law_exact" (spExact 5)) (hR : Has G "is_reduced" spRed) (hLR : Has G "_law_is_reduced" spLRed) : Pf G n_law i_law spLaw := by
  rintro us S Q X ⟨ns, rfl, hQ⟩
  have go : ∀ (c k m n A0 : Nat) (b : Nat → Nat → Int) (hn : 1 ≤ n) (hw : (m ≤ 3 ∧ n ≤ 5 ∧ Ent b 49) ∨ (m ≤ 6 ∧ n ≤ 7 ∧ Ent b 6)) (o3 : Option U) (S : Sto) (hC : Cs S c k) (hk : k < 900000),
    wpSs G i_law_1 (fun c q _ S2 => X c q S2) { nx := fun _ S2 => Q .non S2, rt := Q } [some (.scr ns), some (.lst c), some (zMat m n b), o3, none, none] S := fun c k m n A0 b hn hw o3 S hC hk => law_1 G hTk hB hT hF hSq hE hR hLR c k m n A0 b hn hw _ _ _ _ S hC hk hQ
  obtain ⟨sS, eS, hSt⟩ := hSt
  obtain ⟨sB, eB, hBs⟩ := hBs
  obtain ⟨sT, eT, hTk⟩ := hTk
  obtain ⟨sP, eP, hSp⟩ := hSp
  simp only [wpSs, wpS, wpE, wpEs, wpO, wpC, wpT, wpTg, wpTs, wpI, wipeU, startU, z_cell, z_slot, z_int, z_bl, z_tup, z_fn, z_optb, z_hN, z_hB, z_hC, z_hP, z_hK, z_lst, z_nil, z_cons, z_opt, z_optu, z_srct, z_srcl, z_bopi, z_bopt, z_bopl, z_bopm, z_add, z_sub, z_mul, z_div, z_mod, z_pow, z_auga, z_augs, z_augd, z_eqii, z_eqss, z_eqbb, z_eqtt, z_eqll, z_ceq, z_cne, z_clt, z_cle, z_cgt, z_cge, z_cin, z_cni, z_int_t, z_trn, z_trb, z_tri, z_trt, z_trl, z_ixt, z_ixl, z_slt, z_sll, z_sls, z_lent, z_lenl, z_abs, z_max, z_min, z_toi, z_tob, z_tut, z_tul, z_lit, z_lil, z_any, z_all, z_sum, z_app, z_set, z_isn, z_isb, z_isi, z_iss, z_ist, z_isl, z_revl, isNon, atI_0, atI_1, atI_2, atI_3, ixN_1, ixN_2, ixN_3, List.map_cons, List.map_nil, List.length_cons, List.length_nil, List.replicate, List.cons_append, List.nil_append, List.append_nil, List.set_cons_zero, List.set_cons_succ, List.getElem?_cons_zero, List.getElem?_cons_succ, Nat.reduceAdd, Nat.reduceSub, Nat.reduceLT, Nat.reduceLeDiff, Nat.reduceEqDiff, Int.reduceNeg, Int.reduceAdd, Int.reduceSub, Int.reduceMul, Int.reducePow, Int.reduceToNat, Int.reduceLT, Int.reduceLE, Int.reduceEq, if_true, if_false, Bool.false_eq_true, decide_true, decide_false, true_and, and_true, Bool.not_true, Bool.not_false, List.set_nil, List.length_set, ne_eq, not_false_eq_true, reduceCtorEq, and_self, List.isEmpty_cons, List.isEmpty_nil, List.length_map, List.set_set, decide_eq_true_eq, n_law, e_law, eS, eB, eT, eP]
  refine hSt _ _ _ _ ⟨ns, rfl, fun c S1 c1 => ?_⟩
  simp only [wpSs, wpS, wpE, wpEs, wpO, wpC, wpT, wpTg, wpTs, wpI, wipeU, startU, z_cell, z_slot, z_int, z_bl, z_tup, z_fn, z_optb, z_hN, z_hB, z_hC, z_hP, z_hK, z_lst, z_nil, z_cons, z_opt, z_optu, z_srct, z_srcl, z_bopi, z_bopt, z_bopl, z_bopm, z_add, z_sub, z_mul, z_div, z_mod, z_pow, z_auga, z_augs, z_augd, z_eqii, z_eqss, z_eqbb, z_eqtt, z_eqll, z_ceq, z_cne, z_clt, z_cle, z_cgt, z_cge, z_cin, z_cni, z_int_t, z_trn, z_trb, z_tri, z_trt, z_trl, z_ixt, z_ixl, z_slt, z_sll, z_sls, z_lent, z_lenl, z_abs, z_max, z_min, z_toi, z_tob, z_tut, z_tul, z_lit, z_lil, z_any, z_all, z_sum, z_app, z_set, z_isn, z_isb, z_isi, z_iss, z_ist, z_isl, z_revl, isNon, atI_0, atI_1, atI_2, atI_3, ixN_1, ixN_2, ixN_3, List.map_cons, List.map_nil, List.length_cons, List.length_nil, List.replicate, List.cons_append, List.nil_append, List.append_nil, List.set_cons_zero, List.set_cons_succ, List.getElem?_cons_zero, List.getElem?_cons_succ, Nat.reduceAdd, Nat.reduceSub, Nat.reduceLT, Nat.reduceLeDiff, Nat.reduceEqDiff, Int.reduceNeg, Int.reduceAdd, Int.reduceSub, Int.reduceMul, Int.reducePow, Int.reduceToNat, Int.reduceLT, Int.reduceLE, Int.reduceEq, if_true, if_false, Bool.false_eq_true, decide_true, decide_false, true_and, and_true, Bool.not_true, Bool.not_false, List.set_nil, List.length_set, ne_eq, not_false_eq_true, reduceCtorEq, and_self, List.isEmpty_cons, List.isEmpty_nil, List.length_map, List.set_set, decide_eq_true_eq]
  refine hBs _ _ _ _ ⟨c, 0, rfl, c1, by decide, fun p q b S2 hp hq hq1 hb e2 c2 => ?_⟩
  simp only [wpSs, wpS, wpE, wpEs, wpO, wpC, wpT, wpTg, wpTs, wpI, wipeU, startU, z_cell, z_slot, z_int, z_bl, z_tup, z_fn, z_optb, z_hN, z_hB, z_hC, z_hP, z_hK, z_lst, z_nil, z_cons, z_opt, z_optu, z_srct, z_srcl, z_bopi, z_bopt, z_bopl, z_bopm, z_add, z_sub, z_mul, z_div, z_mod, z_pow, z_auga, z_augs, z_augd, z_eqii, z_eqss, z_eqbb, z_eqtt, z_eqll, z_ceq, z_cne, z_clt, z_cle, z_cgt, z_cge, z_cin, z_cni, z_int_t, z_trn, z_trb, z_tri, z_trt, z_trl, z_ixt, z_ixl, z_slt, z_sll, z_sls, z_lent, z_lenl, z_abs, z_max, z_min, z_toi, z_tob, z_tut, z_tul, z_lit, z_lil, z_any, z_all, z_sum, z_app, z_set, z_isn, z_isb, z_isi, z_iss, z_ist, z_isl, z_revl, isNon, atI_0, atI_1, atI_2, atI_3, ixN_1, ixN_2, ixN_3, List.map_cons, List.map_nil, List.length_cons, List.length_nil, List.replicate, List.cons_append, List.nil_append, List.append_nil, List.set_cons_zero, List.set_cons_succ, List.getElem?_cons_zero, List.getElem?_cons_succ, Nat.reduceAdd, Nat.reduceSub, Nat.reduceLT, Nat.reduceLeDiff, Nat.reduceEqDiff, Int.reduceNeg, Int.reduceAdd, Int.reduceSub, Int.reduceMul, Int.reducePow, Int.reduceToNat, Int.reduceLT, Int.reduceLE, Int.reduceEq, if_true, if_false, Bool.false_eq_true, decide_true, decide_false, true_and, and_true, Bool.not_true, Bool.not_false, List.set_nil, List.length_set, ne_eq, not_false_eq_true, reduceCtorEq, and_self, List.isEmpty_cons, List.isEmpty_nil, List.length_map, List.set_set, decide_eq_true_eq]
  refine hTk _ _ _ _ ⟨c, 3, _, rfl, by decide, by decide, c2, by decide, fun dg S3 d0 d1 e3 c3 => ?_⟩
  simp only [wpSs, wpS, wpE, wpEs, wpO, wpC, wpT, wpTg, wpTs, wpI, wipeU, startU, z_cell, z_slot, z_int, z_bl, z_tup, z_fn, z_optb, z_hN, z_hB, z_hC, z_hP, z_hK, z_lst, z_nil, z_cons, z_opt, z_optu, z_srct, z_srcl, z_bopi, z_bopt, z_bopl, z_bopm, z_add, z_sub, z_mul, z_div, z_mod, z_pow, z_auga, z_augs, z_augd, z_eqii, z_eqss, z_eqbb, z_eqtt, z_eqll, z_ceq, z_cne, z_clt, z_cle, z_cgt, z_cge, z_cin, z_cni, z_int_t, z_trn, z_trb, z_tri, z_trt, z_trl, z_ixt, z_ixl, z_slt, z_sll, z_sls, z_lent, z_lenl, z_abs, z_max, z_min, z_toi, z_tob, z_tut, z_tul, z_lit, z_lil, z_any, z_all, z_sum, z_app, z_set, z_isn, z_isb, z_isi, z_iss, z_ist, z_isl, z_revl, isNon, atI_0, atI_1, atI_2, atI_3, ixN_1, ixN_2, ixN_3, List.map_cons, List.map_nil, List.length_cons, List.length_nil, List.replicate, List.cons_append, List.nil_append, List.append_nil, List.set_cons_zero, List.set_cons_succ, List.getElem?_cons_zero, List.getElem?_cons_succ, Nat.reduceAdd, Nat.reduceSub, Nat.reduceLT, Nat.reduceLeDiff, Nat.reduceEqDiff, Int.reduceNeg, Int.reduceAdd, Int.reduceSub, Int.reduceMul, Int.reducePow, Int.reduceToNat, Int.reduceLT, Int.reduceLE, Int.reduceEq, if_true, if_false, Bool.false_eq_true, decide_true, decide_false, true_and, and_true, Bool.not_true, Bool.not_false, List.set_nil, List.length_set, ne_eq, not_false_eq_true, reduceCtorEq, and_self, List.isEmpty_cons, List.isEmpty_nil, List.length_map, List.set_set, decide_eq_true_eq]
  by_cases h : dg = 0
  · simp only [wpSs, wpS, wpE, wpEs, wpO, wpC, wpT, wpTg, wpTs, wpI, wipeU, startU, z_cell, z_slot, z_int, z_bl, z_tup, z_fn, z_optb, z_hN, z_hB, z_hC, z_hP, z_hK, z_lst, z_nil, z_cons, z_opt, z_optu, z_srct, z_srcl, z_bopi, z_bopt, z_bopl, z_bopm, z_add, z_sub, z_mul, z_div, z_mod, z_pow, z_auga, z_augs, z_augd, z_eqii, z_eqss, z_eqbb, z_eqtt, z_eqll, z_ceq, z_cne, z_clt, z_cle, z_cgt, z_cge, z_cin, z_cni, z_int_t, z_trn, z_trb, z_tri, z_trt, z_trl, z_ixt, z_ixl, z_slt, z_sll, z_sls, z_lent, z_lenl, z_abs, z_max, z_min, z_toi, z_tob, z_tut, z_tul, z_lit, z_lil, z_any, z_all, z_sum, z_app, z_set, z_isn, z_isb, z_isi, z_iss, z_ist, z_isl, z_revl, isNon, atI_0, atI_1, atI_2, atI_3, ixN_1, ixN_2, ixN_3, List.map_cons, List.map_nil, List.length_cons, List.length_nil, List.replicate, List.cons_append, List.nil_append, List.append_nil, List.set_cons_zero, List.set_cons_succ, List.getElem?_cons_zero, List.getElem?_cons_succ, Nat.reduceAdd, Nat.reduceSub, Nat.reduceLT, Nat.reduceLeDiff, Nat.reduceEqDiff, Int.reduceNeg, Int.reduceAdd, Int.reduceSub, Int.reduceMul, Int.reducePow, Int.reduceToNat, Int.reduceLT, Int.reduceLE, Int.reduceEq, if_true, if_false, Bool.false_eq_true, decide_true, decide_false, true_and, and_true, Bool.not_true, Bool.not_false, List.set_nil, List.length_set, ne_eq, not_false_eq_true, reduceCtorEq, and_self, List.isEmpty_cons, List.isEmpty_nil, List.length_map, List.set_set, decide_eq_true_eq, h]
    refine hTk _ _ _ _ ⟨c, 4, _, rfl, by decide, by decide, c3, by decide, fun dg4 S4 d4 d5 e4 c4 => ?_⟩
    simp only [wpSs, wpS, wpE, wpEs, wpO, wpC, wpT, wpTg, wpTs, wpI, wipeU, startU, z_cell, z_slot, z_int, z_bl, z_tup, z_fn, z_optb, z_hN, z_hB, z_hC, z_hP, z_hK, z_lst, z_nil, z_cons, z_opt, z_optu, z_srct, z_srcl, z_bopi, z_bopt, z_bopl, z_bopm, z_add, z_sub, z_mul, z_div, z_mod, z_pow, z_auga, z_augs, z_augd, z_eqii, z_eqss, z_eqbb, z_eqtt, z_eqll, z_ceq, z_cne, z_clt, z_cle, z_cgt, z_cge, z_cin, z_cni, z_int_t, z_trn, z_trb, z_tri, z_trt, z_trl, z_ixt, z_ixl, z_slt, z_sll, z_sls, z_lent, z_lenl, z_abs, z_max, z_min, z_toi, z_tob, z_tut, z_tul, z_lit, z_lil, z_any, z_all, z_sum, z_app, z_set, z_isn, z_isb, z_isi, z_iss, z_ist, z_isl, z_revl, isNon, atI_0, atI_1, atI_2, atI_3, ixN_1, ixN_2, ixN_3, List.map_cons, List.map_nil, List.length_cons, List.length_nil, List.replicate, List.cons_append, List.nil_append, List.append_nil, List.set_cons_zero, List.set_cons_succ, List.getElem?_cons_zero, List.getElem?_cons_succ, Nat.reduceAdd, Nat.reduceSub, Nat.reduceLT, Nat.reduceLeDiff, Nat.reduceEqDiff, Int.reduceNeg, Int.reduceAdd, Int.reduceSub, Int.reduceMul, Int.reducePow, Int.reduceToNat, Int.reduceLT, Int.reduceLE, Int.reduceEq, if_true, if_false, Bool.false_eq_true, decide_true, decide_false, true_and, and_true, Bool.not_true, Bool.not_false, List.set_nil, List.length_set, ne_eq, not_false_eq_true, reduceCtorEq, and_self, List.isEmpty_cons, List.isEmpty_nil, List.length_map, List.set_set, decide_eq_true_eq]
    refine hTk _ _ _ _ ⟨c, 2, _, rfl, by decide, by decide, c4, by decide, fun dg5 S5 d6 d7 e5 c5 => ?_⟩
    simp only [wpSs, wpS, wpE, wpEs, wpO, wpC, wpT, wpTg, wpTs, wpI, wipeU, startU, z_cell, z_slot, z_int, z_bl, z_tup, z_fn, z_optb, z_hN, z_hB, z_hC, z_hP, z_hK, z_lst, z_nil, z_cons, z_opt, z_optu, z_srct, z_srcl, z_bopi, z_bopt, z_bopl, z_bopm, z_add, z_sub, z_mul, z_div, z_mod, z_pow, z_auga, z_augs, z_augd, z_eqii, z_eqss, z_eqbb, z_eqtt, z_eqll, z_ceq, z_cne, z_clt, z_cle, z_cgt, z_cge, z_cin, z_cni, z_int_t, z_trn, z_trb, z_tri, z_trt, z_trl, z_ixt, z_ixl, z_slt, z_sll, z_sls, z_lent, z_lenl, z_abs, z_max, z_min, z_toi, z_tob, z_tut, z_tul, z_lit, z_lil, z_any, z_all, z_sum, z_app, z_set, z_isn, z_isb, z_isi, z_iss, z_ist, z_isl, z_revl, isNon, atI_0, atI_1, atI_2, atI_3, ixN_1, ixN_2, ixN_3, List.map_cons, List.map_nil, List.length_cons, List.length_nil, List.replicate, List.cons_append, List.nil_append, List.append_nil, List.set_cons_zero, List.set_cons_succ, List.getElem?_cons_zero, List.getElem?_cons_succ, Nat.reduceAdd, Nat.reduceSub, Nat.reduceLT, Nat.reduceLeDiff, Nat.reduceEqDiff, Int.reduceNeg, Int.reduceAdd, Int.reduceSub, Int.reduceMul, Int.reducePow, Int.reduceToNat, Int.reduceLT, Int.reduceLE, Int.reduceEq, if_true, if_false, Bool.false_eq_true, decide_true, decide_false, true_and, and_true, Bool.not_true, Bool.not_false, List.set_nil, List.length_set, ne_eq, not_false_eq_true, reduceCtorEq, and_self, List.isEmpty_cons, List.isEmpty_nil, List.length_map, List.set_set, decide_eq_true_eq]
    obtain ⟨u, hu⟩ := Int.eq_ofNat_of_zero_le d4
    obtain ⟨v, hv⟩ := Int.eq_ofNat_of_zero_le d6
    subst hu hv
    have e1 : (3 : Int) + (u : Int) = ((3 + u : Nat) : Int) := by omega
    have e2 : (3 : Int) + (u : Int) + (v : Int) = ((3 + u + v : Nat) : Int) := by omega
    rw [e2, e1]
    refine hSp _ _ _ _ ⟨c, _, 3 + u, 3 + u + v, rfl, by omega, by omega, c5, by decide, fun b2 S6 hb2 e6 c6 => ?_⟩
    simp only [wpSs, wpS, wpE, wpEs, wpO, wpC, wpT, wpTg, wpTs, wpI, wipeU, startU, z_cell, z_slot, z_int, z_bl, z_tup, z_fn, z_optb, z_hN, z_hB, z_hC, z_hP, z_hK, z_lst, z_nil, z_cons, z_opt, z_optu, z_srct, z_srcl, z_bopi, z_bopt, z_bopl, z_bopm, z_add, z_sub, z_mul, z_div, z_mod, z_pow, z_auga, z_augs, z_augd, z_eqii, z_eqss, z_eqbb, z_eqtt, z_eqll, z_ceq, z_cne, z_clt, z_cle, z_cgt, z_cge, z_cin, z_cni, z_int_t, z_trn, z_trb, z_tri, z_trt, z_trl, z_ixt, z_ixl, z_slt, z_sll, z_sls, z_lent, z_lenl, z_abs, z_max, z_min, z_toi, z_tob, z_tut, z_tul, z_lit, z_lil, z_any, z_all, z_sum, z_app, z_set, z_isn, z_isb, z_isi, z_iss, z_ist, z_isl, z_revl, isNon, atI_0, atI_1, atI_2, atI_3, ixN_1, ixN_2, ixN_3, List.map_cons, List.map_nil, List.length_cons, List.length_nil, List.replicate, List.cons_append, List.nil_append, List.append_nil, List.set_cons_zero, List.set_cons_succ, List.getElem?_cons_zero, List.getElem?_cons_succ, Nat.reduceAdd, Nat.reduceSub, Nat.reduceLT, Nat.reduceLeDiff, Nat.reduceEqDiff, Int.reduceNeg, Int.reduceAdd, Int.reduceSub, Int.reduceMul, Int.reducePow, Int.reduceToNat, Int.reduceLT, Int.reduceLE, Int.reduceEq, if_true, if_false, Bool.false_eq_true, decide_true, decide_false, true_and, and_true, Bool.not_true, Bool.not_false, List.set_nil, List.length_set, ne_eq, not_false_eq_true, reduceCtorEq, and_self, List.isEmpty_cons, List.isEmpty_nil, List.length_map, List.set_set, decide_eq_true_eq]
    exact go c _ _ _ 0 b2 (by omega) (.inr ⟨by omega, by omega, hb2⟩) _ _ c6 (by decide)
  · simp only [wpSs, wpS, wpE, wpEs, wpO, wpC, wpT, wpTg, wpTs, wpI, wipeU, startU, z_cell, z_slot, z_int, z_bl, z_tup, z_fn, z_optb, z_hN, z_hB, z_hC, z_hP, z_hK, z_lst, z_nil, z_cons, z_opt, z_optu, z_srct, z_srcl, z_bopi, z_bopt, z_bopl, z_bopm, z_add, z_sub, z_mul, z_div, z_mod, z_pow, z_auga, z_augs, z_augd, z_eqii, z_eqss, z_eqbb, z_eqtt, z_eqll, z_ceq, z_cne, z_clt, z_cle, z_cgt, z_cge, z_cin, z_cni, z_int_t, z_trn, z_trb, z_tri, z_trt, z_trl, z_ixt, z_ixl, z_slt, z_sll, z_sls, z_lent, z_lenl, z_abs, z_max, z_min, z_toi, z_tob, z_tut, z_tul, z_lit, z_lil, z_any, z_all, z_sum, z_app, z_set, z_isn, z_isb, z_isi, z_iss, z_ist, z_isl, z_revl, isNon, atI_0, atI_1, atI_2, atI_3, ixN_1, ixN_2, ixN_3, List.map_cons, List.map_nil, List.length_cons, List.length_nil, List.replicate, List.cons_append, List.nil_append, List.append_nil, List.set_cons_zero, List.set_cons_succ, List.getElem?_cons_zero, List.getElem?_cons_succ, Nat.reduceAdd, Nat.reduceSub, Nat.reduceLT, Nat.reduceLeDiff, Nat.reduceEqDiff, Int.reduceNeg, Int.reduceAdd, Int.reduceSub, Int.reduceMul, Int.reducePow, Int.reduceToNat, Int.reduceLT, Int.reduceLE, Int.reduceEq, if_true, if_false, Bool.false_eq_true, decide_true, decide_false, true_and, and_true, Bool.not_true, Bool.not_false, List.set_nil, List.length_set, ne_eq, not_false_eq_true, reduceCtorEq, and_self, List.isEmpty_cons, List.isEmpty_nil, List.length_map, List.set_set, decide_eq_true_eq, h]
    exact go c _ _ _ 0 b hq1 (.inl ⟨hp, hq, hb⟩) _ _ c3 (by decide)
end K70

set_option Elab.async false
set_option linter.all false
set_option maxRecDepth 100000
set_option maxHeartbeats 4000000
namespace K70
open PySem PySem.Spec PyProof.Rows L2 Q
/-! ### levels: a call of level k needs promises of lesser levels -/
def spK (L : List (Nat × FSpec)) (k : Nat) : FSpec := fun us S Q X => ∃ (Q0 : Ks) (X0 : Exn), (∀ u S2, Q0 u S2 → Q u S2) ∧ (∀ c p S2, X0 c p S2 → X c p S2) ∧ ∃ q ∈ L, q.1 ≤ k ∧ q.2 us S Q0 X0
theorem spK_mono (L : List (Nat × FSpec)) (k : Nat) : FMono (spK L k) := fun us S Q Q' E E' hQ hE ⟨Q0, X0, h1, h2, h⟩ => ⟨Q0, X0, fun u S2 q => hQ _ _ (h1 _ _ q), fun c p S2 q => hE _ _ _ (h2 _ _ _ q), h⟩
structure Ent_ where
  x : Str
  i : Nat
  ps : List Str
  L : List (Nat × FSpec)
def E_divisor : Ent_ := ⟨"divisor", 6, p_divisor, [(1, spGcd)]⟩
def E_fraction : Ent_ := ⟨"fraction", 8, p_fraction, [(2, spFr)]⟩
def E_is_domain : Ent_ := ⟨"is_domain", 12, p_is_domain, [(2, spIsDom)]⟩
def E_is_field : Ent_ := ⟨"is_field", 13, p_is_field, [(1, spIsF)]⟩
def E_need_field : Ent_ := ⟨"need_field", 14, p_need_field, [(2, spNF)]⟩
def E_zero : Ent_ := ⟨"zero", 15, p_zero, [(1, spZero)]⟩
def E_from_integer : Ent_ := ⟨"from_integer", 16, p_from_integer, [(1, spFromInt)]⟩
def E_add : Ent_ := ⟨"add", 18, p_add, [(3, spOp2 (· + ·))]⟩
def E_negate : Ent_ := ⟨"negate", 19, p_negate, [(1, spNeg)]⟩
def E_subtract : Ent_ := ⟨"subtract", 20, p_subtract, [(4, spOp2 (· - ·))]⟩
def E_multiply : Ent_ := ⟨"multiply", 21, p_multiply, [(3, spOp2 (· * ·))]⟩
def E_inverse : Ent_ := ⟨"inverse", 22, p_inverse, [(3, spInv)]⟩
def E_quotient : Ent_ := ⟨"quotient", 23, p_quotient, [(4, spQuot)]⟩
def E_dot : Ent_ := ⟨"dot", 25, p_dot, [(4, spDot)]⟩
def E_may_change : Ent_ := ⟨"may_change", 26, p_may_change, [(2, spMay)]⟩
def E_changed : Ent_ := ⟨"changed", 27, p_changed, [(2, spChanged)]⟩
def E_change : Ent_ := ⟨"change", 28, p_change, [(3, spChange)]⟩
def E_add_row : Ent_ := ⟨"add_row", 30, p_add_row, [(4, spAddRow)]⟩
def E_eliminate : Ent_ := ⟨"eliminate", 31, p_eliminate, [(5, spElim)]⟩
def E_pivots_of : Ent_ := ⟨"pivots_of", 32, p_pivots_of, [(6, spPiv)]⟩
def E_rank : Ent_ := ⟨"rank", 33, p_rank, [(7, spRank)]⟩
def E_fractions : Ent_ := ⟨"fractions", 37, p_fractions, [(4, spFracs)]⟩
def E_need_basis : Ent_ := ⟨"need_basis", 38, p_need_basis, [(8, spNeed)]⟩
def E_orthogonal : Ent_ := ⟨"orthogonal", 39, p_orthogonal, [(9, spOrth)]⟩
def E_is_reduced : Ent_ := ⟨"is_reduced", 40, p_is_reduced, [(10, spRed)]⟩
def E_law_start : Ent_ := ⟨"_law_start", 42, p_law_start, [(1, spStart)]⟩
def E_law_fill : Ent_ := ⟨"_law_fill", 43, p_law_fill, [(1, spFill)]⟩
def E_law_take : Ent_ := ⟨"_law_take", 44, p_law_take, [(2, spTakeD)]⟩
def E_law_common : Ent_ := ⟨"_law_common", 46, p_law_common, [(1, spGcd)]⟩
def E_law_fraction : Ent_ := ⟨"_law_fraction", 47, p_law_fraction, [(2, spFr)]⟩
def E_law_zero : Ent_ := ⟨"_law_zero", 48, p_law_zero, [(1, spZero)]⟩
def E_law_number : Ent_ := ⟨"_law_number", 50, p_law_number, [(1, spLNum)]⟩
def E_law_add : Ent_ := ⟨"_law_add", 52, p_law_add, [(3, spOp2 (· + ·))]⟩
def E_law_multiply : Ent_ := ⟨"_law_multiply", 53, p_law_multiply, [(3, spOp2 (· * ·))]⟩
def E_law_subtract : Ent_ := ⟨"_law_subtract", 54, p_law_subtract, [(4, spOp2 (· - ·))]⟩
def E_law_inverse : Ent_ := ⟨"_law_inverse", 56, p_law_inverse, [(3, spInv)]⟩
def E_law_small : Ent_ := ⟨"_law_small", 62, p_law_small, [(3, spSmallZ)]⟩
def E_law_matrix : Ent_ := ⟨"_law_matrix", 63, p_law_matrix, [(4, spMatZ)]⟩
def E_law_dot : Ent_ := ⟨"_law_dot", 64, p_law_dot, [(4, spLDot)]⟩
def E_law_basis : Ent_ := ⟨"_law_basis", 68, p_law_basis, [(5, spBasis)]⟩
def E_law_squares : Ent_ := ⟨"_law_squares", 69, p_law_squares, [(5, spSq)]⟩
def E_law_atmost : Ent_ := ⟨"_law_atmost", 70, p_law_atmost, [(1, spAtmost)]⟩
def E_law_is_reduced : Ent_ := ⟨"_law_is_reduced", 71, p_law_is_reduced, [(6, spLRed)]⟩
def E_law_is_basis : Ent_ := ⟨"_law_is_basis", 72, p_law_is_basis, [(6, spIsBas)]⟩
def E_law_told : Ent_ := ⟨"_law_told", 73, p_law_told, [(10, spTold)]⟩
def E_law_refused : Ent_ := ⟨"_law_refused", 74, p_law_refused, [(11, spLRef)]⟩
def E_law_whole : Ent_ := ⟨"_law_whole", 75, p_law_whole, [(1, spWhole)]⟩
def E_law_exact : Ent_ := ⟨"_law_exact", 79, p_law_exact, [(2, spExact 0), (3, spExact 1), (4, spExact 2), (5, spExact 3), (6, spExact 4), (7, spExact 5)]⟩
def E_law_sparse : Ent_ := ⟨"_law_sparse", 80, p_law_sparse, [(3, spSparse)]⟩
def E_law : Ent_ := ⟨"law", 81, p_law, [(12, spLaw)]⟩
def tab : List Ent_ := [E_divisor, E_fraction, E_is_domain, E_is_field, E_need_field, E_zero, E_from_integer, E_add, E_negate, E_subtract, E_multiply, E_inverse, E_quotient, E_dot, E_may_change, E_changed, E_change, E_add_row, E_eliminate, E_pivots_of, E_rank, E_fractions, E_need_basis, E_orthogonal, E_is_reduced, E_law_start, E_law_fill, E_law_take, E_law_common, E_law_fraction, E_law_zero, E_law_number, E_law_add, E_law_multiply, E_law_subtract, E_law_inverse, E_law_small, E_law_matrix, E_law_dot, E_law_basis, E_law_squares, E_law_atmost, E_law_is_reduced, E_law_is_basis, E_law_told, E_law_refused, E_law_whole, E_law_exact, E_law_sparse, E_law]
def look (f : Str) : Option Ent_ := tab.find? fun e => decide (e.x = f)
def ctl (x : Str) : Option U := if x = "Q" then some qd else if x = "Z" then some zd else none
def exl (a c : Str) : Option Bool := if a = "SingularError" ∧ c = "SingularError" then some true else none
def GK (k : Nat) : Gm := ⟨fun f => (look f).map fun e => spK e.L k, ctl, exl⟩
theorem GK_mono (k : Nat) : GMono (GK k) := fun f sp h => by
  obtain ⟨e, _, rfl⟩ := Option.map_eq_some_iff.1 h
  exact spK_mono _ _
theorem has_k (f : Str) {e : Ent_} {r k : Nat} {sp : FSpec} (h : look f = some e) (hm : (r, sp) ∈ e.L) (hk : r ≤ k) : Has (GK k) f sp :=
  ⟨spK e.L k, congrArg (Option.map _) h, fun us S Q X q => ⟨Q, X, fun _ _ z => z, fun _ _ _ z => z, (r, sp), hm, hk, q⟩⟩
theorem pf_spK {N : List Str} {ir : Ss} {L : List (Nat × FSpec)} {k : Nat} (hp : ∀ q ∈ L, q.1 ≤ k + 1 → Pf (GK k) N ir q.2) : Pf (GK k) N ir (spK L (k + 1)) := by
  rintro us S Q X ⟨Q0, X0, hQ, hX, q, hq, hr, h⟩
  exact wpSs_mono (GK_mono k) ir (D := { nx := fun _ S2 => Q0 .non S2, rt := Q0 }) (fun c p σ S2 z => hX _ _ _ z) ⟨fun σ S2 z => hQ _ _ z, fun u S2 z => hQ _ _ z, fun _ _ z => z, fun _ _ z => z⟩ (hp q hq hr us S Q0 X0 h)
section
variable {k : Nat}
theorem ct_Q : (GK k).cts "Q" = some qd := by
  show ctl "Q" = some qd
  unfold ctl
  rw [if_pos rfl]
theorem ct_Z : (GK k).cts "Z" = some zd := by
  show ctl "Z" = some zd
  unfold ctl
  rw [if_neg (by decide +kernel)]
  rw [if_pos rfl]
theorem ex_SingularError_SingularError : (GK k).exm "SingularError" "SingularError" = some true := by
  show exl "SingularError" "SingularError" = some true
  unfold exl
  rw [if_pos ⟨rfl, rfl⟩]
theorem lk_divisor : look "divisor" = some E_divisor := by kernel_rfl
theorem lk_fraction : look "fraction" = some E_fraction := by kernel_rfl
theorem lk_is_domain : look "is_domain" = some E_is_domain := by kernel_rfl
theorem lk_is_field : look "is_field" = some E_is_field := by kernel_rfl
theorem lk_need_field : look "need_field" = some E_need_field := by kernel_rfl
theorem lk_zero : look "zero" = some E_zero := by kernel_rfl
theorem lk_from_integer : look "from_integer" = some E_from_integer := by kernel_rfl
theorem lk_add : look "add" = some E_add := by kernel_rfl
theorem lk_negate : look "negate" = some E_negate := by kernel_rfl
theorem lk_subtract : look "subtract" = some E_subtract := by kernel_rfl
theorem lk_multiply : look "multiply" = some E_multiply := by kernel_rfl
theorem lk_inverse : look "inverse" = some E_inverse := by kernel_rfl
theorem lk_quotient : look "quotient" = some E_quotient := by kernel_rfl
theorem lk_dot : look "dot" = some E_dot := by kernel_rfl
theorem lk_may_change : look "may_change" = some E_may_change := by kernel_rfl
theorem lk_changed : look "changed" = some E_changed := by kernel_rfl
theorem lk_change : look "change" = some E_change := by kernel_rfl
theorem lk_add_row : look "add_row" = some E_add_row := by kernel_rfl
theorem lk_eliminate : look "eliminate" = some E_eliminate := by kernel_rfl
theorem lk_pivots_of : look "pivots_of" = some E_pivots_of := by kernel_rfl
theorem lk_rank : look "rank" = some E_rank := by kernel_rfl
theorem lk_fractions : look "fractions" = some E_fractions := by kernel_rfl
theorem lk_need_basis : look "need_basis" = some E_need_basis := by kernel_rfl
theorem lk_orthogonal : look "orthogonal" = some E_orthogonal := by kernel_rfl
theorem lk_is_reduced : look "is_reduced" = some E_is_reduced := by kernel_rfl
theorem lk_law_start : look "_law_start" = some E_law_start := by kernel_rfl
theorem lk_law_fill : look "_law_fill" = some E_law_fill := by kernel_rfl
theorem lk_law_take : look "_law_take" = some E_law_take := by kernel_rfl
theorem lk_law_common : look "_law_common" = some E_law_common := by kernel_rfl
theorem lk_law_fraction : look "_law_fraction" = some E_law_fraction := by kernel_rfl
theorem lk_law_zero : look "_law_zero" = some E_law_zero := by kernel_rfl
theorem lk_law_number : look "_law_number" = some E_law_number := by kernel_rfl
theorem lk_law_add : look "_law_add" = some E_law_add := by kernel_rfl
theorem lk_law_multiply : look "_law_multiply" = some E_law_multiply := by kernel_rfl
theorem lk_law_subtract : look "_law_subtract" = some E_law_subtract := by kernel_rfl
theorem lk_law_inverse : look "_law_inverse" = some E_law_inverse := by kernel_rfl
theorem lk_law_small : look "_law_small" = some E_law_small := by kernel_rfl
theorem lk_law_matrix : look "_law_matrix" = some E_law_matrix := by kernel_rfl
theorem lk_law_dot : look "_law_dot" = some E_law_dot := by kernel_rfl
theorem lk_law_basis : look "_law_basis" = some E_law_basis := by kernel_rfl
theorem lk_law_squares : look "_law_squares" = some E_law_squares := by kernel_rfl
theorem lk_law_atmost : look "_law_atmost" = some E_law_atmost := by kernel_rfl
theorem lk_law_is_reduced : look "_law_is_reduced" = some E_law_is_reduced := by kernel_rfl
theorem lk_law_is_basis : look "_law_is_basis" = some E_law_is_basis := by kernel_rfl
theorem lk_law_told : look "_law_told" = some E_law_told := by kernel_rfl
theorem lk_law_refused : look "_law_refused" = some E_law_refused := by kernel_rfl
theorem lk_law_whole : look "_law_whole" = some E_law_whole := by kernel_rfl
theorem lk_law_exact : look "_law_exact" = some E_law_exact := by kernel_rfl
theorem lk_law_sparse : look "_law_sparse" = some E_law_sparse := by kernel_rfl
theorem lk_law : look "law" = some E_law := by kernel_rfl
end
theorem pf_divisor (k : Nat) : ∀ q ∈ E_divisor.L, q.1 ≤ k + 1 → Pf (GK k) n_divisor i_divisor q.2 := by
  intro q hq hr
  obtain rfl := List.mem_singleton.1 hq
  have hr : 1 ≤ k + 1 := hr
  exact w_divisor _
theorem pf_fraction (k : Nat) : ∀ q ∈ E_fraction.L, q.1 ≤ k + 1 → Pf (GK k) n_fraction i_fraction q.2 := by
  intro q hq hr
  obtain rfl := List.mem_singleton.1 hq
  have hr : 2 ≤ k + 1 := hr
  exact w_fraction _ (has_k "divisor" (r := 1) (sp := spGcd) lk_divisor (by simp [E_divisor]) (by omega))
theorem pf_is_domain (k : Nat) : ∀ q ∈ E_is_domain.L, q.1 ≤ k + 1 → Pf (GK k) n_is_domain i_is_domain q.2 := by
  intro q hq hr
  obtain rfl := List.mem_singleton.1 hq
  have hr : 2 ≤ k + 1 := hr
  exact w_is_domain _ (has_k "is_field" (r := 1) (sp := spIsF) lk_is_field (by simp [E_is_field]) (by omega))
theorem pf_is_field (k : Nat) : ∀ q ∈ E_is_field.L, q.1 ≤ k + 1 → Pf (GK k) n_is_field i_is_field q.2 := by
  intro q hq hr
  obtain rfl := List.mem_singleton.1 hq
  have hr : 1 ≤ k + 1 := hr
  exact w_is_field _
theorem pf_need_field (k : Nat) : ∀ q ∈ E_need_field.L, q.1 ≤ k + 1 → Pf (GK k) n_need_field i_need_field q.2 := by
  intro q hq hr
  obtain rfl := List.mem_singleton.1 hq
  have hr : 2 ≤ k + 1 := hr
  exact w_need_field _ (has_k "is_field" (r := 1) (sp := spIsF) lk_is_field (by simp [E_is_field]) (by omega))
theorem pf_zero (k : Nat) : ∀ q ∈ E_zero.L, q.1 ≤ k + 1 → Pf (GK k) n_zero i_zero q.2 := by
  intro q hq hr
  obtain rfl := List.mem_singleton.1 hq
  have hr : 1 ≤ k + 1 := hr
  exact w_zero _
theorem pf_from_integer (k : Nat) : ∀ q ∈ E_from_integer.L, q.1 ≤ k + 1 → Pf (GK k) n_from_integer i_from_integer q.2 := by
  intro q hq hr
  obtain rfl := List.mem_singleton.1 hq
  have hr : 1 ≤ k + 1 := hr
  exact w_from_integer _
theorem pf_add (k : Nat) : ∀ q ∈ E_add.L, q.1 ≤ k + 1 → Pf (GK k) n_add i_add q.2 := by
  intro q hq hr
  obtain rfl := List.mem_singleton.1 hq
  have hr : 3 ≤ k + 1 := hr
  exact w_add _ (has_k "fraction" (r := 2) (sp := spFr) lk_fraction (by simp [E_fraction]) (by omega))
theorem pf_negate (k : Nat) : ∀ q ∈ E_negate.L, q.1 ≤ k + 1 → Pf (GK k) n_negate i_negate q.2 := by
  intro q hq hr
  obtain rfl := List.mem_singleton.1 hq
  have hr : 1 ≤ k + 1 := hr
  exact w_negate _
theorem pf_subtract (k : Nat) : ∀ q ∈ E_subtract.L, q.1 ≤ k + 1 → Pf (GK k) n_subtract i_subtract q.2 := by
  intro q hq hr
  obtain rfl := List.mem_singleton.1 hq
  have hr : 4 ≤ k + 1 := hr
  exact w_subtract _ (has_k "add" (r := 3) (sp := (spOp2 (· + ·))) lk_add (by simp [E_add]) (by omega)) (has_k "negate" (r := 1) (sp := spNeg) lk_negate (by simp [E_negate]) (by omega))
theorem pf_multiply (k : Nat) : ∀ q ∈ E_multiply.L, q.1 ≤ k + 1 → Pf (GK k) n_multiply i_multiply q.2 := by
  intro q hq hr
  obtain rfl := List.mem_singleton.1 hq
  have hr : 3 ≤ k + 1 := hr
  exact w_multiply _ (has_k "fraction" (r := 2) (sp := spFr) lk_fraction (by simp [E_fraction]) (by omega))
theorem pf_inverse (k : Nat) : ∀ q ∈ E_inverse.L, q.1 ≤ k + 1 → Pf (GK k) n_inverse i_inverse q.2 := by
  intro q hq hr
  obtain rfl := List.mem_singleton.1 hq
  have hr : 3 ≤ k + 1 := hr
  exact w_inverse _ (has_k "need_field" (r := 2) (sp := spNF) lk_need_field (by simp [E_need_field]) (by omega)) (has_k "zero" (r := 1) (sp := spZero) lk_zero (by simp [E_zero]) (by omega)) (has_k "fraction" (r := 2) (sp := spFr) lk_fraction (by simp [E_fraction]) (by omega))
theorem pf_quotient (k : Nat) : ∀ q ∈ E_quotient.L, q.1 ≤ k + 1 → Pf (GK k) n_quotient i_quotient q.2 := by
  intro q hq hr
  obtain rfl := List.mem_singleton.1 hq
  have hr : 4 ≤ k + 1 := hr
  exact w_quotient _ (has_k "multiply" (r := 3) (sp := (spOp2 (· * ·))) lk_multiply (by simp [E_multiply]) (by omega)) (has_k "inverse" (r := 3) (sp := spInv) lk_inverse (by simp [E_inverse]) (by omega))
theorem pf_dot (k : Nat) : ∀ q ∈ E_dot.L, q.1 ≤ k + 1 → Pf (GK k) n_dot i_dot q.2 := by
  intro q hq hr
  obtain rfl := List.mem_singleton.1 hq
  have hr : 4 ≤ k + 1 := hr
  exact w_dot _ (has_k "zero" (r := 1) (sp := spZero) lk_zero (by simp [E_zero]) (by omega)) (has_k "add" (r := 3) (sp := (spOp2 (· + ·))) lk_add (by simp [E_add]) (by omega)) (has_k "multiply" (r := 3) (sp := (spOp2 (· * ·))) lk_multiply (by simp [E_multiply]) (by omega))
theorem pf_may_change (k : Nat) : ∀ q ∈ E_may_change.L, q.1 ≤ k + 1 → Pf (GK k) n_may_change i_may_change q.2 := by
  intro q hq hr
  obtain rfl := List.mem_singleton.1 hq
  have hr : 2 ≤ k + 1 := hr
  exact w_may_change _ (has_k "is_field" (r := 1) (sp := spIsF) lk_is_field (by simp [E_is_field]) (by omega))
theorem pf_changed (k : Nat) : ∀ q ∈ E_changed.L, q.1 ≤ k + 1 → Pf (GK k) n_changed i_changed q.2 := by
  intro q hq hr
  obtain rfl := List.mem_singleton.1 hq
  have hr : 2 ≤ k + 1 := hr
  exact w_changed _ (has_k "is_field" (r := 1) (sp := spIsF) lk_is_field (by simp [E_is_field]) (by omega)) (has_k "from_integer" (r := 1) (sp := spFromInt) lk_from_integer (by simp [E_from_integer]) (by omega))
theorem pf_change (k : Nat) : ∀ q ∈ E_change.L, q.1 ≤ k + 1 → Pf (GK k) n_change i_change q.2 := by
  intro q hq hr
  obtain rfl := List.mem_singleton.1 hq
  have hr : 3 ≤ k + 1 := hr
  exact w_change _ (has_k "is_domain" (r := 2) (sp := spIsDom) lk_is_domain (by simp [E_is_domain]) (by omega)) (has_k "may_change" (r := 2) (sp := spMay) lk_may_change (by simp [E_may_change]) (by omega)) (has_k "changed" (r := 2) (sp := spChanged) lk_changed (by simp [E_changed]) (by omega))
theorem pf_add_row (k : Nat) : ∀ q ∈ E_add_row.L, q.1 ≤ k + 1 → Pf (GK k) n_add_row i_add_row q.2 := by
  intro q hq hr
  obtain rfl := List.mem_singleton.1 hq
  have hr : 4 ≤ k + 1 := hr
  exact w_add_row _ (has_k "add" (r := 3) (sp := (spOp2 (· + ·))) lk_add (by simp [E_add]) (by omega)) (has_k "multiply" (r := 3) (sp := (spOp2 (· * ·))) lk_multiply (by simp [E_multiply]) (by omega))
theorem pf_eliminate (k : Nat) : ∀ q ∈ E_eliminate.L, q.1 ≤ k + 1 → Pf (GK k) n_eliminate i_eliminate q.2 := by
  intro q hq hr
  obtain rfl := List.mem_singleton.1 hq
  have hr : 5 ≤ k + 1 := hr
  exact w_eliminate _ (has_k "zero" (r := 1) (sp := spZero) lk_zero (by simp [E_zero]) (by omega)) (has_k "inverse" (r := 3) (sp := spInv) lk_inverse (by simp [E_inverse]) (by omega)) (has_k "multiply" (r := 3) (sp := (spOp2 (· * ·))) lk_multiply (by simp [E_multiply]) (by omega)) (has_k "negate" (r := 1) (sp := spNeg) lk_negate (by simp [E_negate]) (by omega)) (has_k "add_row" (r := 4) (sp := spAddRow) lk_add_row (by simp [E_add_row]) (by omega))
theorem pf_pivots_of (k : Nat) : ∀ q ∈ E_pivots_of.L, q.1 ≤ k + 1 → Pf (GK k) n_pivots_of i_pivots_of q.2 := by
  intro q hq hr
  obtain rfl := List.mem_singleton.1 hq
  have hr : 6 ≤ k + 1 := hr
  exact w_pivots_of _ (has_k "need_field" (r := 2) (sp := spNF) lk_need_field (by simp [E_need_field]) (by omega)) (has_k "eliminate" (r := 5) (sp := spElim) lk_eliminate (by simp [E_eliminate]) (by omega))
theorem pf_rank (k : Nat) : ∀ q ∈ E_rank.L, q.1 ≤ k + 1 → Pf (GK k) n_rank i_rank q.2 := by
  intro q hq hr
  obtain rfl := List.mem_singleton.1 hq
  have hr : 7 ≤ k + 1 := hr
  exact w_rank _ (has_k "pivots_of" (r := 6) (sp := spPiv) lk_pivots_of (by simp [E_pivots_of]) (by omega))
theorem pf_fractions (k : Nat) : ∀ q ∈ E_fractions.L, q.1 ≤ k + 1 → Pf (GK k) n_fractions i_fractions q.2 := by
  intro q hq hr
  obtain rfl := List.mem_singleton.1 hq
  have hr : 4 ≤ k + 1 := hr
  exact w_fractions _ (has_k "change" (r := 3) (sp := spChange) lk_change (by simp [E_change]) (by omega)) ct_Z ct_Q
theorem pf_need_basis (k : Nat) : ∀ q ∈ E_need_basis.L, q.1 ≤ k + 1 → Pf (GK k) n_need_basis i_need_basis q.2 := by
  intro q hq hr
  obtain rfl := List.mem_singleton.1 hq
  have hr : 8 ≤ k + 1 := hr
  exact w_need_basis _ (has_k "rank" (r := 7) (sp := spRank) lk_rank (by simp [E_rank]) (by omega)) (has_k "fractions" (r := 4) (sp := spFracs) lk_fractions (by simp [E_fractions]) (by omega)) ct_Q
theorem pf_orthogonal (k : Nat) : ∀ q ∈ E_orthogonal.L, q.1 ≤ k + 1 → Pf (GK k) n_orthogonal i_orthogonal q.2 := by
  intro q hq hr
  obtain rfl := List.mem_singleton.1 hq
  have hr : 9 ≤ k + 1 := hr
  exact w_orthogonal _ (has_k "need_basis" (r := 8) (sp := spNeed) lk_need_basis (by simp [E_need_basis]) (by omega)) (has_k "fractions" (r := 4) (sp := spFracs) lk_fractions (by simp [E_fractions]) (by omega)) (has_k "quotient" (r := 4) (sp := spQuot) lk_quotient (by simp [E_quotient]) (by omega)) (has_k "dot" (r := 4) (sp := spDot) lk_dot (by simp [E_dot]) (by omega)) (has_k "subtract" (r := 4) (sp := (spOp2 (· - ·))) lk_subtract (by simp [E_subtract]) (by omega)) (has_k "multiply" (r := 3) (sp := (spOp2 (· * ·))) lk_multiply (by simp [E_multiply]) (by omega)) ct_Q
theorem pf_is_reduced (k : Nat) : ∀ q ∈ E_is_reduced.L, q.1 ≤ k + 1 → Pf (GK k) n_is_reduced i_is_reduced q.2 := by
  intro q hq hr
  obtain rfl := List.mem_singleton.1 hq
  have hr : 10 ≤ k + 1 := hr
  exact w_is_reduced _ (has_k "orthogonal" (r := 9) (sp := spOrth) lk_orthogonal (by simp [E_orthogonal]) (by omega)) (has_k "multiply" (r := 3) (sp := (spOp2 (· * ·))) lk_multiply (by simp [E_multiply]) (by omega)) (has_k "subtract" (r := 4) (sp := (spOp2 (· - ·))) lk_subtract (by simp [E_subtract]) (by omega)) ct_Q
theorem pf_law_start (k : Nat) : ∀ q ∈ E_law_start.L, q.1 ≤ k + 1 → Pf (GK k) n_law_start i_law_start q.2 := by
  intro q hq hr
  obtain rfl := List.mem_singleton.1 hq
  have hr : 1 ≤ k + 1 := hr
  exact w_start _
theorem pf_law_fill (k : Nat) : ∀ q ∈ E_law_fill.L, q.1 ≤ k + 1 → Pf (GK k) n_law_fill i_law_fill q.2 := by
  intro q hq hr
  obtain rfl := List.mem_singleton.1 hq
  have hr : 1 ≤ k + 1 := hr
  exact w_fill _
theorem pf_law_take (k : Nat) : ∀ q ∈ E_law_take.L, q.1 ≤ k + 1 → Pf (GK k) n_law_take i_law_take q.2 := by
  intro q hq hr
  obtain rfl := List.mem_singleton.1 hq
  have hr : 2 ≤ k + 1 := hr
  exact w_take _ (has_k "_law_fill" (r := 1) (sp := spFill) lk_law_fill (by simp [E_law_fill]) (by omega))
theorem pf_law_common (k : Nat) : ∀ q ∈ E_law_common.L, q.1 ≤ k + 1 → Pf (GK k) n_law_common i_law_common q.2 := by
  intro q hq hr
  obtain rfl := List.mem_singleton.1 hq
  have hr : 1 ≤ k + 1 := hr
  exact w_law_common _
theorem pf_law_fraction (k : Nat) : ∀ q ∈ E_law_fraction.L, q.1 ≤ k + 1 → Pf (GK k) n_law_fraction i_law_fraction q.2 := by
  intro q hq hr
  obtain rfl := List.mem_singleton.1 hq
  have hr : 2 ≤ k + 1 := hr
  exact w_law_fraction _ (has_k "_law_common" (r := 1) (sp := spGcd) lk_law_common (by simp [E_law_common]) (by omega))
theorem pf_law_zero (k : Nat) : ∀ q ∈ E_law_zero.L, q.1 ≤ k + 1 → Pf (GK k) n_law_zero i_law_zero q.2 := by
  intro q hq hr
  obtain rfl := List.mem_singleton.1 hq
  have hr : 1 ≤ k + 1 := hr
  exact w_law_zero _
theorem pf_law_number (k : Nat) : ∀ q ∈ E_law_number.L, q.1 ≤ k + 1 → Pf (GK k) n_law_number i_law_number q.2 := by
  intro q hq hr
  obtain rfl := List.mem_singleton.1 hq
  have hr : 1 ≤ k + 1 := hr
  exact w_law_number _
theorem pf_law_add (k : Nat) : ∀ q ∈ E_law_add.L, q.1 ≤ k + 1 → Pf (GK k) n_law_add i_law_add q.2 := by
  intro q hq hr
  obtain rfl := List.mem_singleton.1 hq
  have hr : 3 ≤ k + 1 := hr
  exact w_law_add _ (has_k "_law_fraction" (r := 2) (sp := spFr) lk_law_fraction (by simp [E_law_fraction]) (by omega))
theorem pf_law_multiply (k : Nat) : ∀ q ∈ E_law_multiply.L, q.1 ≤ k + 1 → Pf (GK k) n_law_multiply i_law_multiply q.2 := by
  intro q hq hr
  obtain rfl := List.mem_singleton.1 hq
  have hr : 3 ≤ k + 1 := hr
  exact w_law_multiply _ (has_k "_law_fraction" (r := 2) (sp := spFr) lk_law_fraction (by simp [E_law_fraction]) (by omega))
theorem pf_law_subtract (k : Nat) : ∀ q ∈ E_law_subtract.L, q.1 ≤ k + 1 → Pf (GK k) n_law_subtract i_law_subtract q.2 := by
  intro q hq hr
  obtain rfl := List.mem_singleton.1 hq
  have hr : 4 ≤ k + 1 := hr
  exact w_law_subtract _ (has_k "_law_add" (r := 3) (sp := (spOp2 (· + ·))) lk_law_add (by simp [E_law_add]) (by omega)) (has_k "_law_multiply" (r := 3) (sp := (spOp2 (· * ·))) lk_law_multiply (by simp [E_law_multiply]) (by omega)) (has_k "_law_number" (r := 1) (sp := spLNum) lk_law_number (by simp [E_law_number]) (by omega))
theorem pf_law_inverse (k : Nat) : ∀ q ∈ E_law_inverse.L, q.1 ≤ k + 1 → Pf (GK k) n_law_inverse i_law_inverse q.2 := by
  intro q hq hr
  obtain rfl := List.mem_singleton.1 hq
  have hr : 3 ≤ k + 1 := hr
  exact w_law_inverse _ (has_k "_law_fraction" (r := 2) (sp := spFr) lk_law_fraction (by simp [E_law_fraction]) (by omega))
theorem pf_law_small (k : Nat) : ∀ q ∈ E_law_small.L, q.1 ≤ k + 1 → Pf (GK k) n_law_small i_law_small q.2 := by
  intro q hq hr
  obtain rfl := List.mem_singleton.1 hq
  have hr : 3 ≤ k + 1 := hr
  exact w_law_small _ (has_take (has_k "_law_take" (r := 2) (sp := spTakeD) lk_law_take (by simp [E_law_take]) (by omega)))
theorem pf_law_matrix (k : Nat) : ∀ q ∈ E_law_matrix.L, q.1 ≤ k + 1 → Pf (GK k) n_law_matrix i_law_matrix q.2 := by
  intro q hq hr
  obtain rfl := List.mem_singleton.1 hq
  have hr : 4 ≤ k + 1 := hr
  exact w_law_matrix _ (has_k "_law_small" (r := 3) (sp := spSmallZ) lk_law_small (by simp [E_law_small]) (by omega))
theorem pf_law_dot (k : Nat) : ∀ q ∈ E_law_dot.L, q.1 ≤ k + 1 → Pf (GK k) n_law_dot i_law_dot q.2 := by
  intro q hq hr
  obtain rfl := List.mem_singleton.1 hq
  have hr : 4 ≤ k + 1 := hr
  exact w_law_dot _ (has_k "_law_zero" (r := 1) (sp := spZero) lk_law_zero (by simp [E_law_zero]) (by omega)) (has_k "_law_add" (r := 3) (sp := (spOp2 (· + ·))) lk_law_add (by simp [E_law_add]) (by omega)) (has_k "_law_multiply" (r := 3) (sp := (spOp2 (· * ·))) lk_law_multiply (by simp [E_law_multiply]) (by omega))
theorem pf_law_basis (k : Nat) : ∀ q ∈ E_law_basis.L, q.1 ≤ k + 1 → Pf (GK k) n_law_basis i_law_basis q.2 := by
  intro q hq hr
  obtain rfl := List.mem_singleton.1 hq
  have hr : 5 ≤ k + 1 := hr
  exact w_law_basis _ (has_take (has_k "_law_take" (r := 2) (sp := spTakeD) lk_law_take (by simp [E_law_take]) (by omega))) (has_k "_law_matrix" (r := 4) (sp := spMatZ) lk_law_matrix (by simp [E_law_matrix]) (by omega))
theorem pf_law_squares (k : Nat) : ∀ q ∈ E_law_squares.L, q.1 ≤ k + 1 → Pf (GK k) n_law_squares i_law_squares q.2 := by
  intro q hq hr
  obtain rfl := List.mem_singleton.1 hq
  have hr : 5 ≤ k + 1 := hr
  exact w_law_squares _ (has_k "_law_multiply" (r := 3) (sp := (spOp2 (· * ·))) lk_law_multiply (by simp [E_law_multiply]) (by omega)) (has_k "_law_dot" (r := 4) (sp := spLDot) lk_law_dot (by simp [E_law_dot]) (by omega)) (has_k "_law_inverse" (r := 3) (sp := spInv) lk_law_inverse (by simp [E_law_inverse]) (by omega)) (has_k "_law_subtract" (r := 4) (sp := (spOp2 (· - ·))) lk_law_subtract (by simp [E_law_subtract]) (by omega))
theorem pf_law_atmost (k : Nat) : ∀ q ∈ E_law_atmost.L, q.1 ≤ k + 1 → Pf (GK k) n_law_atmost i_law_atmost q.2 := by
  intro q hq hr
  obtain rfl := List.mem_singleton.1 hq
  have hr : 1 ≤ k + 1 := hr
  exact w_law_atmost _
theorem pf_law_is_reduced (k : Nat) : ∀ q ∈ E_law_is_reduced.L, q.1 ≤ k + 1 → Pf (GK k) n_law_is_reduced i_law_is_reduced q.2 := by
  intro q hq hr
  obtain rfl := List.mem_singleton.1 hq
  have hr : 6 ≤ k + 1 := hr
  exact w_law_is_reduced _ (has_k "_law_squares" (r := 5) (sp := spSq) lk_law_squares (by simp [E_law_squares]) (by omega)) (has_k "_law_multiply" (r := 3) (sp := (spOp2 (· * ·))) lk_law_multiply (by simp [E_law_multiply]) (by omega)) (has_k "_law_subtract" (r := 4) (sp := (spOp2 (· - ·))) lk_law_subtract (by simp [E_law_subtract]) (by omega)) (has_k "_law_atmost" (r := 1) (sp := spAtmost) lk_law_atmost (by simp [E_law_atmost]) (by omega))
theorem pf_law_is_basis (k : Nat) : ∀ q ∈ E_law_is_basis.L, q.1 ≤ k + 1 → Pf (GK k) n_law_is_basis i_law_is_basis q.2 := by
  intro q hq hr
  obtain rfl := List.mem_singleton.1 hq
  have hr : 6 ≤ k + 1 := hr
  exact w_law_is_basis _ (has_k "_law_squares" (r := 5) (sp := spSq) lk_law_squares (by simp [E_law_squares]) (by omega))
theorem pf_law_told (k : Nat) : ∀ q ∈ E_law_told.L, q.1 ≤ k + 1 → Pf (GK k) n_law_told i_law_told q.2 := by
  intro q hq hr
  obtain rfl := List.mem_singleton.1 hq
  have hr : 10 ≤ k + 1 := hr
  exact w_law_told _ (has_k "orthogonal" (r := 9) (sp := spOrth) lk_orthogonal (by simp [E_orthogonal]) (by omega)) ex_SingularError_SingularError
theorem pf_law_refused (k : Nat) : ∀ q ∈ E_law_refused.L, q.1 ≤ k + 1 → Pf (GK k) n_law_refused i_law_refused q.2 := by
  intro q hq hr
  obtain rfl := List.mem_singleton.1 hq
  have hr : 11 ≤ k + 1 := hr
  exact w_law_refused _ (has_k "is_reduced" (r := 10) (sp := spRed) lk_is_reduced (by simp [E_is_reduced]) (by omega)) ex_SingularError_SingularError
theorem pf_law_whole (k : Nat) : ∀ q ∈ E_law_whole.L, q.1 ≤ k + 1 → Pf (GK k) n_law_whole i_law_whole q.2 := by
  intro q hq hr
  obtain rfl := List.mem_singleton.1 hq
  have hr : 1 ≤ k + 1 := hr
  exact w_law_whole _
theorem pf_law_exact (k : Nat) : ∀ q ∈ E_law_exact.L, q.1 ≤ k + 1 → Pf (GK k) n_law_exact i_law_exact q.2 := by
  intro q hq hr
  simp only [E_law_exact, List.mem_cons, List.not_mem_nil, or_false] at hq
  rcases hq with rfl | rfl | rfl | rfl | rfl | rfl
  · have hr : 2 ≤ k + 1 := hr
    exact w_law_exact _ 0 (has_k "_law_whole" (r := 1) (sp := spWhole) lk_law_whole (by simp [E_law_whole]) (by omega)) (fun e h => absurd h (by omega))
  · have hr : 3 ≤ k + 1 := hr
    exact w_law_exact _ 1 (has_k "_law_whole" (r := 1) (sp := spWhole) lk_law_whole (by simp [E_law_whole]) (by omega)) (fun e h => by cases h; exact (has_k "_law_exact" (r := 2) (sp := (spExact 0)) lk_law_exact (by simp [E_law_exact]) (by omega)))
  · have hr : 4 ≤ k + 1 := hr
    exact w_law_exact _ 2 (has_k "_law_whole" (r := 1) (sp := spWhole) lk_law_whole (by simp [E_law_whole]) (by omega)) (fun e h => by cases h; exact (has_k "_law_exact" (r := 3) (sp := (spExact 1)) lk_law_exact (by simp [E_law_exact]) (by omega)))
  · have hr : 5 ≤ k + 1 := hr
    exact w_law_exact _ 3 (has_k "_law_whole" (r := 1) (sp := spWhole) lk_law_whole (by simp [E_law_whole]) (by omega)) (fun e h => by cases h; exact (has_k "_law_exact" (r := 4) (sp := (spExact 2)) lk_law_exact (by simp [E_law_exact]) (by omega)))
  · have hr : 6 ≤ k + 1 := hr
    exact w_law_exact _ 4 (has_k "_law_whole" (r := 1) (sp := spWhole) lk_law_whole (by simp [E_law_whole]) (by omega)) (fun e h => by cases h; exact (has_k "_law_exact" (r := 5) (sp := (spExact 3)) lk_law_exact (by simp [E_law_exact]) (by omega)))
  · have hr : 7 ≤ k + 1 := hr
    exact w_law_exact _ 5 (has_k "_law_whole" (r := 1) (sp := spWhole) lk_law_whole (by simp [E_law_whole]) (by omega)) (fun e h => by cases h; exact (has_k "_law_exact" (r := 6) (sp := (spExact 4)) lk_law_exact (by simp [E_law_exact]) (by omega)))
theorem pf_law_sparse (k : Nat) : ∀ q ∈ E_law_sparse.L, q.1 ≤ k + 1 → Pf (GK k) n_law_sparse i_law_sparse q.2 := by
  intro q hq hr
  obtain rfl := List.mem_singleton.1 hq
  have hr : 3 ≤ k + 1 := hr
  exact w_law_sparse _ (has_k "_law_take" (r := 2) (sp := spTakeD) lk_law_take (by simp [E_law_take]) (by omega))
theorem pf_law (k : Nat) : ∀ q ∈ E_law.L, q.1 ≤ k + 1 → Pf (GK k) n_law i_law q.2 := by
  intro q hq hr
  obtain rfl := List.mem_singleton.1 hq
  have hr : 12 ≤ k + 1 := hr
  exact w_law _ (has_k "_law_start" (r := 1) (sp := spStart) lk_law_start (by simp [E_law_start]) (by omega)) (has_k "_law_basis" (r := 5) (sp := spBasis) lk_law_basis (by simp [E_law_basis]) (by omega)) (has_take (has_k "_law_take" (r := 2) (sp := spTakeD) lk_law_take (by simp [E_law_take]) (by omega))) (has_k "_law_sparse" (r := 3) (sp := spSparse) lk_law_sparse (by simp [E_law_sparse]) (by omega)) (has_k "_law_is_basis" (r := 6) (sp := spIsBas) lk_law_is_basis (by simp [E_law_is_basis]) (by omega)) (has_k "_law_told" (r := 10) (sp := spTold) lk_law_told (by simp [E_law_told]) (by omega)) (has_k "_law_refused" (r := 11) (sp := spLRef) lk_law_refused (by simp [E_law_refused]) (by omega)) (has_k "_law_squares" (r := 5) (sp := spSq) lk_law_squares (by simp [E_law_squares]) (by omega)) (has_k "_law_exact" (r := 7) (sp := (spExact 5)) lk_law_exact (by simp [E_law_exact]) (by omega)) (has_k "is_reduced" (r := 10) (sp := spRed) lk_is_reduced (by simp [E_is_reduced]) (by omega)) (has_k "_law_is_reduced" (r := 6) (sp := spLRed) lk_law_is_reduced (by simp [E_law_is_reduced]) (by omega))
/-! ### lengths -/
theorem len_K {L : List (Nat × FSpec)} {k n : Nat} (h : ∀ q ∈ L, ∀ us S Q X, q.2 us S Q X → us.length = n) : ∀ us S Q X, spK L k us S Q X → us.length = n := fun us S Q X ⟨Q0, X0, _, _, q, hq, _, z⟩ => h q hq us S Q0 X0 z
theorem len_divisor : ∀ q ∈ E_divisor.L, ∀ us S Q X, q.2 us S Q X → us.length = p_divisor.length := by
  intro q hq us S Q X h
  obtain rfl := List.mem_singleton.1 hq
  first
    | (obtain ⟨rfl, _⟩ := h; rfl)
    | (obtain ⟨_, rfl, _⟩ := h; rfl)
    | (obtain ⟨_, _, rfl, _⟩ := h; rfl)
    | (obtain ⟨_, _, _, rfl, _⟩ := h; rfl)
    | (obtain ⟨_, _, _, _, rfl, _⟩ := h; rfl)
    | (obtain ⟨_, _, _, _, _, rfl, _⟩ := h; rfl)
    | (obtain ⟨_, _, _, _, _, _, rfl, _⟩ := h; rfl)
    | (obtain ⟨_, _, _, _, _, _, _, rfl, _⟩ := h; rfl)
    | (obtain ⟨_, _, _, _, _, _, _, _, rfl, _⟩ := h; rfl)
    | (obtain ⟨_, _, _, _, _, _, _, _, _, rfl, _⟩ := h; rfl)
    | (obtain ⟨_, _, _, _, _, _, _, _, _, _, rfl, _⟩ := h; rfl)
    | (obtain ⟨_, _, _, _, _, _, _, _, _, _, _, rfl, _⟩ := h; rfl)
    | (obtain ⟨_, _, _, _, _, _, _, _, _, _, _, _, rfl, _⟩ := h; rfl)
    | (obtain ⟨_, _, _, _, _, _, _, _, _, _, _, _, _, rfl, _⟩ := h; rfl)
    | (obtain ⟨_, _, _, _, _, _, _, _, _, _, _, _, _, _, rfl, _⟩ := h; rfl)
    | (obtain ⟨_, _, _, _, _, _, _, _, _, _, _, _, _, _, _, rfl, _⟩ := h; rfl)
theorem len_fraction : ∀ q ∈ E_fraction.L, ∀ us S Q X, q.2 us S Q X → us.length = p_fraction.length := by
  intro q hq us S Q X h
  obtain rfl := List.mem_singleton.1 hq
  first
    | (obtain ⟨rfl, _⟩ := h; rfl)
    | (obtain ⟨_, rfl, _⟩ := h; rfl)
    | (obtain ⟨_, _, rfl, _⟩ := h; rfl)
    | (obtain ⟨_, _, _, rfl, _⟩ := h; rfl)
    | (obtain ⟨_, _, _, _, rfl, _⟩ := h; rfl)
    | (obtain ⟨_, _, _, _, _, rfl, _⟩ := h; rfl)
    | (obtain ⟨_, _, _, _, _, _, rfl, _⟩ := h; rfl)
    | (obtain ⟨_, _, _, _, _, _, _, rfl, _⟩ := h; rfl)
    | (obtain ⟨_, _, _, _, _, _, _, _, rfl, _⟩ := h; rfl)
    | (obtain ⟨_, _, _, _, _, _, _, _, _, rfl, _⟩ := h; rfl)
    | (obtain ⟨_, _, _, _, _, _, _, _, _, _, rfl, _⟩ := h; rfl)
    | (obtain ⟨_, _, _, _, _, _, _, _, _, _, _, rfl, _⟩ := h; rfl)
    | (obtain ⟨_, _, _, _, _, _, _, _, _, _, _, _, rfl, _⟩ := h; rfl)
    | (obtain ⟨_, _, _, _, _, _, _, _, _, _, _, _, _, rfl, _⟩ := h; rfl)
    | (obtain ⟨_, _, _, _, _, _, _, _, _, _, _, _, _, _, rfl, _⟩ := h; rfl)
    | (obtain ⟨_, _, _, _, _, _, _, _, _, _, _, _, _, _, _, rfl, _⟩ := h; rfl)
theorem len_is_domain : ∀ q ∈ E_is_domain.L, ∀ us S Q X, q.2 us S Q X → us.length = p_is_domain.length := by
  intro q hq us S Q X h
  obtain rfl := List.mem_singleton.1 hq
  obtain ⟨rfl | rfl, _⟩ := h <;> rfl
theorem len_is_field : ∀ q ∈ E_is_field.L, ∀ us S Q X, q.2 us S Q X → us.length = p_is_field.length := by
  intro q hq us S Q X h
  obtain rfl := List.mem_singleton.1 hq
  first
    | (obtain ⟨rfl, _⟩ := h; rfl)
    | (obtain ⟨_, rfl, _⟩ := h; rfl)
    | (obtain ⟨_, _, rfl, _⟩ := h; rfl)
    | (obtain ⟨_, _, _, rfl, _⟩ := h; rfl)
    | (obtain ⟨_, _, _, _, rfl, _⟩ := h; rfl)
    | (obtain ⟨_, _, _, _, _, rfl, _⟩ := h; rfl)
    | (obtain ⟨_, _, _, _, _, _, rfl, _⟩ := h; rfl)
    | (obtain ⟨_, _, _, _, _, _, _, rfl, _⟩ := h; rfl)
    | (obtain ⟨_, _, _, _, _, _, _, _, rfl, _⟩ := h; rfl)
    | (obtain ⟨_, _, _, _, _, _, _, _, _, rfl, _⟩ := h; rfl)
    | (obtain ⟨_, _, _, _, _, _, _, _, _, _, rfl, _⟩ := h; rfl)
    | (obtain ⟨_, _, _, _, _, _, _, _, _, _, _, rfl, _⟩ := h; rfl)
    | (obtain ⟨_, _, _, _, _, _, _, _, _, _, _, _, rfl, _⟩ := h; rfl)
    | (obtain ⟨_, _, _, _, _, _, _, _, _, _, _, _, _, rfl, _⟩ := h; rfl)
    | (obtain ⟨_, _, _, _, _, _, _, _, _, _, _, _, _, _, rfl, _⟩ := h; rfl)
    | (obtain ⟨_, _, _, _, _, _, _, _, _, _, _, _, _, _, _, rfl, _⟩ := h; rfl)
theorem len_need_field : ∀ q ∈ E_need_field.L, ∀ us S Q X, q.2 us S Q X → us.length = p_need_field.length := by
  intro q hq us S Q X h
  obtain rfl := List.mem_singleton.1 hq
  first
    | (obtain ⟨rfl, _⟩ := h; rfl)
    | (obtain ⟨_, rfl, _⟩ := h; rfl)
    | (obtain ⟨_, _, rfl, _⟩ := h; rfl)
    | (obtain ⟨_, _, _, rfl, _⟩ := h; rfl)
    | (obtain ⟨_, _, _, _, rfl, _⟩ := h; rfl)
    | (obtain ⟨_, _, _, _, _, rfl, _⟩ := h; rfl)
    | (obtain ⟨_, _, _, _, _, _, rfl, _⟩ := h; rfl)
    | (obtain ⟨_, _, _, _, _, _, _, rfl, _⟩ := h; rfl)
    | (obtain ⟨_, _, _, _, _, _, _, _, rfl, _⟩ := h; rfl)
    | (obtain ⟨_, _, _, _, _, _, _, _, _, rfl, _⟩ := h; rfl)
    | (obtain ⟨_, _, _, _, _, _, _, _, _, _, rfl, _⟩ := h; rfl)
    | (obtain ⟨_, _, _, _, _, _, _, _, _, _, _, rfl, _⟩ := h; rfl)
    | (obtain ⟨_, _, _, _, _, _, _, _, _, _, _, _, rfl, _⟩ := h; rfl)
    | (obtain ⟨_, _, _, _, _, _, _, _, _, _, _, _, _, rfl, _⟩ := h; rfl)
    | (obtain ⟨_, _, _, _, _, _, _, _, _, _, _, _, _, _, rfl, _⟩ := h; rfl)
    | (obtain ⟨_, _, _, _, _, _, _, _, _, _, _, _, _, _, _, rfl, _⟩ := h; rfl)
theorem len_zero : ∀ q ∈ E_zero.L, ∀ us S Q X, q.2 us S Q X → us.length = p_zero.length := by
  intro q hq us S Q X h
  obtain rfl := List.mem_singleton.1 hq
  first
    | (obtain ⟨rfl, _⟩ := h; rfl)
    | (obtain ⟨_, rfl, _⟩ := h; rfl)
    | (obtain ⟨_, _, rfl, _⟩ := h; rfl)
    | (obtain ⟨_, _, _, rfl, _⟩ := h; rfl)
    | (obtain ⟨_, _, _, _, rfl, _⟩ := h; rfl)
    | (obtain ⟨_, _, _, _, _, rfl, _⟩ := h; rfl)
    | (obtain ⟨_, _, _, _, _, _, rfl, _⟩ := h; rfl)
    | (obtain ⟨_, _, _, _, _, _, _, rfl, _⟩ := h; rfl)
    | (obtain ⟨_, _, _, _, _, _, _, _, rfl, _⟩ := h; rfl)
    | (obtain ⟨_, _, _, _, _, _, _, _, _, rfl, _⟩ := h; rfl)
    | (obtain ⟨_, _, _, _, _, _, _, _, _, _, rfl, _⟩ := h; rfl)
    | (obtain ⟨_, _, _, _, _, _, _, _, _, _, _, rfl, _⟩ := h; rfl)
    | (obtain ⟨_, _, _, _, _, _, _, _, _, _, _, _, rfl, _⟩ := h; rfl)
    | (obtain ⟨_, _, _, _, _, _, _, _, _, _, _, _, _, rfl, _⟩ := h; rfl)
    | (obtain ⟨_, _, _, _, _, _, _, _, _, _, _, _, _, _, rfl, _⟩ := h; rfl)
    | (obtain ⟨_, _, _, _, _, _, _, _, _, _, _, _, _, _, _, rfl, _⟩ := h; rfl)
theorem len_from_integer : ∀ q ∈ E_from_integer.L, ∀ us S Q X, q.2 us S Q X → us.length = p_from_integer.length := by
  intro q hq us S Q X h
  obtain rfl := List.mem_singleton.1 hq
  first
    | (obtain ⟨rfl, _⟩ := h; rfl)
    | (obtain ⟨_, rfl, _⟩ := h; rfl)
    | (obtain ⟨_, _, rfl, _⟩ := h; rfl)
    | (obtain ⟨_, _, _, rfl, _⟩ := h; rfl)
    | (obtain ⟨_, _, _, _, rfl, _⟩ := h; rfl)
    | (obtain ⟨_, _, _, _, _, rfl, _⟩ := h; rfl)
    | (obtain ⟨_, _, _, _, _, _, rfl, _⟩ := h; rfl)
    | (obtain ⟨_, _, _, _, _, _, _, rfl, _⟩ := h; rfl)
    | (obtain ⟨_, _, _, _, _, _, _, _, rfl, _⟩ := h; rfl)
    | (obtain ⟨_, _, _, _, _, _, _, _, _, rfl, _⟩ := h; rfl)
    | (obtain ⟨_, _, _, _, _, _, _, _, _, _, rfl, _⟩ := h; rfl)
    | (obtain ⟨_, _, _, _, _, _, _, _, _, _, _, rfl, _⟩ := h; rfl)
    | (obtain ⟨_, _, _, _, _, _, _, _, _, _, _, _, rfl, _⟩ := h; rfl)
    | (obtain ⟨_, _, _, _, _, _, _, _, _, _, _, _, _, rfl, _⟩ := h; rfl)
    | (obtain ⟨_, _, _, _, _, _, _, _, _, _, _, _, _, _, rfl, _⟩ := h; rfl)
    | (obtain ⟨_, _, _, _, _, _, _, _, _, _, _, _, _, _, _, rfl, _⟩ := h; rfl)
theorem len_add : ∀ q ∈ E_add.L, ∀ us S Q X, q.2 us S Q X → us.length = p_add.length := by
  intro q hq us S Q X h
  obtain rfl := List.mem_singleton.1 hq
  first
    | (obtain ⟨rfl, _⟩ := h; rfl)
    | (obtain ⟨_, rfl, _⟩ := h; rfl)
    | (obtain ⟨_, _, rfl, _⟩ := h; rfl)
    | (obtain ⟨_, _, _, rfl, _⟩ := h; rfl)
    | (obtain ⟨_, _, _, _, rfl, _⟩ := h; rfl)
    | (obtain ⟨_, _, _, _, _, rfl, _⟩ := h; rfl)
    | (obtain ⟨_, _, _, _, _, _, rfl, _⟩ := h; rfl)
    | (obtain ⟨_, _, _, _, _, _, _, rfl, _⟩ := h; rfl)
    | (obtain ⟨_, _, _, _, _, _, _, _, rfl, _⟩ := h; rfl)
    | (obtain ⟨_, _, _, _, _, _, _, _, _, rfl, _⟩ := h; rfl)
    | (obtain ⟨_, _, _, _, _, _, _, _, _, _, rfl, _⟩ := h; rfl)
    | (obtain ⟨_, _, _, _, _, _, _, _, _, _, _, rfl, _⟩ := h; rfl)
    | (obtain ⟨_, _, _, _, _, _, _, _, _, _, _, _, rfl, _⟩ := h; rfl)
    | (obtain ⟨_, _, _, _, _, _, _, _, _, _, _, _, _, rfl, _⟩ := h; rfl)
    | (obtain ⟨_, _, _, _, _, _, _, _, _, _, _, _, _, _, rfl, _⟩ := h; rfl)
    | (obtain ⟨_, _, _, _, _, _, _, _, _, _, _, _, _, _, _, rfl, _⟩ := h; rfl)
theorem len_negate : ∀ q ∈ E_negate.L, ∀ us S Q X, q.2 us S Q X → us.length = p_negate.length := by
  intro q hq us S Q X h
  obtain rfl := List.mem_singleton.1 hq
  first
    | (obtain ⟨rfl, _⟩ := h; rfl)
    | (obtain ⟨_, rfl, _⟩ := h; rfl)
    | (obtain ⟨_, _, rfl, _⟩ := h; rfl)
    | (obtain ⟨_, _, _, rfl, _⟩ := h; rfl)
    | (obtain ⟨_, _, _, _, rfl, _⟩ := h; rfl)
    | (obtain ⟨_, _, _, _, _, rfl, _⟩ := h; rfl)
    | (obtain ⟨_, _, _, _, _, _, rfl, _⟩ := h; rfl)
    | (obtain ⟨_, _, _, _, _, _, _, rfl, _⟩ := h; rfl)
    | (obtain ⟨_, _, _, _, _, _, _, _, rfl, _⟩ := h; rfl)
    | (obtain ⟨_, _, _, _, _, _, _, _, _, rfl, _⟩ := h; rfl)
    | (obtain ⟨_, _, _, _, _, _, _, _, _, _, rfl, _⟩ := h; rfl)
    | (obtain ⟨_, _, _, _, _, _, _, _, _, _, _, rfl, _⟩ := h; rfl)
    | (obtain ⟨_, _, _, _, _, _, _, _, _, _, _, _, rfl, _⟩ := h; rfl)
    | (obtain ⟨_, _, _, _, _, _, _, _, _, _, _, _, _, rfl, _⟩ := h; rfl)
    | (obtain ⟨_, _, _, _, _, _, _, _, _, _, _, _, _, _, rfl, _⟩ := h; rfl)
    | (obtain ⟨_, _, _, _, _, _, _, _, _, _, _, _, _, _, _, rfl, _⟩ := h; rfl)
theorem len_subtract : ∀ q ∈ E_subtract.L, ∀ us S Q X, q.2 us S Q X → us.length = p_subtract.length := by
  intro q hq us S Q X h
  obtain rfl := List.mem_singleton.1 hq
  first
    | (obtain ⟨rfl, _⟩ := h; rfl)
    | (obtain ⟨_, rfl, _⟩ := h; rfl)
    | (obtain ⟨_, _, rfl, _⟩ := h; rfl)
    | (obtain ⟨_, _, _, rfl, _⟩ := h; rfl)
    | (obtain ⟨_, _, _, _, rfl, _⟩ := h; rfl)
    | (obtain ⟨_, _, _, _, _, rfl, _⟩ := h; rfl)
    | (obtain ⟨_, _, _, _, _, _, rfl, _⟩ := h; rfl)
    | (obtain ⟨_, _, _, _, _, _, _, rfl, _⟩ := h; rfl)
    | (obtain ⟨_, _, _, _, _, _, _, _, rfl, _⟩ := h; rfl)
    | (obtain ⟨_, _, _, _, _, _, _, _, _, rfl, _⟩ := h; rfl)
    | (obtain ⟨_, _, _, _, _, _, _, _, _, _, rfl, _⟩ := h; rfl)
    | (obtain ⟨_, _, _, _, _, _, _, _, _, _, _, rfl, _⟩ := h; rfl)
    | (obtain ⟨_, _, _, _, _, _, _, _, _, _, _, _, rfl, _⟩ := h; rfl)
    | (obtain ⟨_, _, _, _, _, _, _, _, _, _, _, _, _, rfl, _⟩ := h; rfl)
    | (obtain ⟨_, _, _, _, _, _, _, _, _, _, _, _, _, _, rfl, _⟩ := h; rfl)
    | (obtain ⟨_, _, _, _, _, _, _, _, _, _, _, _, _, _, _, rfl, _⟩ := h; rfl)
theorem len_multiply : ∀ q ∈ E_multiply.L, ∀ us S Q X, q.2 us S Q X → us.length = p_multiply.length := by
  intro q hq us S Q X h
  obtain rfl := List.mem_singleton.1 hq
  first
    | (obtain ⟨rfl, _⟩ := h; rfl)
    | (obtain ⟨_, rfl, _⟩ := h; rfl)
    | (obtain ⟨_, _, rfl, _⟩ := h; rfl)
    | (obtain ⟨_, _, _, rfl, _⟩ := h; rfl)
    | (obtain ⟨_, _, _, _, rfl, _⟩ := h; rfl)
    | (obtain ⟨_, _, _, _, _, rfl, _⟩ := h; rfl)
    | (obtain ⟨_, _, _, _, _, _, rfl, _⟩ := h; rfl)
    | (obtain ⟨_, _, _, _, _, _, _, rfl, _⟩ := h; rfl)
    | (obtain ⟨_, _, _, _, _, _, _, _, rfl, _⟩ := h; rfl)
    | (obtain ⟨_, _, _, _, _, _, _, _, _, rfl, _⟩ := h; rfl)
    | (obtain ⟨_, _, _, _, _, _, _, _, _, _, rfl, _⟩ := h; rfl)
    | (obtain ⟨_, _, _, _, _, _, _, _, _, _, _, rfl, _⟩ := h; rfl)
    | (obtain ⟨_, _, _, _, _, _, _, _, _, _, _, _, rfl, _⟩ := h; rfl)
    | (obtain ⟨_, _, _, _, _, _, _, _, _, _, _, _, _, rfl, _⟩ := h; rfl)
    | (obtain ⟨_, _, _, _, _, _, _, _, _, _, _, _, _, _, rfl, _⟩ := h; rfl)
    | (obtain ⟨_, _, _, _, _, _, _, _, _, _, _, _, _, _, _, rfl, _⟩ := h; rfl)
theorem len_inverse : ∀ q ∈ E_inverse.L, ∀ us S Q X, q.2 us S Q X → us.length = p_inverse.length := by
  intro q hq us S Q X h
  obtain rfl := List.mem_singleton.1 hq
  first
    | (obtain ⟨rfl, _⟩ := h; rfl)
    | (obtain ⟨_, rfl, _⟩ := h; rfl)
    | (obtain ⟨_, _, rfl, _⟩ := h; rfl)
    | (obtain ⟨_, _, _, rfl, _⟩ := h; rfl)
    | (obtain ⟨_, _, _, _, rfl, _⟩ := h; rfl)
    | (obtain ⟨_, _, _, _, _, rfl, _⟩ := h; rfl)
    | (obtain ⟨_, _, _, _, _, _, rfl, _⟩ := h; rfl)
    | (obtain ⟨_, _, _, _, _, _, _, rfl, _⟩ := h; rfl)
    | (obtain ⟨_, _, _, _, _, _, _, _, rfl, _⟩ := h; rfl)
    | (obtain ⟨_, _, _, _, _, _, _, _, _, rfl, _⟩ := h; rfl)
    | (obtain ⟨_, _, _, _, _, _, _, _, _, _, rfl, _⟩ := h; rfl)
    | (obtain ⟨_, _, _, _, _, _, _, _, _, _, _, rfl, _⟩ := h; rfl)
    | (obtain ⟨_, _, _, _, _, _, _, _, _, _, _, _, rfl, _⟩ := h; rfl)
    | (obtain ⟨_, _, _, _, _, _, _, _, _, _, _, _, _, rfl, _⟩ := h; rfl)
    | (obtain ⟨_, _, _, _, _, _, _, _, _, _, _, _, _, _, rfl, _⟩ := h; rfl)
    | (obtain ⟨_, _, _, _, _, _, _, _, _, _, _, _, _, _, _, rfl, _⟩ := h; rfl)
theorem len_quotient : ∀ q ∈ E_quotient.L, ∀ us S Q X, q.2 us S Q X → us.length = p_quotient.length := by
  intro q hq us S Q X h
  obtain rfl := List.mem_singleton.1 hq
  first
    | (obtain ⟨rfl, _⟩ := h; rfl)
    | (obtain ⟨_, rfl, _⟩ := h; rfl)
    | (obtain ⟨_, _, rfl, _⟩ := h; rfl)
    | (obtain ⟨_, _, _, rfl, _⟩ := h; rfl)
    | (obtain ⟨_, _, _, _, rfl, _⟩ := h; rfl)
    | (obtain ⟨_, _, _, _, _, rfl, _⟩ := h; rfl)
    | (obtain ⟨_, _, _, _, _, _, rfl, _⟩ := h; rfl)
    | (obtain ⟨_, _, _, _, _, _, _, rfl, _⟩ := h; rfl)
    | (obtain ⟨_, _, _, _, _, _, _, _, rfl, _⟩ := h; rfl)
    | (obtain ⟨_, _, _, _, _, _, _, _, _, rfl, _⟩ := h; rfl)
    | (obtain ⟨_, _, _, _, _, _, _, _, _, _, rfl, _⟩ := h; rfl)
    | (obtain ⟨_, _, _, _, _, _, _, _, _, _, _, rfl, _⟩ := h; rfl)
    | (obtain ⟨_, _, _, _, _, _, _, _, _, _, _, _, rfl, _⟩ := h; rfl)
    | (obtain ⟨_, _, _, _, _, _, _, _, _, _, _, _, _, rfl, _⟩ := h; rfl)
    | (obtain ⟨_, _, _, _, _, _, _, _, _, _, _, _, _, _, rfl, _⟩ := h; rfl)
    | (obtain ⟨_, _, _, _, _, _, _, _, _, _, _, _, _, _, _, rfl, _⟩ := h; rfl)
theorem len_dot : ∀ q ∈ E_dot.L, ∀ us S Q X, q.2 us S Q X → us.length = p_dot.length := by
  intro q hq us S Q X h
  obtain rfl := List.mem_singleton.1 hq
  first
    | (obtain ⟨rfl, _⟩ := h; rfl)
    | (obtain ⟨_, rfl, _⟩ := h; rfl)
    | (obtain ⟨_, _, rfl, _⟩ := h; rfl)
    | (obtain ⟨_, _, _, rfl, _⟩ := h; rfl)
    | (obtain ⟨_, _, _, _, rfl, _⟩ := h; rfl)
    | (obtain ⟨_, _, _, _, _, rfl, _⟩ := h; rfl)
    | (obtain ⟨_, _, _, _, _, _, rfl, _⟩ := h; rfl)
    | (obtain ⟨_, _, _, _, _, _, _, rfl, _⟩ := h; rfl)
    | (obtain ⟨_, _, _, _, _, _, _, _, rfl, _⟩ := h; rfl)
    | (obtain ⟨_, _, _, _, _, _, _, _, _, rfl, _⟩ := h; rfl)
    | (obtain ⟨_, _, _, _, _, _, _, _, _, _, rfl, _⟩ := h; rfl)
    | (obtain ⟨_, _, _, _, _, _, _, _, _, _, _, rfl, _⟩ := h; rfl)
    | (obtain ⟨_, _, _, _, _, _, _, _, _, _, _, _, rfl, _⟩ := h; rfl)
    | (obtain ⟨_, _, _, _, _, _, _, _, _, _, _, _, _, rfl, _⟩ := h; rfl)
    | (obtain ⟨_, _, _, _, _, _, _, _, _, _, _, _, _, _, rfl, _⟩ := h; rfl)
    | (obtain ⟨_, _, _, _, _, _, _, _, _, _, _, _, _, _, _, rfl, _⟩ := h; rfl)
theorem len_may_change : ∀ q ∈ E_may_change.L, ∀ us S Q X, q.2 us S Q X → us.length = p_may_change.length := by
  intro q hq us S Q X h
  obtain rfl := List.mem_singleton.1 hq
  first
    | (obtain ⟨rfl, _⟩ := h; rfl)
    | (obtain ⟨_, rfl, _⟩ := h; rfl)
    | (obtain ⟨_, _, rfl, _⟩ := h; rfl)
    | (obtain ⟨_, _, _, rfl, _⟩ := h; rfl)
    | (obtain ⟨_, _, _, _, rfl, _⟩ := h; rfl)
    | (obtain ⟨_, _, _, _, _, rfl, _⟩ := h; rfl)
    | (obtain ⟨_, _, _, _, _, _, rfl, _⟩ := h; rfl)
    | (obtain ⟨_, _, _, _, _, _, _, rfl, _⟩ := h; rfl)
    | (obtain ⟨_, _, _, _, _, _, _, _, rfl, _⟩ := h; rfl)
    | (obtain ⟨_, _, _, _, _, _, _, _, _, rfl, _⟩ := h; rfl)
    | (obtain ⟨_, _, _, _, _, _, _, _, _, _, rfl, _⟩ := h; rfl)
    | (obtain ⟨_, _, _, _, _, _, _, _, _, _, _, rfl, _⟩ := h; rfl)
    | (obtain ⟨_, _, _, _, _, _, _, _, _, _, _, _, rfl, _⟩ := h; rfl)
    | (obtain ⟨_, _, _, _, _, _, _, _, _, _, _, _, _, rfl, _⟩ := h; rfl)
    | (obtain ⟨_, _, _, _, _, _, _, _, _, _, _, _, _, _, rfl, _⟩ := h; rfl)
    | (obtain ⟨_, _, _, _, _, _, _, _, _, _, _, _, _, _, _, rfl, _⟩ := h; rfl)
theorem len_changed : ∀ q ∈ E_changed.L, ∀ us S Q X, q.2 us S Q X → us.length = p_changed.length := by
  intro q hq us S Q X h
  obtain rfl := List.mem_singleton.1 hq
  first
    | (obtain ⟨rfl, _⟩ := h; rfl)
    | (obtain ⟨_, rfl, _⟩ := h; rfl)
    | (obtain ⟨_, _, rfl, _⟩ := h; rfl)
    | (obtain ⟨_, _, _, rfl, _⟩ := h; rfl)
    | (obtain ⟨_, _, _, _, rfl, _⟩ := h; rfl)
    | (obtain ⟨_, _, _, _, _, rfl, _⟩ := h; rfl)
    | (obtain ⟨_, _, _, _, _, _, rfl, _⟩ := h; rfl)
    | (obtain ⟨_, _, _, _, _, _, _, rfl, _⟩ := h; rfl)
    | (obtain ⟨_, _, _, _, _, _, _, _, rfl, _⟩ := h; rfl)
    | (obtain ⟨_, _, _, _, _, _, _, _, _, rfl, _⟩ := h; rfl)
    | (obtain ⟨_, _, _, _, _, _, _, _, _, _, rfl, _⟩ := h; rfl)
    | (obtain ⟨_, _, _, _, _, _, _, _, _, _, _, rfl, _⟩ := h; rfl)
    | (obtain ⟨_, _, _, _, _, _, _, _, _, _, _, _, rfl, _⟩ := h; rfl)
    | (obtain ⟨_, _, _, _, _, _, _, _, _, _, _, _, _, rfl, _⟩ := h; rfl)
    | (obtain ⟨_, _, _, _, _, _, _, _, _, _, _, _, _, _, rfl, _⟩ := h; rfl)
    | (obtain ⟨_, _, _, _, _, _, _, _, _, _, _, _, _, _, _, rfl, _⟩ := h; rfl)
theorem len_change : ∀ q ∈ E_change.L, ∀ us S Q X, q.2 us S Q X → us.length = p_change.length := by
  intro q hq us S Q X h
  obtain rfl := List.mem_singleton.1 hq
  first
    | (obtain ⟨rfl, _⟩ := h; rfl)
    | (obtain ⟨_, rfl, _⟩ := h; rfl)
    | (obtain ⟨_, _, rfl, _⟩ := h; rfl)
    | (obtain ⟨_, _, _, rfl, _⟩ := h; rfl)
    | (obtain ⟨_, _, _, _, rfl, _⟩ := h; rfl)
    | (obtain ⟨_, _, _, _, _, rfl, _⟩ := h; rfl)
    | (obtain ⟨_, _, _, _, _, _, rfl, _⟩ := h; rfl)
    | (obtain ⟨_, _, _, _, _, _, _, rfl, _⟩ := h; rfl)
    | (obtain ⟨_, _, _, _, _, _, _, _, rfl, _⟩ := h; rfl)
    | (obtain ⟨_, _, _, _, _, _, _, _, _, rfl, _⟩ := h; rfl)
    | (obtain ⟨_, _, _, _, _, _, _, _, _, _, rfl, _⟩ := h; rfl)
    | (obtain ⟨_, _, _, _, _, _, _, _, _, _, _, rfl, _⟩ := h; rfl)
    | (obtain ⟨_, _, _, _, _, _, _, _, _, _, _, _, rfl, _⟩ := h; rfl)
    | (obtain ⟨_, _, _, _, _, _, _, _, _, _, _, _, _, rfl, _⟩ := h; rfl)
    | (obtain ⟨_, _, _, _, _, _, _, _, _, _, _, _, _, _, rfl, _⟩ := h; rfl)
    | (obtain ⟨_, _, _, _, _, _, _, _, _, _, _, _, _, _, _, rfl, _⟩ := h; rfl)
theorem len_add_row : ∀ q ∈ E_add_row.L, ∀ us S Q X, q.2 us S Q X → us.length = p_add_row.length := by
  intro q hq us S Q X h
  obtain rfl := List.mem_singleton.1 hq
  first
    | (obtain ⟨rfl, _⟩ := h; rfl)
    | (obtain ⟨_, rfl, _⟩ := h; rfl)
    | (obtain ⟨_, _, rfl, _⟩ := h; rfl)
    | (obtain ⟨_, _, _, rfl, _⟩ := h; rfl)
    | (obtain ⟨_, _, _, _, rfl, _⟩ := h; rfl)
    | (obtain ⟨_, _, _, _, _, rfl, _⟩ := h; rfl)
    | (obtain ⟨_, _, _, _, _, _, rfl, _⟩ := h; rfl)
    | (obtain ⟨_, _, _, _, _, _, _, rfl, _⟩ := h; rfl)
    | (obtain ⟨_, _, _, _, _, _, _, _, rfl, _⟩ := h; rfl)
    | (obtain ⟨_, _, _, _, _, _, _, _, _, rfl, _⟩ := h; rfl)
    | (obtain ⟨_, _, _, _, _, _, _, _, _, _, rfl, _⟩ := h; rfl)
    | (obtain ⟨_, _, _, _, _, _, _, _, _, _, _, rfl, _⟩ := h; rfl)
    | (obtain ⟨_, _, _, _, _, _, _, _, _, _, _, _, rfl, _⟩ := h; rfl)
    | (obtain ⟨_, _, _, _, _, _, _, _, _, _, _, _, _, rfl, _⟩ := h; rfl)
    | (obtain ⟨_, _, _, _, _, _, _, _, _, _, _, _, _, _, rfl, _⟩ := h; rfl)
    | (obtain ⟨_, _, _, _, _, _, _, _, _, _, _, _, _, _, _, rfl, _⟩ := h; rfl)
theorem len_eliminate : ∀ q ∈ E_eliminate.L, ∀ us S Q X, q.2 us S Q X → us.length = p_eliminate.length := by
  intro q hq us S Q X h
  obtain rfl := List.mem_singleton.1 hq
  first
    | (obtain ⟨rfl, _⟩ := h; rfl)
    | (obtain ⟨_, rfl, _⟩ := h; rfl)
    | (obtain ⟨_, _, rfl, _⟩ := h; rfl)
    | (obtain ⟨_, _, _, rfl, _⟩ := h; rfl)
    | (obtain ⟨_, _, _, _, rfl, _⟩ := h; rfl)
    | (obtain ⟨_, _, _, _, _, rfl, _⟩ := h; rfl)
    | (obtain ⟨_, _, _, _, _, _, rfl, _⟩ := h; rfl)
    | (obtain ⟨_, _, _, _, _, _, _, rfl, _⟩ := h; rfl)
    | (obtain ⟨_, _, _, _, _, _, _, _, rfl, _⟩ := h; rfl)
    | (obtain ⟨_, _, _, _, _, _, _, _, _, rfl, _⟩ := h; rfl)
    | (obtain ⟨_, _, _, _, _, _, _, _, _, _, rfl, _⟩ := h; rfl)
    | (obtain ⟨_, _, _, _, _, _, _, _, _, _, _, rfl, _⟩ := h; rfl)
    | (obtain ⟨_, _, _, _, _, _, _, _, _, _, _, _, rfl, _⟩ := h; rfl)
    | (obtain ⟨_, _, _, _, _, _, _, _, _, _, _, _, _, rfl, _⟩ := h; rfl)
    | (obtain ⟨_, _, _, _, _, _, _, _, _, _, _, _, _, _, rfl, _⟩ := h; rfl)
    | (obtain ⟨_, _, _, _, _, _, _, _, _, _, _, _, _, _, _, rfl, _⟩ := h; rfl)
theorem len_pivots_of : ∀ q ∈ E_pivots_of.L, ∀ us S Q X, q.2 us S Q X → us.length = p_pivots_of.length := by
  intro q hq us S Q X h
  obtain rfl := List.mem_singleton.1 hq
  first
    | (obtain ⟨rfl, _⟩ := h; rfl)
    | (obtain ⟨_, rfl, _⟩ := h; rfl)
    | (obtain ⟨_, _, rfl, _⟩ := h; rfl)
    | (obtain ⟨_, _, _, rfl, _⟩ := h; rfl)
    | (obtain ⟨_, _, _, _, rfl, _⟩ := h; rfl)
    | (obtain ⟨_, _, _, _, _, rfl, _⟩ := h; rfl)
    | (obtain ⟨_, _, _, _, _, _, rfl, _⟩ := h; rfl)
    | (obtain ⟨_, _, _, _, _, _, _, rfl, _⟩ := h; rfl)
    | (obtain ⟨_, _, _, _, _, _, _, _, rfl, _⟩ := h; rfl)
    | (obtain ⟨_, _, _, _, _, _, _, _, _, rfl, _⟩ := h; rfl)
    | (obtain ⟨_, _, _, _, _, _, _, _, _, _, rfl, _⟩ := h; rfl)
    | (obtain ⟨_, _, _, _, _, _, _, _, _, _, _, rfl, _⟩ := h; rfl)
    | (obtain ⟨_, _, _, _, _, _, _, _, _, _, _, _, rfl, _⟩ := h; rfl)
    | (obtain ⟨_, _, _, _, _, _, _, _, _, _, _, _, _, rfl, _⟩ := h; rfl)
    | (obtain ⟨_, _, _, _, _, _, _, _, _, _, _, _, _, _, rfl, _⟩ := h; rfl)
    | (obtain ⟨_, _, _, _, _, _, _, _, _, _, _, _, _, _, _, rfl, _⟩ := h; rfl)
theorem len_rank : ∀ q ∈ E_rank.L, ∀ us S Q X, q.2 us S Q X → us.length = p_rank.length := by
  intro q hq us S Q X h
  obtain rfl := List.mem_singleton.1 hq
  first
    | (obtain ⟨rfl, _⟩ := h; rfl)
    | (obtain ⟨_, rfl, _⟩ := h; rfl)
    | (obtain ⟨_, _, rfl, _⟩ := h; rfl)
    | (obtain ⟨_, _, _, rfl, _⟩ := h; rfl)
    | (obtain ⟨_, _, _, _, rfl, _⟩ := h; rfl)
    | (obtain ⟨_, _, _, _, _, rfl, _⟩ := h; rfl)
    | (obtain ⟨_, _, _, _, _, _, rfl, _⟩ := h; rfl)
    | (obtain ⟨_, _, _, _, _, _, _, rfl, _⟩ := h; rfl)
    | (obtain ⟨_, _, _, _, _, _, _, _, rfl, _⟩ := h; rfl)
    | (obtain ⟨_, _, _, _, _, _, _, _, _, rfl, _⟩ := h; rfl)
    | (obtain ⟨_, _, _, _, _, _, _, _, _, _, rfl, _⟩ := h; rfl)
    | (obtain ⟨_, _, _, _, _, _, _, _, _, _, _, rfl, _⟩ := h; rfl)
    | (obtain ⟨_, _, _, _, _, _, _, _, _, _, _, _, rfl, _⟩ := h; rfl)
    | (obtain ⟨_, _, _, _, _, _, _, _, _, _, _, _, _, rfl, _⟩ := h; rfl)
    | (obtain ⟨_, _, _, _, _, _, _, _, _, _, _, _, _, _, rfl, _⟩ := h; rfl)
    | (obtain ⟨_, _, _, _, _, _, _, _, _, _, _, _, _, _, _, rfl, _⟩ := h; rfl)
theorem len_fractions : ∀ q ∈ E_fractions.L, ∀ us S Q X, q.2 us S Q X → us.length = p_fractions.length := by
  intro q hq us S Q X h
  obtain rfl := List.mem_singleton.1 hq
  first
    | (obtain ⟨rfl, _⟩ := h; rfl)
    | (obtain ⟨_, rfl, _⟩ := h; rfl)
    | (obtain ⟨_, _, rfl, _⟩ := h; rfl)
    | (obtain ⟨_, _, _, rfl, _⟩ := h; rfl)
    | (obtain ⟨_, _, _, _, rfl, _⟩ := h; rfl)
    | (obtain ⟨_, _, _, _, _, rfl, _⟩ := h; rfl)
    | (obtain ⟨_, _, _, _, _, _, rfl, _⟩ := h; rfl)
    | (obtain ⟨_, _, _, _, _, _, _, rfl, _⟩ := h; rfl)
    | (obtain ⟨_, _, _, _, _, _, _, _, rfl, _⟩ := h; rfl)
    | (obtain ⟨_, _, _, _, _, _, _, _, _, rfl, _⟩ := h; rfl)
    | (obtain ⟨_, _, _, _, _, _, _, _, _, _, rfl, _⟩ := h; rfl)
    | (obtain ⟨_, _, _, _, _, _, _, _, _, _, _, rfl, _⟩ := h; rfl)
    | (obtain ⟨_, _, _, _, _, _, _, _, _, _, _, _, rfl, _⟩ := h; rfl)
    | (obtain ⟨_, _, _, _, _, _, _, _, _, _, _, _, _, rfl, _⟩ := h; rfl)
    | (obtain ⟨_, _, _, _, _, _, _, _, _, _, _, _, _, _, rfl, _⟩ := h; rfl)
    | (obtain ⟨_, _, _, _, _, _, _, _, _, _, _, _, _, _, _, rfl, _⟩ := h; rfl)
theorem len_need_basis : ∀ q ∈ E_need_basis.L, ∀ us S Q X, q.2 us S Q X → us.length = p_need_basis.length := by
  intro q hq us S Q X h
  obtain rfl := List.mem_singleton.1 hq
  first
    | (obtain ⟨rfl, _⟩ := h; rfl)
    | (obtain ⟨_, rfl, _⟩ := h; rfl)
    | (obtain ⟨_, _, rfl, _⟩ := h; rfl)
    | (obtain ⟨_, _, _, rfl, _⟩ := h; rfl)
    | (obtain ⟨_, _, _, _, rfl, _⟩ := h; rfl)
    | (obtain ⟨_, _, _, _, _, rfl, _⟩ := h; rfl)
    | (obtain ⟨_, _, _, _, _, _, rfl, _⟩ := h; rfl)
    | (obtain ⟨_, _, _, _, _, _, _, rfl, _⟩ := h; rfl)
    | (obtain ⟨_, _, _, _, _, _, _, _, rfl, _⟩ := h; rfl)
    | (obtain ⟨_, _, _, _, _, _, _, _, _, rfl, _⟩ := h; rfl)
    | (obtain ⟨_, _, _, _, _, _, _, _, _, _, rfl, _⟩ := h; rfl)
    | (obtain ⟨_, _, _, _, _, _, _, _, _, _, _, rfl, _⟩ := h; rfl)
    | (obtain ⟨_, _, _, _, _, _, _, _, _, _, _, _, rfl, _⟩ := h; rfl)
    | (obtain ⟨_, _, _, _, _, _, _, _, _, _, _, _, _, rfl, _⟩ := h; rfl)
    | (obtain ⟨_, _, _, _, _, _, _, _, _, _, _, _, _, _, rfl, _⟩ := h; rfl)
    | (obtain ⟨_, _, _, _, _, _, _, _, _, _, _, _, _, _, _, rfl, _⟩ := h; rfl)
theorem len_orthogonal : ∀ q ∈ E_orthogonal.L, ∀ us S Q X, q.2 us S Q X → us.length = p_orthogonal.length := by
  intro q hq us S Q X h
  obtain rfl := List.mem_singleton.1 hq
  first
    | (obtain ⟨rfl, _⟩ := h; rfl)
    | (obtain ⟨_, rfl, _⟩ := h; rfl)
    | (obtain ⟨_, _, rfl, _⟩ := h; rfl)
    | (obtain ⟨_, _, _, rfl, _⟩ := h; rfl)
    | (obtain ⟨_, _, _, _, rfl, _⟩ := h; rfl)
    | (obtain ⟨_, _, _, _, _, rfl, _⟩ := h; rfl)
    | (obtain ⟨_, _, _, _, _, _, rfl, _⟩ := h; rfl)
    | (obtain ⟨_, _, _, _, _, _, _, rfl, _⟩ := h; rfl)
    | (obtain ⟨_, _, _, _, _, _, _, _, rfl, _⟩ := h; rfl)
    | (obtain ⟨_, _, _, _, _, _, _, _, _, rfl, _⟩ := h; rfl)
    | (obtain ⟨_, _, _, _, _, _, _, _, _, _, rfl, _⟩ := h; rfl)
    | (obtain ⟨_, _, _, _, _, _, _, _, _, _, _, rfl, _⟩ := h; rfl)
    | (obtain ⟨_, _, _, _, _, _, _, _, _, _, _, _, rfl, _⟩ := h; rfl)
    | (obtain ⟨_, _, _, _, _, _, _, _, _, _, _, _, _, rfl, _⟩ := h; rfl)
    | (obtain ⟨_, _, _, _, _, _, _, _, _, _, _, _, _, _, rfl, _⟩ := h; rfl)
    | (obtain ⟨_, _, _, _, _, _, _, _, _, _, _, _, _, _, _, rfl, _⟩ := h; rfl)
theorem len_is_reduced : ∀ q ∈ E_is_reduced.L, ∀ us S Q X, q.2 us S Q X → us.length = p_is_reduced.length := by
  intro q hq us S Q X h
  obtain rfl := List.mem_singleton.1 hq
  first
    | (obtain ⟨rfl, _⟩ := h; rfl)
    | (obtain ⟨_, rfl, _⟩ := h; rfl)
    | (obtain ⟨_, _, rfl, _⟩ := h; rfl)
    | (obtain ⟨_, _, _, rfl, _⟩ := h; rfl)
    | (obtain ⟨_, _, _, _, rfl, _⟩ := h; rfl)
    | (obtain ⟨_, _, _, _, _, rfl, _⟩ := h; rfl)
    | (obtain ⟨_, _, _, _, _, _, rfl, _⟩ := h; rfl)
    | (obtain ⟨_, _, _, _, _, _, _, rfl, _⟩ := h; rfl)
    | (obtain ⟨_, _, _, _, _, _, _, _, rfl, _⟩ := h; rfl)
    | (obtain ⟨_, _, _, _, _, _, _, _, _, rfl, _⟩ := h; rfl)
    | (obtain ⟨_, _, _, _, _, _, _, _, _, _, rfl, _⟩ := h; rfl)
    | (obtain ⟨_, _, _, _, _, _, _, _, _, _, _, rfl, _⟩ := h; rfl)
    | (obtain ⟨_, _, _, _, _, _, _, _, _, _, _, _, rfl, _⟩ := h; rfl)
    | (obtain ⟨_, _, _, _, _, _, _, _, _, _, _, _, _, rfl, _⟩ := h; rfl)
    | (obtain ⟨_, _, _, _, _, _, _, _, _, _, _, _, _, _, rfl, _⟩ := h; rfl)
    | (obtain ⟨_, _, _, _, _, _, _, _, _, _, _, _, _, _, _, rfl, _⟩ := h; rfl)
theorem len_law_start : ∀ q ∈ E_law_start.L, ∀ us S Q X, q.2 us S Q X → us.length = p_law_start.length := by
  intro q hq us S Q X h
  obtain rfl := List.mem_singleton.1 hq
  first
    | (obtain ⟨rfl, _⟩ := h; rfl)
    | (obtain ⟨_, rfl, _⟩ := h; rfl)
    | (obtain ⟨_, _, rfl, _⟩ := h; rfl)
    | (obtain ⟨_, _, _, rfl, _⟩ := h; rfl)
    | (obtain ⟨_, _, _, _, rfl, _⟩ := h; rfl)
    | (obtain ⟨_, _, _, _, _, rfl, _⟩ := h; rfl)
    | (obtain ⟨_, _, _, _, _, _, rfl, _⟩ := h; rfl)
    | (obtain ⟨_, _, _, _, _, _, _, rfl, _⟩ := h; rfl)
    | (obtain ⟨_, _, _, _, _, _, _, _, rfl, _⟩ := h; rfl)
    | (obtain ⟨_, _, _, _, _, _, _, _, _, rfl, _⟩ := h; rfl)
    | (obtain ⟨_, _, _, _, _, _, _, _, _, _, rfl, _⟩ := h; rfl)
    | (obtain ⟨_, _, _, _, _, _, _, _, _, _, _, rfl, _⟩ := h; rfl)
    | (obtain ⟨_, _, _, _, _, _, _, _, _, _, _, _, rfl, _⟩ := h; rfl)
    | (obtain ⟨_, _, _, _, _, _, _, _, _, _, _, _, _, rfl, _⟩ := h; rfl)
    | (obtain ⟨_, _, _, _, _, _, _, _, _, _, _, _, _, _, rfl, _⟩ := h; rfl)
    | (obtain ⟨_, _, _, _, _, _, _, _, _, _, _, _, _, _, _, rfl, _⟩ := h; rfl)
theorem len_law_fill : ∀ q ∈ E_law_fill.L, ∀ us S Q X, q.2 us S Q X → us.length = p_law_fill.length := by
  intro q hq us S Q X h
  obtain rfl := List.mem_singleton.1 hq
  first
    | (obtain ⟨rfl, _⟩ := h; rfl)
    | (obtain ⟨_, rfl, _⟩ := h; rfl)
    | (obtain ⟨_, _, rfl, _⟩ := h; rfl)
    | (obtain ⟨_, _, _, rfl, _⟩ := h; rfl)
    | (obtain ⟨_, _, _, _, rfl, _⟩ := h; rfl)
    | (obtain ⟨_, _, _, _, _, rfl, _⟩ := h; rfl)
    | (obtain ⟨_, _, _, _, _, _, rfl, _⟩ := h; rfl)
    | (obtain ⟨_, _, _, _, _, _, _, rfl, _⟩ := h; rfl)
    | (obtain ⟨_, _, _, _, _, _, _, _, rfl, _⟩ := h; rfl)
    | (obtain ⟨_, _, _, _, _, _, _, _, _, rfl, _⟩ := h; rfl)
    | (obtain ⟨_, _, _, _, _, _, _, _, _, _, rfl, _⟩ := h; rfl)
    | (obtain ⟨_, _, _, _, _, _, _, _, _, _, _, rfl, _⟩ := h; rfl)
    | (obtain ⟨_, _, _, _, _, _, _, _, _, _, _, _, rfl, _⟩ := h; rfl)
    | (obtain ⟨_, _, _, _, _, _, _, _, _, _, _, _, _, rfl, _⟩ := h; rfl)
    | (obtain ⟨_, _, _, _, _, _, _, _, _, _, _, _, _, _, rfl, _⟩ := h; rfl)
    | (obtain ⟨_, _, _, _, _, _, _, _, _, _, _, _, _, _, _, rfl, _⟩ := h; rfl)
theorem len_law_take : ∀ q ∈ E_law_take.L, ∀ us S Q X, q.2 us S Q X → us.length = p_law_take.length := by
  intro q hq us S Q X h
  obtain rfl := List.mem_singleton.1 hq
  first
    | (obtain ⟨rfl, _⟩ := h; rfl)
    | (obtain ⟨_, rfl, _⟩ := h; rfl)
    | (obtain ⟨_, _, rfl, _⟩ := h; rfl)
    | (obtain ⟨_, _, _, rfl, _⟩ := h; rfl)
    | (obtain ⟨_, _, _, _, rfl, _⟩ := h; rfl)
    | (obtain ⟨_, _, _, _, _, rfl, _⟩ := h; rfl)
    | (obtain ⟨_, _, _, _, _, _, rfl, _⟩ := h; rfl)
    | (obtain ⟨_, _, _, _, _, _, _, rfl, _⟩ := h; rfl)
    | (obtain ⟨_, _, _, _, _, _, _, _, rfl, _⟩ := h; rfl)
    | (obtain ⟨_, _, _, _, _, _, _, _, _, rfl, _⟩ := h; rfl)
    | (obtain ⟨_, _, _, _, _, _, _, _, _, _, rfl, _⟩ := h; rfl)
    | (obtain ⟨_, _, _, _, _, _, _, _, _, _, _, rfl, _⟩ := h; rfl)
    | (obtain ⟨_, _, _, _, _, _, _, _, _, _, _, _, rfl, _⟩ := h; rfl)
    | (obtain ⟨_, _, _, _, _, _, _, _, _, _, _, _, _, rfl, _⟩ := h; rfl)
    | (obtain ⟨_, _, _, _, _, _, _, _, _, _, _, _, _, _, rfl, _⟩ := h; rfl)
    | (obtain ⟨_, _, _, _, _, _, _, _, _, _, _, _, _, _, _, rfl, _⟩ := h; rfl)
theorem len_law_common : ∀ q ∈ E_law_common.L, ∀ us S Q X, q.2 us S Q X → us.length = p_law_common.length := by
  intro q hq us S Q X h
  obtain rfl := List.mem_singleton.1 hq
  first
    | (obtain ⟨rfl, _⟩ := h; rfl)
    | (obtain ⟨_, rfl, _⟩ := h; rfl)
    | (obtain ⟨_, _, rfl, _⟩ := h; rfl)
    | (obtain ⟨_, _, _, rfl, _⟩ := h; rfl)
    | (obtain ⟨_, _, _, _, rfl, _⟩ := h; rfl)
    | (obtain ⟨_, _, _, _, _, rfl, _⟩ := h; rfl)
    | (obtain ⟨_, _, _, _, _, _, rfl, _⟩ := h; rfl)
    | (obtain ⟨_, _, _, _, _, _, _, rfl, _⟩ := h; rfl)
    | (obtain ⟨_, _, _, _, _, _, _, _, rfl, _⟩ := h; rfl)
    | (obtain ⟨_, _, _, _, _, _, _, _, _, rfl, _⟩ := h; rfl)
    | (obtain ⟨_, _, _, _, _, _, _, _, _, _, rfl, _⟩ := h; rfl)
    | (obtain ⟨_, _, _, _, _, _, _, _, _, _, _, rfl, _⟩ := h; rfl)
    | (obtain ⟨_, _, _, _, _, _, _, _, _, _, _, _, rfl, _⟩ := h; rfl)
    | (obtain ⟨_, _, _, _, _, _, _, _, _, _, _, _, _, rfl, _⟩ := h; rfl)
    | (obtain ⟨_, _, _, _, _, _, _, _, _, _, _, _, _, _, rfl, _⟩ := h; rfl)
    | (obtain ⟨_, _, _, _, _, _, _, _, _, _, _, _, _, _, _, rfl, _⟩ := h; rfl)
theorem len_law_fraction : ∀ q ∈ E_law_fraction.L, ∀ us S Q X, q.2 us S Q X → us.length = p_law_fraction.length := by
  intro q hq us S Q X h
  obtain rfl := List.mem_singleton.1 hq
  first
    | (obtain ⟨rfl, _⟩ := h; rfl)
    | (obtain ⟨_, rfl, _⟩ := h; rfl)
    | (obtain ⟨_, _, rfl, _⟩ := h; rfl)
    | (obtain ⟨_, _, _, rfl, _⟩ := h; rfl)
    | (obtain ⟨_, _, _, _, rfl, _⟩ := h; rfl)
    | (obtain ⟨_, _, _, _, _, rfl, _⟩ := h; rfl)
    | (obtain ⟨_, _, _, _, _, _, rfl, _⟩ := h; rfl)
    | (obtain ⟨_, _, _, _, _, _, _, rfl, _⟩ := h; rfl)
    | (obtain ⟨_, _, _, _, _, _, _, _, rfl, _⟩ := h; rfl)
    | (obtain ⟨_, _, _, _, _, _, _, _, _, rfl, _⟩ := h; rfl)
    | (obtain ⟨_, _, _, _, _, _, _, _, _, _, rfl, _⟩ := h; rfl)
    | (obtain ⟨_, _, _, _, _, _, _, _, _, _, _, rfl, _⟩ := h; rfl)
    | (obtain ⟨_, _, _, _, _, _, _, _, _, _, _, _, rfl, _⟩ := h; rfl)
    | (obtain ⟨_, _, _, _, _, _, _, _, _, _, _, _, _, rfl, _⟩ := h; rfl)
    | (obtain ⟨_, _, _, _, _, _, _, _, _, _, _, _, _, _, rfl, _⟩ := h; rfl)
    | (obtain ⟨_, _, _, _, _, _, _, _, _, _, _, _, _, _, _, rfl, _⟩ := h; rfl)
theorem len_law_zero : ∀ q ∈ E_law_zero.L, ∀ us S Q X, q.2 us S Q X → us.length = p_law_zero.length := by
  intro q hq us S Q X h
  obtain rfl := List.mem_singleton.1 hq
  first
    | (obtain ⟨rfl, _⟩ := h; rfl)
    | (obtain ⟨_, rfl, _⟩ := h; rfl)
    | (obtain ⟨_, _, rfl, _⟩ := h; rfl)
    | (obtain ⟨_, _, _, rfl, _⟩ := h; rfl)
    | (obtain ⟨_, _, _, _, rfl, _⟩ := h; rfl)
    | (obtain ⟨_, _, _, _, _, rfl, _⟩ := h; rfl)
    | (obtain ⟨_, _, _, _, _, _, rfl, _⟩ := h; rfl)
    | (obtain ⟨_, _, _, _, _, _, _, rfl, _⟩ := h; rfl)
    | (obtain ⟨_, _, _, _, _, _, _, _, rfl, _⟩ := h; rfl)
    | (obtain ⟨_, _, _, _, _, _, _, _, _, rfl, _⟩ := h; rfl)
    | (obtain ⟨_, _, _, _, _, _, _, _, _, _, rfl, _⟩ := h; rfl)
    | (obtain ⟨_, _, _, _, _, _, _, _, _, _, _, rfl, _⟩ := h; rfl)
    | (obtain ⟨_, _, _, _, _, _, _, _, _, _, _, _, rfl, _⟩ := h; rfl)
    | (obtain ⟨_, _, _, _, _, _, _, _, _, _, _, _, _, rfl, _⟩ := h; rfl)
    | (obtain ⟨_, _, _, _, _, _, _, _, _, _, _, _, _, _, rfl, _⟩ := h; rfl)
    | (obtain ⟨_, _, _, _, _, _, _, _, _, _, _, _, _, _, _, rfl, _⟩ := h; rfl)
theorem len_law_number : ∀ q ∈ E_law_number.L, ∀ us S Q X, q.2 us S Q X → us.length = p_law_number.length := by
  intro q hq us S Q X h
  obtain rfl := List.mem_singleton.1 hq
  first
    | (obtain ⟨rfl, _⟩ := h; rfl)
    | (obtain ⟨_, rfl, _⟩ := h; rfl)
    | (obtain ⟨_, _, rfl, _⟩ := h; rfl)
    | (obtain ⟨_, _, _, rfl, _⟩ := h; rfl)
    | (obtain ⟨_, _, _, _, rfl, _⟩ := h; rfl)
    | (obtain ⟨_, _, _, _, _, rfl, _⟩ := h; rfl)
    | (obtain ⟨_, _, _, _, _, _, rfl, _⟩ := h; rfl)
    | (obtain ⟨_, _, _, _, _, _, _, rfl, _⟩ := h; rfl)
    | (obtain ⟨_, _, _, _, _, _, _, _, rfl, _⟩ := h; rfl)
    | (obtain ⟨_, _, _, _, _, _, _, _, _, rfl, _⟩ := h; rfl)
    | (obtain ⟨_, _, _, _, _, _, _, _, _, _, rfl, _⟩ := h; rfl)
    | (obtain ⟨_, _, _, _, _, _, _, _, _, _, _, rfl, _⟩ := h; rfl)
    | (obtain ⟨_, _, _, _, _, _, _, _, _, _, _, _, rfl, _⟩ := h; rfl)
    | (obtain ⟨_, _, _, _, _, _, _, _, _, _, _, _, _, rfl, _⟩ := h; rfl)
    | (obtain ⟨_, _, _, _, _, _, _, _, _, _, _, _, _, _, rfl, _⟩ := h; rfl)
    | (obtain ⟨_, _, _, _, _, _, _, _, _, _, _, _, _, _, _, rfl, _⟩ := h; rfl)
theorem len_law_add : ∀ q ∈ E_law_add.L, ∀ us S Q X, q.2 us S Q X → us.length = p_law_add.length := by
  intro q hq us S Q X h
  obtain rfl := List.mem_singleton.1 hq
  first
    | (obtain ⟨rfl, _⟩ := h; rfl)
    | (obtain ⟨_, rfl, _⟩ := h; rfl)
    | (obtain ⟨_, _, rfl, _⟩ := h; rfl)
    | (obtain ⟨_, _, _, rfl, _⟩ := h; rfl)
    | (obtain ⟨_, _, _, _, rfl, _⟩ := h; rfl)
    | (obtain ⟨_, _, _, _, _, rfl, _⟩ := h; rfl)
    | (obtain ⟨_, _, _, _, _, _, rfl, _⟩ := h; rfl)
    | (obtain ⟨_, _, _, _, _, _, _, rfl, _⟩ := h; rfl)
    | (obtain ⟨_, _, _, _, _, _, _, _, rfl, _⟩ := h; rfl)
    | (obtain ⟨_, _, _, _, _, _, _, _, _, rfl, _⟩ := h; rfl)
    | (obtain ⟨_, _, _, _, _, _, _, _, _, _, rfl, _⟩ := h; rfl)
    | (obtain ⟨_, _, _, _, _, _, _, _, _, _, _, rfl, _⟩ := h; rfl)
    | (obtain ⟨_, _, _, _, _, _, _, _, _, _, _, _, rfl, _⟩ := h; rfl)
    | (obtain ⟨_, _, _, _, _, _, _, _, _, _, _, _, _, rfl, _⟩ := h; rfl)
    | (obtain ⟨_, _, _, _, _, _, _, _, _, _, _, _, _, _, rfl, _⟩ := h; rfl)
    | (obtain ⟨_, _, _, _, _, _, _, _, _, _, _, _, _, _, _, rfl, _⟩ := h; rfl)
theorem len_law_multiply : ∀ q ∈ E_law_multiply.L, ∀ us S Q X, q.2 us S Q X → us.length = p_law_multiply.length := by
  intro q hq us S Q X h
  obtain rfl := List.mem_singleton.1 hq
  first
    | (obtain ⟨rfl, _⟩ := h; rfl)
    | (obtain ⟨_, rfl, _⟩ := h; rfl)
    | (obtain ⟨_, _, rfl, _⟩ := h; rfl)
    | (obtain ⟨_, _, _, rfl, _⟩ := h; rfl)
    | (obtain ⟨_, _, _, _, rfl, _⟩ := h; rfl)
    | (obtain ⟨_, _, _, _, _, rfl, _⟩ := h; rfl)
    | (obtain ⟨_, _, _, _, _, _, rfl, _⟩ := h; rfl)
    | (obtain ⟨_, _, _, _, _, _, _, rfl, _⟩ := h; rfl)
    | (obtain ⟨_, _, _, _, _, _, _, _, rfl, _⟩ := h; rfl)
    | (obtain ⟨_, _, _, _, _, _, _, _, _, rfl, _⟩ := h; rfl)
    | (obtain ⟨_, _, _, _, _, _, _, _, _, _, rfl, _⟩ := h; rfl)
    | (obtain ⟨_, _, _, _, _, _, _, _, _, _, _, rfl, _⟩ := h; rfl)
    | (obtain ⟨_, _, _, _, _, _, _, _, _, _, _, _, rfl, _⟩ := h; rfl)
    | (obtain ⟨_, _, _, _, _, _, _, _, _, _, _, _, _, rfl, _⟩ := h; rfl)
    | (obtain ⟨_, _, _, _, _, _, _, _, _, _, _, _, _, _, rfl, _⟩ := h; rfl)
    | (obtain ⟨_, _, _, _, _, _, _, _, _, _, _, _, _, _, _, rfl, _⟩ := h; rfl)
theorem len_law_subtract : ∀ q ∈ E_law_subtract.L, ∀ us S Q X, q.2 us S Q X → us.length = p_law_subtract.length := by
  intro q hq us S Q X h
  obtain rfl := List.mem_singleton.1 hq
  first
    | (obtain ⟨rfl, _⟩ := h; rfl)
    | (obtain ⟨_, rfl, _⟩ := h; rfl)
    | (obtain ⟨_, _, rfl, _⟩ := h; rfl)
    | (obtain ⟨_, _, _, rfl, _⟩ := h; rfl)
    | (obtain ⟨_, _, _, _, rfl, _⟩ := h; rfl)
    | (obtain ⟨_, _, _, _, _, rfl, _⟩ := h; rfl)
    | (obtain ⟨_, _, _, _, _, _, rfl, _⟩ := h; rfl)
    | (obtain ⟨_, _, _, _, _, _, _, rfl, _⟩ := h; rfl)
    | (obtain ⟨_, _, _, _, _, _, _, _, rfl, _⟩ := h; rfl)
    | (obtain ⟨_, _, _, _, _, _, _, _, _, rfl, _⟩ := h; rfl)
    | (obtain ⟨_, _, _, _, _, _, _, _, _, _, rfl, _⟩ := h; rfl)
    | (obtain ⟨_, _, _, _, _, _, _, _, _, _, _, rfl, _⟩ := h; rfl)
    | (obtain ⟨_, _, _, _, _, _, _, _, _, _, _, _, rfl, _⟩ := h; rfl)
    | (obtain ⟨_, _, _, _, _, _, _, _, _, _, _, _, _, rfl, _⟩ := h; rfl)
    | (obtain ⟨_, _, _, _, _, _, _, _, _, _, _, _, _, _, rfl, _⟩ := h; rfl)
    | (obtain ⟨_, _, _, _, _, _, _, _, _, _, _, _, _, _, _, rfl, _⟩ := h; rfl)
theorem len_law_inverse : ∀ q ∈ E_law_inverse.L, ∀ us S Q X, q.2 us S Q X → us.length = p_law_inverse.length := by
  intro q hq us S Q X h
  obtain rfl := List.mem_singleton.1 hq
  first
    | (obtain ⟨rfl, _⟩ := h; rfl)
    | (obtain ⟨_, rfl, _⟩ := h; rfl)
    | (obtain ⟨_, _, rfl, _⟩ := h; rfl)
    | (obtain ⟨_, _, _, rfl, _⟩ := h; rfl)
    | (obtain ⟨_, _, _, _, rfl, _⟩ := h; rfl)
    | (obtain ⟨_, _, _, _, _, rfl, _⟩ := h; rfl)
    | (obtain ⟨_, _, _, _, _, _, rfl, _⟩ := h; rfl)
    | (obtain ⟨_, _, _, _, _, _, _, rfl, _⟩ := h; rfl)
    | (obtain ⟨_, _, _, _, _, _, _, _, rfl, _⟩ := h; rfl)
    | (obtain ⟨_, _, _, _, _, _, _, _, _, rfl, _⟩ := h; rfl)
    | (obtain ⟨_, _, _, _, _, _, _, _, _, _, rfl, _⟩ := h; rfl)
    | (obtain ⟨_, _, _, _, _, _, _, _, _, _, _, rfl, _⟩ := h; rfl)
    | (obtain ⟨_, _, _, _, _, _, _, _, _, _, _, _, rfl, _⟩ := h; rfl)
    | (obtain ⟨_, _, _, _, _, _, _, _, _, _, _, _, _, rfl, _⟩ := h; rfl)
    | (obtain ⟨_, _, _, _, _, _, _, _, _, _, _, _, _, _, rfl, _⟩ := h; rfl)
    | (obtain ⟨_, _, _, _, _, _, _, _, _, _, _, _, _, _, _, rfl, _⟩ := h; rfl)
theorem len_law_small : ∀ q ∈ E_law_small.L, ∀ us S Q X, q.2 us S Q X → us.length = p_law_small.length := by
  intro q hq us S Q X h
  obtain rfl := List.mem_singleton.1 hq
  first
    | (obtain ⟨rfl, _⟩ := h; rfl)
    | (obtain ⟨_, rfl, _⟩ := h; rfl)
    | (obtain ⟨_, _, rfl, _⟩ := h; rfl)
    | (obtain ⟨_, _, _, rfl, _⟩ := h; rfl)
    | (obtain ⟨_, _, _, _, rfl, _⟩ := h; rfl)
    | (obtain ⟨_, _, _, _, _, rfl, _⟩ := h; rfl)
    | (obtain ⟨_, _, _, _, _, _, rfl, _⟩ := h; rfl)
    | (obtain ⟨_, _, _, _, _, _, _, rfl, _⟩ := h; rfl)
    | (obtain ⟨_, _, _, _, _, _, _, _, rfl, _⟩ := h; rfl)
    | (obtain ⟨_, _, _, _, _, _, _, _, _, rfl, _⟩ := h; rfl)
    | (obtain ⟨_, _, _, _, _, _, _, _, _, _, rfl, _⟩ := h; rfl)
    | (obtain ⟨_, _, _, _, _, _, _, _, _, _, _, rfl, _⟩ := h; rfl)
    | (obtain ⟨_, _, _, _, _, _, _, _, _, _, _, _, rfl, _⟩ := h; rfl)
    | (obtain ⟨_, _, _, _, _, _, _, _, _, _, _, _, _, rfl, _⟩ := h; rfl)
    | (obtain ⟨_, _, _, _, _, _, _, _, _, _, _, _, _, _, rfl, _⟩ := h; rfl)
    | (obtain ⟨_, _, _, _, _, _, _, _, _, _, _, _, _, _, _, rfl, _⟩ := h; rfl)
theorem len_law_matrix : ∀ q ∈ E_law_matrix.L, ∀ us S Q X, q.2 us S Q X → us.length = p_law_matrix.length := by
  intro q hq us S Q X h
  obtain rfl := List.mem_singleton.1 hq
  first
    | (obtain ⟨rfl, _⟩ := h; rfl)
    | (obtain ⟨_, rfl, _⟩ := h; rfl)
    | (obtain ⟨_, _, rfl, _⟩ := h; rfl)
    | (obtain ⟨_, _, _, rfl, _⟩ := h; rfl)
    | (obtain ⟨_, _, _, _, rfl, _⟩ := h; rfl)
    | (obtain ⟨_, _, _, _, _, rfl, _⟩ := h; rfl)
    | (obtain ⟨_, _, _, _, _, _, rfl, _⟩ := h; rfl)
    | (obtain ⟨_, _, _, _, _, _, _, rfl, _⟩ := h; rfl)
    | (obtain ⟨_, _, _, _, _, _, _, _, rfl, _⟩ := h; rfl)
    | (obtain ⟨_, _, _, _, _, _, _, _, _, rfl, _⟩ := h; rfl)
    | (obtain ⟨_, _, _, _, _, _, _, _, _, _, rfl, _⟩ := h; rfl)
    | (obtain ⟨_, _, _, _, _, _, _, _, _, _, _, rfl, _⟩ := h; rfl)
    | (obtain ⟨_, _, _, _, _, _, _, _, _, _, _, _, rfl, _⟩ := h; rfl)
    | (obtain ⟨_, _, _, _, _, _, _, _, _, _, _, _, _, rfl, _⟩ := h; rfl)
    | (obtain ⟨_, _, _, _, _, _, _, _, _, _, _, _, _, _, rfl, _⟩ := h; rfl)
    | (obtain ⟨_, _, _, _, _, _, _, _, _, _, _, _, _, _, _, rfl, _⟩ := h; rfl)
theorem len_law_dot : ∀ q ∈ E_law_dot.L, ∀ us S Q X, q.2 us S Q X → us.length = p_law_dot.length := by
  intro q hq us S Q X h
  obtain rfl := List.mem_singleton.1 hq
  first
    | (obtain ⟨rfl, _⟩ := h; rfl)
    | (obtain ⟨_, rfl, _⟩ := h; rfl)
    | (obtain ⟨_, _, rfl, _⟩ := h; rfl)
    | (obtain ⟨_, _, _, rfl, _⟩ := h; rfl)
    | (obtain ⟨_, _, _, _, rfl, _⟩ := h; rfl)
    | (obtain ⟨_, _, _, _, _, rfl, _⟩ := h; rfl)
    | (obtain ⟨_, _, _, _, _, _, rfl, _⟩ := h; rfl)
    | (obtain ⟨_, _, _, _, _, _, _, rfl, _⟩ := h; rfl)
    | (obtain ⟨_, _, _, _, _, _, _, _, rfl, _⟩ := h; rfl)
    | (obtain ⟨_, _, _, _, _, _, _, _, _, rfl, _⟩ := h; rfl)
    | (obtain ⟨_, _, _, _, _, _, _, _, _, _, rfl, _⟩ := h; rfl)
    | (obtain ⟨_, _, _, _, _, _, _, _, _, _, _, rfl, _⟩ := h; rfl)
    | (obtain ⟨_, _, _, _, _, _, _, _, _, _, _, _, rfl, _⟩ := h; rfl)
    | (obtain ⟨_, _, _, _, _, _, _, _, _, _, _, _, _, rfl, _⟩ := h; rfl)
    | (obtain ⟨_, _, _, _, _, _, _, _, _, _, _, _, _, _, rfl, _⟩ := h; rfl)
    | (obtain ⟨_, _, _, _, _, _, _, _, _, _, _, _, _, _, _, rfl, _⟩ := h; rfl)
theorem len_law_basis : ∀ q ∈ E_law_basis.L, ∀ us S Q X, q.2 us S Q X → us.length = p_law_basis.length := by
  intro q hq us S Q X h
  obtain rfl := List.mem_singleton.1 hq
  first
    | (obtain ⟨rfl, _⟩ := h; rfl)
    | (obtain ⟨_, rfl, _⟩ := h; rfl)
    | (obtain ⟨_, _, rfl, _⟩ := h; rfl)
    | (obtain ⟨_, _, _, rfl, _⟩ := h; rfl)
    | (obtain ⟨_, _, _, _, rfl, _⟩ := h; rfl)
    | (obtain ⟨_, _, _, _, _, rfl, _⟩ := h; rfl)
    | (obtain ⟨_, _, _, _, _, _, rfl, _⟩ := h; rfl)
    | (obtain ⟨_, _, _, _, _, _, _, rfl, _⟩ := h; rfl)
    | (obtain ⟨_, _, _, _, _, _, _, _, rfl, _⟩ := h; rfl)
    | (obtain ⟨_, _, _, _, _, _, _, _, _, rfl, _⟩ := h; rfl)
    | (obtain ⟨_, _, _, _, _, _, _, _, _, _, rfl, _⟩ := h; rfl)
    | (obtain ⟨_, _, _, _, _, _, _, _, _, _, _, rfl, _⟩ := h; rfl)
    | (obtain ⟨_, _, _, _, _, _, _, _, _, _, _, _, rfl, _⟩ := h; rfl)
    | (obtain ⟨_, _, _, _, _, _, _, _, _, _, _, _, _, rfl, _⟩ := h; rfl)
    | (obtain ⟨_, _, _, _, _, _, _, _, _, _, _, _, _, _, rfl, _⟩ := h; rfl)
    | (obtain ⟨_, _, _, _, _, _, _, _, _, _, _, _, _, _, _, rfl, _⟩ := h; rfl)
theorem len_law_squares : ∀ q ∈ E_law_squares.L, ∀ us S Q X, q.2 us S Q X → us.length = p_law_squares.length := by
  intro q hq us S Q X h
  obtain rfl := List.mem_singleton.1 hq
  first
    | (obtain ⟨rfl, _⟩ := h; rfl)
    | (obtain ⟨_, rfl, _⟩ := h; rfl)
    | (obtain ⟨_, _, rfl, _⟩ := h; rfl)
    | (obtain ⟨_, _, _, rfl, _⟩ := h; rfl)
    | (obtain ⟨_, _, _, _, rfl, _⟩ := h; rfl)
    | (obtain ⟨_, _, _, _, _, rfl, _⟩ := h; rfl)
    | (obtain ⟨_, _, _, _, _, _, rfl, _⟩ := h; rfl)
    | (obtain ⟨_, _, _, _, _, _, _, rfl, _⟩ := h; rfl)
    | (obtain ⟨_, _, _, _, _, _, _, _, rfl, _⟩ := h; rfl)
    | (obtain ⟨_, _, _, _, _, _, _, _, _, rfl, _⟩ := h; rfl)
    | (obtain ⟨_, _, _, _, _, _, _, _, _, _, rfl, _⟩ := h; rfl)
    | (obtain ⟨_, _, _, _, _, _, _, _, _, _, _, rfl, _⟩ := h; rfl)
    | (obtain ⟨_, _, _, _, _, _, _, _, _, _, _, _, rfl, _⟩ := h; rfl)
    | (obtain ⟨_, _, _, _, _, _, _, _, _, _, _, _, _, rfl, _⟩ := h; rfl)
    | (obtain ⟨_, _, _, _, _, _, _, _, _, _, _, _, _, _, rfl, _⟩ := h; rfl)
    | (obtain ⟨_, _, _, _, _, _, _, _, _, _, _, _, _, _, _, rfl, _⟩ := h; rfl)
theorem len_law_atmost : ∀ q ∈ E_law_atmost.L, ∀ us S Q X, q.2 us S Q X → us.length = p_law_atmost.length := by
  intro q hq us S Q X h
  obtain rfl := List.mem_singleton.1 hq
  first
    | (obtain ⟨rfl, _⟩ := h; rfl)
    | (obtain ⟨_, rfl, _⟩ := h; rfl)
    | (obtain ⟨_, _, rfl, _⟩ := h; rfl)
    | (obtain ⟨_, _, _, rfl, _⟩ := h; rfl)
    | (obtain ⟨_, _, _, _, rfl, _⟩ := h; rfl)
    | (obtain ⟨_, _, _, _, _, rfl, _⟩ := h; rfl)
    | (obtain ⟨_, _, _, _, _, _, rfl, _⟩ := h; rfl)
    | (obtain ⟨_, _, _, _, _, _, _, rfl, _⟩ := h; rfl)
    | (obtain ⟨_, _, _, _, _, _, _, _, rfl, _⟩ := h; rfl)
    | (obtain ⟨_, _, _, _, _, _, _, _, _, rfl, _⟩ := h; rfl)
    | (obtain ⟨_, _, _, _, _, _, _, _, _, _, rfl, _⟩ := h; rfl)
    | (obtain ⟨_, _, _, _, _, _, _, _, _, _, _, rfl, _⟩ := h; rfl)
    | (obtain ⟨_, _, _, _, _, _, _, _, _, _, _, _, rfl, _⟩ := h; rfl)
    | (obtain ⟨_, _, _, _, _, _, _, _, _, _, _, _, _, rfl, _⟩ := h; rfl)
    | (obtain ⟨_, _, _, _, _, _, _, _, _, _, _, _, _, _, rfl, _⟩ := h; rfl)
    | (obtain ⟨_, _, _, _, _, _, _, _, _, _, _, _, _, _, _, rfl, _⟩ := h; rfl)
theorem len_law_is_reduced : ∀ q ∈ E_law_is_reduced.L, ∀ us S Q X, q.2 us S Q X → us.length = p_law_is_reduced.length := by
  intro q hq us S Q X h
  obtain rfl := List.mem_singleton.1 hq
  first
    | (obtain ⟨rfl, _⟩ := h; rfl)
    | (obtain ⟨_, rfl, _⟩ := h; rfl)
    | (obtain ⟨_, _, rfl, _⟩ := h; rfl)
    | (obtain ⟨_, _, _, rfl, _⟩ := h; rfl)
    | (obtain ⟨_, _, _, _, rfl, _⟩ := h; rfl)
    | (obtain ⟨_, _, _, _, _, rfl, _⟩ := h; rfl)
    | (obtain ⟨_, _, _, _, _, _, rfl, _⟩ := h; rfl)
    | (obtain ⟨_, _, _, _, _, _, _, rfl, _⟩ := h; rfl)
    | (obtain ⟨_, _, _, _, _, _, _, _, rfl, _⟩ := h; rfl)
    | (obtain ⟨_, _, _, _, _, _, _, _, _, rfl, _⟩ := h; rfl)
    | (obtain ⟨_, _, _, _, _, _, _, _, _, _, rfl, _⟩ := h; rfl)
    | (obtain ⟨_, _, _, _, _, _, _, _, _, _, _, rfl, _⟩ := h; rfl)
    | (obtain ⟨_, _, _, _, _, _, _, _, _, _, _, _, rfl, _⟩ := h; rfl)
    | (obtain ⟨_, _, _, _, _, _, _, _, _, _, _, _, _, rfl, _⟩ := h; rfl)
    | (obtain ⟨_, _, _, _, _, _, _, _, _, _, _, _, _, _, rfl, _⟩ := h; rfl)
    | (obtain ⟨_, _, _, _, _, _, _, _, _, _, _, _, _, _, _, rfl, _⟩ := h; rfl)
theorem len_law_is_basis : ∀ q ∈ E_law_is_basis.L, ∀ us S Q X, q.2 us S Q X → us.length = p_law_is_basis.length := by
  intro q hq us S Q X h
  obtain rfl := List.mem_singleton.1 hq
  first
    | (obtain ⟨rfl, _⟩ := h; rfl)
    | (obtain ⟨_, rfl, _⟩ := h; rfl)
    | (obtain ⟨_, _, rfl, _⟩ := h; rfl)
    | (obtain ⟨_, _, _, rfl, _⟩ := h; rfl)
    | (obtain ⟨_, _, _, _, rfl, _⟩ := h; rfl)
    | (obtain ⟨_, _, _, _, _, rfl, _⟩ := h; rfl)
    | (obtain ⟨_, _, _, _, _, _, rfl, _⟩ := h; rfl)
    | (obtain ⟨_, _, _, _, _, _, _, rfl, _⟩ := h; rfl)
    | (obtain ⟨_, _, _, _, _, _, _, _, rfl, _⟩ := h; rfl)
    | (obtain ⟨_, _, _, _, _, _, _, _, _, rfl, _⟩ := h; rfl)
    | (obtain ⟨_, _, _, _, _, _, _, _, _, _, rfl, _⟩ := h; rfl)
    | (obtain ⟨_, _, _, _, _, _, _, _, _, _, _, rfl, _⟩ := h; rfl)
    | (obtain ⟨_, _, _, _, _, _, _, _, _, _, _, _, rfl, _⟩ := h; rfl)
    | (obtain ⟨_, _, _, _, _, _, _, _, _, _, _, _, _, rfl, _⟩ := h; rfl)
    | (obtain ⟨_, _, _, _, _, _, _, _, _, _, _, _, _, _, rfl, _⟩ := h; rfl)
    | (obtain ⟨_, _, _, _, _, _, _, _, _, _, _, _, _, _, _, rfl, _⟩ := h; rfl)
theorem len_law_told : ∀ q ∈ E_law_told.L, ∀ us S Q X, q.2 us S Q X → us.length = p_law_told.length := by
  intro q hq us S Q X h
  obtain rfl := List.mem_singleton.1 hq
  first
    | (obtain ⟨rfl, _⟩ := h; rfl)
    | (obtain ⟨_, rfl, _⟩ := h; rfl)
    | (obtain ⟨_, _, rfl, _⟩ := h; rfl)
    | (obtain ⟨_, _, _, rfl, _⟩ := h; rfl)
    | (obtain ⟨_, _, _, _, rfl, _⟩ := h; rfl)
    | (obtain ⟨_, _, _, _, _, rfl, _⟩ := h; rfl)
    | (obtain ⟨_, _, _, _, _, _, rfl, _⟩ := h; rfl)
    | (obtain ⟨_, _, _, _, _, _, _, rfl, _⟩ := h; rfl)
    | (obtain ⟨_, _, _, _, _, _, _, _, rfl, _⟩ := h; rfl)
    | (obtain ⟨_, _, _, _, _, _, _, _, _, rfl, _⟩ := h; rfl)
    | (obtain ⟨_, _, _, _, _, _, _, _, _, _, rfl, _⟩ := h; rfl)
    | (obtain ⟨_, _, _, _, _, _, _, _, _, _, _, rfl, _⟩ := h; rfl)
    | (obtain ⟨_, _, _, _, _, _, _, _, _, _, _, _, rfl, _⟩ := h; rfl)
    | (obtain ⟨_, _, _, _, _, _, _, _, _, _, _, _, _, rfl, _⟩ := h; rfl)
    | (obtain ⟨_, _, _, _, _, _, _, _, _, _, _, _, _, _, rfl, _⟩ := h; rfl)
    | (obtain ⟨_, _, _, _, _, _, _, _, _, _, _, _, _, _, _, rfl, _⟩ := h; rfl)
theorem len_law_refused : ∀ q ∈ E_law_refused.L, ∀ us S Q X, q.2 us S Q X → us.length = p_law_refused.length := by
  intro q hq us S Q X h
  obtain rfl := List.mem_singleton.1 hq
  first
    | (obtain ⟨rfl, _⟩ := h; rfl)
    | (obtain ⟨_, rfl, _⟩ := h; rfl)
    | (obtain ⟨_, _, rfl, _⟩ := h; rfl)
    | (obtain ⟨_, _, _, rfl, _⟩ := h; rfl)
    | (obtain ⟨_, _, _, _, rfl, _⟩ := h; rfl)
    | (obtain ⟨_, _, _, _, _, rfl, _⟩ := h; rfl)
    | (obtain ⟨_, _, _, _, _, _, rfl, _⟩ := h; rfl)
    | (obtain ⟨_, _, _, _, _, _, _, rfl, _⟩ := h; rfl)
    | (obtain ⟨_, _, _, _, _, _, _, _, rfl, _⟩ := h; rfl)
    | (obtain ⟨_, _, _, _, _, _, _, _, _, rfl, _⟩ := h; rfl)
    | (obtain ⟨_, _, _, _, _, _, _, _, _, _, rfl, _⟩ := h; rfl)
    | (obtain ⟨_, _, _, _, _, _, _, _, _, _, _, rfl, _⟩ := h; rfl)
    | (obtain ⟨_, _, _, _, _, _, _, _, _, _, _, _, rfl, _⟩ := h; rfl)
    | (obtain ⟨_, _, _, _, _, _, _, _, _, _, _, _, _, rfl, _⟩ := h; rfl)
    | (obtain ⟨_, _, _, _, _, _, _, _, _, _, _, _, _, _, rfl, _⟩ := h; rfl)
    | (obtain ⟨_, _, _, _, _, _, _, _, _, _, _, _, _, _, _, rfl, _⟩ := h; rfl)
theorem len_law_whole : ∀ q ∈ E_law_whole.L, ∀ us S Q X, q.2 us S Q X → us.length = p_law_whole.length := by
  intro q hq us S Q X h
  obtain rfl := List.mem_singleton.1 hq
  first
    | (obtain ⟨rfl, _⟩ := h; rfl)
    | (obtain ⟨_, rfl, _⟩ := h; rfl)
    | (obtain ⟨_, _, rfl, _⟩ := h; rfl)
    | (obtain ⟨_, _, _, rfl, _⟩ := h; rfl)
    | (obtain ⟨_, _, _, _, rfl, _⟩ := h; rfl)
    | (obtain ⟨_, _, _, _, _, rfl, _⟩ := h; rfl)
    | (obtain ⟨_, _, _, _, _, _, rfl, _⟩ := h; rfl)
    | (obtain ⟨_, _, _, _, _, _, _, rfl, _⟩ := h; rfl)
    | (obtain ⟨_, _, _, _, _, _, _, _, rfl, _⟩ := h; rfl)
    | (obtain ⟨_, _, _, _, _, _, _, _, _, rfl, _⟩ := h; rfl)
    | (obtain ⟨_, _, _, _, _, _, _, _, _, _, rfl, _⟩ := h; rfl)
    | (obtain ⟨_, _, _, _, _, _, _, _, _, _, _, rfl, _⟩ := h; rfl)
    | (obtain ⟨_, _, _, _, _, _, _, _, _, _, _, _, rfl, _⟩ := h; rfl)
    | (obtain ⟨_, _, _, _, _, _, _, _, _, _, _, _, _, rfl, _⟩ := h; rfl)
    | (obtain ⟨_, _, _, _, _, _, _, _, _, _, _, _, _, _, rfl, _⟩ := h; rfl)
    | (obtain ⟨_, _, _, _, _, _, _, _, _, _, _, _, _, _, _, rfl, _⟩ := h; rfl)
theorem len_law_exact : ∀ q ∈ E_law_exact.L, ∀ us S Q X, q.2 us S Q X → us.length = p_law_exact.length := by
  intro q hq us S Q X h
  simp only [E_law_exact, List.mem_cons, List.not_mem_nil, or_false] at hq
  rcases hq with rfl | rfl | rfl | rfl | rfl | rfl
  · first
      | (obtain ⟨rfl, _⟩ := h; rfl)
      | (obtain ⟨_, rfl, _⟩ := h; rfl)
      | (obtain ⟨_, _, rfl, _⟩ := h; rfl)
      | (obtain ⟨_, _, _, rfl, _⟩ := h; rfl)
      | (obtain ⟨_, _, _, _, rfl, _⟩ := h; rfl)
      | (obtain ⟨_, _, _, _, _, rfl, _⟩ := h; rfl)
      | (obtain ⟨_, _, _, _, _, _, rfl, _⟩ := h; rfl)
      | (obtain ⟨_, _, _, _, _, _, _, rfl, _⟩ := h; rfl)
      | (obtain ⟨_, _, _, _, _, _, _, _, rfl, _⟩ := h; rfl)
      | (obtain ⟨_, _, _, _, _, _, _, _, _, rfl, _⟩ := h; rfl)
      | (obtain ⟨_, _, _, _, _, _, _, _, _, _, rfl, _⟩ := h; rfl)
      | (obtain ⟨_, _, _, _, _, _, _, _, _, _, _, rfl, _⟩ := h; rfl)
      | (obtain ⟨_, _, _, _, _, _, _, _, _, _, _, _, rfl, _⟩ := h; rfl)
      | (obtain ⟨_, _, _, _, _, _, _, _, _, _, _, _, _, rfl, _⟩ := h; rfl)
      | (obtain ⟨_, _, _, _, _, _, _, _, _, _, _, _, _, _, rfl, _⟩ := h; rfl)
      | (obtain ⟨_, _, _, _, _, _, _, _, _, _, _, _, _, _, _, rfl, _⟩ := h; rfl)
  · first
      | (obtain ⟨rfl, _⟩ := h; rfl)
      | (obtain ⟨_, rfl, _⟩ := h; rfl)
      | (obtain ⟨_, _, rfl, _⟩ := h; rfl)
      | (obtain ⟨_, _, _, rfl, _⟩ := h; rfl)
      | (obtain ⟨_, _, _, _, rfl, _⟩ := h; rfl)
      | (obtain ⟨_, _, _, _, _, rfl, _⟩ := h; rfl)
      | (obtain ⟨_, _, _, _, _, _, rfl, _⟩ := h; rfl)
      | (obtain ⟨_, _, _, _, _, _, _, rfl, _⟩ := h; rfl)
      | (obtain ⟨_, _, _, _, _, _, _, _, rfl, _⟩ := h; rfl)
      | (obtain ⟨_, _, _, _, _, _, _, _, _, rfl, _⟩ := h; rfl)
      | (obtain ⟨_, _, _, _, _, _, _, _, _, _, rfl, _⟩ := h; rfl)
      | (obtain ⟨_, _, _, _, _, _, _, _, _, _, _, rfl, _⟩ := h; rfl)
      | (obtain ⟨_, _, _, _, _, _, _, _, _, _, _, _, rfl, _⟩ := h; rfl)
      | (obtain ⟨_, _, _, _, _, _, _, _, _, _, _, _, _, rfl, _⟩ := h; rfl)
      | (obtain ⟨_, _, _, _, _, _, _, _, _, _, _, _, _, _, rfl, _⟩ := h; rfl)
      | (obtain ⟨_, _, _, _, _, _, _, _, _, _, _, _, _, _, _, rfl, _⟩ := h; rfl)
  · first
      | (obtain ⟨rfl, _⟩ := h; rfl)
      | (obtain ⟨_, rfl, _⟩ := h; rfl)
      | (obtain ⟨_, _, rfl, _⟩ := h; rfl)
      | (obtain ⟨_, _, _, rfl, _⟩ := h; rfl)
      | (obtain ⟨_, _, _, _, rfl, _⟩ := h; rfl)
      | (obtain ⟨_, _, _, _, _, rfl, _⟩ := h; rfl)
      | (obtain ⟨_, _, _, _, _, _, rfl, _⟩ := h; rfl)
      | (obtain ⟨_, _, _, _, _, _, _, rfl, _⟩ := h; rfl)
      | (obtain ⟨_, _, _, _, _, _, _, _, rfl, _⟩ := h; rfl)
      | (obtain ⟨_, _, _, _, _, _, _, _, _, rfl, _⟩ := h; rfl)
      | (obtain ⟨_, _, _, _, _, _, _, _, _, _, rfl, _⟩ := h; rfl)
      | (obtain ⟨_, _, _, _, _, _, _, _, _, _, _, rfl, _⟩ := h; rfl)
      | (obtain ⟨_, _, _, _, _, _, _, _, _, _, _, _, rfl, _⟩ := h; rfl)
      | (obtain ⟨_, _, _, _, _, _, _, _, _, _, _, _, _, rfl, _⟩ := h; rfl)
      | (obtain ⟨_, _, _, _, _, _, _, _, _, _, _, _, _, _, rfl, _⟩ := h; rfl)
      | (obtain ⟨_, _, _, _, _, _, _, _, _, _, _, _, _, _, _, rfl, _⟩ := h; rfl)
  · first
      | (obtain ⟨rfl, _⟩ := h; rfl)
      | (obtain ⟨_, rfl, _⟩ := h; rfl)
      | (obtain ⟨_, _, rfl, _⟩ := h; rfl)
      | (obtain ⟨_, _, _, rfl, _⟩ := h; rfl)
      | (obtain ⟨_, _, _, _, rfl, _⟩ := h; rfl)
      | (obtain ⟨_, _, _, _, _, rfl, _⟩ := h; rfl)
      | (obtain ⟨_, _, _, _, _, _, rfl, _⟩ := h; rfl)
      | (obtain ⟨_, _, _, _, _, _, _, rfl, _⟩ := h; rfl)
      | (obtain ⟨_, _, _, _, _, _, _, _, rfl, _⟩ := h; rfl)
      | (obtain ⟨_, _, _, _, _, _, _, _, _, rfl, _⟩ := h; rfl)
      | (obtain ⟨_, _, _, _, _, _, _, _, _, _, rfl, _⟩ := h; rfl)
      | (obtain ⟨_, _, _, _, _, _, _, _, _, _, _, rfl, _⟩ := h; rfl)
      | (obtain ⟨_, _, _, _, _, _, _, _, _, _, _, _, rfl, _⟩ := h; rfl)
      | (obtain ⟨_, _, _, _, _, _, _, _, _, _, _, _, _, rfl, _⟩ := h; rfl)
      | (obtain ⟨_, _, _, _, _, _, _, _, _, _, _, _, _, _, rfl, _⟩ := h; rfl)
      | (obtain ⟨_, _, _, _, _, _, _, _, _, _, _, _, _, _, _, rfl, _⟩ := h; rfl)
  · first
      | (obtain ⟨rfl, _⟩ := h; rfl)
      | (obtain ⟨_, rfl, _⟩ := h; rfl)
      | (obtain ⟨_, _, rfl, _⟩ := h; rfl)
      | (obtain ⟨_, _, _, rfl, _⟩ := h; rfl)
      | (obtain ⟨_, _, _, _, rfl, _⟩ := h; rfl)
      | (obtain ⟨_, _, _, _, _, rfl, _⟩ := h; rfl)
      | (obtain ⟨_, _, _, _, _, _, rfl, _⟩ := h; rfl)
      | (obtain ⟨_, _, _, _, _, _, _, rfl, _⟩ := h; rfl)
      | (obtain ⟨_, _, _, _, _, _, _, _, rfl, _⟩ := h; rfl)
      | (obtain ⟨_, _, _, _, _, _, _, _, _, rfl, _⟩ := h; rfl)
      | (obtain ⟨_, _, _, _, _, _, _, _, _, _, rfl, _⟩ := h; rfl)
      | (obtain ⟨_, _, _, _, _, _, _, _, _, _, _, rfl, _⟩ := h; rfl)
      | (obtain ⟨_, _, _, _, _, _, _, _, _, _, _, _, rfl, _⟩ := h; rfl)
      | (obtain ⟨_, _, _, _, _, _, _, _, _, _, _, _, _, rfl, _⟩ := h; rfl)
      | (obtain ⟨_, _, _, _, _, _, _, _, _, _, _, _, _, _, rfl, _⟩ := h; rfl)
      | (obtain ⟨_, _, _, _, _, _, _, _, _, _, _, _, _, _, _, rfl, _⟩ := h; rfl)
  · first
      | (obtain ⟨rfl, _⟩ := h; rfl)
      | (obtain ⟨_, rfl, _⟩ := h; rfl)
      | (obtain ⟨_, _, rfl, _⟩ := h; rfl)
      | (obtain ⟨_, _, _, rfl, _⟩ := h; rfl)
      | (obtain ⟨_, _, _, _, rfl, _⟩ := h; rfl)
      | (obtain ⟨_, _, _, _, _, rfl, _⟩ := h; rfl)
      | (obtain ⟨_, _, _, _, _, _, rfl, _⟩ := h; rfl)
      | (obtain ⟨_, _, _, _, _, _, _, rfl, _⟩ := h; rfl)
      | (obtain ⟨_, _, _, _, _, _, _, _, rfl, _⟩ := h; rfl)
      | (obtain ⟨_, _, _, _, _, _, _, _, _, rfl, _⟩ := h; rfl)
      | (obtain ⟨_, _, _, _, _, _, _, _, _, _, rfl, _⟩ := h; rfl)
      | (obtain ⟨_, _, _, _, _, _, _, _, _, _, _, rfl, _⟩ := h; rfl)
      | (obtain ⟨_, _, _, _, _, _, _, _, _, _, _, _, rfl, _⟩ := h; rfl)
      | (obtain ⟨_, _, _, _, _, _, _, _, _, _, _, _, _, rfl, _⟩ := h; rfl)
      | (obtain ⟨_, _, _, _, _, _, _, _, _, _, _, _, _, _, rfl, _⟩ := h; rfl)
      | (obtain ⟨_, _, _, _, _, _, _, _, _, _, _, _, _, _, _, rfl, _⟩ := h; rfl)
theorem len_law_sparse : ∀ q ∈ E_law_sparse.L, ∀ us S Q X, q.2 us S Q X → us.length = p_law_sparse.length := by
  intro q hq us S Q X h
  obtain rfl := List.mem_singleton.1 hq
  first
    | (obtain ⟨rfl, _⟩ := h; rfl)
    | (obtain ⟨_, rfl, _⟩ := h; rfl)
    | (obtain ⟨_, _, rfl, _⟩ := h; rfl)
    | (obtain ⟨_, _, _, rfl, _⟩ := h; rfl)
    | (obtain ⟨_, _, _, _, rfl, _⟩ := h; rfl)
    | (obtain ⟨_, _, _, _, _, rfl, _⟩ := h; rfl)
    | (obtain ⟨_, _, _, _, _, _, rfl, _⟩ := h; rfl)
    | (obtain ⟨_, _, _, _, _, _, _, rfl, _⟩ := h; rfl)
    | (obtain ⟨_, _, _, _, _, _, _, _, rfl, _⟩ := h; rfl)
    | (obtain ⟨_, _, _, _, _, _, _, _, _, rfl, _⟩ := h; rfl)
    | (obtain ⟨_, _, _, _, _, _, _, _, _, _, rfl, _⟩ := h; rfl)
    | (obtain ⟨_, _, _, _, _, _, _, _, _, _, _, rfl, _⟩ := h; rfl)
    | (obtain ⟨_, _, _, _, _, _, _, _, _, _, _, _, rfl, _⟩ := h; rfl)
    | (obtain ⟨_, _, _, _, _, _, _, _, _, _, _, _, _, rfl, _⟩ := h; rfl)
    | (obtain ⟨_, _, _, _, _, _, _, _, _, _, _, _, _, _, rfl, _⟩ := h; rfl)
    | (obtain ⟨_, _, _, _, _, _, _, _, _, _, _, _, _, _, _, rfl, _⟩ := h; rfl)
theorem len_law : ∀ q ∈ E_law.L, ∀ us S Q X, q.2 us S Q X → us.length = p_law.length := by
  intro q hq us S Q X h
  obtain rfl := List.mem_singleton.1 hq
  first
    | (obtain ⟨rfl, _⟩ := h; rfl)
    | (obtain ⟨_, rfl, _⟩ := h; rfl)
    | (obtain ⟨_, _, rfl, _⟩ := h; rfl)
    | (obtain ⟨_, _, _, rfl, _⟩ := h; rfl)
    | (obtain ⟨_, _, _, _, rfl, _⟩ := h; rfl)
    | (obtain ⟨_, _, _, _, _, rfl, _⟩ := h; rfl)
    | (obtain ⟨_, _, _, _, _, _, rfl, _⟩ := h; rfl)
    | (obtain ⟨_, _, _, _, _, _, _, rfl, _⟩ := h; rfl)
    | (obtain ⟨_, _, _, _, _, _, _, _, rfl, _⟩ := h; rfl)
    | (obtain ⟨_, _, _, _, _, _, _, _, _, rfl, _⟩ := h; rfl)
    | (obtain ⟨_, _, _, _, _, _, _, _, _, _, rfl, _⟩ := h; rfl)
    | (obtain ⟨_, _, _, _, _, _, _, _, _, _, _, rfl, _⟩ := h; rfl)
    | (obtain ⟨_, _, _, _, _, _, _, _, _, _, _, _, rfl, _⟩ := h; rfl)
    | (obtain ⟨_, _, _, _, _, _, _, _, _, _, _, _, _, rfl, _⟩ := h; rfl)
    | (obtain ⟨_, _, _, _, _, _, _, _, _, _, _, _, _, _, rfl, _⟩ := h; rfl)
    | (obtain ⟨_, _, _, _, _, _, _, _, _, _, _, _, _, _, _, rfl, _⟩ := h; rfl)
/-! ### each def keeps its promises, level by level -/
section
variable {P : Program} {w : World} {M : Md} {base : Heap} {k : Nat} {f : Addr} {fd : FuncData}
theorem fn_no {ps : List Str} {sp : Sp} (h : ∀ vs H Q E, ¬ sp vs H Q E) {CX : CXT} : FnOk P w M.K M.mg base CX k f fd ps sp := ⟨fun vs H Q E z => absurd z (h vs H Q E), fun A outer s H args us vs Q E _ _ _ _ z => absurd z (h vs H Q E)⟩
abbrev FD (M : Md) (x : Str) (i : Nat) (f : Addr) (fd : FuncData) : Prop := FunD M.K x x (defArgs (top i)) (defBody (top i)) (defScope (top i)) [] [] f fd
abbrev Ok (P : Program) (w : World) (M : Md) (base : Heap) (e : Ent_) (k : Nat) (f : Addr) (fd : FuncData) : Prop := FnOk P w M.K M.mg base (L2.CX P w) k f fd e.ps (spU M (spK e.L k))
theorem st_divisor (F : FD M "divisor" 6 f fd) (E : Env1 P w M base (GK k) k bl xc) : Ok P w M base E_divisor (k + 1) f fd := def_ok F sc_divisor E ck_divisor (len_K len_divisor) (pf_spK (pf_divisor k))
theorem st_fraction (F : FD M "fraction" 8 f fd) (E : Env1 P w M base (GK k) k bl xc) : Ok P w M base E_fraction (k + 1) f fd := def_ok F sc_fraction E ck_fraction (len_K len_fraction) (pf_spK (pf_fraction k))
theorem st_is_domain (F : FD M "is_domain" 12 f fd) (E : Env1 P w M base (GK k) k bl xc) : Ok P w M base E_is_domain (k + 1) f fd := def_ok F sc_is_domain E ck_is_domain (len_K len_is_domain) (pf_spK (pf_is_domain k))
theorem st_is_field (F : FD M "is_field" 13 f fd) (E : Env1 P w M base (GK k) k bl xc) : Ok P w M base E_is_field (k + 1) f fd := def_ok F sc_is_field E ck_is_field (len_K len_is_field) (pf_spK (pf_is_field k))
theorem st_need_field (F : FD M "need_field" 14 f fd) (E : Env1 P w M base (GK k) k bl xc) : Ok P w M base E_need_field (k + 1) f fd := def_ok F sc_need_field E ck_need_field (len_K len_need_field) (pf_spK (pf_need_field k))
theorem st_zero (F : FD M "zero" 15 f fd) (E : Env1 P w M base (GK k) k bl xc) : Ok P w M base E_zero (k + 1) f fd := def_ok F sc_zero E ck_zero (len_K len_zero) (pf_spK (pf_zero k))
theorem st_from_integer (F : FD M "from_integer" 16 f fd) (E : Env1 P w M base (GK k) k bl xc) : Ok P w M base E_from_integer (k + 1) f fd := def_ok F sc_from_integer E ck_from_integer (len_K len_from_integer) (pf_spK (pf_from_integer k))
theorem st_add (F : FD M "add" 18 f fd) (E : Env1 P w M base (GK k) k bl xc) : Ok P w M base E_add (k + 1) f fd := def_ok F sc_add E ck_add (len_K len_add) (pf_spK (pf_add k))
theorem st_negate (F : FD M "negate" 19 f fd) (E : Env1 P w M base (GK k) k bl xc) : Ok P w M base E_negate (k + 1) f fd := def_ok F sc_negate E ck_negate (len_K len_negate) (pf_spK (pf_negate k))
theorem st_subtract (F : FD M "subtract" 20 f fd) (E : Env1 P w M base (GK k) k bl xc) : Ok P w M base E_subtract (k + 1) f fd := def_ok F sc_subtract E ck_subtract (len_K len_subtract) (pf_spK (pf_subtract k))
theorem st_multiply (F : FD M "multiply" 21 f fd) (E : Env1 P w M base (GK k) k bl xc) : Ok P w M base E_multiply (k + 1) f fd := def_ok F sc_multiply E ck_multiply (len_K len_multiply) (pf_spK (pf_multiply k))
theorem st_inverse (F : FD M "inverse" 22 f fd) (E : Env1 P w M base (GK k) k bl xc) : Ok P w M base E_inverse (k + 1) f fd := def_ok F sc_inverse E ck_inverse (len_K len_inverse) (pf_spK (pf_inverse k))
theorem st_quotient (F : FD M "quotient" 23 f fd) (E : Env1 P w M base (GK k) k bl xc) : Ok P w M base E_quotient (k + 1) f fd := def_ok F sc_quotient E ck_quotient (len_K len_quotient) (pf_spK (pf_quotient k))
theorem st_dot (F : FD M "dot" 25 f fd) (E : Env1 P w M base (GK k) k bl xc) : Ok P w M base E_dot (k + 1) f fd := def_ok F sc_dot E ck_dot (len_K len_dot) (pf_spK (pf_dot k))
theorem st_may_change (F : FD M "may_change" 26 f fd) (E : Env1 P w M base (GK k) k bl xc) : Ok P w M base E_may_change (k + 1) f fd := def_ok F sc_may_change E ck_may_change (len_K len_may_change) (pf_spK (pf_may_change k))
theorem st_changed (F : FD M "changed" 27 f fd) (E : Env1 P w M base (GK k) k bl xc) : Ok P w M base E_changed (k + 1) f fd := def_ok F sc_changed E ck_changed (len_K len_changed) (pf_spK (pf_changed k))
theorem st_change (F : FD M "change" 28 f fd) (E : Env1 P w M base (GK k) k bl xc) : Ok P w M base E_change (k + 1) f fd := def_ok F sc_change E ck_change (len_K len_change) (pf_spK (pf_change k))
theorem st_add_row (F : FD M "add_row" 30 f fd) (E : Env1 P w M base (GK k) k bl xc) : Ok P w M base E_add_row (k + 1) f fd := def_ok F sc_add_row E ck_add_row (len_K len_add_row) (pf_spK (pf_add_row k))
theorem st_eliminate (F : FD M "eliminate" 31 f fd) (E : Env1 P w M base (GK k) k bl xc) : Ok P w M base E_eliminate (k + 1) f fd := def_ok F sc_eliminate E ck_eliminate (len_K len_eliminate) (pf_spK (pf_eliminate k))
theorem st_pivots_of (F : FD M "pivots_of" 32 f fd) (E : Env1 P w M base (GK k) k bl xc) : Ok P w M base E_pivots_of (k + 1) f fd := def_ok F sc_pivots_of E ck_pivots_of (len_K len_pivots_of) (pf_spK (pf_pivots_of k))
theorem st_rank (F : FD M "rank" 33 f fd) (E : Env1 P w M base (GK k) k bl xc) : Ok P w M base E_rank (k + 1) f fd := def_ok F sc_rank E ck_rank (len_K len_rank) (pf_spK (pf_rank k))
theorem st_fractions (F : FD M "fractions" 37 f fd) (E : Env1 P w M base (GK k) k bl xc) : Ok P w M base E_fractions (k + 1) f fd := def_ok F sc_fractions E ck_fractions (len_K len_fractions) (pf_spK (pf_fractions k))
theorem st_need_basis (F : FD M "need_basis" 38 f fd) (E : Env1 P w M base (GK k) k bl xc) : Ok P w M base E_need_basis (k + 1) f fd := def_ok F sc_need_basis E ck_need_basis (len_K len_need_basis) (pf_spK (pf_need_basis k))
theorem st_orthogonal (F : FD M "orthogonal" 39 f fd) (E : Env1 P w M base (GK k) k bl xc) : Ok P w M base E_orthogonal (k + 1) f fd := def_ok F sc_orthogonal E ck_orthogonal (len_K len_orthogonal) (pf_spK (pf_orthogonal k))
theorem st_is_reduced (F : FD M "is_reduced" 40 f fd) (E : Env1 P w M base (GK k) k bl xc) : Ok P w M base E_is_reduced (k + 1) f fd := def_ok F sc_is_reduced E ck_is_reduced (len_K len_is_reduced) (pf_spK (pf_is_reduced k))
theorem st_law_start (F : FD M "_law_start" 42 f fd) (E : Env1 P w M base (GK k) k bl xc) : Ok P w M base E_law_start (k + 1) f fd := def_ok F sc_law_start E ck_law_start (len_K len_law_start) (pf_spK (pf_law_start k))
theorem st_law_fill (F : FD M "_law_fill" 43 f fd) (E : Env1 P w M base (GK k) k bl xc) : Ok P w M base E_law_fill (k + 1) f fd := def_ok F sc_law_fill E ck_law_fill (len_K len_law_fill) (pf_spK (pf_law_fill k))
theorem st_law_take (F : FD M "_law_take" 44 f fd) (E : Env1 P w M base (GK k) k bl xc) : Ok P w M base E_law_take (k + 1) f fd := def_ok F sc_law_take E ck_law_take (len_K len_law_take) (pf_spK (pf_law_take k))
theorem st_law_common (F : FD M "_law_common" 46 f fd) (E : Env1 P w M base (GK k) k bl xc) : Ok P w M base E_law_common (k + 1) f fd := def_ok F sc_law_common E ck_law_common (len_K len_law_common) (pf_spK (pf_law_common k))
theorem st_law_fraction (F : FD M "_law_fraction" 47 f fd) (E : Env1 P w M base (GK k) k bl xc) : Ok P w M base E_law_fraction (k + 1) f fd := def_ok F sc_law_fraction E ck_law_fraction (len_K len_law_fraction) (pf_spK (pf_law_fraction k))
theorem st_law_zero (F : FD M "_law_zero" 48 f fd) (E : Env1 P w M base (GK k) k bl xc) : Ok P w M base E_law_zero (k + 1) f fd := def_ok F sc_law_zero E ck_law_zero (len_K len_law_zero) (pf_spK (pf_law_zero k))
theorem st_law_number (F : FD M "_law_number" 50 f fd) (E : Env1 P w M base (GK k) k bl xc) : Ok P w M base E_law_number (k + 1) f fd := def_ok F sc_law_number E ck_law_number (len_K len_law_number) (pf_spK (pf_law_number k))
theorem st_law_add (F : FD M "_law_add" 52 f fd) (E : Env1 P w M base (GK k) k bl xc) : Ok P w M base E_law_add (k + 1) f fd := def_ok F sc_law_add E ck_law_add (len_K len_law_add) (pf_spK (pf_law_add k))
theorem st_law_multiply (F : FD M "_law_multiply" 53 f fd) (E : Env1 P w M base (GK k) k bl xc) : Ok P w M base E_law_multiply (k + 1) f fd := def_ok F sc_law_multiply E ck_law_multiply (len_K len_law_multiply) (pf_spK (pf_law_multiply k))
theorem st_law_subtract (F : FD M "_law_subtract" 54 f fd) (E : Env1 P w M base (GK k) k bl xc) : Ok P w M base E_law_subtract (k + 1) f fd := def_ok F sc_law_subtract E ck_law_subtract (len_K len_law_subtract) (pf_spK (pf_law_subtract k))
theorem st_law_inverse (F : FD M "_law_inverse" 56 f fd) (E : Env1 P w M base (GK k) k bl xc) : Ok P w M base E_law_inverse (k + 1) f fd := def_ok F sc_law_inverse E ck_law_inverse (len_K len_law_inverse) (pf_spK (pf_law_inverse k))
theorem st_law_small (F : FD M "_law_small" 62 f fd) (E : Env1 P w M base (GK k) k bl xc) : Ok P w M base E_law_small (k + 1) f fd := def_ok F sc_law_small E ck_law_small (len_K len_law_small) (pf_spK (pf_law_small k))
theorem st_law_matrix (F : FD M "_law_matrix" 63 f fd) (E : Env1 P w M base (GK k) k bl xc) : Ok P w M base E_law_matrix (k + 1) f fd := def_ok F sc_law_matrix E ck_law_matrix (len_K len_law_matrix) (pf_spK (pf_law_matrix k))
theorem st_law_dot (F : FD M "_law_dot" 64 f fd) (E : Env1 P w M base (GK k) k bl xc) : Ok P w M base E_law_dot (k + 1) f fd := def_ok F sc_law_dot E ck_law_dot (len_K len_law_dot) (pf_spK (pf_law_dot k))
theorem st_law_basis (F : FD M "_law_basis" 68 f fd) (E : Env1 P w M base (GK k) k bl xc) : Ok P w M base E_law_basis (k + 1) f fd := def_ok F sc_law_basis E ck_law_basis (len_K len_law_basis) (pf_spK (pf_law_basis k))
theorem st_law_squares (F : FD M "_law_squares" 69 f fd) (E : Env1 P w M base (GK k) k bl xc) : Ok P w M base E_law_squares (k + 1) f fd := def_ok F sc_law_squares E ck_law_squares (len_K len_law_squares) (pf_spK (pf_law_squares k))
theorem st_law_atmost (F : FD M "_law_atmost" 70 f fd) (E : Env1 P w M base (GK k) k bl xc) : Ok P w M base E_law_atmost (k + 1) f fd := def_ok F sc_law_atmost E ck_law_atmost (len_K len_law_atmost) (pf_spK (pf_law_atmost k))
theorem st_law_is_reduced (F : FD M "_law_is_reduced" 71 f fd) (E : Env1 P w M base (GK k) k bl xc) : Ok P w M base E_law_is_reduced (k + 1) f fd := def_ok F sc_law_is_reduced E ck_law_is_reduced (len_K len_law_is_reduced) (pf_spK (pf_law_is_reduced k))
theorem st_law_is_basis (F : FD M "_law_is_basis" 72 f fd) (E : Env1 P w M base (GK k) k bl xc) : Ok P w M base E_law_is_basis (k + 1) f fd := def_ok F sc_law_is_basis E ck_law_is_basis (len_K len_law_is_basis) (pf_spK (pf_law_is_basis k))
theorem st_law_told (F : FD M "_law_told" 73 f fd) (E : Env1 P w M base (GK k) k bl xc) : Ok P w M base E_law_told (k + 1) f fd := def_ok F sc_law_told E ck_law_told (len_K len_law_told) (pf_spK (pf_law_told k))
theorem st_law_refused (F : FD M "_law_refused" 74 f fd) (E : Env1 P w M base (GK k) k bl xc) : Ok P w M base E_law_refused (k + 1) f fd := def_ok F sc_law_refused E ck_law_refused (len_K len_law_refused) (pf_spK (pf_law_refused k))
theorem st_law_whole (F : FD M "_law_whole" 75 f fd) (E : Env1 P w M base (GK k) k bl xc) : Ok P w M base E_law_whole (k + 1) f fd := def_ok F sc_law_whole E ck_law_whole (len_K len_law_whole) (pf_spK (pf_law_whole k))
theorem st_law_exact (F : FD M "_law_exact" 79 f fd) (E : Env1 P w M base (GK k) k bl xc) : Ok P w M base E_law_exact (k + 1) f fd := def_ok F sc_law_exact E ck_law_exact (len_K len_law_exact) (pf_spK (pf_law_exact k))
theorem st_law_sparse (F : FD M "_law_sparse" 80 f fd) (E : Env1 P w M base (GK k) k bl xc) : Ok P w M base E_law_sparse (k + 1) f fd := def_ok F sc_law_sparse E ck_law_sparse (len_K len_law_sparse) (pf_spK (pf_law_sparse k))
theorem st_law (F : FD M "law" 81 f fd) (E : Env1 P w M base (GK k) k bl xc) : Ok P w M base E_law (k + 1) f fd := def_ok F sc_law E ck_law (len_K len_law) (pf_spK (pf_law k))
theorem bd_divisor (F : FD M "divisor" 6 f fd) : Binds M.K fd E_divisor.ps [] := F.bindsN fun _ _ _ _ _ _ us hl => match us, hl with | [_, _], _ => rfl
theorem bd_fraction (F : FD M "fraction" 8 f fd) : Binds M.K fd E_fraction.ps [] := F.bindsN fun _ _ _ _ _ _ us hl => match us, hl with | [_, _], _ => rfl
theorem bd_is_domain (F : FD M "is_domain" 12 f fd) : Binds M.K fd E_is_domain.ps [] := F.bindsN fun _ _ _ _ _ _ us hl => match us, hl with | [_], _ => rfl
theorem bd_is_field (F : FD M "is_field" 13 f fd) : Binds M.K fd E_is_field.ps [] := F.bindsN fun _ _ _ _ _ _ us hl => match us, hl with | [_], _ => rfl
theorem bd_need_field (F : FD M "need_field" 14 f fd) : Binds M.K fd E_need_field.ps [] := F.bindsN fun _ _ _ _ _ _ us hl => match us, hl with | [_], _ => rfl
theorem bd_zero (F : FD M "zero" 15 f fd) : Binds M.K fd E_zero.ps [] := F.bindsN fun _ _ _ _ _ _ us hl => match us, hl with | [_], _ => rfl
theorem bd_from_integer (F : FD M "from_integer" 16 f fd) : Binds M.K fd E_from_integer.ps [] := F.bindsN fun _ _ _ _ _ _ us hl => match us, hl with | [_, _], _ => rfl
theorem bd_add (F : FD M "add" 18 f fd) : Binds M.K fd E_add.ps [] := F.bindsN fun _ _ _ _ _ _ us hl => match us, hl with | [_, _, _], _ => rfl
theorem bd_negate (F : FD M "negate" 19 f fd) : Binds M.K fd E_negate.ps [] := F.bindsN fun _ _ _ _ _ _ us hl => match us, hl with | [_, _], _ => rfl
theorem bd_subtract (F : FD M "subtract" 20 f fd) : Binds M.K fd E_subtract.ps [] := F.bindsN fun _ _ _ _ _ _ us hl => match us, hl with | [_, _, _], _ => rfl
theorem bd_multiply (F : FD M "multiply" 21 f fd) : Binds M.K fd E_multiply.ps [] := F.bindsN fun _ _ _ _ _ _ us hl => match us, hl with | [_, _, _], _ => rfl
theorem bd_inverse (F : FD M "inverse" 22 f fd) : Binds M.K fd E_inverse.ps [] := F.bindsN fun _ _ _ _ _ _ us hl => match us, hl with | [_, _], _ => rfl
theorem bd_quotient (F : FD M "quotient" 23 f fd) : Binds M.K fd E_quotient.ps [] := F.bindsN fun _ _ _ _ _ _ us hl => match us, hl with | [_, _, _], _ => rfl
theorem bd_dot (F : FD M "dot" 25 f fd) : Binds M.K fd E_dot.ps [] := F.bindsN fun _ _ _ _ _ _ us hl => match us, hl with | [_, _, _], _ => rfl
theorem bd_may_change (F : FD M "may_change" 26 f fd) : Binds M.K fd E_may_change.ps [] := F.bindsN fun _ _ _ _ _ _ us hl => match us, hl with | [_, _], _ => rfl
theorem bd_changed (F : FD M "changed" 27 f fd) : Binds M.K fd E_changed.ps [] := F.bindsN fun _ _ _ _ _ _ us hl => match us, hl with | [_, _, _], _ => rfl
theorem bd_change (F : FD M "change" 28 f fd) : Binds M.K fd E_change.ps [] := F.bindsN fun _ _ _ _ _ _ us hl => match us, hl with | [_, _, _], _ => rfl
theorem bd_add_row (F : FD M "add_row" 30 f fd) : Binds M.K fd E_add_row.ps [] := F.bindsN fun _ _ _ _ _ _ us hl => match us, hl with | [_, _, _, _, _], _ => rfl
theorem bd_eliminate (F : FD M "eliminate" 31 f fd) : Binds M.K fd E_eliminate.ps [] := F.bindsN fun _ _ _ _ _ _ us hl => match us, hl with | [_, _, _], _ => rfl
theorem bd_pivots_of (F : FD M "pivots_of" 32 f fd) : Binds M.K fd E_pivots_of.ps [] := F.bindsN fun _ _ _ _ _ _ us hl => match us, hl with | [_, _], _ => rfl
theorem bd_rank (F : FD M "rank" 33 f fd) : Binds M.K fd E_rank.ps [] := F.bindsN fun _ _ _ _ _ _ us hl => match us, hl with | [_, _], _ => rfl
theorem bd_fractions (F : FD M "fractions" 37 f fd) : Binds M.K fd E_fractions.ps [] := F.bindsN fun _ _ _ _ _ _ us hl => match us, hl with | [_], _ => rfl
theorem bd_need_basis (F : FD M "need_basis" 38 f fd) : Binds M.K fd E_need_basis.ps [] := F.bindsN fun _ _ _ _ _ _ us hl => match us, hl with | [_], _ => rfl
theorem bd_orthogonal (F : FD M "orthogonal" 39 f fd) : Binds M.K fd E_orthogonal.ps [] := F.bindsN fun _ _ _ _ _ _ us hl => match us, hl with | [_], _ => rfl
theorem bd_is_reduced (F : FD M "is_reduced" 40 f fd) : Binds M.K fd E_is_reduced.ps [] := F.bindsN fun _ _ _ _ _ _ us hl => match us, hl with | [_], _ => rfl
theorem bd_law_start (F : FD M "_law_start" 42 f fd) : Binds M.K fd E_law_start.ps [] := F.bindsN fun _ _ _ _ _ _ us hl => match us, hl with | [_], _ => rfl
theorem bd_law_fill (F : FD M "_law_fill" 43 f fd) : Binds M.K fd E_law_fill.ps [] := F.bindsN fun _ _ _ _ _ _ us hl => match us, hl with | [_], _ => rfl
theorem bd_law_take (F : FD M "_law_take" 44 f fd) : Binds M.K fd E_law_take.ps [] := F.bindsN fun _ _ _ _ _ _ us hl => match us, hl with | [_, _], _ => rfl
theorem bd_law_common (F : FD M "_law_common" 46 f fd) : Binds M.K fd E_law_common.ps [] := F.bindsN fun _ _ _ _ _ _ us hl => match us, hl with | [_, _], _ => rfl
theorem bd_law_fraction (F : FD M "_law_fraction" 47 f fd) : Binds M.K fd E_law_fraction.ps [] := F.bindsN fun _ _ _ _ _ _ us hl => match us, hl with | [_, _], _ => rfl
theorem bd_law_zero (F : FD M "_law_zero" 48 f fd) : Binds M.K fd E_law_zero.ps [] := F.bindsN fun _ _ _ _ _ _ us hl => match us, hl with | [_], _ => rfl
theorem bd_law_number (F : FD M "_law_number" 50 f fd) : Binds M.K fd E_law_number.ps [] := F.bindsN fun _ _ _ _ _ _ us hl => match us, hl with | [_, _], _ => rfl
theorem bd_law_add (F : FD M "_law_add" 52 f fd) : Binds M.K fd E_law_add.ps [] := F.bindsN fun _ _ _ _ _ _ us hl => match us, hl with | [_, _, _], _ => rfl
theorem bd_law_multiply (F : FD M "_law_multiply" 53 f fd) : Binds M.K fd E_law_multiply.ps [] := F.bindsN fun _ _ _ _ _ _ us hl => match us, hl with | [_, _, _], _ => rfl
theorem bd_law_subtract (F : FD M "_law_subtract" 54 f fd) : Binds M.K fd E_law_subtract.ps [] := F.bindsN fun _ _ _ _ _ _ us hl => match us, hl with | [_, _, _], _ => rfl
theorem bd_law_inverse (F : FD M "_law_inverse" 56 f fd) : Binds M.K fd E_law_inverse.ps [] := F.bindsN fun _ _ _ _ _ _ us hl => match us, hl with | [_, _], _ => rfl
theorem bd_law_small (F : FD M "_law_small" 62 f fd) : Binds M.K fd E_law_small.ps [] := F.bindsN fun _ _ _ _ _ _ us hl => match us, hl with | [_, _], _ => rfl
theorem bd_law_matrix (F : FD M "_law_matrix" 63 f fd) : Binds M.K fd E_law_matrix.ps [] := F.bindsN fun _ _ _ _ _ _ us hl => match us, hl with | [_, _, _, _], _ => rfl
theorem bd_law_dot (F : FD M "_law_dot" 64 f fd) : Binds M.K fd E_law_dot.ps [] := F.bindsN fun _ _ _ _ _ _ us hl => match us, hl with | [_, _, _], _ => rfl
theorem bd_law_basis (F : FD M "_law_basis" 68 f fd) : Binds M.K fd E_law_basis.ps [] := F.bindsN fun _ _ _ _ _ _ us hl => match us, hl with | [_, _], _ => rfl
theorem bd_law_squares (F : FD M "_law_squares" 69 f fd) : Binds M.K fd E_law_squares.ps [] := F.bindsN fun _ _ _ _ _ _ us hl => match us, hl with | [_], _ => rfl
theorem bd_law_atmost (F : FD M "_law_atmost" 70 f fd) : Binds M.K fd E_law_atmost.ps [] := F.bindsN fun _ _ _ _ _ _ us hl => match us, hl with | [_, _], _ => rfl
theorem bd_law_is_reduced (F : FD M "_law_is_reduced" 71 f fd) : Binds M.K fd E_law_is_reduced.ps [] := F.bindsN fun _ _ _ _ _ _ us hl => match us, hl with | [_], _ => rfl
theorem bd_law_is_basis (F : FD M "_law_is_basis" 72 f fd) : Binds M.K fd E_law_is_basis.ps [] := F.bindsN fun _ _ _ _ _ _ us hl => match us, hl with | [_], _ => rfl
theorem bd_law_told (F : FD M "_law_told" 73 f fd) : Binds M.K fd E_law_told.ps [] := F.bindsN fun _ _ _ _ _ _ us hl => match us, hl with | [_], _ => rfl
theorem bd_law_refused (F : FD M "_law_refused" 74 f fd) : Binds M.K fd E_law_refused.ps [] := F.bindsN fun _ _ _ _ _ _ us hl => match us, hl with | [_], _ => rfl
theorem bd_law_whole (F : FD M "_law_whole" 75 f fd) : Binds M.K fd E_law_whole.ps [] := F.bindsN fun _ _ _ _ _ _ us hl => match us, hl with | [_], _ => rfl
theorem bd_law_exact (F : FD M "_law_exact" 79 f fd) : Binds M.K fd E_law_exact.ps [] := F.bindsN fun _ _ _ _ _ _ us hl => match us, hl with | [_], _ => rfl
theorem bd_law_sparse (F : FD M "_law_sparse" 80 f fd) : Binds M.K fd E_law_sparse.ps [] := F.bindsN fun _ _ _ _ _ _ us hl => match us, hl with | [_, _, _], _ => rfl
theorem bd_law (F : FD M "law" 81 f fd) : Binds M.K fd E_law.ps [] := F.bindsN fun _ _ _ _ _ _ us hl => match us, hl with | [_], _ => rfl
theorem st_all (E : Env1 P w M base (GK k) k bl xc) : ∀ e ∈ tab, ∀ f fd, FD M e.x e.i f fd → Ok P w M base e (k + 1) f fd := by
  intro e he f fd F
  simp only [tab, List.mem_cons, List.not_mem_nil, or_false] at he
  rcases he with rfl | rfl | rfl | rfl | rfl | rfl | rfl | rfl | rfl | rfl | rfl | rfl | rfl | rfl | rfl | rfl | rfl | rfl | rfl | rfl | rfl | rfl | rfl | rfl | rfl | rfl | rfl | rfl | rfl | rfl | rfl | rfl | rfl | rfl | rfl | rfl | rfl | rfl | rfl | rfl | rfl | rfl | rfl | rfl | rfl | rfl | rfl | rfl | rfl | rfl
  · exact st_divisor F E
  · exact st_fraction F E
  · exact st_is_domain F E
  · exact st_is_field F E
  · exact st_need_field F E
  · exact st_zero F E
  · exact st_from_integer F E
  · exact st_add F E
  · exact st_negate F E
  · exact st_subtract F E
  · exact st_multiply F E
  · exact st_inverse F E
  · exact st_quotient F E
  · exact st_dot F E
  · exact st_may_change F E
  · exact st_changed F E
  · exact st_change F E
  · exact st_add_row F E
  · exact st_eliminate F E
  · exact st_pivots_of F E
  · exact st_rank F E
  · exact st_fractions F E
  · exact st_need_basis F E
  · exact st_orthogonal F E
  · exact st_is_reduced F E
  · exact st_law_start F E
  · exact st_law_fill F E
  · exact st_law_take F E
  · exact st_law_common F E
  · exact st_law_fraction F E
  · exact st_law_zero F E
  · exact st_law_number F E
  · exact st_law_add F E
  · exact st_law_multiply F E
  · exact st_law_subtract F E
  · exact st_law_inverse F E
  · exact st_law_small F E
  · exact st_law_matrix F E
  · exact st_law_dot F E
  · exact st_law_basis F E
  · exact st_law_squares F E
  · exact st_law_atmost F E
  · exact st_law_is_reduced F E
  · exact st_law_is_basis F E
  · exact st_law_told F E
  · exact st_law_refused F E
  · exact st_law_whole F E
  · exact st_law_exact F E
  · exact st_law_sparse F E
  · exact st_law F E
theorem bd_all : ∀ e ∈ tab, ∀ f fd, FD M e.x e.i f fd → Binds M.K fd e.ps [] := by
  intro e he f fd F
  simp only [tab, List.mem_cons, List.not_mem_nil, or_false] at he
  rcases he with rfl | rfl | rfl | rfl | rfl | rfl | rfl | rfl | rfl | rfl | rfl | rfl | rfl | rfl | rfl | rfl | rfl | rfl | rfl | rfl | rfl | rfl | rfl | rfl | rfl | rfl | rfl | rfl | rfl | rfl | rfl | rfl | rfl | rfl | rfl | rfl | rfl | rfl | rfl | rfl | rfl | rfl | rfl | rfl | rfl | rfl | rfl | rfl | rfl | rfl
  · exact bd_divisor F
  · exact bd_fraction F
  · exact bd_is_domain F
  · exact bd_is_field F
  · exact bd_need_field F
  · exact bd_zero F
  · exact bd_from_integer F
  · exact bd_add F
  · exact bd_negate F
  · exact bd_subtract F
  · exact bd_multiply F
  · exact bd_inverse F
  · exact bd_quotient F
  · exact bd_dot F
  · exact bd_may_change F
  · exact bd_changed F
  · exact bd_change F
  · exact bd_add_row F
  · exact bd_eliminate F
  · exact bd_pivots_of F
  · exact bd_rank F
  · exact bd_fractions F
  · exact bd_need_basis F
  · exact bd_orthogonal F
  · exact bd_is_reduced F
  · exact bd_law_start F
  · exact bd_law_fill F
  · exact bd_law_take F
  · exact bd_law_common F
  · exact bd_law_fraction F
  · exact bd_law_zero F
  · exact bd_law_number F
  · exact bd_law_add F
  · exact bd_law_multiply F
  · exact bd_law_subtract F
  · exact bd_law_inverse F
  · exact bd_law_small F
  · exact bd_law_matrix F
  · exact bd_law_dot F
  · exact bd_law_basis F
  · exact bd_law_squares F
  · exact bd_law_atmost F
  · exact bd_law_is_reduced F
  · exact bd_law_is_basis F
  · exact bd_law_told F
  · exact bd_law_refused F
  · exact bd_law_whole F
  · exact bd_law_exact F
  · exact bd_law_sparse F
  · exact bd_law F
theorem pos_all : ∀ e ∈ tab, ∀ q ∈ e.L, 1 ≤ q.1 := by
  intro e he q hq
  simp only [tab, List.mem_cons, List.not_mem_nil, or_false] at he
  rcases he with rfl | rfl | rfl | rfl | rfl | rfl | rfl | rfl | rfl | rfl | rfl | rfl | rfl | rfl | rfl | rfl | rfl | rfl | rfl | rfl | rfl | rfl | rfl | rfl | rfl | rfl | rfl | rfl | rfl | rfl | rfl | rfl | rfl | rfl | rfl | rfl | rfl | rfl | rfl | rfl | rfl | rfl | rfl | rfl | rfl | rfl | rfl | rfl | rfl | rfl
  · obtain rfl := List.mem_singleton.1 hq; exact Nat.le_of_ble_eq_true rfl
  · obtain rfl := List.mem_singleton.1 hq; exact Nat.le_of_ble_eq_true rfl
  · obtain rfl := List.mem_singleton.1 hq; exact Nat.le_of_ble_eq_true rfl
  · obtain rfl := List.mem_singleton.1 hq; exact Nat.le_of_ble_eq_true rfl
  · obtain rfl := List.mem_singleton.1 hq; exact Nat.le_of_ble_eq_true rfl
  · obtain rfl := List.mem_singleton.1 hq; exact Nat.le_of_ble_eq_true rfl
  · obtain rfl := List.mem_singleton.1 hq; exact Nat.le_of_ble_eq_true rfl
  · obtain rfl := List.mem_singleton.1 hq; exact Nat.le_of_ble_eq_true rfl
  · obtain rfl := List.mem_singleton.1 hq; exact Nat.le_of_ble_eq_true rfl
  · obtain rfl := List.mem_singleton.1 hq; exact Nat.le_of_ble_eq_true rfl
  · obtain rfl := List.mem_singleton.1 hq; exact Nat.le_of_ble_eq_true rfl
  · obtain rfl := List.mem_singleton.1 hq; exact Nat.le_of_ble_eq_true rfl
  · obtain rfl := List.mem_singleton.1 hq; exact Nat.le_of_ble_eq_true rfl
  · obtain rfl := List.mem_singleton.1 hq; exact Nat.le_of_ble_eq_true rfl
  · obtain rfl := List.mem_singleton.1 hq; exact Nat.le_of_ble_eq_true rfl
  · obtain rfl := List.mem_singleton.1 hq; exact Nat.le_of_ble_eq_true rfl
  · obtain rfl := List.mem_singleton.1 hq; exact Nat.le_of_ble_eq_true rfl
  · obtain rfl := List.mem_singleton.1 hq; exact Nat.le_of_ble_eq_true rfl
  · obtain rfl := List.mem_singleton.1 hq; exact Nat.le_of_ble_eq_true rfl
  · obtain rfl := List.mem_singleton.1 hq; exact Nat.le_of_ble_eq_true rfl
  · obtain rfl := List.mem_singleton.1 hq; exact Nat.le_of_ble_eq_true rfl
  · obtain rfl := List.mem_singleton.1 hq; exact Nat.le_of_ble_eq_true rfl
  · obtain rfl := List.mem_singleton.1 hq; exact Nat.le_of_ble_eq_true rfl
  · obtain rfl := List.mem_singleton.1 hq; exact Nat.le_of_ble_eq_true rfl
  · obtain rfl := List.mem_singleton.1 hq; exact Nat.le_of_ble_eq_true rfl
  · obtain rfl := List.mem_singleton.1 hq; exact Nat.le_of_ble_eq_true rfl
  · obtain rfl := List.mem_singleton.1 hq; exact Nat.le_of_ble_eq_true rfl
  · obtain rfl := List.mem_singleton.1 hq; exact Nat.le_of_ble_eq_true rfl
  · obtain rfl := List.mem_singleton.1 hq; exact Nat.le_of_ble_eq_true rfl
  · obtain rfl := List.mem_singleton.1 hq; exact Nat.le_of_ble_eq_true rfl
  · obtain rfl := List.mem_singleton.1 hq; exact Nat.le_of_ble_eq_true rfl
  · obtain rfl := List.mem_singleton.1 hq; exact Nat.le_of_ble_eq_true rfl
  · obtain rfl := List.mem_singleton.1 hq; exact Nat.le_of_ble_eq_true rfl
  · obtain rfl := List.mem_singleton.1 hq; exact Nat.le_of_ble_eq_true rfl
  · obtain rfl := List.mem_singleton.1 hq; exact Nat.le_of_ble_eq_true rfl
  · obtain rfl := List.mem_singleton.1 hq; exact Nat.le_of_ble_eq_true rfl
  · obtain rfl := List.mem_singleton.1 hq; exact Nat.le_of_ble_eq_true rfl
  · obtain rfl := List.mem_singleton.1 hq; exact Nat.le_of_ble_eq_true rfl
  · obtain rfl := List.mem_singleton.1 hq; exact Nat.le_of_ble_eq_true rfl
  · obtain rfl := List.mem_singleton.1 hq; exact Nat.le_of_ble_eq_true rfl
  · obtain rfl := List.mem_singleton.1 hq; exact Nat.le_of_ble_eq_true rfl
  · obtain rfl := List.mem_singleton.1 hq; exact Nat.le_of_ble_eq_true rfl
  · obtain rfl := List.mem_singleton.1 hq; exact Nat.le_of_ble_eq_true rfl
  · obtain rfl := List.mem_singleton.1 hq; exact Nat.le_of_ble_eq_true rfl
  · obtain rfl := List.mem_singleton.1 hq; exact Nat.le_of_ble_eq_true rfl
  · obtain rfl := List.mem_singleton.1 hq; exact Nat.le_of_ble_eq_true rfl
  · obtain rfl := List.mem_singleton.1 hq; exact Nat.le_of_ble_eq_true rfl
  · simp only [E_law_exact, List.mem_cons, List.not_mem_nil, or_false] at hq; rcases hq with rfl | rfl | rfl | rfl | rfl | rfl <;> exact Nat.le_of_ble_eq_true rfl
  · obtain rfl := List.mem_singleton.1 hq; exact Nat.le_of_ble_eq_true rfl
  · obtain rfl := List.mem_singleton.1 hq; exact Nat.le_of_ble_eq_true rfl
/-- all levels -/
theorem envs (hfn : ∀ e ∈ tab, ∃ f fd, M.mg e.x = some (.ref f) ∧ FD M e.x e.i f fd) (hct : ∀ x u, ctl x = some u → ∃ w v, M.mg x = some w ∧ RelV v w ∧ ∀ μ H, Rep M μ H u v)
    (hbl : ∀ x ∈ bl, M.mg x = none) (hxc : ∀ c ∈ xc, ExcOk M c) (hxm : ∀ cl c y, exl cl c = some y → ∃ C : Addr, M.mg c = some (.ref C) ∧ ∀ a, M.mg cl = some (.ref a) → PySem.W.exmOne M.K (.ref a) (.ref C) = some y) : ∀ k, Env1 P w M base (GK k) k bl xc := by
  have mk : ∀ k, (∀ e ∈ tab, ∀ f fd, FD M e.x e.i f fd → Ok P w M base e k f fd) → Env1 P w M base (GK k) k bl xc := fun k h => ⟨GK_mono k, fun f sp hs => by
    obtain ⟨e, he, rfl⟩ := Option.map_eq_some_iff.1 hs
    have hm := List.mem_of_find?_eq_some he
    have hx : e.x = f := of_decide_eq_true (List.find?_some (p := fun z : Ent_ => decide (z.x = f)) he)
    obtain ⟨fa, fd, h1, F⟩ := hfn e hm
    exact ⟨fa, fd, e.ps, by rw [← hx]; exact h1, F.kp, h e hm fa fd F, bd_all e hm fa fd F⟩, hct, hbl, hxc, hxm⟩
  intro k
  induction k with
  | zero =>
    refine mk 0 fun e he f fd F => fn_no fun vs H Q Y ⟨μ, S, us, h1, h2, Q0, X0, hQ, hX, q, hq, hr, h⟩ => ?_
    have := pos_all e he q hq
    omega
  | succ k ih => exact mk (k + 1) (st_all ih)
end
end K70

set_option Elab.async false
set_option linter.all false
set_option maxRecDepth 100000
set_option maxHeartbeats 0
namespace K70H
open PySem PySem.Spec PyProof.Rows L2
open K70 (top)
def dd (x : Str) (i : Nat) : He.DefD := ⟨(x, none), x, x, defArgs (top i), defBody (top i), defScope (top i), [], []⟩
def fn0 : List He.DefD := [dd "divisor" 6, dd "fraction" 8, dd "is_domain" 12, dd "is_field" 13, dd "need_field" 14, dd "zero" 15, dd "from_integer" 16, dd "add" 18, dd "negate" 19, dd "subtract" 20, dd "multiply" 21, dd "inverse" 22, dd "quotient" 23, dd "dot" 25, dd "may_change" 26]
def fn1 : List He.DefD := [dd "changed" 27, dd "change" 28, dd "add_row" 30, dd "eliminate" 31, dd "pivots_of" 32, dd "rank" 33, dd "fractions" 37, dd "need_basis" 38, dd "orthogonal" 39, dd "is_reduced" 40, dd "_law_start" 42, dd "_law_fill" 43, dd "_law_take" 44, dd "_law_common" 46, dd "_law_fraction" 47]
def fn2 : List He.DefD := [dd "_law_zero" 48, dd "_law_number" 50, dd "_law_add" 52, dd "_law_multiply" 53, dd "_law_subtract" 54, dd "_law_inverse" 56, dd "_law_small" 62, dd "_law_matrix" 63, dd "_law_dot" 64, dd "_law_basis" 68, dd "_law_squares" 69, dd "_law_atmost" 70, dd "_law_is_reduced" 71, dd "_law_is_basis" 72, dd "_law_told" 73]
def fn3 : List He.DefD := [dd "_law_refused" 74, dd "_law_whole" 75, dd "_law_exact" 79, dd "_law_sparse" 80, dd "law" 81]
def fn : List He.DefD := fn0 ++ (fn1 ++ (fn2 ++ (fn3)))
def faG0 : List He.Fa := [He.Fa.glo "divisor", He.Fa.glo "fraction", He.Fa.glo "is_domain", He.Fa.glo "is_field", He.Fa.glo "need_field", He.Fa.glo "zero", He.Fa.glo "from_integer", He.Fa.glo "add", He.Fa.glo "negate", He.Fa.glo "subtract", He.Fa.glo "multiply", He.Fa.glo "inverse", He.Fa.glo "quotient", He.Fa.glo "dot", He.Fa.glo "may_change"]
def faG1 : List He.Fa := [He.Fa.glo "changed", He.Fa.glo "change", He.Fa.glo "add_row", He.Fa.glo "eliminate", He.Fa.glo "pivots_of", He.Fa.glo "rank", He.Fa.glo "fractions", He.Fa.glo "need_basis", He.Fa.glo "orthogonal", He.Fa.glo "is_reduced", He.Fa.glo "_law_start", He.Fa.glo "_law_fill", He.Fa.glo "_law_take", He.Fa.glo "_law_common", He.Fa.glo "_law_fraction"]
def faG2 : List He.Fa := [He.Fa.glo "_law_zero", He.Fa.glo "_law_number", He.Fa.glo "_law_add", He.Fa.glo "_law_multiply", He.Fa.glo "_law_subtract", He.Fa.glo "_law_inverse", He.Fa.glo "_law_small", He.Fa.glo "_law_matrix", He.Fa.glo "_law_dot", He.Fa.glo "_law_basis", He.Fa.glo "_law_squares", He.Fa.glo "_law_atmost", He.Fa.glo "_law_is_reduced", He.Fa.glo "_law_is_basis", He.Fa.glo "_law_told"]
def faG3 : List He.Fa := [He.Fa.glo "_law_refused", He.Fa.glo "_law_whole", He.Fa.glo "_law_exact", He.Fa.glo "_law_sparse", He.Fa.glo "law"]
def faG : List He.Fa := faG0 ++ (faG1 ++ (faG2 ++ (faG3)))
def faC : List He.Fa := [.glo "LongrankError", .glo "DomainError", .glo "SingularError", .glo "Q", .glo "Z"]
def faB : List He.Fa := [.free "abs", .free "all", .free "bool", .free "enumerate", .free "int", .free "isinstance", .free "len", .free "list", .free "max", .free "range", .free "str", .free "tuple"]
def faX : List He.Fa := [.exc "DomainError", .exc "SingularError", .exm "SingularError" "SingularError" true]
def fa : List He.Fa := faG ++ (faC ++ (faB ++ faX))
def ls0 : List Str := ["LongrankError", "DomainError", "SingularError", "common", "divisor", "is_prime", "fraction", "MOST_PRIME", "is_integer", "is_domain", "is_field", "need_field", "zero", "from_integer", "trimmed"]
def ls1 : List Str := ["add", "negate", "subtract", "multiply", "inverse", "quotient", "dot", "may_change", "changed", "change", "add_row", "eliminate", "pivots_of", "rank", "Q"]
def ls2 : List Str := ["Z", "fractions", "need_basis", "orthogonal", "is_reduced", "_law_start", "_law_fill", "_law_take", "_law_raised", "_law_common", "_law_fraction", "_law_zero", "_law_strip", "_law_number", "_law_part"]
def ls3 : List Str := ["_law_add", "_law_multiply", "_law_subtract", "_law_power", "_law_inverse", "_law_some_prime", "_law_field", "_law_domain", "_law_integer", "_law_element", "_law_small", "_law_matrix", "_law_dot", "_law_column", "_law_product"]
def ls4 : List Str := ["_law_identity", "_law_basis", "_law_squares", "_law_atmost", "_law_is_reduced", "_law_is_basis", "_law_told", "_law_refused", "_law_whole", "_law_is_element", "_law_is_over", "_law_are_elements", "_law_exact", "_law_sparse"]
def loose : List Str := ls0 ++ (ls1 ++ (ls2 ++ (ls3 ++ (ls4))))
def mask0 : List Bool := [true, true, true, false, true, false, true, false, false, true, true, true, true, true, false]
def mask1 : List Bool := [true, true, true, true, true, true, true, true, true, true, true, true, true, true, true]
def mask2 : List Bool := [true, true, true, true, true, true, true, true, false, true, true, true, false, true, false]
def mask3 : List Bool := [true, true, true, false, true, false, false, false, false, false, true, true, true, false, false]
def mask4 : List Bool := [false, true, true, true, true, true, true, true, true, false, false, false, true, true, true]
def mask : List Bool := mask0 ++ (mask1 ++ (mask2 ++ (mask3 ++ (mask4))))
def glE (g : Addr → Option Obj) : List PySem.DictEntry := match g mainGlobals with
  | some ⟨_, _, .dict es _, _⟩ => es.toList
  | _ => []
def dropE : List PySem.DictEntry → List PySem.DictEntry
  | [] => []
  | e :: r => bif e.key.isStr "LongrankError" then e :: r else dropE r
def pickE : List Bool → List PySem.DictEntry → List Addr
  | true :: ms, e :: es => He.refV e.val ++ pickE ms es
  | false :: ms, _ :: es => pickE ms es
  | _, _ => []
def asX (g : Addr → Option Obj) : List Addr :=
  let l := pickE mask (dropE (glE g))
  mainGlobals :: (l ++ l.flatMap fun a => match g a with
    | some o => He.refsO o
    | none => [])
def ex (K : PySem.W.Frag) : Bool := (He.tupB K "Q" [.str "Q"] && (He.tupB K "Z" [.str "Z"] && true))
abbrev Ob : Type := He.AlD × Bool
def obX (K : PySem.W.Frag) : Ob := (He.obsD fa fn K, ex K)
def val : Ob := (He.valD fn, true)
def hk : PySem.W.Hook where
  α := Ob
  obs := fun s => obX (He.frG s.heap.get? (asX s.heap.get?))
  val := fun _ => val
  says := fun _ h => ∃ K : PySem.W.Frag, K.In h ∧ obX K = val
  of := fun _ _ e => ⟨_, He.frG_in, e⟩
  keeps := fun _ _ _ ⟨K, hK, c⟩ k => ⟨K, PySem.W.Frag.In.keeps hK k, c⟩
def ob (s : PySem.W.SharedT) : Ob := obX (He.frG (HandSHeadRun.getT s) (asX (HandSHeadRun.getT s)))
theorem ob_eq (s : PySem.W.SharedT) : ob s = hk.obs s.abs := by
  have e : HandSHeadRun.getT s = s.abs.heap.get? := funext fun a => HandSHeadRun.getT_eq s a
  unfold ob
  rw [e] <;> rfl
abbrev R : PySem.W.OpenRow := PySem.W.OpenLaw.row PySem.Challenge.rw_longrank_k70_orthogonal_bases
theorem run (w : World) : HandSHeadRun.RunEq R (PySem.W.view R.prog [81]) hk ob 20000 loose w := by
  intro os
  kernel_rfl
end K70H

set_option Elab.async false
set_option linter.all false
set_option maxRecDepth 100000
set_option maxHeartbeats 4000000
namespace K70
open PySem PySem.Spec PyProof.Rows L2 Q
theorem fn_tab : K70H.fn = tab.map fun e => K70H.dd e.x e.i := rfl
theorem faG_tab : K70H.faG = tab.map fun e => He.Fa.glo e.x := rfl
theorem faB_bl : K70H.faB = bl.map fun x => He.Fa.free x := rfl
section
variable {K : PySem.W.Frag}
theorem fact_mem (c : He.SaysD K70H.fa K70H.fn K) {f : He.Fa} (h : f ∈ K70H.fa) : f.ok K = true := by
  obtain ⟨i, hi⟩ := List.mem_iff_getElem?.1 h
  exact c.fact i hi
theorem mem_G {f : He.Fa} (h : f ∈ K70H.faG) : f ∈ K70H.fa := List.mem_append.2 (.inl h)
theorem mem_C {f : He.Fa} (h : f ∈ K70H.faC) : f ∈ K70H.fa := List.mem_append.2 (.inr (List.mem_append.2 (.inl h)))
theorem mem_B {f : He.Fa} (h : f ∈ K70H.faB) : f ∈ K70H.fa := List.mem_append.2 (.inr (List.mem_append.2 (.inr (List.mem_append.2 (.inl h)))))
theorem mem_X {f : He.Fa} (h : f ∈ K70H.faX) : f ∈ K70H.fa := List.mem_append.2 (.inr (List.mem_append.2 (.inr (List.mem_append.2 (.inr h)))))
variable {h : Heap} {mg : Str → Option Value}
theorem fn_of_tab (X : K.In h) (G : h.Ns mainGlobals mg) (c : He.SaysD K70H.fa K70H.fn K) : ∀ e ∈ tab, mg e.x = some (.ref (He.ga K e.x)) ∧ ∃ fd, FD ⟨K, mg⟩ e.x e.i (He.ga K e.x) fd := fun e he => by
  refine ⟨He.glo_ok X G (fact_mem c (mem_G (by rw [faG_tab]; exact List.mem_map.2 ⟨e, he, rfl⟩))), ?_⟩
  have hd : K70H.dd e.x e.i ∈ K70H.fn := by rw [fn_tab]; exact List.mem_map.2 ⟨e, he, rfl⟩
  obtain ⟨i, hi⟩ := List.mem_iff_getElem?.1 hd
  obtain ⟨fd, F⟩ := c.def_ i hi
  exact ⟨fd, F⟩
theorem glC (X : K.In h) (G : h.Ns mainGlobals mg) (c : He.SaysD K70H.fa K70H.fn K) {x : Str} (hx : He.Fa.glo x ∈ K70H.faC) : mg x = some (.ref (He.ga K x)) := He.glo_ok X G (fact_mem c (mem_C hx))
theorem envs_of {P : Program} {w : World} {base : Heap} (X : K.In h) (G : h.Ns mainGlobals mg) (cc : K70H.obX K = K70H.val) : ∀ k, Env1 P w ⟨K, mg⟩ base (GK k) k bl xc := by
  have c : He.SaysD K70H.fa K70H.fn K := congrArg Prod.fst cc
  have e : K70H.ex K = true := congrArg Prod.snd cc
  have ft := fn_of_tab X G c
  refine envs (fun e he => ?_) (fun x u hu => ?_) (fun x hx => ?_) (fun x hx => ?_) (fun cl c2 y hy => ?_)
  · obtain ⟨h1, fd, F⟩ := ft e he
    exact ⟨_, fd, h1, F⟩
  · unfold ctl at hu
    obtain ⟨t0, e⟩ := He.ba e
    obtain ⟨t1, e⟩ := He.ba e
    split at hu
    · rename_i hx
      cases hu
      subst hx
      refine ⟨_, .ref (He.ga K "Q"), glC X G c (by simp [K70H.faC]), rfl, fun μ H => ?_⟩
      show Rep _ μ H (.tup _) _
      rw [Rep]
      exact ⟨_, _, rfl, He.tupB_ok t0 H, (.cons (by rw [Rep]; rfl) .nil)⟩
    split at hu
    · rename_i hx
      cases hu
      subst hx
      refine ⟨_, .ref (He.ga K "Z"), glC X G c (by simp [K70H.faC]), rfl, fun μ H => ?_⟩
      show Rep _ μ H (.tup _) _
      rw [Rep]
      exact ⟨_, _, rfl, He.tupB_ok t1 H, (.cons (by rw [Rep]; rfl) .nil)⟩
    · cases hu
  · exact He.free_ok X G (fact_mem c (mem_B (by rw [faB_bl]; exact List.mem_map.2 ⟨x, hx, rfl⟩)))
  · simp only [xc, List.mem_cons, List.not_mem_nil, or_false] at hx
    rcases hx with rfl | rfl
    · obtain ⟨q1, q2, q3, q4⟩ := He.exc_ok (fact_mem c (mem_X (f := .exc "DomainError") (by simp [K70H.faX])))
      exact ⟨_, glC X G c (by simp [K70H.faC]), q2, q3, q4, _, q1, rfl⟩
    · obtain ⟨q1, q2, q3, q4⟩ := He.exc_ok (fact_mem c (mem_X (f := .exc "SingularError") (by simp [K70H.faX])))
      exact ⟨_, glC X G c (by simp [K70H.faC]), q2, q3, q4, _, q1, rfl⟩
  · unfold exl at hy
    split at hy
    · rename_i hx
      obtain ⟨rfl, rfl⟩ := hx
      cases hy
      refine ⟨_, glC X G c (by simp [K70H.faC]), fun a ha => ?_⟩
      have h1 := (glC X G c (x := "SingularError") (by simp [K70H.faC])).symm.trans ha
      cases h1
      exact He.exm_ok (fact_mem c (mem_X (by simp [K70H.faX])))
    · cases hy
/-- a promise that lets no exception out -/
theorem calm_ok {P : Program} {w : World} {base : Heap} {k : Nat} {f : Addr} {fd : FuncData} {ps : List Str} {sp sp2 : Sp} (F : FnOk P w K mg base (L2.CX P w) k f fd ps sp) (hs : ∀ vs H Q E, sp2 vs H Q E → sp vs H Q fun _ _ _ => False) : FnOk P w K mg base L2.CX0 k f fd ps sp2 := by
  refine ⟨fun vs H Q E q => F.len _ _ _ _ (hs _ _ _ _ q), fun A outer s H args us vs Q E hr he hb hv q => codeAny_mono (F.run A outer s H args us vs Q _ hr he hb hv (hs _ _ _ _ q)) fun r s2 z => ?_⟩
  cases r with
  | ok fl => cases fl <;> exact z
  | error e =>
    obtain ⟨_, _, _, _, _, _, _, _, _, _, _, _, z⟩ := z
    exact z.elim
/-- the law's promise over the heap behind the top -/
def spEnd (K : PySem.W.Frag) : Sp := fun vs H Q _ => ∃ (a : Addr) (ns : List Int), vs = [.ref a] ∧ Only H ∧ SqL K H a (ns.map V.int) ∧ ∀ H2, Q (.bl true) H2
theorem law_end {P : Program} {w : World} (X : K.In h) (G : h.Ns mainGlobals mg) (cc : K70H.obX K = K70H.val) {f : Addr} (hf : mg "law" = some (.ref f)) :
    ∃ fd : FuncData, (∀ (s : Shared) (v : Value), BindsTo s fd ⟨[v], []⟩ [("script", v)]) ∧ ∀ base : Heap, FnOk P w K mg base L2.CX0 12 f fd ["script"] (spEnd K) := by
  have c : He.SaysD K70H.fa K70H.fn K := congrArg Prod.fst cc
  have hm : E_law ∈ tab := by simp [tab]
  obtain ⟨h1, fd, F⟩ := fn_of_tab X G c E_law hm
  have e := hf.symm.trans h1
  cases e
  refine ⟨fd, fun s v => FunD.bindsA (ps := ["script"]) F (fun _ _ _ _ _ _ us hl => match us, hl with | [_], _ => rfl) s [v] rfl, fun base => ?_⟩
  have ok := st_all (P := P) (w := w) (base := base) (envs_of X G cc 11) E_law hm _ fd F
  refine calm_ok ok fun vs H Q E ⟨a, ns, e, hO, hS, hQ⟩ => ?_
  refine ⟨[], [], [.scr ns], ⟨rfl, List.nodup_nil, fun n c h => by simp at h⟩, ?_, fun u S2 => u = .bl true, fun _ _ _ => False, fun u S2 hu μ2 H2 v _ _ hr => ?_, fun _ _ _ z => z.elim, (12, spLaw), List.mem_singleton.2 rfl, Nat.le_refl _, ns, rfl, fun _ => rfl⟩
  · rw [e]
    refine .cons ?_ .nil
    rw [Rep]
    refine ⟨a, rfl, ?_⟩
    rcases hS with (h1 | ⟨o, h1⟩) | h1
    · rcases hO a with h2 | ⟨o, xs, h2⟩
      · rw [h1] at h2; cases h2
      · rw [h1] at h2; cases h2
    · exact .inl ⟨o, h1⟩
    · exact .inr (.inr h1)
  · subst hu
    rw [Rep] at hr
    subst hr
    exact hQ _
end
end K70
open PySem PySem.W PySem.Calls PyProof.Rows
theorem PySem.Challenge.cw_longrank_k70_orthogonal_bases_holds : PySem.Challenge.rw_longrank_k70_orthogonal_bases.Holds := by
  w_on; o_law
  refine HandSHeadRun.head_any (r := OpenLaw.row PySem.Challenge.rw_longrank_k70_orthogonal_bases) (q := view (OpenLaw.row PySem.Challenge.rw_longrank_k70_orthogonal_bases).prog [81]) (H := K70H.hk) (ob := K70H.ob) (M := 20000) (loose := K70H.loose) (d := HandSHeadRun.topDef (OpenLaw.row PySem.Challenge.rw_longrank_k70_orthogonal_bases).prog 81) (kwd := []) K70H.ob_eq
    (by kernel_rfl) (fun s => by kernel_rfl) K70H.run (by kernel_rfl) (by kernel_rfl) (by kernel_rfl) (by rfl) (by first | assumption | decide +kernel) (by decide +kernel) ⟨rfl, rfl, rfl, rfl, rfl, by decide +kernel⟩ ?hw ?hc
  case hw => w_witness2
  case hc =>
    refine L2.walk_ofE (l := PySem.Challenge.rw_longrank_k70_orthogonal_bases) (n := 63) (k := 12) (x := "script") (CX := L2.CX0) rfl (by decide) (by kernel_rfl) ⟨rfl, by decide, by decide⟩ ?F (fun _ _ _ _ z => z)
    intro w mg fa h Y G hmg0
    obtain ⟨K, KX, cc⟩ := Y
    have hmg : mg ("law" : PySem.Str) = some (.ref fa) := by
      have e : (HandSHeadRun.topDef (OpenLaw.row PySem.Challenge.rw_longrank_k70_orthogonal_bases).prog 81).name = ("law" : PySem.Str) := by kernel_rfl
      rw [← e]
      exact hmg0
    obtain ⟨fd, hb, hF⟩ := K70.law_end (P := (PySem.Challenge.rw_longrank_k70_orthogonal_bases).prog) (w := w) KX G cc hmg
    exact ⟨K, fd, K70.spEnd K, KX, hb, fun H a ns hl hO hS => ⟨a, ns, rfl, hO, hS, fun _ => rfl⟩, fun base _ _ => hF base⟩
