import PyProof.Rows.All
import Wide.All
import OpenK.AllK
import Wide.FinOn
import HandS.ForMost
import HandS.Wide
import HandS.ForSpec
import HandS.CallSlots
import HandS.TupAny
import HandS.TupMul
import KE.DataEq
import HandS.IsInst
import HandS.Style
import HandS.Iter
import HandS.Comp
import HandS.Defaults
import PySem.Challenge.RW_longrank_k67_refused_operators
import HandS.TryMany
import HandS.ExcIs
import HandS.HeadEnd
import HandS.HeadWalk
import KE.KStateDown
import HandS.Head0
import HandS.Head1
import HandS.Head2
import HandS.HeadHook1
import HandS.HeadHook2
set_option Elab.async false
set_option linter.all false
set_option maxRecDepth 100000
/-! QSem: plain values, stores, a small form of Python, and what must hold for it to run (wp). -/
namespace Q
open PySem

/-- plain values: tuples are data, lists stand in a store -/
inductive U where
  | non | bl (b : Bool) | int (i : Int) | str (s : Str) | tup (l : List U) | lst (n : Nat) | fn (f : Str) | cls (c : Str) | ty (n : String) | scr (l : List Int)
inductive Cell where
  | lst (l : List U)
abbrev Sto := List Cell
abbrev Sl := List (Option U)
abbrev Ks := U → Sto → Prop
abbrev Exn := Str → List (Str × U) → Sto → Prop
abbrev ExS := Str → List (Str × U) → Sl → Sto → Prop
abbrev FSpec := List U → Sto → Ks → Exn → Prop
/-- what the names of the module stand for -/
structure Gm where
  fns : Str → Option FSpec
  cts : Str → Option U

inductive BO where | add | sub | mul | div | mod | pow
inductive CO where | eq | ne | lt | le | gt | ge | isin | notin
/-- built-in functions of values -/
inductive Bi where | len | abs | max | min | sum | any | all | int | str | tuple | list
/-- methods of lists and texts -/
inductive Me where | append | extend | pop | join

mutual
inductive E where
  | var (i : Nat) | int (i : Int) | str (s : Str) | bl (b : Bool) | non | glob (x : Str)
  | bop (o : BO) (a b : E) | neg (a : E) | cmp (o : CO) (a b : E) | cmp2 (o p : CO) (a b c : E) | isN (a : E) | notN (a : E)
  | andE (a b : E) | orE (a b : E) | notE (a : E) | tst (e : E) | ite (t a b : E)
  | tup (es : Es) | lst (es : Es) | idx (a i : E) | slc (a : E) (lo hi : Oe) | rev (a : E)
  | call (f : Str) (es : Es) | callL (i : Nat) (es : Es) | bi (f : Bi) (es : Es) | meth (m : Me) (a : E) (es : Es) | isi (a : E) (t : String)
  | lc (e : E) (t : T) (it : It) (c : Oe) (own : List (Str × Nat))
inductive Es where | nil | cons (e : E) (es : Es)
inductive Oe where | none | some (e : E)
inductive T where | name (i : Nat) | tup (ts : Ts) | sub (o i : E)
inductive Ts where | nil | cons (t : T) (ts : Ts)
inductive It where | seq (a : E) | rng1 (a : E) | rng2 (a b : E) | enm (a : E) | down (a : E)
end
mutual
inductive S where
  | asg (t : T) (e : E) | setlc (i : Nat) (e : E) | par (i j : Nat) (a b : E) | aug (i : Nat) (o : BO) (e : E)
  | ret (e : E) | retN | ifs (t : E) (a b : Ss) | fors (t : T) (it : It) (b : Ss) | whl (t : E) (b : Ss) | ex (e : E) | doc | raise (c : Str) (m : Str) | pass | brk | cont | nev
inductive Ss where | nil | cons (s : S) (ss : Ss)
end

/-- what a for walks: the items, and what must stay so meanwhile -/
structure Src where
  vals : List U
  grd : Sto → Prop

/-! ### operations -/
def bopI (o : BO) (i j : Int) (St : Sto) (Q : Ks) : Prop :=
  match o with
  | .add => Q (.int (i + j)) St
  | .sub => Q (.int (i - j)) St
  | .mul => i.natAbs.log2 + j.natAbs.log2 < 1000000 ∧ Q (.int (i * j)) St
  | .div => (j ≠ 0 ∧ j.natAbs.log2 < 9000) ∧ Q (.int (i.fdiv j)) St
  | .mod => j ≠ 0 ∧ Q (.int (i.fmod j)) St
  | .pow => (0 ≤ j ∧ j ≤ 1000000 ∧ i.natAbs < 2 ^ 64) ∧ Q (.int (i ^ j.toNat)) St
def bop (o : BO) (x y : U) (St : Sto) (Q : Ks) : Prop :=
  match x, y with
  | .int i, .int j => bopI o i j St Q
  | .str a, .str b => match o with
    | .add => a.length + b.length ≤ sizeLine ∧ Q (.str (a ++ b)) St
    | _ => False
  | .tup a, .tup b => match o with
    | .add => a.length + b.length ≤ sizeLine ∧ Q (.tup (a ++ b)) St
    | _ => False
  | .lst m, .lst n => match o, St[m]?, St[n]? with
    | .add, some (.lst a), some (.lst b) => a.length + b.length ≤ sizeLine ∧ Q (.lst St.length) (St ++ [.lst (a ++ b)])
    | _, _, _ => False
  | .lst m, .int k => match o, St[m]? with
    | .mul, some (.lst a) => (-(2 ^ 63) ≤ k ∧ k < 2 ^ 63 ∧ a.length * k.toNat ≤ sizeLine) ∧ Q (.lst St.length) (St ++ [.lst (List.replicate k.toNat a).flatten])
    | _, _ => False
  | _, _ => False

/-- a op= b: whole numbers -/
def augp (o : BO) (x y : U) (St : Sto) (Q : Ks) : Prop :=
  match o, x, y with
  | .add, .int i, .int j => Q (.int (i + j)) St
  | .sub, .int i, .int j => Q (.int (i - j)) St
  | .div, .int i, .int j => (j ≠ 0 ∧ j.natAbs.log2 < 9000) ∧ Q (.int (i.fdiv j)) St
  | _, _, _ => False
mutual
/-- == of plain values, True being 1 -/
def eqv : U → U → Bool
  | .non, .non => true
  | .bl a, .bl b => a == b
  | .bl a, .int j => (if a then 1 else 0) == j
  | .int i, .bl b => i == (if b then 1 else 0)
  | .int i, .int j => i == j
  | .str a, .str b => a == b
  | .tup a, .tup b => eqvs a b
  | _, _ => false
def eqvs : List U → List U → Bool
  | [], [] => true
  | x :: xs, y :: ys => eqv x y && eqvs xs ys
  | _, _ => false
end
mutual
/-- data without lists, not deeper than n -/
def dat : Nat → U → Bool
  | _, .non => true
  | _, .bl _ => true
  | _, .int _ => true
  | _, .str _ => true
  | 0, .tup _ => false
  | n + 1, .tup l => dats n l
  | _, _ => false
def dats : Nat → List U → Bool
  | _, [] => true
  | n, x :: xs => dat n x && dats n xs
end
def eqp (x y : U) (St : Sto) (Q : Bool → Prop) : Prop :=
  match x, y with
  | .lst m, .lst n => match St[m]?, St[n]? with
    | some (.lst a), some (.lst b) => (dats 60 a = true ∧ dats 60 b = true) ∧ Q (eqvs a b)
    | _, _ => False
  | x, y => (dat 60 x = true ∧ dat 60 y = true) ∧ Q (eqv x y)
def flat : U → Bool
  | .non => true | .bl _ => true | .int _ => true | .str _ => true | _ => false
def inp (x y : U) (St : Sto) (Q : Bool → Prop) : Prop :=
  match y with
  | .tup l => (flat x = true ∧ l.all flat = true) ∧ Q (l.any fun z => eqv z x)
  | .lst n => match St[n]? with
    | some (.lst l) => (flat x = true ∧ l.all flat = true) ∧ Q (l.any fun z => eqv z x)
    | _ => False
  | .str z => match x with
    | .str c => match c.cps.toList with
      | [d] => Q (decide (d ∈ z.cps.toList))
      | _ => False
    | _ => False
  | _ => False
def cop (o : CO) (x y : U) (St : Sto) (Q : Bool → Prop) : Prop :=
  match o with
  | .eq => eqp x y St Q
  | .ne => eqp x y St fun b => Q (!b)
  | .lt => match x, y with | .int i, .int j => Q (decide (i < j)) | _, _ => False
  | .le => match x, y with | .int i, .int j => Q (decide (i ≤ j)) | _, _ => False
  | .gt => match x, y with | .int i, .int j => Q (decide (j < i)) | _, _ => False
  | .ge => match x, y with | .int i, .int j => Q (decide (j ≤ i)) | _, _ => False
  | .isin => inp x y St Q
  | .notin => inp x y St fun b => Q (!b)
/-- truth of a value -/
def tru (u : U) (St : Sto) (Q : Bool → Prop) : Prop :=
  match u with
  | .non => Q false
  | .bl b => Q b
  | .int i => Q (i != 0)
  | .str s => s.length ≤ sizeLine ∧ Q ((s.length : Int) != 0)
  | .tup l => Q (!l.isEmpty)
  | .lst n => match St[n]? with | some (.lst l) => Q (!l.isEmpty) | _ => False
  | _ => False
def idxp (x i : U) (St : Sto) (Q : Ks) : Prop :=
  match i with
  | .int k => match x with
    | .tup l => match L2.atI l k with | some u => Q u St | none => False
    | .lst n => match St[n]? with
      | some (.lst l) => (match L2.atI l k with | some u => Q u St | none => False)
      | _ => False
    | .str s => s.length ≤ sizeLine ∧ (match L2.atI s.cps.toList k with | some c => Q (.str ⟨#[c]⟩) St | none => False)
    | _ => False
  | _ => False
def cutU {α : Type} (xs : List α) (lo hi : Option Int) : List α := (xs.drop (HT.sIx xs.length 0 lo)).take (HT.sIx xs.length xs.length hi - HT.sIx xs.length 0 lo)
def slcp (x : U) (lo hi : Option Int) (St : Sto) (Q : Ks) : Prop :=
  match x with
  | .tup l => Q (.tup (cutU l lo hi)) St
  | .lst n => match St[n]? with
    | some (.lst l) => Q (.lst St.length) (St ++ [.lst (cutU l lo hi)])
    | _ => False
  | .scr l => Q (.lst St.length) (St ++ [.lst ((cutU l lo hi).map U.int)])
  | .str s => s.length ≤ sizeLine ∧ Q (.str ⟨(cutU s.cps.toList lo hi).toArray⟩) St
  | _ => False
def intsU : List U → Option (List Int)
  | [] => some []
  | .int i :: r => (intsU r).map (i :: ·)
  | _ => none
def blsU : List U → Option (List Bool)
  | [] => some []
  | .bl i :: r => (blsU r).map (i :: ·)
  | _ => none
def strsU : List U → Option (List Str)
  | [] => some []
  | .str i :: r => (strsU r).map (i :: ·)
  | _ => none
/-- the items of a list or tuple -/
def itemsp (x : U) (St : Sto) (Q : List U → Prop) : Prop :=
  match x with
  | .tup l => Q l
  | .lst n => match St[n]? with | some (.lst l) => Q l | _ => False
  | _ => False
def listp (x : U) (St : Sto) (Q : List U → Prop) : Prop :=
  match x with
  | .lst n => match St[n]? with | some (.lst l) => Q l | _ => False
  | _ => False
def bip (f : Bi) (us : List U) (St : Sto) (Q : Ks) : Prop :=
  match f, us with
  | .len, [.str s] => s.length ≤ sizeLine ∧ Q (.int s.length) St
  | .len, [x] => itemsp x St fun l => Q (.int l.length) St
  | .abs, [.int i] => Q (.int (if i < 0 then -i else i)) St
  | .max, [.int i, .int j] => Q (.int (if j > i then j else i)) St
  | .min, [.int i, .int j] => Q (.int (if j < i then j else i)) St
  | .sum, [x] => listp x St fun l => match intsU l with | some ns => Q (.int ns.sum) St | none => False
  | .any, [x] => listp x St fun l => match blsU l with | some bs => Q (.bl (bs.any id)) St | none => False
  | .all, [x] => listp x St fun l => match blsU l with | some bs => Q (.bl (bs.all id)) St | none => False
  | .int, [.int i] => Q (.int i) St
  | .int, [.bl b] => Q (.int (if b then 1 else 0)) St
  | .str, [.int i] => i.natAbs.log2 < 1920 ∧ Q (.str (toString i)) St
  | .tuple, [x] => itemsp x St fun l => Q (.tup l) St
  | .list, [x] => itemsp x St fun l => Q (.lst St.length) (St ++ [.lst l])
  | _, _ => False
def mep (m : Me) (x : U) (us : List U) (St : Sto) (Q : Ks) : Prop :=
  match m, x, us with
  | .append, .lst n, [u] => match St[n]? with
    | some (.lst l) => l.length < sizeLine ∧ Q .non (St.set n (.lst (l ++ [u])))
    | _ => False
  | .extend, .lst n, [.lst k] => match St[n]?, St[k]? with
    | some (.lst l), some (.lst z) => l.length + z.length ≤ sizeLine ∧ Q .non (St.set n (.lst (l ++ z)))
    | _, _ => False
  | .pop, .lst n, [] => match St[n]? with
    | some (.lst l) => (match l[l.length - 1]? with | some u => Q u (St.set n (.lst l.dropLast)) | none => False)
    | _ => False
  | _, _, _ => False
def setp (o i v : U) (St : Sto) (Q : Sto → Prop) : Prop :=
  match o, i with
  | .lst n, .int k => match St[n]? with
    | some (.lst l) => (match L2.ixN l.length k with | some j => Q (St.set n (.lst (l.set j v))) | none => False)
    | _ => False
  | _, _ => False
def isip (x : U) (t : String) (Q : Bool → Prop) : Prop :=
  match x with
  | .non => Q (t == "NoneType")
  | .bl _ => Q (t == "bool" || t == "int")
  | .int _ => Q (t == "int")
  | .str _ => Q (t == "str")
  | .tup _ => Q (t == "tuple")
  | .lst _ => Q (t == "list")
  | _ => False

/-! ### loops -/
def wipeU (σ : Sl) : List Nat → Sl
  | [] => σ
  | v :: vs => (wipeU σ vs).set v none
/-- the items of a comprehension -/
def lcL (turn : U → Sto → (Option U → Sto → Prop) → Prop) (grd : Sto → Prop) : List U → List U → Sto → (List U → Sto → Prop) → Prop
  | [], acc, St, Q => grd St ∧ Q acc St
  | u :: us, acc, St, Q => grd St ∧ turn u St fun o S2 => match o with
    | some v => acc.length < sizeLine ∧ lcL turn grd us (acc ++ [v]) S2 Q
    | none => lcL turn grd us acc S2 Q
def forL (turn : U → Sl → Sto → (Sl → Sto → Prop) → Prop) (grd : Sto → Prop) : List U → Sl → Sto → (Sl → Sto → Prop) → Prop
  | [], σ, St, Q => grd St ∧ Q σ St
  | u :: us, σ, St, Q => grd St ∧ turn u σ St fun σ2 S2 => forL turn grd us σ2 S2 Q
def whlN (test : Sl → Sto → (Bool → Sto → Prop) → Prop) (body : Sl → Sto → (Sl → Sto → Prop) → Prop) (nx : Sl → Sto → Prop) : Nat → Sl → Sto → Prop
  | 0, _, _ => False
  | n + 1, σ, St => test σ St fun b S2 => if b = true then body σ S2 (fun σ3 S3 => whlN test body nx n σ3 S3) else nx σ S2
def rngL (lo : Int) (n : Nat) : List U := (List.range n).map fun (i : Nat) => U.int (lo + i)
def enmL (l : List U) : List U := l.mapIdx fun i x => U.tup [.int i, x]
def downL (j : Int) : List U := (List.range (j + 1).toNat).map fun (i : Nat) => U.int (j - i)


def lenTs : Ts → Nat
  | .nil => 0
  | .cons _ ts => lenTs ts + 1
/-! ### small looks -/
def slotp : Option (Option U) → (U → Prop) → Prop
  | some (some u), k => k u
  | _, _ => False
def intp : U → (Int → Prop) → Prop
  | .int i, k => k i
  | _, _ => False
def blp : U → (Bool → Prop) → Prop
  | .bl i, k => k i
  | _, _ => False
def tupp : U → (List U → Prop) → Prop
  | .tup i, k => k i
  | _, _ => False
def fnp : U → (Str → Prop) → Prop
  | .fn i, k => k i
  | _, _ => False
def lstq : U → Prop → Prop
  | .lst _, k => k
  | _, _ => False
def nilp : List U → Prop → Prop
  | [], k => k
  | _, _ => False
def consp : List U → (U → List U → Prop) → Prop
  | u :: r, k => k u r
  | _, _ => False
def optp {α : Type} : Option α → (α → Prop) → Prop
  | some a, k => k a
  | none, _ => False
def optu : Option U → (U → Prop) → Prop
  | some a, k => k a
  | none, _ => False
def isNon : U → Bool
  | .non => true
  | _ => false
/-- what a for over a tuple or a list walks -/
def srcp (f : List U → List U) : U → Sto → (Src → Prop) → Prop
  | .tup l, _, k => k ⟨f l, fun _ => True⟩
  | .lst n, St, k => match St[n]? with | some (.lst l) => k ⟨f l, fun S2 => S2[n]? = some (.lst l)⟩ | _ => False
  | _, _, _ => False
def revp : U → Sto → Ks → Prop
  | .lst n, St, Q => (match St[n]? with | some (.lst l) => Q (.lst St.length) (St ++ [.lst l.reverse]) | _ => False)
  | _, _, _ => False
variable (G : Gm)
mutual
def wpE : E → ExS → Sl → Sto → Ks → Prop
  | .var i, _, σ, St, Q => slotp σ[i]? fun u => Q u St
  | .int i, _, _, St, Q => Q (.int i) St
  | .str s, _, _, St, Q => Q (.str s) St
  | .bl b, _, _, St, Q => Q (.bl b) St
  | .non, _, _, St, Q => Q .non St
  | .glob x, _, _, St, Q => optu (G.cts x) fun u => Q u St
  | .bop o a b, X, σ, St, Q => wpE a X σ St fun u S1 => wpE b X σ S1 fun v S2 => bop o u v S2 Q
  | .neg a, X, σ, St, Q => wpE a X σ St fun u S1 => intp u fun i => Q (.int (-i)) S1
  | .cmp o a b, X, σ, St, Q => wpE a X σ St fun u S1 => wpE b X σ S1 fun v S2 => cop o u v S2 fun c => Q (.bl c) S2
  | .cmp2 o p a b c, X, σ, St, Q => wpE a X σ St fun u S1 => wpE b X σ S1 fun v S2 => cop o u v S2 fun d => if d = true then wpE c X σ S2 fun w S3 => cop p v w S3 fun d' => Q (.bl d') S3 else Q (.bl false) S2
  | .isN a, X, σ, St, Q => wpE a X σ St fun u S1 => Q (.bl (isNon u)) S1
  | .notN a, X, σ, St, Q => wpE a X σ St fun u S1 => Q (.bl (!isNon u)) S1
  | .andE a b, X, σ, St, Q => wpE a X σ St fun u S1 => blp u fun c => if c = true then wpE b X σ S1 Q else Q (.bl false) S1
  | .orE a b, X, σ, St, Q => wpE a X σ St fun u S1 => blp u fun c => if c = true then Q (.bl true) S1 else wpE b X σ S1 Q
  | .notE a, X, σ, St, Q => wpE a X σ St fun u S1 => blp u fun c => Q (.bl (!c)) S1
  | .tst _, _, _, _, _ => False
  | .ite t a b, X, σ, St, Q => wpT t X σ St fun c S1 => if c = true then wpE a X σ S1 Q else wpE b X σ S1 Q
  | .tup es, X, σ, St, Q => wpEs es X σ St fun us S1 => us.length ≤ sizeLine ∧ Q (.tup us) S1
  | .lst es, X, σ, St, Q => wpEs es X σ St fun us S1 => us.length ≤ sizeLine ∧ Q (.lst S1.length) (S1 ++ [.lst us])
  | .idx a i, X, σ, St, Q => wpE a X σ St fun u S1 => wpE i X σ S1 fun v S2 => idxp u v S2 Q
  | .slc a lo hi, X, σ, St, Q => wpE a X σ St fun u S1 => wpO lo X σ S1 fun l S2 => wpO hi X σ S2 fun h S3 => slcp u l h S3 Q
  | .rev a, X, σ, St, Q => wpE a X σ St fun u S1 => revp u S1 Q
  | .call f es, X, σ, St, Q => optp (G.fns f) fun sp => wpEs es X σ St fun us S1 => sp us S1 Q (fun c p S2 => X c p σ S2)
  | .callL i es, X, σ, St, Q => slotp σ[i]? fun w => fnp w fun f => optp (G.fns f) fun sp => wpEs es X σ St fun us S1 => sp us S1 Q (fun c p S2 => X c p σ S2)
  | .bi f es, X, σ, St, Q => wpEs es X σ St fun us S1 => bip f us S1 Q
  | .meth m a es, X, σ, St, Q => wpE a X σ St fun u S1 => lstq u (wpEs es X σ S1 fun us S2 => mep m u us S2 Q)
  | .isi a t, X, σ, St, Q => wpE a X σ St fun u S1 => isip u t fun b => Q (.bl b) S1
  | .lc e t it c own, X, σ, St, Q => wpI it X σ St fun src S1 =>
      lcL (fun u S2 k => wpTg t (fun _ _ _ _ => False) u (wipeU σ (own.map (·.2))) S2 fun σ2 S3 => wpC c (fun _ _ _ _ => False) σ2 S3 fun b S4 => if b = true then wpE e (fun _ _ _ _ => False) σ2 S4 fun v S5 => k (some v) S5 else k none S4)
        src.grd src.vals [] S1 fun acc S2 => Q (.lst S2.length) (S2 ++ [.lst acc])
def wpEs : Es → ExS → Sl → Sto → (List U → Sto → Prop) → Prop
  | .nil, _, _, St, Q => Q [] St
  | .cons e es, X, σ, St, Q => wpE e X σ St fun u S1 => wpEs es X σ S1 fun us S2 => Q (u :: us) S2
def wpO : Oe → ExS → Sl → Sto → (Option Int → Sto → Prop) → Prop
  | .none, _, _, St, Q => Q none St
  | .some e, X, σ, St, Q => wpE e X σ St fun u S1 => intp u fun i => Q (some i) S1
def wpC : Oe → ExS → Sl → Sto → (Bool → Sto → Prop) → Prop
  | .none, _, _, St, Q => Q true St
  | .some e, X, σ, St, Q => wpT e X σ St Q
def wpT : E → ExS → Sl → Sto → (Bool → Sto → Prop) → Prop
  | .andE a b, X, σ, St, Q => wpT a X σ St fun c S1 => if c = true then wpT b X σ S1 Q else Q false S1
  | .orE a b, X, σ, St, Q => wpT a X σ St fun c S1 => if c = true then Q true S1 else wpT b X σ S1 Q
  | .notE a, X, σ, St, Q => wpT a X σ St fun c S1 => Q (!c) S1
  | .tst e, X, σ, St, Q => wpE e X σ St fun u S1 => tru u S1 fun b => Q b S1
  | _, _, _, _, _ => False
def wpTg : T → ExS → U → Sl → Sto → (Sl → Sto → Prop) → Prop
  | .name i, _, u, σ, St, Q => Q (σ.set i (some u)) St
  | .tup ts, X, u, σ, St, Q => tupp u fun l => l.length = lenTs ts ∧ wpTs ts X l σ St Q
  | .sub o i, X, u, σ, St, Q => wpE o X σ St fun x S1 => wpE i X σ S1 fun y S2 => setp x y u S2 fun S3 => Q σ S3
def wpTs : Ts → ExS → List U → Sl → Sto → (Sl → Sto → Prop) → Prop
  | .nil, _, us, σ, St, Q => nilp us (Q σ St)
  | .cons t ts, X, us, σ, St, Q => consp us fun u r => wpTg t X u σ St fun σ1 S1 => wpTs ts X r σ1 S1 Q
def wpI : It → ExS → Sl → Sto → (Src → Sto → Prop) → Prop
  | .seq a, X, σ, St, Q => wpE a X σ St fun u S1 => srcp (fun l => l) u S1 fun s => Q s S1
  | .rng1 a, X, σ, St, Q => wpE a X σ St fun u S1 => intp u fun j => (-(2 ^ 62) ≤ j ∧ j < 2 ^ 62) ∧ Q ⟨rngL 0 j.toNat, fun _ => True⟩ S1
  | .rng2 a b, X, σ, St, Q => wpE a X σ St fun u S1 => wpE b X σ S1 fun v S2 => intp u fun i => intp v fun j => (-(2 ^ 62) ≤ i ∧ i < 2 ^ 62 ∧ -(2 ^ 62) ≤ j ∧ j < 2 ^ 62) ∧ Q ⟨rngL i (j - i).toNat, fun _ => True⟩ S2
  | .enm a, X, σ, St, Q => wpE a X σ St fun u S1 => srcp enmL u S1 fun s => Q s S1
  | .down a, X, σ, St, Q => wpE a X σ St fun u S1 => intp u fun j => (-(2 ^ 62) ≤ j ∧ j < 2 ^ 62) ∧ Q ⟨downL j, fun _ => True⟩ S1
end

/-- what is wanted behind a statement -/
structure En where
  nx : Sl → Sto → Prop
  rt : Ks
  bk : Sl → Sto → Prop := fun _ _ => False
  ct : Sl → Sto → Prop := fun _ _ => False

mutual
def wpS : S → ExS → En → Sl → Sto → Prop
  | .asg t e, X, D, σ, St => wpE G e X σ St fun u S1 => wpTg G t X u σ S1 D.nx
  | .setlc i e, X, D, σ, St => wpE G e X σ St fun u S1 => D.nx (σ.set i (some u)) S1
  | .par i j a b, X, D, σ, St => wpE G a X σ St fun u S1 => wpE G b X σ S1 fun v S2 => D.nx ((σ.set i (some u)).set j (some v)) S2
  | .aug i o e, X, D, σ, St => slotp σ[i]? fun x => wpE G e X σ St fun u S1 => augp o x u S1 fun v S2 => D.nx (σ.set i (some v)) S2
  | .ret e, X, D, σ, St => wpE G e X σ St D.rt
  | .retN, _, D, _, St => D.rt .non St
  | .ifs t a b, X, D, σ, St => wpT G t X σ St fun c S1 => if c = true then wpSs a X D σ S1 else wpSs b X D σ S1
  | .fors t it b, X, D, σ, St => wpI G it X σ St fun src S1 =>
      forL (fun u σ1 S2 k => wpTg G t X u σ1 S2 fun σ2 S3 => wpSs b X { nx := k, rt := D.rt, bk := D.nx, ct := k } σ2 S3) src.grd src.vals σ S1 D.nx
  | .whl t b, X, D, σ, St => ∃ n, whlN (fun σ1 S1 k => wpT G t X σ1 S1 k) (fun σ1 S1 k => wpSs b X { nx := k, rt := D.rt, bk := D.nx, ct := k } σ1 S1) D.nx n σ St
  | .ex e, X, D, σ, St => wpE G e X σ St fun _ S1 => D.nx σ S1
  | .doc, _, D, σ, St => D.nx σ St
  | .raise c _, X, _, σ, St => X c [] σ St
  | .pass, _, D, σ, St => D.nx σ St
  | .brk, _, D, σ, St => D.bk σ St
  | .cont, _, D, σ, St => D.ct σ St
  | .nev, _, _, _, _ => False
def wpSs : Ss → ExS → En → Sl → Sto → Prop
  | .nil, _, D, σ, St => D.nx σ St
  | .cons s ss, X, D, σ, St => wpS s X { D with nx := fun σ1 S1 => wpSs ss X D σ1 S1 } σ St
end
end Q

set_option Elab.async false
set_option linter.all false
set_option maxRecDepth 100000
set_option maxHeartbeats 4000000
/-! QMono: what is wanted may be weakened. -/
namespace Q
open PySem

section
variable {Q Q' : Ks} {St : Sto}
theorem bopI_mono {o i j} (hQ : ∀ u S, Q u S → Q' u S) (h : bopI o i j St Q) : bopI o i j St Q' := by
  cases o <;> simp only [bopI] at h ⊢ <;> first | exact hQ _ _ h | exact ⟨h.1, hQ _ _ h.2⟩
theorem bop_mono {o x y} (hQ : ∀ u S, Q u S → Q' u S) (h : bop o x y St Q) : bop o x y St Q' := by
  unfold bop at h ⊢
  split
  · exact bopI_mono hQ h
  · cases o <;> first | exact ⟨h.1, hQ _ _ h.2⟩ | exact h.elim
  · cases o <;> first | exact ⟨h.1, hQ _ _ h.2⟩ | exact h.elim
  · dsimp only at h ⊢
    split at h
    · exact ⟨h.1, hQ _ _ h.2⟩
    · exact h.elim
  · dsimp only at h ⊢
    split at h
    · exact ⟨h.1, hQ _ _ h.2⟩
    · exact h.elim
  · split at h <;> first | exact h | (exfalso; simp_all)
theorem idxp_mono {x i} (hQ : ∀ u S, Q u S → Q' u S) (h : idxp x i St Q) : idxp x i St Q' := by
  unfold idxp at h ⊢
  split
  · rename_i k
    dsimp only at h
    split
    · dsimp only at h
      split at h
      · exact hQ _ _ h
      · exact h.elim
    · dsimp only at h
      split at h
      · split at h
        · exact hQ _ _ h
        · exact h.elim
      · exact h.elim
    · dsimp only at h
      refine ⟨h.1, ?_⟩
      have h2 := h.2
      split at h2
      · exact hQ _ _ h2
      · exact h2.elim
    · split at h <;> first | exact h | (exfalso; simp_all)
  · split at h <;> first | exact h | (exfalso; simp_all)
theorem slcp_mono {x lo hi} (hQ : ∀ u S, Q u S → Q' u S) (h : slcp x lo hi St Q) : slcp x lo hi St Q' := by
  unfold slcp at h ⊢
  split
  · exact hQ _ _ h
  · dsimp only at h
    split at h
    · exact hQ _ _ h
    · exact h.elim
  · exact hQ _ _ h
  · exact ⟨h.1, hQ _ _ h.2⟩
  · split at h <;> first | exact h | (exfalso; simp_all)
theorem itemsp_mono {x} {P P' : List U → Prop} (hP : ∀ l, P l → P' l) (h : itemsp x St P) : itemsp x St P' := by
  unfold itemsp at h ⊢
  split
  · exact hP _ h
  · dsimp only at h
    split at h
    · exact hP _ h
    · exact h.elim
  · split at h <;> first | exact h | (exfalso; simp_all)
theorem listp_mono {x} {P P' : List U → Prop} (hP : ∀ l, P l → P' l) (h : listp x St P) : listp x St P' := by
  unfold listp at h ⊢
  split
  · dsimp only at h
    split at h
    · exact hP _ h
    · exact h.elim
  · split at h <;> first | exact h | (exfalso; simp_all)
theorem bip_mono {f us} (hQ : ∀ u S, Q u S → Q' u S) (h : bip f us St Q) : bip f us St Q' := by
  unfold bip at h ⊢
  split
  · exact ⟨h.1, hQ _ _ h.2⟩
  · rename_i x hx
    exact itemsp_mono (fun l q => hQ _ _ q) (by split at h <;> first | exact h | (rename_i heq; cases heq; exact h) | (exfalso; simp_all))
  · exact hQ _ _ h
  · exact hQ _ _ h
  · exact hQ _ _ h
  · refine listp_mono (fun l q => ?_) h
    split at q <;> first | exact hQ _ _ q | exact q.elim
  · refine listp_mono (fun l q => ?_) h
    split at q <;> first | exact hQ _ _ q | exact q.elim
  · refine listp_mono (fun l q => ?_) h
    split at q <;> first | exact hQ _ _ q | exact q.elim
  · exact hQ _ _ h
  · exact hQ _ _ h
  · exact ⟨h.1, hQ _ _ h.2⟩
  · exact itemsp_mono (fun l q => hQ _ _ q) h
  · exact itemsp_mono (fun l q => hQ _ _ q) h
  · split at h <;> first | exact h | (exfalso; simp_all)
theorem mep_mono {m x us} (hQ : ∀ u S, Q u S → Q' u S) (h : mep m x us St Q) : mep m x us St Q' := by
  unfold mep at h ⊢
  split
  · dsimp only at h
    split at h
    · exact ⟨h.1, hQ _ _ h.2⟩
    · exact h.elim
  · dsimp only at h
    split at h
    · exact ⟨h.1, hQ _ _ h.2⟩
    · exact h.elim
  · dsimp only at h
    split at h
    · split at h
      · exact hQ _ _ h
      · exact h.elim
    · exact h.elim
  · split at h <;> first | exact h | (exfalso; simp_all)
end
section
variable {Q Q' : Bool → Prop} {St : Sto}
theorem eqp_mono {x y} (hQ : ∀ b, Q b → Q' b) (h : eqp x y St Q) : eqp x y St Q' := by
  unfold eqp at h ⊢
  split
  · dsimp only at h
    split at h
    · exact ⟨h.1, hQ _ h.2⟩
    · exact h.elim
  · rename_i h1
    refine ⟨?_, hQ _ ?_⟩
    · split at h
      · exact absurd rfl (h1 _ _ rfl)
      · exact h.1
    · split at h
      · exact absurd rfl (h1 _ _ rfl)
      · exact h.2
theorem inp_mono {x y} (hQ : ∀ b, Q b → Q' b) (h : inp x y St Q) : inp x y St Q' := by
  unfold inp at h ⊢
  split
  · exact ⟨h.1, hQ _ h.2⟩
  · dsimp only at h
    split at h
    · exact ⟨h.1, hQ _ h.2⟩
    · exact h.elim
  · dsimp only at h
    split
    · dsimp only at h
      split at h
      · exact hQ _ h
      · exact h.elim
    · split at h <;> first | exact h | (exfalso; simp_all)
  · split at h <;> first | exact h | (exfalso; simp_all)
theorem cop_mono {o x y} (hQ : ∀ b, Q b → Q' b) (h : cop o x y St Q) : cop o x y St Q' := by
  cases o <;> simp only [cop] at h ⊢
  · exact eqp_mono hQ h
  · exact eqp_mono (fun b q => hQ _ q) h
  iterate 4
    · split at h
      · exact hQ _ h
      · exact h.elim
  · exact inp_mono hQ h
  · exact inp_mono (fun b q => hQ _ q) h
theorem tru_mono {u} (hQ : ∀ b, Q b → Q' b) (h : tru u St Q) : tru u St Q' := by
  unfold tru at h ⊢
  split
  · exact hQ _ h
  · exact hQ _ h
  · exact hQ _ h
  · exact ⟨h.1, hQ _ h.2⟩
  · exact hQ _ h
  · dsimp only at h
    split at h
    · exact hQ _ h
    · exact h.elim
  · split at h <;> first | exact h | (exfalso; simp_all)
theorem isip_mono {x t} (hQ : ∀ b, Q b → Q' b) (h : isip x t Q) : isip x t Q' := by
  unfold isip at h ⊢
  split <;> first | exact hQ _ h | (split at h <;> first | exact h | (exfalso; simp_all))
end
theorem setp_mono {o i v} {St : Sto} {Q Q' : Sto → Prop} (hQ : ∀ S, Q S → Q' S) (h : setp o i v St Q) : setp o i v St Q' := by
  unfold setp at h ⊢
  split
  · dsimp only at h
    split at h
    · split at h
      · exact hQ _ h
      · exact h.elim
    · exact h.elim
  · split at h <;> first | exact h | (exfalso; simp_all)

theorem lcL_mono {t t' : U → Sto → (Option U → Sto → Prop) → Prop} {grd : Sto → Prop} {Q Q' : List U → Sto → Prop} (ht : ∀ u St k k', (∀ o S, k o S → k' o S) → t u St k → t' u St k') (hQ : ∀ l S, Q l S → Q' l S) :
    ∀ (us acc : List U) (St : Sto), lcL t grd us acc St Q → lcL t' grd us acc St Q'
  | [], acc, St, h => ⟨h.1, hQ _ _ h.2⟩
  | u :: us, acc, St, h => ⟨h.1, ht _ _ _ _ (fun o S q => by
      cases o with
      | some v => exact ⟨q.1, lcL_mono ht hQ us _ _ q.2⟩
      | none => exact lcL_mono ht hQ us _ _ q) h.2⟩
theorem forL_mono {t t' : U → Sl → Sto → (Sl → Sto → Prop) → Prop} {grd : Sto → Prop} {Q Q' : Sl → Sto → Prop} (ht : ∀ u σ St k k', (∀ o S, k o S → k' o S) → t u σ St k → t' u σ St k') (hQ : ∀ l S, Q l S → Q' l S) :
    ∀ (us : List U) (σ : Sl) (St : Sto), forL t grd us σ St Q → forL t' grd us σ St Q'
  | [], σ, St, h => ⟨h.1, hQ _ _ h.2⟩
  | u :: us, σ, St, h => ⟨h.1, ht _ _ _ _ _ (fun o S q => forL_mono ht hQ us _ _ q) h.2⟩
theorem whlN_mono {t t' : Sl → Sto → (Bool → Sto → Prop) → Prop} {b b' : Sl → Sto → (Sl → Sto → Prop) → Prop} {nx nx' : Sl → Sto → Prop} (ht : ∀ σ St k k', (∀ o S, k o S → k' o S) → t σ St k → t' σ St k')
    (hb : ∀ σ St k k', (∀ o S, k o S → k' o S) → b σ St k → b' σ St k') (hQ : ∀ l S, nx l S → nx' l S) : ∀ (n : Nat) (σ : Sl) (St : Sto), whlN t b nx n σ St → whlN t' b' nx' n σ St
  | 0, σ, St, h => h.elim
  | n + 1, σ, St, h => ht _ _ _ _ (fun o S q => by
      cases o with
      | true => exact hb _ _ _ _ (fun σ' S' r => whlN_mono ht hb hQ n σ' S' r) q
      | false => exact hQ _ _ q) h


theorem slotp_mono {o : Option (Option U)} {k k' : U → Prop} (h : ∀ u, k u → k' u) (q : slotp o k) : slotp o k' := by
  unfold slotp at q ⊢; split at q
  · exact h _ q
  · exact q.elim
theorem intp_mono {u : U} {k k' : Int → Prop} (h : ∀ u, k u → k' u) (q : intp u k) : intp u k' := by
  cases u <;> first | exact h _ q | exact q.elim
theorem blp_mono {u : U} {k k' : Bool → Prop} (h : ∀ u, k u → k' u) (q : blp u k) : blp u k' := by
  cases u <;> first | exact h _ q | exact q.elim
theorem tupp_mono {u : U} {k k' : List U → Prop} (h : ∀ u, k u → k' u) (q : tupp u k) : tupp u k' := by
  cases u <;> first | exact h _ q | exact q.elim
theorem fnp_mono {u : U} {k k' : Str → Prop} (h : ∀ u, k u → k' u) (q : fnp u k) : fnp u k' := by
  cases u <;> first | exact h _ q | exact q.elim
theorem lstq_mono {u : U} {k k' : Prop} (h : k → k') (q : lstq u k) : lstq u k' := by
  cases u <;> first | exact h q | exact q.elim
theorem nilp_mono {u : List U} {k k' : Prop} (h : k → k') (q : nilp u k) : nilp u k' := by
  cases u <;> first | exact h q | exact q.elim
theorem consp_mono {u : List U} {k k' : U → List U → Prop} (h : ∀ u r, k u r → k' u r) (q : consp u k) : consp u k' := by
  cases u <;> first | exact h _ _ q | exact q.elim
theorem optp_mono {α : Type} {o : Option α} {k k' : α → Prop} (h : ∀ u, o = some u → k u → k' u) (q : optp o k) : optp o k' := by
  cases o with
  | none => exact q.elim
  | some a => exact h a rfl q
theorem optu_mono {o : Option U} {k k' : U → Prop} (h : ∀ u, k u → k' u) (q : optu o k) : optu o k' := by
  cases o with
  | none => exact q.elim
  | some a => exact h a q
theorem srcp_mono {f : List U → List U} {u : U} {St : Sto} {k k' : Src → Prop} (h : ∀ s, k s → k' s) (q : srcp f u St k) : srcp f u St k' := by
  unfold srcp at q ⊢
  split
  · exact h _ q
  · dsimp only at q
    split at q
    · exact h _ q
    · exact q.elim
  · split at q <;> first | exact q | (exfalso; simp_all)
theorem revp_mono {u : U} {St : Sto} {Q Q' : Ks} (h : ∀ u S, Q u S → Q' u S) (q : revp u St Q) : revp u St Q' := by
  unfold revp at q ⊢
  split
  · dsimp only at q
    split at q
    · exact h _ _ q
    · exact q.elim
  · split at q <;> first | exact q | (exfalso; simp_all)
theorem augp_mono {o x y} {St : Sto} {Q Q' : Ks} (hQ : ∀ u S, Q u S → Q' u S) (h : augp o x y St Q) : augp o x y St Q' := by
  unfold augp at h ⊢
  split
  · exact hQ _ _ h
  · exact hQ _ _ h
  · exact ⟨h.1, hQ _ _ h.2⟩
  · split at h <;> first | exact h | (exfalso; simp_all)
theorem ite_mono {c : Bool} {A B A' B' : Prop} (ha : A → A') (hb : B → B') (h : if c = true then A else B) : if c = true then A' else B' := by
  cases c with
  | true => exact ha h
  | false => exact hb h

def FMono (sp : FSpec) : Prop := ∀ us St Q Q' E E', (∀ u S, Q u S → Q' u S) → (∀ c p S, E c p S → E' c p S) → sp us St Q E → sp us St Q' E'
def GMono (G : Gm) : Prop := ∀ f sp, G.fns f = some sp → FMono sp

section
variable {G : Gm} (hG : GMono G)
include hG
mutual
theorem wpE_mono : ∀ (e : E) {X X' : ExS} {σ : Sl} {St : Sto} {Q Q' : Ks} (hX : ∀ c p σ S, X c p σ S → X' c p σ S) (hQ : ∀ u S, Q u S → Q' u S), wpE G e X σ St Q → wpE G e X' σ St Q'
  | .var i, X, X', σ, St, Q, Q', hX, hQ, h => by rw [wpE] at h ⊢; exact slotp_mono (fun u => hQ u _) h
  | .int i, X, X', σ, St, Q, Q', hX, hQ, h => by rw [wpE] at h ⊢; exact hQ _ _ h
  | .str i, X, X', σ, St, Q, Q', hX, hQ, h => by rw [wpE] at h ⊢; exact hQ _ _ h
  | .bl i, X, X', σ, St, Q, Q', hX, hQ, h => by rw [wpE] at h ⊢; exact hQ _ _ h
  | .non, X, X', σ, St, Q, Q', hX, hQ, h => by rw [wpE] at h ⊢; exact hQ _ _ h
  | .glob x, X, X', σ, St, Q, Q', hX, hQ, h => by rw [wpE] at h ⊢; exact optu_mono (fun u => hQ u _) h
  | .bop o a b, X, X', σ, St, Q, Q', hX, hQ, h => by
    rw [wpE] at h ⊢
    exact wpE_mono a hX (fun u S q => wpE_mono b hX (fun v S2 q2 => bop_mono hQ q2) q) h
  | .neg a, X, X', σ, St, Q, Q', hX, hQ, h => by
    rw [wpE] at h ⊢
    exact wpE_mono a hX (fun u S q => intp_mono (fun i => hQ _ _) q) h
  | .cmp o a b, X, X', σ, St, Q, Q', hX, hQ, h => by
    rw [wpE] at h ⊢
    exact wpE_mono a hX (fun u S q => wpE_mono b hX (fun v S2 q2 => cop_mono (fun b q3 => hQ _ _ q3) q2) q) h
  | .cmp2 o p a b c, X, X', σ, St, Q, Q', hX, hQ, h => by
    rw [wpE] at h ⊢
    exact wpE_mono a hX (fun u S q => wpE_mono b hX (fun v S2 q2 => cop_mono (fun d => ite_mono (wpE_mono c hX (fun w S3 q4 => cop_mono (fun b q5 => hQ _ _ q5) q4)) (hQ _ _)) q2) q) h
  | .isN a, X, X', σ, St, Q, Q', hX, hQ, h => by
    rw [wpE] at h ⊢
    exact wpE_mono a hX (fun u S q => hQ _ _ q) h
  | .notN a, X, X', σ, St, Q, Q', hX, hQ, h => by
    rw [wpE] at h ⊢
    exact wpE_mono a hX (fun u S q => hQ _ _ q) h
  | .andE a b, X, X', σ, St, Q, Q', hX, hQ, h => by
    rw [wpE] at h ⊢
    exact wpE_mono a hX (fun u S q => blp_mono (fun c => ite_mono (wpE_mono b hX hQ) (hQ _ _)) q) h
  | .orE a b, X, X', σ, St, Q, Q', hX, hQ, h => by
    rw [wpE] at h ⊢
    exact wpE_mono a hX (fun u S q => blp_mono (fun c => ite_mono (hQ _ _) (wpE_mono b hX hQ)) q) h
  | .notE a, X, X', σ, St, Q, Q', hX, hQ, h => by
    rw [wpE] at h ⊢
    exact wpE_mono a hX (fun u S q => blp_mono (fun c => hQ _ _) q) h
  | .tst a, X, X', σ, St, Q, Q', hX, hQ, h => by rw [wpE] at h; exact h.elim
  | .ite t a b, X, X', σ, St, Q, Q', hX, hQ, h => by
    rw [wpE] at h ⊢
    exact wpT_mono t hX (fun c S => ite_mono (wpE_mono a hX hQ) (wpE_mono b hX hQ)) h
  | .tup es, X, X', σ, St, Q, Q', hX, hQ, h => by
    rw [wpE] at h ⊢
    exact wpEs_mono es hX (fun us S q => ⟨q.1, hQ _ _ q.2⟩) h
  | .lst es, X, X', σ, St, Q, Q', hX, hQ, h => by
    rw [wpE] at h ⊢
    exact wpEs_mono es hX (fun us S q => ⟨q.1, hQ _ _ q.2⟩) h
  | .idx a b, X, X', σ, St, Q, Q', hX, hQ, h => by
    rw [wpE] at h ⊢
    exact wpE_mono a hX (fun u S q => wpE_mono b hX (fun v S2 q2 => idxp_mono hQ q2) q) h
  | .slc a lo hi, X, X', σ, St, Q, Q', hX, hQ, h => by
    rw [wpE] at h ⊢
    exact wpE_mono a hX (fun u S q => wpO_mono lo hX (fun l S2 q2 => wpO_mono hi hX (fun w S3 q3 => slcp_mono hQ q3) q2) q) h
  | .rev a, X, X', σ, St, Q, Q', hX, hQ, h => by
    rw [wpE] at h ⊢
    exact wpE_mono a hX (fun u S q => revp_mono hQ q) h
  | .call f es, X, X', σ, St, Q, Q', hX, hQ, h => by
    rw [wpE] at h ⊢
    exact optp_mono (fun sp hs => wpEs_mono es hX (fun us S => hG f sp hs _ _ _ _ _ _ hQ (fun c p S2 => hX c p σ S2))) h
  | .callL i es, X, X', σ, St, Q, Q', hX, hQ, h => by
    rw [wpE] at h ⊢
    exact slotp_mono (fun w => fnp_mono (fun f => optp_mono (fun sp hs => wpEs_mono es hX (fun us S => hG f sp hs _ _ _ _ _ _ hQ (fun c p S2 => hX c p σ S2))))) h
  | .bi f es, X, X', σ, St, Q, Q', hX, hQ, h => by
    rw [wpE] at h ⊢
    exact wpEs_mono es hX (fun us S q => bip_mono hQ q) h
  | .meth m a es, X, X', σ, St, Q, Q', hX, hQ, h => by
    rw [wpE] at h ⊢
    exact wpE_mono a hX (fun u S q => lstq_mono (wpEs_mono es hX (fun us S2 q2 => mep_mono hQ q2)) q) h
  | .isi a t, X, X', σ, St, Q, Q', hX, hQ, h => by
    rw [wpE] at h ⊢
    exact wpE_mono a hX (fun u S q => isip_mono (fun b q2 => hQ _ _ q2) q) h
  | .lc e t it c own, X, X', σ, St, Q, Q', hX, hQ, h => by
    rw [wpE] at h ⊢
    exact wpI_mono it hX (fun src S q => lcL_mono (fun u S2 k k' hk q2 => wpTg_mono t (fun _ _ _ _ z => z)
      (fun σ2 S3 q3 => wpC_mono c (fun _ _ _ _ z => z) (fun b S4 => ite_mono (wpE_mono e (fun _ _ _ _ z => z) (fun v S5 q5 => hk _ _ q5)) (hk _ _)) q3) q2) (fun acc S2 q2 => hQ _ _ q2) _ _ _ q) h
theorem wpEs_mono : ∀ (e : Es) {X X' : ExS} {σ : Sl} {St : Sto} {Q Q' : List U → Sto → Prop} (hX : ∀ c p σ S, X c p σ S → X' c p σ S) (hQ : ∀ u S, Q u S → Q' u S), wpEs G e X σ St Q → wpEs G e X' σ St Q'
  | .nil, X, X', σ, St, Q, Q', hX, hQ, h => by rw [wpEs] at h ⊢; exact hQ _ _ h
  | .cons e es, X, X', σ, St, Q, Q', hX, hQ, h => by
    rw [wpEs] at h ⊢
    exact wpE_mono e hX (fun u S q => wpEs_mono es hX (fun us S2 q2 => hQ _ _ q2) q) h
theorem wpO_mono : ∀ (e : Oe) {X X' : ExS} {σ : Sl} {St : Sto} {Q Q' : Option Int → Sto → Prop} (hX : ∀ c p σ S, X c p σ S → X' c p σ S) (hQ : ∀ u S, Q u S → Q' u S), wpO G e X σ St Q → wpO G e X' σ St Q'
  | .none, X, X', σ, St, Q, Q', hX, hQ, h => by rw [wpO] at h ⊢; exact hQ _ _ h
  | .some e, X, X', σ, St, Q, Q', hX, hQ, h => by
    rw [wpO] at h ⊢
    exact wpE_mono e hX (fun u S q => intp_mono (fun i => hQ _ _) q) h
theorem wpC_mono : ∀ (e : Oe) {X X' : ExS} {σ : Sl} {St : Sto} {Q Q' : Bool → Sto → Prop} (hX : ∀ c p σ S, X c p σ S → X' c p σ S) (hQ : ∀ u S, Q u S → Q' u S), wpC G e X σ St Q → wpC G e X' σ St Q'
  | .none, X, X', σ, St, Q, Q', hX, hQ, h => by rw [wpC] at h ⊢; exact hQ _ _ h
  | .some e, X, X', σ, St, Q, Q', hX, hQ, h => by
    rw [wpC] at h ⊢
    exact wpT_mono e hX hQ h
theorem wpT_mono : ∀ (e : E) {X X' : ExS} {σ : Sl} {St : Sto} {Q Q' : Bool → Sto → Prop} (hX : ∀ c p σ S, X c p σ S → X' c p σ S) (hQ : ∀ u S, Q u S → Q' u S), wpT G e X σ St Q → wpT G e X' σ St Q'
  | .andE a b, X, X', σ, St, Q, Q', hX, hQ, h => by
    rw [wpT] at h ⊢
    exact wpT_mono a hX (fun c S => ite_mono (wpT_mono b hX hQ) (hQ _ _)) h
  | .orE a b, X, X', σ, St, Q, Q', hX, hQ, h => by
    rw [wpT] at h ⊢
    exact wpT_mono a hX (fun c S => ite_mono (hQ _ _) (wpT_mono b hX hQ)) h
  | .notE a, X, X', σ, St, Q, Q', hX, hQ, h => by
    rw [wpT] at h ⊢
    exact wpT_mono a hX (fun c S q => hQ _ _ q) h
  | .tst e, X, X', σ, St, Q, Q', hX, hQ, h => by
    rw [wpT] at h ⊢
    exact wpE_mono e hX (fun u S q => tru_mono (fun b q2 => hQ _ _ q2) q) h
  | .var i, X, X', σ, St, Q, Q', hX, hQ, h => by simp only [wpT] at h
  | .int i, X, X', σ, St, Q, Q', hX, hQ, h => by simp only [wpT] at h
  | .str i, X, X', σ, St, Q, Q', hX, hQ, h => by simp only [wpT] at h
  | .bl i, X, X', σ, St, Q, Q', hX, hQ, h => by simp only [wpT] at h
  | .non, X, X', σ, St, Q, Q', hX, hQ, h => by simp only [wpT] at h
  | .glob x, X, X', σ, St, Q, Q', hX, hQ, h => by simp only [wpT] at h
  | .bop o a b, X, X', σ, St, Q, Q', hX, hQ, h => by simp only [wpT] at h
  | .neg a, X, X', σ, St, Q, Q', hX, hQ, h => by simp only [wpT] at h
  | .cmp o a b, X, X', σ, St, Q, Q', hX, hQ, h => by simp only [wpT] at h
  | .cmp2 o p a b c, X, X', σ, St, Q, Q', hX, hQ, h => by simp only [wpT] at h
  | .isN a, X, X', σ, St, Q, Q', hX, hQ, h => by simp only [wpT] at h
  | .notN a, X, X', σ, St, Q, Q', hX, hQ, h => by simp only [wpT] at h
  | .ite t a b, X, X', σ, St, Q, Q', hX, hQ, h => by simp only [wpT] at h
  | .tup es, X, X', σ, St, Q, Q', hX, hQ, h => by simp only [wpT] at h
  | .lst es, X, X', σ, St, Q, Q', hX, hQ, h => by simp only [wpT] at h
  | .idx a i, X, X', σ, St, Q, Q', hX, hQ, h => by simp only [wpT] at h
  | .slc a lo hi, X, X', σ, St, Q, Q', hX, hQ, h => by simp only [wpT] at h
  | .rev a, X, X', σ, St, Q, Q', hX, hQ, h => by simp only [wpT] at h
  | .call f es, X, X', σ, St, Q, Q', hX, hQ, h => by simp only [wpT] at h
  | .callL i es, X, X', σ, St, Q, Q', hX, hQ, h => by simp only [wpT] at h
  | .bi f es, X, X', σ, St, Q, Q', hX, hQ, h => by simp only [wpT] at h
  | .meth m a es, X, X', σ, St, Q, Q', hX, hQ, h => by simp only [wpT] at h
  | .isi a t, X, X', σ, St, Q, Q', hX, hQ, h => by simp only [wpT] at h
  | .lc e t it c own, X, X', σ, St, Q, Q', hX, hQ, h => by simp only [wpT] at h
theorem wpTg_mono : ∀ (t : T) {X X' : ExS} {u : U} {σ : Sl} {St : Sto} {Q Q' : Sl → Sto → Prop} (hX : ∀ c p σ S, X c p σ S → X' c p σ S) (hQ : ∀ u S, Q u S → Q' u S), wpTg G t X u σ St Q → wpTg G t X' u σ St Q'
  | .name i, X, X', u, σ, St, Q, Q', hX, hQ, h => by rw [wpTg] at h ⊢; exact hQ _ _ h
  | .tup ts, X, X', u, σ, St, Q, Q', hX, hQ, h => by
    rw [wpTg] at h ⊢
    exact tupp_mono (fun l q => ⟨q.1, wpTs_mono ts hX hQ q.2⟩) h
  | .sub o i, X, X', u, σ, St, Q, Q', hX, hQ, h => by
    rw [wpTg] at h ⊢
    exact wpE_mono o hX (fun x S q => wpE_mono i hX (fun y S2 q2 => setp_mono (fun S3 q3 => hQ _ _ q3) q2) q) h
theorem wpTs_mono : ∀ (t : Ts) {X X' : ExS} {u : List U} {σ : Sl} {St : Sto} {Q Q' : Sl → Sto → Prop} (hX : ∀ c p σ S, X c p σ S → X' c p σ S) (hQ : ∀ u S, Q u S → Q' u S), wpTs G t X u σ St Q → wpTs G t X' u σ St Q'
  | .nil, X, X', u, σ, St, Q, Q', hX, hQ, h => by
    rw [wpTs] at h ⊢
    exact nilp_mono (hQ _ _) h
  | .cons t ts, X, X', u, σ, St, Q, Q', hX, hQ, h => by
    rw [wpTs] at h ⊢
    exact consp_mono (fun u r => wpTg_mono t hX (fun σ1 S1 q => wpTs_mono ts hX hQ q)) h
theorem wpI_mono : ∀ (t : It) {X X' : ExS} {σ : Sl} {St : Sto} {Q Q' : Src → Sto → Prop} (hX : ∀ c p σ S, X c p σ S → X' c p σ S) (hQ : ∀ u S, Q u S → Q' u S), wpI G t X σ St Q → wpI G t X' σ St Q'
  | .seq a, X, X', σ, St, Q, Q', hX, hQ, h => by
    rw [wpI] at h ⊢
    exact wpE_mono a hX (fun u S q => srcp_mono (fun s => hQ _ _) q) h
  | .rng1 a, X, X', σ, St, Q, Q', hX, hQ, h => by
    rw [wpI] at h ⊢
    exact wpE_mono a hX (fun u S q => intp_mono (fun i q => ⟨q.1, hQ _ _ q.2⟩) q) h
  | .rng2 a b, X, X', σ, St, Q, Q', hX, hQ, h => by
    rw [wpI] at h ⊢
    exact wpE_mono a hX (fun u S q => wpE_mono b hX (fun v S2 q2 => intp_mono (fun i q => intp_mono (fun j q => ⟨q.1, hQ _ _ q.2⟩) q) q2) q) h
  | .enm a, X, X', σ, St, Q, Q', hX, hQ, h => by
    rw [wpI] at h ⊢
    exact wpE_mono a hX (fun u S q => srcp_mono (fun s => hQ _ _) q) h
  | .down a, X, X', σ, St, Q, Q', hX, hQ, h => by
    rw [wpI] at h ⊢
    exact wpE_mono a hX (fun u S q => intp_mono (fun i q => ⟨q.1, hQ _ _ q.2⟩) q) h
end
end
structure En.Le (D D' : En) : Prop where
  nx : ∀ σ S, D.nx σ S → D'.nx σ S
  rt : ∀ u S, D.rt u S → D'.rt u S
  bk : ∀ σ S, D.bk σ S → D'.bk σ S
  ct : ∀ σ S, D.ct σ S → D'.ct σ S
section
variable {G : Gm} (hG : GMono G)
include hG
mutual
theorem wpS_mono : ∀ (s : S) {X X' : ExS} {D D' : En} {σ : Sl} {St : Sto} (hX : ∀ c p σ S, X c p σ S → X' c p σ S) (hD : D.Le D'), wpS G s X D σ St → wpS G s X' D' σ St
  | .asg t e, X, X', D, D', σ, St, hX, hD, h => by
    rw [wpS] at h ⊢
    exact wpE_mono hG e hX (fun u S q => wpTg_mono hG t hX hD.nx q) h
  | .setlc i e, X, X', D, D', σ, St, hX, hD, h => by
    rw [wpS] at h ⊢
    exact wpE_mono hG e hX (fun u S q => hD.nx _ _ q) h
  | .par i j a b, X, X', D, D', σ, St, hX, hD, h => by
    rw [wpS] at h ⊢
    exact wpE_mono hG a hX (fun u S q => wpE_mono hG b hX (fun v S2 q2 => hD.nx _ _ q2) q) h
  | .aug i o e, X, X', D, D', σ, St, hX, hD, h => by
    rw [wpS] at h ⊢
    exact slotp_mono (fun x => wpE_mono hG e hX (fun u S q => augp_mono (fun v S2 q2 => hD.nx _ _ q2) q)) h
  | .ret e, X, X', D, D', σ, St, hX, hD, h => by rw [wpS] at h ⊢; exact wpE_mono hG e hX hD.rt h
  | .retN, X, X', D, D', σ, St, hX, hD, h => by rw [wpS] at h ⊢; exact hD.rt _ _ h
  | .ifs t a b, X, X', D, D', σ, St, hX, hD, h => by
    rw [wpS] at h ⊢
    exact wpT_mono hG t hX (fun c S => ite_mono (wpSs_mono a hX hD) (wpSs_mono b hX hD)) h
  | .fors t it b, X, X', D, D', σ, St, hX, hD, h => by
    rw [wpS] at h ⊢
    refine wpI_mono hG it hX (fun src S q => ?_) h
    exact forL_mono (fun u σ1 S2 k k' hk q2 => wpTg_mono hG t hX (fun σ2 S3 q3 => wpSs_mono b hX (D := { nx := k, rt := D.rt, bk := D.nx, ct := k }) (D' := { nx := k', rt := D'.rt, bk := D'.nx, ct := k' }) ⟨hk, hD.rt, hD.nx, hk⟩ q3) q2) hD.nx _ _ _ q
  | .whl t b, X, X', D, D', σ, St, hX, hD, h => by
    rw [wpS] at h ⊢
    obtain ⟨n, h⟩ := h
    refine ⟨n, whlN_mono (fun σ1 S1 k k' hk q => ?_) (fun σ1 S1 k k' hk q => ?_) hD.nx n σ St h⟩
    · exact wpT_mono hG t hX hk q
    · exact wpSs_mono b hX (D := { nx := k, rt := D.rt, bk := D.nx, ct := k }) (D' := { nx := k', rt := D'.rt, bk := D'.nx, ct := k' }) ⟨hk, hD.rt, hD.nx, hk⟩ q
  | .ex e, X, X', D, D', σ, St, hX, hD, h => by
    rw [wpS] at h ⊢
    exact wpE_mono hG e hX (fun u S q => hD.nx _ _ q) h
  | .doc, X, X', D, D', σ, St, hX, hD, h => by rw [wpS] at h ⊢; exact hD.nx _ _ h
  | .raise c m, X, X', D, D', σ, St, hX, hD, h => by rw [wpS] at h ⊢; exact hX _ _ _ _ h
  | .pass, X, X', D, D', σ, St, hX, hD, h => by rw [wpS] at h ⊢; exact hD.nx _ _ h
  | .brk, X, X', D, D', σ, St, hX, hD, h => by rw [wpS] at h ⊢; exact hD.bk _ _ h
  | .cont, X, X', D, D', σ, St, hX, hD, h => by rw [wpS] at h ⊢; exact hD.ct _ _ h
  | .nev, X, X', D, D', σ, St, hX, hD, h => by rw [wpS] at h; exact h.elim
theorem wpSs_mono : ∀ (s : Ss) {X X' : ExS} {D D' : En} {σ : Sl} {St : Sto} (hX : ∀ c p σ S, X c p σ S → X' c p σ S) (hD : D.Le D'), wpSs G s X D σ St → wpSs G s X' D' σ St
  | .nil, X, X', D, D', σ, St, hX, hD, h => by rw [wpSs] at h ⊢; exact hD.nx _ _ h
  | .cons s ss, X, X', D, D', σ, St, hX, hD, h => by
    rw [wpSs] at h ⊢
    exact wpS_mono s hX (D := { D with nx := fun σ1 S1 => wpSs G ss X D σ1 S1 }) ⟨fun σ1 S1 q => wpSs_mono ss hX hD q, hD.rt, hD.bk, hD.ct⟩ h
end
end
end Q

set_option Elab.async false
set_option linter.all false
set_option maxRecDepth 100000
set_option maxHeartbeats 4000000
/-! QRep: how plain values and stores lie in the abstract heap of HandS. -/
namespace Q
open PySem PySem.Spec PyProof.Rows L2

/-- the module: the written part, the globals -/
structure Md where
  K : PySem.W.Frag
  mg : Str → Option Value
variable (M : Md)

mutual
def Rep (μ : List Addr) (H : Hp) : U → V → Prop
  | .non, v => v = .non
  | .bl b, v => v = .bl b
  | .int i, v => v = .int i
  | .str s, v => v = .str s
  | .tup l, v => ∃ a vs, v = .ref a ∧ SqT M.K H a vs ∧ RepL μ H l vs
  | .lst n, v => ∃ a, v = .ref a ∧ μ[n]? = some a
  | .fn f, v => ∃ a, v = .ref a ∧ M.mg f = some (.ref a)
  | .cls f, v => ∃ a, v = .ref a ∧ M.mg f = some (.ref a)
  | .ty n, v => v = .ty n
  | .scr l, v => ∃ a, v = .ref a ∧ ((∃ o, H a = some (.frz o (.lst (l.map V.int)))) ∨ SqL M.K (fun _ => none) a (l.map V.int))
def RepL (μ : List Addr) (H : Hp) : List U → List V → Prop
  | [], vs => vs = []
  | u :: us, vs => ∃ v r, vs = v :: r ∧ Rep μ H u v ∧ RepL μ H us r
end

def CellOk (μ : List Addr) (H : Hp) (a : Addr) : Cell → Prop
  | .lst l => ∃ vs, H a = some (.lst vs) ∧ RepL M μ H l vs
structure StoreOk (μ : List Addr) (H : Hp) (St : Sto) : Prop where
  len : μ.length = St.length
  nd : μ.Nodup
  cell : ∀ (n : Nat) (c : Cell), St[n]? = some c → ∃ a, μ[n]? = some a ∧ CellOk M μ H a c

structure Step (μ : List Addr) (H : Hp) (μ' : List Addr) (H' : Hp) : Prop where
  pre : ∃ t, μ' = μ ++ t
  new : ∀ a ∈ μ', a ∈ μ ∨ H a = none
  keep : ∀ a o, H a = some o → a ∉ μ → H' a = some o
  tr : ∀ a, H' a = none → H a = none

theorem Step.refl (μ : List Addr) (H : Hp) : Step μ H μ H := ⟨⟨[], by simp⟩, fun _ h => .inl h, fun _ _ h _ => h, fun _ h => h⟩
theorem Step.trans {μ μ1 μ2 : List Addr} {H H1 H2 : Hp} (a : Step μ H μ1 H1) (b : Step μ1 H1 μ2 H2) : Step μ H μ2 H2 where
  pre := by
    obtain ⟨t, rfl⟩ := a.pre
    obtain ⟨r, rfl⟩ := b.pre
    exact ⟨t ++ r, by simp⟩
  new := fun x hx => by
    rcases b.new x hx with h | h
    · exact a.new x h
    · exact .inr (a.tr x h)
  keep := fun x o h n => by
    refine b.keep x o (a.keep x o h n) fun z => ?_
    rcases a.new x z with q | q
    · exact n q
    · rw [h] at q; cases q
  tr := fun x h => a.tr x (b.tr x h)
theorem Step.get {μ μ1 : List Addr} {H H1 : Hp} (a : Step μ H μ1 H1) {n : Nat} {x : Addr} (h : μ[n]? = some x) : μ1[n]? = some x := by
  obtain ⟨t, rfl⟩ := a.pre
  obtain ⟨hn, _⟩ := List.getElem?_eq_some_iff.mp h
  rw [List.getElem?_append_left hn]; exact h

variable {M}
theorem StoreOk.mem {μ : List Addr} {H : Hp} {St : Sto} (s : StoreOk M μ H St) {a : Addr} (h : a ∈ μ) : ∃ vs, H a = some (.lst vs) := by
  obtain ⟨n, hn, e⟩ := List.mem_iff_getElem.mp h
  have h2 : n < St.length := by rw [← s.len]; exact hn
  obtain ⟨b, hb, c⟩ := s.cell n St[n] (List.getElem?_eq_getElem h2)
  rw [List.getElem?_eq_getElem hn, e] at hb
  cases hb
  cases hc : St[n] with
  | lst l => rw [hc] at c; obtain ⟨vs, h, _⟩ := c; exact ⟨vs, h⟩
theorem StoreOk.of {μ : List Addr} {H : Hp} {St : Sto} (s : StoreOk M μ H St) {n : Nat} {a : Addr} {l : List U} (h1 : μ[n]? = some a) (h2 : St[n]? = some (.lst l)) : ∃ vs, H a = some (.lst vs) ∧ RepL M μ H l vs := by
  obtain ⟨b, hb, c⟩ := s.cell n _ h2
  rw [h1] at hb; cases hb
  exact c
theorem StoreOk.at {μ : List Addr} {H : Hp} {St : Sto} (s : StoreOk M μ H St) {n : Nat} {l : List U} (h2 : St[n]? = some (.lst l)) : ∃ a vs, μ[n]? = some a ∧ H a = some (.lst vs) ∧ RepL M μ H l vs := by
  obtain ⟨b, hb, vs, h, r⟩ := s.cell n _ h2
  exact ⟨b, vs, hb, h, r⟩


/-- the store's addresses hold lists -/
def Lsts (μ : List Addr) (H : Hp) : Prop := ∀ a ∈ μ, ∃ vs, H a = some (.lst vs)
theorem StoreOk.lsts {μ : List Addr} {H : Hp} {St : Sto} (s : StoreOk M μ H St) : Lsts μ H := fun _ h => s.mem h

section
variable {μ μ' : List Addr} {H H' : Hp}
theorem sqT_mono (k : Step μ H μ' H') (hl : Lsts μ H) {a : Addr} {vs : List V} (h : SqT M.K H a vs) : SqT M.K H' a vs := by
  have np : ∀ {o : HO}, H a = some o → (∀ x, o ≠ .lst x) → a ∉ μ := fun {o} e n z => by
    obtain ⟨vs, q⟩ := hl a z
    rw [e] at q; cases q
    exact n _ rfl
  rcases h with (h | ⟨o, h⟩) | h
  · exact .inl (.inl (k.keep a _ h (np h fun x z => by cases z)))
  · exact .inl (.inr ⟨o, k.keep a _ h (np h fun x z => by cases z)⟩)
  · exact .inr h
mutual
theorem rep_mono (k : Step μ H μ' H') (hl : Lsts μ H) : ∀ (u : U) (v : V), Rep M μ H u v → Rep M μ' H' u v
  | .non, v, h => by simpa [Rep] using h
  | .bl b, v, h => by simpa [Rep] using h
  | .int b, v, h => by simpa [Rep] using h
  | .str b, v, h => by simpa [Rep] using h
  | .ty b, v, h => by simpa [Rep] using h
  | .fn b, v, h => by simpa [Rep] using h
  | .cls b, v, h => by simpa [Rep] using h
  | .tup l, v, h => by
    rw [Rep] at h ⊢
    obtain ⟨a, vs, e, q, r⟩ := h
    exact ⟨a, vs, e, sqT_mono k hl q, repL_mono k hl l vs r⟩
  | .lst n, v, h => by
    rw [Rep] at h ⊢
    obtain ⟨a, e, q⟩ := h
    exact ⟨a, e, k.get q⟩
  | .scr l, v, h => by
    rw [Rep] at h ⊢
    obtain ⟨a, e, q⟩ := h
    refine ⟨a, e, ?_⟩
    rcases q with ⟨o, q⟩ | q
    · refine .inl ⟨o, k.keep a _ q fun z => ?_⟩
      obtain ⟨vs, q'⟩ := hl a z
      rw [q] at q'; cases q'
    · exact .inr q
theorem repL_mono (k : Step μ H μ' H') (hl : Lsts μ H) : ∀ (us : List U) (vs : List V), RepL M μ H us vs → RepL M μ' H' us vs
  | [], vs, h => by simpa [RepL] using h
  | u :: us, vs, h => by
    rw [RepL] at h ⊢
    obtain ⟨v, r, e, q1, q2⟩ := h
    exact ⟨v, r, e, rep_mono k hl u v q1, repL_mono k hl us r q2⟩
end
theorem RepL.length : ∀ {us : List U} {vs : List V}, RepL M μ H us vs → us.length = vs.length
  | [], vs, h => by rw [RepL] at h; subst h; rfl
  | u :: us, vs, h => by
    rw [RepL] at h
    obtain ⟨v, r, e, q1, q2⟩ := h
    rw [e, List.length_cons, List.length_cons, RepL.length q2]
theorem RepL.cons {u : U} {v : V} {us : List U} {vs : List V} (h : Rep M μ H u v) (r : RepL M μ H us vs) : RepL M μ H (u :: us) (v :: vs) := by
  rw [RepL]; exact ⟨v, vs, rfl, h, r⟩
theorem RepL.nil : RepL M μ H [] [] := by rw [RepL]
theorem RepL.append : ∀ {us ws : List U} {vs xs : List V}, RepL M μ H us vs → RepL M μ H ws xs → RepL M μ H (us ++ ws) (vs ++ xs)
  | [], ws, vs, xs, h, g => by rw [RepL] at h; subst h; exact g
  | u :: us, ws, vs, xs, h, g => by
    rw [RepL] at h
    obtain ⟨v, r, e, q1, q2⟩ := h
    subst e
    exact RepL.cons q1 (RepL.append q2 g)
theorem RepL.get : ∀ {us : List U} {vs : List V} {i : Nat} {u : U}, RepL M μ H us vs → us[i]? = some u → ∃ v, vs[i]? = some v ∧ Rep M μ H u v
  | [], _, _, _, _, e => by simp at e
  | u :: us, vs, 0, w, h, e => by
    rw [RepL] at h
    obtain ⟨v, r, e1, q1, q2⟩ := h
    subst e1
    simp at e; subst e
    exact ⟨v, rfl, q1⟩
  | u :: us, vs, i + 1, w, h, e => by
    rw [RepL] at h
    obtain ⟨v, r, e1, q1, q2⟩ := h
    subst e1
    obtain ⟨x, a, b⟩ := RepL.get (i := i) q2 (by simpa using e)
    exact ⟨x, by simpa using a, b⟩
theorem RepL.set {u : U} {v : V} (g : Rep M μ H u v) : ∀ {us : List U} {vs : List V} (i : Nat), RepL M μ H us vs → RepL M μ H (us.set i u) (vs.set i v)
  | [], vs, i, h => by rw [RepL] at h; subst h; exact RepL.nil
  | w :: us, vs, 0, h => by
    rw [RepL] at h
    obtain ⟨x, r, e1, q1, q2⟩ := h
    subst e1
    exact RepL.cons g q2
  | w :: us, vs, i + 1, h => by
    rw [RepL] at h
    obtain ⟨x, r, e1, q1, q2⟩ := h
    subst e1
    exact RepL.cons q1 (RepL.set g i q2)
theorem RepL.take : ∀ {us : List U} {vs : List V} (n : Nat), RepL M μ H us vs → RepL M μ H (us.take n) (vs.take n)
  | _, _, 0, _ => by rw [List.take_zero, List.take_zero]; exact RepL.nil
  | [], vs, n + 1, h => by rw [RepL] at h; subst h; exact RepL.nil
  | w :: us, vs, n + 1, h => by
    rw [RepL] at h
    obtain ⟨x, r, e1, q1, q2⟩ := h
    subst e1
    exact RepL.cons q1 (RepL.take n q2)
theorem RepL.drop : ∀ {us : List U} {vs : List V} (n : Nat), RepL M μ H us vs → RepL M μ H (us.drop n) (vs.drop n)
  | _, _, 0, h => by rw [List.drop_zero, List.drop_zero]; exact h
  | [], vs, n + 1, h => by rw [RepL] at h; subst h; exact RepL.nil
  | w :: us, vs, n + 1, h => by
    rw [RepL] at h
    obtain ⟨x, r, e1, q1, q2⟩ := h
    subst e1
    exact RepL.drop n q2
theorem RepL.dropLast : ∀ {us : List U} {vs : List V}, RepL M μ H us vs → RepL M μ H us.dropLast vs.dropLast := fun {us vs} h => by
  rw [List.dropLast_eq_take, List.dropLast_eq_take, h.length]; exact h.take _
theorem RepL.reverse : ∀ {us : List U} {vs : List V}, RepL M μ H us vs → RepL M μ H us.reverse vs.reverse
  | [], vs, h => by rw [RepL] at h; subst h; exact RepL.nil
  | w :: us, vs, h => by
    rw [RepL] at h
    obtain ⟨x, r, e1, q1, q2⟩ := h
    subst e1
    rw [List.reverse_cons, List.reverse_cons]
    exact RepL.append (RepL.reverse q2) (RepL.cons q1 RepL.nil)
theorem RepL.ints : ∀ {us : List U} {vs : List V} {ns : List Int}, RepL M μ H us vs → intsU us = some ns → vs = ns.map V.int
  | [], vs, ns, h, e => by rw [RepL] at h; subst h; cases e; rfl
  | u :: us, vs, ns, h, e => by
    rw [RepL] at h
    obtain ⟨v, r, e1, q1, q2⟩ := h
    subst e1
    cases u with
    | int i =>
      rw [intsU] at e
      obtain ⟨ms, em, e2⟩ := Option.map_eq_some_iff.mp e
      subst e2
      rw [Rep] at q1
      subst q1
      rw [RepL.ints q2 em]; rfl
    | _ => rw [intsU] at e <;> first | cases e | (intro i z; cases z)
theorem RepL.bls : ∀ {us : List U} {vs : List V} {ns : List Bool}, RepL M μ H us vs → blsU us = some ns → vs = ns.map V.bl
  | [], vs, ns, h, e => by rw [RepL] at h; subst h; cases e; rfl
  | u :: us, vs, ns, h, e => by
    rw [RepL] at h
    obtain ⟨v, r, e1, q1, q2⟩ := h
    subst e1
    cases u with
    | bl i =>
      rw [blsU] at e
      obtain ⟨ms, em, e2⟩ := Option.map_eq_some_iff.mp e
      subst e2
      rw [Rep] at q1
      subst q1
      rw [RepL.bls q2 em]; rfl
    | _ => rw [blsU] at e <;> first | cases e | (intro i z; cases z)
theorem RepL.of_ints : ∀ (ns : List Int), RepL M μ H (ns.map U.int) (ns.map V.int)
  | [] => RepL.nil
  | n :: ns => RepL.cons (by rw [Rep]) (RepL.of_ints ns)
end

/-! ### steps of the store -/
section
variable {μ : List Addr} {H : Hp} {St : Sto}
/-- a new tuple (or any thing that is no list of the store) -/
theorem Step.laid {p : Addr} {o : HO} (hp : H p = none) : Step μ H μ (upd H p o) where
  pre := ⟨[], by simp⟩
  new := fun _ h => .inl h
  keep := fun a q e _ => by rw [upd_ne (ne_of_none e hp)]; exact e
  tr := fun a e => by
    by_cases h : a = p
    · rw [h]; exact hp
    · rw [upd_ne h] at e; exact e
theorem StoreOk.mono {μ' : List Addr} {H' : Hp} (s : StoreOk M μ H St) (k : Step μ H μ' H') (e : μ' = μ) (hs : ∀ a ∈ μ, H' a = H a) : StoreOk M μ' H' St := by
  subst e
  refine ⟨s.len, s.nd, fun n c h => ?_⟩
  obtain ⟨a, ha, q⟩ := s.cell n c h
  refine ⟨a, ha, ?_⟩
  cases c with
  | lst l =>
    obtain ⟨vs, h1, h2⟩ := q
    exact ⟨vs, by rw [hs a (List.mem_of_getElem? ha)]; exact h1, repL_mono k s.lsts _ _ h2⟩
theorem StoreOk.laid {p : Addr} {o : HO} (s : StoreOk M μ H St) (hp : H p = none) : StoreOk M μ (upd H p o) St :=
  s.mono (Step.laid hp) rfl fun a ha => by
    obtain ⟨vs, e⟩ := s.mem ha
    exact upd_ne (ne_of_none e hp)
/-- a new list -/
theorem Step.put {p : Addr} {o : HO} (hp : H p = none) : Step μ H (μ ++ [p]) (upd H p o) where
  pre := ⟨[p], rfl⟩
  new := fun a h => by
    rcases List.mem_append.mp h with h | h
    · exact .inl h
    · have : a = p := by simpa using h
      rw [this]; exact .inr hp
  keep := fun a q e _ => by rw [upd_ne (ne_of_none e hp)]; exact e
  tr := fun a e => by
    by_cases h : a = p
    · rw [h]; exact hp
    · rw [upd_ne h] at e; exact e
theorem StoreOk.put {p : Addr} {l : List U} {vs : List V} (s : StoreOk M μ H St) (hp : H p = none) (r : RepL M μ H l vs) : StoreOk M (μ ++ [p]) (upd H p (.lst vs)) (St ++ [.lst l]) := by
  have hn : p ∉ μ := fun h => by obtain ⟨x, e⟩ := s.mem h; rw [hp] at e; cases e
  have k : Step μ H (μ ++ [p]) (upd H p (.lst vs)) := Step.put hp
  refine ⟨by simp [s.len], ?_, fun n c h => ?_⟩
  · rw [List.nodup_append]
    exact ⟨s.nd, by simp, fun a ha b hb => by have : b = p := by simpa using hb
                                              subst this; intro z; subst z; exact hn ha⟩
  · by_cases hlt : n < St.length
    · rw [List.getElem?_append_left hlt] at h
      obtain ⟨a, ha, q⟩ := s.cell n c h
      refine ⟨a, k.get ha, ?_⟩
      cases c with
      | lst l' =>
        obtain ⟨ws, h1, h2⟩ := q
        exact ⟨ws, by rw [upd_ne (ne_of_none h1 hp)]; exact h1, repL_mono k s.lsts _ _ h2⟩
    · have hn2 : n < (St ++ [Cell.lst l]).length := (List.getElem?_eq_some_iff.mp h).1
      simp at hn2
      have e : n = St.length := by omega
      subst e
      simp at h
      subst h
      refine ⟨p, by rw [← s.len]; simp, vs, upd_same, repL_mono k s.lsts _ _ r⟩
/-- a list written -/
theorem Step.wr {a : Addr} {o : HO} (ha : a ∈ μ) : Step μ H μ (upd H a o) where
  pre := ⟨[], by simp⟩
  new := fun _ h => .inl h
  keep := fun b q e n => by
    rw [upd_ne (show b ≠ a from fun z => n (by rw [z]; exact ha))]; exact e
  tr := fun b e => by
    by_cases h : b = a
    · rw [h, upd_same] at e; cases e
    · rw [upd_ne h] at e; exact e
theorem StoreOk.wr {a : Addr} {n : Nat} {l : List U} {vs : List V} (s : StoreOk M μ H St) (ha : μ[n]? = some a) (r : RepL M μ H l vs) : StoreOk M μ (upd H a (.lst vs)) (St.set n (.lst l)) := by
  have k : Step μ H μ (upd H a (.lst vs)) := Step.wr (List.mem_of_getElem? ha)
  refine ⟨by simp [s.len], s.nd, fun m c h => ?_⟩
  by_cases e : n = m
  · subst e
    have hlt : n < St.length := by
      have := (List.getElem?_eq_some_iff.mp h).1
      simpa using this
    rw [List.getElem?_set_self hlt] at h
    cases h
    exact ⟨a, ha, vs, upd_same, repL_mono k s.lsts _ _ r⟩
  · rw [List.getElem?_set_ne e] at h
    obtain ⟨b, hb, q⟩ := s.cell m c h
    refine ⟨b, hb, ?_⟩
    have nb : b ≠ a := fun z => by
      subst z
      obtain ⟨h1, e1⟩ := List.getElem?_eq_some_iff.mp ha
      obtain ⟨h2, e2⟩ := List.getElem?_eq_some_iff.mp hb
      exact e ((List.getElem_inj s.nd).mp (e1.trans e2.symm))
    cases c with
    | lst l' =>
      obtain ⟨ws, h1, h2⟩ := q
      exact ⟨ws, by rw [upd_ne nb]; exact h1, repL_mono k s.lsts _ _ h2⟩
end
end Q

set_option Elab.async false
set_option linter.all false
set_option maxRecDepth 100000
set_option maxHeartbeats 4000000
/-! QOps: the operations on represented values. -/
namespace Q
open PySem PySem.Spec PyProof.Rows L2

/-- what is wanted of a value, told of the heap -/
def Aft (M : Md) (μ : List Addr) (H : Hp) (Q : VK) : Ks := fun w S2 => ∀ μ2 H2 z, Step μ H μ2 H2 → StoreOk M μ2 H2 S2 → Rep M μ2 H2 w z → Q z H2
def AftB (M : Md) (μ : List Addr) (H : Hp) (St : Sto) (Q : VK) : Bool → Prop := fun b => Q (.bl b) H

theorem Aft.same {M : Md} {μ : List Addr} {H : Hp} {Q : VK} {w : U} {St : Sto} (h : Aft M μ H Q w St) (s : StoreOk M μ H St) {z : V} (r : Rep M μ H w z) : Q z H := h μ H z (Step.refl _ _) s r
theorem Aft.new {M : Md} {μ : List Addr} {H : Hp} {Q : VK} {St : Sto} {l : List U} (h : Aft M μ H Q (.lst St.length) (St ++ [.lst l])) (s : StoreOk M μ H St) {vs : List V} (r : RepL M μ H l vs) (p : Addr) (hp : H p = none) : Q (.ref p) (upd H p (.lst vs)) := by
  refine h (μ ++ [p]) _ (.ref p) (Step.put hp) (s.put hp r) ?_
  rw [Rep]
  exact ⟨p, rfl, by rw [← s.len]; simp⟩
theorem Aft.tup {M : Md} {μ : List Addr} {H : Hp} {Q : VK} {St : Sto} {l : List U} (h : Aft M μ H Q (.tup l) St) (s : StoreOk M μ H St) {vs : List V} (r : RepL M μ H l vs) (p : Addr) (hp : H p = none) : Q (.ref p) (upd H p (.tup vs)) := by
  refine h μ _ (.ref p) (Step.laid hp) (s.laid hp) ?_
  rw [Rep]
  exact ⟨p, vs, rfl, .inl (.inl upd_same), repL_mono (Step.laid hp) s.lsts _ _ r⟩

def bopOp : BO → Operator
  | .add => .Add | .sub => .Sub | .mul => .Mult | .div => .FloorDiv | .mod => .Mod | .pow => .Pow
def rB (M : Md) (o : BO) : R2 := fun x y H Q => ∃ μ St u v, StoreOk M μ H St ∧ Rep M μ H u x ∧ Rep M μ H v y ∧ bop o u v St (Aft M μ H Q)

section
variable {X : Cx} {M : Md}
theorem op_fdivNW : OpR X (binaryOp .FloorDiv) (rI (fun _ j => j ≠ 0 ∧ j.natAbs.log2 < 9000) fun i j => .int (i.fdiv j)) := opI fun i j _ _ _ _ _ hc q =>
  floordiv_int hc.1 q (.inl (PyProof.noPylong_of_log2 hc.2))
theorem iop_fdivNW : OpR X (inplaceOp .FloorDiv) (rI (fun _ j => j ≠ 0 ∧ j.natAbs.log2 < 9000) fun i j => .int (i.fdiv j)) := opI fun i j _ _ _ _ _ hc q =>
  ifloordiv_int hc.1 q (.inl (PyProof.noPylong_of_log2 hc.2))
theorem repI {M : Md} {μ : List Addr} {H : Hp} (i : Int) : Rep M μ H (.int i) (.int i) := by rw [Rep]
theorem repB {M : Md} {μ : List Addr} {H : Hp} (i : Bool) : Rep M μ H (.bl i) (.bl i) := by rw [Rep]
theorem repS {M : Md} {μ : List Addr} {H : Hp} (i : Str) : Rep M μ H (.str i) (.str i) := by rw [Rep]
theorem repN {M : Md} {μ : List Addr} {H : Hp} : Rep M μ H .non .non := by rw [Rep]
theorem op_bop (hK : X.K = M.K) (o : BO) : OpR X (binaryOp (bopOp o)) (rB M o) := by
  intro pins s σ H x y v u Q I rx ry h
  obtain ⟨μ, St, a, b, sk, ra, rb, h⟩ := h
  unfold bop at h
  split at h
  · rename_i i j
    rw [Rep] at ra rb
    subst ra rb
    cases o with
    | add => exact op_add pins s σ H _ _ v u Q I rx ry ⟨i, j, rfl, rfl, Aft.same h sk (repI _)⟩
    | sub => exact op_sub pins s σ H _ _ v u Q I rx ry ⟨i, j, rfl, rfl, Aft.same h sk (repI _)⟩
    | mul => exact op_mulW pins s σ H _ _ v u Q I rx ry ⟨i, j, rfl, rfl, h.1, Aft.same h.2 sk (repI _)⟩
    | div => exact op_fdivNW pins s σ H _ _ v u Q I rx ry ⟨i, j, rfl, rfl, h.1, Aft.same h.2 sk (repI _)⟩
    | mod => exact op_modN pins s σ H _ _ v u Q I rx ry ⟨i, j, rfl, rfl, h.1, Aft.same h.2 sk (repI _)⟩
    | pow => exact op_pow pins s σ H _ _ v u Q I rx ry ⟨i, j, rfl, rfl, h.1, Aft.same h.2 sk (repI _)⟩
  · rename_i i j
    rw [Rep] at ra rb
    subst ra rb
    cases o with
    | add => exact op_add_str pins s σ H _ _ v u Q I rx ry ⟨i, j, rfl, rfl, h.1, Aft.same h.2 sk (repS _)⟩
    | _ => exact h.elim
  · rename_i i j
    rw [Rep] at ra rb
    obtain ⟨p, xs, rfl, hp, r1⟩ := ra
    obtain ⟨q, ys, rfl, hq, r2⟩ := rb
    rw [← hK] at hp hq
    cases o with
    | add =>
      have l1 := r1.length
      have l2 := r2.length
      refine op_catA pins s σ H _ _ v u Q I rx ry ⟨p, q, xs, ys, rfl, rfl, hp, hq, by rw [← l1, ← l2]; exact h.1, fun e => ?_, fun _ e => ?_, fun _ _ w hw => h.2.tup sk (r1.append r2) w hw⟩
      · subst e
        have e1 : i = [] := List.length_eq_zero_iff.mp l1
        subst e1
        exact Aft.same h.2 sk (by rw [Rep]; exact ⟨q, ys, rfl, by rw [← hK]; exact hq, r2⟩)
      · subst e
        have e1 : j = [] := List.length_eq_zero_iff.mp l2
        subst e1
        exact Aft.same h.2 sk (by rw [Rep, List.append_nil]; exact ⟨p, xs, rfl, by rw [← hK]; exact hp, r1⟩)
    | _ => exact h.elim
  · rename_i m n
    split at h
    · rename_i e1 e2
      rw [Rep] at ra rb
      obtain ⟨p, rfl, hp⟩ := ra
      obtain ⟨q, rfl, hq⟩ := rb
      obtain ⟨vs, h1, r1⟩ := sk.of hp e1
      obtain ⟨ws, h2, r2⟩ := sk.of hq e2
      exact op_cat pins s σ H _ _ v u Q I rx ry ⟨p, q, vs, ws, rfl, rfl, h1, h2, by rw [← r1.length, ← r2.length]; exact h.1, fun w hw => h.2.new sk (r1.append r2) w hw⟩
    · exact h.elim
  · rename_i m k
    split at h
    · rename_i e1
      rw [Rep] at ra
      rw [Rep] at rb
      obtain ⟨p, rfl, hp⟩ := ra
      subst rb
      obtain ⟨vs, h1, r1⟩ := sk.of hp e1
      obtain ⟨⟨h2, h3, h4⟩, h5⟩ := h
      have rr : ∀ n : Nat, RepL M μ H (List.replicate n _).flatten (List.replicate n vs).flatten := fun n => by
        induction n with
        | zero => exact RepL.nil
        | succ n ih =>
          rw [List.replicate_succ, List.replicate_succ, List.flatten_cons, List.flatten_cons]
          exact r1.append ih
      exact op_rep pins s σ H _ _ v u Q I rx ry ⟨p, k, vs, rfl, rfl, h1, h2, h3, by rw [← r1.length]; exact h4, fun w hw => h5.new sk (rr _) w hw⟩
    · exact h.elim
  · exact h.elim

/-! ### comparisons -/
mutual
def datP : U → PyData
  | .non => .none
  | .bl b => .bool b
  | .int i => .int i
  | .str s => .str s
  | .tup l => .tuple (datPs l)
  | _ => .none
def datPs : List U → List PyData
  | [] => []
  | x :: xs => datP x :: datPs xs
end
mutual
theorem dat_plain : ∀ (n : Nat) (u : U), dat n u = true → (datP u).plain = true ∧ (datP u).depth ≤ n
  | n, .non, h => by rw [datP]; exact ⟨rfl, Nat.zero_le _⟩
  | n, .bl _, h => by rw [datP]; exact ⟨rfl, Nat.zero_le _⟩
  | n, .int _, h => by rw [datP]; exact ⟨rfl, Nat.zero_le _⟩
  | n, .str _, h => by rw [datP]; exact ⟨rfl, Nat.zero_le _⟩
  | 0, .tup l, h => by rw [dat] at h; cases h
  | n + 1, .tup l, h => by
    rw [dat] at h
    obtain ⟨h1, h2⟩ := dats_plain n l h
    rw [datP]
    exact ⟨by rw [PyData.plain]; exact h1, by rw [PyData.depth]; omega⟩
  | n, .lst _, h => by cases n <;> (rw [dat] at h <;> first | cases h | (intros; simp))
  | n, .fn _, h => by cases n <;> (rw [dat] at h <;> first | cases h | (intros; simp))
  | n, .cls _, h => by cases n <;> (rw [dat] at h <;> first | cases h | (intros; simp))
  | n, .ty _, h => by cases n <;> (rw [dat] at h <;> first | cases h | (intros; simp))
  | n, .scr _, h => by cases n <;> (rw [dat] at h <;> first | cases h | (intros; simp))
theorem dats_plain : ∀ (n : Nat) (l : List U), dats n l = true → PyData.plainAll (datPs l) = true ∧ PyData.depthAll (datPs l) ≤ n
  | n, [], h => by rw [datPs]; exact ⟨rfl, Nat.zero_le _⟩
  | n, x :: xs, h => by
    rw [dats, Bool.and_eq_true] at h
    obtain ⟨h1, h2⟩ := dat_plain n x h.1
    obtain ⟨h3, h4⟩ := dats_plain n xs h.2
    rw [datPs]
    exact ⟨by rw [PyData.plainAll, h1, h3]; rfl, by rw [PyData.depthAll]; omega⟩
end
mutual
theorem rep_dat {M : Md} {μ : List Addr} {H : Hp} : ∀ (n : Nat) (u : U) (v : V), dat n u = true → Rep M μ H u v → Dp M.K H v (datP u)
  | n, .non, v, h, r => by rw [Rep] at r; rw [datP]; subst r; exact .non
  | n, .bl b, v, h, r => by rw [Rep] at r; rw [datP]; subst r; exact .bl b
  | n, .int b, v, h, r => by rw [Rep] at r; rw [datP]; subst r; exact .int b
  | n, .str b, v, h, r => by rw [Rep] at r; rw [datP]; subst r; exact .str b
  | 0, .tup l, v, h, r => by rw [dat] at h; cases h
  | n + 1, .tup l, v, h, r => by
    rw [dat] at h
    rw [Rep] at r
    rw [datP]
    obtain ⟨a, vs, e, q, r⟩ := r
    subst e
    exact .tup q (rep_dats n l vs h r)
  | n, .lst _, v, h, r => by cases n <;> (rw [dat] at h <;> first | cases h | (intros; simp))
  | n, .fn _, v, h, r => by cases n <;> (rw [dat] at h <;> first | cases h | (intros; simp))
  | n, .cls _, v, h, r => by cases n <;> (rw [dat] at h <;> first | cases h | (intros; simp))
  | n, .ty _, v, h, r => by cases n <;> (rw [dat] at h <;> first | cases h | (intros; simp))
  | n, .scr _, v, h, r => by cases n <;> (rw [dat] at h <;> first | cases h | (intros; simp))
theorem rep_dats {M : Md} {μ : List Addr} {H : Hp} : ∀ (n : Nat) (u : List U) (v : List V), dats n u = true → RepL M μ H u v → DpAll M.K H v (datPs u)
  | n, [], v, h, r => by rw [RepL] at r; subst r; rw [datPs]; exact .nil
  | n, x :: xs, v, h, r => by
    rw [RepL] at r
    obtain ⟨y, ys, e, r1, r2⟩ := r
    subst e
    rw [dats, Bool.and_eq_true] at h
    rw [datPs]
    exact .cons (rep_dat n x y h.1 r1) (rep_dats n xs ys h.2 r2)
end
mutual
theorem eqv_dat : ∀ (n m : Nat) (x y : U), dat n x = true → dat m y = true → PyData.eqv (datP x) (datP y) = eqv x y
  | n + 1, m + 1, .tup a, .tup b, h, g => by
    rw [dat] at h g
    rw [datP, datP, PyData.eqv, eqv]
    exact eqvs_dat n m a b h g
  | 0, m, .tup a, y, h, g => by rw [dat] at h; cases h
  | n, 0, x, .tup b, h, g => by cases n <;> (rw [dat] at g; cases g)
  | n, m, .lst _, y, h, g => by cases n <;> (rw [dat] at h <;> first | cases h | (intros; simp))
  | n, m, .fn _, y, h, g => by cases n <;> (rw [dat] at h <;> first | cases h | (intros; simp))
  | n, m, .cls _, y, h, g => by cases n <;> (rw [dat] at h <;> first | cases h | (intros; simp))
  | n, m, .ty _, y, h, g => by cases n <;> (rw [dat] at h <;> first | cases h | (intros; simp))
  | n, m, .scr _, y, h, g => by cases n <;> (rw [dat] at h <;> first | cases h | (intros; simp))
  | n, m, x, .lst _, h, g => by cases m <;> (rw [dat] at g <;> first | cases g | (intros; simp))
  | n, m, x, .fn _, h, g => by cases m <;> (rw [dat] at g <;> first | cases g | (intros; simp))
  | n, m, x, .cls _, h, g => by cases m <;> (rw [dat] at g <;> first | cases g | (intros; simp))
  | n, m, x, .ty _, h, g => by cases m <;> (rw [dat] at g <;> first | cases g | (intros; simp))
  | n, m, x, .scr _, h, g => by cases m <;> (rw [dat] at g <;> first | cases g | (intros; simp))
  | n, m, .non, .non, h, g => by simp [datP, eqv, PyData.eqv]
  | n, m, .non, .bl _, h, g => by simp [datP, eqv, PyData.eqv]
  | n, m, .non, .int _, h, g => by simp [datP, eqv, PyData.eqv]
  | n, m, .non, .str _, h, g => by simp [datP, eqv, PyData.eqv]
  | n, m, .non, .tup _, h, g => by simp [datP, eqv, PyData.eqv]
  | n, m, .bl _, .non, h, g => by simp [datP, eqv, PyData.eqv]
  | n, m, .bl _, .bl _, h, g => by simp [datP, eqv, PyData.eqv]
  | n, m, .bl _, .int _, h, g => by simp [datP, eqv, PyData.eqv]
  | n, m, .bl _, .str _, h, g => by simp [datP, eqv, PyData.eqv]
  | n, m, .bl _, .tup _, h, g => by simp [datP, eqv, PyData.eqv]
  | n, m, .int _, .non, h, g => by simp [datP, eqv, PyData.eqv]
  | n, m, .int _, .bl _, h, g => by simp [datP, eqv, PyData.eqv]
  | n, m, .int _, .int _, h, g => by simp [datP, eqv, PyData.eqv]
  | n, m, .int _, .str _, h, g => by simp [datP, eqv, PyData.eqv]
  | n, m, .int _, .tup _, h, g => by simp [datP, eqv, PyData.eqv]
  | n, m, .str _, .non, h, g => by simp [datP, eqv, PyData.eqv]
  | n, m, .str _, .bl _, h, g => by simp [datP, eqv, PyData.eqv]
  | n, m, .str _, .int _, h, g => by simp [datP, eqv, PyData.eqv]
  | n, m, .str _, .str _, h, g => by simp [datP, eqv, PyData.eqv]
  | n, m, .str _, .tup _, h, g => by simp [datP, eqv, PyData.eqv]
  | n, m, .tup _, .non, h, g => by simp [datP, eqv, PyData.eqv]
  | n, m, .tup _, .bl _, h, g => by simp [datP, eqv, PyData.eqv]
  | n, m, .tup _, .int _, h, g => by simp [datP, eqv, PyData.eqv]
  | n, m, .tup _, .str _, h, g => by simp [datP, eqv, PyData.eqv]
theorem eqvs_dat : ∀ (n m : Nat) (x y : List U), dats n x = true → dats m y = true → PyData.eqvAll (datPs x) (datPs y) = eqvs x y
  | n, m, [], [], _, _ => by simp [datPs, eqvs, PyData.eqvAll]
  | n, m, [], _ :: _, _, _ => by simp [datPs, eqvs, PyData.eqvAll]
  | n, m, _ :: _, [], _, _ => by simp [datPs, eqvs, PyData.eqvAll]
  | n, m, x :: xs, y :: ys, h, g => by
    rw [dats, Bool.and_eq_true] at h g
    rw [datPs, datPs, PyData.eqvAll, eqvs, eqv_dat n m x y h.1 g.1, eqvs_dat n m xs ys h.2 g.2]
end

def copOp : CO → CmpOp
  | .eq => .Eq | .ne => .NotEq | .lt => .Lt | .le => .LtE | .gt => .Gt | .ge => .GtE | .isin => .In | .notin => .NotIn
def rC (M : Md) (o : CO) : R2 := fun x y H Q => ∃ μ St u v, StoreOk M μ H St ∧ Rep M μ H u x ∧ Rep M μ H v y ∧ cop o u v St fun b => Q (.bl b) H

theorem op_eqp {pins : List (Addr × Obj)} {s : Shared} {σ : L2.St} {H : Hp} {x y : V} {v u : Value} {Q : VK} {μ : List Addr} {St : Sto} {a b : U} {g : Bool → Bool} {op : CmpOp} (hK : X.K = M.K) (hu : X.A.units + 64 < cLine) (I : Inv X pins σ H s) (rx : RelV x v) (ry : RelV y u)
    (hop : (op = .Eq ∧ g = id) ∨ (op = .NotEq ∧ g = not)) (sk : StoreOk M μ H St) (ra : Rep M μ H a x) (rb : Rep M μ H b y) (h : eqp a b St fun c => Q (.bl (g c)) H) :
    wpAny (model X.prog X.w) X.A (compareOp op v u) (EP X pins σ Q) X.xe s := by
  have main : ∀ (d e : PyData), Dp X.K H x d → Dp X.K H y e → d.plain = true → e.plain = true → d.depth ≤ 64 → Q (.bl (g (PyData.eqv d e))) H → wpAny (model X.prog X.w) X.A (compareOp op v u) (EP X pins σ Q) X.xe s := by
    intro d e hd he pd pe dd q
    obtain ⟨as, r1⟩ := Dp.reads I d x v hd rx
    obtain ⟨bs, r2⟩ := Dp.reads I e y u he ry
    have hm : X.A.units + min d.depth e.depth < cLine := by have : min d.depth e.depth ≤ d.depth := Nat.min_le_left _ _; omega
    rcases hop with ⟨rfl, rfl⟩ | ⟨rfl, rfl⟩
    · exact SeqAt.eq_plain r1 r2 pd pe hm ⟨.bl _, H, I, rfl, q⟩
    · exact SeqAt.ne_plain r1 r2 pd pe hm ⟨.bl _, H, I, rfl, q⟩
  unfold eqp at h
  split at h
  · rename_i m n
    split at h
    · rename_i l1 l2 e1 e2
      rw [Rep] at ra rb
      obtain ⟨p, rfl, hp⟩ := ra
      obtain ⟨q, rfl, hq⟩ := rb
      obtain ⟨vs, h1, r1⟩ := sk.of hp e1
      obtain ⟨ws, h2, r2⟩ := sk.of hq e2
      obtain ⟨⟨d1, d2⟩, h⟩ := h
      obtain ⟨p1, p2⟩ := dats_plain 60 _ d1
      obtain ⟨p3, p4⟩ := dats_plain 60 _ d2
      refine main (.list (datPs l1)) (.list (datPs l2)) (.lst (.inl (.inl h1)) (by rw [hK]; exact rep_dats 60 _ _ d1 r1)) (.lst (.inl (.inl h2)) (by rw [hK]; exact rep_dats 60 _ _ d2 r2)) (by rw [PyData.plain]; exact p1) (by rw [PyData.plain]; exact p3) (by rw [PyData.depth]; omega) ?_
      rw [PyData.eqv, eqvs_dat 60 60 _ _ d1 d2]
      exact h
    · exact h.elim
  · obtain ⟨⟨d1, d2⟩, h⟩ := h
    obtain ⟨p1, p2⟩ := dat_plain 60 _ d1
    obtain ⟨p3, p4⟩ := dat_plain 60 _ d2
    refine main _ _ (by rw [hK]; exact rep_dat 60 _ _ d1 ra) (by rw [hK]; exact rep_dat 60 _ _ d2 rb) p1 p3 (by omega) ?_
    rw [eqv_dat 60 60 _ _ d1 d2]
    exact h
theorem flat_rep {μ : List Addr} {H : Hp} {u : U} {v : V} (h : flat u = true) (r : Rep M μ H u v) : flatV v = true := by
  cases u <;> first | (simp [flat] at h; done) | (rw [Rep] at r; subst r; rfl)
theorem eqv_flat {μ : List Addr} {H : Hp} {a b : U} {x y : V} (ha : flat a = true) (hb : flat b = true) (ra : Rep M μ H a x) (rb : Rep M μ H b y) : eqV x y = eqv a b := by
  cases a <;> first | (simp [flat] at ha; done) | (rw [Rep] at ra; subst ra; cases b <;> first | (simp [flat] at hb; done) | (rw [Rep] at rb; subst rb; simp [eqV, eqv]))
theorem all_flat {μ : List Addr} {H : Hp} : ∀ {l : List U} {vs : List V}, l.all flat = true → RepL M μ H l vs → vs.all flatV = true
  | [], vs, h, r => by rw [RepL] at r; subst r; rfl
  | u :: us, vs, h, r => by
    rw [RepL] at r
    obtain ⟨v, w, e, r1, r2⟩ := r
    subst e
    rw [List.all_cons, Bool.and_eq_true] at h
    rw [List.all_cons, flat_rep h.1 r1, all_flat h.2 r2]; rfl
theorem any_eqv {μ : List Addr} {H : Hp} {a : U} {x : V} (ha : flat a = true) (ra : Rep M μ H a x) : ∀ {l : List U} {vs : List V}, l.all flat = true → RepL M μ H l vs → inV x vs = l.any fun z => eqv z a
  | [], vs, h, r => by rw [RepL] at r; subst r; rfl
  | u :: us, vs, h, r => by
    rw [RepL] at r
    obtain ⟨v, w, e, r1, r2⟩ := r
    subst e
    rw [List.all_cons, Bool.and_eq_true] at h
    have ih := any_eqv ha ra h.2 r2
    unfold inV at ih ⊢
    rw [List.any_cons, List.any_cons, ih, eqv_flat h.1 ha r1 ra]
theorem op_inp {pins : List (Addr × Obj)} {s : Shared} {σ : L2.St} {H : Hp} {x y : V} {v u : Value} {Q : VK} {μ : List Addr} {St : Sto} {a b : U} {neg : Bool} (hK : X.K = M.K) (I : Inv X pins σ H s) (rx : RelV x v) (ry : RelV y u)
    (sk : StoreOk M μ H St) (ra : Rep M μ H a x) (rb : Rep M μ H b y) (h : inp a b St fun c => Q (.bl (if neg then !c else c)) H) :
    wpAny (model X.prog X.w) X.A (compareOp (if neg then .NotIn else .In) v u) (EP X pins σ Q) X.xe s := by
  have main : ∀ (p : Addr) (l : List U) (vs : List V), y = .ref p → (SqL X.K H p vs ∨ SqT X.K H p vs) → RepL M μ H l vs → flat a = true → l.all flat = true → Q (.bl (if neg then !(l.any fun z => eqv z a) else l.any fun z => eqv z a)) H →
      wpAny (model X.prog X.w) X.A (compareOp (if neg then .NotIn else .In) v u) (EP X pins σ Q) X.xe s := by
    intro p l vs ey hs rl fa fl q
    have e := any_eqv fa ra fl rl
    cases neg with
    | false => exact op_in_seq pins s σ H x y v u Q I rx ry ⟨p, vs, ey, hs, flat_rep fa ra, all_flat fl rl, by rw [e]; exact q⟩
    | true => exact op_notIn_seq pins s σ H x y v u Q I rx ry ⟨p, vs, ey, hs, flat_rep fa ra, all_flat fl rl, by rw [e]; exact q⟩
  unfold inp at h
  split at h
  · rw [Rep] at rb
    obtain ⟨p, vs, e, hp, r⟩ := rb
    exact main p _ vs e (.inr (by rw [hK]; exact hp)) r h.1.1 h.1.2 h.2
  · split at h
    · rename_i e1
      rw [Rep] at rb
      obtain ⟨p, e, hp⟩ := rb
      obtain ⟨vs, h1, r⟩ := sk.of hp e1
      exact main p _ vs e (.inl (.inl (.inl h1))) r h.1.1 h.1.2 h.2
    · exact h.elim
  · split at h
    · split at h
      · rename_i z x1 c x2 d e1
        rw [Rep] at ra rb
        subst ra rb
        have ec : c = ⟨#[d]⟩ := by
          obtain ⟨⟨l⟩⟩ := c
          simp at e1
          rw [e1]
        subst ec
        cases neg with
        | false => exact op_in_sign pins s σ H _ _ v u Q I rx ry ⟨d, z, rfl, rfl, h⟩
        | true => exact op_notIn_sign pins s σ H _ _ v u Q I rx ry ⟨d, z, rfl, rfl, h⟩
      · exact h.elim
    · exact h.elim
  · exact h.elim
theorem op_cop (hK : X.K = M.K) (hu : X.A.units + 64 < cLine) (o : CO) : OpR X (compareOp (copOp o)) (rC M o) := by
  intro pins s σ H x y v u Q I rx ry h
  obtain ⟨μ, St, a, b, sk, ra, rb, h⟩ := h
  cases o with
  | eq => exact op_eqp (g := id) hK hu I rx ry (.inl ⟨rfl, rfl⟩) sk ra rb h
  | ne => exact op_eqp (g := not) hK hu I rx ry (.inr ⟨rfl, rfl⟩) sk ra rb h
  | isin => exact op_inp (neg := false) hK I rx ry sk ra rb h
  | notin => exact op_inp (neg := true) hK I rx ry sk ra rb h
  | lt =>
    simp only [cop] at h
    split at h
    · rename_i i j
      rw [Rep] at ra rb
      subst ra rb
      exact op_lt pins s σ H _ _ v u Q I rx ry ⟨i, j, rfl, rfl, h⟩
    · exact h.elim
  | le =>
    simp only [cop] at h
    split at h
    · rename_i i j
      rw [Rep] at ra rb
      subst ra rb
      exact op_le pins s σ H _ _ v u Q I rx ry ⟨i, j, rfl, rfl, h⟩
    · exact h.elim
  | gt =>
    simp only [cop] at h
    split at h
    · rename_i i j
      rw [Rep] at ra rb
      subst ra rb
      exact op_gt pins s σ H _ _ v u Q I rx ry ⟨i, j, rfl, rfl, h⟩
    · exact h.elim
  | ge =>
    simp only [cop] at h
    split at h
    · rename_i i j
      rw [Rep] at ra rb
      subst ra rb
      exact op_ge pins s σ H _ _ v u Q I rx ry ⟨i, j, rfl, rfl, h⟩
    · exact h.elim
/-! ### truth, subscripts, slices, built-in functions -/
theorem tru_rep {μ : List Addr} {H : Hp} {St : Sto} {u : U} {x : V} {Q : Bool → Prop} (sk : StoreOk M μ H St) (r : Rep M μ H u x) (h : tru u St Q) : ∃ k, TruV M.K x H k ∧ Q k := by
  unfold tru at h
  split at h
  · rw [Rep] at r; subst r; exact ⟨_, rfl, h⟩
  · rw [Rep] at r; subst r; exact ⟨_, rfl, h⟩
  · rw [Rep] at r; subst r; exact ⟨_, rfl, h⟩
  · rw [Rep] at r; subst r; exact ⟨_, ⟨h.1, rfl⟩, h.2⟩
  · rename_i l
    rw [Rep] at r
    obtain ⟨a, vs, rfl, hs, rl⟩ := r
    refine ⟨_, .inr (.inl ⟨vs, hs, ?_⟩), h⟩
    have := rl.length
    cases l <;> cases vs <;> first | rfl | (simp at this)
  · rw [Rep] at r
    obtain ⟨a, rfl, hm⟩ := r
    split at h
    · rename_i l e1
      obtain ⟨vs, h1, rl⟩ := sk.of hm e1
      refine ⟨_, .inl ⟨vs, .inl (.inl h1), ?_⟩, h⟩
      have := rl.length
      cases l <;> cases vs <;> first | rfl | (simp at this)
    · exact h.elim
  · exact h.elim
theorem atI_rep {μ : List Addr} {H : Hp} {l : List U} {vs : List V} {k : Int} {u : U} (r : RepL M μ H l vs) (h : atI l k = some u) : ∃ v, atI vs k = some v ∧ Rep M μ H u v := by
  unfold atI at h ⊢
  rw [← r.length]
  cases e : ixN l.length k with
  | none => rw [e] at h; cases h
  | some j =>
    rw [e] at h
    exact r.get h
def rIxA (M : Md) : R2 := fun x y H Q => ∃ μ St u v, StoreOk M μ H St ∧ Rep M μ H u x ∧ Rep M μ H v y ∧ idxp u v St (Aft M μ H Q)
theorem ix_all (hK : X.K = M.K) : IxR X (rIxA M) := by
  intro value slice pins s σ H x y v u Q I rx ry h hs
  obtain ⟨μ, St, a, b, sk, ra, rb, h⟩ := h
  refine ix_seq value slice pins s σ H x y v u Q I rx ry ?_ hs
  unfold idxp at h
  split at h
  · rename_i k
    rw [Rep] at rb
    subst rb
    split at h
    · rw [Rep] at ra
      obtain ⟨p, vs, rfl, hp, rl⟩ := ra
      split at h
      · rename_i w hw
        obtain ⟨z, hz, rz⟩ := atI_rep rl hw
        exact .inr (.inl ⟨p, vs, k, z, rfl, rfl, by rw [hK]; exact hp, hz, h.same sk rz⟩)
      · exact h.elim
    · rw [Rep] at ra
      obtain ⟨p, rfl, hm⟩ := ra
      split at h
      · rename_i e1
        obtain ⟨vs, h1, rl⟩ := sk.of hm e1
        split at h
        · rename_i w hw
          obtain ⟨z, hz, rz⟩ := atI_rep rl hw
          exact .inl ⟨p, vs, k, z, rfl, rfl, .inl (.inl h1), hz, h.same sk rz⟩
        · exact h.elim
      · exact h.elim
    · rw [Rep] at ra
      subst ra
      obtain ⟨h1, h2⟩ := h
      split at h2
      · rename_i c hc
        exact .inr (.inr ⟨_, k, c, rfl, rfl, h1, hc, h2.same sk (repS _)⟩)
      · exact h2.elim
    · exact h.elim
  · exact h.elim
theorem cut_rep {μ : List Addr} {H : Hp} {l : List U} {vs : List V} (r : RepL M μ H l vs) (lo hi : Option Int) : RepL M μ H (cutU l lo hi) (cutV vs lo hi) := by
  unfold cutU cutV
  rw [← r.length]
  exact (r.drop _).take _
theorem cut_map {α β : Type} (f : α → β) (l : List α) (lo hi : Option Int) : cutU (l.map f) lo hi = (cutU l lo hi).map f := by
  unfold cutU
  rw [List.length_map, ← List.map_drop, ← List.map_take]
theorem cut_whole {α : Type} {l : List α} {lo hi : Option Int} (h : HT.sIx l.length 0 lo = 0 ∧ HT.sIx l.length l.length hi = l.length) : cutU l lo hi = l := by
  unfold cutU
  rw [h.1, h.2]; simp
end
end Q

set_option Elab.async false
set_option linter.all false
set_option maxRecDepth 100000
set_option maxHeartbeats 4000000
/-! QOps2: slices, built-in functions, methods, what is walked. -/
namespace Q
open PySem PySem.Spec PyProof.Rows L2
section
variable {X : Cx} {M : Md}
def rSlM (M : Md) : V → Option Int → Option Int → Hp → VK → Prop := fun x lo hi H Q => ∃ μ St u, StoreOk M μ H St ∧ Rep M μ H u x ∧ slcp u lo hi St (Aft M μ H Q)
theorem sl_all (hK : X.K = M.K) : SlR X (rSlM M) := by
  intro pins s σ H x v vl vu lo hi sl Q I rx hs pl pu h
  obtain ⟨μ, St, a, sk, ra, h⟩ := h
  unfold slcp at h
  split at h
  · rename_i l
    rw [Rep] at ra
    obtain ⟨p, vs, rfl, hp, rl⟩ := ra
    refine sl_tupA pins s σ H _ v vl vu lo hi sl Q I rx hs pl pu ⟨p, vs, rfl, by rw [hK]; exact hp, fun hw => ?_, fun hw q hq => h.tup sk (cut_rep rl lo hi) q hq⟩
    rw [← rl.length] at hw
    rw [cut_whole hw] at h
    exact h.same sk (by rw [Rep]; exact ⟨p, vs, rfl, hp, rl⟩)
  · split at h
    · rename_i e1
      rw [Rep] at ra
      obtain ⟨p, rfl, hm⟩ := ra
      obtain ⟨vs, h1, rl⟩ := sk.of hm e1
      exact sl_list pins s σ H _ v vl vu lo hi sl Q I rx hs pl pu ⟨p, vs, rfl, .inl (.inl h1), fun q hq => h.new sk (cut_rep rl lo hi) q hq⟩
    · exact h.elim
  · rename_i l
    rw [Rep] at ra
    obtain ⟨p, rfl, hp⟩ := ra
    have hS : SqL X.K H p (l.map V.int) := by
      rcases hp with ⟨o, e⟩ | e
      · exact .inl (.inr ⟨o, e⟩)
      · rw [hK]
        rcases e with (e | ⟨o, e⟩) | e
        · cases e
        · cases e
        · exact .inr e
    refine sl_list pins s σ H _ v vl vu lo hi sl Q I rx hs pl pu ⟨p, _, rfl, hS, fun q hq => h.new sk ?_ q hq⟩
    have e : cutV (l.map V.int) lo hi = (cutU l lo hi).map V.int := by
      show cutU (l.map V.int) lo hi = _
      exact cut_map _ _ _ _
    rw [e]
    exact RepL.of_ints _
  · rename_i z
    rw [Rep] at ra
    subst ra
    exact sl_str pins s σ H _ v vl vu lo hi sl Q I rx hs pl pu ⟨z, rfl, h.1, h.2.same sk (by rw [Rep]; rfl)⟩
  · exact h.elim

/-! ### built-in functions -/
def rBi (M : Md) (f : Bi) : List V → Hp → VK → Prop := fun xs H Q => ∃ μ St us, StoreOk M μ H St ∧ RepL M μ H us xs ∧ bip f us St (Aft M μ H Q)
theorem repL1 {μ : List Addr} {H : Hp} {u : U} {xs : List V} (r : RepL M μ H [u] xs) : ∃ v, xs = [v] ∧ Rep M μ H u v := by
  rw [RepL] at r
  obtain ⟨v, w, e, r1, r2⟩ := r
  rw [RepL] at r2
  subst r2
  exact ⟨v, e, r1⟩
theorem repL2 {μ : List Addr} {H : Hp} {u w : U} {xs : List V} (r : RepL M μ H [u, w] xs) : ∃ v z, xs = [v, z] ∧ Rep M μ H u v ∧ Rep M μ H w z := by
  rw [RepL] at r
  obtain ⟨v, t, e, r1, r2⟩ := r
  obtain ⟨z, e2, r3⟩ := repL1 r2
  subst e2
  exact ⟨v, z, e, r1, r3⟩
theorem items_rep {μ : List Addr} {H : Hp} {St : Sto} {u : U} {v : V} {P : List U → Prop} (hK : X.K = M.K) (sk : StoreOk M μ H St) (r : Rep M μ H u v) (h : itemsp u St P) :
    ∃ p l vs, v = .ref p ∧ (SqL X.K H p vs ∨ SqT X.K H p vs) ∧ RepL M μ H l vs ∧ P l ∧ (SqT X.K H p vs → SqL X.K H p vs ∨ u = .tup l) := by
  unfold itemsp at h
  split at h
  · rename_i l
    rw [Rep] at r
    obtain ⟨p, vs, rfl, hp, rl⟩ := r
    exact ⟨p, l, vs, rfl, .inr (by rw [hK]; exact hp), rl, h, fun _ => .inr rfl⟩
  · split at h
    · rename_i l e1
      rw [Rep] at r
      obtain ⟨p, rfl, hm⟩ := r
      obtain ⟨vs, h1, rl⟩ := sk.of hm e1
      exact ⟨p, l, vs, rfl, .inl (.inl (.inl h1)), rl, h, fun _ => .inl (.inl (.inl h1))⟩
    · exact h.elim
  · exact h.elim
theorem list_rep {μ : List Addr} {H : Hp} {St : Sto} {u : U} {v : V} {P : List U → Prop} (sk : StoreOk M μ H St) (r : Rep M μ H u v) (h : listp u St P) :
    ∃ p l vs, v = .ref p ∧ SqL X.K H p vs ∧ RepL M μ H l vs ∧ P l := by
  unfold listp at h
  split at h
  · split at h
    · rename_i l e1
      rw [Rep] at r
      obtain ⟨p, rfl, hm⟩ := r
      obtain ⟨vs, h1, rl⟩ := sk.of hm e1
      exact ⟨p, l, vs, rfl, .inl (.inl h1), rl, h⟩
    · exact h.elim
  · exact h.elim
theorem call_len_b (hK : X.K = M.K) : CallR X (.builtin "len") (rBi M .len) := by
  intro pins s σ H xs us Q I r h
  obtain ⟨μ, St, ul, sk, ru, h⟩ := h
  unfold bip at h
  split at h <;> first | (rename_i e; cases e; done) | skip
  · obtain ⟨v, e, r1⟩ := repL1 ru
    rw [Rep] at r1
    subst r1 e
    exact call_len_str pins s σ H _ us Q I r ⟨_, rfl, h.1, h.2.same sk (repI _)⟩
  · obtain ⟨v, e, r1⟩ := repL1 ru
    subst e
    obtain ⟨p, l, vs, e, hs, rl, q, _⟩ := items_rep (X := X) hK sk r1 h
    subst e
    exact call_len_seq pins s σ H _ us Q I r ⟨p, vs, rfl, hs, by rw [← rl.length]; exact q.same sk (repI _)⟩
  all_goals first | exact h.elim | (simp_all; done) | skip
theorem call_abs_b : CallR X (.builtin "abs") (rBi M .abs) := by
  intro pins s σ H xs us Q I r h
  obtain ⟨μ, St, ul, sk, ru, h⟩ := h
  unfold bip at h
  split at h <;> first | (rename_i e; cases e; done) | skip
  · obtain ⟨v, e, r1⟩ := repL1 ru
    rw [Rep] at r1
    subst r1 e
    exact call_abs pins s σ H _ us Q I r ⟨_, rfl, h.same sk (repI _)⟩
  all_goals first | exact h.elim | (simp_all; done) | skip
theorem call_max_b (hc : X.calm = true) : CallR X (.builtin "max") (rBi M .max) := by
  intro pins s σ H xs us Q I r h
  obtain ⟨μ, St, ul, sk, ru, h⟩ := h
  unfold bip at h
  split at h <;> first | (rename_i e; cases e; done) | skip
  · obtain ⟨v, w, e, r1, r2⟩ := repL2 ru
    rw [Rep] at r1 r2
    subst r1 r2 e
    exact call_max2 hc pins s σ H _ us Q I r ⟨_, _, rfl, h.same sk (repI _)⟩
  all_goals first | exact h.elim | (simp_all; done) | skip
theorem call_min_b (hc : X.calm = true) : CallR X (.builtin "min") (rBi M .min) := by
  intro pins s σ H xs us Q I r h
  obtain ⟨μ, St, ul, sk, ru, h⟩ := h
  unfold bip at h
  split at h <;> first | (rename_i e; cases e; done) | skip
  · obtain ⟨v, w, e, r1, r2⟩ := repL2 ru
    rw [Rep] at r1 r2
    subst r1 r2 e
    exact call_min2 hc pins s σ H _ us Q I r ⟨_, _, rfl, h.same sk (repI _)⟩
  all_goals first | exact h.elim | (simp_all; done) | skip
theorem call_sum_b (hc : CallR X (.builtin "sum") (rSum X.K)) : CallR X (.builtin "sum") (rBi M .sum) := by
  intro pins s σ H xs us Q I r h
  obtain ⟨μ, St, ul, sk, ru, h⟩ := h
  unfold bip at h
  split at h <;> first | (rename_i e; cases e; done) | skip
  · obtain ⟨v, e, r1⟩ := repL1 ru
    subst e
    obtain ⟨p, l, vs, e, hs, rl, q⟩ := list_rep (X := X) sk r1 h
    subst e
    split at q
    · rename_i ns en
      rw [rl.ints en] at hs
      exact hc pins s σ H _ us Q I r ⟨p, ns, rfl, hs, q.same sk (repI _)⟩
    · exact q.elim
  all_goals first | exact h.elim | (simp_all; done) | skip
theorem call_any_b (hc : CallR X (.builtin "any") (rAny X.K)) : CallR X (.builtin "any") (rBi M .any) := by
  intro pins s σ H xs us Q I r h
  obtain ⟨μ, St, ul, sk, ru, h⟩ := h
  unfold bip at h
  split at h <;> first | (rename_i e; cases e; done) | skip
  · obtain ⟨v, e, r1⟩ := repL1 ru
    subst e
    obtain ⟨p, l, vs, e, hs, rl, q⟩ := list_rep (X := X) sk r1 h
    subst e
    split at q
    · rename_i ns en
      rw [rl.bls en] at hs
      exact hc pins s σ H _ us Q I r ⟨p, ns, rfl, hs, q.same sk (repB _)⟩
    · exact q.elim
  all_goals first | exact h.elim | (simp_all; done) | skip
theorem call_all_b (hc : CallR X (.builtin "all") (rAll X.K)) : CallR X (.builtin "all") (rBi M .all) := by
  intro pins s σ H xs us Q I r h
  obtain ⟨μ, St, ul, sk, ru, h⟩ := h
  unfold bip at h
  split at h <;> first | (rename_i e; cases e; done) | skip
  · obtain ⟨v, e, r1⟩ := repL1 ru
    subst e
    obtain ⟨p, l, vs, e, hs, rl, q⟩ := list_rep (X := X) sk r1 h
    subst e
    split at q
    · rename_i ns en
      rw [rl.bls en] at hs
      exact hc pins s σ H _ us Q I r ⟨p, ns, rfl, hs, q.same sk (repB _)⟩
    · exact q.elim
  all_goals first | exact h.elim | (simp_all; done) | skip
theorem call_int_b : CallR X (.type "int") (rBi M .int) := by
  intro pins s σ H xs us Q I r h
  obtain ⟨μ, St, ul, sk, ru, h⟩ := h
  unfold bip at h
  split at h <;> first | (rename_i e; cases e; done) | skip
  · obtain ⟨v, e, r1⟩ := repL1 ru
    rw [Rep] at r1
    subst r1 e
    exact call_int1 pins s σ H _ us Q I r (.inl ⟨_, rfl, h.same sk (repI _)⟩)
  · obtain ⟨v, e, r1⟩ := repL1 ru
    rw [Rep] at r1
    subst r1 e
    exact call_int1 pins s σ H _ us Q I r (.inr ⟨_, rfl, h.same sk (repI _)⟩)
  all_goals first | exact h.elim | (simp_all; done) | skip
theorem call_str_b : CallR X (.type "str") (rBi M .str) := by
  intro pins s σ H xs us Q I r h
  obtain ⟨μ, St, ul, sk, ru, h⟩ := h
  unfold bip at h
  split at h <;> first | (rename_i e; cases e; done) | skip
  · obtain ⟨v, e, r1⟩ := repL1 ru
    rw [Rep] at r1
    subst r1 e
    exact call_str_int pins s σ H _ us Q I r ⟨_, rfl, h.1, h.2.same sk (repS _)⟩
  all_goals first | exact h.elim | (simp_all; done) | skip
theorem call_tuple_b (hK : X.K = M.K) : CallR X (.type "tuple") (rBi M .tuple) := by
  intro pins s σ H xs us Q I r h
  obtain ⟨μ, St, ul, sk, ru, h⟩ := h
  unfold bip at h
  split at h <;> first | (rename_i e; cases e; done) | skip
  · obtain ⟨v, e, r1⟩ := repL1 ru
    subst e
    obtain ⟨p, l, vs, e, hs, rl, q, z⟩ := items_rep (X := X) hK sk r1 h
    subst e
    rcases hs with hs | hs
    · exact call_tuple_of pins s σ H _ us Q I r ⟨p, vs, rfl, .inl ⟨hs, fun a ha => q.tup sk rl a ha⟩⟩
    · rcases z hs with hs' | e
      · exact call_tuple_of pins s σ H _ us Q I r ⟨p, vs, rfl, .inl ⟨hs', fun a ha => q.tup sk rl a ha⟩⟩
      · subst e
        exact call_tuple_of pins s σ H _ us Q I r ⟨p, vs, rfl, .inr ⟨hs, q.same sk r1⟩⟩
  all_goals first | exact h.elim | (simp_all; done) | skip
theorem call_list_b (hK : X.K = M.K) : CallR X (.type "list") (rBi M .list) := by
  intro pins s σ H xs us Q I r h
  obtain ⟨μ, St, ul, sk, ru, h⟩ := h
  unfold bip at h
  split at h <;> first | (rename_i e; cases e; done) | skip
  · obtain ⟨v, e, r1⟩ := repL1 ru
    subst e
    obtain ⟨p, l, vs, e, hs, rl, q, z⟩ := items_rep (X := X) hK sk r1 h
    subst e
    exact call_list_of pins s σ H _ us Q I r ⟨p, vs, rfl, hs, fun a ha => q.new sk rl a ha⟩
  all_goals first | exact h.elim | (simp_all; done) | skip

/-! ### methods of lists -/
def rMe (M : Md) (m : Me) : V → List V → Hp → VK → Prop := fun x xs H Q => ∃ μ St u us, StoreOk M μ H St ∧ Rep M μ H u x ∧ RepL M μ H us xs ∧ mep m u us St (Aft M μ H Q)
theorem Aft.wr {μ : List Addr} {H : Hp} {Q : VK} {St : Sto} {w : U} {n : Nat} {l : List U} (h : Aft M μ H Q w (St.set n (.lst l))) (s : StoreOk M μ H St) {a : Addr} (ha : μ[n]? = some a) {vs : List V} (r : RepL M μ H l vs) {z : V} (rz : Rep M μ H w z) : Q z (upd H a (.lst vs)) :=
  h μ _ z (Step.wr (List.mem_of_getElem? ha)) (s.wr ha r) (rep_mono (Step.wr (List.mem_of_getElem? ha)) s.lsts _ _ rz)
theorem mt_append_b : MtM X "list.append" (rMe M .append) := by
  intro pins s σ H x xs v us Q I rx rs h
  obtain ⟨μ, St, a, ul, sk, ra, ru, h⟩ := h
  unfold mep at h
  split at h <;> first | (rename_i e; cases e; done) | skip
  · split at h
    · rename_i e1
      rw [Rep] at ra
      obtain ⟨p, e, hm⟩ := ra
      obtain ⟨w, e2, r1⟩ := repL1 ru
      subst e e2
      obtain ⟨vs, h1, rl⟩ := sk.of hm e1
      exact mt_append pins s σ H _ _ v us Q I rx rs ⟨p, vs, w, rfl, rfl, h1, by rw [← rl.length]; exact h.1, h.2.wr sk hm (rl.append (RepL.cons r1 RepL.nil)) repN⟩
    · exact h.elim
  all_goals first | exact h.elim | (simp_all; done) | skip
theorem mt_extend_b : MtM X "list.extend" (rMe M .extend) := by
  intro pins s σ H x xs v us Q I rx rs h
  obtain ⟨μ, St, a, ul, sk, ra, ru, h⟩ := h
  unfold mep at h
  split at h <;> first | (rename_i e; cases e; done) | skip
  · split at h
    · rename_i e1 e3
      rw [Rep] at ra
      obtain ⟨p, e, hm⟩ := ra
      obtain ⟨w, e2, r1⟩ := repL1 ru
      rw [Rep] at r1
      obtain ⟨b, e4, hb⟩ := r1
      subst e e4 e2
      obtain ⟨vs, h1, rl⟩ := sk.of hm e1
      obtain ⟨ws, h2, rw'⟩ := sk.of hb e3
      exact mt_extend pins s σ H _ _ v us Q I rx rs ⟨p, b, vs, ws, rfl, rfl, h1, h2, by rw [← rl.length, ← rw'.length]; exact h.1, h.2.wr sk hm (rl.append rw') repN⟩
    · exact h.elim
  all_goals first | exact h.elim | (simp_all; done) | skip
theorem mt_pop_b : MtM X "list.pop" (rMe M .pop) := by
  intro pins s σ H x xs v us Q I rx rs h
  obtain ⟨μ, St, a, ul, sk, ra, ru, h⟩ := h
  unfold mep at h
  split at h <;> first | (rename_i e; cases e; done) | skip
  · split at h
    · rename_i e1
      rw [Rep] at ra
      obtain ⟨p, e, hm⟩ := ra
      rw [RepL] at ru
      subst e ru
      obtain ⟨vs, h1, rl⟩ := sk.of hm e1
      split at h
      · rename_i w hw
        obtain ⟨z, hz, rz⟩ := rl.get hw
        exact mt_pop pins s σ H _ _ v us Q I rx rs ⟨p, vs, z, rfl, rfl, h1, by rw [← rl.length]; exact hz, h.wr sk hm rl.dropLast rz⟩
      · exact h.elim
    · exact h.elim
  all_goals first | exact h.elim | (simp_all; done) | skip

/-! ### stores -/
def rSe (M : Md) : V → V → V → Hp → (Hp → Prop) → Prop := fun o i v H Q => ∃ μ St a b c, StoreOk M μ H St ∧ Rep M μ H a o ∧ Rep M μ H b i ∧ Rep M μ H c v ∧ setp a b c St fun S2 => ∀ μ2 H2, Step μ H μ2 H2 → StoreOk M μ2 H2 S2 → Q H2
theorem set_all : PSet X (rSe M) := by
  intro pins s σ H o i v ov iv u Q I ro ri rv h
  obtain ⟨μ, St, a, b, c, sk, ra, rb, rc, h⟩ := h
  unfold setp at h
  split at h
  · split at h
    · rename_i e1
      rw [Rep] at ra
      rw [Rep] at rb
      obtain ⟨p, e, hm⟩ := ra
      subst e rb
      obtain ⟨vs, h1, rl⟩ := sk.of hm e1
      split at h
      · rename_i j hj
        exact set_list pins s σ H _ _ v ov iv u Q I ro ri rv ⟨p, vs, _, j, rfl, rfl, h1, by rw [← rl.length]; exact hj, h μ _ (Step.wr (List.mem_of_getElem? hm)) (sk.wr hm (rl.set rc j))⟩
      · exact h.elim
    · exact h.elim
  · exact h.elim
/-! ### isinstance -/
def rIs (M : Md) (t : String) : List V → Hp → VK → Prop := fun xs H Q => ∃ μ St u x, xs = [x, .ty t] ∧ StoreOk M μ H St ∧ Rep M μ H u x ∧ isip u t fun b => Q (.bl b) H
def isTy (t : String) : Bool := t == "int" || t == "bool" || t == "str" || t == "tuple" || t == "list"
theorem kitBase (K : PySem.W.Frag) : ∀ a ∈ ["NoneType", "bool", "int", "str", "tuple", "list"], ∀ t ∈ ["int", "bool", "str", "tuple", "list"], PySem.W.kitOne K (.type a) (.type t) = some (a == t || (a == "bool" && t == "int")) := by
  intro a ha t ht
  simp only [List.mem_cons, List.mem_nil_iff, or_false] at ha ht
  rcases ha with rfl | rfl | rfl | rfl | rfl | rfl <;> rcases ht with rfl | rfl | rfl | rfl | rfl <;> exact kit_ty (by decide +kernel)
theorem isTy_mem {t : String} (h : isTy t = true) : t ∈ ["int", "bool", "str", "tuple", "list"] := by
  unfold isTy at h
  simp only [Bool.or_eq_true, beq_iff_eq] at h
  simp only [List.mem_cons, List.mem_nil_iff, or_false]
  rcases h with (((h | h) | h) | h) | h <;> simp [h]
theorem call_isi_b (hK : X.K = M.K) {t : String} (ht : isTy t = true) : CallR X (.builtin "isinstance") (rIs M t) := by
  intro pins s σ H xs us Q I r h
  obtain ⟨μ, St, u, x, e, sk, ru, h⟩ := h
  subst e
  have hm := isTy_mem ht
  have go : ∀ (a : String) (b : Bool), a ∈ ["NoneType", "bool", "int", "str", "tuple", "list"] → TyX X.K H x (.type a) → (a == t || (a == "bool" && t == "int")) = b → Q (.bl b) H → wpAny (model X.prog X.w) X.A (call (.builtin "isinstance") us) (EP X pins σ Q) X.xe s := by
    intro a b ha ty e q
    exact call_isi pins s σ H _ us Q I r ⟨x, .ty t, _, _, b, rfl, .ty t, ty, by rw [kitBase X.K a ha t hm, e], q⟩
  unfold isip at h
  have hc : t = "int" ∨ t = "bool" ∨ t = "str" ∨ t = "tuple" ∨ t = "list" := by simpa using hm
  split at h
  · rw [Rep] at ru; subst ru
    refine go "NoneType" _ (by simp) (.base .non) ?_ h
    rcases hc with rfl | rfl | rfl | rfl | rfl <;> decide
  · rw [Rep] at ru; subst ru
    refine go "bool" _ (by simp) (.base (.bl _)) ?_ h
    rcases hc with rfl | rfl | rfl | rfl | rfl <;> decide
  · rw [Rep] at ru; subst ru
    refine go "int" _ (by simp) (.base (.int _)) ?_ h
    rcases hc with rfl | rfl | rfl | rfl | rfl <;> decide
  · rw [Rep] at ru; subst ru
    refine go "str" _ (by simp) (.base (.str _)) ?_ h
    rcases hc with rfl | rfl | rfl | rfl | rfl <;> decide
  · rw [Rep] at ru
    obtain ⟨p, vs, rfl, hp, rl⟩ := ru
    refine go "tuple" _ (by simp) ?_ ?_ h
    · rcases hp with (hp | ⟨o, hp⟩) | ⟨o, its, n, hk, hc, _⟩
      · exact .base (.tup hp)
      · exact .fTuple hp
      · exact .kTuple (by rw [hK]; exact hk) hc
    · rcases hc with rfl | rfl | rfl | rfl | rfl <;> decide
  · rw [Rep] at ru
    obtain ⟨p, rfl, hm'⟩ := ru
    obtain ⟨vs, e⟩ := sk.mem (List.mem_of_getElem? hm')
    refine go "list" _ (by simp) (.base (.lst e)) ?_ h
    rcases hc with rfl | rfl | rfl | rfl | rfl <;> decide
  · exact h.elim
end
end Q

set_option Elab.async false
set_option linter.all false
set_option maxRecDepth 100000
set_option maxHeartbeats 4000000
/-! QChk: when a piece of syntax is a piece of the small form. -/
namespace Q
open PySem PySem.Spec PyProof.Rows L2

def notStar : Expr → Bool
  | .Starred _ _ => false
  | _ => true
def notSlice : Expr → Bool
  | .Slice _ _ _ _ => false
  | _ => true
def notCall : Expr → Bool
  | .Call _ _ _ _ => false
  | _ => true
def notComp : Expr → Bool
  | .ListComp _ _ _ _ => false
  | .SetComp _ _ _ _ => false
  | .DictComp _ _ _ _ _ => false
  | _ => true
def notSet : Expr → Bool
  | .Set _ _ _ => false
  | _ => true
def notTup : Expr → Bool
  | .Tuple _ _ _ => false
  | .List _ _ => false
  | _ => true
def isNm : Expr → Bool
  | .Name _ _ => true
  | _ => false
def plainTest : Expr → Bool
  | .UnaryOp _ _ _ => false
  | .BoolOp _ _ _ => false
  | .IfExp _ _ _ _ => false
  | .Compare _ _ _ _ => false
  | _ => true

theorem star_cons {e : Expr} {es : List Expr} {env : Env} (h : notStar e = true) : starEach (e :: es) env = (false, eval e env) :: starEach es env := by
  cases e <;> first | rfl | (simp [notStar] at h)
theorem star_any {pos : Pos} {env : Env} : ∀ {es : List Expr}, es.all notStar = true → (backTo pos (starEach es env)).any (·.1) = false
  | [], _ => rfl
  | e :: es, h => by
    rw [List.all_cons, Bool.and_eq_true] at h
    rw [star_cons h.1]
    show (false || (backTo pos (starEach es env)).any (·.1)) = false
    rw [star_any h.2]; rfl
theorem star_all {pos : Pos} {env : Env} : ∀ {es : List Expr}, es.all notStar = true → (backTo pos (starEach es env)).all (fun x => !x.1) = true
  | [], _ => rfl
  | e :: es, h => by
    rw [List.all_cons, Bool.and_eq_true] at h
    rw [star_cons h.1]
    show (!false && (backTo pos (starEach es env)).all (fun x => !x.1)) = true
    rw [star_all h.2]; rfl
theorem asg_cons {e : Expr} {es : List Expr} {env : Env} (h : notStar e = true) : assignEach (e :: es) env = (false, assign e env) :: assignEach es env := by
  cases e <;> first | rfl | (simp [notStar] at h)
theorem asg_len {env : Env} : ∀ {es : List Expr}, es.all notStar = true → (assignEach es env).length = es.length
  | [], _ => rfl
  | e :: es, h => by
    rw [List.all_cons, Bool.and_eq_true] at h
    rw [asg_cons h.1, List.length_cons, List.length_cons, asg_len h.2]
theorem asg_none {env : Env} : ∀ {es : List Expr}, es.all notStar = true → (assignEach es env).findIdx? (·.1) = none
  | [], _ => rfl
  | e :: es, h => by
    rw [List.all_cons, Bool.and_eq_true] at h
    rw [asg_cons h.1, List.findIdx?_cons, asg_none h.2]
    rfl
theorem plain_ix {e : Expr} (h : notSlice e = true) : PlainIx e := by
  intro o i
  cases e <;> first | rfl | (simp [notSlice] at h)
theorem sub_asg {o i : Expr} {env : Env} {pos : Pos} (h : notSlice i = true) : ∀ v, assign (.Subscript o i pos) env v = (do
      let ov ← holding [v] (eval o env)
      let iv ← holding [v, ov] (eval i env)
      standAt pos
      holding [v, ov, iv] (setItem ov iv v)
      release [v, ov, iv] []) := by
  intro v
  cases i <;> first | rfl | (simp [notSlice] at h)
theorem base_of {o : Expr} {a : Str} {env : Env} {w : Sem Value} (h : notCall o = true) : attributeBase o a env w = w := by
  cases o <;> first | rfl | (simp [notCall] at h)
theorem sw_of {e : Expr} {t : Option Expr} {l : Nat} {env : Env} (h : notComp e = true) : swapsWith e t l env = pure false := by
  cases e <;> first | rfl | (simp [notComp] at h)
theorem set_of {e : Expr} {env : Env} (h : notSet e = true) : ∀ x, foldedSetIterable e env x = pure x := by
  intro x
  cases e <;> first | rfl | (simp [notSet] at h)
theorem test_of {e : Expr} {env : Env} (h : plainTest e = true) : ∀ whole, isTrue e env whole = (do let v ← whole; standAt e.pos; holding [v] (truthy v)) := by
  intro w
  cases e <;> first | rfl | (simp [plainTest] at h)
theorem sst_of {t e : Expr} {env : Env} (h : notTup t = true ∨ notTup e = true) : swappedStores [t] e env = pure none := by
  rcases h with h | h
  · cases t <;> first | rfl | (simp [notTup] at h)
  · cases e <;> first | (cases t <;> rfl) | (simp [notTup] at h) | (cases t <;> rfl)
/-- the names that a swapped store would take -/
def swNames (sc : Scope) (ts : List Expr) : List Str :=
  let line := (ts.head?.map (·.pos.line)).getD 0
  ts.filterMap fun
    | .Name id pos => if sc.names.lookup id == some .local && pos.line == line then some id else none
    | _ => none
def noStar2 (vs : List Expr) : Bool := !(vs.any fun | .Starred .. => true | _ => false)
/-- two targets, two values: what the machine's look says (some (some names): stored from the right) -/
def swOut (sc : Scope) (ts vs : List Expr) : Option (Option (List Str)) :=
  if !(ts.length == 2 || ts.length == 3) || vs.length != ts.length then some none
  else if (vs.any fun | .Starred .. => true | _ => false) then some none
  else if (swNames sc ts).length != ts.length || (swNames sc ts).eraseDups.length != (swNames sc ts).length then some none
  else if vs.all (foldedForSure 8) then some none
  else if vs.all (constantsAlone 8) then none
  else some (some (swNames sc ts))
theorem sw_out {sc : Scope} {ts vs : List Expr} {env : Env} {k1 k2 : Nat} {p1 p2 : Pos} {r : Option (List Str)} (hs : env.scope = sc) (hk : sc.kind = .function) (h : swOut sc ts vs = some r) :
    swappedStores [.Tuple ts k1 p1] (.Tuple vs k2 p2) env = pure r := by
  subst hs
  have hb : env.blockKind = .function := by unfold Env.blockKind; rw [hk]; rfl
  unfold swappedStores
  simp only [hb]
  unfold swOut at h
  by_cases c1 : (!(ts.length == 2 || ts.length == 3) || vs.length != ts.length) = true
  · rw [if_pos c1] at h
    cases h
    exact if_pos (by rw [c1]; rfl)
  · rw [if_neg c1] at h
    have c1' : (!(ts.length == 2 || ts.length == 3) || vs.length != ts.length) = false := Bool.eq_false_iff.mpr c1
    refine (if_neg (by rw [c1']; exact Bool.false_ne_true)).trans ?_
    by_cases c2 : (vs.any fun | .Starred .. => true | _ => false) = true
    · rw [if_pos c2] at h
      cases h
      exact if_pos c2
    · rw [if_neg c2] at h
      refine (if_neg c2).trans ?_
      by_cases c3 : ((swNames env.scope ts).length != ts.length || (swNames env.scope ts).eraseDups.length != (swNames env.scope ts).length) = true
      · rw [if_pos c3] at h
        cases h
        exact if_pos c3
      · rw [if_neg c3] at h
        refine (if_neg c3).trans ?_
        by_cases c4 : vs.all (foldedForSure 8) = true
        · rw [if_pos c4] at h
          cases h
          exact if_pos c4
        · rw [if_neg c4] at h
          refine (if_neg c4).trans ?_
          by_cases c5 : vs.all (constantsAlone 8) = true
          · rw [if_pos c5] at h; cases h
          · rw [if_neg c5] at h
            cases h
            exact if_neg c5
/-- whether name = [..] takes the comprehension's own road -/
def swLc (sc : Scope) (y : Str) (py vpos : Pos) (scope : Scope) : Bool :=
  sc.names.lookup y == some .local && py.line == vpos.line && !(scope.names.any fun (n, k) => n == y && (k == .local || k == .cell))
theorem sw_lc {sc : Scope} {elt : Expr} {gs : List Comprehension} {scope : Scope} {pos py : Pos} {y : Str} {l : Nat} {env : Env} (hs : env.scope = sc) (hk : sc.kind = .function) :
    swapsWith (.ListComp elt gs scope pos) (some (.Name y py)) l env = pure (swLc sc y py pos scope) := by
  have hb : env.blockKind = .function := by unfold Env.blockKind; rw [hs, hk]; rfl
  unfold swapsWith swLc
  simp only [hb, Env.kindOf, hs, Expr.pos] <;> rfl

/-! ### the look -/
def visB (sc : Scope) (x : Str) : Bool :=
  match sc.names.lookup x with
  | some .local => true
  | some .cell => true
  | some .free => true
  | _ => false
theorem vis_of {sc : Scope} {x : Str} (h : visB sc x = true) : Vis sc x := by
  unfold visB at h
  split at h <;> first | (rename_i e; first | exact .inl e | exact .inr (.inl e) | exact .inr (.inr e)) | cases h
def okName (x : Str) : Bool := !(x == ("__debug__" : Str)) && !(x == ("__classdict__" : Str)) && !(x == ("__name__" : Str))
def globB (sc : Scope) (x : Str) : Bool := okName x && (match sc.names.lookup x with | some .globalImplicit => true | _ => false)
/-- a name that may be stored: a local, or a cell of our own -/
def stoB (sc : Scope) (sf : Str → Bool) (x : Str) : Bool :=
  match sc.names.lookup x with
  | some .local => true
  | some .cell => sf x
  | _ => false
def bopB : BO → Operator → Bool
  | .add, .Add => true | .sub, .Sub => true | .mul, .Mult => true | .div, .FloorDiv => true | .mod, .Mod => true | .pow, .Pow => true
  | _, _ => false
def copB : CO → CmpOp → Bool
  | .eq, .Eq => true | .ne, .NotEq => true | .lt, .Lt => true | .le, .LtE => true | .gt, .Gt => true | .ge, .GtE => true | .isin, .In => true | .notin, .NotIn => true
  | _, _ => false
theorem bopB_eq {o : BO} {p : Operator} (h : bopB o p = true) : p = bopOp o := by cases o <;> cases p <;> first | rfl | (simp [bopB] at h)
theorem copB_eq {o : CO} {p : CmpOp} (h : copB o p = true) : p = copOp o := by cases o <;> cases p <;> first | rfl | (simp [copB] at h)
def biName : Bi → Str
  | .len => "len" | .abs => "abs" | .max => "max" | .min => "min" | .sum => "sum" | .any => "any" | .all => "all" | .int => "int" | .str => "str" | .tuple => "tuple" | .list => "list"
def meName : Me → Str
  | .append => "append" | .extend => "extend" | .pop => "pop" | .join => "join"
def meB : Me → Bool
  | .append => true | .extend => true | .pop => true | .join => false
def augB : BO → Operator → Bool
  | .add, .Add => true | .sub, .Sub => true | .div, .FloorDiv => true
  | _, _ => false
mutual
def nmsT : T → List Nat
  | .name i => [i]
  | .tup ts => nmsTs ts
  | .sub _ _ => []
def nmsTs : Ts → List Nat
  | .nil => []
  | .cons t ts => nmsT t ++ nmsTs ts
end
/-! a target of names alone -/
mutual
def tnm : T → Bool
  | .name _ => true
  | .tup ts => tnms ts
  | .sub _ _ => false
def tnms : Ts → Bool
  | .nil => true
  | .cons t ts => tnm t && tnms ts
end
variable (N : List Str) (bl : List Str) (xc : List Str)
mutual
def chkE : E → Scope → (Str → Bool) → Expr → Bool
  | .var i, sc, sf, e' =>
    match e' with
    | .Name x _ => decide (N[i]? = some x) && visB sc x && okName x
    | _ => false
  | .int i, sc, sf, e' =>
    match e' with
    | .Constant (.int j) _ _ => decide (i = j)
    | _ => false
  | .str i, sc, sf, e' =>
    match e' with
    | .Constant (.str j) _ _ => decide (i = j)
    | _ => false
  | .bl i, sc, sf, e' =>
    match e' with
    | .Constant (.bool j) _ _ => i == j
    | _ => false
  | .non, sc, sf, e' =>
    match e' with
    | .Constant .none _ _ => true
    | _ => false
  | .glob x, sc, sf, e' =>
    match e' with
    | .Name y _ => decide (x = y) && globB sc x
    | _ => false
  | .bop o a b, sc, sf, e' =>
    match e' with
    | .BinOp a' o' b' _ => bopB o o' && chkE a sc sf a' && chkE b sc sf b'
    | _ => false
  | .neg a, sc, sf, e' =>
    match e' with
    | .UnaryOp .USub a' _ => chkE a sc sf a'
    | _ => false
  | .cmp o a b, sc, sf, e' =>
    match e' with
    | .Compare a' [o'] [b'] _ => copB o o' && !behindInMarks o' b' && chkE a sc sf a' && chkE b sc sf b'
    | _ => false
  | .cmp2 o p a b c, sc, sf, e' =>
    match e' with
    | .Compare a' [o', p'] [b', c'] _ => copB o o' && copB p p' && !lastMarks [o', p'] [b', c'] && chkE a sc sf a' && chkE b sc sf b' && chkE c sc sf c'
    | _ => false
  | .isN a, sc, sf, e' =>
    match e' with
    | .Compare a' [.Is] [.Constant .none _ _] _ => chkE a sc sf a'
    | _ => false
  | .notN a, sc, sf, e' =>
    match e' with
    | .Compare a' [.IsNot] [.Constant .none _ _] _ => chkE a sc sf a'
    | _ => false
  | .andE a b, sc, sf, e' =>
    match e' with
    | .BoolOp .And [x, y] _ => chkE a sc sf x && chkE b sc sf y
    | .BoolOp .And (x :: y :: z :: r) pos => chkE a sc sf x && chkE b sc sf (.BoolOp .And (y :: z :: r) pos)
    | _ => false
  | .orE a b, sc, sf, e' =>
    match e' with
    | .BoolOp .Or [x, y] _ => chkE a sc sf x && chkE b sc sf y
    | .BoolOp .Or (x :: y :: z :: r) pos => chkE a sc sf x && chkE b sc sf (.BoolOp .Or (y :: z :: r) pos)
    | _ => false
  | .notE a, sc, sf, e' =>
    match e' with
    | .UnaryOp .Not a' _ => chkE a sc sf a'
    | _ => false
  | .ite t a b, sc, sf, e' =>
    match e' with
    | .IfExp t' a' b' _ => chkT t sc sf t' && chkE a sc sf a' && chkE b sc sf b'
    | _ => false
  | .tup es, sc, sf, e' =>
    match e' with
    | .Tuple l _ _ => chkEs es sc sf l
    | _ => false
  | .lst es, sc, sf, e' =>
    match e' with
    | .List l _ => chkEs es sc sf l
    | _ => false
  | .idx a i, sc, sf, e' =>
    match e' with
    | .Subscript a' i' _ => notSlice i' && chkE a sc sf a' && chkE i sc sf i'
    | _ => false
  | .slc a lo hi, sc, sf, e' =>
    match e' with
    | .Subscript a' (.Slice lo' hi' none _) _ => chkE a sc sf a' && chkO lo sc sf lo' && chkO hi sc sf hi'
    | _ => false
  | .rev a, sc, sf, e' =>
    match e' with
    | .Subscript a' (.Slice none none (some (.UnaryOp .USub (.Constant (.int 1) _ _) _)) _) _ => chkE a sc sf a'
    | _ => false
  | .call f es, sc, sf, e' =>
    match e' with
    | .Call (.Name x _) l [] _ => decide (f = x) && globB sc x && chkEs es sc sf l
    | _ => false
  | .callL i es, sc, sf, e' =>
    match e' with
    | .Call (.Name x _) l [] _ => decide (N[i]? = some x) && visB sc x && okName x && !l.isEmpty && chkEs es sc sf l
    | _ => false
  | .bi f es, sc, sf, e' =>
    match e' with
    | .Call (.Name x _) l [] _ => decide (biName f = x) && decide (x ∈ bl) && globB sc x && !l.isEmpty && chkEs es sc sf l
    | _ => false
  | .meth m a es, sc, sf, e' =>
    match e' with
    | .Call (.Attribute a' x ap) l [] cp => decide (meName m = x) && meB m && notCall a' && (ap.endLine == cp.line) && decide (l.length < 20) && chkE a sc sf a' && chkEs es sc sf l
    | _ => false
  | .isi a t, sc, sf, e' =>
    match e' with
    | .Call (.Name x _) [a', .Name y _] [] _ => decide (x = "isinstance") && decide (x ∈ bl) && globB sc x && decide (y = Str.ofString t) && decide (y ∈ bl) && globB sc y && isTy t && notStar a' && chkE a sc sf a'
    | _ => false
  | .lc e t it c own, sc, sf, e' =>
    match e' with
    | .ListComp e' [⟨t', it', cs, 0⟩] scope _ => chkI it sc sf it' && notSet it' && blkC N sc scope own && tnm t && (nmsT t).all (fun i => (own.map (·.2)).contains i) && chkTg t (relS scope sc) (fun x => scope.names.lookup x == some .cell) t' && chkC c (relS scope sc) (fun x => scope.names.lookup x == some .cell) cs && chkE e (relS scope sc) (fun x => scope.names.lookup x == some .cell) e'
    | _ => false
  | .tst _, _, _, _ => false
def chkEs : Es → Scope → (Str → Bool) → List Expr → Bool
  | .nil, sc, sf, e' =>
    match e' with
    | [] => true
    | _ => false
  | .cons e es, sc, sf, e' =>
    match e' with
    | x :: r => notStar x && chkE e sc sf x && chkEs es sc sf r
    | _ => false
def chkO : Oe → Scope → (Str → Bool) → Option Expr → Bool
  | .none, sc, sf, e' =>
    match e' with
    | none => true
    | _ => false
  | .some e, sc, sf, e' =>
    match e' with
    | some x => chkE e sc sf x
    | _ => false
def chkC : Oe → Scope → (Str → Bool) → List Expr → Bool
  | .none, sc, sf, e' =>
    match e' with
    | [] => true
    | _ => false
  | .some e, sc, sf, e' =>
    match e' with
    | [x] => chkT e sc sf x
    | _ => false
def chkT : E → Scope → (Str → Bool) → Expr → Bool
  | .andE a b, sc, sf, e' =>
    match e' with
    | .BoolOp .And [x, y] _ => chkT a sc sf x && chkT b sc sf y
    | .BoolOp .And (x :: y :: z :: r) pos => chkT a sc sf x && chkT b sc sf (.BoolOp .And (y :: z :: r) pos)
    | _ => false
  | .orE a b, sc, sf, e' =>
    match e' with
    | .BoolOp .Or [x, y] _ => chkT a sc sf x && chkT b sc sf y
    | .BoolOp .Or (x :: y :: z :: r) pos => chkT a sc sf x && chkT b sc sf (.BoolOp .Or (y :: z :: r) pos)
    | _ => false
  | .notE a, sc, sf, e' =>
    match e' with
    | .UnaryOp .Not a' _ => chkT a sc sf a'
    | _ => false
  | .tst (.cmp o a b), sc, sf, e' => chkE (.cmp o a b) sc sf e'
  | .tst (.cmp2 o p a b c), sc, sf, e' => chkE (.cmp2 o p a b c) sc sf e'
  | .tst (.isN a), sc, sf, e' => chkE (.isN a) sc sf e'
  | .tst (.notN a), sc, sf, e' => chkE (.notN a) sc sf e'
  | .tst e, sc, sf, e' => plainTest e' && chkE e sc sf e'
  | _, _, _, _ => false
def chkTg : T → Scope → (Str → Bool) → Expr → Bool
  | .name i, sc, sf, e' =>
    match e' with
    | .Name x _ => decide (N[i]? = some x) && stoB sc sf x
    | _ => false
  | .tup ts, sc, sf, e' =>
    match e' with
    | .Tuple l _ _ => chkTs ts sc sf l
    | _ => false
  | .sub o i, sc, sf, e' =>
    match e' with
    | .Subscript o' i' _ => notSlice i' && chkE o sc sf o' && chkE i sc sf i'
    | _ => false
def chkTs : Ts → Scope → (Str → Bool) → List Expr → Bool
  | .nil, sc, sf, e' =>
    match e' with
    | [] => true
    | _ => false
  | .cons t ts, sc, sf, e' =>
    match e' with
    | x :: r => notStar x && chkTg t sc sf x && chkTs ts sc sf r
    | _ => false
def chkI : It → Scope → (Str → Bool) → Expr → Bool
  | .seq a, sc, sf, e' =>
    match e' with
    | x => chkE a sc sf x
  | .rng1 a, sc, sf, e' =>
    match e' with
    | .Call (.Name x _) [a'] [] _ => decide (x = "range") && decide (x ∈ bl) && globB sc x && notStar a' && chkE a sc sf a'
    | _ => false
  | .rng2 a b, sc, sf, e' =>
    match e' with
    | .Call (.Name x _) [a', b'] [] _ => decide (x = "range") && decide (x ∈ bl) && globB sc x && notStar a' && notStar b' && chkE a sc sf a' && chkE b sc sf b'
    | _ => false
  | .down a, sc, sf, e' =>
    match e' with
    | .Call (.Name x _) [a', .UnaryOp .USub (.Constant (.int 1) _ _) _, .UnaryOp .USub (.Constant (.int 1) _ _) _] [] _ => decide (x = "range") && decide (x ∈ bl) && globB sc x && notStar a' && chkE a sc sf a'
    | _ => false
  | .enm _, _, _, _ => false
end
mutual
def chkS : S → Scope → Stmt → Bool
  | .asg t e, sc, e' =>
    match e' with
    | .Assign [t'] e2 _ => notComp e2 && notStar t' && (notTup t' || notTup e2 || (match t', e2 with | .Tuple ts _ _, .Tuple vs _ _ => decide (swOut sc ts vs = some none) | _, _ => false)) && chkTg N bl t sc (fun _ => true) t' && chkE N bl e sc (fun _ => true) e2
    | _ => false
  | .setlc i e, sc, e' =>
    match e, e' with
    | .lc a t it c own, .Assign [.Name y py] (.ListComp a' gs scope vp) _ => decide (N[i]? = some y) && stoB sc (fun _ => true) y && chkE N bl (.lc a t it c own) sc (fun _ => true) (.ListComp a' gs scope vp)
    | _, _ => false
  | .par i j a b, sc, e' =>
    match e' with
    | .Assign [.Tuple [.Name x px, .Name y py] _ _] (.Tuple [a', b'] _ _) _ => decide (N[i]? = some x) && decide (N[j]? = some y) && i != j && notStar a' && notStar b' && chkE N bl a sc (fun _ => true) a' && chkE N bl b sc (fun _ => true) b' && ((decide (swOut sc [.Name x px, .Name y py] [a', b'] = some (some [x, y])) && decide (sc.names.lookup x = some .local) && decide (sc.names.lookup y = some .local)) || (decide (swOut sc [.Name x px, .Name y py] [a', b'] = some none) && stoB sc (fun _ => true) x && stoB sc (fun _ => true) y))
    | _ => false
  | .aug i o e, sc, e' =>
    match e' with
    | .AugAssign (.Name x _) o' e' _ => decide (N[i]? = some x) && augB o o' && stoB sc (fun _ => true) x && chkE N bl e sc (fun _ => true) e'
    | _ => false
  | .ret e, sc, e' =>
    match e' with
    | .Return (some e') _ => chkE N bl e sc (fun _ => true) e'
    | _ => false
  | .retN, sc, e' =>
    match e' with
    | .Return none _ => true
    | _ => false
  | .ifs t a b, sc, e' =>
    match e' with
    | .If t' a' b' _ => chkT N bl t sc (fun _ => true) t' && chkSs a sc a' && chkSs b sc b'
    | _ => false
  | .fors t it b, sc, e' =>
    match e' with
    | .For t' it' b' [] _ => chkTg N bl t sc (fun _ => true) t' && chkI N bl it sc (fun _ => true) it' && notSet it' && chkSs b sc b'
    | _ => false
  | .whl t b, sc, e' =>
    match e' with
    | .While t' b' [] _ => chkT N bl t sc (fun _ => true) t' && chkSs b sc b'
    | _ => false
  | .ex e, sc, e' =>
    match e' with
    | .Expr e' _ => notComp e' && chkE N bl e sc (fun _ => true) e'
    | _ => false
  | .doc, sc, e' =>
    match e' with
    | .Expr (.Constant (.str _) _ _) _ => true
    | _ => false
  | .raise c m, sc, e' =>
    match e' with
    | .Raise (some (.Call (.Name x _) [.Constant (.str y) _ _] [] _)) none _ => decide (c = x) && decide (m = y) && decide (x ∈ xc) && globB sc x
    | _ => false
  | .pass, sc, e' =>
    match e' with
    | .Pass _ => true
    | _ => false
  | .brk, sc, e' =>
    match e' with
    | .Break _ => true
    | _ => false
  | .cont, sc, e' =>
    match e' with
    | .Continue _ => true
    | _ => false
  | .nev, sc, e' =>
    match e' with
    | _ => true
def chkSs : Ss → Scope → List Stmt → Bool
  | .nil, sc, e' =>
    match e' with
    | [] => true
    | _ => false
  | .cons s ss, sc, e' =>
    match e' with
    | x :: r => chkS s sc x && chkSs ss sc r
    | _ => false
end
end Q

set_option Elab.async false
set_option linter.all false
set_option maxRecDepth 100000
set_option maxHeartbeats 8000000
/-! QSound: what wp says holds of the machine: expressions. -/
namespace Q
open PySem PySem.Spec PyProof.Rows L2

structure Pm where
  M : Md
  G : Gm
  Ex : ExS
  m0 : List Addr
  H0 : Hp

structure SlR (M : Md) (μ : List Addr) (H : Hp) (σe : Sl) (σ : L2.St) : Prop where
  len : σe.length = σ.length
  get : ∀ (i : Nat) (u : U), σe[i]? = some (some u) → ∃ v, σ[i]? = some (some v) ∧ Rep M μ H u v
structure StR (p : Pm) (μ : List Addr) (H : Hp) (S : Sto) (σe : Sl) (σ : L2.St) : Prop where
  st : Step p.m0 p.H0 μ H
  ok : StoreOk p.M μ H S
  sl : SlR p.M μ H σe σ
theorem SlR.mono {M : Md} {μ μ' : List Addr} {H H' : Hp} {σe : Sl} {σ : L2.St} (s : SlR M μ H σe σ) (k : Step μ H μ' H') (hl : Lsts μ H) : SlR M μ' H' σe σ :=
  ⟨s.len, fun i u e => let ⟨v, h, r⟩ := s.get i u e; ⟨v, h, rep_mono k hl u v r⟩⟩
theorem StR.next {p : Pm} {μ μ' : List Addr} {H H' : Hp} {S S' : Sto} {σe : Sl} {σ : L2.St} (s : StR p μ H S σe σ) (k : Step μ H μ' H') (ok : StoreOk p.M μ' H' S') : StR p μ' H' S' σe σ :=
  ⟨s.st.trans k, ok, s.sl.mono k s.ok.lsts⟩
theorem SlR.set {M : Md} {μ : List Addr} {H : Hp} {σe : Sl} {σ : L2.St} {u : U} {v : V} (s : SlR M μ H σe σ) (i : Nat) (r : Rep M μ H u v) : SlR M μ H (σe.set i (some u)) (σ.set i (some v)) := by
  refine ⟨by rw [List.length_set, List.length_set, s.len], fun j w e => ?_⟩
  by_cases h : i = j
  · subst h
    by_cases hl : i < σe.length
    · rw [List.getElem?_set_self hl] at e
      cases e
      exact ⟨v, by rw [List.getElem?_set_self (by rw [← s.len]; exact hl)], r⟩
    · rw [List.getElem?_eq_none (by rw [List.length_set]; omega)] at e; cases e
  · rw [List.getElem?_set_ne h] at e
    obtain ⟨x, a, b⟩ := s.get j w e
    exact ⟨x, by rw [List.getElem?_set_ne h]; exact a, b⟩

/-- a promise of plain values, told of the heap -/
def ExR (M : Md) (c : Str) (q : List (Str × U)) (cls : Value) (d : Option Addr) : Prop := q = [] ∧ d = none ∧ ∃ a, cls = .ref a ∧ M.mg c = some (.ref a)
def spU (M : Md) (sp : FSpec) : Sp := fun vs H Q E => ∃ μ S us, StoreOk M μ H S ∧ RepL M μ H us vs ∧ sp us S (Aft M μ H Q) fun c q S2 => ∀ μ2 H2 cls d, Step μ H μ2 H2 → StoreOk M μ2 H2 S2 → ExR M c q cls d → E cls d H2

structure ExcOk (M : Md) (c : Str) : Prop where
  ex : ∃ C, M.mg c = some (.ref C) ∧ PySem.W.keepIn M.K (.ref C) = true ∧ PySem.W.subIn M.K (.ref C) (.type "BaseException") = some true ∧ PySem.W.typeIn M.K (.ref C) = some (.type "type") ∧
    ∃ bm, PySem.W.excIn M.K C bm "ValueError.__new__" = true ∧ bm = [.type "ValueError", .type "Exception", .type "BaseException", .type "object"]

/-- the context of a piece of a def -/
structure GX (p : Pm) (k : Nat) (N bl xc : List Str) (sc : Scope) (sf : Str → Bool) (X : Cx) : Prop where
  hK : X.K = p.M.K
  hmg : X.mg = p.M.mg
  hN : X.N = N
  nd : N.Nodup
  hsc : X.env.scope = sc
  knd : sc.kind = .function
  calm : X.calm = true
  room : Room k X.A
  fn : ∀ x, sf x = true → X.fn x = true
  gm : GMono p.G
  fns : ∀ f sp, p.G.fns f = some sp → ∃ fa fd ps, p.M.mg f = some (.ref fa) ∧ PySem.W.keepIn X.K (.ref fa) = true ∧ FnOk X.prog X.w X.K X.mg X.base (L2.CX X.prog X.w) k fa fd ps (spU p.M sp) ∧ Binds X.K fd ps []
  cts : ∀ x u, p.G.cts x = some u → ∃ w v, p.M.mg x = some w ∧ RelV v w ∧ ∀ μ H, Rep p.M μ H u v
  blt : ∀ x ∈ bl, p.M.mg x = none
  exc : ∀ c ∈ xc, ExcOk p.M c
  tk : ∃ W, Takes X W ∧ ∀ c q σe S cls d σ H μ, StR p μ H S σe σ → ExR p.M c q cls d → p.Ex c q σe S → W cls d σ H
  po : PassesOwn (model X.prog X.w) X.A X.env X.xe

/-! ### the readings -/
def tE (p : Pm) (e : E) : TE := fun σ H Q => ∃ μ S σe, StR p μ H S σe σ ∧ wpE p.G e p.Ex σe S (Aft p.M μ H Q)
def AftT (M : Md) (μ : List Addr) (H : Hp) (Q : Bool → Hp → Prop) : Bool → Sto → Prop := fun b S2 => ∀ μ2 H2, Step μ H μ2 H2 → StoreOk M μ2 H2 S2 → Q b H2
def tT (p : Pm) (e : E) : TT := fun σ H Q => ∃ μ S σe, StR p μ H S σe σ ∧ wpT p.G e p.Ex σe S (AftT p.M μ H Q)
def tC2 (p : Pm) (e : Oe) : TT := fun σ H Q => ∃ μ S σe, StR p μ H S σe σ ∧ wpC p.G e p.Ex σe S (AftT p.M μ H Q)
def AftA (M : Md) (μ : List Addr) (H : Hp) (Q : List V → Hp → Prop) : List U → Sto → Prop := fun us S2 => ∀ μ2 H2 vs, Step μ H μ2 H2 → StoreOk M μ2 H2 S2 → RepL M μ2 H2 us vs → Q vs H2
def tA (p : Pm) (es : Es) : TA := fun σ H Q => ∃ μ S σe, StR p μ H S σe σ ∧ wpEs p.G es p.Ex σe S (AftA p.M μ H Q)
def AftO (M : Md) (μ : List Addr) (H : Hp) (Q : Option Int → Hp → Prop) : Option Int → Sto → Prop := fun o S2 => ∀ μ2 H2, Step μ H μ2 H2 → StoreOk M μ2 H2 S2 → Q o H2
def tOp2 (p : Pm) (e : Oe) : TO := fun σ H Q => ∃ μ S σe, StR p μ H S σe σ ∧ wpO p.G e p.Ex σe S (AftO p.M μ H Q)
/-- only these slots are changed -/
def Chg (l : List Nat) (σ σ' : L2.St) : Prop := σ'.length = σ.length ∧ ∀ i, i ∉ l → σ'[i]? = σ[i]?
def AftG (M : Md) (μ : List Addr) (H : Hp) (l : List Nat) (σ : L2.St) (Q : L2.St → Hp → Prop) : Sl → Sto → Prop := fun σe S2 => ∀ μ2 H2 σ2, Step μ H μ2 H2 → StoreOk M μ2 H2 S2 → SlR M μ2 H2 σe σ2 → Chg l σ σ2 → Q σ2 H2
def tGt (p : Pm) (t : T) : TG := fun v σ H Q => ∃ μ S σe u, StR p μ H S σe σ ∧ Rep p.M μ H u v ∧ wpTg p.G t p.Ex u σe S (AftG p.M μ H (nmsT t) σ Q)
def tGs (p : Pm) (t : Ts) : TGs := fun vs σ H Q => ∃ μ S σe us, StR p μ H S σe σ ∧ RepL p.M μ H us vs ∧ wpTs p.G t p.Ex us σe S (AftG p.M μ H (nmsTs t) σ Q)
/-- what is walked, as the machine walks it -/
structure SrR (M : Md) (μ1 : List Addr) (H1 : Hp) (s : Src) (J : L2.It) : Prop where
  go : ∀ μ H S i, Step μ1 H1 μ H → StoreOk M μ H S → s.grd S → i < s.vals.length → J.go i H
  stop : ∀ μ H S i, Step μ1 H1 μ H → StoreOk M μ H S → s.grd S → s.vals.length ≤ i → J.stop i H
  yld : ∀ μ H S i x H' u, Step μ1 H1 μ H → StoreOk M μ H S → s.grd S → s.vals[i]? = some u → J.yld i H x H' → Step μ H μ H' ∧ StoreOk M μ H' S ∧ Rep M μ H' u x
def tIt (p : Pm) (t : Q.It) : TI := fun σ H R => ∃ μ S σe, StR p μ H S σe σ ∧ wpI p.G t p.Ex σe S fun src S2 => ∀ μ2 H2 J, Step μ H μ2 H2 → StoreOk p.M μ2 H2 S2 → SrR p.M μ2 H2 src J → R J H2

section
variable {p : Pm} {μ μ1 : List Addr} {H H1 : Hp} {S S1 : Sto} {σe : Sl} {σ : L2.St}
theorem Aft.step {M : Md} {Q : VK} {w : U} (h : Aft M μ H Q w S) (k : Step μ H μ1 H1) : Aft M μ1 H1 Q w S := fun μ2 H2 z s o r => h μ2 H2 z (k.trans s) o r
theorem AftT.step {M : Md} {Q : Bool → Hp → Prop} {w : Bool} (h : AftT M μ H Q w S) (k : Step μ H μ1 H1) : AftT M μ1 H1 Q w S := fun μ2 H2 s o => h μ2 H2 (k.trans s) o
theorem AftA.step {M : Md} {Q : List V → Hp → Prop} {w : List U} (h : AftA M μ H Q w S) (k : Step μ H μ1 H1) : AftA M μ1 H1 Q w S := fun μ2 H2 z s o r => h μ2 H2 z (k.trans s) o r
theorem AftO.step {M : Md} {Q : Option Int → Hp → Prop} {w : Option Int} (h : AftO M μ H Q w S) (k : Step μ H μ1 H1) : AftO M μ1 H1 Q w S := fun μ2 H2 s o => h μ2 H2 (k.trans s) o
theorem tE_of (gm : GMono p.G) {e : E} {Q : VK} (st : StR p μ H S σe σ) {K : Ks} (h : wpE p.G e p.Ex σe S K) (hK : ∀ u S2, K u S2 → ∀ μ2 H2 v, Step μ H μ2 H2 → StoreOk p.M μ2 H2 S2 → Rep p.M μ2 H2 u v → Q v H2) : tE p e σ H Q :=
  ⟨μ, S, σe, st, wpE_mono gm e (fun _ _ _ _ z => z) (fun u S2 k => hK u S2 k) h⟩
theorem tT_of (gm : GMono p.G) {e : E} {Q : Bool → Hp → Prop} (st : StR p μ H S σe σ) {K : Bool → Sto → Prop} (h : wpT p.G e p.Ex σe S K) (hK : ∀ b S2, K b S2 → ∀ μ2 H2, Step μ H μ2 H2 → StoreOk p.M μ2 H2 S2 → Q b H2) : tT p e σ H Q :=
  ⟨μ, S, σe, st, wpT_mono gm e (fun _ _ _ _ z => z) (fun u S2 k => hK u S2 k) h⟩
theorem tC_of (gm : GMono p.G) {e : Oe} {Q : Bool → Hp → Prop} (st : StR p μ H S σe σ) {K : Bool → Sto → Prop} (h : wpC p.G e p.Ex σe S K) (hK : ∀ b S2, K b S2 → ∀ μ2 H2, Step μ H μ2 H2 → StoreOk p.M μ2 H2 S2 → Q b H2) : tC2 p e σ H Q :=
  ⟨μ, S, σe, st, wpC_mono gm e (fun _ _ _ _ z => z) (fun u S2 k => hK u S2 k) h⟩
theorem tA_of (gm : GMono p.G) {e : Es} {Q : List V → Hp → Prop} (st : StR p μ H S σe σ) {K : List U → Sto → Prop} (h : wpEs p.G e p.Ex σe S K) (hK : ∀ us S2, K us S2 → ∀ μ2 H2 vs, Step μ H μ2 H2 → StoreOk p.M μ2 H2 S2 → RepL p.M μ2 H2 us vs → Q vs H2) : tA p e σ H Q :=
  ⟨μ, S, σe, st, wpEs_mono gm e (fun _ _ _ _ z => z) (fun u S2 k => hK u S2 k) h⟩
theorem tO_of (gm : GMono p.G) {e : Oe} {Q : Option Int → Hp → Prop} (st : StR p μ H S σe σ) {K : Option Int → Sto → Prop} (h : wpO p.G e p.Ex σe S K) (hK : ∀ o S2, K o S2 → ∀ μ2 H2, Step μ H μ2 H2 → StoreOk p.M μ2 H2 S2 → Q o H2) : tOp2 p e σ H Q :=
  ⟨μ, S, σe, st, wpO_mono gm e (fun _ _ _ _ z => z) (fun u S2 k => hK u S2 k) h⟩
theorem tG_of (gm : GMono p.G) {t : T} {u : U} {v : V} {Q : L2.St → Hp → Prop} (st : StR p μ H S σe σ) (r : Rep p.M μ H u v) {K : Sl → Sto → Prop} (h : wpTg p.G t p.Ex u σe S K)
    (hK : ∀ σe2 S2, K σe2 S2 → ∀ μ2 H2 σ2, Step μ H μ2 H2 → StoreOk p.M μ2 H2 S2 → SlR p.M μ2 H2 σe2 σ2 → Chg (nmsT t) σ σ2 → Q σ2 H2) : tGt p t v σ H Q :=
  ⟨μ, S, σe, u, st, r, wpTg_mono gm t (fun _ _ _ _ z => z) (fun u S2 k => hK u S2 k) h⟩
theorem tGs_of (gm : GMono p.G) {t : Ts} {us : List U} {vs : List V} {Q : L2.St → Hp → Prop} (st : StR p μ H S σe σ) (r : RepL p.M μ H us vs) {K : Sl → Sto → Prop} (h : wpTs p.G t p.Ex us σe S K)
    (hK : ∀ σe2 S2, K σe2 S2 → ∀ μ2 H2 σ2, Step μ H μ2 H2 → StoreOk p.M μ2 H2 S2 → SlR p.M μ2 H2 σe2 σ2 → Chg (nmsTs t) σ σ2 → Q σ2 H2) : tGs p t vs σ H Q :=
  ⟨μ, S, σe, us, st, r, wpTs_mono gm t (fun _ _ _ _ z => z) (fun u S2 k => hK u S2 k) h⟩
theorem tI_of (gm : GMono p.G) {t : Q.It} {R : L2.It → Hp → Prop} (st : StR p μ H S σe σ) {K : Src → Sto → Prop} (h : wpI p.G t p.Ex σe S K)
    (hK : ∀ src S2, K src S2 → ∀ μ2 H2 J, Step μ H μ2 H2 → StoreOk p.M μ2 H2 S2 → SrR p.M μ2 H2 src J → R J H2) : tIt p t σ H R :=
  ⟨μ, S, σe, st, wpI_mono gm t (fun _ _ _ _ z => z) (fun u S2 k => hK u S2 k) h⟩
end
section
variable {X : Cx} {e : Expr}
theorem _root_.L2.PE.imp {t t' : TE} (h : PE X e t) (k : ∀ σ H Q, t' σ H Q → t σ H Q) : PE X e t' := ⟨fun pins s σ H Q I q => h.run pins s σ H Q I (k σ H Q q)⟩
theorem _root_.L2.PT.imp {t t' : TT} (h : PT X e t) (k : ∀ σ H Q, t' σ H Q → t σ H Q) : PT X e t' := ⟨fun pins s σ H Q I q => h.run pins s σ H Q I (k σ H Q q)⟩
theorem _root_.L2.PA.imp {es : List Expr} {t t' : TA} (h : PA X es t) (k : ∀ σ H Q, t' σ H Q → t σ H Q) : PA X es t' := ⟨fun pos pins s σ H Q I q => h.run pos pins s σ H Q I (k σ H Q q)⟩
theorem _root_.L2.PO.imp {o : Option Expr} {t t' : TO} (h : PO X o t) (k : ∀ σ H Q, t' σ H Q → t σ H Q) : PO X o t' := ⟨fun pins s σ H Q I q => h.run pins s σ H Q I (k σ H Q q)⟩
theorem _root_.L2.PTs.imp {o : List Expr} {t t' : TT} (h : PTs X o t) (k : ∀ σ H Q, t' σ H Q → t σ H Q) : PTs X o t' := ⟨fun pins s σ H Q I q => h.run pins s σ H Q I (k σ H Q q)⟩
theorem _root_.L2.PG.imp {t t' : TG} (h : PG X e t) (k : ∀ v σ H Q, t' v σ H Q → t v σ H Q) : PG X e t' := ⟨fun pins s σ H v u Q I r q => h.run pins s σ H v u Q I r (k v σ H Q q)⟩
theorem _root_.L2.PGs.imp {es : List Expr} {t t' : TGs} (h : PGs X es t) (k : ∀ v σ H Q, t' v σ H Q → t v σ H Q) : PGs X es t' := ⟨fun pins s σ H v u Q I r q => h.run pins s σ H v u Q I r (k v σ H Q q)⟩
theorem _root_.L2.PI.imp {tg : Expr} {t t' : TI} (h : PI X tg e t) (k : ∀ σ H R, t' σ H R → t σ H R) : PI X tg e t' := ⟨fun pins s σ H R I q => h.run pins s σ H R I (k σ H R q)⟩
end

section
variable {p : Pm} {k : Nat} {N bl xc : List Str} {sc : Scope} {sf : Str → Bool} {X : Cx}
theorem glob_of (g : GX p k N bl xc sc sf X) {x : Str} (h : globB sc x = true) : Gl X x ∧ (x == ("__debug__" : Str)) = false ∧ x ≠ "__name__" := by
  unfold globB okName at h
  simp only [Bool.and_eq_true, Bool.not_eq_true'] at h
  obtain ⟨⟨⟨h1, h2⟩, h3⟩, h4⟩ := h
  refine ⟨?_, h1, fun e => by subst e; simp at h3⟩
  show X.env.scope.names.lookup x = _
  rw [g.hsc]
  split at h4
  · assumption
  · cases h4
theorem ok_dbg {x : Str} (h : okName x = true) : (x == ("__debug__" : Str)) = false ∧ (x == ("__classdict__" : Str)) = false := by
  unfold okName at h
  simp only [Bool.and_eq_true, Bool.not_eq_true'] at h
  exact ⟨h.1.1, h.1.2⟩
theorem s_var (g : GX p k N bl xc sc sf X) {i : Nat} {x : Str} {pos : Pos} (h1 : N[i]? = some x) (h2 : visB sc x = true) (h3 : okName x = true) : PE X (.Name x pos) (tE p (.var i)) := by
  obtain ⟨a, b⟩ := ok_dbg h3
  refine (pe_var (i := i) (by rw [g.hN]; exact h1) (by rw [g.hsc]; exact vis_of h2) a b).imp fun σ H Q ⟨μ, S, σe, st, h⟩ => ?_
  rw [wpE] at h
  cases e : σe[i]? with
  | none => rw [e] at h; exact h.elim
  | some o =>
    cases o with
    | none => rw [e] at h; exact h.elim
    | some u =>
      rw [e] at h
      obtain ⟨v, hv, r⟩ := st.sl.get i u e
      exact ⟨v, hv, Aft.same h st.ok r⟩
theorem s_glob (g : GX p k N bl xc sc sf X) {x : Str} {pos : Pos} (h : globB sc x = true) : PE X (.Name x pos) (tE p (.glob x)) := by
  obtain ⟨a, b, _⟩ := glob_of g h
  cases e : p.G.cts x with
  | none =>
    refine ⟨fun pins s σ H Q I ⟨μ, S, σe, st, h⟩ => ?_⟩
    rw [wpE, e] at h
    exact h.elim
  | some u =>
    obtain ⟨w, v, hm, rv, hr⟩ := g.cts x u e
    refine (pe_glob a (by rw [g.hmg]; exact hm) rv b).imp fun σ H Q ⟨μ, S, σe, st, h⟩ => ?_
    rw [wpE, e] at h
    exact Aft.same h st.ok (hr μ H)
end
end Q

set_option Elab.async false
set_option linter.all false
set_option maxRecDepth 100000
set_option maxHeartbeats 8000000
/-! QSound2: one lemma for each form of expression. -/
namespace Q
open PySem PySem.Spec PyProof.Rows L2
section
variable {p : Pm} {k : Nat} {N bl xc : List Str} {sc : Scope} {sf : Str → Bool} {X : Cx} {a b c : Expr} {a' b' c' : E} {pos : Pos}
theorem s_int {i : Int} {j : Nat} : PE X (.Constant (.int i) j pos) (tE p (.int i)) := pe_int.imp fun σ H Q ⟨μ, S, σe, st, h⟩ => by
  rw [wpE] at h
  exact Aft.same h st.ok (repI i)
theorem s_str {i : Str} {j : Nat} : PE X (.Constant (.str i) j pos) (tE p (.str i)) := pe_str.imp fun σ H Q ⟨μ, S, σe, st, h⟩ => by
  rw [wpE] at h
  exact Aft.same h st.ok (repS i)
theorem s_bl {i : Bool} {j : Nat} : PE X (.Constant (.bool i) j pos) (tE p (.bl i)) := pe_bl.imp fun σ H Q ⟨μ, S, σe, st, h⟩ => by
  rw [wpE] at h
  exact Aft.same h st.ok (repB i)
theorem s_non {j : Nat} : PE X (.Constant .none j pos) (tE p .non) := pe_non.imp fun σ H Q ⟨μ, S, σe, st, h⟩ => by
  rw [wpE] at h
  exact Aft.same h st.ok repN
/-- two in a row -/
theorem two_of (gm : GMono p.G) {μ : List Addr} {H : Hp} {S : Sto} {σe : Sl} {σ : L2.St} {R : V → V → Hp → Prop} (st : StR p μ H S σe σ) {K : U → U → Sto → Prop} (h : wpE p.G a' p.Ex σe S fun u S1 => wpE p.G b' p.Ex σe S1 fun v S2 => K u v S2)
    (hK : ∀ u v S2, K u v S2 → ∀ μ2 H2 x y, Step μ H μ2 H2 → StoreOk p.M μ2 H2 S2 → Rep p.M μ2 H2 u x → Rep p.M μ2 H2 v y → R x y H2) :
    tE p a' σ H fun x H1 => tE p b' σ H1 fun y H2 => R x y H2 :=
  tE_of gm st h fun u S1 h1 μ1 H1 x s1 o1 r1 => tE_of gm (st.next s1 o1) h1 fun v S2 h2 μ2 H2 y s2 o2 r2 => hK u v S2 h2 μ2 H2 x y (s1.trans s2) o2 (rep_mono s2 o1.lsts u x r1) r2
theorem s_bop (g : GX p k N bl xc sc sf X) {o : BO} {op : Operator} (ho : bopB o op = true) (ha : PE X a (tE p a')) (hb : PE X b (tE p b')) : PE X (.BinOp a op b pos) (tE p (.bop o a' b')) := by
  obtain rfl := bopB_eq ho
  refine (pe_op (op_bop (M := p.M) g.hK o) ha hb).imp fun σ H Q ⟨μ, S, σe, st, h⟩ => ?_
  rw [wpE] at h
  exact two_of g.gm st h fun u v S2 h2 μ2 H2 x y s2 o2 r1 r2 => ⟨μ2, S2, u, v, o2, r1, r2, bop_mono (fun w S3 q => q.step s2) h2⟩
theorem s_neg (g : GX p k N bl xc sc sf X) (ha : PE X a (tE p a')) : PE X (.UnaryOp .USub a pos) (tE p (.neg a')) := by
  refine (pe_un un_neg ha).imp fun σ H Q ⟨μ, S, σe, st, h⟩ => ?_
  rw [wpE] at h
  refine tE_of g.gm st h fun u S1 h1 μ1 H1 x s1 o1 r1 => ?_
  cases u <;> first | exact h1.elim | skip
  rw [Rep] at r1
  exact ⟨_, r1, (Aft.step h1 s1).same o1 (repI _)⟩
theorem s_cmp (g : GX p k N bl xc sc sf X) {o : CO} {op : CmpOp} (ho : copB o op = true) (hm : behindInMarks op b = false) (ha : PE X a (tE p a')) (hb : PE X b (tE p b')) : PE X (.Compare a [op] [b] pos) (tE p (.cmp o a' b')) := by
  obtain rfl := copB_eq ho
  refine (pe_cmpR (op_cop (M := p.M) g.hK g.room.units o) ha hb hm).imp fun σ H Q ⟨μ, S, σe, st, h⟩ => ?_
  rw [wpE] at h
  exact two_of g.gm st h fun u v S2 h2 μ2 H2 x y s2 o2 r1 r2 => ⟨μ2, S2, u, v, o2, r1, r2, cop_mono (fun d q => (Aft.step q s2).same o2 (repB d)) h2⟩
theorem s_cmp2 (g : GX p k N bl xc sc sf X) {o o2 : CO} {op op2 : CmpOp} (ho : copB o op = true) (ho2 : copB o2 op2 = true) (hm : lastMarks [op, op2] [b, c] = false) (ha : PE X a (tE p a')) (hb : PE X b (tE p b')) (hc : PE X c (tE p c')) :
    PE X (.Compare a [op, op2] [b, c] pos) (tE p (.cmp2 o o2 a' b' c')) := by
  obtain rfl := copB_eq ho
  obtain rfl := copB_eq ho2
  refine (pe_chain (op_cop (M := p.M) g.hK g.room.units o) (op_cop (M := p.M) g.hK g.room.units o2) ha hb hc hm).imp fun σ H Q ⟨μ, S, σe, st, h⟩ => ?_
  rw [wpE] at h
  refine tE_of g.gm st h fun u S1 h1 μ1 H1 x s1 o1 r1 => tE_of g.gm (st.next s1 o1) h1 fun v S2 h2 μ2 H2 y s2 o2 r2 => ?_
  refine ⟨μ2, S2, u, v, o2, rep_mono s2 o1.lsts u x r1, r2, cop_mono (fun d q => ⟨d, rfl, ?_⟩) h2⟩
  cases d with
  | false => exact (Aft.step q (s1.trans s2)).same o2 (repB false)
  | true => exact tE_of g.gm (st.next (s1.trans s2) o2) q fun w S3 h3 μ3 H3 z s3 o3 r3 => ⟨μ3, S3, v, w, o3, rep_mono s3 o2.lsts v y r2, r3, cop_mono (fun d q => (Aft.step q ((s1.trans s2).trans s3)).same o3 (repB d)) h3⟩
theorem isNon_rep {M : Md} {μ : List Addr} {H : Hp} {u : U} {x : V} (r : Rep M μ H u x) : decide (x = .non) = isNon u := by
  cases u <;> rw [Rep] at r
  case non => subst r; rfl
  all_goals first
    | (subst r; exact decide_eq_false (fun z => by cases z))
    | (obtain ⟨_, e, _⟩ := r; subst e; exact decide_eq_false (fun z => by cases z))
    | (obtain ⟨_, _, e, _⟩ := r; subst e; exact decide_eq_false (fun z => by cases z))
theorem s_isN (g : GX p k N bl xc sc sf X) {j : Nat} {p2 : Pos} (ha : PE X a (tE p a')) : PE X (.Compare a [.Is] [.Constant .none j p2] pos) (tE p (.isN a')) := by
  refine (pe_cmp (pc_isN ha) rfl).imp fun σ H Q ⟨μ, S, σe, st, h⟩ => ?_
  rw [wpE] at h
  refine tE_of g.gm st h fun u S1 h1 μ1 H1 x s1 o1 r1 => ?_
  rw [isNon_rep r1]
  exact (Aft.step h1 s1).same o1 (repB _)
theorem s_notN (g : GX p k N bl xc sc sf X) {j : Nat} {p2 : Pos} (ha : PE X a (tE p a')) : PE X (.Compare a [.IsNot] [.Constant .none j p2] pos) (tE p (.notN a')) := by
  refine (pe_cmp (pc_notN ha) rfl).imp fun σ H Q ⟨μ, S, σe, st, h⟩ => ?_
  rw [wpE] at h
  refine tE_of g.gm st h fun u S1 h1 μ1 H1 x s1 o1 r1 => ?_
  rw [isNon_rep r1]
  exact (Aft.step h1 s1).same o1 (repB _)
theorem blp_rep {M : Md} {μ : List Addr} {H : Hp} {u : U} {x : V} {P : Bool → Prop} (r : Rep M μ H u x) (h : blp u P) : ∃ c, x = .bl c ∧ P c := by
  cases u <;> first | exact h.elim | skip
  rw [Rep] at r
  exact ⟨_, r, h⟩
theorem s_and (g : GX p k N bl xc sc sf X) {r : List Expr} (ha : PE X a (tE p a')) (hb : PE X (.BoolOp .And (b :: r) pos) (tE p b')) : PE X (.BoolOp .And (a :: b :: r) pos) (tE p (.andE a' b')) := by
  refine (pe_and ha hb).imp fun σ H Q ⟨μ, S, σe, st, h⟩ => ?_
  rw [wpE] at h
  refine tE_of g.gm st h fun u S1 h1 μ1 H1 x s1 o1 r1 => ?_
  obtain ⟨c, e, h2⟩ := blp_rep r1 h1
  refine ⟨c, e, ?_⟩
  cases c with
  | false => exact (Aft.step h2 s1).same o1 (repB _)
  | true => exact tE_of g.gm (st.next s1 o1) h2 fun u S2 h3 μ2 H2 x s2 o2 r2 => (Aft.step h3 (s1.trans s2)).same o2 r2
theorem s_or (g : GX p k N bl xc sc sf X) {r : List Expr} (ha : PE X a (tE p a')) (hb : PE X (.BoolOp .Or (b :: r) pos) (tE p b')) : PE X (.BoolOp .Or (a :: b :: r) pos) (tE p (.orE a' b')) := by
  refine (pe_or ha hb).imp fun σ H Q ⟨μ, S, σe, st, h⟩ => ?_
  rw [wpE] at h
  refine tE_of g.gm st h fun u S1 h1 μ1 H1 x s1 o1 r1 => ?_
  obtain ⟨c, e, h2⟩ := blp_rep r1 h1
  refine ⟨c, e, ?_⟩
  cases c with
  | true => exact (Aft.step h2 s1).same o1 (repB _)
  | false => exact tE_of g.gm (st.next s1 o1) h2 fun u S2 h3 μ2 H2 x s2 o2 r2 => (Aft.step h3 (s1.trans s2)).same o2 r2
theorem s_not (g : GX p k N bl xc sc sf X) (ha : PE X a (tE p a')) : PE X (.UnaryOp .Not a pos) (tE p (.notE a')) := by
  refine (pe_not ha).imp fun σ H Q ⟨μ, S, σe, st, h⟩ => ?_
  rw [wpE] at h
  refine tE_of g.gm st h fun u S1 h1 μ1 H1 x s1 o1 r1 => ?_
  obtain ⟨c, e, h2⟩ := blp_rep r1 h1
  exact ⟨c, e, (Aft.step h2 s1).same o1 (repB _)⟩
theorem s_ite (g : GX p k N bl xc sc sf X) (hc : PT X c (tT p c')) (ha : PE X a (tE p a')) (hb : PE X b (tE p b')) : PE X (.IfExp c a b pos) (tE p (.ite c' a' b')) := by
  refine (pe_ifExp hc ha hb).imp fun σ H Q ⟨μ, S, σe, st, h⟩ => ?_
  rw [wpE] at h
  refine tT_of g.gm st h fun d S1 h1 μ1 H1 s1 o1 => ?_
  cases d with
  | true => exact tE_of g.gm (st.next s1 o1) h1 fun u S2 h3 μ2 H2 x s2 o2 r2 => (Aft.step h3 (s1.trans s2)).same o2 r2
  | false => exact tE_of g.gm (st.next s1 o1) h1 fun u S2 h3 μ2 H2 x s2 o2 r2 => (Aft.step h3 (s1.trans s2)).same o2 r2
theorem s_nil : PA X [] (tA p .nil) := pa_nil.imp fun σ H Q ⟨μ, S, σe, st, h⟩ => by
  rw [wpEs] at h
  exact h μ H [] (Step.refl _ _) st.ok RepL.nil
theorem s_cons (g : GX p k N bl xc sc sf X) {es : List Expr} {es' : Es} (hs : notStar a = true) (ha : PE X a (tE p a')) (hr : PA X es (tA p es')) : PA X (a :: es) (tA p (.cons a' es')) := by
  refine (pa_cons ha hr (star_cons hs)).imp fun σ H Q ⟨μ, S, σe, st, h⟩ => ?_
  rw [wpEs] at h
  exact tE_of g.gm st h fun u S1 h1 μ1 H1 x s1 o1 r1 => tA_of g.gm (st.next s1 o1) h1 fun us S2 h2 μ2 H2 xs s2 o2 r2 => h2 μ2 H2 (x :: xs) (s1.trans s2) o2 (RepL.cons (rep_mono s2 o1.lsts u x r1) r2)
theorem s_tup (g : GX p k N bl xc sc sf X) {es : List Expr} {es' : Es} {x1 : Nat} (h : PA X es (tA p es')) : PE X (.Tuple es x1 pos) (tE p (.tup es')) := by
  refine (pe_tup h).imp fun σ H Q ⟨μ, S, σe, st, h⟩ => ?_
  rw [wpE] at h
  exact tA_of g.gm st h fun us S1 h1 μ1 H1 vs s1 o1 r1 => ⟨by rw [← r1.length]; exact h1.1, fun q hq => (Aft.step h1.2 s1).tup o1 r1 q hq⟩
theorem s_lst (g : GX p k N bl xc sc sf X) {es : List Expr} {es' : Es} (h : PA X es (tA p es')) : PE X (.List es pos) (tE p (.lst es')) := by
  refine (pe_lst h).imp fun σ H Q ⟨μ, S, σe, st, h⟩ => ?_
  rw [wpE] at h
  exact tA_of g.gm st h fun us S1 h1 μ1 H1 vs s1 o1 r1 => ⟨by rw [← r1.length]; exact h1.1, fun q hq => (Aft.step h1.2 s1).new o1 r1 q hq⟩
theorem s_idx (g : GX p k N bl xc sc sf X) (hs : notSlice b = true) (ha : PE X a (tE p a')) (hb : PE X b (tE p b')) : PE X (.Subscript a b pos) (tE p (.idx a' b')) := by
  refine (pe_ix (ix_all (M := p.M) g.hK) ha hb (plain_ix hs)).imp fun σ H Q ⟨μ, S, σe, st, h⟩ => ?_
  rw [wpE] at h
  exact two_of g.gm st h fun u v S2 h2 μ2 H2 x y s2 o2 r1 r2 => ⟨μ2, S2, u, v, o2, r1, r2, idxp_mono (fun w S3 q => q.step s2) h2⟩
theorem s_none : PO X none (tOp2 p .none) := po_none.imp fun σ H Q ⟨μ, S, σe, st, h⟩ => by
  rw [wpO] at h
  exact h μ H (Step.refl _ _) st.ok
theorem intp_rep {M : Md} {μ : List Addr} {H : Hp} {u : U} {x : V} {P : Int → Prop} (r : Rep M μ H u x) (h : intp u P) : ∃ c, x = .int c ∧ P c := by
  cases u <;> first | exact h.elim | skip
  rw [Rep] at r
  exact ⟨_, r, h⟩
theorem s_some (g : GX p k N bl xc sc sf X) (ha : PE X a (tE p a')) : PO X (some a) (tOp2 p (.some a')) := by
  refine (po_some ha).imp fun σ H Q ⟨μ, S, σe, st, h⟩ => ?_
  rw [wpO] at h
  refine tE_of g.gm st h fun u S1 h1 μ1 H1 x s1 o1 r1 => ?_
  obtain ⟨i, e, h2⟩ := intp_rep r1 h1
  exact ⟨i, e, h2 μ1 H1 s1 o1⟩
theorem s_slc (g : GX p k N bl xc sc sf X) {lo hi : Option Expr} {lo' hi' : Oe} {p2 : Pos} (ha : PE X a (tE p a')) (hl : PO X lo (tOp2 p lo')) (hh : PO X hi (tOp2 p hi')) : PE X (.Subscript a (.Slice lo hi none p2) pos) (tE p (.slc a' lo' hi')) := by
  refine (pe_slice (sl_all (M := p.M) g.hK) ha hl hh).imp fun σ H Q ⟨μ, S, σe, st, h⟩ => ?_
  rw [wpE] at h
  exact tE_of g.gm st h fun u S1 h1 μ1 H1 x s1 o1 r1 => tO_of g.gm (st.next s1 o1) h1 fun l S2 h2 μ2 H2 s2 o2 => tO_of g.gm (st.next (s1.trans s2) o2) h2 fun m S3 h3 μ3 H3 s3 o3 =>
    ⟨μ3, S3, u, o3, rep_mono (s2.trans s3) o1.lsts u x r1, slcp_mono (fun w S4 q => q.step ((s1.trans s2).trans s3)) h3⟩
theorem s_rev (g : GX p k N bl xc sc sf X) {j : Nat} {p1 p2 p3 : Pos} (ha : PE X a (tE p a')) : PE X (.Subscript a (.Slice none none (some (.UnaryOp .USub (.Constant (.int 1) j p1) p2)) p3) pos) (tE p (.rev a')) := by
  refine (pe_revL ha).imp fun σ H Q ⟨μ, S, σe, st, h⟩ => ?_
  rw [wpE] at h
  refine tE_of g.gm st h fun u S1 h1 μ1 H1 x s1 o1 r1 => ?_
  unfold revp at h1
  split at h1
  · split at h1
    · rename_i e1
      rw [Rep] at r1
      obtain ⟨q, rfl, hm⟩ := r1
      obtain ⟨vs, h2, rl⟩ := o1.of hm e1
      exact ⟨q, vs, rfl, .inl (.inl h2), fun w hw => (Aft.step h1 s1).new o1 rl.reverse w hw⟩
    · exact h1.elim
  · exact h1.elim
/-- the exception of a callee -/
theorem exn_of (g : GX p k N bl xc sc sf X) {W : WX} (hW : ∀ c q σe S cls d σ H μ, StR p μ H S σe σ → ExR p.M c q cls d → p.Ex c q σe S → W cls d σ H) {μ : List Addr} {H : Hp} {S : Sto} {σe : Sl} {σ : L2.St} (st : StR p μ H S σe σ)
    {c : Str} {q : List (Str × U)} {S2 : Sto} (h : p.Ex c q σe S2) : ∀ μ2 H2 cls d, Step μ H μ2 H2 → StoreOk p.M μ2 H2 S2 → ExR p.M c q cls d → (fun cls d H2 => W cls d σ H2) cls d H2 :=
  fun μ2 H2 cls d s2 o2 r => hW c q σe S2 cls d σ H2 μ2 (st.next s2 o2) r h
theorem run_spec (g : GX p k N bl xc sc sf X) {W : WX} (hW : ∀ c q σe S cls d σ H μ, StR p μ H S σe σ → ExR p.M c q cls d → p.Ex c q σe S → W cls d σ H) {μ μ1 : List Addr} {H H1 : Hp} {S S1 : Sto} {σe : Sl} {σ : L2.St} (st : StR p μ H S σe σ) {f : Str} {sp : FSpec} (hf : p.G.fns f = some sp)
    {us : List U} {vs : List V} {Q : VK} (s1 : Step μ H μ1 H1) (o1 : StoreOk p.M μ1 H1 S1) (r : RepL p.M μ1 H1 us vs) (h : sp us S1 (Aft p.M μ H Q) fun c q S2 => p.Ex c q σe S2) : spU p.M sp vs H1 Q fun cls d H2 => W cls d σ H2 :=
  ⟨μ1, S1, us, o1, r, g.gm f sp hf us S1 _ _ _ _ (fun u S2 q => q.step s1) (fun c q S2 e => exn_of g hW (st.next s1 o1) e) h⟩
theorem s_call (g : GX p k N bl xc sc sf X) {x : Str} {pp : Pos} {e : Expr} {es : List Expr} {es' : Es} (hx : globB sc x = true) (hs : (e :: es).all notStar = true) (h : PA X (e :: es) (tA p es')) : PE X (.Call (.Name x pp) (e :: es) [] pos) (tE p (.call x es')) := by
  obtain ⟨a1, b1, _⟩ := glob_of g hx
  rw [List.all_cons, Bool.and_eq_true] at hs
  obtain ⟨W, tk, hW⟩ := g.tk
  cases ef : p.G.fns x with
  | none =>
    refine ⟨fun pins s σ H Q I ⟨μ, S, σe, st, hw⟩ => ?_⟩
    rw [wpE, ef] at hw
    exact hw.elim
  | some sp =>
    obtain ⟨fa, fd, ps, hm, hk, F, B⟩ := g.fns x sp ef
    refine (pe_callS (E := WE W) F g.room a1 (by rw [g.hmg]; exact hm) hk B (fun σ => passAt tk σ) h b1 (star_cons hs.1) (star_any hs.2)).imp fun σ H Q ⟨μ, S, σe, st, hw⟩ => ?_
    rw [wpE, ef] at hw
    exact tA_of g.gm st hw fun us S1 h1 μ1 H1 vs s1 o1 r1 => run_spec g hW st ef s1 o1 r1 h1
theorem s_call0 (g : GX p k N bl xc sc sf X) {x : Str} {pp : Pos} (hx : globB sc x = true) : PE X (.Call (.Name x pp) [] [] pos) (tE p (.call x .nil)) := by
  obtain ⟨a1, b1, _⟩ := glob_of g hx
  obtain ⟨W, tk, hW⟩ := g.tk
  cases ef : p.G.fns x with
  | none =>
    refine ⟨fun pins s σ H Q I ⟨μ, S, σe, st, hw⟩ => ?_⟩
    rw [wpE, ef] at hw
    exact hw.elim
  | some sp =>
    obtain ⟨fa, fd, ps, hm, hk, F, B⟩ := g.fns x sp ef
    refine ⟨fun pins s σ H Q I ⟨μ, S, σe, st, hw⟩ => ?_⟩
    rw [wpE, ef] at hw
    have hw' : sp [] S (Aft p.M μ H Q) fun c q S2 => p.Ex c q σe S2 := by
      have z : wpEs p.G .nil p.Ex σe S fun us S1 => sp us S1 (Aft p.M μ H Q) fun c q S2 => p.Ex c q σe S2 := hw
      rw [wpEs] at z
      exact z
    refine wpAny_Call_Name_kw (ld_glob I a1 (by rw [g.hmg]; exact hm) ?_ b1)
    exact PySem.W.callWith_K0 I.kIn hk (run_fnS (E := WE W) (us := []) (vs := []) F g.room B (passAt tk σ) I .nil
      (run_spec g hW st ef (Step.refl _ _) st.ok RepL.nil hw'))
theorem s_callL (g : GX p k N bl xc sc sf X) {i : Nat} {x : Str} {pp : Pos} {e : Expr} {es : List Expr} {es' : Es} (h1 : N[i]? = some x) (h2 : visB sc x = true) (h3 : okName x = true) (hs : (e :: es).all notStar = true) (h : PA X (e :: es) (tA p es')) :
    PE X (.Call (.Name x pp) (e :: es) [] pos) (tE p (.callL i es')) := by
  obtain ⟨a1, b1⟩ := ok_dbg h3
  rw [List.all_cons, Bool.and_eq_true] at hs
  obtain ⟨W, tk, hW⟩ := g.tk
  refine ⟨fun pins s σ H Q I ⟨μ, S, σe, st, hw⟩ => ?_⟩
  rw [wpE] at hw
  cases es0 : σe[i]? with
  | none => rw [es0] at hw; exact hw.elim
  | some o =>
    cases o with
    | none => rw [es0] at hw; exact hw.elim
    | some u =>
      rw [es0] at hw
      have hw : fnp u _ := hw
      cases u <;> first | exact hw.elim | skip
      rename_i f _
      obtain ⟨v, hv, rv⟩ := st.sl.get i _ es0
      rw [Rep] at rv
      obtain ⟨fa, rfl, hfa⟩ := rv
      have hw : optp (p.G.fns f) _ := hw
      cases ef : p.G.fns f with
      | none => rw [ef] at hw; exact hw.elim
      | some sp =>
        rw [ef] at hw
        obtain ⟨fb, fd, ps, hm, hk, F, B⟩ := g.fns f sp ef
        rw [hm] at hfa
        cases hfa
        have hvar := (pe_var (X := X) (i := i) (pos := pp) (by rw [g.hN]; exact h1) (by rw [g.hsc]; exact vis_of h2) a1 b1).run pins s σ H (fun v H1 => v = .ref fa ∧ H1 = H) I ⟨.ref fa, hv, rfl, rfl⟩
        refine wpAny_Call_Name_kw (thn hvar ?_)
        rintro w s1 ⟨v, H1, I1, r1, rfl, rfl⟩
        cases r1
        have hargs : tA p es' σ H1 fun vs H2 => spU p.M sp vs H2 Q fun cls d H3 => W cls d σ H3 :=
          tA_of g.gm st hw fun us S1 h1 μ1 H1 vs s1 o1 r1 => run_spec g hW st ef s1 o1 r1 h1
        refine PySem.W.callWith_K (h₀ := X.base) I.ok.mod.kin hk ?_ (star_cons hs.1) (star_any hs.2)
        refine thn (h.run pos pins s1 σ H1 _ I1 hargs) ?_
        rintro ul s2 ⟨vs, H2, I2, r, q⟩
        exact ⟨I2.kIn, run_fnS (E := WE W) F g.room B (passAt tk σ) I2 r q⟩
/-! ### built-in functions -/
theorem s_bi (g : GX p k N bl xc sc sf X) {f : Bi} {x : Str} {pp : Pos} {e : Expr} {es : List Expr} {es' : Es} (hf : biName f = x) (hb : x ∈ bl) (hx : globB sc x = true) (hs : (e :: es).all notStar = true) (h : PA X (e :: es) (tA p es')) :
    PE X (.Call (.Name x pp) (e :: es) [] pos) (tE p (.bi f es')) := by
  obtain ⟨a1, b1, c1⟩ := glob_of g hx
  rw [List.all_cons, Bool.and_eq_true] at hs
  have hm : X.mg x = none := by rw [g.hmg]; exact g.blt x hb
  have fin : ∀ σ H Q, tE p (.bi f es') σ H Q → tCB (rBi p.M f) (tA p es') σ H Q := fun σ H Q ⟨μ, S, σe, st, hw⟩ => by
    rw [wpE] at hw
    exact tA_of g.gm st hw fun us S1 h1 μ1 H1 vs s1 o1 r1 => ⟨μ1, S1, us, o1, r1, bip_mono (fun w S3 q => q.step s1) h1⟩
  subst hf
  cases f with
  | len => exact (pe_callB (call_len_b (M := p.M) g.hK) a1 hm (by decide +kernel) h c1 b1 (star_cons hs.1) (star_any hs.2)).imp fin
  | abs => exact (pe_callB (call_abs_b (M := p.M)) a1 hm (by decide +kernel) h c1 b1 (star_cons hs.1) (star_any hs.2)).imp fin
  | max => exact (pe_callB (call_max_b (M := p.M) g.calm) a1 hm (by decide +kernel) h c1 b1 (star_cons hs.1) (star_any hs.2)).imp fin
  | min => exact (pe_callB (call_min_b (M := p.M) g.calm) a1 hm (by decide +kernel) h c1 b1 (star_cons hs.1) (star_any hs.2)).imp fin
  | sum => exact (pe_callB (call_sum_b (M := p.M) (cr_sum g.calm)) a1 hm (by decide +kernel) h c1 b1 (star_cons hs.1) (star_any hs.2)).imp fin
  | any => exact (pe_callB (call_any_b (M := p.M) (cr_any g.calm)) a1 hm (by decide +kernel) h c1 b1 (star_cons hs.1) (star_any hs.2)).imp fin
  | all => exact (pe_callB (call_all_b (M := p.M) (cr_all g.calm)) a1 hm (by decide +kernel) h c1 b1 (star_cons hs.1) (star_any hs.2)).imp fin
  | int => exact (pe_callTy (call_int_b (M := p.M)) a1 hm (by decide +kernel) h c1 b1 (star_cons hs.1) (star_any hs.2)).imp fin
  | str => exact (pe_callTy (call_str_b (M := p.M)) a1 hm (by decide +kernel) h c1 b1 (star_cons hs.1) (star_any hs.2)).imp fin
  | tuple => exact (pe_callTy (call_tuple_b (M := p.M) g.hK) a1 hm (by decide +kernel) h c1 b1 (star_cons hs.1) (star_any hs.2)).imp fin
  | list => exact (pe_callTy (call_list_b (M := p.M) g.hK) a1 hm (by decide +kernel) h c1 b1 (star_cons hs.1) (star_any hs.2)).imp fin
theorem kit_boot {t : String} (h : isTy t = true) : bootBuiltins (Str.ofString t) = some (.type t) := by
  have hm := isTy_mem h
  simp only [List.mem_cons, List.mem_nil_iff, or_false] at hm
  rcases hm with rfl | rfl | rfl | rfl | rfl <;> decide +kernel
theorem s_isi (g : GX p k N bl xc sc sf X) {t : String} {pp p2 : Pos} (hb : Str.ofString "isinstance" ∈ bl) (hx : globB sc (Str.ofString "isinstance") = true) (hb2 : Str.ofString t ∈ bl) (hx2 : globB sc (Str.ofString t) = true) (ht : isTy t = true) (hs : notStar a = true) (ha : PE X a (tE p a')) :
    PE X (.Call (.Name (Str.ofString "isinstance") pp) [a, .Name (Str.ofString t) p2] [] pos) (tE p (.isi a' t)) := by
  obtain ⟨a1, b1, c1⟩ := glob_of g hx
  obtain ⟨a2, b2, c2⟩ := glob_of g hx2
  have hm : X.mg (Str.ofString "isinstance") = none := by rw [g.hmg]; exact g.blt _ hb
  have hm2 : X.mg (Str.ofString t) = none := by rw [g.hmg]; exact g.blt _ hb2
  have hn : PE X (.Name (Str.ofString t) p2) (tC (.ty t)) := pe_bltn a2 hm2 (kit_boot ht) rfl c2 b2
  refine (pe_callB (call_isi_b (M := p.M) g.hK ht) a1 hm (by decide +kernel) (pa_cons ha (pa_cons hn pa_nil) (star_cons hs)) c1 b1 (star_cons hs) rfl).imp fun σ H Q ⟨μ, S, σe, st, hw⟩ => ?_
  rw [wpE] at hw
  exact tE_of g.gm st hw fun u S1 h1 μ1 H1 x s1 o1 r1 => ⟨μ1, S1, u, x, rfl, o1, r1, isip_mono (fun b q => (Aft.step q s1).same o1 (repB b)) h1⟩
theorem s_meth (g : GX p k N bl xc sc sf X) {m : Me} {x : Str} {ap : Pos} {es : List Expr} {es' : Es} (hm : meName m = x) (hb : meB m = true) (hn : notCall a = true) (hl : (ap.endLine == pos.line) = true) (hf : es.length < 20) (hs : es.all notStar = true) (ha : PE X a (tE p a')) (h : PA X es (tA p es')) (he : es = [] → es' = .nil) :
    PE X (.Call (.Attribute a x ap) es [] pos) (tE p (.meth m a' es')) := by
  subst hm
  have ty : ∀ {u : U} {K : Prop} {S : Sto} {μ : List Addr} {H : Hp} {v : V}, StoreOk p.M μ H S → Rep p.M μ H u v → lstq u K → tyV X.K "list" v H ∧ K := by
    intro u K S μ H v o r q
    cases u <;> first | exact q.elim | skip
    rw [Rep] at r
    obtain ⟨z, rfl, hz⟩ := r
    obtain ⟨ws, e⟩ := o.mem (List.mem_of_getElem? hz)
    exact ⟨.inl ⟨rfl, _, .inl (.inl e)⟩, q⟩
  cases es with
  | nil =>
    obtain rfl := he rfl
    have fin : ∀ (r : V → List V → Hp → VK → Prop), (r = rMe p.M m) → ∀ σ H Q, tE p (.meth m a' .nil) σ H Q → tBM0 X.K "list" r (tE p a') σ H Q := by
      rintro r rfl σ H Q ⟨μ, S, σe, st, hw⟩
      rw [wpE] at hw
      refine tE_of g.gm st hw fun u S1 h1 μ1 H1 x s1 o1 r1 => ?_
      obtain ⟨h2, h3⟩ := ty o1 r1 h1
      rw [wpEs] at h3
      exact ⟨h2, μ1, S1, u, [], o1, r1, RepL.nil, mep_mono (fun w S3 q => q.step s1) h3⟩
    cases m with
    | append => exact (pe_bm0 PySem.F.plainAttrs_list PySem.F.slot_list_append PySem.F.type_list_append (mt_append_b (M := p.M)) ha (base_of hn) hl).imp (fin _ rfl)
    | extend => exact (pe_bm0 PySem.F.plainAttrs_list PySem.F.slot_list_extend PySem.F.type_list_extend (mt_extend_b (M := p.M)) ha (base_of hn) hl).imp (fin _ rfl)
    | pop => exact (pe_bm0 PySem.F.plainAttrs_list PySem.F.slot_list_pop PySem.F.type_list_pop (mt_pop_b (M := p.M)) ha (base_of hn) hl).imp (fin _ rfl)
    | join => cases hb
  | cons e es =>
    have hs0 := hs
    rw [List.all_cons, Bool.and_eq_true] at hs
    have fin : ∀ (r : V → List V → Hp → VK → Prop), (r = rMe p.M m) → ∀ σ H Q, tE p (.meth m a' es') σ H Q → tBM X.K "list" r (tE p a') (tA p es') σ H Q := by
      rintro r rfl σ H Q ⟨μ, S, σe, st, hw⟩
      rw [wpE] at hw
      refine tE_of g.gm st hw fun u S1 h1 μ1 H1 x s1 o1 r1 => ?_
      obtain ⟨h2, h3⟩ := ty o1 r1 h1
      exact ⟨h2, tA_of g.gm (st.next s1 o1) h3 fun us S2 h4 μ2 H2 vs s2 o2 r2 => ⟨μ2, S2, u, us, o2, rep_mono s2 o1.lsts u x r1, r2, mep_mono (fun w S3 q => q.step (s1.trans s2)) h4⟩⟩
    have few : ((backTo pos (starEach (e :: es) X.env)).all (fun x => !x.1) && (backToKw pos (keywordEach [] X.env)).all (fun x => x.1.isSome)
      && decide ((e :: es).length + ([] : List Keyword).length + (if ([] : List Keyword).isEmpty then 0 else 1) < 30)) = true := by
      rw [star_all hs0]
      have z : (e :: es).length + 0 + 0 < 30 := by omega
      show (true && true && decide ((e :: es).length + 0 + 0 < 30)) = true
      rw [decide_eq_true z]; rfl
    cases m with
    | append => exact (pe_bm PySem.F.plainAttrs_list PySem.F.slot_list_append PySem.F.type_list_append (mt_append_b (M := p.M)) ha h (base_of hn) few hl (star_cons hs.1) (star_any hs.2)).imp (fin _ rfl)
    | extend => exact (pe_bm PySem.F.plainAttrs_list PySem.F.slot_list_extend PySem.F.type_list_extend (mt_extend_b (M := p.M)) ha h (base_of hn) few hl (star_cons hs.1) (star_any hs.2)).imp (fin _ rfl)
    | pop => exact (pe_bm PySem.F.plainAttrs_list PySem.F.slot_list_pop PySem.F.type_list_pop (mt_pop_b (M := p.M)) ha h (base_of hn) few hl (star_cons hs.1) (star_any hs.2)).imp (fin _ rfl)
    | join => cases hb
/-! ### tests -/
theorem PT.W {op : BoolOp} {l : List Expr} {t : TT} (h : PT X (.BoolOp op l pos) t) : PW X (.BoolOp op l pos) t := ⟨fun whole pins s σ H Q I hw => h.run pins s σ H Q I hw⟩
theorem st_and (g : GX p k N bl xc sc sf X) {r : List Expr} (ha : PT X a (tT p a')) (hb : PW X (.BoolOp .And (b :: r) pos) (tT p b')) : PT X (.BoolOp .And (a :: b :: r) pos) (tT p (.andE a' b')) := by
  refine (PW.pt (pw_and ha hb)).imp fun σ H Q ⟨μ, S, σe, st, h⟩ => ?_
  rw [wpT] at h
  refine tT_of g.gm st h fun d S1 h1 μ1 H1 s1 o1 => ?_
  cases d with
  | true => exact tT_of g.gm (st.next s1 o1) h1 fun u S2 h3 μ2 H2 s2 o2 => h3 μ2 H2 (s1.trans s2) o2
  | false => exact h1 μ1 H1 s1 o1
theorem st_or (g : GX p k N bl xc sc sf X) {r : List Expr} (ha : PT X a (tT p a')) (hb : PW X (.BoolOp .Or (b :: r) pos) (tT p b')) : PT X (.BoolOp .Or (a :: b :: r) pos) (tT p (.orE a' b')) := by
  refine (PW.pt (pw_or ha hb)).imp fun σ H Q ⟨μ, S, σe, st, h⟩ => ?_
  rw [wpT] at h
  refine tT_of g.gm st h fun d S1 h1 μ1 H1 s1 o1 => ?_
  cases d with
  | false => exact tT_of g.gm (st.next s1 o1) h1 fun u S2 h3 μ2 H2 s2 o2 => h3 μ2 H2 (s1.trans s2) o2
  | true => exact h1 μ1 H1 s1 o1
theorem st_not (g : GX p k N bl xc sc sf X) (ha : PT X a (tT p a')) : PT X (.UnaryOp .Not a pos) (tT p (.notE a')) := by
  refine (pt_not ha).imp fun σ H Q ⟨μ, S, σe, st, h⟩ => ?_
  rw [wpT] at h
  exact tT_of g.gm st h fun d S1 h1 μ1 H1 s1 o1 => h1 μ1 H1 s1 o1
theorem st_tst (g : GX p k N bl xc sc sf X) (hp : plainTest a = true) (ha : PE X a (tE p a')) : PT X a (tT p (.tst a')) := by
  refine (pt_truth ha (test_of hp)).imp fun σ H Q ⟨μ, S, σe, st, h⟩ => ?_
  rw [wpT] at h
  refine tE_of g.gm st h fun u S1 h1 μ1 H1 x s1 o1 r1 => ?_
  obtain ⟨k, hk, q⟩ := tru_rep o1 r1 h1
  exact ⟨k, by rw [g.hK]; exact hk, q μ1 H1 s1 o1⟩
theorem st_cmp (g : GX p k N bl xc sc sf X) {o : CO} {op : CmpOp} (ho : copB o op = true) (hm : behindInMarks op b = false) (ha : PE X a (tE p a')) (hb : PE X b (tE p b')) : PT X (.Compare a [op] [b] pos) (tT p (.tst (.cmp o a' b'))) := by
  obtain rfl := copB_eq ho
  refine (pt_cmpR (op_cop (M := p.M) g.hK g.room.units o) ha hb hm).imp fun σ H Q ⟨μ, S, σe, st, h⟩ => ?_
  rw [wpT, wpE] at h
  exact two_of g.gm st h fun u v S2 h2 μ2 H2 x y s2 o2 r1 r2 => ⟨μ2, S2, u, v, o2, r1, r2, cop_mono (fun d q => ⟨d, rfl, (show AftT p.M μ H Q d S2 from q) μ2 H2 s2 o2⟩) h2⟩
theorem st_cmp2 (g : GX p k N bl xc sc sf X) {o o2 : CO} {op op2 : CmpOp} (ho : copB o op = true) (ho2 : copB o2 op2 = true) (hm : lastMarks [op, op2] [b, c] = false) (ha : PE X a (tE p a')) (hb : PE X b (tE p b')) (hc : PE X c (tE p c')) :
    PT X (.Compare a [op, op2] [b, c] pos) (tT p (.tst (.cmp2 o o2 a' b' c'))) := by
  obtain rfl := copB_eq ho
  obtain rfl := copB_eq ho2
  refine (pt_chain (op_cop (M := p.M) g.hK g.room.units o) (op_cop (M := p.M) g.hK g.room.units o2) ha hb hc hm).imp fun σ H Q ⟨μ, S, σe, st, h⟩ => ?_
  rw [wpT, wpE] at h
  refine tE_of g.gm st h fun u S1 h1 μ1 H1 x s1 o1 r1 => tE_of g.gm (st.next s1 o1) h1 fun v S2 h2 μ2 H2 y s2 o2 r2 => ?_
  refine ⟨μ2, S2, u, v, o2, rep_mono s2 o1.lsts u x r1, r2, cop_mono (fun d q => ⟨d, rfl, ?_⟩) h2⟩
  cases d with
  | false => exact ⟨false, rfl, (show AftT p.M μ H Q false S2 from q) μ2 H2 (s1.trans s2) o2⟩
  | true => exact tE_of g.gm (st.next (s1.trans s2) o2) q fun w S3 h3 μ3 H3 z s3 o3 r3 => ⟨μ3, S3, v, w, o3, rep_mono s3 o2.lsts v y r2, r3, cop_mono (fun d q => ⟨d, rfl, (show AftT p.M μ H Q d S3 from q) μ3 H3 ((s1.trans s2).trans s3) o3⟩) h3⟩
theorem st_isN (g : GX p k N bl xc sc sf X) {j : Nat} {p2 : Pos} (ha : PE X a (tE p a')) : PT X (.Compare a [.Is] [.Constant .none j p2] pos) (tT p (.tst (.isN a'))) := by
  refine (pt_cmp (pc_isN ha) rfl).imp fun σ H Q ⟨μ, S, σe, st, h⟩ => ?_
  rw [wpT, wpE] at h
  refine tE_of g.gm st h fun u S1 h1 μ1 H1 x s1 o1 r1 => ?_
  rw [isNon_rep r1]
  exact ⟨_, rfl, (show AftT p.M μ H Q _ S1 from h1) μ1 H1 s1 o1⟩
theorem st_notN (g : GX p k N bl xc sc sf X) {j : Nat} {p2 : Pos} (ha : PE X a (tE p a')) : PT X (.Compare a [.IsNot] [.Constant .none j p2] pos) (tT p (.tst (.notN a'))) := by
  refine (pt_cmp (pc_notN ha) rfl).imp fun σ H Q ⟨μ, S, σe, st, h⟩ => ?_
  rw [wpT, wpE] at h
  refine tE_of g.gm st h fun u S1 h1 μ1 H1 x s1 o1 r1 => ?_
  rw [isNon_rep r1]
  exact ⟨_, rfl, (show AftT p.M μ H Q _ S1 from h1) μ1 H1 s1 o1⟩
theorem st_c0 : PTs X [] (tC2 p .none) := pts_nil.imp fun σ H Q ⟨μ, S, σe, st, h⟩ => by
  rw [wpC] at h
  exact h μ H (Step.refl _ _) st.ok
theorem st_c1 (ha : PT X a (tT p a')) : PTs X [a] (tC2 p (.some a')) := (pts_one ha).imp fun σ H Q ⟨μ, S, σe, st, h⟩ => by
  rw [wpC] at h
  exact ⟨μ, S, σe, st, h⟩
/-! ### targets -/
theorem sto_of (g : GX p k N bl xc sc sf X) {x : Str} (h : stoB sc sf x = true) : Loc X.env.scope x ∧ (X.fn x = true ∨ X.env.scope.names.lookup x = some .local) := by
  rw [g.hsc]
  unfold stoB at h
  split at h
  · rename_i e; exact ⟨.inl e, .inr e⟩
  · rename_i e; exact ⟨.inr e, .inl (g.fn _ h)⟩
  · cases h
theorem Chg.refl (l : List Nat) (σ : L2.St) : Chg l σ σ := ⟨rfl, fun _ _ => rfl⟩
theorem Chg.set (i : Nat) (σ : L2.St) (v : Option V) : Chg [i] σ (σ.set i v) := ⟨List.length_set, fun j h => List.getElem?_set_ne (fun e => h (by rw [e]; simp))⟩
theorem Chg.append {l m : List Nat} {σ σ1 σ2 : L2.St} (a : Chg l σ σ1) (b : Chg m σ1 σ2) : Chg (l ++ m) σ σ2 := ⟨b.1.trans a.1, fun i h => (b.2 i fun z => h (List.mem_append_right _ z)).trans (a.2 i fun z => h (List.mem_append_left _ z))⟩
theorem sg_name (g : GX p k N bl xc sc sf X) {i : Nat} {x : Str} (h1 : N[i]? = some x) (h2 : stoB sc sf x = true) : PG X (.Name x pos) (tGt p (.name i)) := by
  obtain ⟨l, f⟩ := sto_of g h2
  refine (pg_name (i := i) (by rw [g.hN]; exact g.nd) (by rw [g.hN]; exact h1) l f).imp fun v σ H Q ⟨μ, S, σe, u, st, r, h⟩ => ?_
  rw [wpTg] at h
  exact h μ H _ (Step.refl _ _) st.ok (st.sl.set i r) (by rw [nmsT]; exact Chg.set i σ _)
theorem sg_sub (g : GX p k N bl xc sc sf X) (hs : notSlice b = true) (ha : PE X a (tE p a')) (hb : PE X b (tE p b')) : PG X (.Subscript a b pos) (tGt p (.sub a' b')) := by
  refine (pg_sub ha hb (set_all (M := p.M)) (sub_asg hs)).imp fun v σ H Q ⟨μ, S, σe, u, st, r, h⟩ => ?_
  rw [wpTg] at h
  exact two_of g.gm st h fun w z S2 h2 μ2 H2 x y s2 o2 r1 r2 => ⟨μ2, S2, w, z, u, o2, r1, r2, rep_mono s2 st.ok.lsts u v r, setp_mono (fun S3 q μ3 H3 s3 o3 => q μ3 H3 σ (s2.trans s3) o3 (st.sl.mono (s2.trans s3) st.ok.lsts) (Chg.refl _ _)) h2⟩
theorem sg_nil : PGs X [] (tGs p .nil) := pgs_nil.imp fun v σ H Q ⟨μ, S, σe, us, st, r, h⟩ => by
  rw [wpTs] at h
  cases us with
  | nil =>
    rw [RepL] at r
    exact ⟨r, h μ H σ (Step.refl _ _) st.ok st.sl (Chg.refl _ _)⟩
  | cons _ _ => exact h.elim
theorem sg_cons (g : GX p k N bl xc sc sf X) {t : T} {ts : Ts} {es : List Expr} (hs : notStar a = true) (h1 : PG X a (tGt p t)) (h2 : PGs X es (tGs p ts)) : PGs X (a :: es) (tGs p (.cons t ts)) := by
  refine (pgs_cons h1 h2 (by rw [asg_cons hs]; rfl)).imp fun v σ H Q ⟨μ, S, σe, us, st, r, h⟩ => ?_
  rw [wpTs] at h
  cases us with
  | nil => exact h.elim
  | cons u us =>
    rw [RepL] at r
    obtain ⟨x, xs, e, r1, r2⟩ := r
    refine ⟨x, xs, e, tG_of g.gm st r1 h fun σe1 S1 k1 μ1 H1 σ1 s1 o1 l1 c1 => ?_⟩
    refine tGs_of g.gm ⟨st.st.trans s1, o1, l1⟩ (repL_mono s1 st.ok.lsts us xs r2) k1 fun σe2 S2 k2 μ2 H2 σ2 s2 o2 l2 c2 => ?_
    exact k2 μ2 H2 σ2 (s1.trans s2) o2 l2 (by rw [nmsTs]; exact c1.append c2)
theorem sg_tup (g : GX p k N bl xc sc sf X) {ts : Ts} {es : List Expr} {j : Nat} (hs : es.all notStar = true) (hl : es.length = lenTs ts) (h1 : PGs X es (tGs p ts)) : PG X (.Tuple es j pos) (tGt p (.tup ts)) := by
  refine (pg_tup g.calm h1 (asg_len hs) (asg_none hs)).imp fun v σ H Q ⟨μ, S, σe, u, st, r, h⟩ => ?_
  rw [wpTg] at h
  cases u <;> first | exact h.elim | skip
  have h : _ ∧ wpTs p.G ts p.Ex _ σe S _ := h
  rw [Rep] at r
  obtain ⟨q, vs, e, hq, rl⟩ := r
  refine ⟨q, vs, e, by rw [g.hK]; exact hq, by rw [← rl.length, hl]; exact h.1, tGs_of g.gm st rl h.2 fun σe2 S2 k2 μ2 H2 σ2 s2 o2 l2 c2 => k2 μ2 H2 σ2 s2 o2 l2 (by rw [nmsT]; exact c2)⟩
end
end Q

set_option Elab.async false
set_option linter.all false
set_option maxRecDepth 100000
set_option maxHeartbeats 8000000
/-! QSound3: what is walked, comprehensions, all expressions together. -/
namespace Q
open PySem PySem.Spec PyProof.Rows L2
section
variable {X : Cx} {tg : Expr} {pins : List (Addr × Obj)} {σ : L2.St} {H1 : Hp} {s1 : Shared} {a : Addr} {xs : List V} {R : L2.It → Hp → Prop}
/-- an iterator over what stands at a -/
theorem walk_at (I1 : Inv X pins σ H1 s1) {o : Obj} {J : L2.It} {tn : Nat → Heap → Prop} (T : Turn X.prog X.w X.K tg J [s1.heap.objs.size] s1.heap.objs.size tn) (h0 : tn 0 (s1.heap.push o)) (q : R J H1) :
    PIE X pins σ tg R (.ref s1.heap.objs.size) { s1 with heap := s1.heap.push o } := by
  have I2 : Inv X pins σ H1 { s1 with heap := s1.heap.push o } := I1.kept (t' := s1.toks) fun _ _ e => Heap.get?_push_of_some _ e
  refine ⟨_, [s1.heap.objs.size], tn, J, H1, rfl, I2, T, h0, ?_, q⟩
  intro b hb
  obtain rfl : b = s1.heap.objs.size := by simpa using hb
  exact I1.fpOk (Nat.le_refl _) (I1.hok.fresh (Nat.le_refl _))
theorem iter_lst (I1 : Inv X pins σ H1 s1) (hq : SqL X.K H1 a xs) (q : R (Itl X.K a) H1) : wpAny (model X.prog X.w) X.A (pyIter (.ref a)) (PIE X pins σ tg R) X.xe s1 := by
  obtain ⟨its, rv, pl, hz⟩ := I1.list hq
  exact wpAny_pyIter_list pl.isList (walk_at I1 (turn_list a _) ⟨_, Heap.get?_push_size _ rfl, rfl, rfl⟩ q)
theorem iter_tup (I1 : Inv X pins σ H1 s1) (hq : SqT X.K H1 a xs) (q : R (Itt X.K a) H1) : wpAny (model X.prog X.w) X.A (pyIter (.ref a)) (PIE X pins σ tg R) X.xe s1 := by
  obtain ⟨its, rv, pl, hz⟩ := I1.tuple hq
  exact wpAny_pyIter_tuple (show s1.heap.IsTuple a its.toArray from pl) (walk_at I1 (turn_tuple a _) ⟨_, Heap.get?_push_size _ rfl, rfl, rfl⟩ q)
def iSeq (K : PySem.W.Frag) (tl : TE) : TI := fun σ H R => tl σ H fun x H1 => ∃ a, x = .ref a ∧ (((∃ xs, SqL K H1 a xs) ∧ R (Itl K a) H1) ∨ ((∃ xs, SqT K H1 a xs) ∧ R (Itt K a) H1))
theorem pi_seq {l : Expr} {tl : TE} (hl : PE X l tl) : PI X tg l (iSeq X.K tl) := by
  refine ⟨fun pins s σ H R I h => thn (hl.run pins s σ H _ I h) ?_⟩
  rintro v s1 ⟨x, H1, I1, r1, b, rfl, q⟩
  cases r1
  rcases q with ⟨⟨ys, hq⟩, q⟩ | ⟨⟨ys, hq⟩, q⟩
  · exact iter_lst I1 hq q
  · exact iter_tup I1 hq q
end
section
variable {M : Md} {μ1 : List Addr} {H1 : Hp}
theorem sr_tup {K : PySem.W.Frag} (hK : K = M.K) (hl : Lsts μ1 H1) {a : Addr} {l : List U} {vs : List V} (hs : SqT M.K H1 a vs) (r : RepL M μ1 H1 l vs) (one : ∀ ys, SqT K H1 a ys → True) : SrR M μ1 H1 ⟨l, fun _ => True⟩ (Itt K a) where
  go := fun μ H S i s o _ hi => by
    obtain ⟨v, hv, _⟩ := (repL_mono s hl l vs r).get (List.getElem?_eq_getElem hi)
    exact ⟨vs, v, by rw [hK]; exact sqT_mono s hl hs, hv⟩
  stop := fun μ H S i s o _ hi => ⟨vs, by rw [hK]; exact sqT_mono s hl hs, by rw [← r.length]; exact hi⟩
  yld := fun μ H S i x H' u s o _ hu hy => by
    obtain ⟨rfl, hx⟩ := hy
    obtain ⟨v, hv, rv⟩ := (repL_mono s hl l vs r).get hu
    have e := hx vs (by rw [hK]; exact sqT_mono s hl hs)
    rw [hv] at e; cases e
    exact ⟨Step.refl _ _, o, rv⟩
theorem sr_lst {K : PySem.W.Frag} {a : Addr} {n : Nat} {l : List U} (hm : μ1[n]? = some a) : SrR M μ1 H1 ⟨l, fun S2 => S2[n]? = some (.lst l)⟩ (Itl K a) where
  go := fun μ H S i s o g hi => by
    obtain ⟨vs, h, r⟩ := o.of (s.get hm) g
    obtain ⟨v, hv, _⟩ := r.get (List.getElem?_eq_getElem hi)
    exact ⟨vs, v, .inl (.inl h), hv⟩
  stop := fun μ H S i s o g hi => by
    obtain ⟨vs, h, r⟩ := o.of (s.get hm) g
    exact ⟨vs, .inl (.inl h), by rw [← r.length]; exact hi⟩
  yld := fun μ H S i x H' u s o g hu hy => by
    obtain ⟨rfl, hx⟩ := hy
    obtain ⟨vs, h, r⟩ := o.of (s.get hm) g
    obtain ⟨v, hv, rv⟩ := r.get hu
    have e := hx vs (.inl (.inl h))
    rw [hv] at e; cases e
    exact ⟨Step.refl _ _, o, rv⟩
theorem rngL_len (lo : Int) (n : Nat) : (rngL lo n).length = n := by unfold rngL; simp
theorem sr_rng {lo : Int} {n : Nat} : SrR M μ1 H1 ⟨rngL lo n, fun _ => True⟩ (Itr lo n) where
  go := fun μ H S i s o g hi => by
    have hi : i < (rngL lo n).length := hi
    rw [rngL_len] at hi; exact hi
  stop := fun μ H S i s o g hi => by
    have hi : (rngL lo n).length ≤ i := hi
    rw [rngL_len] at hi; exact hi
  yld := fun μ H S i x H' u s o g hu hy => by
    obtain ⟨rfl, rfl⟩ := hy
    have hu : (rngL lo n)[i]? = some u := hu
    unfold rngL at hu
    rw [List.getElem?_map] at hu
    cases e : (List.range n)[i]? with
    | none => rw [e] at hu; cases hu
    | some j =>
      rw [e] at hu
      cases hu
      have := List.getElem?_eq_some_iff.mp e
      obtain ⟨h1, h2⟩ := this
      simp at h2
      subst h2
      exact ⟨Step.refl _ _, o, repI _⟩
theorem downL_len (j : Int) : (downL j).length = (j + 1).toNat := by unfold downL; simp
theorem sr_down {j : Int} : SrR M μ1 H1 ⟨downL j, fun _ => True⟩ (Itc j (-1) (j - -1).toNat) where
  go := fun μ H S i s o g hi => by
    have hi : i < (downL j).length := hi
    rw [downL_len] at hi
    show i < _
    omega
  stop := fun μ H S i s o g hi => by
    have hi : (downL j).length ≤ i := hi
    rw [downL_len] at hi
    show _ ≤ i
    omega
  yld := fun μ H S i x H' u s o g hu hy => by
    obtain ⟨rfl, rfl⟩ := hy
    have hu : (downL j)[i]? = some u := hu
    unfold downL at hu
    rw [List.getElem?_map] at hu
    cases e : (List.range (j + 1).toNat)[i]? with
    | none => rw [e] at hu; cases hu
    | some m =>
      rw [e] at hu
      cases hu
      obtain ⟨h1, h2⟩ := List.getElem?_eq_some_iff.mp e
      simp at h2
      subst h2
      refine ⟨Step.refl _ _, o, ?_⟩
      rw [Rep]
      congr 1
      omega
end
section
variable {p : Pm} {k : Nat} {N bl xc : List Str} {sc : Scope} {sf : Str → Bool} {X : Cx} {a b c tg : Expr} {a' b' c' : E} {pos : Pos}
theorem si_seq (g : GX p k N bl xc sc sf X) (ha : PE X a (tE p a')) : PI X tg a (tIt p (.seq a')) := by
  refine (pi_seq ha).imp fun σ H R ⟨μ, S, σe, st, h⟩ => ?_
  rw [wpI] at h
  refine tE_of g.gm st h fun u S1 h1 μ1 H1 x s1 o1 r1 => ?_
  unfold srcp at h1
  split at h1
  · rw [Rep] at r1
    obtain ⟨q, vs, rfl, hq, rl⟩ := r1
    exact ⟨q, rfl, .inr ⟨⟨vs, by rw [g.hK]; exact hq⟩, h1 μ1 H1 _ s1 o1 (sr_tup g.hK o1.lsts hq rl fun _ _ => trivial)⟩⟩
  · split at h1
    · rename_i e1
      rw [Rep] at r1
      obtain ⟨q, rfl, hm⟩ := r1
      obtain ⟨vs, hv, rl⟩ := o1.of hm e1
      exact ⟨q, rfl, .inl ⟨⟨vs, .inl (.inl hv)⟩, h1 μ1 H1 _ s1 o1 (sr_lst hm)⟩⟩
    · exact h1.elim
  · exact h1.elim
theorem si_rng1 (g : GX p k N bl xc sc sf X) {x : Str} {pp : Pos} (e : x = Str.ofString "range") (hb : x ∈ bl) (hx : globB sc x = true) (hs : notStar a = true) (ha : PE X a (tE p a')) : PI X tg (.Call (.Name x pp) [a] [] pos) (tIt p (.rng1 a')) := by
  subst e
  obtain ⟨a1, b1, c1⟩ := glob_of g hx
  refine (pi_range1 a1 (by rw [g.hmg]; exact g.blt _ hb) (pa_cons ha pa_nil (star_cons hs)) (star_cons hs)).imp fun σ H R ⟨μ, S, σe, st, h⟩ => ?_
  rw [wpI] at h
  refine tE_of g.gm st h fun u S1 h1 μ1 H1 x s1 o1 r1 => ?_
  obtain ⟨j, rfl, h2⟩ := intp_rep r1 h1
  exact ⟨j, rfl, h2.1.1, h2.1.2, h2.2 μ1 H1 _ s1 o1 sr_rng⟩
theorem si_rng2 (g : GX p k N bl xc sc sf X) {x : Str} {pp : Pos} (e : x = Str.ofString "range") (hb : x ∈ bl) (hx : globB sc x = true) (hs : notStar a = true) (hs2 : notStar b = true) (ha : PE X a (tE p a')) (hb' : PE X b (tE p b')) : PI X tg (.Call (.Name x pp) [a, b] [] pos) (tIt p (.rng2 a' b')) := by
  subst e
  obtain ⟨a1, b1, c1⟩ := glob_of g hx
  refine (pi_range2 a1 (by rw [g.hmg]; exact g.blt _ hb) (pa_cons ha (pa_cons hb' pa_nil (star_cons hs2)) (star_cons hs)) (by rw [star_cons hs, star_cons hs2]; rfl) (star_cons hs2)).imp fun σ H R ⟨μ, S, σe, st, h⟩ => ?_
  rw [wpI] at h
  refine two_of g.gm st h fun u v S2 h2 μ2 H2 x y s2 o2 r1 r2 => ?_
  obtain ⟨i, rfl, h3⟩ := intp_rep r1 h2
  obtain ⟨j, rfl, h4⟩ := intp_rep r2 h3
  exact ⟨i, j, rfl, h4.1, h4.2 μ2 H2 _ s2 o2 sr_rng⟩
theorem si_down (g : GX p k N bl xc sc sf X) {x : Str} {pp p1 p2 p3 p4 : Pos} {k1 k2 : Nat} (e : x = Str.ofString "range") (hb : x ∈ bl) (hx : globB sc x = true) (hs : notStar a = true) (ha : PE X a (tE p a')) :
    PI X tg (.Call (.Name x pp) [a, .UnaryOp .USub (.Constant (.int 1) k1 p1) p2, .UnaryOp .USub (.Constant (.int 1) k2 p3) p4] [] pos) (tIt p (.down a')) := by
  subst e
  obtain ⟨a1, b1, c1⟩ := glob_of g hx
  refine (pi_range3 a1 (by rw [g.hmg]; exact g.blt _ hb) (pa_cons ha (pa_cons (pe_un un_neg pe_int) (pa_cons (pe_un un_neg pe_int) pa_nil)) (star_cons hs)) (star_cons hs) rfl).imp fun σ H R ⟨μ, S, σe, st, h⟩ => ?_
  rw [wpI] at h
  refine tE_of g.gm st h fun u S1 h1 μ1 H1 x s1 o1 r1 => ?_
  obtain ⟨j, rfl, h2⟩ := intp_rep r1 h1
  exact ⟨1, rfl, 1, rfl, j, -1, -1, _, rfl, RgC.neg h2.1.1 h2.1.2 (by decide) (by decide), h2.2 μ1 H1 _ s1 o1 sr_down⟩
end
end Q

set_option Elab.async false
set_option linter.all false
set_option maxRecDepth 100000
set_option maxHeartbeats 8000000
/-! QSound4: comprehensions; all expressions together. -/
namespace Q
open PySem PySem.Spec PyProof.Rows L2
section
variable {M : Md} {μ μ' : List Addr} {H H' : Hp}
mutual
theorem rep_up (hg : ∀ (n : Nat) (a : Addr), μ[n]? = some a → μ'[n]? = some a) (hk : ∀ a o, H a = some o → (∀ x, o ≠ .lst x) → H' a = some o) : ∀ (u : U) (v : V), Rep M μ H u v → Rep M μ' H' u v
  | .non, v, h => by simpa [Rep] using h
  | .bl b, v, h => by simpa [Rep] using h
  | .int b, v, h => by simpa [Rep] using h
  | .str b, v, h => by simpa [Rep] using h
  | .ty b, v, h => by simpa [Rep] using h
  | .fn b, v, h => by simpa [Rep] using h
  | .cls b, v, h => by simpa [Rep] using h
  | .tup l, v, h => by
    rw [Rep] at h ⊢
    obtain ⟨a, vs, e, q, r⟩ := h
    refine ⟨a, vs, e, ?_, repL_up hg hk l vs r⟩
    rcases q with (q | ⟨o, q⟩) | q
    · exact .inl (.inl (hk a _ q fun x z => by cases z))
    · exact .inl (.inr ⟨o, hk a _ q fun x z => by cases z⟩)
    · exact .inr q
  | .lst n, v, h => by
    rw [Rep] at h ⊢
    obtain ⟨a, e, q⟩ := h
    exact ⟨a, e, hg _ _ q⟩
  | .scr l, v, h => by
    rw [Rep] at h ⊢
    obtain ⟨a, e, q⟩ := h
    refine ⟨a, e, ?_⟩
    rcases q with ⟨o, q⟩ | q
    · exact .inl ⟨o, hk a _ q fun x z => by cases z⟩
    · exact .inr q
theorem repL_up (hg : ∀ (n : Nat) (a : Addr), μ[n]? = some a → μ'[n]? = some a) (hk : ∀ a o, H a = some o → (∀ x, o ≠ .lst x) → H' a = some o) : ∀ (us : List U) (vs : List V), RepL M μ H us vs → RepL M μ' H' us vs
  | [], vs, h => by simpa [RepL] using h
  | u :: us, vs, h => by
    rw [RepL] at h ⊢
    obtain ⟨v, r, e, q1, q2⟩ := h
    exact ⟨v, r, e, rep_up hg hk u v q1, repL_up hg hk us r q2⟩
end
/-- a list that is none of the store's is changed -/
theorem StoreOk.aside {St : Sto} {D : Addr} {x y : List V} (s : StoreOk M μ H St) (hD : D ∉ μ) (e : H D = some (.lst x)) : StoreOk M μ (upd H D (.lst y)) St := by
  refine ⟨s.len, s.nd, fun n c h => ?_⟩
  obtain ⟨a, ha, q⟩ := s.cell n c h
  refine ⟨a, ha, ?_⟩
  have na : a ≠ D := fun z => hD (z ▸ List.mem_of_getElem? ha)
  cases c with
  | lst l =>
    obtain ⟨vs, h1, h2⟩ := q
    refine ⟨vs, by rw [upd_ne na]; exact h1, repL_up (fun _ _ h => h) (fun b o hb hn => ?_) _ _ h2⟩
    rw [upd_ne (fun z => by rw [z, e] at hb; cases hb; exact hn _ rfl)]
    exact hb
theorem rep_aside {D : Addr} {x y : List V} (e : H D = some (.lst x)) {us : List U} {vs : List V} (r : RepL M μ H us vs) : RepL M μ (upd H D (.lst y)) us vs :=
  repL_up (fun _ _ h => h) (fun b o hb hn => by
    rw [upd_ne (fun z => by rw [z, e] at hb; cases hb; exact hn _ rfl)]
    exact hb) _ _ r
theorem Step.aside {μ0 : List Addr} {H0 : Hp} {D : Addr} {o : HO} (s : Step μ0 H0 μ H) (hD : H0 D = none) : Step μ0 H0 μ (upd H D o) where
  pre := s.pre
  new := s.new
  keep := fun a q e n => by rw [upd_ne (ne_of_none e hD)]; exact s.keep a q e n
  tr := fun a e => by
    by_cases h : a = D
    · rw [h]; exact hD
    · rw [upd_ne h] at e; exact s.tr a e
/-- the list that was made aside joins the store -/
theorem Step.join {μ0 : List Addr} {H0 : Hp} {D : Addr} (s : Step μ0 H0 μ H) (hD : H0 D = none) : Step μ0 H0 (μ ++ [D]) H where
  pre := by obtain ⟨t, rfl⟩ := s.pre; exact ⟨t ++ [D], by simp⟩
  new := fun a h => by
    rcases List.mem_append.mp h with h | h
    · exact s.new a h
    · have : a = D := by simpa using h
      rw [this]; exact .inr hD
  keep := s.keep
  tr := s.tr
theorem StoreOk.join {St : Sto} {D : Addr} {l : List U} {vs : List V} (s : StoreOk M μ H St) (hD : D ∉ μ) (e : H D = some (.lst vs)) (r : RepL M μ H l vs) : StoreOk M (μ ++ [D]) H (St ++ [.lst l]) := by
  have hg : ∀ (n : Nat) (a : Addr), μ[n]? = some a → (μ ++ [D])[n]? = some a := fun n a h => by
    obtain ⟨hn, _⟩ := List.getElem?_eq_some_iff.mp h
    rw [List.getElem?_append_left hn]; exact h
  refine ⟨by simp [s.len], ?_, fun n c h => ?_⟩
  · rw [List.nodup_append]
    refine ⟨s.nd, by simp, fun a ha b hb z => ?_⟩
    have : b = D := by simpa using hb
    subst this; subst z; exact hD ha
  · by_cases hlt : n < St.length
    · rw [List.getElem?_append_left hlt] at h
      obtain ⟨a, ha, q⟩ := s.cell n c h
      refine ⟨a, hg _ _ ha, ?_⟩
      cases c with
      | lst l' =>
        obtain ⟨ws, h1, h2⟩ := q
        exact ⟨ws, h1, repL_up hg (fun _ _ h _ => h) _ _ h2⟩
    · have hn2 : n < (St ++ [Cell.lst l]).length := (List.getElem?_eq_some_iff.mp h).1
      simp at hn2
      have e2 : n = St.length := by omega
      subst e2
      simp at h
      subst h
      exact ⟨D, by rw [← s.len]; simp, vs, e, repL_up hg (fun _ _ h _ => h) _ _ r⟩
theorem not_mem_step {μ1 : List Addr} {H1 : Hp} (s : Step μ H μ1 H1) {D : Addr} {o : HO} (hD : D ∉ μ) (e : H D = some o) : D ∉ μ1 := fun h => by
  rcases s.new D h with q | q
  · exact hD q
  · rw [e] at q; cases q
theorem wipe_get (σ : L2.St) : ∀ (vs : List Nat) (i : Nat), (wipe σ vs)[i]? = if i ∈ vs ∧ i < σ.length then some none else σ[i]?
  | [], i => by simp [wipe]
  | v :: vs, i => by
    unfold wipe
    rw [List.getElem?_set, wipe_length, wipe_get σ vs i]
    by_cases h : v = i
    · subst h
      by_cases hl : v < σ.length
      · simp [hl]
      · simp [hl]
    · have h' : ¬ i = v := fun e => h e.symm
      simp [h, h']
theorem wipe_chg {σ σ2 : L2.St} {vs l : List Nat} (c : Chg l (wipe σ vs) σ2) (hl : ∀ i ∈ l, i ∈ vs) : wipe σ2 vs = wipe σ vs := by
  apply List.ext_getElem?
  intro i
  have hlen : σ2.length = σ.length := by rw [c.1, wipe_length]
  rw [wipe_get, wipe_get, hlen]
  by_cases h : i ∈ vs ∧ i < σ.length
  · rw [if_pos h, if_pos h]
  · rw [if_neg h, if_neg h]
    by_cases hi : i ∈ vs
    · have hn : ¬ i < σ.length := fun z => h ⟨hi, z⟩
      rw [List.getElem?_eq_none (by omega), List.getElem?_eq_none (by omega)]
    · rw [c.2 i fun z => hi (hl i z), wipe_get, if_neg fun z => hi z.1]
theorem wipeU_len (σ : Sl) : ∀ vs : List Nat, (wipeU σ vs).length = σ.length
  | [] => rfl
  | v :: vs => by unfold wipeU; rw [List.length_set, wipeU_len σ vs]
theorem wipeU_some {σ : Sl} {i : Nat} {x : U} : ∀ {vs : List Nat}, (wipeU σ vs)[i]? = some (some x) → σ[i]? = some (some x) ∧ i ∉ vs
  | [], h => ⟨h, by simp⟩
  | v :: vs, h => by
    unfold wipeU at h
    by_cases hi : v = i
    · subst hi
      by_cases hv : v < (wipeU σ vs).length
      · rw [List.getElem?_set_self hv] at h; cases h
      · rw [List.getElem?_eq_none (by simpa using hv)] at h; cases h
    · rw [List.getElem?_set_ne hi] at h
      obtain ⟨h1, h2⟩ := wipeU_some h
      exact ⟨h1, by simp only [List.mem_cons, not_or]; exact ⟨fun e => hi e.symm, h2⟩⟩
theorem SlR.wipe {σe : Sl} {σ : L2.St} (s : SlR M μ H σe σ) (vs : List Nat) : SlR M μ H (wipeU σe vs) (L2.wipe σ vs) :=
  ⟨by rw [wipeU_len, wipe_length, s.len], fun i u e => by
    obtain ⟨h1, h2⟩ := wipeU_some e
    obtain ⟨v, hv, r⟩ := s.get i u h1
    exact ⟨v, by rw [wipe_get, if_neg fun z => h2 z.1]; exact hv, r⟩⟩
end

section
variable {p : Pm} {k : Nat} {N bl xc : List Str} {sc : Scope} {sf : Str → Bool} {X : Cx}
/-- nothing is let out -/
abbrev Pm.nox (p : Pm) : Pm := { p with Ex := fun _ _ _ _ => False }
theorem relS_kind {a b : Scope} : (relS a b).kind = a.kind := rfl
theorem gx_blk (g : GX p k N bl xc sc sf X) {scope : Scope} {own : List (Str × Nat)} (ok : BlkOk N sc scope own) (s : Shared) (H : Hp) (C : Addr) (cl : List (Str × Addr)) (fp : List Addr) :
    GX p.nox k N bl xc (relS scope sc) (fun x => scope.names.lookup x == some .cell) (X.blk s H scope (compEnvC scope cl C X.env) fp) where
  hK := g.hK
  hmg := g.hmg
  hN := g.hN
  nd := g.nd
  hsc := by rw [← g.hsc]; rfl
  knd := ok.kind
  calm := g.calm
  room := g.room
  fn := fun x h => h
  gm := g.gm
  fns := g.fns
  cts := g.cts
  blt := g.blt
  exc := g.exc
  tk := ⟨fun _ _ _ _ => False, takes0, fun _ _ _ _ _ _ _ _ _ _ _ h => h⟩
  po := PassesOwn.never
theorem s_lc (g : GX p k N bl xc sc sf X) {e tg it : Expr} {ifs : List Expr} {scope : Scope} {pos : Pos} {e' : E} {t : T} {it' : Q.It} {c : Oe} {own : List (Str × Nat)} (ok : BlkOk N sc scope own) (hset : notSet it = true) (hown : ∀ i ∈ nmsT t, i ∈ own.map (·.2))
    (hi : PI X tg it (tIt p it')) (hg : ∀ (s : Shared) (H : Hp) (C : Addr) (cl : List (Str × Addr)) (fp : List Addr), PG (X.blk s H scope (compEnvC scope cl C X.env) fp) tg (tGt p.nox t))
    (ht : ∀ (s : Shared) (H : Hp) (C : Addr) (cl : List (Str × Addr)) (fp : List Addr), PTs (X.blk s H scope (compEnvC scope cl C X.env) fp) ifs (tC2 p.nox c))
    (he : ∀ (s : Shared) (H : Hp) (C : Addr) (cl : List (Str × Addr)) (fp : List Addr), PE (X.blk s H scope (compEnvC scope cl C X.env) fp) e (tE p.nox e')) :
    (∀ σ H Q, tE p (.lc e' t it' c own) σ H Q → tLc (tIt p it') (tGt p.nox t) (tC2 p.nox c) (tE p.nox e') (own.map (·.2)) σ H Q) := by
  intro σ H Q ⟨μ, S, σe, st, h⟩
  rw [wpE] at h
  have gm0 : GMono p.nox.G := g.gm
  refine tI_of g.gm st h fun src S1 h1 μ1 H1 J s1 o1 sr => ?_
  intro D hD
  obtain ⟨vs, hvs⟩ : ∃ vs, vs = own.map (·.2) := ⟨_, rfl⟩
  rw [← hvs] at h1 hown ⊢
  obtain ⟨turn, hturn⟩ : ∃ turn : U → Sto → (Option U → Sto → Prop) → Prop, turn = fun u S2 k => wpTg p.G t (fun _ _ _ _ => False) u (wipeU σe vs) S2 fun σ2 S3 => wpC p.G c (fun _ _ _ _ => False) σ2 S3 fun b S4 =>
      if b = true then wpE p.G e' (fun _ _ _ _ => False) σ2 S4 fun v S5 => k (some v) S5 else k none S4 := ⟨_, rfl⟩
  obtain ⟨K, hK⟩ : ∃ K : List U → Sto → Prop, K = fun acc S2 => Aft p.M μ H Q (.lst S2.length) (S2 ++ [.lst acc]) := ⟨_, rfl⟩
  have h1 : lcL turn src.grd src.vals [] S1 K := by subst hturn hK; exact h1
  refine ⟨fun i m H' => ∃ μ' S' acc avs, Step μ1 H1 μ' H' ∧ StoreOk p.M μ' H' S' ∧ D ∉ μ' ∧ H' D = some (.lst avs) ∧ RepL p.M μ' H' acc avs ∧ m = src.vals.length - i ∧ i ≤ src.vals.length ∧
      lcL turn src.grd (src.vals.drop i) acc S' K, ⟨src.vals.length, μ1, S1, [], [], Step.laid hD, o1.laid hD, fun z => ?_, upd_same, RepL.nil, by simp, Nat.zero_le _, by rw [List.drop_zero]; exact h1⟩, ?_⟩
  · obtain ⟨x, q⟩ := o1.mem z
    rw [hD] at q; cases q
  rintro i m H2 ⟨μ2, S2, acc, avs, s2, o2, dn, hd, ra, rfl, hi, w⟩
  by_cases hlt : i < src.vals.length
  · rw [List.drop_eq_getElem_cons hlt] at w
    obtain ⟨gr, w⟩ := w
    refine .inr ⟨sr.go μ2 H2 S2 i s2 o2 gr hlt, fun H' => ∃ μ' S' acc avs, Step μ1 H1 μ' H' ∧ StoreOk p.M μ' H' S' ∧ D ∉ μ' ∧ H' D = some (.lst avs) ∧ RepL p.M μ' H' acc avs ∧
      lcL turn src.grd (src.vals.drop (i + 1)) acc S' K, ?_, ?_⟩
    · rintro H' ⟨μ', S', acc', avs', q1, q2, q3, q4, q5, q6⟩
      exact ⟨src.vals.length - (i + 1), by omega, μ', S', acc', avs', q1, q2, q3, q4, q5, rfl, hlt, q6⟩
    · intro x H3 hy
      obtain ⟨s3, o3, r3⟩ := sr.yld μ2 H2 S2 i x H3 _ s2 o2 gr (List.getElem?_eq_getElem hlt) hy
      have st3 : StR p.nox μ2 H3 S2 (wipeU σe vs) (wipe σ vs) := ⟨((st.st.trans s1).trans s2).trans s3, o3, (st.sl.mono ((s1.trans s2).trans s3) st.ok.lsts).wipe vs⟩
      have hd3 : H3 D = some (.lst avs) := s3.keep D _ hd dn
      have ra3 : RepL p.M μ2 H3 acc avs := repL_mono s3 o2.lsts _ _ ra
      have w2 := w
      rw [hturn] at w2
      refine tG_of gm0 st3 r3 w2 fun σe4 S4 k4 μ4 H4 σ4 s4 o4 l4 c4 => ⟨wipe_chg c4 hown, ?_⟩
      have st4 : StR p.nox μ4 H4 S4 σe4 σ4 := ⟨st3.st.trans s4, o4, l4⟩
      refine tC_of gm0 st4 k4 fun b S5 k5 μ5 H5 s5 o5 => ?_
      cases b with
      | false =>
        have k5 : lcL turn src.grd (src.vals.drop (i + 1)) acc S5 K := by rw [hturn]; exact k5
        exact ⟨μ5, S5, acc, avs, (s2.trans s3).trans (s4.trans s5), o5, not_mem_step (s4.trans s5) dn hd3, (s4.trans s5).keep D _ hd3 dn, repL_mono (s4.trans s5) o3.lsts _ _ ra3, k5⟩
      | true =>
        refine tE_of gm0 (st4.next s5 o5) k5 fun v S6 k6 μ6 H6 y s6 o6 r6 => ?_
        have k6 : acc.length < sizeLine ∧ lcL turn src.grd (src.vals.drop (i + 1)) (acc ++ [v]) S6 K := by rw [hturn]; exact k6
        have ss := (s4.trans s5).trans s6
        have hd6 : H6 D = some (.lst avs) := ss.keep D _ hd3 dn
        have dn6 := not_mem_step ss dn hd3
        have ra6 := repL_mono ss o3.lsts _ _ ra3
        refine ⟨avs, hd6, by rw [← ra3.length]; exact k6.1, μ6, S6, acc ++ [v], avs ++ [y], ((s2.trans s3).trans ss).aside hD, o6.aside dn6 hd6, dn6, upd_same, rep_aside hd6 (ra6.append (RepL.cons r6 RepL.nil)), k6.2⟩
  · have e : i = src.vals.length := by omega
    subst e
    rw [List.drop_length] at w
    obtain ⟨gr, w⟩ := w
    refine .inl ⟨sr.stop μ2 H2 S2 _ s2 o2 gr (Nat.le_refl _), ?_⟩
    have hD0 : H D = none := s1.tr D hD
    subst hK
    refine w (μ2 ++ [D]) H2 (.ref D) ((s1.trans s2).join hD0) (o2.join dn hd ra) ?_
    rw [Rep]
    exact ⟨D, rfl, by rw [← o2.len]; simp⟩
end
end Q

set_option Elab.async false
set_option linter.all false
set_option maxRecDepth 100000
set_option maxHeartbeats 16000000
/-! QSound5: all expressions together. -/
namespace Q
open PySem PySem.Spec PyProof.Rows L2
theorem es_star {N bl : List Str} {sc : Scope} {sf : Str → Bool} : ∀ (es' : Es) (es : List Expr), chkEs N bl es' sc sf es = true → es.all notStar = true
  | .nil, es, h => by
    unfold chkEs at h
    split at h
    · rfl
    · cases h
  | .cons e r, es, h => by
    unfold chkEs at h
    split at h
    · simp only [Bool.and_eq_true] at h
      rw [List.all_cons, h.1.1, es_star r _ h.2]; rfl
    · cases h
theorem es_nil {N bl : List Str} {sc : Scope} {sf : Str → Bool} {es' : Es} (h : chkEs N bl es' sc sf [] = true) : es' = .nil := by
  cases es' with
  | nil => rfl
  | cons e r => unfold chkEs at h; cases h
theorem ts_star {N bl : List Str} {sc : Scope} {sf : Str → Bool} : ∀ (es' : Ts) (es : List Expr), chkTs N bl es' sc sf es = true → es.all notStar = true ∧ es.length = lenTs es'
  | .nil, es, h => by
    unfold chkTs at h
    split at h
    · exact ⟨rfl, rfl⟩
    · cases h
  | .cons e r, es, h => by
    unfold chkTs at h
    split at h
    · simp only [Bool.and_eq_true] at h
      obtain ⟨a, b⟩ := ts_star r _ h.2
      exact ⟨by rw [List.all_cons, h.1.1, a]; rfl, by rw [List.length_cons, b, lenTs]⟩
    · cases h
section
variable {k : Nat} {N bl xc : List Str}
mutual
theorem sE : ∀ (ir : E) {p : Pm} {sc : Scope} {sf : Str → Bool} {X : Cx} (g : GX p k N bl xc sc sf X) (e : Expr), chkE N bl ir sc sf e = true → PE X e (tE p ir)
  | .var i, p, sc, sf, X, g, e, h => by
    unfold chkE at h
    split at h
    · simp only [Bool.and_eq_true, decide_eq_true_eq] at h
      exact s_var g h.1.1 h.1.2 h.2
    · cases h
  | .int i, p, sc, sf, X, g, e, h => by
    unfold chkE at h
    split at h
    · simp only [decide_eq_true_eq] at h; subst h; exact s_int
    · cases h
  | .str i, p, sc, sf, X, g, e, h => by
    unfold chkE at h
    split at h
    · simp only [decide_eq_true_eq] at h; subst h; exact s_str
    · cases h
  | .bl i, p, sc, sf, X, g, e, h => by
    unfold chkE at h
    split at h
    · simp only [beq_iff_eq] at h; subst h; exact s_bl
    · cases h
  | .non, p, sc, sf, X, g, e, h => by
    unfold chkE at h
    split at h
    · exact s_non
    · cases h
  | .glob x, p, sc, sf, X, g, e, h => by
    unfold chkE at h
    split at h
    · simp only [Bool.and_eq_true, decide_eq_true_eq] at h
      obtain ⟨rfl, h2⟩ := h
      exact s_glob g h2
    · cases h
  | .bop o a b, p, sc, sf, X, g, e, h => by
    unfold chkE at h
    split at h
    · simp only [Bool.and_eq_true] at h
      exact s_bop g h.1.1 (sE a g _ h.1.2) (sE b g _ h.2)
    · cases h
  | .neg a, p, sc, sf, X, g, e, h => by
    unfold chkE at h
    split at h
    · exact s_neg g (sE a g _ h)
    · cases h
  | .cmp o a b, p, sc, sf, X, g, e, h => by
    unfold chkE at h
    split at h
    · simp only [Bool.and_eq_true, Bool.not_eq_true'] at h
      exact s_cmp g h.1.1.1 h.1.1.2 (sE a g _ h.1.2) (sE b g _ h.2)
    · cases h
  | .cmp2 o o2 a b c, p, sc, sf, X, g, e, h => by
    unfold chkE at h
    split at h
    · simp only [Bool.and_eq_true, Bool.not_eq_true'] at h
      exact s_cmp2 g h.1.1.1.1.1 h.1.1.1.1.2 h.1.1.1.2 (sE a g _ h.1.1.2) (sE b g _ h.1.2) (sE c g _ h.2)
    · cases h
  | .isN a, p, sc, sf, X, g, e, h => by
    unfold chkE at h
    split at h
    · exact s_isN g (sE a g _ h)
    · cases h
  | .notN a, p, sc, sf, X, g, e, h => by
    unfold chkE at h
    split at h
    · exact s_notN g (sE a g _ h)
    · cases h
  | .andE a b, p, sc, sf, X, g, e, h => by
    unfold chkE at h
    split at h
    · simp only [Bool.and_eq_true] at h
      exact s_and g (sE a g _ h.1) (pe_one (sE b g _ h.2))
    · simp only [Bool.and_eq_true] at h
      exact s_and g (sE a g _ h.1) (sE b g _ h.2)
    · cases h
  | .orE a b, p, sc, sf, X, g, e, h => by
    unfold chkE at h
    split at h
    · simp only [Bool.and_eq_true] at h
      exact s_or g (sE a g _ h.1) (pe_one (sE b g _ h.2))
    · simp only [Bool.and_eq_true] at h
      exact s_or g (sE a g _ h.1) (sE b g _ h.2)
    · cases h
  | .notE a, p, sc, sf, X, g, e, h => by
    unfold chkE at h
    split at h
    · exact s_not g (sE a g _ h)
    · cases h
  | .tst a, p, sc, sf, X, g, e, h => by
    unfold chkE at h
    cases h
  | .ite t a b, p, sc, sf, X, g, e, h => by
    unfold chkE at h
    split at h
    · simp only [Bool.and_eq_true] at h
      exact s_ite g (sT t g _ h.1.1) (sE a g _ h.1.2) (sE b g _ h.2)
    · cases h
  | .tup es, p, sc, sf, X, g, e, h => by
    unfold chkE at h
    split at h
    · exact s_tup g (sEs es g _ h)
    · cases h
  | .lst es, p, sc, sf, X, g, e, h => by
    unfold chkE at h
    split at h
    · exact s_lst g (sEs es g _ h)
    · cases h
  | .idx a i, p, sc, sf, X, g, e, h => by
    unfold chkE at h
    split at h
    · simp only [Bool.and_eq_true] at h
      exact s_idx g h.1.1 (sE a g _ h.1.2) (sE i g _ h.2)
    · cases h
  | .slc a lo hi, p, sc, sf, X, g, e, h => by
    unfold chkE at h
    split at h
    · simp only [Bool.and_eq_true] at h
      exact s_slc g (sE a g _ h.1.1) (sO lo g _ h.1.2) (sO hi g _ h.2)
    · cases h
  | .rev a, p, sc, sf, X, g, e, h => by
    unfold chkE at h
    split at h
    · exact s_rev g (sE a g _ h)
    · cases h
  | .call f es, p, sc, sf, X, g, e, h => by
    unfold chkE at h
    split at h
    · rename_i x pp l cp
      simp only [Bool.and_eq_true, decide_eq_true_eq] at h
      obtain ⟨⟨rfl, h2⟩, h3⟩ := h
      cases l with
      | nil =>
        have e0 := es_nil h3
        subst e0
        exact s_call0 g h2
      | cons y r => exact s_call g h2 (es_star es _ h3) (sEs es g _ h3)
    · cases h
  | .callL i es, p, sc, sf, X, g, e, h => by
    unfold chkE at h
    split at h
    · rename_i x pp l cp
      simp only [Bool.and_eq_true, decide_eq_true_eq] at h
      obtain ⟨⟨⟨⟨h1, h2⟩, h3⟩, h4⟩, h5⟩ := h
      cases l with
      | nil => cases h4
      | cons y r => exact s_callL g h1 h2 h3 (es_star es _ h5) (sEs es g _ h5)
    · cases h
  | .bi f es, p, sc, sf, X, g, e, h => by
    unfold chkE at h
    split at h
    · rename_i x pp l cp
      simp only [Bool.and_eq_true, decide_eq_true_eq] at h
      obtain ⟨⟨⟨⟨h1, h2⟩, h3⟩, h4⟩, h5⟩ := h
      cases l with
      | nil => cases h4
      | cons y r => exact s_bi g h1 h2 h3 (es_star es _ h5) (sEs es g _ h5)
    · cases h
  | .meth m a es, p, sc, sf, X, g, e, h => by
    unfold chkE at h
    split at h
    · simp only [Bool.and_eq_true, decide_eq_true_eq] at h
      obtain ⟨⟨⟨⟨⟨⟨h1, h2⟩, h3⟩, h4⟩, h5⟩, h6⟩, h7⟩ := h
      exact s_meth g h1 h2 h3 h4 h5 (es_star es _ h7) (sE a g _ h6) (sEs es g _ h7) (fun z => by subst z; exact es_nil h7)
    · cases h
  | .isi a t, p, sc, sf, X, g, e, h => by
    unfold chkE at h
    split at h
    · simp only [Bool.and_eq_true, decide_eq_true_eq] at h
      obtain ⟨⟨⟨⟨⟨⟨⟨⟨h1, h2⟩, h3⟩, h4⟩, h5⟩, h6⟩, h7⟩, h8⟩, h9⟩ := h
      subst h1 h4
      exact s_isi g h2 h3 h5 h6 h7 h8 (sE a g _ h9)
    · cases h
  | .lc e' t it c own, p, sc, sf, X, g, e, h => by
    unfold chkE at h
    split at h
    · rename_i e0 t0 it0 cs0 scope0 pos0
      simp only [Bool.and_eq_true] at h
      obtain ⟨⟨⟨⟨⟨⟨⟨h1, h2⟩, h3⟩, h4⟩, h5⟩, h6⟩, h7⟩, h8⟩ := h
      have ok := blkOk_by h3
      have ok' : BlkOk X.N X.env.scope scope0 own := by rw [g.hN, g.hsc]; exact ok
      have ow : ∀ i ∈ nmsT t, i ∈ own.map (·.2) := fun i hi => by
        have z := List.all_eq_true.mp h5 i hi
        simpa using z
      have hg := fun s H C cl fp => sTg t (gx_blk g ok s H C cl fp) _ h6
      have ht := fun s H C cl fp => sC c (gx_blk g ok s H C cl fp) _ h7
      have he := fun s H C cl fp => sE e' (gx_blk g ok s H C cl fp) _ h8
      exact (pe_lc g.calm (by rw [g.hN]; exact g.nd) (sI it g _ h1) ok' hg ht he (set_of h2)).imp (s_lc (pos := pos0) g ok h2 ow (sI it (tg := _) g _ h1) hg ht he)
    · cases h
theorem sEs : ∀ (ir : Es) {p : Pm} {sc : Scope} {sf : Str → Bool} {X : Cx} (g : GX p k N bl xc sc sf X) (e : List Expr), chkEs N bl ir sc sf e = true → PA X e (tA p ir)
  | .nil, p, sc, sf, X, g, e, h => by
    unfold chkEs at h
    split at h
    · exact s_nil
    · cases h
  | .cons x r, p, sc, sf, X, g, e, h => by
    unfold chkEs at h
    split at h
    · simp only [Bool.and_eq_true] at h
      exact s_cons g h.1.1 (sE x g _ h.1.2) (sEs r g _ h.2)
    · cases h
theorem sO : ∀ (ir : Oe) {p : Pm} {sc : Scope} {sf : Str → Bool} {X : Cx} (g : GX p k N bl xc sc sf X) (e : Option Expr), chkO N bl ir sc sf e = true → PO X e (tOp2 p ir)
  | .none, p, sc, sf, X, g, e, h => by
    unfold chkO at h
    split at h
    · exact s_none
    · cases h
  | .some x, p, sc, sf, X, g, e, h => by
    unfold chkO at h
    split at h
    · exact s_some g (sE x g _ h)
    · cases h
theorem sC : ∀ (ir : Oe) {p : Pm} {sc : Scope} {sf : Str → Bool} {X : Cx} (g : GX p k N bl xc sc sf X) (e : List Expr), chkC N bl ir sc sf e = true → PTs X e (tC2 p ir)
  | .none, p, sc, sf, X, g, e, h => by
    unfold chkC at h
    split at h
    · exact st_c0
    · cases h
  | .some x, p, sc, sf, X, g, e, h => by
    unfold chkC at h
    split at h
    · exact st_c1 (sT x g _ h)
    · cases h
theorem sT : ∀ (ir : E) {p : Pm} {sc : Scope} {sf : Str → Bool} {X : Cx} (g : GX p k N bl xc sc sf X) (e : Expr), chkT N bl ir sc sf e = true → PT X e (tT p ir)
  | .andE a b, p, sc, sf, X, g, e, h => by
    unfold chkT at h
    split at h
    · simp only [Bool.and_eq_true] at h
      exact st_and g (sT a g _ h.1) (pw_and1 (sT b g _ h.2))
    · simp only [Bool.and_eq_true] at h
      exact st_and g (sT a g _ h.1) (PT.W (sT b g _ h.2))
    · cases h
  | .orE a b, p, sc, sf, X, g, e, h => by
    unfold chkT at h
    split at h
    · simp only [Bool.and_eq_true] at h
      exact st_or g (sT a g _ h.1) (pw_or1 (sT b g _ h.2))
    · simp only [Bool.and_eq_true] at h
      exact st_or g (sT a g _ h.1) (PT.W (sT b g _ h.2))
    · cases h
  | .notE a, p, sc, sf, X, g, e, h => by
    unfold chkT at h
    split at h
    · exact st_not g (sT a g _ h)
    · cases h
  | .tst (.cmp o a b), p, sc, sf, X, g, e, h => by
    unfold chkT chkE at h
    split at h
    · simp only [Bool.and_eq_true, Bool.not_eq_true'] at h
      exact st_cmp g h.1.1.1 h.1.1.2 (sE a g _ h.1.2) (sE b g _ h.2)
    · cases h
  | .tst (.cmp2 o o2 a b c), p, sc, sf, X, g, e, h => by
    unfold chkT chkE at h
    split at h
    · simp only [Bool.and_eq_true, Bool.not_eq_true'] at h
      exact st_cmp2 g h.1.1.1.1.1 h.1.1.1.1.2 h.1.1.1.2 (sE a g _ h.1.1.2) (sE b g _ h.1.2) (sE c g _ h.2)
    · cases h
  | .tst (.isN a), p, sc, sf, X, g, e, h => by
    unfold chkT chkE at h
    split at h
    · exact st_isN g (sE a g _ h)
    · cases h
  | .tst (.notN a), p, sc, sf, X, g, e, h => by
    unfold chkT chkE at h
    split at h
    · exact st_notN g (sE a g _ h)
    · cases h
  | .tst (.var i), p, sc, sf, X, g, e, h => by
    simp only [chkT, Bool.and_eq_true] at h
    exact st_tst g h.1 (sE (.var i) g _ h.2)
  | .tst (.int i), p, sc, sf, X, g, e, h => by
    simp only [chkT, Bool.and_eq_true] at h
    exact st_tst g h.1 (sE (.int i) g _ h.2)
  | .tst (.str i), p, sc, sf, X, g, e, h => by
    simp only [chkT, Bool.and_eq_true] at h
    exact st_tst g h.1 (sE (.str i) g _ h.2)
  | .tst (.bl i), p, sc, sf, X, g, e, h => by
    simp only [chkT, Bool.and_eq_true] at h
    exact st_tst g h.1 (sE (.bl i) g _ h.2)
  | .tst (.non), p, sc, sf, X, g, e, h => by
    simp only [chkT, Bool.and_eq_true] at h
    exact st_tst g h.1 (sE (.non) g _ h.2)
  | .tst (.glob x), p, sc, sf, X, g, e, h => by
    simp only [chkT, Bool.and_eq_true] at h
    exact st_tst g h.1 (sE (.glob x) g _ h.2)
  | .tst (.bop o a b), p, sc, sf, X, g, e, h => by
    simp only [chkT, Bool.and_eq_true] at h
    exact st_tst g h.1 (sE (.bop o a b) g _ h.2)
  | .tst (.neg a), p, sc, sf, X, g, e, h => by
    simp only [chkT, Bool.and_eq_true] at h
    exact st_tst g h.1 (sE (.neg a) g _ h.2)
  | .tst (.andE a b), p, sc, sf, X, g, e, h => by
    simp only [chkT, Bool.and_eq_true] at h
    exact st_tst g h.1 (sE (.andE a b) g _ h.2)
  | .tst (.orE a b), p, sc, sf, X, g, e, h => by
    simp only [chkT, Bool.and_eq_true] at h
    exact st_tst g h.1 (sE (.orE a b) g _ h.2)
  | .tst (.notE a), p, sc, sf, X, g, e, h => by
    simp only [chkT, Bool.and_eq_true] at h
    exact st_tst g h.1 (sE (.notE a) g _ h.2)
  | .tst (.tst a), p, sc, sf, X, g, e, h => by
    simp only [chkT, Bool.and_eq_true] at h
    exact st_tst g h.1 (sE (.tst a) g _ h.2)
  | .tst (.ite t a b), p, sc, sf, X, g, e, h => by
    simp only [chkT, Bool.and_eq_true] at h
    exact st_tst g h.1 (sE (.ite t a b) g _ h.2)
  | .tst (.tup es), p, sc, sf, X, g, e, h => by
    simp only [chkT, Bool.and_eq_true] at h
    exact st_tst g h.1 (sE (.tup es) g _ h.2)
  | .tst (.lst es), p, sc, sf, X, g, e, h => by
    simp only [chkT, Bool.and_eq_true] at h
    exact st_tst g h.1 (sE (.lst es) g _ h.2)
  | .tst (.idx a i), p, sc, sf, X, g, e, h => by
    simp only [chkT, Bool.and_eq_true] at h
    exact st_tst g h.1 (sE (.idx a i) g _ h.2)
  | .tst (.slc a lo hi), p, sc, sf, X, g, e, h => by
    simp only [chkT, Bool.and_eq_true] at h
    exact st_tst g h.1 (sE (.slc a lo hi) g _ h.2)
  | .tst (.rev a), p, sc, sf, X, g, e, h => by
    simp only [chkT, Bool.and_eq_true] at h
    exact st_tst g h.1 (sE (.rev a) g _ h.2)
  | .tst (.call f es), p, sc, sf, X, g, e, h => by
    simp only [chkT, Bool.and_eq_true] at h
    exact st_tst g h.1 (sE (.call f es) g _ h.2)
  | .tst (.callL i es), p, sc, sf, X, g, e, h => by
    simp only [chkT, Bool.and_eq_true] at h
    exact st_tst g h.1 (sE (.callL i es) g _ h.2)
  | .tst (.bi f es), p, sc, sf, X, g, e, h => by
    simp only [chkT, Bool.and_eq_true] at h
    exact st_tst g h.1 (sE (.bi f es) g _ h.2)
  | .tst (.meth m a es), p, sc, sf, X, g, e, h => by
    simp only [chkT, Bool.and_eq_true] at h
    exact st_tst g h.1 (sE (.meth m a es) g _ h.2)
  | .tst (.isi a t), p, sc, sf, X, g, e, h => by
    simp only [chkT, Bool.and_eq_true] at h
    exact st_tst g h.1 (sE (.isi a t) g _ h.2)
  | .tst (.lc e2 t it c own), p, sc, sf, X, g, e, h => by
    simp only [chkT, Bool.and_eq_true] at h
    exact st_tst g h.1 (sE (.lc e2 t it c own) g _ h.2)
  | .var i, p', sc, sf, X, g, e, h => by simp [chkT] at h
  | .int i, p', sc, sf, X, g, e, h => by simp [chkT] at h
  | .str i, p', sc, sf, X, g, e, h => by simp [chkT] at h
  | .bl i, p', sc, sf, X, g, e, h => by simp [chkT] at h
  | .non, p', sc, sf, X, g, e, h => by simp [chkT] at h
  | .glob x, p', sc, sf, X, g, e, h => by simp [chkT] at h
  | .bop o a b, p', sc, sf, X, g, e, h => by simp [chkT] at h
  | .neg a, p', sc, sf, X, g, e, h => by simp [chkT] at h
  | .cmp o a b, p', sc, sf, X, g, e, h => by simp [chkT] at h
  | .cmp2 o p a b c, p', sc, sf, X, g, e, h => by simp [chkT] at h
  | .isN a, p', sc, sf, X, g, e, h => by simp [chkT] at h
  | .notN a, p', sc, sf, X, g, e, h => by simp [chkT] at h
  | .ite t a b, p', sc, sf, X, g, e, h => by simp [chkT] at h
  | .tup es, p', sc, sf, X, g, e, h => by simp [chkT] at h
  | .lst es, p', sc, sf, X, g, e, h => by simp [chkT] at h
  | .idx a i, p', sc, sf, X, g, e, h => by simp [chkT] at h
  | .slc a lo hi, p', sc, sf, X, g, e, h => by simp [chkT] at h
  | .rev a, p', sc, sf, X, g, e, h => by simp [chkT] at h
  | .call f es, p', sc, sf, X, g, e, h => by simp [chkT] at h
  | .callL i es, p', sc, sf, X, g, e, h => by simp [chkT] at h
  | .bi f es, p', sc, sf, X, g, e, h => by simp [chkT] at h
  | .meth m a es, p', sc, sf, X, g, e, h => by simp [chkT] at h
  | .isi a t, p', sc, sf, X, g, e, h => by simp [chkT] at h
  | .lc e2 t it c own, p', sc, sf, X, g, e, h => by simp [chkT] at h
theorem sTg : ∀ (ir : T) {p : Pm} {sc : Scope} {sf : Str → Bool} {X : Cx} (g : GX p k N bl xc sc sf X) (e : Expr), chkTg N bl ir sc sf e = true → PG X e (tGt p ir)
  | .name i, p, sc, sf, X, g, e, h => by
    unfold chkTg at h
    split at h
    · simp only [Bool.and_eq_true, decide_eq_true_eq] at h
      exact sg_name g h.1 h.2
    · cases h
  | .tup ts, p, sc, sf, X, g, e, h => by
    unfold chkTg at h
    split at h
    · exact sg_tup g (ts_star ts _ h).1 (ts_star ts _ h).2 (sTs ts g _ h)
    · cases h
  | .sub o i, p, sc, sf, X, g, e, h => by
    unfold chkTg at h
    split at h
    · simp only [Bool.and_eq_true] at h
      exact sg_sub g h.1.1 (sE o g _ h.1.2) (sE i g _ h.2)
    · cases h
theorem sTs : ∀ (ir : Ts) {p : Pm} {sc : Scope} {sf : Str → Bool} {X : Cx} (g : GX p k N bl xc sc sf X) (e : List Expr), chkTs N bl ir sc sf e = true → PGs X e (tGs p ir)
  | .nil, p, sc, sf, X, g, e, h => by
    unfold chkTs at h
    split at h
    · exact sg_nil
    · cases h
  | .cons t r, p, sc, sf, X, g, e, h => by
    unfold chkTs at h
    split at h
    · simp only [Bool.and_eq_true] at h
      exact sg_cons g h.1.1 (sTg t g _ h.1.2) (sTs r g _ h.2)
    · cases h
theorem sI : ∀ (ir : Q.It) {p : Pm} {sc : Scope} {sf : Str → Bool} {X : Cx} {tg : Expr} (g : GX p k N bl xc sc sf X) (e : Expr), chkI N bl ir sc sf e = true → PI X tg e (tIt p ir)
  | .seq a, p, sc, sf, X, tg, g, e, h => by
    unfold chkI at h
    exact si_seq g (sE a g _ h)
  | .rng1 a, p, sc, sf, X, tg, g, e, h => by
    unfold chkI at h
    split at h
    · simp only [Bool.and_eq_true, decide_eq_true_eq] at h
      exact si_rng1 g h.1.1.1.1 h.1.1.1.2 h.1.1.2 h.1.2 (sE a g _ h.2)
    · cases h
  | .rng2 a b, p, sc, sf, X, tg, g, e, h => by
    unfold chkI at h
    split at h
    · simp only [Bool.and_eq_true, decide_eq_true_eq] at h
      obtain ⟨⟨⟨⟨⟨⟨h1, h2⟩, h3⟩, h4⟩, h5⟩, h6⟩, h7⟩ := h
      exact si_rng2 g h1 h2 h3 h4 h5 (sE a g _ h6) (sE b g _ h7)
    · cases h
  | .down a, p, sc, sf, X, tg, g, e, h => by
    unfold chkI at h
    split at h
    · simp only [Bool.and_eq_true, decide_eq_true_eq] at h
      exact si_down g h.1.1.1.1 h.1.1.1.2 h.1.1.2 h.1.2 (sE a g _ h.2)
    · cases h
  | .enm a, p, sc, sf, X, tg, g, e, h => by
    simp [chkI] at h
end
end
end Q

set_option Elab.async false
set_option linter.all false
set_option maxRecDepth 100000
set_option maxHeartbeats 16000000
/-! QSound6: statements, defs. -/
namespace Q
open PySem PySem.Spec PyProof.Rows L2
/-- what is wanted behind a statement, told of the heap -/
structure DR (p : Pm) (μ : List Addr) (H : Hp) (D' : En) (D : Ends) : Prop where
  nx : ∀ μ2 H2 S2 σe σ, StR p μ2 H2 S2 σe σ → Step μ H μ2 H2 → D'.nx σe S2 → D.nx σ H2
  rt : ∀ μ2 H2 S2 u v, Step μ H μ2 H2 → StoreOk p.M μ2 H2 S2 → Rep p.M μ2 H2 u v → D'.rt u S2 → D.rt v H2
  bk : ∀ μ2 H2 S2 σe σ, StR p μ2 H2 S2 σe σ → Step μ H μ2 H2 → D'.bk σe S2 → D.bk σ H2
  ct : ∀ μ2 H2 S2 σe σ, StR p μ2 H2 S2 σe σ → Step μ H μ2 H2 → D'.ct σe S2 → D.ct σ H2
theorem DR.step {p : Pm} {μ μ1 : List Addr} {H H1 : Hp} {D' : En} {D : Ends} (d : DR p μ H D' D) (k : Step μ H μ1 H1) : DR p μ1 H1 D' D :=
  ⟨fun μ2 H2 S2 σe σ st s q => d.nx μ2 H2 S2 σe σ st (k.trans s) q, fun μ2 H2 S2 u v s o r q => d.rt μ2 H2 S2 u v (k.trans s) o r q, fun μ2 H2 S2 σe σ st s q => d.bk μ2 H2 S2 σe σ st (k.trans s) q, fun μ2 H2 S2 σe σ st s q => d.ct μ2 H2 S2 σe σ st (k.trans s) q⟩
def tSt (p : Pm) (s : S) : TS := fun D σ H => ∃ μ S σe D', StR p μ H S σe σ ∧ DR p μ H D' D ∧ wpS p.G s p.Ex D' σe S
def tBl (p : Pm) (s : Ss) : TS := fun D σ H => ∃ μ S σe D', StR p μ H S σe σ ∧ DR p μ H D' D ∧ wpSs p.G s p.Ex D' σe S
theorem _root_.L2.PS.imp {X : Cx} {st : Stmt} {t t' : TS} (h : PS X st t) (k : ∀ D σ H, t' D σ H → t D σ H) : PS X st t' := ⟨fun pins s σ H D I q => h.run pins s σ H D I (k D σ H q)⟩
theorem _root_.L2.PSs.imp {X : Cx} {st : List Stmt} {t t' : TS} (h : PSs X st t) (k : ∀ D σ H, t' D σ H → t D σ H) : PSs X st t' := ⟨fun pins s σ H D I q => h.run pins s σ H D I (k D σ H q)⟩

section
variable {p : Pm} {k : Nat} {N bl xc : List Str} {sc : Scope} {X : Cx} {a b c : Expr} {a' b' c' : E} {pos : Pos}
abbrev sAll : Str → Bool := fun _ => true
theorem t_nil : PSs X [] (tBl p .nil) := pss_nil.imp fun D σ H ⟨μ, S, σe, D', st, d, h⟩ => by
  rw [wpSs] at h
  exact d.nx μ H S σe σ st (Step.refl _ _) h
theorem t_cons {s : Stmt} {r : List Stmt} {s' : Q.S} {r' : Ss} (h1 : PS X s (tSt p s')) (h2 : PSs X r (tBl p r')) : PSs X (s :: r) (tBl p (.cons s' r')) := (pss_cons h1 h2).imp fun D σ H ⟨μ, S, σe, D', st, d, h⟩ => by
  rw [wpSs] at h
  exact ⟨μ, S, σe, { D' with nx := fun σ1 S1 => wpSs p.G r' p.Ex D' σ1 S1 }, st, ⟨fun μ2 H2 S2 σe2 σ2 st2 s2 q => ⟨μ2, S2, σe2, D', st2, d.step s2, q⟩, d.rt, d.bk, d.ct⟩, h⟩
theorem t_asg (g : GX p k N bl xc sc sAll X) {tg : Expr} {t : T} (hc : notComp a = true) (hs : notStar tg = true) (hw : swappedStores [tg] a X.env = pure none) (hg : PG X tg (tGt p t)) (ha : PE X a (tE p a')) : PS X (.Assign [tg] a pos) (tSt p (.asg t a')) := by
  refine (ps_asg ha hg (sw_of hc) hw (by rw [asg_cons hs]; rfl)).imp fun D σ H ⟨μ, S, σe, D', st, d, h⟩ => ?_
  rw [wpS] at h
  exact tE_of g.gm st h fun u S1 h1 μ1 H1 x s1 o1 r1 => tG_of g.gm (st.next s1 o1) r1 h1 fun σe2 S2 h2 μ2 H2 σ2 s2 o2 l2 _ => d.nx μ2 H2 S2 σe2 σ2 ⟨(st.st.trans s1).trans s2, o2, l2⟩ (s1.trans s2) h2
theorem t_ret (g : GX p k N bl xc sc sAll X) (ha : PE X a (tE p a')) : PS X (.Return (some a) pos) (tSt p (.ret a')) := by
  refine (ps_ret ha).imp fun D σ H ⟨μ, S, σe, D', st, d, h⟩ => ?_
  rw [wpS] at h
  exact tE_of g.gm st h fun u S1 h1 μ1 H1 x s1 o1 r1 => d.rt μ1 H1 S1 u x s1 o1 r1 h1
theorem t_retN : PS X (.Return none pos) (tSt p .retN) := ps_retN.imp fun D σ H ⟨μ, S, σe, D', st, d, h⟩ => by
  rw [wpS] at h
  exact d.rt μ H S .non .non (Step.refl _ _) st.ok repN h
theorem t_if (g : GX p k N bl xc sc sAll X) {x y : List Stmt} {x' y' : Ss} (hc : PT X c (tT p c')) (hx : PSs X x (tBl p x')) (hy : PSs X y (tBl p y')) : PS X (.If c x y pos) (tSt p (.ifs c' x' y')) := by
  refine (ps_if hc hx hy).imp fun D σ H ⟨μ, S, σe, D', st, d, h⟩ => ?_
  rw [wpS] at h
  refine tT_of g.gm st h fun e S1 h1 μ1 H1 s1 o1 => ?_
  cases e with
  | true => exact ⟨μ1, S1, σe, D', st.next s1 o1, d.step s1, h1⟩
  | false => exact ⟨μ1, S1, σe, D', st.next s1 o1, d.step s1, h1⟩
theorem t_ex (g : GX p k N bl xc sc sAll X) (hc : notComp a = true) (ha : PE X a (tE p a')) : PS X (.Expr a pos) (tSt p (.ex a')) := by
  refine (ps_expr ha (sw_of hc)).imp fun D σ H ⟨μ, S, σe, D', st, d, h⟩ => ?_
  rw [wpS] at h
  exact tE_of g.gm st h fun u S1 h1 μ1 H1 x s1 o1 r1 => d.nx μ1 H1 S1 σe σ (st.next s1 o1) s1 h1
theorem t_doc {z : Str} {j : Nat} {p2 : Pos} : PS X (.Expr (.Constant (.str z) j p2) pos) (tSt p .doc) := ps_doc.imp fun D σ H ⟨μ, S, σe, D', st, d, h⟩ => by
  rw [wpS] at h
  exact d.nx μ H S σe σ st (Step.refl _ _) h
theorem t_pass : PS X (.Pass pos) (tSt p .pass) := ps_pass.imp fun D σ H ⟨μ, S, σe, D', st, d, h⟩ => by
  rw [wpS] at h
  exact d.nx μ H S σe σ st (Step.refl _ _) h
theorem t_brk : PS X (.Break pos) (tSt p .brk) := ps_break.imp fun D σ H ⟨μ, S, σe, D', st, d, h⟩ => by
  rw [wpS] at h
  exact d.bk μ H S σe σ st (Step.refl _ _) h
theorem t_cont : PS X (.Continue pos) (tSt p .cont) := ps_continue.imp fun D σ H ⟨μ, S, σe, D', st, d, h⟩ => by
  rw [wpS] at h
  exact d.ct μ H S σe σ st (Step.refl _ _) h
theorem t_nev {s : Stmt} : PS X s (tSt p .nev) := ps_never.imp fun D σ H ⟨μ, S, σe, D', st, d, h⟩ => by
  rw [wpS] at h
  exact h
theorem t_aug (g : GX p k N bl xc sc sAll X) {i : Nat} {x : Str} {o : BO} {op : Operator} {p2 : Pos} (hi : N[i]? = some x) (ho : augB o op = true) (hl : stoB sc sAll x = true) (ha : PE X a (tE p a')) : PS X (.AugAssign (.Name x p2) op a pos) (tSt p (.aug i o a')) := by
  obtain ⟨l, f⟩ := sto_of g hl
  have fin : ∀ (r : R2), (∀ μ St u w y z H Q, StoreOk p.M μ H St → Rep p.M μ H u y → Rep p.M μ H w z → augp o u w St (Aft p.M μ H Q) → r y z H Q) → ∀ D σ H, tSt p (.aug i o a') D σ H → tAug i (tE p a') r D σ H := by
    intro r hr D σ H ⟨μ, S, σe, D', st, d, h⟩
    rw [wpS] at h
    cases e : σe[i]? with
    | none => rw [e] at h; exact h.elim
    | some w =>
      cases w with
      | none => rw [e] at h; exact h.elim
      | some u =>
        rw [e] at h
        obtain ⟨v, hv, rv⟩ := st.sl.get i u e
        refine ⟨v, hv, tE_of g.gm st h fun w S1 h1 μ1 H1 y s1 o1 r1 => ?_⟩
        refine hr μ1 S1 u w v y H1 _ o1 (rep_mono s1 st.ok.lsts u v rv) r1 (augp_mono (fun z S2 q μ2 H2 zz s2 o2 r2 => ?_) h1)
        have st2 := st.next (s1.trans s2) o2
        exact d.nx μ2 H2 S2 _ _ ⟨st2.st, o2, st2.sl.set i r2⟩ (s1.trans s2) q
  have hN : X.N.Nodup := by rw [g.hN]; exact g.nd
  have hi' : X.N[i]? = some x := by rw [g.hN]; exact hi
  cases o <;> cases op <;> first | (simp [augB] at ho; done) | skip
  · refine (ps_aug hN hi' l ha iop_add f).imp (fin _ fun μ St u w y z H Q sk r1 r2 h => ?_)
    cases u <;> cases w <;> first | exact h.elim | skip
    rw [Rep] at r1 r2
    subst r1 r2
    exact ⟨_, _, rfl, rfl, (show Aft p.M μ H Q _ St from h).same sk (repI _)⟩
  · refine (ps_aug hN hi' l ha iop_sub f).imp (fin _ fun μ St u w y z H Q sk r1 r2 h => ?_)
    cases u <;> cases w <;> first | exact h.elim | skip
    rw [Rep] at r1 r2
    subst r1 r2
    exact ⟨_, _, rfl, rfl, (show Aft p.M μ H Q _ St from h).same sk (repI _)⟩
  · refine (ps_aug hN hi' l ha iop_fdivNW f).imp (fin _ fun μ St u w y z H Q sk r1 r2 h => ?_)
    cases u <;> cases w <;> first | exact h.elim | skip
    rw [Rep] at r1 r2
    subst r1 r2
    have h : _ ∧ Aft p.M μ H Q _ St := h
    exact ⟨_, _, rfl, rfl, h.1, h.2.same sk (repI _)⟩
theorem t_for (g : GX p k N bl xc sc sAll X) {tg it : Expr} {t : T} {it' : Q.It} {x : List Stmt} {x' : Ss} (hset : notSet it = true) (hg : PG X tg (tGt p t)) (hi : PI X tg it (tIt p it')) (hb : PSs X x (tBl p x')) : PS X (.For tg it x [] pos) (tSt p (.fors t it' x')) := by
  refine (ps_for g.po g.calm hi hg hb (set_of hset)).imp fun D σ H ⟨μ, S, σe, D', st, d, h⟩ => ?_
  rw [wpS] at h
  refine tI_of g.gm st h fun src S1 h1 μ1 H1 J s1 o1 sr => ?_
  obtain ⟨turn, hturn⟩ : ∃ turn : U → Sl → Sto → (Sl → Sto → Prop) → Prop, turn = fun u σ1 S2 k => wpTg p.G t p.Ex u σ1 S2 fun σ2 S3 => wpSs p.G x' p.Ex { nx := k, rt := D'.rt, bk := D'.nx, ct := k } σ2 S3 := ⟨_, rfl⟩
  have h1 : forL turn src.grd src.vals σe S1 D'.nx := by subst hturn; exact h1
  refine ⟨fun i m σ' H' => ∃ μ' S' σe', StR p μ' H' S' σe' σ' ∧ Step μ1 H1 μ' H' ∧ m = src.vals.length - i ∧ i ≤ src.vals.length ∧ forL turn src.grd (src.vals.drop i) σe' S' D'.nx,
    ⟨src.vals.length, μ1, S1, σe, st.next s1 o1, Step.refl _ _, by simp, Nat.zero_le _, by rw [List.drop_zero]; exact h1⟩, ?_⟩
  rintro i m σ2 H2 ⟨μ2, S2, σe2, st2, s2, rfl, hi, w⟩
  by_cases hlt : i < src.vals.length
  · rw [List.drop_eq_getElem_cons hlt] at w
    obtain ⟨gr, w⟩ := w
    refine .inr ⟨sr.go μ2 H2 S2 i s2 st2.ok gr hlt, fun σ' H' => ∃ μ' S' σe', StR p μ' H' S' σe' σ' ∧ Step μ1 H1 μ' H' ∧ forL turn src.grd (src.vals.drop (i + 1)) σe' S' D'.nx, ?_, ?_⟩
    · rintro σ' H' ⟨μ', S', σe', q1, q2, q3⟩
      exact ⟨src.vals.length - (i + 1), by omega, μ', S', σe', q1, q2, rfl, hlt, q3⟩
    · intro y H3 hy
      obtain ⟨s3, o3, r3⟩ := sr.yld μ2 H2 S2 i y H3 _ s2 st2.ok gr (List.getElem?_eq_getElem hlt) hy
      rw [hturn] at w
      refine tG_of g.gm (st2.next s3 o3) r3 w fun σe4 S4 k4 μ4 H4 σ4 s4 o4 l4 _ => ?_
      have s24 := s2.trans (s3.trans s4)
      refine ⟨μ4, S4, σe4, { nx := fun σ5 S5 => forL turn src.grd (src.vals.drop (i + 1)) σ5 S5 D'.nx, rt := D'.rt, bk := D'.nx, ct := fun σ5 S5 => forL turn src.grd (src.vals.drop (i + 1)) σ5 S5 D'.nx }, ⟨(st2.st.trans s3).trans s4, o4, l4⟩, ⟨fun μ5 H5 S5 σe5 σ5 st5 s5 q => ⟨μ5, S5, σe5, st5, s24.trans s5, q⟩, fun μ5 H5 S5 u v s5 o5 r5 q => d.rt μ5 H5 S5 u v ((s1.trans s24).trans s5) o5 r5 q,
        fun μ5 H5 S5 σe5 σ5 st5 s5 q => d.nx μ5 H5 S5 σe5 σ5 st5 ((s1.trans s24).trans s5) q, fun μ5 H5 S5 σe5 σ5 st5 s5 q => ⟨μ5, S5, σe5, st5, s24.trans s5, q⟩⟩, by rw [hturn]; exact k4⟩
  · have e : i = src.vals.length := by omega
    subst e
    rw [List.drop_length] at w
    obtain ⟨gr, w⟩ := w
    exact .inl ⟨sr.stop μ2 H2 S2 _ s2 st2.ok gr (Nat.le_refl _), d.nx μ2 H2 S2 σe2 σ2 st2 (s1.trans s2) w⟩
theorem t_whl (g : GX p k N bl xc sc sAll X) {x : List Stmt} {x' : Ss} (hc : PT X c (tT p c')) (hb : PSs X x (tBl p x')) : PS X (.While c x [] pos) (tSt p (.whl c' x')) := by
  refine (ps_while g.po hc hb).imp fun D σ H ⟨μ, S, σe, D', st, d, h⟩ => ?_
  rw [wpS] at h
  obtain ⟨n, h⟩ := h
  obtain ⟨test, htest⟩ : ∃ test : Sl → Sto → (Bool → Sto → Prop) → Prop, test = fun σ1 S1 k => wpT p.G c' p.Ex σ1 S1 k := ⟨_, rfl⟩
  obtain ⟨body, hbody⟩ : ∃ body : Sl → Sto → (Sl → Sto → Prop) → Prop, body = fun σ1 S1 k => wpSs p.G x' p.Ex { nx := k, rt := D'.rt, bk := D'.nx, ct := k } σ1 S1 := ⟨_, rfl⟩
  have h : whlN test body D'.nx n σe S := by subst htest hbody; exact h
  refine ⟨fun m σ' H' => ∃ μ' S' σe', StR p μ' H' S' σe' σ' ∧ Step μ H μ' H' ∧ whlN test body D'.nx m σe' S', ⟨n, μ, S, σe, st, Step.refl _ _, h⟩, ?_⟩
  rintro m σ2 H2 ⟨μ2, S2, σe2, st2, s2, w⟩
  cases m with
  | zero => exact w.elim
  | succ m =>
    have w : wpT p.G c' p.Ex σe2 S2 fun b S3 => if b = true then body σe2 S3 (fun σ3 S3 => whlN test body D'.nx m σ3 S3) else D'.nx σe2 S3 := by
      subst htest
      exact w
    refine tT_of g.gm st2 w fun e S3 h3 μ3 H3 s3 o3 => ?_
    have st3 := st2.next s3 o3
    cases e with
    | false => exact d.nx μ3 H3 S3 σe2 σ2 st3 (s2.trans s3) h3
    | true =>
      have h3 : body σe2 S3 (fun σ3 S3 => whlN test body D'.nx m σ3 S3) := h3
      refine ⟨fun σ' H' => ∃ μ' S' σe', StR p μ' H' S' σe' σ' ∧ Step μ H μ' H' ∧ whlN test body D'.nx m σe' S', fun σ' H' q => ⟨m, Nat.lt_succ_self m, q⟩, ?_⟩
      rw [hbody] at h3
      have s23 := s2.trans s3
      refine ⟨μ3, S3, σe2, { nx := fun σ5 S5 => whlN test body D'.nx m σ5 S5, rt := D'.rt, bk := D'.nx, ct := fun σ5 S5 => whlN test body D'.nx m σ5 S5 }, st3, ⟨fun μ5 H5 S5 σe5 σ5 st5 s5 q => ⟨μ5, S5, σe5, st5, s23.trans s5, q⟩, fun μ5 H5 S5 u v s5 o5 r5 q => d.rt μ5 H5 S5 u v (s23.trans s5) o5 r5 q,
        fun μ5 H5 S5 σe5 σ5 st5 s5 q => d.nx μ5 H5 S5 σe5 σ5 st5 (s23.trans s5) q, fun μ5 H5 S5 σe5 σ5 st5 s5 q => ⟨μ5, S5, σe5, st5, s23.trans s5, q⟩⟩, by rw [hbody]; exact h3⟩
theorem t_raise (g : GX p k N bl xc sc sAll X) {x m : Str} {pp p2 p3 : Pos} {j : Nat} (hx : x ∈ xc) (hg : globB sc x = true) : PS X (.Raise (some (.Call (.Name x pp) [.Constant (.str m) j p2] [] p3)) none pos) (tSt p (.raise x m)) := by
  obtain ⟨a1, b1, _⟩ := glob_of g hg
  obtain ⟨W, tk, hW⟩ := g.tk
  obtain ⟨C, hm, hk, hs, ht, bm, hx', rfl⟩ := (g.exc x hx).ex
  refine (ps_raise g.calm tk (pmk_own PySem.F.excBase_ValueError (by rw [g.hK]; exact hx') (by rw [g.hmg]; exact hm) (by rw [g.hK]; exact hk) (raises_own (by rw [g.hK]; exact hs) (by rw [g.hK]; exact ht)) a1 b1)).imp fun D σ H ⟨μ, S, σe, D', st, d, h⟩ => ?_
  rw [wpS] at h
  exact hW x [] σe S _ _ σ H μ st ⟨rfl, rfl, C, rfl, hm⟩ h
end
end Q

set_option Elab.async false
set_option linter.all false
set_option maxRecDepth 100000
set_option maxHeartbeats 16000000
/-! QSound7: blocks; a def keeps the promise that wp shows of its small form. -/
namespace Q
open PySem PySem.Spec PyProof.Rows L2
section
variable {p : Pm} {k : Nat} {N bl xc : List Str} {sc : Scope} {X : Cx} {a b c : Expr} {a' b' c' : E} {pos : Pos}
theorem t_setE (g : GX p k N bl xc sc sAll X) {i : Nat} {y : Str} {py : Pos} (hy : N[i]? = some y) (hl : stoB sc sAll y = true) (hs : swapsWith a (some (.Name y py)) pos.line X.env = pure false) (ha : PE X a (tE p a')) : PS X (.Assign [.Name y py] a pos) (tSt p (.setlc i a')) := by
  obtain ⟨l, f⟩ := sto_of g hl
  refine (ps_set (i := i) (by rw [g.hN]; exact g.nd) (by rw [g.hN]; exact hy) l ha hs f).imp fun D σ H ⟨μ, S, σe, D', st, d, h⟩ => ?_
  rw [wpS] at h
  exact tE_of g.gm st h fun u S1 h1 μ1 H1 x s1 o1 r1 => d.nx μ1 H1 S1 _ _ ⟨st.st.trans s1, o1, (st.sl.mono s1 st.ok.lsts).set i r1⟩ s1 h1
theorem t_setlc (g : GX p k N bl xc sc sAll X) {i : Nat} {y : Str} {py vp : Pos} {e0 : Expr} {gs : List Comprehension} {scope : Scope} {e' : E} {t : T} {it : Q.It} {co : Oe} {own : List (Str × Nat)} (hy : N[i]? = some y) (hl : stoB sc sAll y = true)
    (h : chkE N bl (.lc e' t it co own) sc sAll (.ListComp e0 gs scope vp) = true) : PS X (.Assign [.Name y py] (.ListComp e0 gs scope vp) pos) (tSt p (.setlc i (.lc e' t it co own))) := by
  cases hw : swLc sc y py vp scope with
  | false => exact t_setE g hy hl (by rw [sw_lc g.hsc g.knd, hw]) (sE _ g _ h)
  | true =>
    have hlk : X.env.scope.names.lookup y = some .local := by
      unfold swLc at hw
      simp only [Bool.and_eq_true, beq_iff_eq] at hw
      rw [g.hsc]; exact hw.1.1
    unfold chkE at h
    split at h
    · rename_i e1 t0 it0 cs0 scope0 pos0 heq
      cases heq
      simp only [Bool.and_eq_true] at h
      obtain ⟨⟨⟨⟨⟨⟨⟨h1, h2⟩, h3⟩, h4⟩, h5⟩, h6⟩, h7⟩, h8⟩ := h
      have ok := blkOk_by h3
      have ok' : BlkOk X.N X.env.scope scope own := by rw [g.hN, g.hsc]; exact ok
      have ow : ∀ i ∈ nmsT t, i ∈ own.map (·.2) := fun i hi => by
        have z := List.all_eq_true.mp h5 i hi
        simpa using z
      have hg := fun s H C cl fp => sTg t (gx_blk g ok s H C cl fp) _ h6
      have ht := fun s H C cl fp => sC co (gx_blk g ok s H C cl fp) _ h7
      have he := fun s H C cl fp => sE e' (gx_blk g ok s H C cl fp) _ h8
      refine (ps_setLc (i := i) g.calm (by rw [g.hN]; exact g.nd) (by rw [g.hN]; exact hy) hlk (by rw [sw_lc g.hsc g.knd, hw]) (sI it g _ h1) ok' hg ht he (set_of h2)).imp fun D σ H ⟨μ, S, σe, D', st, d, hw⟩ => ?_
      rw [wpS] at hw
      refine s_lc (pos := pos) g ok h2 ow (sI it (tg := t0) g _ h1) hg ht he σ H _ (tE_of g.gm st hw fun u S1 h1 μ1 H1 x s1 o1 r1 => ?_)
      exact d.nx μ1 H1 S1 _ _ ⟨st.st.trans s1, o1, (st.sl.mono s1 st.ok.lsts).set i r1⟩ s1 h1
    · cases h
theorem t_par (g : GX p k N bl xc sc sAll X) {i j : Nat} {x y : Str} {px py p1 p2 : Pos} {k1 k2 : Nat} (hx : N[i]? = some x) (hy : N[j]? = some y) (hij : i ≠ j) (sa : notStar a = true) (sb : notStar b = true) (ha : PE X a (tE p a')) (hb : PE X b (tE p b'))
    (h : (swOut sc [.Name x px, .Name y py] [a, b] = some (some [x, y]) ∧ sc.names.lookup x = some .local ∧ sc.names.lookup y = some .local) ∨ (swOut sc [.Name x px, .Name y py] [a, b] = some none ∧ stoB sc sAll x = true ∧ stoB sc sAll y = true)) :
    PS X (.Assign [.Tuple [.Name x px, .Name y py] k1 p1] (.Tuple [a, b] k2 p2) pos) (tSt p (.par i j a' b')) := by
  have hN : X.N.Nodup := by rw [g.hN]; exact g.nd
  have hx' : X.N[i]? = some x := by rw [g.hN]; exact hx
  have hy' : X.N[j]? = some y := by rw [g.hN]; exact hy
  have hA : PA X [a, b] (tA p (.cons a' (.cons b' .nil))) := s_cons g sa ha (s_cons g sb hb s_nil)
  have key : ∀ (R : List V → Hp → Prop) (D : Ends) (σ : L2.St) (H : Hp), (∀ μ1 H1 S1 σe D' μ S u v xs, StR p μ H S σe σ → DR p μ H D' D → Step μ H μ1 H1 → StoreOk p.M μ1 H1 S1 → RepL p.M μ1 H1 [u, v] xs → D'.nx ((σe.set i (some u)).set j (some v)) S1 → R xs H1) →
      tSt p (.par i j a' b') D σ H → tA p (.cons a' (.cons b' .nil)) σ H R := by
    intro R D σ H hR ⟨μ, S, σe, D', st, d, hw⟩
    rw [wpS] at hw
    have hw2 : wpEs p.G (.cons a' (.cons b' .nil)) p.Ex σe S fun us S1 => ∃ u v, us = [u, v] ∧ D'.nx ((σe.set i (some u)).set j (some v)) S1 := by
      rw [wpEs]
      refine wpE_mono g.gm a' (fun _ _ _ _ z => z) (fun u S1 h1 => ?_) hw
      rw [wpEs]
      refine wpE_mono g.gm b' (fun _ _ _ _ z => z) (fun v S2 h2 => ?_) h1
      rw [wpEs]
      exact ⟨u, v, rfl, h2⟩
    refine tA_of g.gm st hw2 fun us S1 h1 μ1 H1 vs s1 o1 r1 => ?_
    obtain ⟨u, v, rfl, h1⟩ := h1
    exact hR μ1 H1 S1 σe D' μ S u v vs st d s1 o1 r1 h1
  rcases h with ⟨h1, h2, h3⟩ | ⟨h1, h2, h3⟩
  · refine (ps_par g.calm hN hx' hy' hij (by rw [g.hsc]; exact h2) (by rw [g.hsc]; exact h3) hA (sw_out g.hsc g.knd h1) rfl).imp fun D σ H hw => ?_
    refine key _ D σ H (fun μ1 H1 S1 σe D' μ S u v xs st d s1 o1 r1 q => ?_) hw
    obtain ⟨z, w, rfl, ru, rv⟩ := repL2 r1
    exact ⟨z, w, rfl, d.nx μ1 H1 S1 _ _ ⟨st.st.trans s1, o1, ((st.sl.mono s1 st.ok.lsts).set i ru).set j rv⟩ s1 q⟩
  · obtain ⟨l1, f1⟩ := sto_of g h2
    obtain ⟨l2, f2⟩ := sto_of g h3
    refine (ps_asg (pe_tup hA) (pg_tup g.calm (pgs_cons (pg_name (i := i) hN hx' l1 f1) (pgs_cons (pg_name (i := j) hN hy' l2 f2) pgs_nil))) rfl (sw_out g.hsc g.knd h1)).imp fun D σ H hw => ?_
    refine key _ D σ H (fun μ1 H1 S1 σe D' μ S u v xs st d s1 o1 r1 q => ?_) hw
    obtain ⟨z, w, rfl, ru, rv⟩ := repL2 r1
    refine ⟨by rw [sizeLine_eq]; show 2 ≤ 16777216; decide, fun P hP => ⟨P, [z, w], rfl, .inl (.inl upd_same), rfl, z, [w], rfl, w, [], rfl, rfl, ?_⟩⟩
    have s2 : Step μ1 H1 μ1 (upd H1 P (.tup [z, w])) := Step.laid hP
    exact d.nx μ1 _ S1 _ _ ⟨(st.st.trans s1).trans s2, o1.laid hP, ((st.sl.mono (s1.trans s2) st.ok.lsts).set i (rep_mono s2 o1.lsts _ _ ru)).set j (rep_mono s2 o1.lsts _ _ rv)⟩ (s1.trans s2) q
end
section
variable {k : Nat} {N bl xc : List Str} {p : Pm} {sc : Scope} {X : Cx} (g : GX p k N bl xc sc sAll X)
include g
mutual
theorem sS : ∀ (ir : S) (s : Stmt), chkS N bl xc ir sc s = true → PS X s (tSt p ir)
  | .asg t e, s, h => by
    unfold chkS at h
    split at h
    · rename_i t' e2 pos
      simp only [Bool.and_eq_true] at h
      obtain ⟨⟨⟨⟨h1, h2⟩, h3⟩, h4⟩, h5⟩ := h
      refine t_asg g h1 h2 ?_ (sTg t g _ h4) (sE e g _ h5)
      rw [Bool.or_eq_true, Bool.or_eq_true] at h3
      rcases h3 with h3 | h3
      · exact sst_of h3
      · split at h3
        · exact sw_out g.hsc g.knd (of_decide_eq_true h3)
        · cases h3
    · cases h
  | .setlc i e, s, h => by
    unfold chkS at h
    split at h
    · simp only [Bool.and_eq_true, decide_eq_true_eq] at h
      exact t_setlc g h.1.1 h.1.2 h.2
    · cases h
  | .par i j a b, s, h => by
    unfold chkS at h
    split at h
    · simp only [Bool.and_eq_true, Bool.or_eq_true, decide_eq_true_eq, bne_iff_ne] at h
      obtain ⟨⟨⟨⟨⟨⟨⟨h1, h2⟩, h3⟩, h4⟩, h5⟩, h6⟩, h7⟩, h8⟩ := h
      refine t_par g h1 h2 h3 h4 h5 (sE a g _ h6) (sE b g _ h7) ?_
      rcases h8 with h8 | h8
      · exact .inl ⟨h8.1.1, h8.1.2, h8.2⟩
      · exact .inr ⟨h8.1.1, h8.1.2, h8.2⟩
    · cases h
  | .aug i o e, s, h => by
    unfold chkS at h
    split at h
    · simp only [Bool.and_eq_true, decide_eq_true_eq] at h
      exact t_aug g h.1.1.1 h.1.1.2 h.1.2 (sE e g _ h.2)
    · cases h
  | .ret e, s, h => by
    unfold chkS at h
    split at h
    · exact t_ret g (sE e g _ h)
    · cases h
  | .retN, s, h => by
    unfold chkS at h
    split at h
    · exact t_retN
    · cases h
  | .ifs t a b, s, h => by
    unfold chkS at h
    split at h
    · simp only [Bool.and_eq_true] at h
      exact t_if g (sT t g _ h.1.1) (sSs a _ h.1.2) (sSs b _ h.2)
    · cases h
  | .fors t it b, s, h => by
    unfold chkS at h
    split at h
    · simp only [Bool.and_eq_true] at h
      exact t_for g h.1.2 (sTg t g _ h.1.1.1) (sI it g _ h.1.1.2) (sSs b _ h.2)
    · cases h
  | .whl t b, s, h => by
    unfold chkS at h
    split at h
    · simp only [Bool.and_eq_true] at h
      exact t_whl g (sT t g _ h.1) (sSs b _ h.2)
    · cases h
  | .ex e, s, h => by
    unfold chkS at h
    split at h
    · simp only [Bool.and_eq_true] at h
      exact t_ex g h.1 (sE e g _ h.2)
    · cases h
  | .doc, s, h => by
    unfold chkS at h
    split at h
    · exact t_doc
    · cases h
  | .raise c m, s, h => by
    unfold chkS at h
    split at h
    · simp only [Bool.and_eq_true, decide_eq_true_eq] at h
      obtain ⟨⟨⟨rfl, rfl⟩, h3⟩, h4⟩ := h
      exact t_raise g h3 h4
    · cases h
  | .pass, s, h => by
    unfold chkS at h
    split at h
    · exact t_pass
    · cases h
  | .brk, s, h => by
    unfold chkS at h
    split at h
    · exact t_brk
    · cases h
  | .cont, s, h => by
    unfold chkS at h
    split at h
    · exact t_cont
    · cases h
  | .nev, s, h => t_nev
theorem sSs : ∀ (ir : Ss) (s : List Stmt), chkSs N bl xc ir sc s = true → PSs X s (tBl p ir)
  | .nil, s, h => by
    unfold chkSs at h
    split at h
    · exact t_nil
    · cases h
  | .cons x r, s, h => by
    unfold chkSs at h
    split at h
    · simp only [Bool.and_eq_true] at h
      exact t_cons (sS x _ h.1) (sSs r _ h.2)
    · cases h
end
end
/-- the slots at the entry -/
def startU (n : Nat) (us : List U) : Sl := us.map some ++ List.replicate (n - us.length) none
theorem sl_start {M : Md} {μ : List Addr} {H : Hp} {us : List U} {vs : List V} (r : RepL M μ H us vs) (N : List Str) : SlR M μ H (startU N.length us) (L2.start N vs) := by
  have hl := r.length
  refine ⟨by unfold startU L2.start; simp [hl], fun i u e => ?_⟩
  unfold startU at e
  by_cases h : i < us.length
  · rw [List.getElem?_append_left (by simpa using h), List.getElem?_map] at e
    cases e2 : us[i]? with
    | none => rw [e2] at e; cases e
    | some w =>
      rw [e2] at e
      cases e
      obtain ⟨v, hv, rv⟩ := r.get e2
      refine ⟨v, ?_, rv⟩
      unfold L2.start
      rw [List.getElem?_append_left (by simpa [← hl] using h), List.getElem?_map, hv]; rfl
  · rw [List.getElem?_append_right (by simpa using h), List.getElem?_replicate] at e
    split at e <;> cases e
/-- what the module gives a def of level k -/
structure Env1 (P : Program) (w : World) (M : Md) (base : Heap) (G : Gm) (k : Nat) (bl xc : List Str) : Prop where
  gm : GMono G
  fns : ∀ f sp, G.fns f = some sp → ∃ fa fd ps, M.mg f = some (.ref fa) ∧ PySem.W.keepIn M.K (.ref fa) = true ∧ FnOk P w M.K M.mg base (L2.CX P w) k fa fd ps (spU M sp) ∧ Binds M.K fd ps []
  cts : ∀ x u, G.cts x = some u → ∃ w v, M.mg x = some w ∧ RelV v w ∧ ∀ μ H, Rep M μ H u v
  blt : ∀ x ∈ bl, M.mg x = none
  exc : ∀ c ∈ xc, ExcOk M c
/-- THE RULE: a def of the text, by the small form of its body -/
theorem def_ok {P : Program} {w : World} {M : Md} {base : Heap} {G : Gm} {k : Nat} {bl xc : List Str} {x qual : Str} {params : Arguments} {body : List Stmt} {scope : Scope} {f : Addr} {fd : FuncData} {N ps : List Str} {sp : FSpec} {ir : Ss}
    (F : FunD M.K x qual params body scope [] [] f fd) (hS : FnScope N ps scope) (E : Env1 P w M base G k bl xc) (hc : chkSs N bl xc ir scope body = true) (len : ∀ us S Q X, sp us S Q X → us.length = ps.length)
    (hsp : ∀ us S Q X, sp us S Q X → wpSs G ir (fun c q _ S2 => X c q S2) { nx := fun _ S2 => Q .non S2, rt := Q } (startU N.length us) S) : FnOk P w M.K M.mg base (L2.CX P w) (k + 1) f fd ps (spU M sp) := by
  refine F.ok hS (fun vs H Q X ⟨μ, S, us, _, r, h⟩ => by rw [← r.length]; exact len us S _ _ h) fun cdv A outer s H vs Q X hr ⟨μ, S, us, ok, r, h⟩ => ?_
  have h2 := hsp us S _ _ h
  obtain ⟨p, hp⟩ : ∃ p : Pm, p = ⟨M, G, fun c q _ S2 => ∀ μ2 H2 cls d, Step μ H μ2 H2 → StoreOk M μ2 H2 S2 → ExR M c q cls d → X cls d H2, μ, H⟩ := ⟨_, rfl⟩
  have g : GX p k N bl xc scope sAll (cxOf (L2.CX P w) P w M.K M.mg base N qual scope f cdv A outer s H X) := by
    subst hp
    exact {
      hK := rfl
      hmg := rfl
      hN := rfl
      nd := hS.nd
      hsc := rfl
      knd := hS.kind
      calm := rfl
      room := hr
      fn := fun _ _ => rfl
      gm := E.gm
      fns := E.fns
      cts := E.cts
      blt := E.blt
      exc := E.exc
      tk := ⟨fun cls d _ H => X cls d H, takes_of rfl rfl rfl rfl, fun c q σe S2 cls d σ H2 μ2 st r h => h μ2 H2 cls d st.st st.ok r⟩
      po := passes_of rfl }
  refine ⟨tBl p ir, sSs g ir body hc, μ, S, startU N.length us, { nx := fun _ S2 => Aft M μ H Q .non S2, rt := Aft M μ H Q }, ?_, ?_, ?_⟩
  · subst hp
    exact ⟨Step.refl _ _, ok, sl_start r N⟩
  · subst hp
    exact ⟨fun μ2 H2 S2 σe σ st s2 q => q μ2 H2 .non s2 st.ok repN, fun μ2 H2 S2 u v s2 o2 r2 q => q μ2 H2 v s2 o2 r2, fun _ _ _ _ _ _ _ q => q, fun _ _ _ _ _ _ _ q => q⟩
  · subst hp
    exact h2
end Q

set_option Elab.async false
set_option linter.all false
set_option maxRecDepth 100000
set_option maxHeartbeats 0
namespace K67
open PySem PySem.Spec PyProof.Rows L2 Q
def top (i : Nat) : Stmt := PySem.Challenge.pw_longrank_k67_refused_operators.main.body.getD i (.Pass ⟨0, 0, 0, 0⟩)
def bl : List Str := ["abs", "all", "any", "bool", "int", "isinstance", "len", "list", "range", "str", "sum", "tuple"]
def xc : List Str := ["DomainError", "ShapeError"]
/-! is_prime -/
def n_is_prime : List Str := ["n", "k"]
def p_is_prime : List Str := ["n"]
def i_is_prime : Ss :=
    (.cons (.ifs (.tst (.cmp .lt (.var 0) (.int 4))) (.cons (.ret (.cmp .gt (.var 0) (.int 1)))
    .nil) .nil)
    (.cons (.ifs (.tst (.cmp .eq (.bop .mod (.var 0) (.int 2)) (.int 0))) (.cons (.ret (.bl false))
    .nil) .nil)
    (.cons (.asg (.name 1) (.int 3))
    (.cons (.whl (.tst (.cmp .le (.bop .mul (.var 1) (.var 1)) (.var 0))) (.cons (.ifs (.tst (.cmp .eq (.bop .mod (.var 0) (.var 1)) (.int 0))) (.cons (.ret (.bl false))
    .nil) .nil)
    (.cons (.aug 1 .add (.int 2))
    .nil)))
    (.cons (.ret (.bl true))
    .nil)))))
theorem sc_is_prime : FnScope n_is_prime p_is_prime (defScope (top 8)) := ⟨by kernel_rfl, by kernel_rfl, by kernel_rfl, by decide +kernel, by kernel_rfl, by decide +kernel, by decide +kernel⟩
theorem ck_is_prime : chkSs n_is_prime bl xc i_is_prime (defScope (top 8)) (defBody (top 8)) = true := by decide +kernel
/-! is_integer -/
def n_is_integer : List Str := ["x"]
def p_is_integer : List Str := ["x"]
def i_is_integer : Ss :=
    (.cons (.ret (.andE (.isi (.var 0) "int") (.notE (.isi (.var 0) "bool"))))
    .nil)
theorem sc_is_integer : FnScope n_is_integer p_is_integer (defScope (top 15)) := ⟨by kernel_rfl, by kernel_rfl, by kernel_rfl, by decide +kernel, by kernel_rfl, by decide +kernel, by decide +kernel⟩
theorem ck_is_integer : chkSs n_is_integer bl xc i_is_integer (defScope (top 15)) (defBody (top 15)) = true := by decide +kernel
/-! is_field -/
def n_is_field : List Str := ["d"]
def p_is_field : List Str := ["d"]
def i_is_field : Ss :=
    (.cons (.ifs (.orE (.notE (.tst (.isi (.var 0) "tuple"))) (.orE (.tst (.cmp .eq (.bi .len (.cons (.var 0) .nil)) (.int 0))) (.notE (.tst (.isi (.idx (.var 0) (.int 0)) "str"))))) (.cons (.ret (.bl false))
    .nil) .nil)
    (.cons (.ifs (.tst (.cmp .eq (.idx (.var 0) (.int 0)) (.str "Q"))) (.cons (.ret (.cmp .eq (.bi .len (.cons (.var 0) .nil)) (.int 1)))
    .nil) .nil)
    (.cons (.ret (.andE (.cmp .eq (.idx (.var 0) (.int 0)) (.str "F")) (.andE (.cmp .eq (.bi .len (.cons (.var 0) .nil)) (.int 2)) (.andE (.call "is_integer" (.cons (.idx (.var 0) (.int 1)) .nil)) (.andE (.cmp2 .lt .le (.int 1) (.idx (.var 0) (.int 1)) (.glob "MOST_PRIME")) (.call "is_prime" (.cons (.idx (.var 0) (.int 1)) .nil)))))))
    .nil)))
theorem sc_is_field : FnScope n_is_field p_is_field (defScope (top 17)) := ⟨by kernel_rfl, by kernel_rfl, by kernel_rfl, by decide +kernel, by kernel_rfl, by decide +kernel, by decide +kernel⟩
theorem ck_is_field : chkSs n_is_field bl xc i_is_field (defScope (top 17)) (defBody (top 17)) = true := by decide +kernel
/-! need_field -/
def n_need_field : List Str := ["d"]
def p_need_field : List Str := ["d"]
def i_need_field : Ss :=
    (.cons (.ifs (.notE (.tst (.call "is_field" (.cons (.var 0) .nil)))) (.cons (.raise "DomainError" "no field")
    .nil) .nil)
    .nil)
theorem sc_need_field : FnScope n_need_field p_need_field (defScope (top 20)) := ⟨by kernel_rfl, by kernel_rfl, by kernel_rfl, by decide +kernel, by kernel_rfl, by decide +kernel, by decide +kernel⟩
theorem ck_need_field : chkSs n_need_field bl xc i_need_field (defScope (top 20)) (defBody (top 20)) = true := by decide +kernel
/-! need_shape -/
def n_need_shape : List Str := ["holds"]
def p_need_shape : List Str := ["holds"]
def i_need_shape : Ss :=
    (.cons (.ifs (.notE (.tst (.var 0))) (.cons (.raise "ShapeError" "sizes do not fit")
    .nil) .nil)
    .nil)
theorem sc_need_shape : FnScope n_need_shape p_need_shape (defScope (top 35)) := ⟨by kernel_rfl, by kernel_rfl, by kernel_rfl, by decide +kernel, by kernel_rfl, by decide +kernel, by decide +kernel⟩
theorem ck_need_shape : chkSs n_need_shape bl xc i_need_shape (defScope (top 35)) (defBody (top 35)) = true := by decide +kernel
/-! need_square -/
def n_need_square : List Str := ["a"]
def p_need_square : List Str := ["a"]
def i_need_square : Ss :=
    (.cons (.ex (.call "need_shape" (.cons (.cmp .eq (.idx (.var 0) (.int 0)) (.idx (.var 0) (.int 1))) .nil)))
    .nil)
theorem sc_need_square : FnScope n_need_square p_need_square (defScope (top 36)) := ⟨by kernel_rfl, by kernel_rfl, by kernel_rfl, by decide +kernel, by kernel_rfl, by decide +kernel, by decide +kernel⟩
theorem ck_need_square : chkSs n_need_square bl xc i_need_square (defScope (top 36)) (defBody (top 36)) = true := by decide +kernel
/-! characteristic -/
def n_characteristic : List Str := ["f", "a", "d", "rows", "found", "k", "current", "product", "i", "factor"]
def p_characteristic : List Str := ["f", "a"]
def i_characteristic : Ss :=
    (.cons (.ex (.call "need_field" (.cons (.var 0) .nil)))
    (.cons (.ex (.call "need_square" (.cons (.var 1) .nil)))
    (.cons (.asg (.name 2) (.tup (.cons (.str "P") (.cons (.var 0) .nil))))
    (.cons (.asg (.name 3) (.call "hessenberg" (.cons (.var 0) (.cons (.var 1) .nil))))
    (.cons (.asg (.name 4) (.lst (.cons (.call "one" (.cons (.var 2) .nil)) .nil)))
    (.cons (.fors (.name 5) (.rng1 (.bi .len (.cons (.var 3) .nil))) (.cons (.asg (.name 6) (.call "multiply" (.cons (.var 2) (.cons (.idx (.var 4) (.var 5)) (.cons (.tup (.cons (.call "negate" (.cons (.var 0) (.cons (.idx (.idx (.var 3) (.var 5)) (.var 5)) .nil))) (.cons (.call "one" (.cons (.var 0) .nil)) .nil))) .nil)))))
    (.cons (.asg (.name 7) (.call "one" (.cons (.var 0) .nil)))
    (.cons (.fors (.name 8) (.down (.bop .sub (.var 5) (.int 1))) (.cons (.asg (.name 7) (.call "multiply" (.cons (.var 0) (.cons (.var 7) (.cons (.idx (.idx (.var 3) (.bop .add (.var 8) (.int 1))) (.var 8)) .nil)))))
    (.cons (.asg (.name 9) (.call "trimmed" (.cons (.var 0) (.cons (.lst (.cons (.call "multiply" (.cons (.var 0) (.cons (.var 7) (.cons (.idx (.idx (.var 3) (.var 8)) (.var 5)) .nil)))) .nil)) .nil))))
    (.cons (.asg (.name 6) (.call "subtract" (.cons (.var 2) (.cons (.var 6) (.cons (.call "multiply" (.cons (.var 2) (.cons (.var 9) (.cons (.idx (.var 4) (.var 8)) .nil)))) .nil)))))
    .nil))))
    (.cons (.ex (.meth .append (.var 4) (.cons (.var 6) .nil)))
    .nil)))))
    (.cons (.ret (.idx (.var 4) (.neg (.int 1))))
    .nil)))))))
theorem sc_characteristic : FnScope n_characteristic p_characteristic (defScope (top 60)) := ⟨by kernel_rfl, by kernel_rfl, by kernel_rfl, by decide +kernel, by kernel_rfl, by decide +kernel, by decide +kernel⟩
theorem ck_characteristic : chkSs n_characteristic bl xc i_characteristic (defScope (top 60)) (defBody (top 60)) = true := by decide +kernel
/-! annihilator -/
def n_annihilator : List Str := ["f", "a", "v", "span", "found"]
def p_annihilator : List Str := ["f", "a", "v"]
def i_annihilator : Ss :=
    (.cons (.ex (.call "need_field" (.cons (.var 0) .nil)))
    (.cons (.ex (.call "need_square" (.cons (.var 1) .nil)))
    (.cons (.ex (.call "need_shape" (.cons (.cmp .eq (.bi .len (.cons (.var 2) .nil)) (.idx (.var 1) (.int 0))) .nil)))
    (.cons .nev
    (.cons .nev
    (.cons (.whl (.tst (.isN (.var 4))) (.cons (.asg (.name 2) (.call "applied" (.cons (.var 0) (.cons (.var 1) (.cons (.var 2) .nil)))))
    (.cons .nev
    .nil)))
    (.cons (.ret (.bi .tuple (.cons (.var 4) .nil)))
    .nil)))))))
theorem sc_annihilator : FnScope n_annihilator p_annihilator (defScope (top 62)) := ⟨by kernel_rfl, by kernel_rfl, by kernel_rfl, by decide +kernel, by kernel_rfl, by decide +kernel, by decide +kernel⟩
theorem ck_annihilator : chkSs n_annihilator bl xc i_annihilator (defScope (top 62)) (defBody (top 62)) = true := by decide +kernel
/-! krylov -/
def n_krylov : List Str := ["f", "a", "v", "many", "columns", "_"]
def p_krylov : List Str := ["f", "a", "v"]
def i_krylov : Ss :=
    (.cons (.asg (.name 3) (.bop .sub (.bi .len (.cons (.call "annihilator" (.cons (.var 0) (.cons (.var 1) (.cons (.var 2) .nil)))) .nil)) (.int 1)))
    (.cons (.asg (.name 4) (.lst .nil))
    (.cons (.fors (.name 5) (.rng1 (.var 3)) (.cons (.ex (.meth .append (.var 4) (.cons (.bi .tuple (.cons (.var 2) .nil)) .nil)))
    (.cons (.asg (.name 2) (.call "applied" (.cons (.var 0) (.cons (.var 1) (.cons (.var 2) .nil)))))
    .nil)))
    (.cons (.ret (.call "transposed" (.cons (.tup (.cons (.var 3) (.cons (.idx (.var 1) (.int 0)) (.cons (.bi .tuple (.cons (.var 4) .nil)) .nil)))) .nil)))
    .nil))))
theorem sc_krylov : FnScope n_krylov p_krylov (defScope (top 63)) := ⟨by kernel_rfl, by kernel_rfl, by kernel_rfl, by decide +kernel, by kernel_rfl, by decide +kernel, by decide +kernel⟩
theorem ck_krylov : chkSs n_krylov bl xc i_krylov (defScope (top 63)) (defBody (top 63)) = true := by decide +kernel
/-! cyclic_pair -/
def n_cyclic_pair : List Str := ["f", "a", "n", "found", "k", "v", "x"]
def p_cyclic_pair : List Str := ["f", "a"]
def i_cyclic_pair : Ss :=
    (.cons (.ex (.call "need_field" (.cons (.var 0) .nil)))
    (.cons (.ex (.call "need_square" (.cons (.var 1) .nil)))
    (.cons (.asg (.name 2) (.idx (.var 1) (.int 0)))
    (.cons (.asg (.name 3) (.tup (.cons (.bi .tuple (.cons (.lc (.call "zero" (.cons (.var 0) .nil)) (.name 4) (.rng1 (.var 2)) .none [("k", 4)]) .nil)) (.cons (.call "one" (.cons (.tup (.cons (.str "P") (.cons (.var 0) .nil))) .nil)) .nil))))
    (.cons (.fors (.name 4) (.rng1 (.var 2)) (.cons (.asg (.name 5) (.call "unit_vector" (.cons (.var 0) (.cons (.var 2) (.cons (.var 4) .nil)))))
    (.cons (.ifs (.andE (.tst (.cmp .le (.bi .len (.cons (.idx (.var 3) (.int 1)) .nil)) (.var 2))) (.tst (.bi .any (.cons (.lc (.cmp .ne (.var 6) (.call "zero" (.cons (.var 0) .nil))) (.name 6) (.seq (.call "polynomial_applied" (.cons (.var 0) (.cons (.idx (.var 3) (.int 1)) (.cons (.var 1) (.cons (.var 5) .nil)))))) .none [("x", 6)]) .nil)))) (.cons (.asg (.name 3) (.call "joined" (.cons (.var 0) (.cons (.var 1) (.cons (.var 3) (.cons (.tup (.cons (.var 5) (.cons (.call "annihilator" (.cons (.var 0) (.cons (.var 1) (.cons (.var 5) .nil)))) .nil))) .nil))))))
    .nil) .nil)
    .nil)))
    (.cons (.ret (.var 3))
    .nil))))))
theorem sc_cyclic_pair : FnScope n_cyclic_pair p_cyclic_pair (defScope (top 68)) := ⟨by kernel_rfl, by kernel_rfl, by kernel_rfl, by decide +kernel, by kernel_rfl, by decide +kernel, by decide +kernel⟩
theorem ck_cyclic_pair : chkSs n_cyclic_pair bl xc i_cyclic_pair (defScope (top 68)) (defBody (top 68)) = true := by decide +kernel
/-! minimal -/
def n_minimal : List Str := ["f", "a"]
def p_minimal : List Str := ["f", "a"]
def i_minimal : Ss :=
    (.cons (.ret (.idx (.call "cyclic_pair" (.cons (.var 0) (.cons (.var 1) .nil))) (.int 1)))
    .nil)
theorem sc_minimal : FnScope n_minimal p_minimal (defScope (top 69)) := ⟨by kernel_rfl, by kernel_rfl, by kernel_rfl, by decide +kernel, by kernel_rfl, by decide +kernel, by decide +kernel⟩
theorem ck_minimal : chkSs n_minimal bl xc i_minimal (defScope (top 69)) (defBody (top 69)) = true := by decide +kernel
/-! cyclic_vector -/
def n_cyclic_vector : List Str := ["f", "a"]
def p_cyclic_vector : List Str := ["f", "a"]
def i_cyclic_vector : Ss :=
    (.cons (.ret (.idx (.call "cyclic_pair" (.cons (.var 0) (.cons (.var 1) .nil))) (.int 0)))
    .nil)
theorem sc_cyclic_vector : FnScope n_cyclic_vector p_cyclic_vector (defScope (top 70)) := ⟨by kernel_rfl, by kernel_rfl, by kernel_rfl, by decide +kernel, by kernel_rfl, by decide +kernel, by decide +kernel⟩
theorem ck_cyclic_vector : chkSs n_cyclic_vector bl xc i_cyclic_vector (defScope (top 70)) (defBody (top 70)) = true := by decide +kernel
/-! companion -/
def n_companion : List Str := ["f", "g", "n", "rows", "i", "row", "j"]
def p_companion : List Str := ["f", "g"]
def i_companion : Ss :=
    (.cons (.ex (.call "need_field" (.cons (.var 0) .nil)))
    (.cons (.asg (.name 2) (.bop .sub (.bi .len (.cons (.var 1) .nil)) (.int 1)))
    (.cons (.asg (.name 3) (.lst .nil))
    (.cons (.fors (.name 4) (.rng1 (.var 2)) (.cons (.setlc 5 (.lc (.ite (.tst (.cmp .eq (.var 6) (.bop .sub (.var 4) (.int 1)))) (.call "one" (.cons (.var 0) .nil)) (.call "zero" (.cons (.var 0) .nil))) (.name 6) (.rng1 (.var 2)) .none [("j", 6)]))
    (.cons (.asg (.sub (.var 5) (.bop .sub (.var 2) (.int 1))) (.call "negate" (.cons (.var 0) (.cons (.idx (.var 1) (.var 4)) .nil))))
    (.cons (.ex (.meth .append (.var 3) (.cons (.bi .tuple (.cons (.var 5) .nil)) .nil)))
    .nil))))
    (.cons (.ret (.tup (.cons (.var 2) (.cons (.var 2) (.cons (.bi .tuple (.cons (.var 3) .nil)) .nil)))))
    .nil)))))
theorem sc_companion : FnScope n_companion p_companion (defScope (top 71)) := ⟨by kernel_rfl, by kernel_rfl, by kernel_rfl, by decide +kernel, by kernel_rfl, by decide +kernel, by decide +kernel⟩
theorem ck_companion : chkSs n_companion bl xc i_companion (defScope (top 71)) (defBody (top 71)) = true := by decide +kernel
/-! decompose -/
def n_decompose : List Str := ["f", "a", "found", "place", "vector", "polynomial", "columns", "basis"]
def p_decompose : List Str := ["f", "a"]
def i_decompose : Ss :=
    (.cons (.ex (.call "need_field" (.cons (.var 0) .nil)))
    (.cons (.ex (.call "need_square" (.cons (.var 1) .nil)))
    (.cons (.asg (.name 2) (.lst .nil))
    (.cons (.asg (.name 3) (.call "identity" (.cons (.var 0) (.cons (.idx (.var 1) (.int 0)) .nil))))
    (.cons (.whl (.tst (.cmp .gt (.idx (.var 1) (.int 0)) (.int 0))) (.cons (.asg (.tup (.cons (.name 4) (.cons (.name 5) .nil))) (.call "cyclic_pair" (.cons (.var 0) (.cons (.var 1) .nil))))
    (.cons (.asg (.name 6) (.call "krylov" (.cons (.var 0) (.cons (.var 1) (.cons (.var 4) .nil)))))
    (.cons (.ex (.meth .append (.var 2) (.cons (.tup (.cons (.var 5) (.cons (.call "times" (.cons (.var 0) (.cons (.var 3) (.cons (.var 6) .nil)))) .nil))) .nil)))
    (.cons (.asg (.tup (.cons (.name 7) (.cons (.name 1) .nil))) (.call "complement" (.cons (.var 0) (.cons (.var 1) (.cons (.var 6) .nil)))))
    (.cons (.asg (.name 3) (.call "times" (.cons (.var 0) (.cons (.var 3) (.cons (.var 7) .nil)))))
    .nil))))))
    (.cons (.ret (.var 2))
    .nil))))))
theorem sc_decompose : FnScope n_decompose p_decompose (defScope (top 84)) := ⟨by kernel_rfl, by kernel_rfl, by kernel_rfl, by decide +kernel, by kernel_rfl, by decide +kernel, by decide +kernel⟩
theorem ck_decompose : chkSs n_decompose bl xc i_decompose (defScope (top 84)) (defBody (top 84)) = true := by decide +kernel
/-! invariant_factors -/
def n_invariant_factors : List Str := ["f", "a", "polynomial", "_"]
def p_invariant_factors : List Str := ["f", "a"]
def i_invariant_factors : Ss :=
    (.cons (.ret (.bi .tuple (.cons (.lc (.var 2) (.tup (.cons (.name 2) (.cons (.name 3) .nil))) (.seq (.rev (.call "decompose" (.cons (.var 0) (.cons (.var 1) .nil))))) .none [("polynomial", 2), ("_", 3)]) .nil)))
    .nil)
theorem sc_invariant_factors : FnScope n_invariant_factors p_invariant_factors (defScope (top 85)) := ⟨by kernel_rfl, by kernel_rfl, by kernel_rfl, by decide +kernel, by kernel_rfl, by decide +kernel, by decide +kernel⟩
theorem ck_invariant_factors : chkSs n_invariant_factors bl xc i_invariant_factors (defScope (top 85)) (defBody (top 85)) = true := by decide +kernel
/-! frobenius -/
def n_frobenius : List Str := ["f", "a", "blocks", "t", "_", "columns", "form", "k", "polynomial"]
def p_frobenius : List Str := ["f", "a"]
def i_frobenius : Ss :=
    (.cons (.asg (.name 2) (.rev (.call "decompose" (.cons (.var 0) (.cons (.var 1) .nil)))))
    (.cons (.asg (.name 3) (.tup (.cons (.idx (.var 1) (.int 0)) (.cons (.int 0) (.cons (.bi .tuple (.cons (.lc (.tup .nil) (.name 7) (.rng1 (.idx (.var 1) (.int 0))) .none [("k", 7)]) .nil)) .nil)))))
    (.cons (.fors (.tup (.cons (.name 4) (.cons (.name 5) .nil))) (.seq (.var 2)) (.cons (.asg (.name 3) (.call "beside" (.cons (.var 3) (.cons (.var 5) .nil))))
    .nil))
    (.cons (.asg (.name 6) (.call "diagonal" (.cons (.var 0) (.cons (.lc (.call "companion" (.cons (.var 0) (.cons (.var 8) .nil))) (.tup (.cons (.name 8) (.cons (.name 4) .nil))) (.seq (.var 2)) .none [("polynomial", 8), ("_", 4)]) .nil))))
    (.cons (.ret (.tup (.cons (.var 6) (.cons (.var 3) (.cons (.call "inverted" (.cons (.var 0) (.cons (.var 3) .nil))) .nil)))))
    .nil)))))
theorem sc_frobenius : FnScope n_frobenius p_frobenius (defScope (top 86)) := ⟨by kernel_rfl, by kernel_rfl, by kernel_rfl, by decide +kernel, by kernel_rfl, by decide +kernel, by decide +kernel⟩
theorem ck_frobenius : chkSs n_frobenius bl xc i_frobenius (defScope (top 86)) (defBody (top 86)) = true := by decide +kernel
/-! similarity -/
def n_similarity : List Str := ["f", "a", "b", "first", "t", "s", "second", "x", "y"]
def p_similarity : List Str := ["f", "a", "b"]
def i_similarity : Ss :=
    (.cons (.ex (.call "need_field" (.cons (.var 0) .nil)))
    (.cons (.ex (.call "need_square" (.cons (.var 1) .nil)))
    (.cons (.ex (.call "need_shape" (.cons (.cmp .eq (.slc (.var 1) .none (.some (.int 2))) (.slc (.var 2) .none (.some (.int 2)))) .nil)))
    (.cons (.asg (.tup (.cons (.name 3) (.cons (.name 4) (.cons (.name 5) .nil)))) (.call "frobenius" (.cons (.var 0) (.cons (.var 1) .nil))))
    (.cons (.asg (.tup (.cons (.name 6) (.cons (.name 7) (.cons (.name 8) .nil)))) (.call "frobenius" (.cons (.var 0) (.cons (.var 2) .nil))))
    (.cons (.ifs (.orE (.tst (.cmp .ne (.var 3) (.var 6))) (.tst (.cmp .ne (.call "invariant_factors" (.cons (.var 0) (.cons (.var 1) .nil))) (.call "invariant_factors" (.cons (.var 0) (.cons (.var 2) .nil)))))) (.cons (.ret .non)
    .nil) .nil)
    (.cons (.ret (.tup (.cons (.call "times" (.cons (.var 0) (.cons (.var 4) (.cons (.var 8) .nil)))) (.cons (.call "times" (.cons (.var 0) (.cons (.var 7) (.cons (.var 5) .nil)))) .nil))))
    .nil)))))))
theorem sc_similarity : FnScope n_similarity p_similarity (defScope (top 87)) := ⟨by kernel_rfl, by kernel_rfl, by kernel_rfl, by decide +kernel, by kernel_rfl, by decide +kernel, by decide +kernel⟩
theorem ck_similarity : chkSs n_similarity bl xc i_similarity (defScope (top 87)) (defBody (top 87)) = true := by decide +kernel
/-! difference -/
def n_difference : List Str := ["f", "a", "b", "left", "right", "polynomial"]
def p_difference : List Str := ["f", "a", "b"]
def i_difference : Ss :=
    (.cons (.ex (.call "need_field" (.cons (.var 0) .nil)))
    (.cons (.ex (.call "need_square" (.cons (.var 1) .nil)))
    (.cons (.ex (.call "need_shape" (.cons (.cmp .eq (.slc (.var 1) .none (.some (.int 2))) (.slc (.var 2) .none (.some (.int 2)))) .nil)))
    (.cons (.asg (.name 3) (.bi .list (.cons (.call "invariant_factors" (.cons (.var 0) (.cons (.var 1) .nil))) .nil)))
    (.cons (.asg (.name 4) (.bi .list (.cons (.call "invariant_factors" (.cons (.var 0) (.cons (.var 2) .nil))) .nil)))
    (.cons (.whl (.andE (.tst (.var 3)) (.andE (.tst (.var 4)) (.tst (.cmp .eq (.idx (.var 3) (.neg (.int 1))) (.idx (.var 4) (.neg (.int 1))))))) (.cons (.ex (.meth .pop (.var 3) .nil))
    (.cons (.ex (.meth .pop (.var 4) .nil))
    .nil)))
    (.cons (.fors (.name 5) (.seq (.bop .add (.slc (.var 3) (.some (.neg (.int 1))) .none) (.slc (.var 4) (.some (.neg (.int 1))) .none))) (.cons (.ifs (.tst (.cmp .ne (.call "rank" (.cons (.var 0) (.cons (.call "evaluated" (.cons (.var 0) (.cons (.var 5) (.cons (.var 1) .nil)))) .nil))) (.call "rank" (.cons (.var 0) (.cons (.call "evaluated" (.cons (.var 0) (.cons (.var 5) (.cons (.var 2) .nil)))) .nil))))) (.cons (.ret (.var 5))
    .nil) .nil)
    .nil))
    (.cons (.ret .non)
    .nil))))))))
theorem sc_difference : FnScope n_difference p_difference (defScope (top 88)) := ⟨by kernel_rfl, by kernel_rfl, by kernel_rfl, by decide +kernel, by kernel_rfl, by decide +kernel, by decide +kernel⟩
theorem ck_difference : chkSs n_difference bl xc i_difference (defScope (top 88)) (defBody (top 88)) = true := by decide +kernel
/-! eigenvalues -/
def n_eigenvalues : List Str := ["f", "a"]
def p_eigenvalues : List Str := ["f", "a"]
def i_eigenvalues : Ss :=
    (.cons (.ret (.call "roots" (.cons (.var 0) (.cons (.call "characteristic" (.cons (.var 0) (.cons (.var 1) .nil))) .nil))))
    .nil)
theorem sc_eigenvalues : FnScope n_eigenvalues p_eigenvalues (defScope (top 105)) := ⟨by kernel_rfl, by kernel_rfl, by kernel_rfl, by decide +kernel, by kernel_rfl, by decide +kernel, by decide +kernel⟩
theorem ck_eigenvalues : chkSs n_eigenvalues bl xc i_eigenvalues (defScope (top 105)) (defBody (top 105)) = true := by decide +kernel
/-! jordan_block -/
def n_jordan_block : List Str := ["f", "x", "k", "rows", "i", "row", "j"]
def p_jordan_block : List Str := ["f", "x", "k"]
def i_jordan_block : Ss :=
    (.cons (.ex (.call "need_field" (.cons (.var 0) .nil)))
    (.cons (.asg (.name 3) (.lst .nil))
    (.cons (.fors (.name 4) (.rng1 (.var 2)) (.cons (.setlc 5 (.lc (.call "zero" (.cons (.var 0) .nil)) (.name 6) (.rng1 (.var 2)) .none [("j", 6)]))
    (.cons (.asg (.sub (.var 5) (.var 4)) (.var 1))
    (.cons (.ifs (.tst (.cmp .lt (.bop .add (.var 4) (.int 1)) (.var 2))) (.cons (.asg (.sub (.var 5) (.bop .add (.var 4) (.int 1))) (.call "one" (.cons (.var 0) .nil)))
    .nil) .nil)
    (.cons (.ex (.meth .append (.var 3) (.cons (.bi .tuple (.cons (.var 5) .nil)) .nil)))
    .nil)))))
    (.cons (.ret (.tup (.cons (.var 2) (.cons (.var 2) (.cons (.bi .tuple (.cons (.var 3) .nil)) .nil)))))
    .nil))))
theorem sc_jordan_block : FnScope n_jordan_block p_jordan_block (defScope (top 106)) := ⟨by kernel_rfl, by kernel_rfl, by kernel_rfl, by decide +kernel, by kernel_rfl, by decide +kernel, by decide +kernel⟩
theorem ck_jordan_block : chkSs n_jordan_block bl xc i_jordan_block (defScope (top 106)) (defBody (top 106)) = true := by decide +kernel
/-! splits -/
def n_splits : List Str := ["f", "a", "_", "k"]
def p_splits : List Str := ["f", "a"]
def i_splits : Ss :=
    (.cons (.ret (.cmp .eq (.bi .sum (.cons (.lc (.var 3) (.tup (.cons (.name 2) (.cons (.name 3) .nil))) (.seq (.call "eigenvalues" (.cons (.var 0) (.cons (.var 1) .nil)))) .none [("_", 2), ("k", 3)]) .nil)) (.idx (.var 1) (.int 0))))
    .nil)
theorem sc_splits : FnScope n_splits p_splits (defScope (top 107)) := ⟨by kernel_rfl, by kernel_rfl, by kernel_rfl, by decide +kernel, by kernel_rfl, by decide +kernel, by decide +kernel⟩
theorem ck_splits : chkSs n_splits bl xc i_splits (defScope (top 107)) (defBody (top 107)) = true := by decide +kernel
/-! unsplit -/
def n_unsplit : List Str := ["f", "a", "rest", "x", "_"]
def p_unsplit : List Str := ["f", "a"]
def i_unsplit : Ss :=
    (.cons (.asg (.name 2) (.call "characteristic" (.cons (.var 0) (.cons (.var 1) .nil))))
    (.cons (.fors (.tup (.cons (.name 3) (.cons (.name 4) .nil))) (.seq (.call "roots" (.cons (.var 0) (.cons (.var 2) .nil)))) (.cons (.asg (.name 2) (.idx (.call "lift_root" (.cons (.var 0) (.cons (.var 2) (.cons (.var 3) .nil)))) (.int 0)))
    .nil))
    (.cons (.ret (.ite (.tst (.cmp .gt (.bi .len (.cons (.var 2) .nil)) (.int 1))) (.var 2) .non))
    .nil)))
theorem sc_unsplit : FnScope n_unsplit p_unsplit (defScope (top 108)) := ⟨by kernel_rfl, by kernel_rfl, by kernel_rfl, by decide +kernel, by kernel_rfl, by decide +kernel, by decide +kernel⟩
theorem ck_unsplit : chkSs n_unsplit bl xc i_unsplit (defScope (top 108)) (defBody (top 108)) = true := by decide +kernel
/-! jordan -/
def n_jordan : List Str := ["f", "a", "found", "polynomial", "columns", "ordered", "x", "_", "sizes", "own", "t", "blocks", "form", "index", "block", "k"]
def p_jordan : List Str := ["f", "a"]
def i_jordan : Ss :=
    (.cons (.ex (.call "need_field" (.cons (.var 0) .nil)))
    (.cons (.ex (.call "need_square" (.cons (.var 1) .nil)))
    (.cons (.ifs (.notE (.tst (.call "splits" (.cons (.var 0) (.cons (.var 1) .nil))))) (.cons (.ret .non)
    .nil) .nil)
    (.cons (.asg (.name 2) (.lst .nil))
    (.cons (.fors (.tup (.cons (.name 3) (.cons (.name 4) .nil))) (.seq (.call "decompose" (.cons (.var 0) (.cons (.var 1) .nil)))) (.cons (.ex (.meth .extend (.var 2) (.cons (.call "blocks_of" (.cons (.var 0) (.cons (.var 1) (.cons (.var 3) (.cons (.idx (.idx (.call "transposed" (.cons (.var 4) .nil)) (.int 2)) (.int 0)) .nil))))) .nil)))
    .nil))
    (.cons (.asg (.name 5) (.lst .nil))
    (.cons (.fors (.tup (.cons (.name 6) (.cons (.name 7) .nil))) (.seq (.call "eigenvalues" (.cons (.var 0) (.cons (.var 1) .nil)))) (.cons .nev
    (.cons (.ex (.meth .extend (.var 5) (.cons (.lc (.idx (.var 2) (.var 13)) (.tup (.cons (.name 7) (.cons (.name 13) .nil))) (.seq (.var 8)) .none [("_", 7), ("index", 13)]) .nil)))
    .nil)))
    (.cons (.asg (.name 4) (.lst .nil))
    (.cons (.fors (.tup (.cons (.name 7) (.cons (.name 7) (.cons (.name 9) .nil)))) (.seq (.var 5)) (.cons (.ex (.meth .extend (.var 4) (.cons (.var 9) .nil)))
    .nil))
    (.cons (.asg (.name 10) (.call "transposed" (.cons (.tup (.cons (.idx (.var 1) (.int 0)) (.cons (.idx (.var 1) (.int 0)) (.cons (.bi .tuple (.cons (.var 4) .nil)) .nil)))) .nil)))
    (.cons (.asg (.name 11) (.bi .tuple (.cons (.lc (.tup (.cons (.var 6) (.cons (.var 15) .nil))) (.tup (.cons (.name 6) (.cons (.name 15) (.cons (.name 7) .nil)))) (.seq (.var 5)) .none [("x", 6), ("k", 15), ("_", 7)]) .nil)))
    (.cons (.asg (.name 12) (.call "diagonal" (.cons (.var 0) (.cons (.lc (.call "jordan_block" (.cons (.var 0) (.cons (.var 6) (.cons (.var 15) .nil)))) (.tup (.cons (.name 6) (.cons (.name 15) .nil))) (.seq (.var 11)) .none [("x", 6), ("k", 15)]) .nil))))
    (.cons (.ret (.tup (.cons (.var 11) (.cons (.var 12) (.cons (.var 10) (.cons (.call "inverted" (.cons (.var 0) (.cons (.var 10) .nil))) .nil))))))
    .nil)))))))))))))
theorem sc_jordan : FnScope n_jordan p_jordan (defScope (top 112)) := ⟨by kernel_rfl, by kernel_rfl, by kernel_rfl, by decide +kernel, by kernel_rfl, by decide +kernel, by decide +kernel⟩
theorem ck_jordan : chkSs n_jordan bl xc i_jordan (defScope (top 112)) (defBody (top 112)) = true := by decide +kernel
/-! is_diagonal -/
def n_is_diagonal : List Str := ["f", "a", "_", "k"]
def p_is_diagonal : List Str := ["f", "a"]
def i_is_diagonal : Ss :=
    (.cons (.ret (.andE (.call "splits" (.cons (.var 0) (.cons (.var 1) .nil))) (.bi .all (.cons (.lc (.cmp .eq (.var 3) (.int 1)) (.tup (.cons (.name 2) (.cons (.name 3) .nil))) (.seq (.call "roots" (.cons (.var 0) (.cons (.call "minimal" (.cons (.var 0) (.cons (.var 1) .nil))) .nil)))) .none [("_", 2), ("k", 3)]) .nil))))
    .nil)
theorem sc_is_diagonal : FnScope n_is_diagonal p_is_diagonal (defScope (top 113)) := ⟨by kernel_rfl, by kernel_rfl, by kernel_rfl, by decide +kernel, by kernel_rfl, by decide +kernel, by decide +kernel⟩
theorem ck_is_diagonal : chkSs n_is_diagonal bl xc i_is_diagonal (defScope (top 113)) (defBody (top 113)) = true := by decide +kernel
/-! _law_start -/
def n_law_start : List Str := ["script", "cell"]
def p_law_start : List Str := ["script"]
def i_law_start : Ss :=
    (.cons (.ret (.lst (.cons (.lc (.bi .int (.cons (.var 1) .nil)) (.name 1) (.seq (.slc (.var 0) .none (.some (.int 63)))) .none [("cell", 1)]) (.cons (.int 0) (.cons (.int 0) (.cons (.int 0) .nil))))))
    .nil)
theorem sc_law_start : FnScope n_law_start p_law_start (defScope (top 115)) := ⟨by kernel_rfl, by kernel_rfl, by kernel_rfl, by decide +kernel, by kernel_rfl, by decide +kernel, by decide +kernel⟩
theorem ck_law_start : chkSs n_law_start bl xc i_law_start (defScope (top 115)) (defBody (top 115)) = true := by decide +kernel
/-! _law_fill -/
def n_law_fill : List Str := ["c", "number"]
def p_law_fill : List Str := ["c"]
def i_law_fill : Ss :=
    (.cons (.asg (.sub (.var 0) (.int 3)) (.bop .add (.idx (.var 0) (.int 3)) (.int 1)))
    (.cons (.asg (.name 1) (.bop .add (.bop .mul (.idx (.var 0) (.int 3)) (.int 69621)) (.int 12345)))
    (.cons (.ifs (.tst (.cmp .lt (.idx (.var 0) (.int 1)) (.bi .len (.cons (.idx (.var 0) (.int 0)) .nil)))) (.cons (.asg (.name 1) (.idx (.idx (.var 0) (.int 0)) (.idx (.var 0) (.int 1))))
    (.cons (.asg (.sub (.var 0) (.int 1)) (.bop .add (.idx (.var 0) (.int 1)) (.int 1)))
    (.cons (.ifs (.tst (.cmp .lt (.var 1) (.int 0))) (.cons (.asg (.name 1) (.bop .sub (.bop .sub (.int 0) (.int 1)) (.var 1)))
    .nil) .nil)
    (.cons (.ifs (.tst (.cmp .ge (.var 1) (.bop .pow (.int 10) (.int 18)))) (.cons (.ret (.var 1))
    .nil) .nil)
    .nil)))) .nil)
    (.cons (.ifs (.andE (.tst (.idx (.var 0) (.int 0))) (.tst (.cmp .ge (.idx (.var 0) (.int 1)) (.bi .len (.cons (.idx (.var 0) (.int 0)) .nil))))) (.cons (.asg (.name 1) (.bop .add (.var 1) (.bop .mod (.bi .int (.cons (.idx (.idx (.var 0) (.int 0)) (.neg (.int 1))) .nil)) (.int 1000003))))
    .nil) .nil)
    (.cons (.asg (.name 1) (.bop .mod (.bi .int (.cons (.bop .add (.bop .mul (.var 1) (.int 48271)) (.bop .mul (.idx (.var 0) (.int 3)) (.int 69621))) .nil)) (.int 2147483647)))
    (.cons (.ret (.bop .add (.bop .div (.bi .int (.cons (.bop .add (.bop .add (.bop .mul (.var 1) (.var 1)) (.bop .mul (.idx (.var 0) (.int 3)) (.int 7919))) (.int 11)) .nil)) (.int 64)) (.int 36028797018963968)))
    .nil))))))
theorem sc_law_fill : FnScope n_law_fill p_law_fill (defScope (top 116)) := ⟨by kernel_rfl, by kernel_rfl, by kernel_rfl, by decide +kernel, by kernel_rfl, by decide +kernel, by decide +kernel⟩
theorem ck_law_fill : chkSs n_law_fill bl xc i_law_fill (defScope (top 116)) (defBody (top 116)) = true := by decide +kernel
/-! _law_take -/
def n_law_take : List Str := ["c", "many", "digit"]
def p_law_take : List Str := ["c", "many"]
def i_law_take : Ss :=
    (.cons (.ifs (.tst (.cmp .lt (.idx (.var 0) (.int 2)) (.var 1))) (.cons (.asg (.sub (.var 0) (.int 2)) (.call "_law_fill" (.cons (.var 0) .nil)))
    .nil) .nil)
    (.cons (.asg (.name 2) (.bop .mod (.bi .int (.cons (.idx (.var 0) (.int 2)) .nil)) (.var 1)))
    (.cons (.asg (.sub (.var 0) (.int 2)) (.bop .div (.idx (.var 0) (.int 2)) (.var 1)))
    (.cons (.ret (.var 2))
    .nil))))
theorem sc_law_take : FnScope n_law_take p_law_take (defScope (top 117)) := ⟨by kernel_rfl, by kernel_rfl, by kernel_rfl, by decide +kernel, by kernel_rfl, by decide +kernel, by decide +kernel⟩
theorem ck_law_take : chkSs n_law_take bl xc i_law_take (defScope (top 117)) (defBody (top 117)) = true := by decide +kernel
/-! _law_common -/
def n_law_common : List Str := ["a", "b", "rest"]
def p_law_common : List Str := ["a", "b"]
def i_law_common : Ss :=
    (.cons (.asg (.name 0) (.bi .abs (.cons (.var 0) .nil)))
    (.cons (.asg (.name 1) (.bi .abs (.cons (.var 1) .nil)))
    (.cons (.whl (.tst (.cmp .ne (.var 1) (.int 0))) (.cons (.asg (.name 2) (.bop .mod (.bi .int (.cons (.var 0) .nil)) (.var 1)))
    (.cons (.asg (.name 0) (.var 1))
    (.cons (.asg (.name 1) (.var 2))
    .nil))))
    (.cons (.ret (.var 0))
    .nil))))
theorem sc_law_common : FnScope n_law_common p_law_common (defScope (top 119)) := ⟨by kernel_rfl, by kernel_rfl, by kernel_rfl, by decide +kernel, by kernel_rfl, by decide +kernel, by decide +kernel⟩
theorem ck_law_common : chkSs n_law_common bl xc i_law_common (defScope (top 119)) (defBody (top 119)) = true := by decide +kernel
/-! _law_fraction -/
def n_law_fraction : List Str := ["n", "m", "g"]
def p_law_fraction : List Str := ["n", "m"]
def i_law_fraction : Ss :=
    (.cons (.asg (.name 2) (.call "_law_common" (.cons (.var 0) (.cons (.var 1) .nil))))
    (.cons (.ifs (.tst (.cmp .lt (.var 1) (.int 0))) (.cons (.asg (.name 2) (.bop .sub (.int 0) (.var 2)))
    .nil) .nil)
    (.cons (.ret (.tup (.cons (.bop .div (.var 0) (.var 2)) (.cons (.bop .div (.var 1) (.var 2)) .nil))))
    .nil)))
theorem sc_law_fraction : FnScope n_law_fraction p_law_fraction (defScope (top 120)) := ⟨by kernel_rfl, by kernel_rfl, by kernel_rfl, by decide +kernel, by kernel_rfl, by decide +kernel, by decide +kernel⟩
theorem ck_law_fraction : chkSs n_law_fraction bl xc i_law_fraction (defScope (top 120)) (defBody (top 120)) = true := by decide +kernel
/-! _law_zero -/
def n_law_zero : List Str := ["d"]
def p_law_zero : List Str := ["d"]
def i_law_zero : Ss :=
    (.cons (.ifs (.tst (.cmp .eq (.idx (.var 0) (.int 0)) (.str "Q"))) (.cons (.ret (.tup (.cons (.int 0) (.cons (.int 1) .nil))))
    .nil) .nil)
    (.cons (.ifs (.tst (.cmp .eq (.idx (.var 0) (.int 0)) (.str "P"))) (.cons (.ret (.tup .nil))
    .nil) .nil)
    (.cons (.ret (.int 0))
    .nil)))
theorem sc_law_zero : FnScope n_law_zero p_law_zero (defScope (top 121)) := ⟨by kernel_rfl, by kernel_rfl, by kernel_rfl, by decide +kernel, by kernel_rfl, by decide +kernel, by decide +kernel⟩
theorem ck_law_zero : chkSs n_law_zero bl xc i_law_zero (defScope (top 121)) (defBody (top 121)) = true := by decide +kernel
/-! _law_strip -/
def n_law_strip : List Str := ["f", "parts", "many"]
def p_law_strip : List Str := ["f", "parts"]
def i_law_strip : Ss :=
    (.cons (.asg (.name 2) (.bi .len (.cons (.var 1) .nil)))
    (.cons (.whl (.andE (.tst (.cmp .gt (.var 2) (.int 0))) (.tst (.cmp .eq (.idx (.var 1) (.bop .sub (.var 2) (.int 1))) (.call "_law_zero" (.cons (.var 0) .nil))))) (.cons (.asg (.name 2) (.bop .sub (.var 2) (.int 1)))
    .nil))
    (.cons (.ret (.bi .tuple (.cons (.slc (.var 1) .none (.some (.var 2))) .nil)))
    .nil)))
theorem sc_law_strip : FnScope n_law_strip p_law_strip (defScope (top 122)) := ⟨by kernel_rfl, by kernel_rfl, by kernel_rfl, by decide +kernel, by kernel_rfl, by decide +kernel, by decide +kernel⟩
theorem ck_law_strip : chkSs n_law_strip bl xc i_law_strip (defScope (top 122)) (defBody (top 122)) = true := by decide +kernel
/-! _law_number -/
def n_law_number : List Str := ["d", "n"]
def p_law_number : List Str := ["d", "n"]
def i_law_number : Ss :=
    (.cons (.ifs (.tst (.cmp .eq (.idx (.var 0) (.int 0)) (.str "Q"))) (.cons (.ret (.tup (.cons (.var 1) (.cons (.int 1) .nil))))
    .nil) .nil)
    (.cons (.ifs (.tst (.cmp .eq (.idx (.var 0) (.int 0)) (.str "F"))) (.cons (.ret (.bop .mod (.bi .int (.cons (.var 1) .nil)) (.idx (.var 0) (.int 1))))
    .nil) .nil)
    (.cons (.ifs (.tst (.cmp .eq (.idx (.var 0) (.int 0)) (.str "P"))) (.cons (.ret (.call "_law_strip" (.cons (.idx (.var 0) (.int 1)) (.cons (.lst (.cons (.call "_law_number" (.cons (.idx (.var 0) (.int 1)) (.cons (.var 1) .nil))) .nil)) .nil))))
    .nil) .nil)
    (.cons (.ret (.var 1))
    .nil))))
theorem sc_law_number : FnScope n_law_number p_law_number (defScope (top 123)) := ⟨by kernel_rfl, by kernel_rfl, by kernel_rfl, by decide +kernel, by kernel_rfl, by decide +kernel, by decide +kernel⟩
theorem ck_law_number : chkSs n_law_number bl xc i_law_number (defScope (top 123)) (defBody (top 123)) = true := by decide +kernel
/-! _law_some_prime -/
def n_law_some_prime : List Str := ["c", "p", "k"]
def p_law_some_prime : List Str := ["c"]
def i_law_some_prime : Ss :=
    (.cons (.asg (.name 1) (.bop .add (.int 2) (.call "_law_take" (.cons (.var 0) (.cons (.int 65520) .nil)))))
    (.cons (.whl (.tst (.bi .any (.cons (.lc (.cmp .eq (.bop .mod (.bi .int (.cons (.var 1) .nil)) (.var 2)) (.int 0)) (.name 2) (.rng2 (.int 2) (.int 257)) (.some (.tst (.cmp .le (.bop .mul (.var 2) (.var 2)) (.var 1)))) [("k", 2)]) .nil))) (.cons (.asg (.name 1) (.bop .add (.var 1) (.int 1)))
    .nil))
    (.cons (.ret (.var 1))
    .nil)))
theorem sc_law_some_prime : FnScope n_law_some_prime p_law_some_prime (defScope (top 130)) := ⟨by kernel_rfl, by kernel_rfl, by kernel_rfl, by decide +kernel, by kernel_rfl, by decide +kernel, by decide +kernel⟩
theorem ck_law_some_prime : chkSs n_law_some_prime bl xc i_law_some_prime (defScope (top 130)) (defBody (top 130)) = true := by decide +kernel
/-! _law_field -/
def n_law_field : List Str := ["c", "primes", "k"]
def p_law_field : List Str := ["c"]
def i_law_field : Ss :=
    (.cons (.asg (.name 1) (.lst (.cons (.int 2) (.cons (.int 3) (.cons (.int 5) (.cons (.int 7) (.cons (.int 11) (.cons (.int 101) (.cons (.int 65521) .nil)))))))))
    (.cons (.asg (.name 2) (.call "_law_take" (.cons (.var 0) (.cons (.int 14) .nil))))
    (.cons (.ifs (.tst (.cmp .lt (.var 2) (.int 4))) (.cons (.ret (.tup (.cons (.str "Q") .nil)))
    .nil) .nil)
    (.cons (.ifs (.tst (.cmp .gt (.var 2) (.int 10))) (.cons (.ret (.tup (.cons (.str "F") (.cons (.call "_law_some_prime" (.cons (.var 0) .nil)) .nil))))
    .nil) .nil)
    (.cons (.ret (.tup (.cons (.str "F") (.cons (.idx (.var 1) (.bop .sub (.var 2) (.int 4))) .nil))))
    .nil)))))
theorem sc_law_field : FnScope n_law_field p_law_field (defScope (top 131)) := ⟨by kernel_rfl, by kernel_rfl, by kernel_rfl, by decide +kernel, by kernel_rfl, by decide +kernel, by decide +kernel⟩
theorem ck_law_field : chkSs n_law_field bl xc i_law_field (defScope (top 131)) (defBody (top 131)) = true := by decide +kernel
/-! _law_small -/
def n_law_small : List Str := ["c", "d", "k"]
def p_law_small : List Str := ["c", "d"]
def i_law_small : Ss :=
    (.cons (.ifs (.tst (.cmp .eq (.idx (.var 1) (.int 0)) (.str "F"))) (.cons (.ret (.bop .mod (.bi .int (.cons (.call "_law_take" (.cons (.var 0) (.cons (.int 65536) .nil))) .nil)) (.idx (.var 1) (.int 1))))
    .nil) .nil)
    (.cons (.ifs (.tst (.cmp .eq (.idx (.var 1) (.int 0)) (.str "Q"))) (.cons (.ret (.call "_law_fraction" (.cons (.bop .sub (.call "_law_take" (.cons (.var 0) (.cons (.int 9) .nil))) (.int 4)) (.cons (.bop .add (.int 1) (.call "_law_take" (.cons (.var 0) (.cons (.int 3) .nil)))) .nil))))
    .nil) .nil)
    (.cons (.ifs (.tst (.cmp .eq (.idx (.var 1) (.int 0)) (.str "P"))) (.cons (.ret (.call "_law_strip" (.cons (.idx (.var 1) (.int 1)) (.cons (.lc (.call "_law_small" (.cons (.var 0) (.cons (.idx (.var 1) (.int 1)) .nil))) (.name 2) (.rng1 (.call "_law_take" (.cons (.var 0) (.cons (.int 3) .nil)))) .none [("k", 2)]) .nil))))
    .nil) .nil)
    (.cons (.ret (.idx (.lst (.cons (.bop .sub (.call "_law_take" (.cons (.var 0) (.cons (.int 9) .nil))) (.int 4)) (.cons (.int 0) (.cons (.int 0) (.cons (.int 1) (.cons (.bop .sub (.call "_law_take" (.cons (.var 0) (.cons (.int 99) .nil))) (.int 49)) .nil)))))) (.call "_law_take" (.cons (.var 0) (.cons (.int 5) .nil)))))
    .nil))))
theorem sc_law_small : FnScope n_law_small p_law_small (defScope (top 135)) := ⟨by kernel_rfl, by kernel_rfl, by kernel_rfl, by decide +kernel, by kernel_rfl, by decide +kernel, by decide +kernel⟩
theorem ck_law_small : chkSs n_law_small bl xc i_law_small (defScope (top 135)) (defBody (top 135)) = true := by decide +kernel
/-! _law_matrix -/
def n_law_matrix : List Str := ["c", "d", "m", "n", "j", "i"]
def p_law_matrix : List Str := ["c", "d", "m", "n"]
def i_law_matrix : Ss :=
    (.cons (.ret (.tup (.cons (.var 2) (.cons (.var 3) (.cons (.bi .tuple (.cons (.lc (.bi .tuple (.cons (.lc (.call "_law_small" (.cons (.var 0) (.cons (.var 1) .nil))) (.name 4) (.rng1 (.var 3)) .none [("j", 4)]) .nil)) (.name 5) (.rng1 (.var 2)) .none [("i", 5)]) .nil)) .nil)))))
    .nil)
theorem sc_law_matrix : FnScope n_law_matrix p_law_matrix (defScope (top 136)) := ⟨by kernel_rfl, by kernel_rfl, by kernel_rfl, by decide +kernel, by kernel_rfl, by decide +kernel, by decide +kernel⟩
theorem ck_law_matrix : chkSs n_law_matrix bl xc i_law_matrix (defScope (top 136)) (defBody (top 136)) = true := by decide +kernel
/-! _law_called -/
def n_law_called : List Str := ["f", "args"]
def p_law_called : List Str := ["f", "args"]
def i_law_called : Ss :=
    (.cons (.ifs (.tst (.cmp .eq (.bi .len (.cons (.var 1) .nil)) (.int 1))) (.cons (.ret (.callL 0 (.cons (.idx (.var 1) (.int 0)) .nil)))
    .nil) .nil)
    (.cons (.ifs (.tst (.cmp .eq (.bi .len (.cons (.var 1) .nil)) (.int 2))) (.cons (.ret (.callL 0 (.cons (.idx (.var 1) (.int 0)) (.cons (.idx (.var 1) (.int 1)) .nil))))
    .nil) .nil)
    (.cons (.ifs (.tst (.cmp .eq (.bi .len (.cons (.var 1) .nil)) (.int 3))) (.cons (.ret (.callL 0 (.cons (.idx (.var 1) (.int 0)) (.cons (.idx (.var 1) (.int 1)) (.cons (.idx (.var 1) (.int 2)) .nil)))))
    .nil) .nil)
    (.cons (.ret (.callL 0 (.cons (.idx (.var 1) (.int 0)) (.cons (.idx (.var 1) (.int 1)) (.cons (.idx (.var 1) (.int 2)) (.cons (.idx (.var 1) (.int 3)) .nil))))))
    .nil))))
theorem sc_law_called : FnScope n_law_called p_law_called (defScope (top 143)) := ⟨by kernel_rfl, by kernel_rfl, by kernel_rfl, by decide +kernel, by kernel_rfl, by decide +kernel, by decide +kernel⟩
theorem ck_law_called : chkSs n_law_called bl xc i_law_called (defScope (top 143)) (defBody (top 143)) = true := by decide +kernel
/-! _law_all -/
def n_law_all : List Str := ["rows", "due", "row"]
def p_law_all : List Str := ["rows", "due"]
def i_law_all : Ss :=
    (.cons (.ret (.bi .all (.cons (.lc (.cmp .eq (.call "_law_class" (.cons (.idx (.var 2) (.int 0)) (.cons (.idx (.var 2) (.int 1)) .nil))) (.lst (.cons (.var 1) (.cons (.bl true) .nil)))) (.name 2) (.seq (.var 0)) .none [("row", 2)]) .nil)))
    .nil)
theorem sc_law_all : FnScope n_law_all p_law_all (defScope (top 145)) := ⟨by kernel_rfl, by kernel_rfl, by kernel_rfl, by decide +kernel, by kernel_rfl, by decide +kernel, by decide +kernel⟩
theorem ck_law_all : chkSs n_law_all bl xc i_law_all (defScope (top 145)) (defBody (top 145)) = true := by decide +kernel
/-! _law_no_domain -/
def n_law_no_domain : List Str := ["c", "rows"]
def p_law_no_domain : List Str := ["c"]
def i_law_no_domain : Ss :=
    (.cons (.asg (.name 1) (.lst (.cons (.tup (.cons (.str "R") .nil)) (.cons (.tup (.cons (.str "F") (.cons (.int 4) .nil))) (.cons (.tup (.cons (.str "F") (.cons (.int 1) .nil))) (.cons (.tup (.cons (.str "F") (.cons (.int 0) .nil))) (.cons (.tup (.cons (.str "F") (.cons (.int 65537) .nil))) (.cons (.tup (.cons (.str "F") (.cons (.int 561) .nil))) (.cons (.tup (.cons (.str "F") (.cons (.bop .sub (.int 0) (.int 3)) .nil))) (.cons (.tup (.cons (.str "F") .nil)) (.cons (.tup (.cons (.str "F") (.cons (.bl true) .nil))) (.cons (.tup (.cons (.str "F") (.cons (.str "2") .nil))) (.cons (.tup .nil) .nil)))))))))))))
    (.cons (.asg (.name 1) (.bop .add (.var 1) (.lst (.cons (.tup (.cons (.str "Z") (.cons (.int 1) .nil))) (.cons (.tup (.cons (.str "Q") (.cons (.int 1) .nil))) (.cons (.tup (.cons (.str "P") .nil)) (.cons (.tup (.cons (.str "P") (.cons (.tup (.cons (.str "Z") .nil)) .nil))) (.cons (.tup (.cons (.str "P") (.cons (.tup (.cons (.str "P") (.cons (.tup (.cons (.str "Q") .nil)) .nil))) .nil))) (.cons (.tup (.cons (.str "P") (.cons (.tup (.cons (.str "F") (.cons (.int 9) .nil))) .nil))) (.cons (.str "Z") (.cons .non (.cons (.int 7) (.cons (.bl true) (.cons (.str "ZZ") .nil))))))))))))))
    (.cons (.ret (.idx (.var 1) (.call "_law_take" (.cons (.var 0) (.cons (.bi .len (.cons (.var 1) .nil)) .nil)))))
    .nil)))
theorem sc_law_no_domain : FnScope n_law_no_domain p_law_no_domain (defScope (top 146)) := ⟨by kernel_rfl, by kernel_rfl, by kernel_rfl, by decide +kernel, by kernel_rfl, by decide +kernel, by decide +kernel⟩
theorem ck_law_no_domain : chkSs n_law_no_domain bl xc i_law_no_domain (defScope (top 146)) (defBody (top 146)) = true := by decide +kernel
/-! _law_single -/
def n_law_single : List Str := ["d", "a", "found", "f"]
def p_law_single : List Str := ["d", "a"]
def i_law_single : Ss :=
    (.cons (.asg (.name 2) (.lst (.cons (.glob "characteristic") (.cons (.glob "minimal") (.cons (.glob "cyclic_vector") (.cons (.glob "invariant_factors") (.cons (.glob "frobenius") (.cons (.glob "eigenvalues") (.cons (.glob "jordan") (.cons (.glob "unsplit") (.cons (.glob "is_diagonal") .nil)))))))))))
    (.cons (.ret (.lc (.tup (.cons (.var 3) (.cons (.tup (.cons (.var 0) (.cons (.var 1) .nil))) .nil))) (.name 3) (.seq (.var 2)) .none [("f", 3)]))
    .nil))
theorem sc_law_single : FnScope n_law_single p_law_single (defScope (top 147)) := ⟨by kernel_rfl, by kernel_rfl, by kernel_rfl, by decide +kernel, by kernel_rfl, by decide +kernel, by decide +kernel⟩
theorem ck_law_single : chkSs n_law_single bl xc i_law_single (defScope (top 147)) (defBody (top 147)) = true := by decide +kernel
/-! _law_double -/
def n_law_double : List Str := ["d", "a", "b", "v"]
def p_law_double : List Str := ["d", "a", "b", "v"]
def i_law_double : Ss :=
    (.cons (.ret (.lst (.cons (.tup (.cons (.glob "annihilator") (.cons (.tup (.cons (.var 0) (.cons (.var 1) (.cons (.var 3) .nil)))) .nil))) (.cons (.tup (.cons (.glob "krylov") (.cons (.tup (.cons (.var 0) (.cons (.var 1) (.cons (.var 3) .nil)))) .nil))) (.cons (.tup (.cons (.glob "similarity") (.cons (.tup (.cons (.var 0) (.cons (.var 1) (.cons (.var 2) .nil)))) .nil))) (.cons (.tup (.cons (.glob "difference") (.cons (.tup (.cons (.var 0) (.cons (.var 1) (.cons (.var 2) .nil)))) .nil))) .nil))))))
    .nil)
theorem sc_law_double : FnScope n_law_double p_law_double (defScope (top 148)) := ⟨by kernel_rfl, by kernel_rfl, by kernel_rfl, by decide +kernel, by kernel_rfl, by decide +kernel, by decide +kernel⟩
theorem ck_law_double : chkSs n_law_double bl xc i_law_double (defScope (top 148)) (defBody (top 148)) = true := by decide +kernel
/-! law -/
def n_law : List Str := ["script", "c", "f", "n", "k", "d", "a", "x", "v", "one_v", "rows", "square", "other", "short", "j"]
def p_law : List Str := ["script"]
def i_law : Ss :=
    (.cons (.asg (.name 1) (.call "_law_start" (.cons (.var 0) .nil)))
    (.cons (.asg (.name 2) (.call "_law_field" (.cons (.var 1) .nil)))
    (.cons (.asg (.name 3) (.bop .add (.int 1) (.call "_law_take" (.cons (.var 1) (.cons (.int 3) .nil)))))
    (.cons (.asg (.name 4) (.idx (.lst (.cons (.bop .sub (.var 3) (.int 1)) (.cons (.bop .add (.var 3) (.int 1)) .nil))) (.call "_law_take" (.cons (.var 1) (.cons (.int 2) .nil)))))
    (.cons (.ifs (.tst (.cmp .eq (.call "_law_take" (.cons (.var 1) (.cons (.int 2) .nil))) (.int 0))) (.cons (.asg (.name 5) (.idx (.lst (.cons (.tup (.cons (.str "Z") .nil)) (.cons (.tup (.cons (.str "P") (.cons (.var 2) .nil))) .nil))) (.call "_law_take" (.cons (.var 1) (.cons (.int 2) .nil)))))
    (.cons (.asg (.name 6) (.call "_law_matrix" (.cons (.var 1) (.cons (.var 5) (.cons (.var 3) (.cons (.idx (.lst (.cons (.var 3) (.cons (.var 4) .nil))) (.call "_law_take" (.cons (.var 1) (.cons (.int 2) .nil)))) .nil))))))
    (.cons (.asg (.name 7) (.call "_law_small" (.cons (.var 1) (.cons (.var 5) .nil))))
    (.cons (.asg (.name 8) (.bi .tuple (.cons (.lc (.call "_law_small" (.cons (.var 1) (.cons (.var 5) .nil))) (.name 14) (.rng1 (.var 3)) .none [("j", 14)]) .nil)))
    (.cons (.asg (.name 9) (.call "_law_number" (.cons (.var 5) (.cons (.int 1) .nil))))
    (.cons (.ifs (.tst (.cmp .eq (.call "_law_take" (.cons (.var 1) (.cons (.int 2) .nil))) (.int 0))) (.cons (.asg (.name 5) (.call "_law_no_domain" (.cons (.var 1) .nil)))
    .nil) .nil)
    (.cons (.asg (.name 10) (.bop .add (.bop .add (.call "_law_single" (.cons (.var 5) (.cons (.var 6) .nil))) (.call "_law_double" (.cons (.var 5) (.cons (.var 6) (.cons (.var 6) (.cons (.var 8) .nil)))))) (.lst (.cons (.tup (.cons (.glob "companion") (.cons (.tup (.cons (.var 5) (.cons (.tup (.cons (.var 7) (.cons (.var 9) .nil))) .nil))) .nil))) (.cons (.tup (.cons (.glob "jordan_block") (.cons (.tup (.cons (.var 5) (.cons (.var 7) (.cons (.int 2) .nil)))) .nil))) .nil)))))
    (.cons (.ret (.call "_law_all" (.cons (.var 10) (.cons (.str "domain") .nil))))
    .nil)))))))) .nil)
    (.cons (.asg (.name 6) (.call "_law_matrix" (.cons (.var 1) (.cons (.var 2) (.cons (.var 3) (.cons (.var 4) .nil))))))
    (.cons (.asg (.name 11) (.call "_law_matrix" (.cons (.var 1) (.cons (.var 2) (.cons (.var 3) (.cons (.var 3) .nil))))))
    (.cons (.asg (.name 12) (.call "_law_matrix" (.cons (.var 1) (.cons (.var 2) (.cons (.var 4) (.cons (.var 4) .nil))))))
    (.cons (.asg (.name 8) (.bi .tuple (.cons (.lc (.call "_law_small" (.cons (.var 1) (.cons (.var 2) .nil))) (.name 14) (.rng1 (.var 3)) .none [("j", 14)]) .nil)))
    (.cons (.asg (.name 10) (.bop .add (.call "_law_single" (.cons (.var 2) (.cons (.var 6) .nil))) (.call "_law_double" (.cons (.var 2) (.cons (.var 6) (.cons (.var 6) (.cons (.var 8) .nil)))))))
    (.cons (.asg (.name 13) (.bi .tuple (.cons (.lc (.call "_law_small" (.cons (.var 1) (.cons (.var 2) .nil))) (.name 14) (.rng1 (.var 4)) .none [("j", 14)]) .nil)))
    (.cons (.asg (.name 10) (.bop .add (.var 10) (.lst (.cons (.tup (.cons (.glob "annihilator") (.cons (.tup (.cons (.var 2) (.cons (.var 11) (.cons (.var 13) .nil)))) .nil))) (.cons (.tup (.cons (.glob "krylov") (.cons (.tup (.cons (.var 2) (.cons (.var 11) (.cons (.var 13) .nil)))) .nil))) (.cons (.tup (.cons (.glob "similarity") (.cons (.tup (.cons (.var 2) (.cons (.var 11) (.cons (.var 12) .nil)))) .nil))) .nil))))))
    (.cons (.ret (.call "_law_all" (.cons (.bop .add (.var 10) (.lst (.cons (.tup (.cons (.glob "difference") (.cons (.tup (.cons (.var 2) (.cons (.var 11) (.cons (.var 12) .nil)))) .nil))) (.cons (.tup (.cons (.glob "similarity") (.cons (.tup (.cons (.var 2) (.cons (.var 12) (.cons (.var 11) .nil)))) .nil))) .nil)))) (.cons (.str "shape") .nil))))
    .nil)))))))))))))
theorem sc_law : FnScope n_law p_law (defScope (top 149)) := ⟨by kernel_rfl, by kernel_rfl, by kernel_rfl, by decide +kernel, by kernel_rfl, by decide +kernel, by decide +kernel⟩
theorem ck_law : chkSs n_law bl xc i_law (defScope (top 149)) (defBody (top 149)) = true := by decide +kernel
end K67


set_option Elab.async false
set_option linter.all false
set_option maxRecDepth 100000
set_option maxHeartbeats 2000000
/-! QSimp: the rules by which wp is worked out; loops by invariants. -/
namespace Q
open PySem
def cellp : Option Cell → (List U → Prop) → Prop
  | some (.lst l), k => k l
  | none, _ => False
section
variable {l a b : List U} {n m : Nat} {St : Sto} {Q : Ks} {i j : Int} {k : List U → Prop} {kb : Bool → Prop} {x y v : U} {o : BO} {c d : Bool} {s t : Str}
theorem z_cell : cellp (some (.lst l)) k = k l := rfl
theorem z_slot {q : U → Prop} : slotp (some (some v)) q = q v := rfl
theorem z_int {q : Int → Prop} : intp (.int i) q = q i := rfl
theorem z_bl {q : Bool → Prop} : blp (.bl c) q = q c := rfl
theorem z_tup {q : List U → Prop} : tupp (.tup l) q = q l := rfl
theorem z_fn {q : Str → Prop} : fnp (.fn s) q = q s := rfl
theorem z_lst {q : Prop} : lstq (.lst n) q = q := rfl
theorem z_nil {q : Prop} : nilp [] q = q := rfl
theorem z_cons {q : U → List U → Prop} : consp (v :: l) q = q v l := rfl
theorem z_opt {α : Type} {u : α} {q : α → Prop} : optp (some u) q = q u := rfl
theorem z_optu {q : U → Prop} : optu (some v) q = q v := rfl
theorem z_srct {f : List U → List U} {q : Src → Prop} : srcp f (.tup l) St q = q ⟨f l, fun _ => True⟩ := rfl
theorem z_srcl {f : List U → List U} {q : Src → Prop} : srcp f (.lst n) St q = cellp St[n]? fun l => q ⟨f l, fun S2 => S2[n]? = some (.lst l)⟩ := by
  rcases h : St[n]? with _ | ⟨⟨z⟩⟩ <;> simp only [srcp, cellp, h]
theorem z_bopi : bop o (.int i) (.int j) St Q = bopI o i j St Q := rfl
theorem z_bopt : bop .add (.tup a) (.tup b) St Q = (a.length + b.length ≤ sizeLine ∧ Q (.tup (a ++ b)) St) := rfl
theorem z_bopl : bop .add (.lst m) (.lst n) St Q = cellp St[m]? fun a => cellp St[n]? fun b => a.length + b.length ≤ sizeLine ∧ Q (.lst St.length) (St ++ [.lst (a ++ b)]) := by
  rcases h : St[m]? with _ | ⟨⟨z⟩⟩ <;> rcases h2 : St[n]? with _ | ⟨⟨w⟩⟩ <;> simp only [bop, cellp, h, h2]
theorem z_bopm : bop .mul (.lst m) (.int i) St Q = cellp St[m]? fun a => (-(2 ^ 63) ≤ i ∧ i < 2 ^ 63 ∧ a.length * i.toNat ≤ sizeLine) ∧ Q (.lst St.length) (St ++ [.lst (List.replicate i.toNat a).flatten]) := by
  rcases h : St[m]? with _ | ⟨⟨z⟩⟩ <;> simp only [bop, cellp, h]
theorem z_add : bopI .add i j St Q = Q (.int (i + j)) St := rfl
theorem z_sub : bopI .sub i j St Q = Q (.int (i - j)) St := rfl
theorem z_mul : bopI .mul i j St Q = (i.natAbs.log2 + j.natAbs.log2 < 1000000 ∧ Q (.int (i * j)) St) := rfl
theorem z_div : bopI .div i j St Q = ((j ≠ 0 ∧ j.natAbs.log2 < 9000) ∧ Q (.int (i.fdiv j)) St) := rfl
theorem z_mod : bopI .mod i j St Q = (j ≠ 0 ∧ Q (.int (i.fmod j)) St) := rfl
theorem z_pow : bopI .pow i j St Q = ((0 ≤ j ∧ j ≤ 1000000 ∧ i.natAbs < 2 ^ 64) ∧ Q (.int (i ^ j.toNat)) St) := rfl
theorem z_auga : augp .add (.int i) (.int j) St Q = Q (.int (i + j)) St := rfl
theorem z_augs : augp .sub (.int i) (.int j) St Q = Q (.int (i - j)) St := rfl
theorem z_augd : augp .div (.int i) (.int j) St Q = ((j ≠ 0 ∧ j.natAbs.log2 < 9000) ∧ Q (.int (i.fdiv j)) St) := rfl
theorem z_eqii : eqp (.int i) (.int j) St kb = kb (decide (i = j)) := by
  show ((true = true ∧ true = true) ∧ kb (decide (i = j))) = _
  simp only [true_and, and_self]
theorem z_eqss : eqp (.str s) (.str t) St kb = kb (s == t) := by
  show ((true = true ∧ true = true) ∧ kb (s == t)) = _
  simp only [true_and, and_self]
theorem z_eqbb : eqp (.bl c) (.bl d) St kb = kb (c == d) := by
  show ((true = true ∧ true = true) ∧ kb (c == d)) = _
  simp only [true_and, and_self]
theorem z_eqtt : eqp (.tup a) (.tup b) St kb = ((dats 59 a = true ∧ dats 59 b = true) ∧ kb (eqvs a b)) := by
  show ((dat 60 (.tup a) = true ∧ dat 60 (.tup b) = true) ∧ kb (eqv (.tup a) (.tup b))) = _
  simp only [dat, eqv]
theorem z_eqll : eqp (.lst m) (.lst n) St kb = cellp St[m]? fun a => cellp St[n]? fun b => (dats 60 a = true ∧ dats 60 b = true) ∧ kb (eqvs a b) := by
  rcases h : St[m]? with _ | ⟨⟨z⟩⟩ <;> rcases h2 : St[n]? with _ | ⟨⟨w⟩⟩ <;> simp only [eqp, cellp, h, h2]
theorem z_eqd (hx : dat 60 x = true) (hy : dat 60 y = true) : eqp x y St kb = kb (eqv x y) := by
  unfold eqp
  split
  · exact absurd hx Bool.false_ne_true
  · simp only [hx, hy, and_self, true_and]
theorem z_ceq : cop .eq x y St kb = eqp x y St kb := rfl
theorem z_cne : cop .ne x y St kb = eqp x y St fun b => kb (!b) := rfl
theorem z_clt : cop .lt (.int i) (.int j) St kb = kb (decide (i < j)) := rfl
theorem z_cle : cop .le (.int i) (.int j) St kb = kb (decide (i ≤ j)) := rfl
theorem z_cgt : cop .gt (.int i) (.int j) St kb = kb (decide (j < i)) := rfl
theorem z_cge : cop .ge (.int i) (.int j) St kb = kb (decide (j ≤ i)) := rfl
theorem z_cin : cop .isin x y St kb = inp x y St kb := rfl
theorem z_cni : cop .notin x y St kb = inp x y St fun b => kb (!b) := rfl
theorem z_int_t : inp x (.tup l) St kb = ((flat x = true ∧ l.all flat = true) ∧ kb (l.any fun z => eqv z x)) := rfl
theorem z_trn : tru .non St kb = kb false := rfl
theorem z_trb : tru (.bl c) St kb = kb c := rfl
theorem z_tri : tru (.int i) St kb = kb (i != 0) := rfl
theorem z_trt : tru (.tup l) St kb = kb (!l.isEmpty) := rfl
theorem z_trl : tru (.lst n) St kb = cellp St[n]? fun l => kb (!l.isEmpty) := by
  rcases h : St[n]? with _ | ⟨⟨z⟩⟩ <;> simp only [tru, cellp, h]
theorem z_ixt : idxp (.tup l) (.int i) St Q = optu (L2.atI l i) fun u => Q u St := by
  rcases h : L2.atI l i with _ | z <;> simp only [idxp, optu, h]
theorem z_ixl : idxp (.lst n) (.int i) St Q = cellp St[n]? fun l => optu (L2.atI l i) fun u => Q u St := by
  rcases h : St[n]? with _ | ⟨⟨l⟩⟩
  · simp only [idxp, cellp, h]
  · rcases h2 : L2.atI l i with _ | z <;> simp only [idxp, cellp, optu, h, h2]
theorem z_slt {lo hi : Option Int} : slcp (.tup l) lo hi St Q = Q (.tup (cutU l lo hi)) St := rfl
theorem z_sll {lo hi : Option Int} : slcp (.lst n) lo hi St Q = cellp St[n]? fun l => Q (.lst St.length) (St ++ [.lst (cutU l lo hi)]) := by
  rcases h : St[n]? with _ | ⟨⟨z⟩⟩ <;> simp only [slcp, cellp, h]
theorem z_sls {lo hi : Option Int} {ns : List Int} : slcp (.scr ns) lo hi St Q = Q (.lst St.length) (St ++ [.lst ((cutU ns lo hi).map U.int)]) := rfl
theorem z_lent : bip .len [.tup l] St Q = Q (.int l.length) St := rfl
theorem z_lenl : bip .len [.lst n] St Q = cellp St[n]? fun l => Q (.int l.length) St := by
  rcases h : St[n]? with _ | ⟨⟨z⟩⟩ <;> simp only [bip, itemsp, cellp, h]
theorem z_abs : bip .abs [.int i] St Q = Q (.int (if i < 0 then -i else i)) St := rfl
theorem z_max : bip .max [.int i, .int j] St Q = Q (.int (if j > i then j else i)) St := rfl
theorem z_min : bip .min [.int i, .int j] St Q = Q (.int (if j < i then j else i)) St := rfl
theorem z_toi : bip .int [.int i] St Q = Q (.int i) St := rfl
theorem z_tob : bip .int [.bl c] St Q = Q (.int (if c then 1 else 0)) St := rfl
theorem z_tut : bip .tuple [.tup l] St Q = Q (.tup l) St := rfl
theorem z_tul : bip .tuple [.lst n] St Q = cellp St[n]? fun l => Q (.tup l) St := by
  rcases h : St[n]? with _ | ⟨⟨z⟩⟩ <;> simp only [bip, itemsp, cellp, h]
theorem z_lit : bip .list [.tup l] St Q = Q (.lst St.length) (St ++ [.lst l]) := rfl
theorem z_lil : bip .list [.lst n] St Q = cellp St[n]? fun l => Q (.lst St.length) (St ++ [.lst l]) := by
  rcases h : St[n]? with _ | ⟨⟨z⟩⟩ <;> simp only [bip, itemsp, cellp, h]
theorem z_any : bip .any [.lst n] St Q = cellp St[n]? fun l => optp (blsU l) fun bs => Q (.bl (bs.any id)) St := by
  rcases h : St[n]? with _ | ⟨⟨l⟩⟩
  · simp only [bip, listp, cellp, h]
  · rcases h2 : blsU l with _ | z <;> simp only [bip, listp, cellp, optp, h, h2]
theorem z_all : bip .all [.lst n] St Q = cellp St[n]? fun l => optp (blsU l) fun bs => Q (.bl (bs.all id)) St := by
  rcases h : St[n]? with _ | ⟨⟨l⟩⟩
  · simp only [bip, listp, cellp, h]
  · rcases h2 : blsU l with _ | z <;> simp only [bip, listp, cellp, optp, h, h2]
theorem z_sum : bip .sum [.lst n] St Q = cellp St[n]? fun l => optp (intsU l) fun ns => Q (.int ns.sum) St := by
  rcases h : St[n]? with _ | ⟨⟨l⟩⟩
  · simp only [bip, listp, cellp, h]
  · rcases h2 : intsU l with _ | z <;> simp only [bip, listp, cellp, optp, h, h2]
theorem z_app : mep .append (.lst n) [v] St Q = cellp St[n]? fun l => l.length < sizeLine ∧ Q .non (St.set n (.lst (l ++ [v]))) := by
  rcases h : St[n]? with _ | ⟨⟨z⟩⟩ <;> simp only [mep, cellp, h]
theorem z_set {q : Sto → Prop} : setp (.lst n) (.int i) v St q = cellp St[n]? fun l => optp (L2.ixN l.length i) fun j => q (St.set n (.lst (l.set j v))) := by
  rcases h : St[n]? with _ | ⟨⟨l⟩⟩
  · simp only [setp, cellp, h]
  · rcases h2 : L2.ixN l.length i with _ | z <;> simp only [setp, cellp, optp, h, h2]
theorem z_isn {t : String} : isip .non t kb = kb (t == "NoneType") := rfl
theorem z_isb {t : String} : isip (.bl c) t kb = kb (t == "bool" || t == "int") := rfl
theorem z_isi {t : String} : isip (.int i) t kb = kb (t == "int") := rfl
theorem z_iss {t : String} : isip (.str s) t kb = kb (t == "str") := rfl
theorem z_ist {t : String} : isip (.tup l) t kb = kb (t == "tuple") := rfl
theorem z_isl {t : String} : isip (.lst n) t kb = kb (t == "list") := rfl
theorem z_revl : revp (.lst n) St Q = cellp St[n]? fun l => Q (.lst St.length) (St ++ [.lst l.reverse]) := by
  rcases h : St[n]? with _ | ⟨⟨z⟩⟩ <;> simp only [revp, cellp, h]
end
/-! literals -/
theorem atI_nat {α : Type} (l : List α) (k : Nat) : L2.atI l (k : Int) = l[k]? := by
  unfold L2.atI L2.ixN
  by_cases h : k < l.length
  · rw [if_pos (by omega), if_pos (by omega)]; simp
  · rw [if_pos (by omega), if_neg (by omega)]; simp [h]
theorem atI_0 {α : Type} (l : List α) : L2.atI l 0 = l[0]? := atI_nat l 0
theorem atI_1 {α : Type} (l : List α) : L2.atI l 1 = l[1]? := atI_nat l 1
theorem atI_2 {α : Type} (l : List α) : L2.atI l 2 = l[2]? := atI_nat l 2
theorem atI_3 {α : Type} (l : List α) : L2.atI l 3 = l[3]? := atI_nat l 3
theorem atI_pos {α : Type} (l : List α) (i : Int) (h : 0 ≤ i) : L2.atI l i = l[i.toNat]? := by
  obtain ⟨k, rfl⟩ := Int.eq_ofNat_of_zero_le h
  rw [atI_nat]; rfl
theorem atI_m1 {α : Type} (l : List α) (h : 0 < l.length) : L2.atI l (-1) = l[l.length - 1]? := by
  unfold L2.atI L2.ixN
  rw [if_neg (by omega), if_pos (by omega)]
  show l[((-1 : Int) + l.length).toNat]? = _
  congr 1
  omega
theorem ixN_nat (n k : Nat) (h : k < n) : L2.ixN n (k : Int) = some k := by
  unfold L2.ixN
  rw [if_pos (by omega), if_pos (by omega)]; rfl
theorem ixN_2 : L2.ixN 4 2 = some 2 := rfl
theorem ixN_1 : L2.ixN 4 1 = some 1 := rfl
theorem ixN_3 : L2.ixN 4 3 = some 3 := rfl
theorem lg (x k : Nat) (hk : 0 < k) (h : x < 2 ^ k) : x.log2 < k := by
  by_cases h0 : x = 0
  · subst h0; exact hk
  · exact (Nat.log2_lt h0).2 h
theorem mul_ok {i j : Int} (hi : i.natAbs < 2 ^ 128) (hj : j.natAbs < 2 ^ 128) : i.natAbs.log2 + j.natAbs.log2 < 1000000 := by
  have := lg _ 128 (by decide) hi
  have := lg _ 128 (by decide) hj
  omega
theorem div_ok {j : Int} (h0 : j ≠ 0) (hj : j.natAbs < 2 ^ 128) : j ≠ 0 ∧ j.natAbs.log2 < 9000 := ⟨h0, by
  have := lg _ 128 (by decide) hj
  omega⟩
/-- a comprehension by an invariant -/
theorem lcL_ind {turn : U → Sto → (Option U → Sto → Prop) → Prop} {grd : Sto → Prop} {Q : List U → Sto → Prop} (I : List U → List U → Sto → Prop)
    (hg : ∀ us acc S, I us acc S → grd S) (hend : ∀ acc S, I [] acc S → Q acc S)
    (hstep : ∀ u us acc S (k : Option U → Sto → Prop), I (u :: us) acc S → (∀ v S2, acc.length < sizeLine → I us (acc ++ [v]) S2 → k (some v) S2) → (∀ S2, I us acc S2 → k none S2) → turn u S k) :
    ∀ (us acc : List U) (S : Sto), I us acc S → lcL turn grd us acc S Q
  | [], acc, S, h => ⟨hg _ _ _ h, hend _ _ h⟩
  | u :: us, acc, S, h => ⟨hg _ _ _ h, hstep u us acc S _ h (fun v S2 hl hi => ⟨hl, lcL_ind I hg hend hstep us _ S2 hi⟩) (fun S2 hi => lcL_ind I hg hend hstep us _ S2 hi)⟩
theorem forL_ind {turn : U → Sl → Sto → (Sl → Sto → Prop) → Prop} {grd : Sto → Prop} {Q : Sl → Sto → Prop} (I : List U → Sl → Sto → Prop)
    (hg : ∀ us σ S, I us σ S → grd S) (hend : ∀ σ S, I [] σ S → Q σ S)
    (hstep : ∀ u us σ S (k : Sl → Sto → Prop), I (u :: us) σ S → (∀ σ2 S2, I us σ2 S2 → k σ2 S2) → turn u σ S k) :
    ∀ (us : List U) (σ : Sl) (S : Sto), I us σ S → forL turn grd us σ S Q
  | [], σ, S, h => ⟨hg _ _ _ h, hend _ _ h⟩
  | u :: us, σ, S, h => ⟨hg _ _ _ h, hstep u us σ S _ h (fun σ2 S2 hi => forL_ind I hg hend hstep us _ S2 hi)⟩
theorem whlN_ind {test : Sl → Sto → (Bool → Sto → Prop) → Prop} {body : Sl → Sto → (Sl → Sto → Prop) → Prop} {nx : Sl → Sto → Prop} (I : Nat → Sl → Sto → Prop)
    (h : ∀ n σ S (k : Sl → Sto → Prop), I n σ S → (∀ m σ2 S2, m < n → I m σ2 S2 → k σ2 S2) → test σ S fun b S2 => if b = true then body σ S2 k else nx σ S2) :
    ∀ (N n : Nat) (σ : Sl) (S : Sto), n ≤ N → I n σ S → whlN test body nx (N + 1) σ S
  | 0, n, σ, S, hn, hi => h n σ S _ hi (fun m σ2 S2 hm _ => absurd hm (by omega))
  | N + 1, n, σ, S, hn, hi => h n σ S _ hi (fun m σ2 S2 hm hi2 => whlN_ind I h N m σ2 S2 (by omega) hi2)
theorem whl_ind {test : Sl → Sto → (Bool → Sto → Prop) → Prop} {body : Sl → Sto → (Sl → Sto → Prop) → Prop} {nx : Sl → Sto → Prop} (I : Nat → Sl → Sto → Prop) {n : Nat} {σ : Sl} {S : Sto} (hi : I n σ S)
    (h : ∀ n σ S (k : Sl → Sto → Prop), I n σ S → (∀ m σ2 S2, m < n → I m σ2 S2 → k σ2 S2) → test σ S fun b S2 => if b = true then body σ S2 k else nx σ S2) :
    ∃ m, whlN test body nx m σ S := ⟨n + 1, whlN_ind I h n n σ S (Nat.le_refl _) hi⟩
/-- a name has a promise that serves -/
def Has (G : Gm) (f : Str) (sp : FSpec) : Prop := ∃ s, G.fns f = some s ∧ ∀ us S Q X, sp us S Q X → s us S Q X
/-- a def's body keeps a promise -/
def Pf (G : Gm) (N : List Str) (ir : Ss) (sp : FSpec) : Prop := ∀ us S Q X, sp us S Q X → wpSs G ir (fun c q _ S2 => X c q S2) { nx := fun _ S2 => Q .non S2, rt := Q } (startU N.length us) S
end Q

set_option Elab.async false
set_option linter.all false
set_option maxRecDepth 100000
set_option maxHeartbeats 2000000
namespace K67
open PySem PySem.Spec L2 Q
/-! ### the script's reader -/
structure CsI (S : Sto) (c : Nat) (d : Nat) (L : List Int) (a b n : Int) : Prop where
  hc : S[c]? = some (.lst [.lst d, .int a, .int b, .int n])
  hd : S[d]? = some (.lst (L.map U.int))
  ne : c ≠ d
  a0 : 0 ≤ a
  a1 : a ≤ L.length
  b0 : 0 ≤ b
  n0 : 0 ≤ n
def Cs (S : Sto) (c m : Nat) : Prop := ∃ d L a b n, CsI S c d L a b n ∧ n ≤ m
theorem Cs.mono {S : Sto} {c m m' : Nat} (h : Cs S c m) (hm : m ≤ m') : Cs S c m' := by
  obtain ⟨d, L, a, b, n, i, hn⟩ := h
  exact ⟨d, L, a, b, n, i, by omega⟩
structure Ext (c : Nat) (S S' : Sto) : Prop where
  len : S.length ≤ S'.length
  same : ∀ i, i < S.length → i ≠ c → S'[i]? = S[i]?
theorem Ext.refl (c : Nat) (S : Sto) : Ext c S S := ⟨Nat.le_refl _, fun _ _ _ => rfl⟩
theorem Ext.trans {c : Nat} {S S' S2 : Sto} (h : Ext c S S') (h2 : Ext c S' S2) : Ext c S S2 :=
  ⟨Nat.le_trans h.len h2.len, fun i hi hc => (h2.same i (Nat.lt_of_lt_of_le hi h.len) hc).trans (h.same i hi hc)⟩
theorem Ext.push (c : Nat) (S : Sto) (x : List Cell) : Ext c S (S ++ x) := ⟨by simp, fun i hi _ => List.getElem?_append_left hi⟩
theorem Ext.set (c : Nat) (S : Sto) (x : Cell) : Ext c S (S.set c x) := ⟨by simp, fun i hi hc => by rw [List.getElem?_set_ne (fun h => hc h.symm)]⟩
theorem Cs.push {S : Sto} {c m : Nat} (h : Cs S c m) (x : List Cell) : Cs (S ++ x) c m := by
  obtain ⟨d, L, a, b, n, i, hn⟩ := h
  have hc : c < S.length := (List.getElem?_eq_some_iff.1 i.hc).1
  have hd : d < S.length := (List.getElem?_eq_some_iff.1 i.hd).1
  exact ⟨d, L, a, b, n, ⟨by rw [List.getElem?_append_left hc]; exact i.hc, by rw [List.getElem?_append_left hd]; exact i.hd, i.ne, i.a0, i.a1, i.b0, i.n0⟩, hn⟩
theorem Cs.lt {S : Sto} {c m : Nat} (h : Cs S c m) : c < S.length := by
  obtain ⟨d, L, a, b, n, i, hn⟩ := h
  exact (List.getElem?_eq_some_iff.1 i.hc).1

theorem last_int {L : List Int} (h : (!(L.map U.int).isEmpty) = true) : ∃ z, L2.atI (L.map U.int) (-1) = some (.int z) := by
  cases L with
  | nil => cases h
  | cons x xs =>
    rw [atI_m1 _ (by simp), List.getElem?_map, List.getElem?_eq_getElem (by simp)]
    exact ⟨_, rfl⟩
def spFill : FSpec := fun us S Q _ => ∃ c d L a b n, us = [.lst c] ∧ CsI S c d L a b n ∧ n < 1000000 ∧
  ∀ a' v, 0 ≤ a' → a' ≤ (L.length : Int) → 0 ≤ v → Q (.int v) (S.set c (.lst [.lst d, .int a', .int b, .int (n + 1)]))
theorem w_fill (G : Gm) : Pf G n_law_fill i_law_fill spFill := by
  intro us S Q X h
  obtain ⟨c, d, L, a, b, n, rfl, I, hn, hQ⟩ := h
  have hcl : c < S.length := (List.getElem?_eq_some_iff.1 I.hc).1
  have i1 : (S.set c (.lst [.lst d, .int a, .int b, .int (n + 1)]))[c]? = some (.lst [.lst d, .int a, .int b, .int (n + 1)]) := by
    rw [List.getElem?_set_self hcl]
  have i2 : ∀ x, (S.set c x)[d]? = some (.lst (L.map U.int)) := fun x => by
    rw [List.getElem?_set_ne I.ne]; exact I.hd
  have i3 : (S.set c (.lst [.lst d, .int (a + 1), .int b, .int (n + 1)]))[c]? = some (.lst [.lst d, .int (a + 1), .int b, .int (n + 1)]) := by
    rw [List.getElem?_set_self hcl]
  have hn0 := I.n0
  have ha0 := I.a0
  have ha1 := I.a1
  have fin : ∀ (num : Int) (S2 : Sto), 0 ≤ num → num < 10000000000000000000000000 → (∀ v, 0 ≤ v → Q (.int v) S2) → (num.natAbs.log2 + (Int.natAbs 48271).log2 < 1000000 ∧ (n + 1).natAbs.log2 + (Int.natAbs 69621).log2 < 1000000 ∧
      ((num * 48271 + (n + 1) * 69621).fmod 2147483647).natAbs.log2 + ((num * 48271 + (n + 1) * 69621).fmod 2147483647).natAbs.log2 < 1000000 ∧
      (n + 1).natAbs.log2 + (Int.natAbs 7919).log2 < 1000000 ∧ (Int.natAbs 64).log2 < 9000 ∧
      Q (.int (((num * 48271 + (n + 1) * 69621).fmod 2147483647 * (num * 48271 + (n + 1) * 69621).fmod 2147483647 + (n + 1) * 7919 + 11).fdiv 64 + 36028797018963968)) S2) := by
    intro num S2 h0 h1 hq
    have f1 : 0 ≤ (num * 48271 + (n + 1) * 69621).fmod 2147483647 := Int.fmod_nonneg_of_pos _ (by decide)
    have f2 : (num * 48271 + (n + 1) * 69621).fmod 2147483647 < 2147483647 := Int.fmod_lt_of_pos _ (by decide)
    generalize (num * 48271 + (n + 1) * 69621).fmod 2147483647 = r at f1 f2 ⊢
    refine ⟨mul_ok (by omega) (by decide), mul_ok (by omega) (by decide), mul_ok (by omega) (by omega), mul_ok (by omega) (by decide), (div_ok (j := 64) (by decide) (by decide)).2, hq _ ?_⟩
    have hr : 0 ≤ r * r := Int.mul_nonneg f1 f1
    have : 0 ≤ (r * r + (n + 1) * 7919 + 11).fdiv 64 := Int.fdiv_nonneg (by omega) (by decide)
    omega
  have m1 : (n + 1).natAbs.log2 + (Int.natAbs 69621).log2 < 1000000 := mul_ok (by omega) (by decide)
  have hp : ((0 : Int) ≤ 18 ∧ (18 : Int) ≤ 1000000 ∧ (10 : Int).natAbs < 2 ^ 64) := by decide
  have e18 : (10 : Int) ^ 18 = 1000000000000000000 := rfl
  simp only [wpSs, wpS, wpE, wpEs, wpO, wpC, wpT, wpTg, wpTs, wpI, wipeU, startU, z_cell, z_slot, z_int, z_bl, z_tup, z_fn, z_lst, z_nil, z_cons, z_opt, z_optu, z_srct, z_srcl, z_bopi, z_bopt, z_bopl, z_bopm, z_add, z_sub, z_mul, z_div, z_mod, z_pow, z_auga, z_augs, z_augd, z_eqii, z_eqss, z_eqbb, z_eqtt, z_eqll, z_ceq, z_cne, z_clt, z_cle, z_cgt, z_cge, z_cin, z_cni, z_int_t, z_trn, z_trb, z_tri, z_trt, z_trl, z_ixt, z_ixl, z_slt, z_sll, z_sls, z_lent, z_lenl, z_abs, z_max, z_min, z_toi, z_tob, z_tut, z_tul, z_lit, z_lil, z_any, z_all, z_sum, z_app, z_set, z_isn, z_isb, z_isi, z_iss, z_ist, z_isl, z_revl, isNon, atI_0, atI_1, atI_2, atI_3, ixN_1, ixN_2, ixN_3, List.map_cons, List.map_nil, List.length_cons, List.length_nil, List.replicate, List.cons_append, List.nil_append, List.append_nil, List.set_cons_zero, List.set_cons_succ, List.getElem?_cons_zero, List.getElem?_cons_succ, Nat.reduceAdd, Nat.reduceSub, Nat.reduceLT, Nat.reduceLeDiff, Nat.reduceEqDiff, Int.reduceNeg, Int.reduceAdd, Int.reduceSub, Int.reduceMul, Int.reducePow, Int.reduceToNat, Int.reduceLT, Int.reduceLE, Int.reduceEq, if_true, if_false, Bool.false_eq_true, decide_true, decide_false, true_and, and_true, Bool.not_true, Bool.not_false, List.set_nil, List.length_set, ne_eq, not_false_eq_true, reduceCtorEq, and_self, List.isEmpty_cons, List.isEmpty_nil, List.length_map, List.set_set, decide_eq_true_eq, n_law_fill, i_law_fill, I.hc, i1, i2]
  refine ⟨m1, ?_⟩
  by_cases ha : a < L.length
  · have hb : (L.map U.int)[a.toNat]? = some (.int (L[a.toNat]'(by omega))) := by
      rw [List.getElem?_map, List.getElem?_eq_getElem (by omega)]; rfl
    generalize (L[a.toNat]'(by omega)) = w at hb
    simp only [ha]
    rw [atI_pos _ _ ha0, hb]
    by_cases hw : w < 0
    · simp only [wpSs, wpS, wpE, wpEs, wpO, wpC, wpT, wpTg, wpTs, wpI, wipeU, startU, z_cell, z_slot, z_int, z_bl, z_tup, z_fn, z_lst, z_nil, z_cons, z_opt, z_optu, z_srct, z_srcl, z_bopi, z_bopt, z_bopl, z_bopm, z_add, z_sub, z_mul, z_div, z_mod, z_pow, z_auga, z_augs, z_augd, z_eqii, z_eqss, z_eqbb, z_eqtt, z_eqll, z_ceq, z_cne, z_clt, z_cle, z_cgt, z_cge, z_cin, z_cni, z_int_t, z_trn, z_trb, z_tri, z_trt, z_trl, z_ixt, z_ixl, z_slt, z_sll, z_sls, z_lent, z_lenl, z_abs, z_max, z_min, z_toi, z_tob, z_tut, z_tul, z_lit, z_lil, z_any, z_all, z_sum, z_app, z_set, z_isn, z_isb, z_isi, z_iss, z_ist, z_isl, z_revl, isNon, atI_0, atI_1, atI_2, atI_3, ixN_1, ixN_2, ixN_3, List.map_cons, List.map_nil, List.length_cons, List.length_nil, List.replicate, List.cons_append, List.nil_append, List.append_nil, List.set_cons_zero, List.set_cons_succ, List.getElem?_cons_zero, List.getElem?_cons_succ, Nat.reduceAdd, Nat.reduceSub, Nat.reduceLT, Nat.reduceLeDiff, Nat.reduceEqDiff, Int.reduceNeg, Int.reduceAdd, Int.reduceSub, Int.reduceMul, Int.reducePow, Int.reduceToNat, Int.reduceLT, Int.reduceLE, Int.reduceEq, if_true, if_false, Bool.false_eq_true, decide_true, decide_false, true_and, and_true, Bool.not_true, Bool.not_false, List.set_nil, List.length_set, ne_eq, not_false_eq_true, reduceCtorEq, and_self, List.isEmpty_cons, List.isEmpty_nil, List.length_map, List.set_set, decide_eq_true_eq, hw, i3, i2, hp, e18]
      by_cases hx : 1000000000000000000 ≤ -1 - w
      · rw [if_pos hx]
        exact hQ _ _ (by omega) (by omega) (by omega)
      · rw [if_neg hx]
        split
        · rename_i hne
          split
          · obtain ⟨z, hz⟩ := last_int hne
            rw [hz]
            have f1 : 0 ≤ z.fmod 1000003 := Int.fmod_nonneg_of_pos _ (by decide)
            have f2 : z.fmod 1000003 < 1000003 := Int.fmod_lt_of_pos _ (by decide)
            simp only [wpSs, wpS, wpE, wpEs, wpO, wpC, wpT, wpTg, wpTs, wpI, wipeU, startU, z_cell, z_slot, z_int, z_bl, z_tup, z_fn, z_lst, z_nil, z_cons, z_opt, z_optu, z_srct, z_srcl, z_bopi, z_bopt, z_bopl, z_bopm, z_add, z_sub, z_mul, z_div, z_mod, z_pow, z_auga, z_augs, z_augd, z_eqii, z_eqss, z_eqbb, z_eqtt, z_eqll, z_ceq, z_cne, z_clt, z_cle, z_cgt, z_cge, z_cin, z_cni, z_int_t, z_trn, z_trb, z_tri, z_trt, z_trl, z_ixt, z_ixl, z_slt, z_sll, z_sls, z_lent, z_lenl, z_abs, z_max, z_min, z_toi, z_tob, z_tut, z_tul, z_lit, z_lil, z_any, z_all, z_sum, z_app, z_set, z_isn, z_isb, z_isi, z_iss, z_ist, z_isl, z_revl, isNon, atI_0, atI_1, atI_2, atI_3, ixN_1, ixN_2, ixN_3, List.map_cons, List.map_nil, List.length_cons, List.length_nil, List.replicate, List.cons_append, List.nil_append, List.append_nil, List.set_cons_zero, List.set_cons_succ, List.getElem?_cons_zero, List.getElem?_cons_succ, Nat.reduceAdd, Nat.reduceSub, Nat.reduceLT, Nat.reduceLeDiff, Nat.reduceEqDiff, Int.reduceNeg, Int.reduceAdd, Int.reduceSub, Int.reduceMul, Int.reducePow, Int.reduceToNat, Int.reduceLT, Int.reduceLE, Int.reduceEq, if_true, if_false, Bool.false_eq_true, decide_true, decide_false, true_and, and_true, Bool.not_true, Bool.not_false, List.set_nil, List.length_set, ne_eq, not_false_eq_true, reduceCtorEq, and_self, List.isEmpty_cons, List.isEmpty_nil, List.length_map, List.set_set, decide_eq_true_eq, i3, i2]
            exact fin _ _ (by omega) (by omega) (fun v hv => hQ _ v (by omega) (by omega) hv)
          · exact fin _ _ (by omega) (by omega) (fun v hv => hQ _ v (by omega) (by omega) hv)
        · exact fin _ _ (by omega) (by omega) (fun v hv => hQ _ v (by omega) (by omega) hv)
    · simp only [wpSs, wpS, wpE, wpEs, wpO, wpC, wpT, wpTg, wpTs, wpI, wipeU, startU, z_cell, z_slot, z_int, z_bl, z_tup, z_fn, z_lst, z_nil, z_cons, z_opt, z_optu, z_srct, z_srcl, z_bopi, z_bopt, z_bopl, z_bopm, z_add, z_sub, z_mul, z_div, z_mod, z_pow, z_auga, z_augs, z_augd, z_eqii, z_eqss, z_eqbb, z_eqtt, z_eqll, z_ceq, z_cne, z_clt, z_cle, z_cgt, z_cge, z_cin, z_cni, z_int_t, z_trn, z_trb, z_tri, z_trt, z_trl, z_ixt, z_ixl, z_slt, z_sll, z_sls, z_lent, z_lenl, z_abs, z_max, z_min, z_toi, z_tob, z_tut, z_tul, z_lit, z_lil, z_any, z_all, z_sum, z_app, z_set, z_isn, z_isb, z_isi, z_iss, z_ist, z_isl, z_revl, isNon, atI_0, atI_1, atI_2, atI_3, ixN_1, ixN_2, ixN_3, List.map_cons, List.map_nil, List.length_cons, List.length_nil, List.replicate, List.cons_append, List.nil_append, List.append_nil, List.set_cons_zero, List.set_cons_succ, List.getElem?_cons_zero, List.getElem?_cons_succ, Nat.reduceAdd, Nat.reduceSub, Nat.reduceLT, Nat.reduceLeDiff, Nat.reduceEqDiff, Int.reduceNeg, Int.reduceAdd, Int.reduceSub, Int.reduceMul, Int.reducePow, Int.reduceToNat, Int.reduceLT, Int.reduceLE, Int.reduceEq, if_true, if_false, Bool.false_eq_true, decide_true, decide_false, true_and, and_true, Bool.not_true, Bool.not_false, List.set_nil, List.length_set, ne_eq, not_false_eq_true, reduceCtorEq, and_self, List.isEmpty_cons, List.isEmpty_nil, List.length_map, List.set_set, decide_eq_true_eq, hw, i3, i2, hp, e18]
      by_cases hx : 1000000000000000000 ≤ w
      · rw [if_pos hx]
        exact hQ _ _ (by omega) (by omega) (by omega)
      · rw [if_neg hx]
        split
        · rename_i hne
          split
          · obtain ⟨z, hz⟩ := last_int hne
            rw [hz]
            have f1 : 0 ≤ z.fmod 1000003 := Int.fmod_nonneg_of_pos _ (by decide)
            have f2 : z.fmod 1000003 < 1000003 := Int.fmod_lt_of_pos _ (by decide)
            simp only [wpSs, wpS, wpE, wpEs, wpO, wpC, wpT, wpTg, wpTs, wpI, wipeU, startU, z_cell, z_slot, z_int, z_bl, z_tup, z_fn, z_lst, z_nil, z_cons, z_opt, z_optu, z_srct, z_srcl, z_bopi, z_bopt, z_bopl, z_bopm, z_add, z_sub, z_mul, z_div, z_mod, z_pow, z_auga, z_augs, z_augd, z_eqii, z_eqss, z_eqbb, z_eqtt, z_eqll, z_ceq, z_cne, z_clt, z_cle, z_cgt, z_cge, z_cin, z_cni, z_int_t, z_trn, z_trb, z_tri, z_trt, z_trl, z_ixt, z_ixl, z_slt, z_sll, z_sls, z_lent, z_lenl, z_abs, z_max, z_min, z_toi, z_tob, z_tut, z_tul, z_lit, z_lil, z_any, z_all, z_sum, z_app, z_set, z_isn, z_isb, z_isi, z_iss, z_ist, z_isl, z_revl, isNon, atI_0, atI_1, atI_2, atI_3, ixN_1, ixN_2, ixN_3, List.map_cons, List.map_nil, List.length_cons, List.length_nil, List.replicate, List.cons_append, List.nil_append, List.append_nil, List.set_cons_zero, List.set_cons_succ, List.getElem?_cons_zero, List.getElem?_cons_succ, Nat.reduceAdd, Nat.reduceSub, Nat.reduceLT, Nat.reduceLeDiff, Nat.reduceEqDiff, Int.reduceNeg, Int.reduceAdd, Int.reduceSub, Int.reduceMul, Int.reducePow, Int.reduceToNat, Int.reduceLT, Int.reduceLE, Int.reduceEq, if_true, if_false, Bool.false_eq_true, decide_true, decide_false, true_and, and_true, Bool.not_true, Bool.not_false, List.set_nil, List.length_set, ne_eq, not_false_eq_true, reduceCtorEq, and_self, List.isEmpty_cons, List.isEmpty_nil, List.length_map, List.set_set, decide_eq_true_eq, i3, i2]
            exact fin _ _ (by omega) (by omega) (fun v hv => hQ _ v (by omega) (by omega) hv)
          · exact fin _ _ (by omega) (by omega) (fun v hv => hQ _ v (by omega) (by omega) hv)
        · exact fin _ _ (by omega) (by omega) (fun v hv => hQ _ v (by omega) (by omega) hv)
  · simp only [ha, if_false]
    split
    · rename_i hne
      split
      · obtain ⟨z, hz⟩ := last_int hne
        rw [hz]
        have f1 : 0 ≤ z.fmod 1000003 := Int.fmod_nonneg_of_pos _ (by decide)
        have f2 : z.fmod 1000003 < 1000003 := Int.fmod_lt_of_pos _ (by decide)
        simp only [wpSs, wpS, wpE, wpEs, wpO, wpC, wpT, wpTg, wpTs, wpI, wipeU, startU, z_cell, z_slot, z_int, z_bl, z_tup, z_fn, z_lst, z_nil, z_cons, z_opt, z_optu, z_srct, z_srcl, z_bopi, z_bopt, z_bopl, z_bopm, z_add, z_sub, z_mul, z_div, z_mod, z_pow, z_auga, z_augs, z_augd, z_eqii, z_eqss, z_eqbb, z_eqtt, z_eqll, z_ceq, z_cne, z_clt, z_cle, z_cgt, z_cge, z_cin, z_cni, z_int_t, z_trn, z_trb, z_tri, z_trt, z_trl, z_ixt, z_ixl, z_slt, z_sll, z_sls, z_lent, z_lenl, z_abs, z_max, z_min, z_toi, z_tob, z_tut, z_tul, z_lit, z_lil, z_any, z_all, z_sum, z_app, z_set, z_isn, z_isb, z_isi, z_iss, z_ist, z_isl, z_revl, isNon, atI_0, atI_1, atI_2, atI_3, ixN_1, ixN_2, ixN_3, List.map_cons, List.map_nil, List.length_cons, List.length_nil, List.replicate, List.cons_append, List.nil_append, List.append_nil, List.set_cons_zero, List.set_cons_succ, List.getElem?_cons_zero, List.getElem?_cons_succ, Nat.reduceAdd, Nat.reduceSub, Nat.reduceLT, Nat.reduceLeDiff, Nat.reduceEqDiff, Int.reduceNeg, Int.reduceAdd, Int.reduceSub, Int.reduceMul, Int.reducePow, Int.reduceToNat, Int.reduceLT, Int.reduceLE, Int.reduceEq, if_true, if_false, Bool.false_eq_true, decide_true, decide_false, true_and, and_true, Bool.not_true, Bool.not_false, List.set_nil, List.length_set, ne_eq, not_false_eq_true, reduceCtorEq, and_self, List.isEmpty_cons, List.isEmpty_nil, List.length_map, List.set_set, decide_eq_true_eq, i1, i2]
        exact fin _ _ (by omega) (by omega) (fun v hv => hQ _ v (by omega) (by omega) hv)
      · exact fin _ _ (by omega) (by omega) (fun v hv => hQ _ v (by omega) (by omega) hv)
    · exact fin _ _ (by omega) (by omega) (fun v hv => hQ _ v (by omega) (by omega) hv)

end K67

set_option Elab.async false
set_option linter.all false
set_option maxRecDepth 100000
set_option maxHeartbeats 2000000
namespace K67
open PySem PySem.Spec L2 Q
theorem s_QQ : (("Q" : Str) == "Q") = true := by decide +kernel
theorem s_FF : (("F" : Str) == "F") = true := by decide +kernel
theorem s_PP : (("P" : Str) == "P") = true := by decide +kernel
theorem s_FQ : (("F" : Str) == "Q") = false := by decide +kernel
theorem s_FP : (("F" : Str) == "P") = false := by decide +kernel
theorem s_QF : (("Q" : Str) == "F") = false := by decide +kernel
theorem s_QP : (("Q" : Str) == "P") = false := by decide +kernel
theorem s_PQ : (("P" : Str) == "Q") = false := by decide +kernel
theorem s_PF : (("P" : Str) == "F") = false := by decide +kernel
theorem s_ZQ : (("Z" : Str) == "Q") = false := by decide +kernel
theorem s_ZF : (("Z" : Str) == "F") = false := by decide +kernel
theorem s_ZP : (("Z" : Str) == "P") = false := by decide +kernel
theorem Ext.new {c : Nat} {S S2 : Sto} {x : Cell} (h : Ext c (S ++ [x]) S2) (hc : c < S.length) : S2[S.length]? = some x :=
  (h.same S.length (by simp) (by omega)).trans List.getElem?_concat_length
/-- a use of a promise -/
theorem Has.use {G : Gm} {f : Str} {sp : FSpec} (h : Has G f sp) {us : List U} {S : Sto} {Q : Ks} {X : Exn} (q : sp us S Q X) : optp (G.fns f) fun s => s us S Q X := by
  obtain ⟨s, e, hs⟩ := h
  rw [e]
  exact hs _ _ _ _ q
def spTake : FSpec := fun us S Q _ => ∃ c many m, us = [.lst c, .int many] ∧ 1 ≤ many ∧ many < 18446744073709551616 ∧ Cs S c m ∧ m < 1000000 ∧
  ∀ dg S2, 0 ≤ dg → dg < many → Ext c S S2 → Cs S2 c (m + 1) → Q (.int dg) S2
theorem take_end {S0 S : Sto} {c m : Nat} {many : Int} {d : Nat} {L : List Int} {a b n : Int} (I : CsI S c d L a b n) (hn : n ≤ m) (h0 : 1 ≤ many) (e : Ext c S0 S) {Q : Ks}
    (hQ : ∀ dg S2, 0 ≤ dg → dg < many → Ext c S0 S2 → Cs S2 c m → Q (.int dg) S2) : Q (.int (b.fmod many)) (S.set c (.lst [.lst d, .int a, .int (b.fdiv many), .int n])) := by
  have hcl : c < S.length := (List.getElem?_eq_some_iff.1 I.hc).1
  refine hQ _ _ (Int.fmod_nonneg_of_pos _ (by omega)) (Int.fmod_lt_of_pos _ (by omega)) (e.trans (Ext.set _ _ _)) ⟨d, L, a, b.fdiv many, n, ⟨by rw [List.getElem?_set_self hcl], by rw [List.getElem?_set_ne I.ne]; exact I.hd, I.ne, I.a0, I.a1, ?_, I.n0⟩, hn⟩
  exact Int.fdiv_nonneg I.b0 (by omega)
theorem w_take (G : Gm) (hF : Has G "_law_fill" spFill) : Pf G n_law_take i_law_take spTake := by
  intro us S Q X h
  obtain ⟨c, many, m, rfl, h1, h2, ⟨d, L, a, b, n, I, hn⟩, hm, hQ⟩ := h
  obtain ⟨sF, eF, hF⟩ := hF
  have hcl : c < S.length := (List.getElem?_eq_some_iff.1 I.hc).1
  have hd1 : (many ≠ 0 ∧ many.natAbs.log2 < 9000) := div_ok (by omega) (by omega)
  have hd0 : many ≠ 0 := by omega
  simp only [wpSs, wpS, wpE, wpEs, wpO, wpC, wpT, wpTg, wpTs, wpI, wipeU, startU, z_cell, z_slot, z_int, z_bl, z_tup, z_fn, z_lst, z_nil, z_cons, z_opt, z_optu, z_srct, z_srcl, z_bopi, z_bopt, z_bopl, z_bopm, z_add, z_sub, z_mul, z_div, z_mod, z_pow, z_auga, z_augs, z_augd, z_eqii, z_eqss, z_eqbb, z_eqtt, z_eqll, z_ceq, z_cne, z_clt, z_cle, z_cgt, z_cge, z_cin, z_cni, z_int_t, z_trn, z_trb, z_tri, z_trt, z_trl, z_ixt, z_ixl, z_slt, z_sll, z_sls, z_lent, z_lenl, z_abs, z_max, z_min, z_toi, z_tob, z_tut, z_tul, z_lit, z_lil, z_any, z_all, z_sum, z_app, z_set, z_isn, z_isb, z_isi, z_iss, z_ist, z_isl, z_revl, isNon, atI_0, atI_1, atI_2, atI_3, ixN_1, ixN_2, ixN_3, List.map_cons, List.map_nil, List.length_cons, List.length_nil, List.replicate, List.cons_append, List.nil_append, List.append_nil, List.set_cons_zero, List.set_cons_succ, List.getElem?_cons_zero, List.getElem?_cons_succ, Nat.reduceAdd, Nat.reduceSub, Nat.reduceLT, Nat.reduceLeDiff, Nat.reduceEqDiff, Int.reduceNeg, Int.reduceAdd, Int.reduceSub, Int.reduceMul, Int.reducePow, Int.reduceToNat, Int.reduceLT, Int.reduceLE, Int.reduceEq, if_true, if_false, Bool.false_eq_true, decide_true, decide_false, true_and, and_true, Bool.not_true, Bool.not_false, List.set_nil, List.length_set, ne_eq, not_false_eq_true, reduceCtorEq, and_self, List.isEmpty_cons, List.isEmpty_nil, List.length_map, List.set_set, decide_eq_true_eq, n_law_take, i_law_take, I.hc]
  by_cases hb : b < many
  · rw [if_pos hb]
    simp only [wpSs, wpS, wpE, wpEs, wpO, wpC, wpT, wpTg, wpTs, wpI, wipeU, startU, z_cell, z_slot, z_int, z_bl, z_tup, z_fn, z_lst, z_nil, z_cons, z_opt, z_optu, z_srct, z_srcl, z_bopi, z_bopt, z_bopl, z_bopm, z_add, z_sub, z_mul, z_div, z_mod, z_pow, z_auga, z_augs, z_augd, z_eqii, z_eqss, z_eqbb, z_eqtt, z_eqll, z_ceq, z_cne, z_clt, z_cle, z_cgt, z_cge, z_cin, z_cni, z_int_t, z_trn, z_trb, z_tri, z_trt, z_trl, z_ixt, z_ixl, z_slt, z_sll, z_sls, z_lent, z_lenl, z_abs, z_max, z_min, z_toi, z_tob, z_tut, z_tul, z_lit, z_lil, z_any, z_all, z_sum, z_app, z_set, z_isn, z_isb, z_isi, z_iss, z_ist, z_isl, z_revl, isNon, atI_0, atI_1, atI_2, atI_3, ixN_1, ixN_2, ixN_3, List.map_cons, List.map_nil, List.length_cons, List.length_nil, List.replicate, List.cons_append, List.nil_append, List.append_nil, List.set_cons_zero, List.set_cons_succ, List.getElem?_cons_zero, List.getElem?_cons_succ, Nat.reduceAdd, Nat.reduceSub, Nat.reduceLT, Nat.reduceLeDiff, Nat.reduceEqDiff, Int.reduceNeg, Int.reduceAdd, Int.reduceSub, Int.reduceMul, Int.reducePow, Int.reduceToNat, Int.reduceLT, Int.reduceLE, Int.reduceEq, if_true, if_false, Bool.false_eq_true, decide_true, decide_false, true_and, and_true, Bool.not_true, Bool.not_false, List.set_nil, List.length_set, ne_eq, not_false_eq_true, reduceCtorEq, and_self, List.isEmpty_cons, List.isEmpty_nil, List.length_map, List.set_set, decide_eq_true_eq, eF]
    refine hF _ _ _ _ ⟨c, d, L, a, b, n, rfl, I, by omega, fun a' v ha ha1 hv => ?_⟩
    have i1 : ∀ x, (S.set c x)[c]? = some x := fun x => by rw [List.getElem?_set_self hcl]
    simp only [wpSs, wpS, wpE, wpEs, wpO, wpC, wpT, wpTg, wpTs, wpI, wipeU, startU, z_cell, z_slot, z_int, z_bl, z_tup, z_fn, z_lst, z_nil, z_cons, z_opt, z_optu, z_srct, z_srcl, z_bopi, z_bopt, z_bopl, z_bopm, z_add, z_sub, z_mul, z_div, z_mod, z_pow, z_auga, z_augs, z_augd, z_eqii, z_eqss, z_eqbb, z_eqtt, z_eqll, z_ceq, z_cne, z_clt, z_cle, z_cgt, z_cge, z_cin, z_cni, z_int_t, z_trn, z_trb, z_tri, z_trt, z_trl, z_ixt, z_ixl, z_slt, z_sll, z_sls, z_lent, z_lenl, z_abs, z_max, z_min, z_toi, z_tob, z_tut, z_tul, z_lit, z_lil, z_any, z_all, z_sum, z_app, z_set, z_isn, z_isb, z_isi, z_iss, z_ist, z_isl, z_revl, isNon, atI_0, atI_1, atI_2, atI_3, ixN_1, ixN_2, ixN_3, List.map_cons, List.map_nil, List.length_cons, List.length_nil, List.replicate, List.cons_append, List.nil_append, List.append_nil, List.set_cons_zero, List.set_cons_succ, List.getElem?_cons_zero, List.getElem?_cons_succ, Nat.reduceAdd, Nat.reduceSub, Nat.reduceLT, Nat.reduceLeDiff, Nat.reduceEqDiff, Int.reduceNeg, Int.reduceAdd, Int.reduceSub, Int.reduceMul, Int.reducePow, Int.reduceToNat, Int.reduceLT, Int.reduceLE, Int.reduceEq, if_true, if_false, Bool.false_eq_true, decide_true, decide_false, true_and, and_true, Bool.not_true, Bool.not_false, List.set_nil, List.length_set, ne_eq, not_false_eq_true, reduceCtorEq, and_self, List.isEmpty_cons, List.isEmpty_nil, List.length_map, List.set_set, decide_eq_true_eq, i1, hd0, hd1.2]
    have := take_end (S0 := S) (S := S.set c (.lst [.lst d, .int a', .int v, .int (n + 1)])) (m := m + 1) (many := many) (Q := Q) (c := c) (d := d) (L := L) (a := a') (b := v) (n := n + 1)
      ⟨i1 _, by rw [List.getElem?_set_ne I.ne]; exact I.hd, I.ne, ha, ha1, hv, by have := I.n0; omega⟩ (by omega) h1 (Ext.set _ _ _) (fun dg S2 a1 a2 a3 a4 => hQ dg S2 a1 a2 a3 a4)
    rw [List.set_set] at this
    exact this
  · rw [if_neg hb]
    simp only [wpSs, wpS, wpE, wpEs, wpO, wpC, wpT, wpTg, wpTs, wpI, wipeU, startU, z_cell, z_slot, z_int, z_bl, z_tup, z_fn, z_lst, z_nil, z_cons, z_opt, z_optu, z_srct, z_srcl, z_bopi, z_bopt, z_bopl, z_bopm, z_add, z_sub, z_mul, z_div, z_mod, z_pow, z_auga, z_augs, z_augd, z_eqii, z_eqss, z_eqbb, z_eqtt, z_eqll, z_ceq, z_cne, z_clt, z_cle, z_cgt, z_cge, z_cin, z_cni, z_int_t, z_trn, z_trb, z_tri, z_trt, z_trl, z_ixt, z_ixl, z_slt, z_sll, z_sls, z_lent, z_lenl, z_abs, z_max, z_min, z_toi, z_tob, z_tut, z_tul, z_lit, z_lil, z_any, z_all, z_sum, z_app, z_set, z_isn, z_isb, z_isi, z_iss, z_ist, z_isl, z_revl, isNon, atI_0, atI_1, atI_2, atI_3, ixN_1, ixN_2, ixN_3, List.map_cons, List.map_nil, List.length_cons, List.length_nil, List.replicate, List.cons_append, List.nil_append, List.append_nil, List.set_cons_zero, List.set_cons_succ, List.getElem?_cons_zero, List.getElem?_cons_succ, Nat.reduceAdd, Nat.reduceSub, Nat.reduceLT, Nat.reduceLeDiff, Nat.reduceEqDiff, Int.reduceNeg, Int.reduceAdd, Int.reduceSub, Int.reduceMul, Int.reducePow, Int.reduceToNat, Int.reduceLT, Int.reduceLE, Int.reduceEq, if_true, if_false, Bool.false_eq_true, decide_true, decide_false, true_and, and_true, Bool.not_true, Bool.not_false, List.set_nil, List.length_set, ne_eq, not_false_eq_true, reduceCtorEq, and_self, List.isEmpty_cons, List.isEmpty_nil, List.length_map, List.set_set, decide_eq_true_eq, I.hc, hd0, hd1.2]
    exact take_end (S0 := S) (m := m + 1) I (by omega) h1 (Ext.refl _ _) hQ

def spCommon : FSpec := fun us S Q _ => ∃ a b : Int, us = [.int a, .int b] ∧ b ≠ 0 ∧ a.natAbs < 10000000000 ∧ b.natAbs < 10000000000 ∧ ∀ g : Int, 0 < g → g < 10000000000 → Q (.int g) S
theorem w_common (G : Gm) : Pf G n_law_common i_law_common spCommon := by
  intro us S Q X h
  obtain ⟨a, b, rfl, hb, ha1, hb1, hQ⟩ := h
  simp only [wpSs, wpS, wpE, wpEs, wpO, wpC, wpT, wpTg, wpTs, wpI, wipeU, startU, z_cell, z_slot, z_int, z_bl, z_tup, z_fn, z_lst, z_nil, z_cons, z_opt, z_optu, z_srct, z_srcl, z_bopi, z_bopt, z_bopl, z_bopm, z_add, z_sub, z_mul, z_div, z_mod, z_pow, z_auga, z_augs, z_augd, z_eqii, z_eqss, z_eqbb, z_eqtt, z_eqll, z_ceq, z_cne, z_clt, z_cle, z_cgt, z_cge, z_cin, z_cni, z_int_t, z_trn, z_trb, z_tri, z_trt, z_trl, z_ixt, z_ixl, z_slt, z_sll, z_sls, z_lent, z_lenl, z_abs, z_max, z_min, z_toi, z_tob, z_tut, z_tul, z_lit, z_lil, z_any, z_all, z_sum, z_app, z_set, z_isn, z_isb, z_isi, z_iss, z_ist, z_isl, z_revl, isNon, atI_0, atI_1, atI_2, atI_3, ixN_1, ixN_2, ixN_3, List.map_cons, List.map_nil, List.length_cons, List.length_nil, List.replicate, List.cons_append, List.nil_append, List.append_nil, List.set_cons_zero, List.set_cons_succ, List.getElem?_cons_zero, List.getElem?_cons_succ, Nat.reduceAdd, Nat.reduceSub, Nat.reduceLT, Nat.reduceLeDiff, Nat.reduceEqDiff, Int.reduceNeg, Int.reduceAdd, Int.reduceSub, Int.reduceMul, Int.reducePow, Int.reduceToNat, Int.reduceLT, Int.reduceLE, Int.reduceEq, if_true, if_false, Bool.false_eq_true, decide_true, decide_false, true_and, and_true, Bool.not_true, Bool.not_false, List.set_nil, List.length_set, ne_eq, not_false_eq_true, reduceCtorEq, and_self, List.isEmpty_cons, List.isEmpty_nil, List.length_map, List.set_set, decide_eq_true_eq, n_law_common, i_law_common]
  refine whl_ind (n := b.natAbs) (fun n σ S2 => S2 = S ∧ ∃ a2 b2 : Int, ∃ o : Option U, σ = [some (.int a2), some (.int b2), o] ∧ 0 ≤ a2 ∧ a2 < 10000000000 ∧ 0 ≤ b2 ∧ b2 < 10000000000 ∧ (a2 ≠ 0 ∨ b2 ≠ 0) ∧ n = b2.natAbs)
    ⟨rfl, _, _, _, rfl, by split <;> omega, by split <;> omega, by split <;> omega, by split <;> omega, by right; split <;> omega, by split <;> omega⟩ ?_
  rintro n σ S2 k ⟨rfl, a2, b2, o, rfl, h0, h1, h2, h3, h4, rfl⟩ hk
  simp only [wpSs, wpS, wpE, wpEs, wpO, wpC, wpT, wpTg, wpTs, wpI, wipeU, startU, z_cell, z_slot, z_int, z_bl, z_tup, z_fn, z_lst, z_nil, z_cons, z_opt, z_optu, z_srct, z_srcl, z_bopi, z_bopt, z_bopl, z_bopm, z_add, z_sub, z_mul, z_div, z_mod, z_pow, z_auga, z_augs, z_augd, z_eqii, z_eqss, z_eqbb, z_eqtt, z_eqll, z_ceq, z_cne, z_clt, z_cle, z_cgt, z_cge, z_cin, z_cni, z_int_t, z_trn, z_trb, z_tri, z_trt, z_trl, z_ixt, z_ixl, z_slt, z_sll, z_sls, z_lent, z_lenl, z_abs, z_max, z_min, z_toi, z_tob, z_tut, z_tul, z_lit, z_lil, z_any, z_all, z_sum, z_app, z_set, z_isn, z_isb, z_isi, z_iss, z_ist, z_isl, z_revl, isNon, atI_0, atI_1, atI_2, atI_3, ixN_1, ixN_2, ixN_3, List.map_cons, List.map_nil, List.length_cons, List.length_nil, List.replicate, List.cons_append, List.nil_append, List.append_nil, List.set_cons_zero, List.set_cons_succ, List.getElem?_cons_zero, List.getElem?_cons_succ, Nat.reduceAdd, Nat.reduceSub, Nat.reduceLT, Nat.reduceLeDiff, Nat.reduceEqDiff, Int.reduceNeg, Int.reduceAdd, Int.reduceSub, Int.reduceMul, Int.reducePow, Int.reduceToNat, Int.reduceLT, Int.reduceLE, Int.reduceEq, if_true, if_false, Bool.false_eq_true, decide_true, decide_false, true_and, and_true, Bool.not_true, Bool.not_false, List.set_nil, List.length_set, ne_eq, not_false_eq_true, reduceCtorEq, and_self, List.isEmpty_cons, List.isEmpty_nil, List.length_map, List.set_set, decide_eq_true_eq]
  by_cases hz : b2 = 0
  · simp only [wpSs, wpS, wpE, wpEs, wpO, wpC, wpT, wpTg, wpTs, wpI, wipeU, startU, z_cell, z_slot, z_int, z_bl, z_tup, z_fn, z_lst, z_nil, z_cons, z_opt, z_optu, z_srct, z_srcl, z_bopi, z_bopt, z_bopl, z_bopm, z_add, z_sub, z_mul, z_div, z_mod, z_pow, z_auga, z_augs, z_augd, z_eqii, z_eqss, z_eqbb, z_eqtt, z_eqll, z_ceq, z_cne, z_clt, z_cle, z_cgt, z_cge, z_cin, z_cni, z_int_t, z_trn, z_trb, z_tri, z_trt, z_trl, z_ixt, z_ixl, z_slt, z_sll, z_sls, z_lent, z_lenl, z_abs, z_max, z_min, z_toi, z_tob, z_tut, z_tul, z_lit, z_lil, z_any, z_all, z_sum, z_app, z_set, z_isn, z_isb, z_isi, z_iss, z_ist, z_isl, z_revl, isNon, atI_0, atI_1, atI_2, atI_3, ixN_1, ixN_2, ixN_3, List.map_cons, List.map_nil, List.length_cons, List.length_nil, List.replicate, List.cons_append, List.nil_append, List.append_nil, List.set_cons_zero, List.set_cons_succ, List.getElem?_cons_zero, List.getElem?_cons_succ, Nat.reduceAdd, Nat.reduceSub, Nat.reduceLT, Nat.reduceLeDiff, Nat.reduceEqDiff, Int.reduceNeg, Int.reduceAdd, Int.reduceSub, Int.reduceMul, Int.reducePow, Int.reduceToNat, Int.reduceLT, Int.reduceLE, Int.reduceEq, if_true, if_false, Bool.false_eq_true, decide_true, decide_false, true_and, and_true, Bool.not_true, Bool.not_false, List.set_nil, List.length_set, ne_eq, not_false_eq_true, reduceCtorEq, and_self, List.isEmpty_cons, List.isEmpty_nil, List.length_map, List.set_set, decide_eq_true_eq, hz]
    exact hQ _ (by omega) (by omega)
  · simp only [wpSs, wpS, wpE, wpEs, wpO, wpC, wpT, wpTg, wpTs, wpI, wipeU, startU, z_cell, z_slot, z_int, z_bl, z_tup, z_fn, z_lst, z_nil, z_cons, z_opt, z_optu, z_srct, z_srcl, z_bopi, z_bopt, z_bopl, z_bopm, z_add, z_sub, z_mul, z_div, z_mod, z_pow, z_auga, z_augs, z_augd, z_eqii, z_eqss, z_eqbb, z_eqtt, z_eqll, z_ceq, z_cne, z_clt, z_cle, z_cgt, z_cge, z_cin, z_cni, z_int_t, z_trn, z_trb, z_tri, z_trt, z_trl, z_ixt, z_ixl, z_slt, z_sll, z_sls, z_lent, z_lenl, z_abs, z_max, z_min, z_toi, z_tob, z_tut, z_tul, z_lit, z_lil, z_any, z_all, z_sum, z_app, z_set, z_isn, z_isb, z_isi, z_iss, z_ist, z_isl, z_revl, isNon, atI_0, atI_1, atI_2, atI_3, ixN_1, ixN_2, ixN_3, List.map_cons, List.map_nil, List.length_cons, List.length_nil, List.replicate, List.cons_append, List.nil_append, List.append_nil, List.set_cons_zero, List.set_cons_succ, List.getElem?_cons_zero, List.getElem?_cons_succ, Nat.reduceAdd, Nat.reduceSub, Nat.reduceLT, Nat.reduceLeDiff, Nat.reduceEqDiff, Int.reduceNeg, Int.reduceAdd, Int.reduceSub, Int.reduceMul, Int.reducePow, Int.reduceToNat, Int.reduceLT, Int.reduceLE, Int.reduceEq, if_true, if_false, Bool.false_eq_true, decide_true, decide_false, true_and, and_true, Bool.not_true, Bool.not_false, List.set_nil, List.length_set, ne_eq, not_false_eq_true, reduceCtorEq, and_self, List.isEmpty_cons, List.isEmpty_nil, List.length_map, List.set_set, decide_eq_true_eq, hz]
    have f1 : 0 ≤ a2.fmod b2 := Int.fmod_nonneg_of_pos _ (by omega)
    have f2 : a2.fmod b2 < b2 := Int.fmod_lt_of_pos _ (by omega)
    exact hk _ _ _ (by omega) ⟨rfl, b2, a2.fmod b2, _, rfl, h2, h3, f1, by omega, by left; exact hz, rfl⟩
def spFraction : FSpec := fun us S Q _ => ∃ a b : Int, us = [.int a, .int b] ∧ b ≠ 0 ∧ a.natAbs < 10000000000 ∧ b.natAbs < 10000000000 ∧ ∀ x y : Int, Q (.tup [.int x, .int y]) S
theorem w_fraction (G : Gm) (hC : Has G "_law_common" spCommon) : Pf G n_law_fraction i_law_fraction spFraction := by
  intro us S Q X h
  obtain ⟨a, b, rfl, hb, ha1, hb1, hQ⟩ := h
  obtain ⟨sC, eC, hC⟩ := hC
  simp only [wpSs, wpS, wpE, wpEs, wpO, wpC, wpT, wpTg, wpTs, wpI, wipeU, startU, z_cell, z_slot, z_int, z_bl, z_tup, z_fn, z_lst, z_nil, z_cons, z_opt, z_optu, z_srct, z_srcl, z_bopi, z_bopt, z_bopl, z_bopm, z_add, z_sub, z_mul, z_div, z_mod, z_pow, z_auga, z_augs, z_augd, z_eqii, z_eqss, z_eqbb, z_eqtt, z_eqll, z_ceq, z_cne, z_clt, z_cle, z_cgt, z_cge, z_cin, z_cni, z_int_t, z_trn, z_trb, z_tri, z_trt, z_trl, z_ixt, z_ixl, z_slt, z_sll, z_sls, z_lent, z_lenl, z_abs, z_max, z_min, z_toi, z_tob, z_tut, z_tul, z_lit, z_lil, z_any, z_all, z_sum, z_app, z_set, z_isn, z_isb, z_isi, z_iss, z_ist, z_isl, z_revl, isNon, atI_0, atI_1, atI_2, atI_3, ixN_1, ixN_2, ixN_3, List.map_cons, List.map_nil, List.length_cons, List.length_nil, List.replicate, List.cons_append, List.nil_append, List.append_nil, List.set_cons_zero, List.set_cons_succ, List.getElem?_cons_zero, List.getElem?_cons_succ, Nat.reduceAdd, Nat.reduceSub, Nat.reduceLT, Nat.reduceLeDiff, Nat.reduceEqDiff, Int.reduceNeg, Int.reduceAdd, Int.reduceSub, Int.reduceMul, Int.reducePow, Int.reduceToNat, Int.reduceLT, Int.reduceLE, Int.reduceEq, if_true, if_false, Bool.false_eq_true, decide_true, decide_false, true_and, and_true, Bool.not_true, Bool.not_false, List.set_nil, List.length_set, ne_eq, not_false_eq_true, reduceCtorEq, and_self, List.isEmpty_cons, List.isEmpty_nil, List.length_map, List.set_set, decide_eq_true_eq, n_law_fraction, i_law_fraction, eC]
  refine hC _ _ _ _ ⟨a, b, rfl, hb, ha1, hb1, fun g g0 g1 => ?_⟩
  have hs2 : 2 ≤ sizeLine := by decide
  by_cases hbn : b < 0
  · simp only [wpSs, wpS, wpE, wpEs, wpO, wpC, wpT, wpTg, wpTs, wpI, wipeU, startU, z_cell, z_slot, z_int, z_bl, z_tup, z_fn, z_lst, z_nil, z_cons, z_opt, z_optu, z_srct, z_srcl, z_bopi, z_bopt, z_bopl, z_bopm, z_add, z_sub, z_mul, z_div, z_mod, z_pow, z_auga, z_augs, z_augd, z_eqii, z_eqss, z_eqbb, z_eqtt, z_eqll, z_ceq, z_cne, z_clt, z_cle, z_cgt, z_cge, z_cin, z_cni, z_int_t, z_trn, z_trb, z_tri, z_trt, z_trl, z_ixt, z_ixl, z_slt, z_sll, z_sls, z_lent, z_lenl, z_abs, z_max, z_min, z_toi, z_tob, z_tut, z_tul, z_lit, z_lil, z_any, z_all, z_sum, z_app, z_set, z_isn, z_isb, z_isi, z_iss, z_ist, z_isl, z_revl, isNon, atI_0, atI_1, atI_2, atI_3, ixN_1, ixN_2, ixN_3, List.map_cons, List.map_nil, List.length_cons, List.length_nil, List.replicate, List.cons_append, List.nil_append, List.append_nil, List.set_cons_zero, List.set_cons_succ, List.getElem?_cons_zero, List.getElem?_cons_succ, Nat.reduceAdd, Nat.reduceSub, Nat.reduceLT, Nat.reduceLeDiff, Nat.reduceEqDiff, Int.reduceNeg, Int.reduceAdd, Int.reduceSub, Int.reduceMul, Int.reducePow, Int.reduceToNat, Int.reduceLT, Int.reduceLE, Int.reduceEq, if_true, if_false, Bool.false_eq_true, decide_true, decide_false, true_and, and_true, Bool.not_true, Bool.not_false, List.set_nil, List.length_set, ne_eq, not_false_eq_true, reduceCtorEq, and_self, List.isEmpty_cons, List.isEmpty_nil, List.length_map, List.set_set, decide_eq_true_eq, hbn]
    have hd := div_ok (j := 0 - g) (by omega) (by omega)
    exact ⟨hd, hd, hs2, hQ _ _⟩
  · simp only [wpSs, wpS, wpE, wpEs, wpO, wpC, wpT, wpTg, wpTs, wpI, wipeU, startU, z_cell, z_slot, z_int, z_bl, z_tup, z_fn, z_lst, z_nil, z_cons, z_opt, z_optu, z_srct, z_srcl, z_bopi, z_bopt, z_bopl, z_bopm, z_add, z_sub, z_mul, z_div, z_mod, z_pow, z_auga, z_augs, z_augd, z_eqii, z_eqss, z_eqbb, z_eqtt, z_eqll, z_ceq, z_cne, z_clt, z_cle, z_cgt, z_cge, z_cin, z_cni, z_int_t, z_trn, z_trb, z_tri, z_trt, z_trl, z_ixt, z_ixl, z_slt, z_sll, z_sls, z_lent, z_lenl, z_abs, z_max, z_min, z_toi, z_tob, z_tut, z_tul, z_lit, z_lil, z_any, z_all, z_sum, z_app, z_set, z_isn, z_isb, z_isi, z_iss, z_ist, z_isl, z_revl, isNon, atI_0, atI_1, atI_2, atI_3, ixN_1, ixN_2, ixN_3, List.map_cons, List.map_nil, List.length_cons, List.length_nil, List.replicate, List.cons_append, List.nil_append, List.append_nil, List.set_cons_zero, List.set_cons_succ, List.getElem?_cons_zero, List.getElem?_cons_succ, Nat.reduceAdd, Nat.reduceSub, Nat.reduceLT, Nat.reduceLeDiff, Nat.reduceEqDiff, Int.reduceNeg, Int.reduceAdd, Int.reduceSub, Int.reduceMul, Int.reducePow, Int.reduceToNat, Int.reduceLT, Int.reduceLE, Int.reduceEq, if_true, if_false, Bool.false_eq_true, decide_true, decide_false, true_and, and_true, Bool.not_true, Bool.not_false, List.set_nil, List.length_set, ne_eq, not_false_eq_true, reduceCtorEq, and_self, List.isEmpty_cons, List.isEmpty_nil, List.length_map, List.set_set, decide_eq_true_eq, hbn]
    have hd := div_ok (j := g) (by omega) (by omega)
    exact ⟨hd, hd, hs2, hQ _ _⟩
def zeroU (s : Str) : U := if s == "Q" then .tup [.int 0, .int 1] else if s == "P" then .tup [] else .int 0
def spZero : FSpec := fun us S Q _ => ∃ s r, us = [.tup (.str s :: r)] ∧ Q (zeroU s) S
theorem w_zero (G : Gm) : Pf G n_law_zero i_law_zero spZero := by
  intro us S Q X h
  obtain ⟨s, r, rfl, hQ⟩ := h
  have hs2 : 2 ≤ sizeLine := by decide
  have hs0 : 0 ≤ sizeLine := by decide
  unfold zeroU at hQ
  simp only [wpSs, wpS, wpE, wpEs, wpO, wpC, wpT, wpTg, wpTs, wpI, wipeU, startU, z_cell, z_slot, z_int, z_bl, z_tup, z_fn, z_lst, z_nil, z_cons, z_opt, z_optu, z_srct, z_srcl, z_bopi, z_bopt, z_bopl, z_bopm, z_add, z_sub, z_mul, z_div, z_mod, z_pow, z_auga, z_augs, z_augd, z_eqii, z_eqss, z_eqbb, z_eqtt, z_eqll, z_ceq, z_cne, z_clt, z_cle, z_cgt, z_cge, z_cin, z_cni, z_int_t, z_trn, z_trb, z_tri, z_trt, z_trl, z_ixt, z_ixl, z_slt, z_sll, z_sls, z_lent, z_lenl, z_abs, z_max, z_min, z_toi, z_tob, z_tut, z_tul, z_lit, z_lil, z_any, z_all, z_sum, z_app, z_set, z_isn, z_isb, z_isi, z_iss, z_ist, z_isl, z_revl, isNon, atI_0, atI_1, atI_2, atI_3, ixN_1, ixN_2, ixN_3, List.map_cons, List.map_nil, List.length_cons, List.length_nil, List.replicate, List.cons_append, List.nil_append, List.append_nil, List.set_cons_zero, List.set_cons_succ, List.getElem?_cons_zero, List.getElem?_cons_succ, Nat.reduceAdd, Nat.reduceSub, Nat.reduceLT, Nat.reduceLeDiff, Nat.reduceEqDiff, Int.reduceNeg, Int.reduceAdd, Int.reduceSub, Int.reduceMul, Int.reducePow, Int.reduceToNat, Int.reduceLT, Int.reduceLE, Int.reduceEq, if_true, if_false, Bool.false_eq_true, decide_true, decide_false, true_and, and_true, Bool.not_true, Bool.not_false, List.set_nil, List.length_set, ne_eq, not_false_eq_true, reduceCtorEq, and_self, List.isEmpty_cons, List.isEmpty_nil, List.length_map, List.set_set, decide_eq_true_eq, n_law_zero, i_law_zero]
  by_cases h1 : (s == "Q") = true
  · rw [if_pos h1] at hQ ⊢
    exact ⟨hs2, hQ⟩
  · rw [if_neg h1] at hQ ⊢
    by_cases h2 : (s == "P") = true
    · rw [if_pos h2] at hQ ⊢
      exact ⟨hs0, hQ⟩
    · rw [if_neg h2] at hQ ⊢
      exact hQ
theorem dat_zero (s : Str) : dat 60 (zeroU s) = true := by
  unfold zeroU
  split
  · rfl
  · split <;> rfl
def spStrip : FSpec := fun us S Q _ => ∃ s r p l, us = [.tup (.str s :: r), .lst p] ∧ S[p]? = some (.lst l) ∧ (∀ x ∈ l, dat 60 x = true) ∧ ∀ l2 x, Q (.tup l2) (S ++ [x])
theorem w_strip (G : Gm) (hZ : Has G "_law_zero" spZero) : Pf G n_law_strip i_law_strip spStrip := by
  intro us S Q X h
  obtain ⟨s, r, p, l, rfl, hp, hl, hQ⟩ := h
  obtain ⟨sZ, eZ, hZ⟩ := hZ
  simp only [wpSs, wpS, wpE, wpEs, wpO, wpC, wpT, wpTg, wpTs, wpI, wipeU, startU, z_cell, z_slot, z_int, z_bl, z_tup, z_fn, z_lst, z_nil, z_cons, z_opt, z_optu, z_srct, z_srcl, z_bopi, z_bopt, z_bopl, z_bopm, z_add, z_sub, z_mul, z_div, z_mod, z_pow, z_auga, z_augs, z_augd, z_eqii, z_eqss, z_eqbb, z_eqtt, z_eqll, z_ceq, z_cne, z_clt, z_cle, z_cgt, z_cge, z_cin, z_cni, z_int_t, z_trn, z_trb, z_tri, z_trt, z_trl, z_ixt, z_ixl, z_slt, z_sll, z_sls, z_lent, z_lenl, z_abs, z_max, z_min, z_toi, z_tob, z_tut, z_tul, z_lit, z_lil, z_any, z_all, z_sum, z_app, z_set, z_isn, z_isb, z_isi, z_iss, z_ist, z_isl, z_revl, isNon, atI_0, atI_1, atI_2, atI_3, ixN_1, ixN_2, ixN_3, List.map_cons, List.map_nil, List.length_cons, List.length_nil, List.replicate, List.cons_append, List.nil_append, List.append_nil, List.set_cons_zero, List.set_cons_succ, List.getElem?_cons_zero, List.getElem?_cons_succ, Nat.reduceAdd, Nat.reduceSub, Nat.reduceLT, Nat.reduceLeDiff, Nat.reduceEqDiff, Int.reduceNeg, Int.reduceAdd, Int.reduceSub, Int.reduceMul, Int.reducePow, Int.reduceToNat, Int.reduceLT, Int.reduceLE, Int.reduceEq, if_true, if_false, Bool.false_eq_true, decide_true, decide_false, true_and, and_true, Bool.not_true, Bool.not_false, List.set_nil, List.length_set, ne_eq, not_false_eq_true, reduceCtorEq, and_self, List.isEmpty_cons, List.isEmpty_nil, List.length_map, List.set_set, decide_eq_true_eq, n_law_strip, i_law_strip, hp]
  refine whl_ind (n := l.length) (fun n σ S2 => S2 = S ∧ σ = [some (.tup (.str s :: r)), some (.lst p), some (.int n)] ∧ n ≤ l.length) ⟨rfl, rfl, Nat.le_refl _⟩ ?_
  rintro n σ S2 k ⟨rfl, rfl, hn⟩ hk
  simp only [wpSs, wpS, wpE, wpEs, wpO, wpC, wpT, wpTg, wpTs, wpI, wipeU, startU, z_cell, z_slot, z_int, z_bl, z_tup, z_fn, z_lst, z_nil, z_cons, z_opt, z_optu, z_srct, z_srcl, z_bopi, z_bopt, z_bopl, z_bopm, z_add, z_sub, z_mul, z_div, z_mod, z_pow, z_auga, z_augs, z_augd, z_eqii, z_eqss, z_eqbb, z_eqtt, z_eqll, z_ceq, z_cne, z_clt, z_cle, z_cgt, z_cge, z_cin, z_cni, z_int_t, z_trn, z_trb, z_tri, z_trt, z_trl, z_ixt, z_ixl, z_slt, z_sll, z_sls, z_lent, z_lenl, z_abs, z_max, z_min, z_toi, z_tob, z_tut, z_tul, z_lit, z_lil, z_any, z_all, z_sum, z_app, z_set, z_isn, z_isb, z_isi, z_iss, z_ist, z_isl, z_revl, isNon, atI_0, atI_1, atI_2, atI_3, ixN_1, ixN_2, ixN_3, List.map_cons, List.map_nil, List.length_cons, List.length_nil, List.replicate, List.cons_append, List.nil_append, List.append_nil, List.set_cons_zero, List.set_cons_succ, List.getElem?_cons_zero, List.getElem?_cons_succ, Nat.reduceAdd, Nat.reduceSub, Nat.reduceLT, Nat.reduceLeDiff, Nat.reduceEqDiff, Int.reduceNeg, Int.reduceAdd, Int.reduceSub, Int.reduceMul, Int.reducePow, Int.reduceToNat, Int.reduceLT, Int.reduceLE, Int.reduceEq, if_true, if_false, Bool.false_eq_true, decide_true, decide_false, true_and, and_true, Bool.not_true, Bool.not_false, List.set_nil, List.length_set, ne_eq, not_false_eq_true, reduceCtorEq, and_self, List.isEmpty_cons, List.isEmpty_nil, List.length_map, List.set_set, decide_eq_true_eq, hp]
  by_cases hz : (0 : Int) < n
  · simp only [wpSs, wpS, wpE, wpEs, wpO, wpC, wpT, wpTg, wpTs, wpI, wipeU, startU, z_cell, z_slot, z_int, z_bl, z_tup, z_fn, z_lst, z_nil, z_cons, z_opt, z_optu, z_srct, z_srcl, z_bopi, z_bopt, z_bopl, z_bopm, z_add, z_sub, z_mul, z_div, z_mod, z_pow, z_auga, z_augs, z_augd, z_eqii, z_eqss, z_eqbb, z_eqtt, z_eqll, z_ceq, z_cne, z_clt, z_cle, z_cgt, z_cge, z_cin, z_cni, z_int_t, z_trn, z_trb, z_tri, z_trt, z_trl, z_ixt, z_ixl, z_slt, z_sll, z_sls, z_lent, z_lenl, z_abs, z_max, z_min, z_toi, z_tob, z_tut, z_tul, z_lit, z_lil, z_any, z_all, z_sum, z_app, z_set, z_isn, z_isb, z_isi, z_iss, z_ist, z_isl, z_revl, isNon, atI_0, atI_1, atI_2, atI_3, ixN_1, ixN_2, ixN_3, List.map_cons, List.map_nil, List.length_cons, List.length_nil, List.replicate, List.cons_append, List.nil_append, List.append_nil, List.set_cons_zero, List.set_cons_succ, List.getElem?_cons_zero, List.getElem?_cons_succ, Nat.reduceAdd, Nat.reduceSub, Nat.reduceLT, Nat.reduceLeDiff, Nat.reduceEqDiff, Int.reduceNeg, Int.reduceAdd, Int.reduceSub, Int.reduceMul, Int.reducePow, Int.reduceToNat, Int.reduceLT, Int.reduceLE, Int.reduceEq, if_true, if_false, Bool.false_eq_true, decide_true, decide_false, true_and, and_true, Bool.not_true, Bool.not_false, List.set_nil, List.length_set, ne_eq, not_false_eq_true, reduceCtorEq, and_self, List.isEmpty_cons, List.isEmpty_nil, List.length_map, List.set_set, decide_eq_true_eq, hz]
    have hi : L2.atI l ((n : Int) - 1) = some (l[n - 1]'(by omega)) := by
      rw [show ((n : Int) - 1) = ((n - 1 : Nat) : Int) by omega, _root_.Q.atI_nat, List.getElem?_eq_getElem (by omega)]
    simp only [wpSs, wpS, wpE, wpEs, wpO, wpC, wpT, wpTg, wpTs, wpI, wipeU, startU, z_cell, z_slot, z_int, z_bl, z_tup, z_fn, z_lst, z_nil, z_cons, z_opt, z_optu, z_srct, z_srcl, z_bopi, z_bopt, z_bopl, z_bopm, z_add, z_sub, z_mul, z_div, z_mod, z_pow, z_auga, z_augs, z_augd, z_eqii, z_eqss, z_eqbb, z_eqtt, z_eqll, z_ceq, z_cne, z_clt, z_cle, z_cgt, z_cge, z_cin, z_cni, z_int_t, z_trn, z_trb, z_tri, z_trt, z_trl, z_ixt, z_ixl, z_slt, z_sll, z_sls, z_lent, z_lenl, z_abs, z_max, z_min, z_toi, z_tob, z_tut, z_tul, z_lit, z_lil, z_any, z_all, z_sum, z_app, z_set, z_isn, z_isb, z_isi, z_iss, z_ist, z_isl, z_revl, isNon, atI_0, atI_1, atI_2, atI_3, ixN_1, ixN_2, ixN_3, List.map_cons, List.map_nil, List.length_cons, List.length_nil, List.replicate, List.cons_append, List.nil_append, List.append_nil, List.set_cons_zero, List.set_cons_succ, List.getElem?_cons_zero, List.getElem?_cons_succ, Nat.reduceAdd, Nat.reduceSub, Nat.reduceLT, Nat.reduceLeDiff, Nat.reduceEqDiff, Int.reduceNeg, Int.reduceAdd, Int.reduceSub, Int.reduceMul, Int.reducePow, Int.reduceToNat, Int.reduceLT, Int.reduceLE, Int.reduceEq, if_true, if_false, Bool.false_eq_true, decide_true, decide_false, true_and, and_true, Bool.not_true, Bool.not_false, List.set_nil, List.length_set, ne_eq, not_false_eq_true, reduceCtorEq, and_self, List.isEmpty_cons, List.isEmpty_nil, List.length_map, List.set_set, decide_eq_true_eq, hi, eZ]
    refine hZ _ _ _ _ ⟨s, r, rfl, ?_⟩
    dsimp only
    rw [z_eqd (hl _ (List.getElem_mem _)) (dat_zero s)]
    cases eqv (l[n - 1]'(by omega)) (zeroU s) with
    | true =>
      simp only [wpSs, wpS, wpE, wpEs, wpO, wpC, wpT, wpTg, wpTs, wpI, wipeU, startU, z_cell, z_slot, z_int, z_bl, z_tup, z_fn, z_lst, z_nil, z_cons, z_opt, z_optu, z_srct, z_srcl, z_bopi, z_bopt, z_bopl, z_bopm, z_add, z_sub, z_mul, z_div, z_mod, z_pow, z_auga, z_augs, z_augd, z_eqii, z_eqss, z_eqbb, z_eqtt, z_eqll, z_ceq, z_cne, z_clt, z_cle, z_cgt, z_cge, z_cin, z_cni, z_int_t, z_trn, z_trb, z_tri, z_trt, z_trl, z_ixt, z_ixl, z_slt, z_sll, z_sls, z_lent, z_lenl, z_abs, z_max, z_min, z_toi, z_tob, z_tut, z_tul, z_lit, z_lil, z_any, z_all, z_sum, z_app, z_set, z_isn, z_isb, z_isi, z_iss, z_ist, z_isl, z_revl, isNon, atI_0, atI_1, atI_2, atI_3, ixN_1, ixN_2, ixN_3, List.map_cons, List.map_nil, List.length_cons, List.length_nil, List.replicate, List.cons_append, List.nil_append, List.append_nil, List.set_cons_zero, List.set_cons_succ, List.getElem?_cons_zero, List.getElem?_cons_succ, Nat.reduceAdd, Nat.reduceSub, Nat.reduceLT, Nat.reduceLeDiff, Nat.reduceEqDiff, Int.reduceNeg, Int.reduceAdd, Int.reduceSub, Int.reduceMul, Int.reducePow, Int.reduceToNat, Int.reduceLT, Int.reduceLE, Int.reduceEq, if_true, if_false, Bool.false_eq_true, decide_true, decide_false, true_and, and_true, Bool.not_true, Bool.not_false, List.set_nil, List.length_set, ne_eq, not_false_eq_true, reduceCtorEq, and_self, List.isEmpty_cons, List.isEmpty_nil, List.length_map, List.set_set, decide_eq_true_eq]
      exact hk (n - 1) _ _ (by omega) ⟨rfl, by rw [show ((n : Int) - 1) = ((n - 1 : Nat) : Int) by omega], by omega⟩
    | false =>
      simp only [wpSs, wpS, wpE, wpEs, wpO, wpC, wpT, wpTg, wpTs, wpI, wipeU, startU, z_cell, z_slot, z_int, z_bl, z_tup, z_fn, z_lst, z_nil, z_cons, z_opt, z_optu, z_srct, z_srcl, z_bopi, z_bopt, z_bopl, z_bopm, z_add, z_sub, z_mul, z_div, z_mod, z_pow, z_auga, z_augs, z_augd, z_eqii, z_eqss, z_eqbb, z_eqtt, z_eqll, z_ceq, z_cne, z_clt, z_cle, z_cgt, z_cge, z_cin, z_cni, z_int_t, z_trn, z_trb, z_tri, z_trt, z_trl, z_ixt, z_ixl, z_slt, z_sll, z_sls, z_lent, z_lenl, z_abs, z_max, z_min, z_toi, z_tob, z_tut, z_tul, z_lit, z_lil, z_any, z_all, z_sum, z_app, z_set, z_isn, z_isb, z_isi, z_iss, z_ist, z_isl, z_revl, isNon, atI_0, atI_1, atI_2, atI_3, ixN_1, ixN_2, ixN_3, List.map_cons, List.map_nil, List.length_cons, List.length_nil, List.replicate, List.cons_append, List.nil_append, List.append_nil, List.set_cons_zero, List.set_cons_succ, List.getElem?_cons_zero, List.getElem?_cons_succ, Nat.reduceAdd, Nat.reduceSub, Nat.reduceLT, Nat.reduceLeDiff, Nat.reduceEqDiff, Int.reduceNeg, Int.reduceAdd, Int.reduceSub, Int.reduceMul, Int.reducePow, Int.reduceToNat, Int.reduceLT, Int.reduceLE, Int.reduceEq, if_true, if_false, Bool.false_eq_true, decide_true, decide_false, true_and, and_true, Bool.not_true, Bool.not_false, List.set_nil, List.length_set, ne_eq, not_false_eq_true, reduceCtorEq, and_self, List.isEmpty_cons, List.isEmpty_nil, List.length_map, List.set_set, decide_eq_true_eq, List.getElem?_concat_length, hp]
      exact hQ _ _
  · simp only [wpSs, wpS, wpE, wpEs, wpO, wpC, wpT, wpTg, wpTs, wpI, wipeU, startU, z_cell, z_slot, z_int, z_bl, z_tup, z_fn, z_lst, z_nil, z_cons, z_opt, z_optu, z_srct, z_srcl, z_bopi, z_bopt, z_bopl, z_bopm, z_add, z_sub, z_mul, z_div, z_mod, z_pow, z_auga, z_augs, z_augd, z_eqii, z_eqss, z_eqbb, z_eqtt, z_eqll, z_ceq, z_cne, z_clt, z_cle, z_cgt, z_cge, z_cin, z_cni, z_int_t, z_trn, z_trb, z_tri, z_trt, z_trl, z_ixt, z_ixl, z_slt, z_sll, z_sls, z_lent, z_lenl, z_abs, z_max, z_min, z_toi, z_tob, z_tut, z_tul, z_lit, z_lil, z_any, z_all, z_sum, z_app, z_set, z_isn, z_isb, z_isi, z_iss, z_ist, z_isl, z_revl, isNon, atI_0, atI_1, atI_2, atI_3, ixN_1, ixN_2, ixN_3, List.map_cons, List.map_nil, List.length_cons, List.length_nil, List.replicate, List.cons_append, List.nil_append, List.append_nil, List.set_cons_zero, List.set_cons_succ, List.getElem?_cons_zero, List.getElem?_cons_succ, Nat.reduceAdd, Nat.reduceSub, Nat.reduceLT, Nat.reduceLeDiff, Nat.reduceEqDiff, Int.reduceNeg, Int.reduceAdd, Int.reduceSub, Int.reduceMul, Int.reducePow, Int.reduceToNat, Int.reduceLT, Int.reduceLE, Int.reduceEq, if_true, if_false, Bool.false_eq_true, decide_true, decide_false, true_and, and_true, Bool.not_true, Bool.not_false, List.set_nil, List.length_set, ne_eq, not_false_eq_true, reduceCtorEq, and_self, List.isEmpty_cons, List.isEmpty_nil, List.length_map, List.set_set, decide_eq_true_eq, hz, List.getElem?_concat_length, hp]
    exact hQ _ _

/-! ### domains -/
def IsP (p : Int) : Prop := 1 < p ∧ p ≤ 65521 ∧ ∀ k : Int, 2 ≤ k → k * k ≤ p → p.fmod k ≠ 0
def FieldU (d : U) : Prop := d = .tup [.str "Q"] ∨ ∃ p, d = .tup [.str "F", .int p] ∧ IsP p
def DomU (d : U) : Prop := FieldU d ∨ d = .tup [.str "Z"] ∨ ∃ f, d = .tup [.str "P", f] ∧ FieldU f
theorem FieldU.head {d : U} (h : FieldU d) : ∃ s r, d = .tup (.str s :: r) := by
  rcases h with rfl | ⟨p, rfl, _⟩
  · exact ⟨_, _, rfl⟩
  · exact ⟨_, _, rfl⟩
def spNumber (b : Bool) : FSpec := fun us S Q _ => ∃ d n, us = [d, .int n] ∧ (FieldU d ∨ (b = true ∧ DomU d)) ∧ ∀ v x, (FieldU d → dat 60 v = true) → Q v (S ++ x)
theorem w_number (G : Gm) (b : Bool) (hS : b = true → Has G "_law_strip" spStrip) (hN : b = true → Has G "_law_number" (spNumber false)) : Pf G n_law_number i_law_number (spNumber b) := by
  intro us S Q X h
  obtain ⟨d, n, rfl, hd, hQ⟩ := h
  have hs2 : 2 ≤ sizeLine := by decide
  have hs1 : 1 ≤ sizeLine := by decide
  have main : (d = .tup [.str "Q"] ∨ ∃ p, d = .tup [.str "F", .int p] ∧ p ≠ 0) ∨ (d = .tup [.str "Z"]) ∨ (b = true ∧ ∃ f, d = .tup [.str "P", f] ∧ FieldU f) := by
    rcases hd with (h | ⟨p, h, hp⟩) | ⟨hb, (h | ⟨p, h, hp⟩) | h | ⟨f, h, hf⟩⟩
    · exact .inl (.inl h)
    · exact .inl (.inr ⟨p, h, by have := hp.1; omega⟩)
    · exact .inl (.inl h)
    · exact .inl (.inr ⟨p, h, by have := hp.1; omega⟩)
    · exact .inr (.inl h)
    · exact .inr (.inr ⟨hb, f, h, hf⟩)
  have hQ0 : ∀ v, (FieldU d → dat 60 v = true) → Q v S := fun v h => by
    have := hQ v [] h
    rwa [List.append_nil] at this
  rcases main with (rfl | ⟨p, rfl, hp⟩) | rfl | ⟨hb, f, rfl, hf⟩
  · simp only [wpSs, wpS, wpE, wpEs, wpO, wpC, wpT, wpTg, wpTs, wpI, wipeU, startU, z_cell, z_slot, z_int, z_bl, z_tup, z_fn, z_lst, z_nil, z_cons, z_opt, z_optu, z_srct, z_srcl, z_bopi, z_bopt, z_bopl, z_bopm, z_add, z_sub, z_mul, z_div, z_mod, z_pow, z_auga, z_augs, z_augd, z_eqii, z_eqss, z_eqbb, z_eqtt, z_eqll, z_ceq, z_cne, z_clt, z_cle, z_cgt, z_cge, z_cin, z_cni, z_int_t, z_trn, z_trb, z_tri, z_trt, z_trl, z_ixt, z_ixl, z_slt, z_sll, z_sls, z_lent, z_lenl, z_abs, z_max, z_min, z_toi, z_tob, z_tut, z_tul, z_lit, z_lil, z_any, z_all, z_sum, z_app, z_set, z_isn, z_isb, z_isi, z_iss, z_ist, z_isl, z_revl, isNon, atI_0, atI_1, atI_2, atI_3, ixN_1, ixN_2, ixN_3, List.map_cons, List.map_nil, List.length_cons, List.length_nil, List.replicate, List.cons_append, List.nil_append, List.append_nil, List.set_cons_zero, List.set_cons_succ, List.getElem?_cons_zero, List.getElem?_cons_succ, Nat.reduceAdd, Nat.reduceSub, Nat.reduceLT, Nat.reduceLeDiff, Nat.reduceEqDiff, Int.reduceNeg, Int.reduceAdd, Int.reduceSub, Int.reduceMul, Int.reducePow, Int.reduceToNat, Int.reduceLT, Int.reduceLE, Int.reduceEq, if_true, if_false, Bool.false_eq_true, decide_true, decide_false, true_and, and_true, Bool.not_true, Bool.not_false, List.set_nil, List.length_set, ne_eq, not_false_eq_true, reduceCtorEq, and_self, List.isEmpty_cons, List.isEmpty_nil, List.length_map, List.set_set, decide_eq_true_eq, n_law_number, i_law_number, s_QQ]
    exact ⟨hs2, hQ0 _ fun _ => rfl⟩
  · simp only [wpSs, wpS, wpE, wpEs, wpO, wpC, wpT, wpTg, wpTs, wpI, wipeU, startU, z_cell, z_slot, z_int, z_bl, z_tup, z_fn, z_lst, z_nil, z_cons, z_opt, z_optu, z_srct, z_srcl, z_bopi, z_bopt, z_bopl, z_bopm, z_add, z_sub, z_mul, z_div, z_mod, z_pow, z_auga, z_augs, z_augd, z_eqii, z_eqss, z_eqbb, z_eqtt, z_eqll, z_ceq, z_cne, z_clt, z_cle, z_cgt, z_cge, z_cin, z_cni, z_int_t, z_trn, z_trb, z_tri, z_trt, z_trl, z_ixt, z_ixl, z_slt, z_sll, z_sls, z_lent, z_lenl, z_abs, z_max, z_min, z_toi, z_tob, z_tut, z_tul, z_lit, z_lil, z_any, z_all, z_sum, z_app, z_set, z_isn, z_isb, z_isi, z_iss, z_ist, z_isl, z_revl, isNon, atI_0, atI_1, atI_2, atI_3, ixN_1, ixN_2, ixN_3, List.map_cons, List.map_nil, List.length_cons, List.length_nil, List.replicate, List.cons_append, List.nil_append, List.append_nil, List.set_cons_zero, List.set_cons_succ, List.getElem?_cons_zero, List.getElem?_cons_succ, Nat.reduceAdd, Nat.reduceSub, Nat.reduceLT, Nat.reduceLeDiff, Nat.reduceEqDiff, Int.reduceNeg, Int.reduceAdd, Int.reduceSub, Int.reduceMul, Int.reducePow, Int.reduceToNat, Int.reduceLT, Int.reduceLE, Int.reduceEq, if_true, if_false, Bool.false_eq_true, decide_true, decide_false, true_and, and_true, Bool.not_true, Bool.not_false, List.set_nil, List.length_set, ne_eq, not_false_eq_true, reduceCtorEq, and_self, List.isEmpty_cons, List.isEmpty_nil, List.length_map, List.set_set, decide_eq_true_eq, n_law_number, i_law_number, s_FQ, s_FF]
    exact ⟨hp, hQ0 _ fun _ => rfl⟩
  · simp only [wpSs, wpS, wpE, wpEs, wpO, wpC, wpT, wpTg, wpTs, wpI, wipeU, startU, z_cell, z_slot, z_int, z_bl, z_tup, z_fn, z_lst, z_nil, z_cons, z_opt, z_optu, z_srct, z_srcl, z_bopi, z_bopt, z_bopl, z_bopm, z_add, z_sub, z_mul, z_div, z_mod, z_pow, z_auga, z_augs, z_augd, z_eqii, z_eqss, z_eqbb, z_eqtt, z_eqll, z_ceq, z_cne, z_clt, z_cle, z_cgt, z_cge, z_cin, z_cni, z_int_t, z_trn, z_trb, z_tri, z_trt, z_trl, z_ixt, z_ixl, z_slt, z_sll, z_sls, z_lent, z_lenl, z_abs, z_max, z_min, z_toi, z_tob, z_tut, z_tul, z_lit, z_lil, z_any, z_all, z_sum, z_app, z_set, z_isn, z_isb, z_isi, z_iss, z_ist, z_isl, z_revl, isNon, atI_0, atI_1, atI_2, atI_3, ixN_1, ixN_2, ixN_3, List.map_cons, List.map_nil, List.length_cons, List.length_nil, List.replicate, List.cons_append, List.nil_append, List.append_nil, List.set_cons_zero, List.set_cons_succ, List.getElem?_cons_zero, List.getElem?_cons_succ, Nat.reduceAdd, Nat.reduceSub, Nat.reduceLT, Nat.reduceLeDiff, Nat.reduceEqDiff, Int.reduceNeg, Int.reduceAdd, Int.reduceSub, Int.reduceMul, Int.reducePow, Int.reduceToNat, Int.reduceLT, Int.reduceLE, Int.reduceEq, if_true, if_false, Bool.false_eq_true, decide_true, decide_false, true_and, and_true, Bool.not_true, Bool.not_false, List.set_nil, List.length_set, ne_eq, not_false_eq_true, reduceCtorEq, and_self, List.isEmpty_cons, List.isEmpty_nil, List.length_map, List.set_set, decide_eq_true_eq, n_law_number, i_law_number, s_ZQ, s_ZF, s_ZP]
    exact hQ0 _ fun _ => rfl
  · obtain ⟨sS, eS, hS⟩ := hS hb
    obtain ⟨sN, eN, hN⟩ := hN hb
    simp only [wpSs, wpS, wpE, wpEs, wpO, wpC, wpT, wpTg, wpTs, wpI, wipeU, startU, z_cell, z_slot, z_int, z_bl, z_tup, z_fn, z_lst, z_nil, z_cons, z_opt, z_optu, z_srct, z_srcl, z_bopi, z_bopt, z_bopl, z_bopm, z_add, z_sub, z_mul, z_div, z_mod, z_pow, z_auga, z_augs, z_augd, z_eqii, z_eqss, z_eqbb, z_eqtt, z_eqll, z_ceq, z_cne, z_clt, z_cle, z_cgt, z_cge, z_cin, z_cni, z_int_t, z_trn, z_trb, z_tri, z_trt, z_trl, z_ixt, z_ixl, z_slt, z_sll, z_sls, z_lent, z_lenl, z_abs, z_max, z_min, z_toi, z_tob, z_tut, z_tul, z_lit, z_lil, z_any, z_all, z_sum, z_app, z_set, z_isn, z_isb, z_isi, z_iss, z_ist, z_isl, z_revl, isNon, atI_0, atI_1, atI_2, atI_3, ixN_1, ixN_2, ixN_3, List.map_cons, List.map_nil, List.length_cons, List.length_nil, List.replicate, List.cons_append, List.nil_append, List.append_nil, List.set_cons_zero, List.set_cons_succ, List.getElem?_cons_zero, List.getElem?_cons_succ, Nat.reduceAdd, Nat.reduceSub, Nat.reduceLT, Nat.reduceLeDiff, Nat.reduceEqDiff, Int.reduceNeg, Int.reduceAdd, Int.reduceSub, Int.reduceMul, Int.reducePow, Int.reduceToNat, Int.reduceLT, Int.reduceLE, Int.reduceEq, if_true, if_false, Bool.false_eq_true, decide_true, decide_false, true_and, and_true, Bool.not_true, Bool.not_false, List.set_nil, List.length_set, ne_eq, not_false_eq_true, reduceCtorEq, and_self, List.isEmpty_cons, List.isEmpty_nil, List.length_map, List.set_set, decide_eq_true_eq, n_law_number, i_law_number, s_PQ, s_PF, s_PP, eS, eN]
    refine hN _ _ _ _ ⟨f, n, rfl, .inl hf, fun v x hv => ?_⟩
    refine ⟨hs1, hS _ _ _ _ ?_⟩
    obtain ⟨s, r, rfl⟩ := hf.head
    refine ⟨s, r, _, [v], rfl, by rw [List.getElem?_concat_length], fun z hz => ?_, fun l2 y => ?_⟩
    · rw [List.mem_singleton.1 hz]; exact hv hf
    · have := hQ (.tup l2) (x ++ [.lst [v]] ++ [y]) (fun hF => by
        rcases hF with h | ⟨p, h, _⟩
        · simp at h
        · simp at h)
      simpa using this
/-- the least prime from 2 on -/
theorem IsP.top : IsP 65521 := by
  refine ⟨by decide, by decide, fun k h2 hk => ?_⟩
  have hk2 : k < 256 := by
    apply Int.lt_of_not_ge
    intro h
    have : 256 * 256 ≤ k * k := Int.mul_le_mul h h (by decide) (by omega)
    omega
  obtain ⟨n, rfl⟩ := Int.eq_ofNat_of_zero_le (show 0 ≤ k by omega)
  have : ∀ n : Nat, n < 256 → 2 ≤ n → (65521 : Int).fmod n ≠ 0 := by decide +kernel
  exact this n (by omega) (by omega)
def spPrime : FSpec := fun us S Q _ => ∃ c m, us = [.lst c] ∧ Cs S c m ∧ m < 1000000 ∧ ∀ p S2, IsP p → Ext c S S2 → Cs S2 c (m + 1) → Q (.int p) S2
theorem bls_of {bs : List Bool} : blsU (bs.map U.bl) = some bs := by
  induction bs with
  | nil => rfl
  | cons b r ih => show (blsU (r.map U.bl)).map (b :: ·) = _; rw [ih]; rfl
theorem rng_drop {lo : Int} {n j : Nat} {u : U} {us : List U} (h : u :: us = (rngL lo n).drop j) : j < n ∧ u = .int (lo + j) ∧ us = (rngL lo n).drop (j + 1) := by
  have hl : (rngL lo n).length = n := by simp [rngL]
  have hj : j < n := by
    apply Nat.lt_of_not_le
    intro hh
    rw [List.drop_eq_nil_of_le (by omega)] at h
    cases h
  rw [List.drop_eq_getElem_cons (by omega)] at h
  injection h with h1 h2
  refine ⟨hj, ?_, h2⟩
  rw [h1]
  simp [rngL]
theorem w_prime (G : Gm) (hT : Has G "_law_take" spTake) : Pf G n_law_some_prime i_law_some_prime spPrime := by
  intro us S Q X h
  obtain ⟨c, m, rfl, hC, hm, hQ⟩ := h
  obtain ⟨sT, eT, hT⟩ := hT
  simp only [wpSs, wpS, wpE, wpEs, wpO, wpC, wpT, wpTg, wpTs, wpI, wipeU, startU, z_cell, z_slot, z_int, z_bl, z_tup, z_fn, z_lst, z_nil, z_cons, z_opt, z_optu, z_srct, z_srcl, z_bopi, z_bopt, z_bopl, z_bopm, z_add, z_sub, z_mul, z_div, z_mod, z_pow, z_auga, z_augs, z_augd, z_eqii, z_eqss, z_eqbb, z_eqtt, z_eqll, z_ceq, z_cne, z_clt, z_cle, z_cgt, z_cge, z_cin, z_cni, z_int_t, z_trn, z_trb, z_tri, z_trt, z_trl, z_ixt, z_ixl, z_slt, z_sll, z_sls, z_lent, z_lenl, z_abs, z_max, z_min, z_toi, z_tob, z_tut, z_tul, z_lit, z_lil, z_any, z_all, z_sum, z_app, z_set, z_isn, z_isb, z_isi, z_iss, z_ist, z_isl, z_revl, isNon, atI_0, atI_1, atI_2, atI_3, ixN_1, ixN_2, ixN_3, List.map_cons, List.map_nil, List.length_cons, List.length_nil, List.replicate, List.cons_append, List.nil_append, List.append_nil, List.set_cons_zero, List.set_cons_succ, List.getElem?_cons_zero, List.getElem?_cons_succ, Nat.reduceAdd, Nat.reduceSub, Nat.reduceLT, Nat.reduceLeDiff, Nat.reduceEqDiff, Int.reduceNeg, Int.reduceAdd, Int.reduceSub, Int.reduceMul, Int.reducePow, Int.reduceToNat, Int.reduceLT, Int.reduceLE, Int.reduceEq, if_true, if_false, Bool.false_eq_true, decide_true, decide_false, true_and, and_true, Bool.not_true, Bool.not_false, List.set_nil, List.length_set, ne_eq, not_false_eq_true, reduceCtorEq, and_self, List.isEmpty_cons, List.isEmpty_nil, List.length_map, List.set_set, decide_eq_true_eq, n_law_some_prime, i_law_some_prime, eT]
  refine hT _ _ _ _ ⟨c, 65520, m, rfl, by decide, by decide, hC, hm, fun dg S2 d0 d1 e2 c2 => ?_⟩
  refine whl_ind (n := (65521 - (2 + dg)).toNat) (fun n σ S3 => ∃ p : Int, ∃ o : Option U, σ = [some (.lst c), some (.int p), o] ∧ 2 ≤ p ∧ p ≤ 65521 ∧ n = (65521 - p).toNat ∧ Ext c S S3 ∧ Cs S3 c (m + 1)) ⟨_, _, rfl, by omega, by omega, rfl, e2, c2⟩ ?_
  rintro n σ S3 k ⟨p, o, rfl, h0, h1, rfl, e3, c3⟩ hk
  have hr : (-(2 ^ 62) ≤ (2 : Int) ∧ (2 : Int) < 2 ^ 62 ∧ -(2 ^ 62) ≤ (257 : Int) ∧ (257 : Int) < 2 ^ 62) := by decide
  simp only [wpSs, wpS, wpE, wpEs, wpO, wpC, wpT, wpTg, wpTs, wpI, wipeU, startU, z_cell, z_slot, z_int, z_bl, z_tup, z_fn, z_lst, z_nil, z_cons, z_opt, z_optu, z_srct, z_srcl, z_bopi, z_bopt, z_bopl, z_bopm, z_add, z_sub, z_mul, z_div, z_mod, z_pow, z_auga, z_augs, z_augd, z_eqii, z_eqss, z_eqbb, z_eqtt, z_eqll, z_ceq, z_cne, z_clt, z_cle, z_cgt, z_cge, z_cin, z_cni, z_int_t, z_trn, z_trb, z_tri, z_trt, z_trl, z_ixt, z_ixl, z_slt, z_sll, z_sls, z_lent, z_lenl, z_abs, z_max, z_min, z_toi, z_tob, z_tut, z_tul, z_lit, z_lil, z_any, z_all, z_sum, z_app, z_set, z_isn, z_isb, z_isi, z_iss, z_ist, z_isl, z_revl, isNon, atI_0, atI_1, atI_2, atI_3, ixN_1, ixN_2, ixN_3, List.map_cons, List.map_nil, List.length_cons, List.length_nil, List.replicate, List.cons_append, List.nil_append, List.append_nil, List.set_cons_zero, List.set_cons_succ, List.getElem?_cons_zero, List.getElem?_cons_succ, Nat.reduceAdd, Nat.reduceSub, Nat.reduceLT, Nat.reduceLeDiff, Nat.reduceEqDiff, Int.reduceNeg, Int.reduceAdd, Int.reduceSub, Int.reduceMul, Int.reducePow, Int.reduceToNat, Int.reduceLT, Int.reduceLE, Int.reduceEq, if_true, if_false, Bool.false_eq_true, decide_true, decide_false, true_and, and_true, Bool.not_true, Bool.not_false, List.set_nil, List.length_set, ne_eq, not_false_eq_true, reduceCtorEq, and_self, List.isEmpty_cons, List.isEmpty_nil, List.length_map, List.set_set, decide_eq_true_eq, hr]
  refine lcL_ind (fun us acc S4 => S4 = S3 ∧ ∃ j : Nat, j ≤ 255 ∧ us = (rngL 2 255).drop j ∧ ∃ bs : List Bool, acc = bs.map U.bl ∧ bs.length ≤ j ∧ (∀ i : Int, 2 ≤ i → i < 2 + j → i * i ≤ p → (p.fmod i = 0 → bs.any id = true)) ∧ (bs.any id = true → ∃ i : Int, 2 ≤ i ∧ i * i ≤ p ∧ p.fmod i = 0)) ?_ ?_ ?_ _ _ _ ⟨rfl, 0, by omega, rfl, [], rfl, by decide, fun i _ _ => by omega, fun h => by cases h⟩
  · intro us acc S4 h; trivial
  · rintro acc S4 ⟨rfl, j, hj, hu, bs, rfl, hbl, f1, f2⟩
    have hj2 : j = 255 := by
      have := congrArg List.length hu
      simp [rngL] at this
      omega
    subst hj2
    simp only [wpSs, wpS, wpE, wpEs, wpO, wpC, wpT, wpTg, wpTs, wpI, wipeU, startU, z_cell, z_slot, z_int, z_bl, z_tup, z_fn, z_lst, z_nil, z_cons, z_opt, z_optu, z_srct, z_srcl, z_bopi, z_bopt, z_bopl, z_bopm, z_add, z_sub, z_mul, z_div, z_mod, z_pow, z_auga, z_augs, z_augd, z_eqii, z_eqss, z_eqbb, z_eqtt, z_eqll, z_ceq, z_cne, z_clt, z_cle, z_cgt, z_cge, z_cin, z_cni, z_int_t, z_trn, z_trb, z_tri, z_trt, z_trl, z_ixt, z_ixl, z_slt, z_sll, z_sls, z_lent, z_lenl, z_abs, z_max, z_min, z_toi, z_tob, z_tut, z_tul, z_lit, z_lil, z_any, z_all, z_sum, z_app, z_set, z_isn, z_isb, z_isi, z_iss, z_ist, z_isl, z_revl, isNon, atI_0, atI_1, atI_2, atI_3, ixN_1, ixN_2, ixN_3, List.map_cons, List.map_nil, List.length_cons, List.length_nil, List.replicate, List.cons_append, List.nil_append, List.append_nil, List.set_cons_zero, List.set_cons_succ, List.getElem?_cons_zero, List.getElem?_cons_succ, Nat.reduceAdd, Nat.reduceSub, Nat.reduceLT, Nat.reduceLeDiff, Nat.reduceEqDiff, Int.reduceNeg, Int.reduceAdd, Int.reduceSub, Int.reduceMul, Int.reducePow, Int.reduceToNat, Int.reduceLT, Int.reduceLE, Int.reduceEq, if_true, if_false, Bool.false_eq_true, decide_true, decide_false, true_and, and_true, Bool.not_true, Bool.not_false, List.set_nil, List.length_set, ne_eq, not_false_eq_true, reduceCtorEq, and_self, List.isEmpty_cons, List.isEmpty_nil, List.length_map, List.set_set, decide_eq_true_eq, List.getElem?_concat_length, bls_of]
    cases hb : bs.any id with
    | true =>
      simp only [wpSs, wpS, wpE, wpEs, wpO, wpC, wpT, wpTg, wpTs, wpI, wipeU, startU, z_cell, z_slot, z_int, z_bl, z_tup, z_fn, z_lst, z_nil, z_cons, z_opt, z_optu, z_srct, z_srcl, z_bopi, z_bopt, z_bopl, z_bopm, z_add, z_sub, z_mul, z_div, z_mod, z_pow, z_auga, z_augs, z_augd, z_eqii, z_eqss, z_eqbb, z_eqtt, z_eqll, z_ceq, z_cne, z_clt, z_cle, z_cgt, z_cge, z_cin, z_cni, z_int_t, z_trn, z_trb, z_tri, z_trt, z_trl, z_ixt, z_ixl, z_slt, z_sll, z_sls, z_lent, z_lenl, z_abs, z_max, z_min, z_toi, z_tob, z_tut, z_tul, z_lit, z_lil, z_any, z_all, z_sum, z_app, z_set, z_isn, z_isb, z_isi, z_iss, z_ist, z_isl, z_revl, isNon, atI_0, atI_1, atI_2, atI_3, ixN_1, ixN_2, ixN_3, List.map_cons, List.map_nil, List.length_cons, List.length_nil, List.replicate, List.cons_append, List.nil_append, List.append_nil, List.set_cons_zero, List.set_cons_succ, List.getElem?_cons_zero, List.getElem?_cons_succ, Nat.reduceAdd, Nat.reduceSub, Nat.reduceLT, Nat.reduceLeDiff, Nat.reduceEqDiff, Int.reduceNeg, Int.reduceAdd, Int.reduceSub, Int.reduceMul, Int.reducePow, Int.reduceToNat, Int.reduceLT, Int.reduceLE, Int.reduceEq, if_true, if_false, Bool.false_eq_true, decide_true, decide_false, true_and, and_true, Bool.not_true, Bool.not_false, List.set_nil, List.length_set, ne_eq, not_false_eq_true, reduceCtorEq, and_self, List.isEmpty_cons, List.isEmpty_nil, List.length_map, List.set_set, decide_eq_true_eq]
      obtain ⟨i, i2, i3, i4⟩ := f2 hb
      have : p ≠ 65521 := by
        rintro rfl
        exact IsP.top.2.2 i i2 i3 i4
      exact hk (65521 - (p + 1)).toNat _ _ (by omega) ⟨p + 1, _, rfl, by omega, by omega, by omega, e3.trans (Ext.push _ _ _), c3.push _⟩
    | false =>
      simp only [wpSs, wpS, wpE, wpEs, wpO, wpC, wpT, wpTg, wpTs, wpI, wipeU, startU, z_cell, z_slot, z_int, z_bl, z_tup, z_fn, z_lst, z_nil, z_cons, z_opt, z_optu, z_srct, z_srcl, z_bopi, z_bopt, z_bopl, z_bopm, z_add, z_sub, z_mul, z_div, z_mod, z_pow, z_auga, z_augs, z_augd, z_eqii, z_eqss, z_eqbb, z_eqtt, z_eqll, z_ceq, z_cne, z_clt, z_cle, z_cgt, z_cge, z_cin, z_cni, z_int_t, z_trn, z_trb, z_tri, z_trt, z_trl, z_ixt, z_ixl, z_slt, z_sll, z_sls, z_lent, z_lenl, z_abs, z_max, z_min, z_toi, z_tob, z_tut, z_tul, z_lit, z_lil, z_any, z_all, z_sum, z_app, z_set, z_isn, z_isb, z_isi, z_iss, z_ist, z_isl, z_revl, isNon, atI_0, atI_1, atI_2, atI_3, ixN_1, ixN_2, ixN_3, List.map_cons, List.map_nil, List.length_cons, List.length_nil, List.replicate, List.cons_append, List.nil_append, List.append_nil, List.set_cons_zero, List.set_cons_succ, List.getElem?_cons_zero, List.getElem?_cons_succ, Nat.reduceAdd, Nat.reduceSub, Nat.reduceLT, Nat.reduceLeDiff, Nat.reduceEqDiff, Int.reduceNeg, Int.reduceAdd, Int.reduceSub, Int.reduceMul, Int.reducePow, Int.reduceToNat, Int.reduceLT, Int.reduceLE, Int.reduceEq, if_true, if_false, Bool.false_eq_true, decide_true, decide_false, true_and, and_true, Bool.not_true, Bool.not_false, List.set_nil, List.length_set, ne_eq, not_false_eq_true, reduceCtorEq, and_self, List.isEmpty_cons, List.isEmpty_nil, List.length_map, List.set_set, decide_eq_true_eq]
      refine hQ p _ ⟨by omega, by omega, fun i i2 i3 i4 => ?_⟩ (e3.trans (Ext.push _ _ _)) (c3.push _)
      have hi : i < 257 := by
        apply Int.lt_of_not_ge
        intro h
        have : 257 * 257 ≤ i * i := Int.mul_le_mul h h (by decide) (by omega)
        omega
      have := f1 i i2 (by omega) i3 i4
      rw [hb] at this
      cases this
  · rintro u us acc S4 k2 ⟨rfl, j, hj, hu, bs, rfl, hbl, f1, f2⟩ ks kn
    obtain ⟨j1, rfl, hus⟩ := rng_drop hu
    have hz : (2 + (j : Int)) ≠ 0 := by omega
    have ml : (2 + (j : Int)).natAbs.log2 + (2 + (j : Int)).natAbs.log2 < 1000000 := mul_ok (by omega) (by omega)
    have hsz : bs.length < sizeLine := Nat.lt_of_lt_of_le (show bs.length < 256 by omega) (by decide)
    simp only [wpSs, wpS, wpE, wpEs, wpO, wpC, wpT, wpTg, wpTs, wpI, wipeU, startU, z_cell, z_slot, z_int, z_bl, z_tup, z_fn, z_lst, z_nil, z_cons, z_opt, z_optu, z_srct, z_srcl, z_bopi, z_bopt, z_bopl, z_bopm, z_add, z_sub, z_mul, z_div, z_mod, z_pow, z_auga, z_augs, z_augd, z_eqii, z_eqss, z_eqbb, z_eqtt, z_eqll, z_ceq, z_cne, z_clt, z_cle, z_cgt, z_cge, z_cin, z_cni, z_int_t, z_trn, z_trb, z_tri, z_trt, z_trl, z_ixt, z_ixl, z_slt, z_sll, z_sls, z_lent, z_lenl, z_abs, z_max, z_min, z_toi, z_tob, z_tut, z_tul, z_lit, z_lil, z_any, z_all, z_sum, z_app, z_set, z_isn, z_isb, z_isi, z_iss, z_ist, z_isl, z_revl, isNon, atI_0, atI_1, atI_2, atI_3, ixN_1, ixN_2, ixN_3, List.map_cons, List.map_nil, List.length_cons, List.length_nil, List.replicate, List.cons_append, List.nil_append, List.append_nil, List.set_cons_zero, List.set_cons_succ, List.getElem?_cons_zero, List.getElem?_cons_succ, Nat.reduceAdd, Nat.reduceSub, Nat.reduceLT, Nat.reduceLeDiff, Nat.reduceEqDiff, Int.reduceNeg, Int.reduceAdd, Int.reduceSub, Int.reduceMul, Int.reducePow, Int.reduceToNat, Int.reduceLT, Int.reduceLE, Int.reduceEq, if_true, if_false, Bool.false_eq_true, decide_true, decide_false, true_and, and_true, Bool.not_true, Bool.not_false, List.set_nil, List.length_set, ne_eq, not_false_eq_true, reduceCtorEq, and_self, List.isEmpty_cons, List.isEmpty_nil, List.length_map, List.set_set, decide_eq_true_eq]
    refine ⟨ml, ?_⟩
    split
    · rename_i hsq
      refine ⟨hz, ks _ _ (by simpa using hsz) ⟨rfl, j + 1, by omega, hus, bs ++ [decide (p.fmod (2 + (j : Int)) = 0)], by simp, by simp; omega, fun i i2 i3 i4 i5 => ?_, fun h => ?_⟩⟩
      · rw [List.any_append]
        by_cases hi : i < 2 + j
        · rw [f1 i i2 hi i4 i5]; rfl
        · have : i = 2 + j := by omega
          subst this
          simp [i5]
      · rw [List.any_append] at h
        by_cases hb : bs.any id = true
        · exact f2 hb
        · rw [Bool.eq_false_iff.2 hb] at h
          exact ⟨2 + j, by omega, hsq, by simpa using h⟩
    · rename_i hsq
      refine kn _ ⟨rfl, j + 1, by omega, hus, bs, rfl, by omega, fun i i2 i3 i4 i5 => ?_, f2⟩
      by_cases hi : i < 2 + j
      · exact f1 i i2 hi i4 i5
      · have : i = 2 + j := by omega
        subst this
        exact absurd i4 hsq

theorem isp_list : ∀ p ∈ [2, 3, 5, 7, 11, 101], IsP p := by
  have h : ∀ (p : Nat), p ∈ [2, 3, 5, 7, 11, 101] → 1 < p ∧ p ≤ 65521 ∧ ∀ k : Nat, k < 11 → 2 ≤ k → k * k ≤ p → (p : Int).fmod k ≠ 0 := by decide +kernel
  intro p hp
  have hp0 : 2 ≤ p ∧ p ≤ 101 := by
    simp at hp
    omega
  obtain ⟨n, rfl⟩ := Int.eq_ofNat_of_zero_le (show 0 ≤ p by omega)
  obtain ⟨h1, h2, h3⟩ := h n (by simp at hp ⊢; omega)
  refine ⟨by omega, by omega, fun k k2 k3 => ?_⟩
  have hk : k < 11 := by
    apply Int.lt_of_not_ge
    intro h
    have : 11 * 11 ≤ k * k := Int.mul_le_mul h h (by decide) (by omega)
    omega
  obtain ⟨j, rfl⟩ := Int.eq_ofNat_of_zero_le (show 0 ≤ k by omega)
  refine h3 j (by omega) (by omega) ?_
  have : ((j * j : Nat) : Int) ≤ n := by rw [Int.natCast_mul]; exact k3
  omega
def spField : FSpec := fun us S Q _ => ∃ c m, us = [.lst c] ∧ Cs S c m ∧ m < 999990 ∧ ∀ d S2, FieldU d → Ext c S S2 → Cs S2 c (m + 2) → Q d S2
theorem w_field (G : Gm) (hT : Has G "_law_take" spTake) (hP : Has G "_law_some_prime" spPrime) : Pf G n_law_field i_law_field spField := by
  intro us S Q X h
  obtain ⟨c, m, rfl, hC, hm, hQ⟩ := h
  obtain ⟨sT, eT, hT⟩ := hT
  obtain ⟨sP, eP, hP⟩ := hP
  have hs : 7 ≤ sizeLine ∧ 2 ≤ sizeLine ∧ 1 ≤ sizeLine := by decide
  simp only [wpSs, wpS, wpE, wpEs, wpO, wpC, wpT, wpTg, wpTs, wpI, wipeU, startU, z_cell, z_slot, z_int, z_bl, z_tup, z_fn, z_lst, z_nil, z_cons, z_opt, z_optu, z_srct, z_srcl, z_bopi, z_bopt, z_bopl, z_bopm, z_add, z_sub, z_mul, z_div, z_mod, z_pow, z_auga, z_augs, z_augd, z_eqii, z_eqss, z_eqbb, z_eqtt, z_eqll, z_ceq, z_cne, z_clt, z_cle, z_cgt, z_cge, z_cin, z_cni, z_int_t, z_trn, z_trb, z_tri, z_trt, z_trl, z_ixt, z_ixl, z_slt, z_sll, z_sls, z_lent, z_lenl, z_abs, z_max, z_min, z_toi, z_tob, z_tut, z_tul, z_lit, z_lil, z_any, z_all, z_sum, z_app, z_set, z_isn, z_isb, z_isi, z_iss, z_ist, z_isl, z_revl, isNon, atI_0, atI_1, atI_2, atI_3, ixN_1, ixN_2, ixN_3, List.map_cons, List.map_nil, List.length_cons, List.length_nil, List.replicate, List.cons_append, List.nil_append, List.append_nil, List.set_cons_zero, List.set_cons_succ, List.getElem?_cons_zero, List.getElem?_cons_succ, Nat.reduceAdd, Nat.reduceSub, Nat.reduceLT, Nat.reduceLeDiff, Nat.reduceEqDiff, Int.reduceNeg, Int.reduceAdd, Int.reduceSub, Int.reduceMul, Int.reducePow, Int.reduceToNat, Int.reduceLT, Int.reduceLE, Int.reduceEq, if_true, if_false, Bool.false_eq_true, decide_true, decide_false, true_and, and_true, Bool.not_true, Bool.not_false, List.set_nil, List.length_set, ne_eq, not_false_eq_true, reduceCtorEq, and_self, List.isEmpty_cons, List.isEmpty_nil, List.length_map, List.set_set, decide_eq_true_eq, n_law_field, i_law_field, eT, eP, hs]
  refine hT _ _ _ _ ⟨c, 14, m, rfl, by decide, by decide, hC.push _, by omega, fun dg S2 d0 d1 e2 c2 => ?_⟩
  have hl := e2.new hC.lt
  have e2 := (Ext.push c S _).trans e2
  simp only [wpSs, wpS, wpE, wpEs, wpO, wpC, wpT, wpTg, wpTs, wpI, wipeU, startU, z_cell, z_slot, z_int, z_bl, z_tup, z_fn, z_lst, z_nil, z_cons, z_opt, z_optu, z_srct, z_srcl, z_bopi, z_bopt, z_bopl, z_bopm, z_add, z_sub, z_mul, z_div, z_mod, z_pow, z_auga, z_augs, z_augd, z_eqii, z_eqss, z_eqbb, z_eqtt, z_eqll, z_ceq, z_cne, z_clt, z_cle, z_cgt, z_cge, z_cin, z_cni, z_int_t, z_trn, z_trb, z_tri, z_trt, z_trl, z_ixt, z_ixl, z_slt, z_sll, z_sls, z_lent, z_lenl, z_abs, z_max, z_min, z_toi, z_tob, z_tut, z_tul, z_lit, z_lil, z_any, z_all, z_sum, z_app, z_set, z_isn, z_isb, z_isi, z_iss, z_ist, z_isl, z_revl, isNon, atI_0, atI_1, atI_2, atI_3, ixN_1, ixN_2, ixN_3, List.map_cons, List.map_nil, List.length_cons, List.length_nil, List.replicate, List.cons_append, List.nil_append, List.append_nil, List.set_cons_zero, List.set_cons_succ, List.getElem?_cons_zero, List.getElem?_cons_succ, Nat.reduceAdd, Nat.reduceSub, Nat.reduceLT, Nat.reduceLeDiff, Nat.reduceEqDiff, Int.reduceNeg, Int.reduceAdd, Int.reduceSub, Int.reduceMul, Int.reducePow, Int.reduceToNat, Int.reduceLT, Int.reduceLE, Int.reduceEq, if_true, if_false, Bool.false_eq_true, decide_true, decide_false, true_and, and_true, Bool.not_true, Bool.not_false, List.set_nil, List.length_set, ne_eq, not_false_eq_true, reduceCtorEq, and_self, List.isEmpty_cons, List.isEmpty_nil, List.length_map, List.set_set, decide_eq_true_eq]
  by_cases h4 : dg < 4
  · rw [if_pos h4]
    exact hQ _ _ (.inl rfl) e2 (c2.mono (by omega))
  · rw [if_neg h4]
    by_cases h10 : 10 < dg
    · rw [if_pos h10]
      refine hP _ _ _ _ ⟨c, m + 1, rfl, c2, by omega, fun p S3 hp e3 c3 => hQ _ _ (.inr ⟨p, rfl, hp⟩) (e2.trans e3) c3⟩
    · rw [if_neg h10]
      simp only [wpSs, wpS, wpE, wpEs, wpO, wpC, wpT, wpTg, wpTs, wpI, wipeU, startU, z_cell, z_slot, z_int, z_bl, z_tup, z_fn, z_lst, z_nil, z_cons, z_opt, z_optu, z_srct, z_srcl, z_bopi, z_bopt, z_bopl, z_bopm, z_add, z_sub, z_mul, z_div, z_mod, z_pow, z_auga, z_augs, z_augd, z_eqii, z_eqss, z_eqbb, z_eqtt, z_eqll, z_ceq, z_cne, z_clt, z_cle, z_cgt, z_cge, z_cin, z_cni, z_int_t, z_trn, z_trb, z_tri, z_trt, z_trl, z_ixt, z_ixl, z_slt, z_sll, z_sls, z_lent, z_lenl, z_abs, z_max, z_min, z_toi, z_tob, z_tut, z_tul, z_lit, z_lil, z_any, z_all, z_sum, z_app, z_set, z_isn, z_isb, z_isi, z_iss, z_ist, z_isl, z_revl, isNon, atI_0, atI_1, atI_2, atI_3, ixN_1, ixN_2, ixN_3, List.map_cons, List.map_nil, List.length_cons, List.length_nil, List.replicate, List.cons_append, List.nil_append, List.append_nil, List.set_cons_zero, List.set_cons_succ, List.getElem?_cons_zero, List.getElem?_cons_succ, Nat.reduceAdd, Nat.reduceSub, Nat.reduceLT, Nat.reduceLeDiff, Nat.reduceEqDiff, Int.reduceNeg, Int.reduceAdd, Int.reduceSub, Int.reduceMul, Int.reducePow, Int.reduceToNat, Int.reduceLT, Int.reduceLE, Int.reduceEq, if_true, if_false, Bool.false_eq_true, decide_true, decide_false, true_and, and_true, Bool.not_true, Bool.not_false, List.set_nil, List.length_set, ne_eq, not_false_eq_true, reduceCtorEq, and_self, List.isEmpty_cons, List.isEmpty_nil, List.length_map, List.set_set, decide_eq_true_eq, hl]
      have : dg = 4 ∨ dg = 5 ∨ dg = 6 ∨ dg = 7 ∨ dg = 8 ∨ dg = 9 ∨ dg = 10 := by omega
      rcases this with rfl | rfl | rfl | rfl | rfl | rfl | rfl
      · exact hQ _ _ (.inr ⟨2, rfl, isp_list _ (by simp)⟩) e2 (c2.mono (by omega))
      · exact hQ _ _ (.inr ⟨3, rfl, isp_list _ (by simp)⟩) e2 (c2.mono (by omega))
      · exact hQ _ _ (.inr ⟨5, rfl, isp_list _ (by simp)⟩) e2 (c2.mono (by omega))
      · exact hQ _ _ (.inr ⟨7, rfl, isp_list _ (by simp)⟩) e2 (c2.mono (by omega))
      · exact hQ _ _ (.inr ⟨11, rfl, isp_list _ (by simp)⟩) e2 (c2.mono (by omega))
      · exact hQ _ _ (.inr ⟨101, rfl, isp_list _ (by simp)⟩) e2 (c2.mono (by omega))
      · exact hQ _ _ (.inr ⟨65521, rfl, IsP.top⟩) e2 (c2.mono (by omega))

def spSmall (b : Bool) : FSpec := fun us S Q _ => ∃ c d m, us = [.lst c, d] ∧ (FieldU d ∨ (b = true ∧ DomU d)) ∧ Cs S c m ∧ m < 999900 ∧ (b = true → m < 999800) ∧ ∀ v S2, (FieldU d → dat 60 v = true) → Ext c S S2 → Cs S2 c (m + cond b 5 2) → Q v S2
theorem w_small (G : Gm) (b : Bool) (hT : Has G "_law_take" spTake) (hR : Has G "_law_fraction" spFraction) (hS : b = true → Has G "_law_strip" spStrip) (hN : b = true → Has G "_law_small" (spSmall false)) : Pf G n_law_small i_law_small (spSmall b) := by
  intro us S Q X h
  obtain ⟨c, d, m, rfl, hd, hC, hm, hmb, hQ⟩ := h
  obtain ⟨sT, eT, hT⟩ := hT
  obtain ⟨sR, eR, hR⟩ := hR
  have hs5 : 5 ≤ sizeLine := by decide
  have hb2 : 2 ≤ cond b 5 2 := by cases b <;> decide
  have main : (d = .tup [.str "Q"] ∨ ∃ p, d = .tup [.str "F", .int p] ∧ p ≠ 0) ∨ (b = true ∧ d = .tup [.str "Z"]) ∨ (b = true ∧ ∃ f, d = .tup [.str "P", f] ∧ FieldU f) := by
    rcases hd with (h | ⟨p, h, hp⟩) | ⟨hb, (h | ⟨p, h, hp⟩) | h | ⟨f, h, hf⟩⟩
    · exact .inl (.inl h)
    · exact .inl (.inr ⟨p, h, by have := hp.1; omega⟩)
    · exact .inl (.inl h)
    · exact .inl (.inr ⟨p, h, by have := hp.1; omega⟩)
    · exact .inr (.inl ⟨hb, h⟩)
    · exact .inr (.inr ⟨hb, f, h, hf⟩)
  rcases main with (rfl | ⟨p, rfl, hp⟩) | ⟨hb, rfl⟩ | ⟨hb, f, rfl, hf⟩
  · simp only [wpSs, wpS, wpE, wpEs, wpO, wpC, wpT, wpTg, wpTs, wpI, wipeU, startU, z_cell, z_slot, z_int, z_bl, z_tup, z_fn, z_lst, z_nil, z_cons, z_opt, z_optu, z_srct, z_srcl, z_bopi, z_bopt, z_bopl, z_bopm, z_add, z_sub, z_mul, z_div, z_mod, z_pow, z_auga, z_augs, z_augd, z_eqii, z_eqss, z_eqbb, z_eqtt, z_eqll, z_ceq, z_cne, z_clt, z_cle, z_cgt, z_cge, z_cin, z_cni, z_int_t, z_trn, z_trb, z_tri, z_trt, z_trl, z_ixt, z_ixl, z_slt, z_sll, z_sls, z_lent, z_lenl, z_abs, z_max, z_min, z_toi, z_tob, z_tut, z_tul, z_lit, z_lil, z_any, z_all, z_sum, z_app, z_set, z_isn, z_isb, z_isi, z_iss, z_ist, z_isl, z_revl, isNon, atI_0, atI_1, atI_2, atI_3, ixN_1, ixN_2, ixN_3, List.map_cons, List.map_nil, List.length_cons, List.length_nil, List.replicate, List.cons_append, List.nil_append, List.append_nil, List.set_cons_zero, List.set_cons_succ, List.getElem?_cons_zero, List.getElem?_cons_succ, Nat.reduceAdd, Nat.reduceSub, Nat.reduceLT, Nat.reduceLeDiff, Nat.reduceEqDiff, Int.reduceNeg, Int.reduceAdd, Int.reduceSub, Int.reduceMul, Int.reducePow, Int.reduceToNat, Int.reduceLT, Int.reduceLE, Int.reduceEq, if_true, if_false, Bool.false_eq_true, decide_true, decide_false, true_and, and_true, Bool.not_true, Bool.not_false, List.set_nil, List.length_set, ne_eq, not_false_eq_true, reduceCtorEq, and_self, List.isEmpty_cons, List.isEmpty_nil, List.length_map, List.set_set, decide_eq_true_eq, n_law_small, i_law_small, s_QQ, s_QF, eT, eR]
    refine hT _ _ _ _ ⟨c, 9, m, rfl, by decide, by decide, hC, by omega, fun dg S2 d0 d1 e2 c2 => ?_⟩
    simp only [wpSs, wpS, wpE, wpEs, wpO, wpC, wpT, wpTg, wpTs, wpI, wipeU, startU, z_cell, z_slot, z_int, z_bl, z_tup, z_fn, z_lst, z_nil, z_cons, z_opt, z_optu, z_srct, z_srcl, z_bopi, z_bopt, z_bopl, z_bopm, z_add, z_sub, z_mul, z_div, z_mod, z_pow, z_auga, z_augs, z_augd, z_eqii, z_eqss, z_eqbb, z_eqtt, z_eqll, z_ceq, z_cne, z_clt, z_cle, z_cgt, z_cge, z_cin, z_cni, z_int_t, z_trn, z_trb, z_tri, z_trt, z_trl, z_ixt, z_ixl, z_slt, z_sll, z_sls, z_lent, z_lenl, z_abs, z_max, z_min, z_toi, z_tob, z_tut, z_tul, z_lit, z_lil, z_any, z_all, z_sum, z_app, z_set, z_isn, z_isb, z_isi, z_iss, z_ist, z_isl, z_revl, isNon, atI_0, atI_1, atI_2, atI_3, ixN_1, ixN_2, ixN_3, List.map_cons, List.map_nil, List.length_cons, List.length_nil, List.replicate, List.cons_append, List.nil_append, List.append_nil, List.set_cons_zero, List.set_cons_succ, List.getElem?_cons_zero, List.getElem?_cons_succ, Nat.reduceAdd, Nat.reduceSub, Nat.reduceLT, Nat.reduceLeDiff, Nat.reduceEqDiff, Int.reduceNeg, Int.reduceAdd, Int.reduceSub, Int.reduceMul, Int.reducePow, Int.reduceToNat, Int.reduceLT, Int.reduceLE, Int.reduceEq, if_true, if_false, Bool.false_eq_true, decide_true, decide_false, true_and, and_true, Bool.not_true, Bool.not_false, List.set_nil, List.length_set, ne_eq, not_false_eq_true, reduceCtorEq, and_self, List.isEmpty_cons, List.isEmpty_nil, List.length_map, List.set_set, decide_eq_true_eq]
    refine hT _ _ _ _ ⟨c, 3, m + 1, rfl, by decide, by decide, c2, by omega, fun dg2 S3 d2 d3 e3 c3 => ?_⟩
    simp only [wpSs, wpS, wpE, wpEs, wpO, wpC, wpT, wpTg, wpTs, wpI, wipeU, startU, z_cell, z_slot, z_int, z_bl, z_tup, z_fn, z_lst, z_nil, z_cons, z_opt, z_optu, z_srct, z_srcl, z_bopi, z_bopt, z_bopl, z_bopm, z_add, z_sub, z_mul, z_div, z_mod, z_pow, z_auga, z_augs, z_augd, z_eqii, z_eqss, z_eqbb, z_eqtt, z_eqll, z_ceq, z_cne, z_clt, z_cle, z_cgt, z_cge, z_cin, z_cni, z_int_t, z_trn, z_trb, z_tri, z_trt, z_trl, z_ixt, z_ixl, z_slt, z_sll, z_sls, z_lent, z_lenl, z_abs, z_max, z_min, z_toi, z_tob, z_tut, z_tul, z_lit, z_lil, z_any, z_all, z_sum, z_app, z_set, z_isn, z_isb, z_isi, z_iss, z_ist, z_isl, z_revl, isNon, atI_0, atI_1, atI_2, atI_3, ixN_1, ixN_2, ixN_3, List.map_cons, List.map_nil, List.length_cons, List.length_nil, List.replicate, List.cons_append, List.nil_append, List.append_nil, List.set_cons_zero, List.set_cons_succ, List.getElem?_cons_zero, List.getElem?_cons_succ, Nat.reduceAdd, Nat.reduceSub, Nat.reduceLT, Nat.reduceLeDiff, Nat.reduceEqDiff, Int.reduceNeg, Int.reduceAdd, Int.reduceSub, Int.reduceMul, Int.reducePow, Int.reduceToNat, Int.reduceLT, Int.reduceLE, Int.reduceEq, if_true, if_false, Bool.false_eq_true, decide_true, decide_false, true_and, and_true, Bool.not_true, Bool.not_false, List.set_nil, List.length_set, ne_eq, not_false_eq_true, reduceCtorEq, and_self, List.isEmpty_cons, List.isEmpty_nil, List.length_map, List.set_set, decide_eq_true_eq]
    exact hR _ _ _ _ ⟨_, _, rfl, by omega, by omega, by omega, fun x y => hQ _ _ (fun _ => rfl) (e2.trans e3) (c3.mono (by omega))⟩
  · simp only [wpSs, wpS, wpE, wpEs, wpO, wpC, wpT, wpTg, wpTs, wpI, wipeU, startU, z_cell, z_slot, z_int, z_bl, z_tup, z_fn, z_lst, z_nil, z_cons, z_opt, z_optu, z_srct, z_srcl, z_bopi, z_bopt, z_bopl, z_bopm, z_add, z_sub, z_mul, z_div, z_mod, z_pow, z_auga, z_augs, z_augd, z_eqii, z_eqss, z_eqbb, z_eqtt, z_eqll, z_ceq, z_cne, z_clt, z_cle, z_cgt, z_cge, z_cin, z_cni, z_int_t, z_trn, z_trb, z_tri, z_trt, z_trl, z_ixt, z_ixl, z_slt, z_sll, z_sls, z_lent, z_lenl, z_abs, z_max, z_min, z_toi, z_tob, z_tut, z_tul, z_lit, z_lil, z_any, z_all, z_sum, z_app, z_set, z_isn, z_isb, z_isi, z_iss, z_ist, z_isl, z_revl, isNon, atI_0, atI_1, atI_2, atI_3, ixN_1, ixN_2, ixN_3, List.map_cons, List.map_nil, List.length_cons, List.length_nil, List.replicate, List.cons_append, List.nil_append, List.append_nil, List.set_cons_zero, List.set_cons_succ, List.getElem?_cons_zero, List.getElem?_cons_succ, Nat.reduceAdd, Nat.reduceSub, Nat.reduceLT, Nat.reduceLeDiff, Nat.reduceEqDiff, Int.reduceNeg, Int.reduceAdd, Int.reduceSub, Int.reduceMul, Int.reducePow, Int.reduceToNat, Int.reduceLT, Int.reduceLE, Int.reduceEq, if_true, if_false, Bool.false_eq_true, decide_true, decide_false, true_and, and_true, Bool.not_true, Bool.not_false, List.set_nil, List.length_set, ne_eq, not_false_eq_true, reduceCtorEq, and_self, List.isEmpty_cons, List.isEmpty_nil, List.length_map, List.set_set, decide_eq_true_eq, n_law_small, i_law_small, s_FF, eT]
    refine hT _ _ _ _ ⟨c, 65536, m, rfl, by decide, by decide, hC, by omega, fun dg S2 d0 d1 e2 c2 => ?_⟩
    simp only [wpSs, wpS, wpE, wpEs, wpO, wpC, wpT, wpTg, wpTs, wpI, wipeU, startU, z_cell, z_slot, z_int, z_bl, z_tup, z_fn, z_lst, z_nil, z_cons, z_opt, z_optu, z_srct, z_srcl, z_bopi, z_bopt, z_bopl, z_bopm, z_add, z_sub, z_mul, z_div, z_mod, z_pow, z_auga, z_augs, z_augd, z_eqii, z_eqss, z_eqbb, z_eqtt, z_eqll, z_ceq, z_cne, z_clt, z_cle, z_cgt, z_cge, z_cin, z_cni, z_int_t, z_trn, z_trb, z_tri, z_trt, z_trl, z_ixt, z_ixl, z_slt, z_sll, z_sls, z_lent, z_lenl, z_abs, z_max, z_min, z_toi, z_tob, z_tut, z_tul, z_lit, z_lil, z_any, z_all, z_sum, z_app, z_set, z_isn, z_isb, z_isi, z_iss, z_ist, z_isl, z_revl, isNon, atI_0, atI_1, atI_2, atI_3, ixN_1, ixN_2, ixN_3, List.map_cons, List.map_nil, List.length_cons, List.length_nil, List.replicate, List.cons_append, List.nil_append, List.append_nil, List.set_cons_zero, List.set_cons_succ, List.getElem?_cons_zero, List.getElem?_cons_succ, Nat.reduceAdd, Nat.reduceSub, Nat.reduceLT, Nat.reduceLeDiff, Nat.reduceEqDiff, Int.reduceNeg, Int.reduceAdd, Int.reduceSub, Int.reduceMul, Int.reducePow, Int.reduceToNat, Int.reduceLT, Int.reduceLE, Int.reduceEq, if_true, if_false, Bool.false_eq_true, decide_true, decide_false, true_and, and_true, Bool.not_true, Bool.not_false, List.set_nil, List.length_set, ne_eq, not_false_eq_true, reduceCtorEq, and_self, List.isEmpty_cons, List.isEmpty_nil, List.length_map, List.set_set, decide_eq_true_eq]
    exact ⟨hp, hQ _ _ (fun _ => rfl) e2 (c2.mono (by omega))⟩
  · subst hb
    simp only [wpSs, wpS, wpE, wpEs, wpO, wpC, wpT, wpTg, wpTs, wpI, wipeU, startU, z_cell, z_slot, z_int, z_bl, z_tup, z_fn, z_lst, z_nil, z_cons, z_opt, z_optu, z_srct, z_srcl, z_bopi, z_bopt, z_bopl, z_bopm, z_add, z_sub, z_mul, z_div, z_mod, z_pow, z_auga, z_augs, z_augd, z_eqii, z_eqss, z_eqbb, z_eqtt, z_eqll, z_ceq, z_cne, z_clt, z_cle, z_cgt, z_cge, z_cin, z_cni, z_int_t, z_trn, z_trb, z_tri, z_trt, z_trl, z_ixt, z_ixl, z_slt, z_sll, z_sls, z_lent, z_lenl, z_abs, z_max, z_min, z_toi, z_tob, z_tut, z_tul, z_lit, z_lil, z_any, z_all, z_sum, z_app, z_set, z_isn, z_isb, z_isi, z_iss, z_ist, z_isl, z_revl, isNon, atI_0, atI_1, atI_2, atI_3, ixN_1, ixN_2, ixN_3, List.map_cons, List.map_nil, List.length_cons, List.length_nil, List.replicate, List.cons_append, List.nil_append, List.append_nil, List.set_cons_zero, List.set_cons_succ, List.getElem?_cons_zero, List.getElem?_cons_succ, Nat.reduceAdd, Nat.reduceSub, Nat.reduceLT, Nat.reduceLeDiff, Nat.reduceEqDiff, Int.reduceNeg, Int.reduceAdd, Int.reduceSub, Int.reduceMul, Int.reducePow, Int.reduceToNat, Int.reduceLT, Int.reduceLE, Int.reduceEq, if_true, if_false, Bool.false_eq_true, decide_true, decide_false, true_and, and_true, Bool.not_true, Bool.not_false, List.set_nil, List.length_set, ne_eq, not_false_eq_true, reduceCtorEq, and_self, List.isEmpty_cons, List.isEmpty_nil, List.length_map, List.set_set, decide_eq_true_eq, n_law_small, i_law_small, s_ZF, s_ZQ, s_ZP, eT]
    refine hT _ _ _ _ ⟨c, 9, m, rfl, by decide, by decide, hC, by omega, fun dg S2 d0 d1 e2 c2 => ?_⟩
    simp only [wpSs, wpS, wpE, wpEs, wpO, wpC, wpT, wpTg, wpTs, wpI, wipeU, startU, z_cell, z_slot, z_int, z_bl, z_tup, z_fn, z_lst, z_nil, z_cons, z_opt, z_optu, z_srct, z_srcl, z_bopi, z_bopt, z_bopl, z_bopm, z_add, z_sub, z_mul, z_div, z_mod, z_pow, z_auga, z_augs, z_augd, z_eqii, z_eqss, z_eqbb, z_eqtt, z_eqll, z_ceq, z_cne, z_clt, z_cle, z_cgt, z_cge, z_cin, z_cni, z_int_t, z_trn, z_trb, z_tri, z_trt, z_trl, z_ixt, z_ixl, z_slt, z_sll, z_sls, z_lent, z_lenl, z_abs, z_max, z_min, z_toi, z_tob, z_tut, z_tul, z_lit, z_lil, z_any, z_all, z_sum, z_app, z_set, z_isn, z_isb, z_isi, z_iss, z_ist, z_isl, z_revl, isNon, atI_0, atI_1, atI_2, atI_3, ixN_1, ixN_2, ixN_3, List.map_cons, List.map_nil, List.length_cons, List.length_nil, List.replicate, List.cons_append, List.nil_append, List.append_nil, List.set_cons_zero, List.set_cons_succ, List.getElem?_cons_zero, List.getElem?_cons_succ, Nat.reduceAdd, Nat.reduceSub, Nat.reduceLT, Nat.reduceLeDiff, Nat.reduceEqDiff, Int.reduceNeg, Int.reduceAdd, Int.reduceSub, Int.reduceMul, Int.reducePow, Int.reduceToNat, Int.reduceLT, Int.reduceLE, Int.reduceEq, if_true, if_false, Bool.false_eq_true, decide_true, decide_false, true_and, and_true, Bool.not_true, Bool.not_false, List.set_nil, List.length_set, ne_eq, not_false_eq_true, reduceCtorEq, and_self, List.isEmpty_cons, List.isEmpty_nil, List.length_map, List.set_set, decide_eq_true_eq]
    refine hT _ _ _ _ ⟨c, 99, m + 1, rfl, by decide, by decide, c2, by omega, fun dg2 S3 d2 d3 e3 c3 => ?_⟩
    simp only [wpSs, wpS, wpE, wpEs, wpO, wpC, wpT, wpTg, wpTs, wpI, wipeU, startU, z_cell, z_slot, z_int, z_bl, z_tup, z_fn, z_lst, z_nil, z_cons, z_opt, z_optu, z_srct, z_srcl, z_bopi, z_bopt, z_bopl, z_bopm, z_add, z_sub, z_mul, z_div, z_mod, z_pow, z_auga, z_augs, z_augd, z_eqii, z_eqss, z_eqbb, z_eqtt, z_eqll, z_ceq, z_cne, z_clt, z_cle, z_cgt, z_cge, z_cin, z_cni, z_int_t, z_trn, z_trb, z_tri, z_trt, z_trl, z_ixt, z_ixl, z_slt, z_sll, z_sls, z_lent, z_lenl, z_abs, z_max, z_min, z_toi, z_tob, z_tut, z_tul, z_lit, z_lil, z_any, z_all, z_sum, z_app, z_set, z_isn, z_isb, z_isi, z_iss, z_ist, z_isl, z_revl, isNon, atI_0, atI_1, atI_2, atI_3, ixN_1, ixN_2, ixN_3, List.map_cons, List.map_nil, List.length_cons, List.length_nil, List.replicate, List.cons_append, List.nil_append, List.append_nil, List.set_cons_zero, List.set_cons_succ, List.getElem?_cons_zero, List.getElem?_cons_succ, Nat.reduceAdd, Nat.reduceSub, Nat.reduceLT, Nat.reduceLeDiff, Nat.reduceEqDiff, Int.reduceNeg, Int.reduceAdd, Int.reduceSub, Int.reduceMul, Int.reducePow, Int.reduceToNat, Int.reduceLT, Int.reduceLE, Int.reduceEq, if_true, if_false, Bool.false_eq_true, decide_true, decide_false, true_and, and_true, Bool.not_true, Bool.not_false, List.set_nil, List.length_set, ne_eq, not_false_eq_true, reduceCtorEq, and_self, List.isEmpty_cons, List.isEmpty_nil, List.length_map, List.set_set, decide_eq_true_eq]
    refine ⟨hs5, ?_⟩
    refine hT _ _ _ _ ⟨c, 5, m + 2, rfl, by decide, by decide, c3.push _, by omega, fun dg4 S4 d4 d5 e4 c4 => ?_⟩
    have hl := e4.new c3.lt
    have e4 := (e2.trans (e3.trans (Ext.push c S3 _))).trans e4
    simp only [wpSs, wpS, wpE, wpEs, wpO, wpC, wpT, wpTg, wpTs, wpI, wipeU, startU, z_cell, z_slot, z_int, z_bl, z_tup, z_fn, z_lst, z_nil, z_cons, z_opt, z_optu, z_srct, z_srcl, z_bopi, z_bopt, z_bopl, z_bopm, z_add, z_sub, z_mul, z_div, z_mod, z_pow, z_auga, z_augs, z_augd, z_eqii, z_eqss, z_eqbb, z_eqtt, z_eqll, z_ceq, z_cne, z_clt, z_cle, z_cgt, z_cge, z_cin, z_cni, z_int_t, z_trn, z_trb, z_tri, z_trt, z_trl, z_ixt, z_ixl, z_slt, z_sll, z_sls, z_lent, z_lenl, z_abs, z_max, z_min, z_toi, z_tob, z_tut, z_tul, z_lit, z_lil, z_any, z_all, z_sum, z_app, z_set, z_isn, z_isb, z_isi, z_iss, z_ist, z_isl, z_revl, isNon, atI_0, atI_1, atI_2, atI_3, ixN_1, ixN_2, ixN_3, List.map_cons, List.map_nil, List.length_cons, List.length_nil, List.replicate, List.cons_append, List.nil_append, List.append_nil, List.set_cons_zero, List.set_cons_succ, List.getElem?_cons_zero, List.getElem?_cons_succ, Nat.reduceAdd, Nat.reduceSub, Nat.reduceLT, Nat.reduceLeDiff, Nat.reduceEqDiff, Int.reduceNeg, Int.reduceAdd, Int.reduceSub, Int.reduceMul, Int.reducePow, Int.reduceToNat, Int.reduceLT, Int.reduceLE, Int.reduceEq, if_true, if_false, Bool.false_eq_true, decide_true, decide_false, true_and, and_true, Bool.not_true, Bool.not_false, List.set_nil, List.length_set, ne_eq, not_false_eq_true, reduceCtorEq, and_self, List.isEmpty_cons, List.isEmpty_nil, List.length_map, List.set_set, decide_eq_true_eq, hl]
    have : dg4 = 0 ∨ dg4 = 1 ∨ dg4 = 2 ∨ dg4 = 3 ∨ dg4 = 4 := by omega
    have no : ∀ i : Int, FieldU (.tup [.str "Z"]) → dat 60 (.int i) = true := fun _ _ => rfl
    rcases this with rfl | rfl | rfl | rfl | rfl <;> exact hQ _ _ (fun _ => rfl) e4 (c4.mono (by show m + 2 + 1 ≤ m + 5; omega))
  · obtain ⟨sS, eS, hS2⟩ := hS hb
    obtain ⟨sN, eN, hN2⟩ := hN hb
    subst hb
    simp only [wpSs, wpS, wpE, wpEs, wpO, wpC, wpT, wpTg, wpTs, wpI, wipeU, startU, z_cell, z_slot, z_int, z_bl, z_tup, z_fn, z_lst, z_nil, z_cons, z_opt, z_optu, z_srct, z_srcl, z_bopi, z_bopt, z_bopl, z_bopm, z_add, z_sub, z_mul, z_div, z_mod, z_pow, z_auga, z_augs, z_augd, z_eqii, z_eqss, z_eqbb, z_eqtt, z_eqll, z_ceq, z_cne, z_clt, z_cle, z_cgt, z_cge, z_cin, z_cni, z_int_t, z_trn, z_trb, z_tri, z_trt, z_trl, z_ixt, z_ixl, z_slt, z_sll, z_sls, z_lent, z_lenl, z_abs, z_max, z_min, z_toi, z_tob, z_tut, z_tul, z_lit, z_lil, z_any, z_all, z_sum, z_app, z_set, z_isn, z_isb, z_isi, z_iss, z_ist, z_isl, z_revl, isNon, atI_0, atI_1, atI_2, atI_3, ixN_1, ixN_2, ixN_3, List.map_cons, List.map_nil, List.length_cons, List.length_nil, List.replicate, List.cons_append, List.nil_append, List.append_nil, List.set_cons_zero, List.set_cons_succ, List.getElem?_cons_zero, List.getElem?_cons_succ, Nat.reduceAdd, Nat.reduceSub, Nat.reduceLT, Nat.reduceLeDiff, Nat.reduceEqDiff, Int.reduceNeg, Int.reduceAdd, Int.reduceSub, Int.reduceMul, Int.reducePow, Int.reduceToNat, Int.reduceLT, Int.reduceLE, Int.reduceEq, if_true, if_false, Bool.false_eq_true, decide_true, decide_false, true_and, and_true, Bool.not_true, Bool.not_false, List.set_nil, List.length_set, ne_eq, not_false_eq_true, reduceCtorEq, and_self, List.isEmpty_cons, List.isEmpty_nil, List.length_map, List.set_set, decide_eq_true_eq, n_law_small, i_law_small, s_PQ, s_PF, s_PP, eS, eN, eT]
    refine hT _ _ _ _ ⟨c, 3, m, rfl, by decide, by decide, hC, by omega, fun dg S2 d0 d1 e2 c2 => ?_⟩
    simp only [wpSs, wpS, wpE, wpEs, wpO, wpC, wpT, wpTg, wpTs, wpI, wipeU, startU, z_cell, z_slot, z_int, z_bl, z_tup, z_fn, z_lst, z_nil, z_cons, z_opt, z_optu, z_srct, z_srcl, z_bopi, z_bopt, z_bopl, z_bopm, z_add, z_sub, z_mul, z_div, z_mod, z_pow, z_auga, z_augs, z_augd, z_eqii, z_eqss, z_eqbb, z_eqtt, z_eqll, z_ceq, z_cne, z_clt, z_cle, z_cgt, z_cge, z_cin, z_cni, z_int_t, z_trn, z_trb, z_tri, z_trt, z_trl, z_ixt, z_ixl, z_slt, z_sll, z_sls, z_lent, z_lenl, z_abs, z_max, z_min, z_toi, z_tob, z_tut, z_tul, z_lit, z_lil, z_any, z_all, z_sum, z_app, z_set, z_isn, z_isb, z_isi, z_iss, z_ist, z_isl, z_revl, isNon, atI_0, atI_1, atI_2, atI_3, ixN_1, ixN_2, ixN_3, List.map_cons, List.map_nil, List.length_cons, List.length_nil, List.replicate, List.cons_append, List.nil_append, List.append_nil, List.set_cons_zero, List.set_cons_succ, List.getElem?_cons_zero, List.getElem?_cons_succ, Nat.reduceAdd, Nat.reduceSub, Nat.reduceLT, Nat.reduceLeDiff, Nat.reduceEqDiff, Int.reduceNeg, Int.reduceAdd, Int.reduceSub, Int.reduceMul, Int.reducePow, Int.reduceToNat, Int.reduceLT, Int.reduceLE, Int.reduceEq, if_true, if_false, Bool.false_eq_true, decide_true, decide_false, true_and, and_true, Bool.not_true, Bool.not_false, List.set_nil, List.length_set, ne_eq, not_false_eq_true, reduceCtorEq, and_self, List.isEmpty_cons, List.isEmpty_nil, List.length_map, List.set_set, decide_eq_true_eq]
    refine ⟨⟨by omega, by omega⟩, ?_⟩
    refine lcL_ind (fun us acc S4 => ∃ j : Nat, j ≤ dg.toNat ∧ us = (rngL 0 dg.toNat).drop j ∧ acc.length ≤ j ∧ (∀ x ∈ acc, dat 60 x = true) ∧ Ext c S S4 ∧ Cs S4 c (m + 1 + 2 * j)) ?_ ?_ ?_ _ _ _ ⟨0, by omega, rfl, by simp, by simp, e2, c2⟩
    · intros; trivial
    · rintro acc S4 ⟨j, hj, hu, ha, hx, e4, c4⟩
      obtain ⟨s, r, rfl⟩ := hf.head
      refine hS2 _ _ _ _ ⟨s, r, _, acc, rfl, List.getElem?_concat_length, hx, fun l2 x => hQ _ _ ?_ (e4.trans ((Ext.push _ _ _).trans (Ext.push _ _ _))) (((c4.push _).push _).mono (by show m + 1 + 2 * j ≤ m + 5; omega))⟩
      intro hF
      rcases hF with h | ⟨p, h, _⟩
      · simp at h
      · simp at h
    · rintro u us acc S4 k2 ⟨j, hj, hu, ha, hx, e4, c4⟩ ks kn
      obtain ⟨j1, rfl, hus⟩ := rng_drop hu
      refine hN2 _ _ _ _ ⟨c, f, m + 1 + 2 * j, rfl, .inl hf, c4, by have := hmb rfl; omega, by simp, fun v S5 hv e5 c5 => ?_⟩
      refine ks _ _ (Nat.lt_of_lt_of_le (show acc.length < 256 by omega) (by decide)) ⟨j + 1, by omega, hus, by simpa using ha, fun x hx2 => ?_, e4.trans e5, c5.mono (by show m + 1 + 2 * j + 2 ≤ _; omega)⟩
      rcases List.mem_append.1 hx2 with h | h
      · exact hx x h
      · rw [List.mem_singleton.1 h]; exact hv hf
def spMatrix : FSpec := fun us S Q _ => ∃ c d a b m, us = [.lst c, d, .int a, .int b] ∧ DomU d ∧ 0 ≤ a ∧ a ≤ 10 ∧ 0 ≤ b ∧ b ≤ 10 ∧ Cs S c m ∧ m < 900000 ∧ ∀ x S2, Ext c S S2 → Cs S2 c (m + 1000) → Q (.tup [.int a, .int b, x]) S2
theorem w_matrix (G : Gm) (hN : Has G "_law_small" (spSmall true)) : Pf G n_law_matrix i_law_matrix spMatrix := by
  intro us S Q X h
  obtain ⟨c, d, a, b, m, rfl, hd, ha0, ha1, hb0, hb1, hC, hm, hQ⟩ := h
  obtain ⟨sN, eN, hN⟩ := hN
  have hs3 : 3 ≤ sizeLine := by decide
  simp only [wpSs, wpS, wpE, wpEs, wpO, wpC, wpT, wpTg, wpTs, wpI, wipeU, startU, z_cell, z_slot, z_int, z_bl, z_tup, z_fn, z_lst, z_nil, z_cons, z_opt, z_optu, z_srct, z_srcl, z_bopi, z_bopt, z_bopl, z_bopm, z_add, z_sub, z_mul, z_div, z_mod, z_pow, z_auga, z_augs, z_augd, z_eqii, z_eqss, z_eqbb, z_eqtt, z_eqll, z_ceq, z_cne, z_clt, z_cle, z_cgt, z_cge, z_cin, z_cni, z_int_t, z_trn, z_trb, z_tri, z_trt, z_trl, z_ixt, z_ixl, z_slt, z_sll, z_sls, z_lent, z_lenl, z_abs, z_max, z_min, z_toi, z_tob, z_tut, z_tul, z_lit, z_lil, z_any, z_all, z_sum, z_app, z_set, z_isn, z_isb, z_isi, z_iss, z_ist, z_isl, z_revl, isNon, atI_0, atI_1, atI_2, atI_3, ixN_1, ixN_2, ixN_3, List.map_cons, List.map_nil, List.length_cons, List.length_nil, List.replicate, List.cons_append, List.nil_append, List.append_nil, List.set_cons_zero, List.set_cons_succ, List.getElem?_cons_zero, List.getElem?_cons_succ, Nat.reduceAdd, Nat.reduceSub, Nat.reduceLT, Nat.reduceLeDiff, Nat.reduceEqDiff, Int.reduceNeg, Int.reduceAdd, Int.reduceSub, Int.reduceMul, Int.reducePow, Int.reduceToNat, Int.reduceLT, Int.reduceLE, Int.reduceEq, if_true, if_false, Bool.false_eq_true, decide_true, decide_false, true_and, and_true, Bool.not_true, Bool.not_false, List.set_nil, List.length_set, ne_eq, not_false_eq_true, reduceCtorEq, and_self, List.isEmpty_cons, List.isEmpty_nil, List.length_map, List.set_set, decide_eq_true_eq, n_law_matrix, i_law_matrix, eN]
  refine ⟨⟨by omega, by omega⟩, ?_⟩
  refine lcL_ind (fun us acc S4 => ∃ j : Nat, j ≤ a.toNat ∧ us = (rngL 0 a.toNat).drop j ∧ acc.length ≤ j ∧ Ext c S S4 ∧ Cs S4 c (m + 50 * j)) ?_ ?_ ?_ _ _ _ ⟨0, by omega, rfl, by simp, Ext.refl _ _, hC⟩
  · intros; trivial
  · rintro acc S4 ⟨j, hj, hu, ha, e4, c4⟩
    simp only [wpSs, wpS, wpE, wpEs, wpO, wpC, wpT, wpTg, wpTs, wpI, wipeU, startU, z_cell, z_slot, z_int, z_bl, z_tup, z_fn, z_lst, z_nil, z_cons, z_opt, z_optu, z_srct, z_srcl, z_bopi, z_bopt, z_bopl, z_bopm, z_add, z_sub, z_mul, z_div, z_mod, z_pow, z_auga, z_augs, z_augd, z_eqii, z_eqss, z_eqbb, z_eqtt, z_eqll, z_ceq, z_cne, z_clt, z_cle, z_cgt, z_cge, z_cin, z_cni, z_int_t, z_trn, z_trb, z_tri, z_trt, z_trl, z_ixt, z_ixl, z_slt, z_sll, z_sls, z_lent, z_lenl, z_abs, z_max, z_min, z_toi, z_tob, z_tut, z_tul, z_lit, z_lil, z_any, z_all, z_sum, z_app, z_set, z_isn, z_isb, z_isi, z_iss, z_ist, z_isl, z_revl, isNon, atI_0, atI_1, atI_2, atI_3, ixN_1, ixN_2, ixN_3, List.map_cons, List.map_nil, List.length_cons, List.length_nil, List.replicate, List.cons_append, List.nil_append, List.append_nil, List.set_cons_zero, List.set_cons_succ, List.getElem?_cons_zero, List.getElem?_cons_succ, Nat.reduceAdd, Nat.reduceSub, Nat.reduceLT, Nat.reduceLeDiff, Nat.reduceEqDiff, Int.reduceNeg, Int.reduceAdd, Int.reduceSub, Int.reduceMul, Int.reducePow, Int.reduceToNat, Int.reduceLT, Int.reduceLE, Int.reduceEq, if_true, if_false, Bool.false_eq_true, decide_true, decide_false, true_and, and_true, Bool.not_true, Bool.not_false, List.set_nil, List.length_set, ne_eq, not_false_eq_true, reduceCtorEq, and_self, List.isEmpty_cons, List.isEmpty_nil, List.length_map, List.set_set, decide_eq_true_eq, List.getElem?_concat_length]
    exact ⟨hs3, hQ _ _ (e4.trans (Ext.push _ _ _)) ((c4.push _).mono (by omega))⟩
  · rintro u us acc S4 k2 ⟨j, hj, hu, ha, e4, c4⟩ ks kn
    obtain ⟨j1, rfl, hus⟩ := rng_drop hu
    refine ⟨⟨by omega, by omega⟩, ?_⟩
    refine lcL_ind (fun us acc S4 => ∃ i : Nat, i ≤ b.toNat ∧ us = (rngL 0 b.toNat).drop i ∧ acc.length ≤ i ∧ Ext c S S4 ∧ Cs S4 c (m + 50 * j + 5 * i)) ?_ ?_ ?_ _ _ _ ⟨0, by omega, rfl, by simp, e4, c4⟩
    · intros; trivial
    · rintro acc2 S5 ⟨i, hi, hu2, ha2, e5, c5⟩
      simp only [wpSs, wpS, wpE, wpEs, wpO, wpC, wpT, wpTg, wpTs, wpI, wipeU, startU, z_cell, z_slot, z_int, z_bl, z_tup, z_fn, z_lst, z_nil, z_cons, z_opt, z_optu, z_srct, z_srcl, z_bopi, z_bopt, z_bopl, z_bopm, z_add, z_sub, z_mul, z_div, z_mod, z_pow, z_auga, z_augs, z_augd, z_eqii, z_eqss, z_eqbb, z_eqtt, z_eqll, z_ceq, z_cne, z_clt, z_cle, z_cgt, z_cge, z_cin, z_cni, z_int_t, z_trn, z_trb, z_tri, z_trt, z_trl, z_ixt, z_ixl, z_slt, z_sll, z_sls, z_lent, z_lenl, z_abs, z_max, z_min, z_toi, z_tob, z_tut, z_tul, z_lit, z_lil, z_any, z_all, z_sum, z_app, z_set, z_isn, z_isb, z_isi, z_iss, z_ist, z_isl, z_revl, isNon, atI_0, atI_1, atI_2, atI_3, ixN_1, ixN_2, ixN_3, List.map_cons, List.map_nil, List.length_cons, List.length_nil, List.replicate, List.cons_append, List.nil_append, List.append_nil, List.set_cons_zero, List.set_cons_succ, List.getElem?_cons_zero, List.getElem?_cons_succ, Nat.reduceAdd, Nat.reduceSub, Nat.reduceLT, Nat.reduceLeDiff, Nat.reduceEqDiff, Int.reduceNeg, Int.reduceAdd, Int.reduceSub, Int.reduceMul, Int.reducePow, Int.reduceToNat, Int.reduceLT, Int.reduceLE, Int.reduceEq, if_true, if_false, Bool.false_eq_true, decide_true, decide_false, true_and, and_true, Bool.not_true, Bool.not_false, List.set_nil, List.length_set, ne_eq, not_false_eq_true, reduceCtorEq, and_self, List.isEmpty_cons, List.isEmpty_nil, List.length_map, List.set_set, decide_eq_true_eq, List.getElem?_concat_length]
      exact ks _ _ (Nat.lt_of_lt_of_le (show acc.length < 256 by omega) (by decide)) ⟨j + 1, by omega, hus, by simpa using ha, e5.trans (Ext.push _ _ _), (c5.push _).mono (by omega)⟩
    · rintro u2 us2 acc2 S5 k3 ⟨i, hi, hu2, ha2, e5, c5⟩ ks2 kn2
      obtain ⟨i1, rfl, hus2⟩ := rng_drop hu2
      refine hN _ _ _ _ ⟨c, d, m + 50 * j + 5 * i, rfl, .inr ⟨rfl, hd⟩, c5, by omega, fun _ => by omega, fun v S6 hv e6 c6 => ?_⟩
      exact ks2 _ _ (Nat.lt_of_lt_of_le (show acc2.length < 256 by omega) (by decide)) ⟨i + 1, by omega, hus2, by simpa using ha2, e5.trans e6, c6.mono (by show m + 50 * j + 5 * i + 5 ≤ _; omega)⟩
def spStart : FSpec := fun us S Q _ => ∃ ns, us = [.scr ns] ∧ ∀ c S2, Cs S2 c 0 → Q (.lst c) S2
theorem w_start (G : Gm) : Pf G n_law_start i_law_start spStart := by
  intro us S Q X h
  obtain ⟨ns, rfl, hQ⟩ := h
  have hs4 : 4 ≤ sizeLine := by decide
  have hl : (cutU ns none (some 63)).length ≤ 63 := by
    unfold cutU
    rw [List.length_take]
    have : HT.sIx ns.length ns.length (some 63) = min 63 ns.length := HT.sIx_nat ns.length ns.length 63
    rw [this]
    omega
  simp only [wpSs, wpS, wpE, wpEs, wpO, wpC, wpT, wpTg, wpTs, wpI, wipeU, startU, z_cell, z_slot, z_int, z_bl, z_tup, z_fn, z_lst, z_nil, z_cons, z_opt, z_optu, z_srct, z_srcl, z_bopi, z_bopt, z_bopl, z_bopm, z_add, z_sub, z_mul, z_div, z_mod, z_pow, z_auga, z_augs, z_augd, z_eqii, z_eqss, z_eqbb, z_eqtt, z_eqll, z_ceq, z_cne, z_clt, z_cle, z_cgt, z_cge, z_cin, z_cni, z_int_t, z_trn, z_trb, z_tri, z_trt, z_trl, z_ixt, z_ixl, z_slt, z_sll, z_sls, z_lent, z_lenl, z_abs, z_max, z_min, z_toi, z_tob, z_tut, z_tul, z_lit, z_lil, z_any, z_all, z_sum, z_app, z_set, z_isn, z_isb, z_isi, z_iss, z_ist, z_isl, z_revl, isNon, atI_0, atI_1, atI_2, atI_3, ixN_1, ixN_2, ixN_3, List.map_cons, List.map_nil, List.length_cons, List.length_nil, List.replicate, List.cons_append, List.nil_append, List.append_nil, List.set_cons_zero, List.set_cons_succ, List.getElem?_cons_zero, List.getElem?_cons_succ, Nat.reduceAdd, Nat.reduceSub, Nat.reduceLT, Nat.reduceLeDiff, Nat.reduceEqDiff, Int.reduceNeg, Int.reduceAdd, Int.reduceSub, Int.reduceMul, Int.reducePow, Int.reduceToNat, Int.reduceLT, Int.reduceLE, Int.reduceEq, if_true, if_false, Bool.false_eq_true, decide_true, decide_false, true_and, and_true, Bool.not_true, Bool.not_false, List.set_nil, List.length_set, ne_eq, not_false_eq_true, reduceCtorEq, and_self, List.isEmpty_cons, List.isEmpty_nil, List.length_map, List.set_set, decide_eq_true_eq, n_law_start, i_law_start, List.getElem?_concat_length]
  generalize cutU ns none (some 63) = L at hl
  refine lcL_ind (fun us acc S4 => ∃ j : Nat, us = (L.drop j).map U.int ∧ acc = (L.take j).map U.int ∧ S4 = S ++ [.lst (L.map U.int)]) ?_ ?_ ?_ _ _ _ ⟨0, rfl, rfl, rfl⟩
  · rintro us acc S4 ⟨j, _, _, rfl⟩
    exact List.getElem?_concat_length
  · rintro acc S4 ⟨j, hu, rfl, rfl⟩
    have hj : L.length ≤ j := by
      have := congrArg List.length hu
      simp at this
      omega
    rw [List.take_of_length_le hj]
    refine ⟨hs4, hQ _ _ ⟨_, L, 0, 0, 0, ⟨List.getElem?_concat_length, ?_, ?_, by decide, by omega, by decide, by decide⟩, by decide⟩⟩
    · rw [List.getElem?_append_left (by simp)]
      exact List.getElem?_concat_length
    · simp
  · rintro u us acc S4 k2 ⟨j, hu, rfl, rfl⟩ ks kn
    have hj : j < L.length := by
      have := congrArg List.length hu
      simp at this
      omega
    rw [List.drop_eq_getElem_cons hj, List.map_cons] at hu
    injection hu with h1 h2
    subst h1
    simp only [wpSs, wpS, wpE, wpEs, wpO, wpC, wpT, wpTg, wpTs, wpI, wipeU, startU, z_cell, z_slot, z_int, z_bl, z_tup, z_fn, z_lst, z_nil, z_cons, z_opt, z_optu, z_srct, z_srcl, z_bopi, z_bopt, z_bopl, z_bopm, z_add, z_sub, z_mul, z_div, z_mod, z_pow, z_auga, z_augs, z_augd, z_eqii, z_eqss, z_eqbb, z_eqtt, z_eqll, z_ceq, z_cne, z_clt, z_cle, z_cgt, z_cge, z_cin, z_cni, z_int_t, z_trn, z_trb, z_tri, z_trt, z_trl, z_ixt, z_ixl, z_slt, z_sll, z_sls, z_lent, z_lenl, z_abs, z_max, z_min, z_toi, z_tob, z_tut, z_tul, z_lit, z_lil, z_any, z_all, z_sum, z_app, z_set, z_isn, z_isb, z_isi, z_iss, z_ist, z_isl, z_revl, isNon, atI_0, atI_1, atI_2, atI_3, ixN_1, ixN_2, ixN_3, List.map_cons, List.map_nil, List.length_cons, List.length_nil, List.replicate, List.cons_append, List.nil_append, List.append_nil, List.set_cons_zero, List.set_cons_succ, List.getElem?_cons_zero, List.getElem?_cons_succ, Nat.reduceAdd, Nat.reduceSub, Nat.reduceLT, Nat.reduceLeDiff, Nat.reduceEqDiff, Int.reduceNeg, Int.reduceAdd, Int.reduceSub, Int.reduceMul, Int.reducePow, Int.reduceToNat, Int.reduceLT, Int.reduceLE, Int.reduceEq, if_true, if_false, Bool.false_eq_true, decide_true, decide_false, true_and, and_true, Bool.not_true, Bool.not_false, List.set_nil, List.length_set, ne_eq, not_false_eq_true, reduceCtorEq, and_self, List.isEmpty_cons, List.isEmpty_nil, List.length_map, List.set_set, decide_eq_true_eq]
    refine ks _ _ (Nat.lt_of_le_of_lt (show _ ≤ 63 by simp; omega) (by decide)) ⟨j + 1, h2, ?_, rfl⟩
    rw [List.take_succ_eq_append_getElem hj, List.map_append]; rfl
end K67

set_option Elab.async false
set_option linter.all false
set_option maxRecDepth 100000
set_option maxHeartbeats 2000000
namespace K67
open PySem PySem.Spec L2 Q
/-! ### what the package refuses -/
def NoF (d : U) : Prop := (∃ s, d = .str s) ∨ d = .non ∨ (∃ i, d = .int i) ∨ (∃ b, d = .bl b) ∨ d = .tup [] ∨ (∃ s r, d = .tup (.str s :: r) ∧ (s == "Q") = false ∧ (s == "F") = false) ∨ (∃ x, d = .tup [.str "Q", x]) ∨ d = .tup [.str "F"] ∨
  (∃ n, d = .tup [.str "F", .int n] ∧ (n ≤ 1 ∨ 65521 < n ∨ n = 4 ∨ n = 561)) ∨ (∃ b, d = .tup [.str "F", .bl b]) ∨ (∃ s, d = .tup [.str "F", .str s])
def spIsPrime : FSpec := fun us S Q _ => ∃ n, us = [.int n] ∧ ((IsP n ∧ Q (.bl true) S) ∨ ((n = 4 ∨ n = 561) ∧ Q (.bl false) S))
theorem w_is_prime (G : Gm) : Pf G n_is_prime i_is_prime spIsPrime := by
  intro us S Q X h
  obtain ⟨n, rfl, ⟨hp, hQ⟩ | ⟨rfl | rfl, hQ⟩⟩ := h
  · have h1 := hp.1
    have h2 := hp.2.1
    simp only [wpSs, wpS, wpE, wpEs, wpO, wpC, wpT, wpTg, wpTs, wpI, wipeU, startU, z_cell, z_slot, z_int, z_bl, z_tup, z_fn, z_lst, z_nil, z_cons, z_opt, z_optu, z_srct, z_srcl, z_bopi, z_bopt, z_bopl, z_bopm, z_add, z_sub, z_mul, z_div, z_mod, z_pow, z_auga, z_augs, z_augd, z_eqii, z_eqss, z_eqbb, z_eqtt, z_eqll, z_ceq, z_cne, z_clt, z_cle, z_cgt, z_cge, z_cin, z_cni, z_int_t, z_trn, z_trb, z_tri, z_trt, z_trl, z_ixt, z_ixl, z_slt, z_sll, z_sls, z_lent, z_lenl, z_abs, z_max, z_min, z_toi, z_tob, z_tut, z_tul, z_lit, z_lil, z_any, z_all, z_sum, z_app, z_set, z_isn, z_isb, z_isi, z_iss, z_ist, z_isl, z_revl, isNon, atI_0, atI_1, atI_2, atI_3, ixN_1, ixN_2, ixN_3, List.map_cons, List.map_nil, List.length_cons, List.length_nil, List.replicate, List.cons_append, List.nil_append, List.append_nil, List.set_cons_zero, List.set_cons_succ, List.getElem?_cons_zero, List.getElem?_cons_succ, Nat.reduceAdd, Nat.reduceSub, Nat.reduceLT, Nat.reduceLeDiff, Nat.reduceEqDiff, Int.reduceNeg, Int.reduceAdd, Int.reduceSub, Int.reduceMul, Int.reducePow, Int.reduceToNat, Int.reduceLT, Int.reduceLE, Int.reduceEq, if_true, if_false, Bool.false_eq_true, decide_true, decide_false, true_and, and_true, Bool.not_true, Bool.not_false, List.set_nil, List.length_set, ne_eq, not_false_eq_true, reduceCtorEq, and_self, List.isEmpty_cons, List.isEmpty_nil, List.length_map, List.set_set, decide_eq_true_eq, n_is_prime, i_is_prime]
    by_cases h4 : n < 4
    · rw [if_pos h4]
      simp only [wpSs, wpS, wpE, wpEs, wpO, wpC, wpT, wpTg, wpTs, wpI, wipeU, startU, z_cell, z_slot, z_int, z_bl, z_tup, z_fn, z_lst, z_nil, z_cons, z_opt, z_optu, z_srct, z_srcl, z_bopi, z_bopt, z_bopl, z_bopm, z_add, z_sub, z_mul, z_div, z_mod, z_pow, z_auga, z_augs, z_augd, z_eqii, z_eqss, z_eqbb, z_eqtt, z_eqll, z_ceq, z_cne, z_clt, z_cle, z_cgt, z_cge, z_cin, z_cni, z_int_t, z_trn, z_trb, z_tri, z_trt, z_trl, z_ixt, z_ixl, z_slt, z_sll, z_sls, z_lent, z_lenl, z_abs, z_max, z_min, z_toi, z_tob, z_tut, z_tul, z_lit, z_lil, z_any, z_all, z_sum, z_app, z_set, z_isn, z_isb, z_isi, z_iss, z_ist, z_isl, z_revl, isNon, atI_0, atI_1, atI_2, atI_3, ixN_1, ixN_2, ixN_3, List.map_cons, List.map_nil, List.length_cons, List.length_nil, List.replicate, List.cons_append, List.nil_append, List.append_nil, List.set_cons_zero, List.set_cons_succ, List.getElem?_cons_zero, List.getElem?_cons_succ, Nat.reduceAdd, Nat.reduceSub, Nat.reduceLT, Nat.reduceLeDiff, Nat.reduceEqDiff, Int.reduceNeg, Int.reduceAdd, Int.reduceSub, Int.reduceMul, Int.reducePow, Int.reduceToNat, Int.reduceLT, Int.reduceLE, Int.reduceEq, if_true, if_false, Bool.false_eq_true, decide_true, decide_false, true_and, and_true, Bool.not_true, Bool.not_false, List.set_nil, List.length_set, ne_eq, not_false_eq_true, reduceCtorEq, and_self, List.isEmpty_cons, List.isEmpty_nil, List.length_map, List.set_set, decide_eq_true_eq, decide_eq_true h1]
      exact hQ
    · rw [if_neg h4]
      have h5 := hp.2.2 2 (by decide) (by omega)
      simp only [wpSs, wpS, wpE, wpEs, wpO, wpC, wpT, wpTg, wpTs, wpI, wipeU, startU, z_cell, z_slot, z_int, z_bl, z_tup, z_fn, z_lst, z_nil, z_cons, z_opt, z_optu, z_srct, z_srcl, z_bopi, z_bopt, z_bopl, z_bopm, z_add, z_sub, z_mul, z_div, z_mod, z_pow, z_auga, z_augs, z_augd, z_eqii, z_eqss, z_eqbb, z_eqtt, z_eqll, z_ceq, z_cne, z_clt, z_cle, z_cgt, z_cge, z_cin, z_cni, z_int_t, z_trn, z_trb, z_tri, z_trt, z_trl, z_ixt, z_ixl, z_slt, z_sll, z_sls, z_lent, z_lenl, z_abs, z_max, z_min, z_toi, z_tob, z_tut, z_tul, z_lit, z_lil, z_any, z_all, z_sum, z_app, z_set, z_isn, z_isb, z_isi, z_iss, z_ist, z_isl, z_revl, isNon, atI_0, atI_1, atI_2, atI_3, ixN_1, ixN_2, ixN_3, List.map_cons, List.map_nil, List.length_cons, List.length_nil, List.replicate, List.cons_append, List.nil_append, List.append_nil, List.set_cons_zero, List.set_cons_succ, List.getElem?_cons_zero, List.getElem?_cons_succ, Nat.reduceAdd, Nat.reduceSub, Nat.reduceLT, Nat.reduceLeDiff, Nat.reduceEqDiff, Int.reduceNeg, Int.reduceAdd, Int.reduceSub, Int.reduceMul, Int.reducePow, Int.reduceToNat, Int.reduceLT, Int.reduceLE, Int.reduceEq, if_true, if_false, Bool.false_eq_true, decide_true, decide_false, true_and, and_true, Bool.not_true, Bool.not_false, List.set_nil, List.length_set, ne_eq, not_false_eq_true, reduceCtorEq, and_self, List.isEmpty_cons, List.isEmpty_nil, List.length_map, List.set_set, decide_eq_true_eq, h5]
      refine whl_ind (n := (n + 2 - 3).toNat) (fun m σ S3 => S3 = S ∧ ∃ k : Int, σ = [some (.int n), some (.int k)] ∧ 3 ≤ k ∧ k ≤ 300 ∧ m = (n + 2 - k).toNat) ⟨rfl, 3, rfl, by decide, by decide, rfl⟩ ?_
      rintro m σ S3 k2 ⟨rfl, k, rfl, k3, k4, rfl⟩ hk
      simp only [wpSs, wpS, wpE, wpEs, wpO, wpC, wpT, wpTg, wpTs, wpI, wipeU, startU, z_cell, z_slot, z_int, z_bl, z_tup, z_fn, z_lst, z_nil, z_cons, z_opt, z_optu, z_srct, z_srcl, z_bopi, z_bopt, z_bopl, z_bopm, z_add, z_sub, z_mul, z_div, z_mod, z_pow, z_auga, z_augs, z_augd, z_eqii, z_eqss, z_eqbb, z_eqtt, z_eqll, z_ceq, z_cne, z_clt, z_cle, z_cgt, z_cge, z_cin, z_cni, z_int_t, z_trn, z_trb, z_tri, z_trt, z_trl, z_ixt, z_ixl, z_slt, z_sll, z_sls, z_lent, z_lenl, z_abs, z_max, z_min, z_toi, z_tob, z_tut, z_tul, z_lit, z_lil, z_any, z_all, z_sum, z_app, z_set, z_isn, z_isb, z_isi, z_iss, z_ist, z_isl, z_revl, isNon, atI_0, atI_1, atI_2, atI_3, ixN_1, ixN_2, ixN_3, List.map_cons, List.map_nil, List.length_cons, List.length_nil, List.replicate, List.cons_append, List.nil_append, List.append_nil, List.set_cons_zero, List.set_cons_succ, List.getElem?_cons_zero, List.getElem?_cons_succ, Nat.reduceAdd, Nat.reduceSub, Nat.reduceLT, Nat.reduceLeDiff, Nat.reduceEqDiff, Int.reduceNeg, Int.reduceAdd, Int.reduceSub, Int.reduceMul, Int.reducePow, Int.reduceToNat, Int.reduceLT, Int.reduceLE, Int.reduceEq, if_true, if_false, Bool.false_eq_true, decide_true, decide_false, true_and, and_true, Bool.not_true, Bool.not_false, List.set_nil, List.length_set, ne_eq, not_false_eq_true, reduceCtorEq, and_self, List.isEmpty_cons, List.isEmpty_nil, List.length_map, List.set_set, decide_eq_true_eq]
      refine ⟨mul_ok (by omega) (by omega), ?_⟩
      by_cases hs : k * k ≤ n
      · have h6 := hp.2.2 k (by omega) hs
        have hkn : k < 256 := by
          apply Int.lt_of_not_ge
          intro h
          have : 256 * 256 ≤ k * k := Int.mul_le_mul h h (by decide) (by omega)
          omega
        have hkk : k ≤ n := by
          have : k * 1 ≤ k * k := Int.mul_le_mul_of_nonneg_left (by omega) (by omega)
          omega
        simp only [wpSs, wpS, wpE, wpEs, wpO, wpC, wpT, wpTg, wpTs, wpI, wipeU, startU, z_cell, z_slot, z_int, z_bl, z_tup, z_fn, z_lst, z_nil, z_cons, z_opt, z_optu, z_srct, z_srcl, z_bopi, z_bopt, z_bopl, z_bopm, z_add, z_sub, z_mul, z_div, z_mod, z_pow, z_auga, z_augs, z_augd, z_eqii, z_eqss, z_eqbb, z_eqtt, z_eqll, z_ceq, z_cne, z_clt, z_cle, z_cgt, z_cge, z_cin, z_cni, z_int_t, z_trn, z_trb, z_tri, z_trt, z_trl, z_ixt, z_ixl, z_slt, z_sll, z_sls, z_lent, z_lenl, z_abs, z_max, z_min, z_toi, z_tob, z_tut, z_tul, z_lit, z_lil, z_any, z_all, z_sum, z_app, z_set, z_isn, z_isb, z_isi, z_iss, z_ist, z_isl, z_revl, isNon, atI_0, atI_1, atI_2, atI_3, ixN_1, ixN_2, ixN_3, List.map_cons, List.map_nil, List.length_cons, List.length_nil, List.replicate, List.cons_append, List.nil_append, List.append_nil, List.set_cons_zero, List.set_cons_succ, List.getElem?_cons_zero, List.getElem?_cons_succ, Nat.reduceAdd, Nat.reduceSub, Nat.reduceLT, Nat.reduceLeDiff, Nat.reduceEqDiff, Int.reduceNeg, Int.reduceAdd, Int.reduceSub, Int.reduceMul, Int.reducePow, Int.reduceToNat, Int.reduceLT, Int.reduceLE, Int.reduceEq, if_true, if_false, Bool.false_eq_true, decide_true, decide_false, true_and, and_true, Bool.not_true, Bool.not_false, List.set_nil, List.length_set, ne_eq, not_false_eq_true, reduceCtorEq, and_self, List.isEmpty_cons, List.isEmpty_nil, List.length_map, List.set_set, decide_eq_true_eq, hs, h6]
        exact ⟨by omega, hk (n + 2 - (k + 2)).toNat _ _ (by omega) ⟨rfl, k + 2, rfl, by omega, by omega, rfl⟩⟩
      · simp only [wpSs, wpS, wpE, wpEs, wpO, wpC, wpT, wpTg, wpTs, wpI, wipeU, startU, z_cell, z_slot, z_int, z_bl, z_tup, z_fn, z_lst, z_nil, z_cons, z_opt, z_optu, z_srct, z_srcl, z_bopi, z_bopt, z_bopl, z_bopm, z_add, z_sub, z_mul, z_div, z_mod, z_pow, z_auga, z_augs, z_augd, z_eqii, z_eqss, z_eqbb, z_eqtt, z_eqll, z_ceq, z_cne, z_clt, z_cle, z_cgt, z_cge, z_cin, z_cni, z_int_t, z_trn, z_trb, z_tri, z_trt, z_trl, z_ixt, z_ixl, z_slt, z_sll, z_sls, z_lent, z_lenl, z_abs, z_max, z_min, z_toi, z_tob, z_tut, z_tul, z_lit, z_lil, z_any, z_all, z_sum, z_app, z_set, z_isn, z_isb, z_isi, z_iss, z_ist, z_isl, z_revl, isNon, atI_0, atI_1, atI_2, atI_3, ixN_1, ixN_2, ixN_3, List.map_cons, List.map_nil, List.length_cons, List.length_nil, List.replicate, List.cons_append, List.nil_append, List.append_nil, List.set_cons_zero, List.set_cons_succ, List.getElem?_cons_zero, List.getElem?_cons_succ, Nat.reduceAdd, Nat.reduceSub, Nat.reduceLT, Nat.reduceLeDiff, Nat.reduceEqDiff, Int.reduceNeg, Int.reduceAdd, Int.reduceSub, Int.reduceMul, Int.reducePow, Int.reduceToNat, Int.reduceLT, Int.reduceLE, Int.reduceEq, if_true, if_false, Bool.false_eq_true, decide_true, decide_false, true_and, and_true, Bool.not_true, Bool.not_false, List.set_nil, List.length_set, ne_eq, not_false_eq_true, reduceCtorEq, and_self, List.isEmpty_cons, List.isEmpty_nil, List.length_map, List.set_set, decide_eq_true_eq, hs]
        exact hQ
  · have e : (4 : Int).fmod 2 = 0 := by decide
    simp only [wpSs, wpS, wpE, wpEs, wpO, wpC, wpT, wpTg, wpTs, wpI, wipeU, startU, z_cell, z_slot, z_int, z_bl, z_tup, z_fn, z_lst, z_nil, z_cons, z_opt, z_optu, z_srct, z_srcl, z_bopi, z_bopt, z_bopl, z_bopm, z_add, z_sub, z_mul, z_div, z_mod, z_pow, z_auga, z_augs, z_augd, z_eqii, z_eqss, z_eqbb, z_eqtt, z_eqll, z_ceq, z_cne, z_clt, z_cle, z_cgt, z_cge, z_cin, z_cni, z_int_t, z_trn, z_trb, z_tri, z_trt, z_trl, z_ixt, z_ixl, z_slt, z_sll, z_sls, z_lent, z_lenl, z_abs, z_max, z_min, z_toi, z_tob, z_tut, z_tul, z_lit, z_lil, z_any, z_all, z_sum, z_app, z_set, z_isn, z_isb, z_isi, z_iss, z_ist, z_isl, z_revl, isNon, atI_0, atI_1, atI_2, atI_3, ixN_1, ixN_2, ixN_3, List.map_cons, List.map_nil, List.length_cons, List.length_nil, List.replicate, List.cons_append, List.nil_append, List.append_nil, List.set_cons_zero, List.set_cons_succ, List.getElem?_cons_zero, List.getElem?_cons_succ, Nat.reduceAdd, Nat.reduceSub, Nat.reduceLT, Nat.reduceLeDiff, Nat.reduceEqDiff, Int.reduceNeg, Int.reduceAdd, Int.reduceSub, Int.reduceMul, Int.reducePow, Int.reduceToNat, Int.reduceLT, Int.reduceLE, Int.reduceEq, if_true, if_false, Bool.false_eq_true, decide_true, decide_false, true_and, and_true, Bool.not_true, Bool.not_false, List.set_nil, List.length_set, ne_eq, not_false_eq_true, reduceCtorEq, and_self, List.isEmpty_cons, List.isEmpty_nil, List.length_map, List.set_set, decide_eq_true_eq, n_is_prime, i_is_prime, e]
    exact hQ
  · have e : (561 : Int).fmod 2 = 1 := by decide
    have e3 : (561 : Int).fmod 3 = 0 := by decide
    simp only [wpSs, wpS, wpE, wpEs, wpO, wpC, wpT, wpTg, wpTs, wpI, wipeU, startU, z_cell, z_slot, z_int, z_bl, z_tup, z_fn, z_lst, z_nil, z_cons, z_opt, z_optu, z_srct, z_srcl, z_bopi, z_bopt, z_bopl, z_bopm, z_add, z_sub, z_mul, z_div, z_mod, z_pow, z_auga, z_augs, z_augd, z_eqii, z_eqss, z_eqbb, z_eqtt, z_eqll, z_ceq, z_cne, z_clt, z_cle, z_cgt, z_cge, z_cin, z_cni, z_int_t, z_trn, z_trb, z_tri, z_trt, z_trl, z_ixt, z_ixl, z_slt, z_sll, z_sls, z_lent, z_lenl, z_abs, z_max, z_min, z_toi, z_tob, z_tut, z_tul, z_lit, z_lil, z_any, z_all, z_sum, z_app, z_set, z_isn, z_isb, z_isi, z_iss, z_ist, z_isl, z_revl, isNon, atI_0, atI_1, atI_2, atI_3, ixN_1, ixN_2, ixN_3, List.map_cons, List.map_nil, List.length_cons, List.length_nil, List.replicate, List.cons_append, List.nil_append, List.append_nil, List.set_cons_zero, List.set_cons_succ, List.getElem?_cons_zero, List.getElem?_cons_succ, Nat.reduceAdd, Nat.reduceSub, Nat.reduceLT, Nat.reduceLeDiff, Nat.reduceEqDiff, Int.reduceNeg, Int.reduceAdd, Int.reduceSub, Int.reduceMul, Int.reducePow, Int.reduceToNat, Int.reduceLT, Int.reduceLE, Int.reduceEq, if_true, if_false, Bool.false_eq_true, decide_true, decide_false, true_and, and_true, Bool.not_true, Bool.not_false, List.set_nil, List.length_set, ne_eq, not_false_eq_true, reduceCtorEq, and_self, List.isEmpty_cons, List.isEmpty_nil, List.length_map, List.set_set, decide_eq_true_eq, n_is_prime, i_is_prime, e]
    refine ⟨1, ?_⟩
    unfold whlN
    simp only [wpSs, wpS, wpE, wpEs, wpO, wpC, wpT, wpTg, wpTs, wpI, wipeU, startU, z_cell, z_slot, z_int, z_bl, z_tup, z_fn, z_lst, z_nil, z_cons, z_opt, z_optu, z_srct, z_srcl, z_bopi, z_bopt, z_bopl, z_bopm, z_add, z_sub, z_mul, z_div, z_mod, z_pow, z_auga, z_augs, z_augd, z_eqii, z_eqss, z_eqbb, z_eqtt, z_eqll, z_ceq, z_cne, z_clt, z_cle, z_cgt, z_cge, z_cin, z_cni, z_int_t, z_trn, z_trb, z_tri, z_trt, z_trl, z_ixt, z_ixl, z_slt, z_sll, z_sls, z_lent, z_lenl, z_abs, z_max, z_min, z_toi, z_tob, z_tut, z_tul, z_lit, z_lil, z_any, z_all, z_sum, z_app, z_set, z_isn, z_isb, z_isi, z_iss, z_ist, z_isl, z_revl, isNon, atI_0, atI_1, atI_2, atI_3, ixN_1, ixN_2, ixN_3, List.map_cons, List.map_nil, List.length_cons, List.length_nil, List.replicate, List.cons_append, List.nil_append, List.append_nil, List.set_cons_zero, List.set_cons_succ, List.getElem?_cons_zero, List.getElem?_cons_succ, Nat.reduceAdd, Nat.reduceSub, Nat.reduceLT, Nat.reduceLeDiff, Nat.reduceEqDiff, Int.reduceNeg, Int.reduceAdd, Int.reduceSub, Int.reduceMul, Int.reducePow, Int.reduceToNat, Int.reduceLT, Int.reduceLE, Int.reduceEq, if_true, if_false, Bool.false_eq_true, decide_true, decide_false, true_and, and_true, Bool.not_true, Bool.not_false, List.set_nil, List.length_set, ne_eq, not_false_eq_true, reduceCtorEq, and_self, List.isEmpty_cons, List.isEmpty_nil, List.length_map, List.set_set, decide_eq_true_eq, e3]
    exact ⟨mul_ok (by decide) (by decide), hQ⟩
theorem t_ii : (("int" : String) == "int") = true := by decide
theorem t_ib : (("int" : String) == "bool") = false := by decide
theorem t_bi : (("bool" : String) == "int") = false := by decide
theorem t_bb : (("bool" : String) == "bool") = true := by decide
theorem t_is : (("int" : String) == "str") = false := by decide
theorem t_tt : (("tuple" : String) == "tuple") = true := by decide
theorem t_ti : (("tuple" : String) == "int") = false := by decide
theorem t_tb : (("tuple" : String) == "bool") = false := by decide
theorem t_ts : (("tuple" : String) == "str") = false := by decide
theorem t_tn : (("tuple" : String) == "NoneType") = false := by decide
theorem t_ss : (("str" : String) == "str") = true := by decide
def spIsInteger : FSpec := fun us S Q _ => (∃ n, us = [.int n] ∧ Q (.bl true) S) ∨ (∃ b, us = [.bl b] ∧ Q (.bl false) S) ∨ (∃ s, us = [.str s] ∧ Q (.bl false) S)
theorem w_is_integer (G : Gm) : Pf G n_is_integer i_is_integer spIsInteger := by
  intro us S Q X h
  rcases h with ⟨n, rfl, hQ⟩ | ⟨n, rfl, hQ⟩ | ⟨n, rfl, hQ⟩
  · simp only [wpSs, wpS, wpE, wpEs, wpO, wpC, wpT, wpTg, wpTs, wpI, wipeU, startU, z_cell, z_slot, z_int, z_bl, z_tup, z_fn, z_lst, z_nil, z_cons, z_opt, z_optu, z_srct, z_srcl, z_bopi, z_bopt, z_bopl, z_bopm, z_add, z_sub, z_mul, z_div, z_mod, z_pow, z_auga, z_augs, z_augd, z_eqii, z_eqss, z_eqbb, z_eqtt, z_eqll, z_ceq, z_cne, z_clt, z_cle, z_cgt, z_cge, z_cin, z_cni, z_int_t, z_trn, z_trb, z_tri, z_trt, z_trl, z_ixt, z_ixl, z_slt, z_sll, z_sls, z_lent, z_lenl, z_abs, z_max, z_min, z_toi, z_tob, z_tut, z_tul, z_lit, z_lil, z_any, z_all, z_sum, z_app, z_set, z_isn, z_isb, z_isi, z_iss, z_ist, z_isl, z_revl, isNon, atI_0, atI_1, atI_2, atI_3, ixN_1, ixN_2, ixN_3, List.map_cons, List.map_nil, List.length_cons, List.length_nil, List.replicate, List.cons_append, List.nil_append, List.append_nil, List.set_cons_zero, List.set_cons_succ, List.getElem?_cons_zero, List.getElem?_cons_succ, Nat.reduceAdd, Nat.reduceSub, Nat.reduceLT, Nat.reduceLeDiff, Nat.reduceEqDiff, Int.reduceNeg, Int.reduceAdd, Int.reduceSub, Int.reduceMul, Int.reducePow, Int.reduceToNat, Int.reduceLT, Int.reduceLE, Int.reduceEq, if_true, if_false, Bool.false_eq_true, decide_true, decide_false, true_and, and_true, Bool.not_true, Bool.not_false, List.set_nil, List.length_set, ne_eq, not_false_eq_true, reduceCtorEq, and_self, List.isEmpty_cons, List.isEmpty_nil, List.length_map, List.set_set, decide_eq_true_eq, n_is_integer, i_is_integer, t_ii, t_bi]
    exact hQ
  · simp only [wpSs, wpS, wpE, wpEs, wpO, wpC, wpT, wpTg, wpTs, wpI, wipeU, startU, z_cell, z_slot, z_int, z_bl, z_tup, z_fn, z_lst, z_nil, z_cons, z_opt, z_optu, z_srct, z_srcl, z_bopi, z_bopt, z_bopl, z_bopm, z_add, z_sub, z_mul, z_div, z_mod, z_pow, z_auga, z_augs, z_augd, z_eqii, z_eqss, z_eqbb, z_eqtt, z_eqll, z_ceq, z_cne, z_clt, z_cle, z_cgt, z_cge, z_cin, z_cni, z_int_t, z_trn, z_trb, z_tri, z_trt, z_trl, z_ixt, z_ixl, z_slt, z_sll, z_sls, z_lent, z_lenl, z_abs, z_max, z_min, z_toi, z_tob, z_tut, z_tul, z_lit, z_lil, z_any, z_all, z_sum, z_app, z_set, z_isn, z_isb, z_isi, z_iss, z_ist, z_isl, z_revl, isNon, atI_0, atI_1, atI_2, atI_3, ixN_1, ixN_2, ixN_3, List.map_cons, List.map_nil, List.length_cons, List.length_nil, List.replicate, List.cons_append, List.nil_append, List.append_nil, List.set_cons_zero, List.set_cons_succ, List.getElem?_cons_zero, List.getElem?_cons_succ, Nat.reduceAdd, Nat.reduceSub, Nat.reduceLT, Nat.reduceLeDiff, Nat.reduceEqDiff, Int.reduceNeg, Int.reduceAdd, Int.reduceSub, Int.reduceMul, Int.reducePow, Int.reduceToNat, Int.reduceLT, Int.reduceLE, Int.reduceEq, if_true, if_false, Bool.false_eq_true, decide_true, decide_false, true_and, and_true, Bool.not_true, Bool.not_false, List.set_nil, List.length_set, ne_eq, not_false_eq_true, reduceCtorEq, and_self, List.isEmpty_cons, List.isEmpty_nil, List.length_map, List.set_set, decide_eq_true_eq, n_is_integer, i_is_integer, t_ii, t_bi, t_ib, t_bb, Bool.or_true, Bool.true_or]
    exact hQ
  · simp only [wpSs, wpS, wpE, wpEs, wpO, wpC, wpT, wpTg, wpTs, wpI, wipeU, startU, z_cell, z_slot, z_int, z_bl, z_tup, z_fn, z_lst, z_nil, z_cons, z_opt, z_optu, z_srct, z_srcl, z_bopi, z_bopt, z_bopl, z_bopm, z_add, z_sub, z_mul, z_div, z_mod, z_pow, z_auga, z_augs, z_augd, z_eqii, z_eqss, z_eqbb, z_eqtt, z_eqll, z_ceq, z_cne, z_clt, z_cle, z_cgt, z_cge, z_cin, z_cni, z_int_t, z_trn, z_trb, z_tri, z_trt, z_trl, z_ixt, z_ixl, z_slt, z_sll, z_sls, z_lent, z_lenl, z_abs, z_max, z_min, z_toi, z_tob, z_tut, z_tul, z_lit, z_lil, z_any, z_all, z_sum, z_app, z_set, z_isn, z_isb, z_isi, z_iss, z_ist, z_isl, z_revl, isNon, atI_0, atI_1, atI_2, atI_3, ixN_1, ixN_2, ixN_3, List.map_cons, List.map_nil, List.length_cons, List.length_nil, List.replicate, List.cons_append, List.nil_append, List.append_nil, List.set_cons_zero, List.set_cons_succ, List.getElem?_cons_zero, List.getElem?_cons_succ, Nat.reduceAdd, Nat.reduceSub, Nat.reduceLT, Nat.reduceLeDiff, Nat.reduceEqDiff, Int.reduceNeg, Int.reduceAdd, Int.reduceSub, Int.reduceMul, Int.reducePow, Int.reduceToNat, Int.reduceLT, Int.reduceLE, Int.reduceEq, if_true, if_false, Bool.false_eq_true, decide_true, decide_false, true_and, and_true, Bool.not_true, Bool.not_false, List.set_nil, List.length_set, ne_eq, not_false_eq_true, reduceCtorEq, and_self, List.isEmpty_cons, List.isEmpty_nil, List.length_map, List.set_set, decide_eq_true_eq, n_is_integer, i_is_integer, t_is]
    exact hQ
def spIsField : FSpec := fun us S Q _ => ∃ d, us = [d] ∧ ((FieldU d ∧ Q (.bl true) S) ∨ (NoF d ∧ Q (.bl false) S))
theorem w_is_field (G : Gm) (hI : Has G "is_integer" spIsInteger) (hP : Has G "is_prime" spIsPrime) (hM : G.cts "MOST_PRIME" = some (.int 65521)) : Pf G n_is_field i_is_field spIsField := by
  intro us S Q X h
  obtain ⟨sI, eI, hI⟩ := hI
  obtain ⟨sP, eP, hP⟩ := hP
  obtain ⟨d, rfl, ⟨hd, hQ⟩ | ⟨hd, hQ⟩⟩ := h
  · rcases hd with rfl | ⟨p, rfl, hp⟩
    · simp only [wpSs, wpS, wpE, wpEs, wpO, wpC, wpT, wpTg, wpTs, wpI, wipeU, startU, z_cell, z_slot, z_int, z_bl, z_tup, z_fn, z_lst, z_nil, z_cons, z_opt, z_optu, z_srct, z_srcl, z_bopi, z_bopt, z_bopl, z_bopm, z_add, z_sub, z_mul, z_div, z_mod, z_pow, z_auga, z_augs, z_augd, z_eqii, z_eqss, z_eqbb, z_eqtt, z_eqll, z_ceq, z_cne, z_clt, z_cle, z_cgt, z_cge, z_cin, z_cni, z_int_t, z_trn, z_trb, z_tri, z_trt, z_trl, z_ixt, z_ixl, z_slt, z_sll, z_sls, z_lent, z_lenl, z_abs, z_max, z_min, z_toi, z_tob, z_tut, z_tul, z_lit, z_lil, z_any, z_all, z_sum, z_app, z_set, z_isn, z_isb, z_isi, z_iss, z_ist, z_isl, z_revl, isNon, atI_0, atI_1, atI_2, atI_3, ixN_1, ixN_2, ixN_3, List.map_cons, List.map_nil, List.length_cons, List.length_nil, List.replicate, List.cons_append, List.nil_append, List.append_nil, List.set_cons_zero, List.set_cons_succ, List.getElem?_cons_zero, List.getElem?_cons_succ, Nat.reduceAdd, Nat.reduceSub, Nat.reduceLT, Nat.reduceLeDiff, Nat.reduceEqDiff, Int.reduceNeg, Int.reduceAdd, Int.reduceSub, Int.reduceMul, Int.reducePow, Int.reduceToNat, Int.reduceLT, Int.reduceLE, Int.reduceEq, if_true, if_false, Bool.false_eq_true, decide_true, decide_false, true_and, and_true, Bool.not_true, Bool.not_false, List.set_nil, List.length_set, ne_eq, not_false_eq_true, reduceCtorEq, and_self, List.isEmpty_cons, List.isEmpty_nil, List.length_map, List.set_set, decide_eq_true_eq, n_is_field, i_is_field, t_tt, t_ss, s_QQ]
      exact hQ
    · simp only [wpSs, wpS, wpE, wpEs, wpO, wpC, wpT, wpTg, wpTs, wpI, wipeU, startU, z_cell, z_slot, z_int, z_bl, z_tup, z_fn, z_lst, z_nil, z_cons, z_opt, z_optu, z_srct, z_srcl, z_bopi, z_bopt, z_bopl, z_bopm, z_add, z_sub, z_mul, z_div, z_mod, z_pow, z_auga, z_augs, z_augd, z_eqii, z_eqss, z_eqbb, z_eqtt, z_eqll, z_ceq, z_cne, z_clt, z_cle, z_cgt, z_cge, z_cin, z_cni, z_int_t, z_trn, z_trb, z_tri, z_trt, z_trl, z_ixt, z_ixl, z_slt, z_sll, z_sls, z_lent, z_lenl, z_abs, z_max, z_min, z_toi, z_tob, z_tut, z_tul, z_lit, z_lil, z_any, z_all, z_sum, z_app, z_set, z_isn, z_isb, z_isi, z_iss, z_ist, z_isl, z_revl, isNon, atI_0, atI_1, atI_2, atI_3, ixN_1, ixN_2, ixN_3, List.map_cons, List.map_nil, List.length_cons, List.length_nil, List.replicate, List.cons_append, List.nil_append, List.append_nil, List.set_cons_zero, List.set_cons_succ, List.getElem?_cons_zero, List.getElem?_cons_succ, Nat.reduceAdd, Nat.reduceSub, Nat.reduceLT, Nat.reduceLeDiff, Nat.reduceEqDiff, Int.reduceNeg, Int.reduceAdd, Int.reduceSub, Int.reduceMul, Int.reducePow, Int.reduceToNat, Int.reduceLT, Int.reduceLE, Int.reduceEq, if_true, if_false, Bool.false_eq_true, decide_true, decide_false, true_and, and_true, Bool.not_true, Bool.not_false, List.set_nil, List.length_set, ne_eq, not_false_eq_true, reduceCtorEq, and_self, List.isEmpty_cons, List.isEmpty_nil, List.length_map, List.set_set, decide_eq_true_eq, n_is_field, i_is_field, t_tt, t_ss, s_FQ, s_FF, eI, eP, hM]
      refine hI _ _ _ _ (.inl ⟨p, rfl, ?_⟩)
      simp only [wpSs, wpS, wpE, wpEs, wpO, wpC, wpT, wpTg, wpTs, wpI, wipeU, startU, z_cell, z_slot, z_int, z_bl, z_tup, z_fn, z_lst, z_nil, z_cons, z_opt, z_optu, z_srct, z_srcl, z_bopi, z_bopt, z_bopl, z_bopm, z_add, z_sub, z_mul, z_div, z_mod, z_pow, z_auga, z_augs, z_augd, z_eqii, z_eqss, z_eqbb, z_eqtt, z_eqll, z_ceq, z_cne, z_clt, z_cle, z_cgt, z_cge, z_cin, z_cni, z_int_t, z_trn, z_trb, z_tri, z_trt, z_trl, z_ixt, z_ixl, z_slt, z_sll, z_sls, z_lent, z_lenl, z_abs, z_max, z_min, z_toi, z_tob, z_tut, z_tul, z_lit, z_lil, z_any, z_all, z_sum, z_app, z_set, z_isn, z_isb, z_isi, z_iss, z_ist, z_isl, z_revl, isNon, atI_0, atI_1, atI_2, atI_3, ixN_1, ixN_2, ixN_3, List.map_cons, List.map_nil, List.length_cons, List.length_nil, List.replicate, List.cons_append, List.nil_append, List.append_nil, List.set_cons_zero, List.set_cons_succ, List.getElem?_cons_zero, List.getElem?_cons_succ, Nat.reduceAdd, Nat.reduceSub, Nat.reduceLT, Nat.reduceLeDiff, Nat.reduceEqDiff, Int.reduceNeg, Int.reduceAdd, Int.reduceSub, Int.reduceMul, Int.reducePow, Int.reduceToNat, Int.reduceLT, Int.reduceLE, Int.reduceEq, if_true, if_false, Bool.false_eq_true, decide_true, decide_false, true_and, and_true, Bool.not_true, Bool.not_false, List.set_nil, List.length_set, ne_eq, not_false_eq_true, reduceCtorEq, and_self, List.isEmpty_cons, List.isEmpty_nil, List.length_map, List.set_set, decide_eq_true_eq, hp.1, hp.2.1]
      exact hP _ _ _ _ ⟨p, rfl, .inl ⟨hp, hQ⟩⟩
  · rcases hd with ⟨s, rfl⟩ | rfl | ⟨i, rfl⟩ | ⟨b, rfl⟩ | rfl | ⟨s, r, rfl, h1, h2⟩ | ⟨x, rfl⟩ | rfl | ⟨n, rfl, hn⟩ | ⟨b, rfl⟩ | ⟨s, rfl⟩
    · simp only [wpSs, wpS, wpE, wpEs, wpO, wpC, wpT, wpTg, wpTs, wpI, wipeU, startU, z_cell, z_slot, z_int, z_bl, z_tup, z_fn, z_lst, z_nil, z_cons, z_opt, z_optu, z_srct, z_srcl, z_bopi, z_bopt, z_bopl, z_bopm, z_add, z_sub, z_mul, z_div, z_mod, z_pow, z_auga, z_augs, z_augd, z_eqii, z_eqss, z_eqbb, z_eqtt, z_eqll, z_ceq, z_cne, z_clt, z_cle, z_cgt, z_cge, z_cin, z_cni, z_int_t, z_trn, z_trb, z_tri, z_trt, z_trl, z_ixt, z_ixl, z_slt, z_sll, z_sls, z_lent, z_lenl, z_abs, z_max, z_min, z_toi, z_tob, z_tut, z_tul, z_lit, z_lil, z_any, z_all, z_sum, z_app, z_set, z_isn, z_isb, z_isi, z_iss, z_ist, z_isl, z_revl, isNon, atI_0, atI_1, atI_2, atI_3, ixN_1, ixN_2, ixN_3, List.map_cons, List.map_nil, List.length_cons, List.length_nil, List.replicate, List.cons_append, List.nil_append, List.append_nil, List.set_cons_zero, List.set_cons_succ, List.getElem?_cons_zero, List.getElem?_cons_succ, Nat.reduceAdd, Nat.reduceSub, Nat.reduceLT, Nat.reduceLeDiff, Nat.reduceEqDiff, Int.reduceNeg, Int.reduceAdd, Int.reduceSub, Int.reduceMul, Int.reducePow, Int.reduceToNat, Int.reduceLT, Int.reduceLE, Int.reduceEq, if_true, if_false, Bool.false_eq_true, decide_true, decide_false, true_and, and_true, Bool.not_true, Bool.not_false, List.set_nil, List.length_set, ne_eq, not_false_eq_true, reduceCtorEq, and_self, List.isEmpty_cons, List.isEmpty_nil, List.length_map, List.set_set, decide_eq_true_eq, n_is_field, i_is_field, t_ts]
      exact hQ
    · simp only [wpSs, wpS, wpE, wpEs, wpO, wpC, wpT, wpTg, wpTs, wpI, wipeU, startU, z_cell, z_slot, z_int, z_bl, z_tup, z_fn, z_lst, z_nil, z_cons, z_opt, z_optu, z_srct, z_srcl, z_bopi, z_bopt, z_bopl, z_bopm, z_add, z_sub, z_mul, z_div, z_mod, z_pow, z_auga, z_augs, z_augd, z_eqii, z_eqss, z_eqbb, z_eqtt, z_eqll, z_ceq, z_cne, z_clt, z_cle, z_cgt, z_cge, z_cin, z_cni, z_int_t, z_trn, z_trb, z_tri, z_trt, z_trl, z_ixt, z_ixl, z_slt, z_sll, z_sls, z_lent, z_lenl, z_abs, z_max, z_min, z_toi, z_tob, z_tut, z_tul, z_lit, z_lil, z_any, z_all, z_sum, z_app, z_set, z_isn, z_isb, z_isi, z_iss, z_ist, z_isl, z_revl, isNon, atI_0, atI_1, atI_2, atI_3, ixN_1, ixN_2, ixN_3, List.map_cons, List.map_nil, List.length_cons, List.length_nil, List.replicate, List.cons_append, List.nil_append, List.append_nil, List.set_cons_zero, List.set_cons_succ, List.getElem?_cons_zero, List.getElem?_cons_succ, Nat.reduceAdd, Nat.reduceSub, Nat.reduceLT, Nat.reduceLeDiff, Nat.reduceEqDiff, Int.reduceNeg, Int.reduceAdd, Int.reduceSub, Int.reduceMul, Int.reducePow, Int.reduceToNat, Int.reduceLT, Int.reduceLE, Int.reduceEq, if_true, if_false, Bool.false_eq_true, decide_true, decide_false, true_and, and_true, Bool.not_true, Bool.not_false, List.set_nil, List.length_set, ne_eq, not_false_eq_true, reduceCtorEq, and_self, List.isEmpty_cons, List.isEmpty_nil, List.length_map, List.set_set, decide_eq_true_eq, n_is_field, i_is_field, t_tn]
      exact hQ
    · simp only [wpSs, wpS, wpE, wpEs, wpO, wpC, wpT, wpTg, wpTs, wpI, wipeU, startU, z_cell, z_slot, z_int, z_bl, z_tup, z_fn, z_lst, z_nil, z_cons, z_opt, z_optu, z_srct, z_srcl, z_bopi, z_bopt, z_bopl, z_bopm, z_add, z_sub, z_mul, z_div, z_mod, z_pow, z_auga, z_augs, z_augd, z_eqii, z_eqss, z_eqbb, z_eqtt, z_eqll, z_ceq, z_cne, z_clt, z_cle, z_cgt, z_cge, z_cin, z_cni, z_int_t, z_trn, z_trb, z_tri, z_trt, z_trl, z_ixt, z_ixl, z_slt, z_sll, z_sls, z_lent, z_lenl, z_abs, z_max, z_min, z_toi, z_tob, z_tut, z_tul, z_lit, z_lil, z_any, z_all, z_sum, z_app, z_set, z_isn, z_isb, z_isi, z_iss, z_ist, z_isl, z_revl, isNon, atI_0, atI_1, atI_2, atI_3, ixN_1, ixN_2, ixN_3, List.map_cons, List.map_nil, List.length_cons, List.length_nil, List.replicate, List.cons_append, List.nil_append, List.append_nil, List.set_cons_zero, List.set_cons_succ, List.getElem?_cons_zero, List.getElem?_cons_succ, Nat.reduceAdd, Nat.reduceSub, Nat.reduceLT, Nat.reduceLeDiff, Nat.reduceEqDiff, Int.reduceNeg, Int.reduceAdd, Int.reduceSub, Int.reduceMul, Int.reducePow, Int.reduceToNat, Int.reduceLT, Int.reduceLE, Int.reduceEq, if_true, if_false, Bool.false_eq_true, decide_true, decide_false, true_and, and_true, Bool.not_true, Bool.not_false, List.set_nil, List.length_set, ne_eq, not_false_eq_true, reduceCtorEq, and_self, List.isEmpty_cons, List.isEmpty_nil, List.length_map, List.set_set, decide_eq_true_eq, n_is_field, i_is_field, t_ti]
      exact hQ
    · simp only [wpSs, wpS, wpE, wpEs, wpO, wpC, wpT, wpTg, wpTs, wpI, wipeU, startU, z_cell, z_slot, z_int, z_bl, z_tup, z_fn, z_lst, z_nil, z_cons, z_opt, z_optu, z_srct, z_srcl, z_bopi, z_bopt, z_bopl, z_bopm, z_add, z_sub, z_mul, z_div, z_mod, z_pow, z_auga, z_augs, z_augd, z_eqii, z_eqss, z_eqbb, z_eqtt, z_eqll, z_ceq, z_cne, z_clt, z_cle, z_cgt, z_cge, z_cin, z_cni, z_int_t, z_trn, z_trb, z_tri, z_trt, z_trl, z_ixt, z_ixl, z_slt, z_sll, z_sls, z_lent, z_lenl, z_abs, z_max, z_min, z_toi, z_tob, z_tut, z_tul, z_lit, z_lil, z_any, z_all, z_sum, z_app, z_set, z_isn, z_isb, z_isi, z_iss, z_ist, z_isl, z_revl, isNon, atI_0, atI_1, atI_2, atI_3, ixN_1, ixN_2, ixN_3, List.map_cons, List.map_nil, List.length_cons, List.length_nil, List.replicate, List.cons_append, List.nil_append, List.append_nil, List.set_cons_zero, List.set_cons_succ, List.getElem?_cons_zero, List.getElem?_cons_succ, Nat.reduceAdd, Nat.reduceSub, Nat.reduceLT, Nat.reduceLeDiff, Nat.reduceEqDiff, Int.reduceNeg, Int.reduceAdd, Int.reduceSub, Int.reduceMul, Int.reducePow, Int.reduceToNat, Int.reduceLT, Int.reduceLE, Int.reduceEq, if_true, if_false, Bool.false_eq_true, decide_true, decide_false, true_and, and_true, Bool.not_true, Bool.not_false, List.set_nil, List.length_set, ne_eq, not_false_eq_true, reduceCtorEq, and_self, List.isEmpty_cons, List.isEmpty_nil, List.length_map, List.set_set, decide_eq_true_eq, n_is_field, i_is_field, t_ti, t_tb, Bool.or_self]
      exact hQ
    · simp only [wpSs, wpS, wpE, wpEs, wpO, wpC, wpT, wpTg, wpTs, wpI, wipeU, startU, z_cell, z_slot, z_int, z_bl, z_tup, z_fn, z_lst, z_nil, z_cons, z_opt, z_optu, z_srct, z_srcl, z_bopi, z_bopt, z_bopl, z_bopm, z_add, z_sub, z_mul, z_div, z_mod, z_pow, z_auga, z_augs, z_augd, z_eqii, z_eqss, z_eqbb, z_eqtt, z_eqll, z_ceq, z_cne, z_clt, z_cle, z_cgt, z_cge, z_cin, z_cni, z_int_t, z_trn, z_trb, z_tri, z_trt, z_trl, z_ixt, z_ixl, z_slt, z_sll, z_sls, z_lent, z_lenl, z_abs, z_max, z_min, z_toi, z_tob, z_tut, z_tul, z_lit, z_lil, z_any, z_all, z_sum, z_app, z_set, z_isn, z_isb, z_isi, z_iss, z_ist, z_isl, z_revl, isNon, atI_0, atI_1, atI_2, atI_3, ixN_1, ixN_2, ixN_3, List.map_cons, List.map_nil, List.length_cons, List.length_nil, List.replicate, List.cons_append, List.nil_append, List.append_nil, List.set_cons_zero, List.set_cons_succ, List.getElem?_cons_zero, List.getElem?_cons_succ, Nat.reduceAdd, Nat.reduceSub, Nat.reduceLT, Nat.reduceLeDiff, Nat.reduceEqDiff, Int.reduceNeg, Int.reduceAdd, Int.reduceSub, Int.reduceMul, Int.reducePow, Int.reduceToNat, Int.reduceLT, Int.reduceLE, Int.reduceEq, if_true, if_false, Bool.false_eq_true, decide_true, decide_false, true_and, and_true, Bool.not_true, Bool.not_false, List.set_nil, List.length_set, ne_eq, not_false_eq_true, reduceCtorEq, and_self, List.isEmpty_cons, List.isEmpty_nil, List.length_map, List.set_set, decide_eq_true_eq, n_is_field, i_is_field, t_tt]
      exact hQ
    · simp only [wpSs, wpS, wpE, wpEs, wpO, wpC, wpT, wpTg, wpTs, wpI, wipeU, startU, z_cell, z_slot, z_int, z_bl, z_tup, z_fn, z_lst, z_nil, z_cons, z_opt, z_optu, z_srct, z_srcl, z_bopi, z_bopt, z_bopl, z_bopm, z_add, z_sub, z_mul, z_div, z_mod, z_pow, z_auga, z_augs, z_augd, z_eqii, z_eqss, z_eqbb, z_eqtt, z_eqll, z_ceq, z_cne, z_clt, z_cle, z_cgt, z_cge, z_cin, z_cni, z_int_t, z_trn, z_trb, z_tri, z_trt, z_trl, z_ixt, z_ixl, z_slt, z_sll, z_sls, z_lent, z_lenl, z_abs, z_max, z_min, z_toi, z_tob, z_tut, z_tul, z_lit, z_lil, z_any, z_all, z_sum, z_app, z_set, z_isn, z_isb, z_isi, z_iss, z_ist, z_isl, z_revl, isNon, atI_0, atI_1, atI_2, atI_3, ixN_1, ixN_2, ixN_3, List.map_cons, List.map_nil, List.length_cons, List.length_nil, List.replicate, List.cons_append, List.nil_append, List.append_nil, List.set_cons_zero, List.set_cons_succ, List.getElem?_cons_zero, List.getElem?_cons_succ, Nat.reduceAdd, Nat.reduceSub, Nat.reduceLT, Nat.reduceLeDiff, Nat.reduceEqDiff, Int.reduceNeg, Int.reduceAdd, Int.reduceSub, Int.reduceMul, Int.reducePow, Int.reduceToNat, Int.reduceLT, Int.reduceLE, Int.reduceEq, if_true, if_false, Bool.false_eq_true, decide_true, decide_false, true_and, and_true, Bool.not_true, Bool.not_false, List.set_nil, List.length_set, ne_eq, not_false_eq_true, reduceCtorEq, and_self, List.isEmpty_cons, List.isEmpty_nil, List.length_map, List.set_set, decide_eq_true_eq, n_is_field, i_is_field, t_tt, t_ss, h1, h2]
      split
      · exact hQ
      · exact hQ
    · simp only [wpSs, wpS, wpE, wpEs, wpO, wpC, wpT, wpTg, wpTs, wpI, wipeU, startU, z_cell, z_slot, z_int, z_bl, z_tup, z_fn, z_lst, z_nil, z_cons, z_opt, z_optu, z_srct, z_srcl, z_bopi, z_bopt, z_bopl, z_bopm, z_add, z_sub, z_mul, z_div, z_mod, z_pow, z_auga, z_augs, z_augd, z_eqii, z_eqss, z_eqbb, z_eqtt, z_eqll, z_ceq, z_cne, z_clt, z_cle, z_cgt, z_cge, z_cin, z_cni, z_int_t, z_trn, z_trb, z_tri, z_trt, z_trl, z_ixt, z_ixl, z_slt, z_sll, z_sls, z_lent, z_lenl, z_abs, z_max, z_min, z_toi, z_tob, z_tut, z_tul, z_lit, z_lil, z_any, z_all, z_sum, z_app, z_set, z_isn, z_isb, z_isi, z_iss, z_ist, z_isl, z_revl, isNon, atI_0, atI_1, atI_2, atI_3, ixN_1, ixN_2, ixN_3, List.map_cons, List.map_nil, List.length_cons, List.length_nil, List.replicate, List.cons_append, List.nil_append, List.append_nil, List.set_cons_zero, List.set_cons_succ, List.getElem?_cons_zero, List.getElem?_cons_succ, Nat.reduceAdd, Nat.reduceSub, Nat.reduceLT, Nat.reduceLeDiff, Nat.reduceEqDiff, Int.reduceNeg, Int.reduceAdd, Int.reduceSub, Int.reduceMul, Int.reducePow, Int.reduceToNat, Int.reduceLT, Int.reduceLE, Int.reduceEq, if_true, if_false, Bool.false_eq_true, decide_true, decide_false, true_and, and_true, Bool.not_true, Bool.not_false, List.set_nil, List.length_set, ne_eq, not_false_eq_true, reduceCtorEq, and_self, List.isEmpty_cons, List.isEmpty_nil, List.length_map, List.set_set, decide_eq_true_eq, n_is_field, i_is_field, t_tt, t_ss, s_QQ]
      exact hQ
    · simp only [wpSs, wpS, wpE, wpEs, wpO, wpC, wpT, wpTg, wpTs, wpI, wipeU, startU, z_cell, z_slot, z_int, z_bl, z_tup, z_fn, z_lst, z_nil, z_cons, z_opt, z_optu, z_srct, z_srcl, z_bopi, z_bopt, z_bopl, z_bopm, z_add, z_sub, z_mul, z_div, z_mod, z_pow, z_auga, z_augs, z_augd, z_eqii, z_eqss, z_eqbb, z_eqtt, z_eqll, z_ceq, z_cne, z_clt, z_cle, z_cgt, z_cge, z_cin, z_cni, z_int_t, z_trn, z_trb, z_tri, z_trt, z_trl, z_ixt, z_ixl, z_slt, z_sll, z_sls, z_lent, z_lenl, z_abs, z_max, z_min, z_toi, z_tob, z_tut, z_tul, z_lit, z_lil, z_any, z_all, z_sum, z_app, z_set, z_isn, z_isb, z_isi, z_iss, z_ist, z_isl, z_revl, isNon, atI_0, atI_1, atI_2, atI_3, ixN_1, ixN_2, ixN_3, List.map_cons, List.map_nil, List.length_cons, List.length_nil, List.replicate, List.cons_append, List.nil_append, List.append_nil, List.set_cons_zero, List.set_cons_succ, List.getElem?_cons_zero, List.getElem?_cons_succ, Nat.reduceAdd, Nat.reduceSub, Nat.reduceLT, Nat.reduceLeDiff, Nat.reduceEqDiff, Int.reduceNeg, Int.reduceAdd, Int.reduceSub, Int.reduceMul, Int.reducePow, Int.reduceToNat, Int.reduceLT, Int.reduceLE, Int.reduceEq, if_true, if_false, Bool.false_eq_true, decide_true, decide_false, true_and, and_true, Bool.not_true, Bool.not_false, List.set_nil, List.length_set, ne_eq, not_false_eq_true, reduceCtorEq, and_self, List.isEmpty_cons, List.isEmpty_nil, List.length_map, List.set_set, decide_eq_true_eq, n_is_field, i_is_field, t_tt, t_ss, s_FQ, s_FF]
      exact hQ
    · simp only [wpSs, wpS, wpE, wpEs, wpO, wpC, wpT, wpTg, wpTs, wpI, wipeU, startU, z_cell, z_slot, z_int, z_bl, z_tup, z_fn, z_lst, z_nil, z_cons, z_opt, z_optu, z_srct, z_srcl, z_bopi, z_bopt, z_bopl, z_bopm, z_add, z_sub, z_mul, z_div, z_mod, z_pow, z_auga, z_augs, z_augd, z_eqii, z_eqss, z_eqbb, z_eqtt, z_eqll, z_ceq, z_cne, z_clt, z_cle, z_cgt, z_cge, z_cin, z_cni, z_int_t, z_trn, z_trb, z_tri, z_trt, z_trl, z_ixt, z_ixl, z_slt, z_sll, z_sls, z_lent, z_lenl, z_abs, z_max, z_min, z_toi, z_tob, z_tut, z_tul, z_lit, z_lil, z_any, z_all, z_sum, z_app, z_set, z_isn, z_isb, z_isi, z_iss, z_ist, z_isl, z_revl, isNon, atI_0, atI_1, atI_2, atI_3, ixN_1, ixN_2, ixN_3, List.map_cons, List.map_nil, List.length_cons, List.length_nil, List.replicate, List.cons_append, List.nil_append, List.append_nil, List.set_cons_zero, List.set_cons_succ, List.getElem?_cons_zero, List.getElem?_cons_succ, Nat.reduceAdd, Nat.reduceSub, Nat.reduceLT, Nat.reduceLeDiff, Nat.reduceEqDiff, Int.reduceNeg, Int.reduceAdd, Int.reduceSub, Int.reduceMul, Int.reducePow, Int.reduceToNat, Int.reduceLT, Int.reduceLE, Int.reduceEq, if_true, if_false, Bool.false_eq_true, decide_true, decide_false, true_and, and_true, Bool.not_true, Bool.not_false, List.set_nil, List.length_set, ne_eq, not_false_eq_true, reduceCtorEq, and_self, List.isEmpty_cons, List.isEmpty_nil, List.length_map, List.set_set, decide_eq_true_eq, n_is_field, i_is_field, t_tt, t_ss, s_FQ, s_FF, eI, eP, hM]
      refine hI _ _ _ _ (.inl ⟨n, rfl, ?_⟩)
      simp only [wpSs, wpS, wpE, wpEs, wpO, wpC, wpT, wpTg, wpTs, wpI, wipeU, startU, z_cell, z_slot, z_int, z_bl, z_tup, z_fn, z_lst, z_nil, z_cons, z_opt, z_optu, z_srct, z_srcl, z_bopi, z_bopt, z_bopl, z_bopm, z_add, z_sub, z_mul, z_div, z_mod, z_pow, z_auga, z_augs, z_augd, z_eqii, z_eqss, z_eqbb, z_eqtt, z_eqll, z_ceq, z_cne, z_clt, z_cle, z_cgt, z_cge, z_cin, z_cni, z_int_t, z_trn, z_trb, z_tri, z_trt, z_trl, z_ixt, z_ixl, z_slt, z_sll, z_sls, z_lent, z_lenl, z_abs, z_max, z_min, z_toi, z_tob, z_tut, z_tul, z_lit, z_lil, z_any, z_all, z_sum, z_app, z_set, z_isn, z_isb, z_isi, z_iss, z_ist, z_isl, z_revl, isNon, atI_0, atI_1, atI_2, atI_3, ixN_1, ixN_2, ixN_3, List.map_cons, List.map_nil, List.length_cons, List.length_nil, List.replicate, List.cons_append, List.nil_append, List.append_nil, List.set_cons_zero, List.set_cons_succ, List.getElem?_cons_zero, List.getElem?_cons_succ, Nat.reduceAdd, Nat.reduceSub, Nat.reduceLT, Nat.reduceLeDiff, Nat.reduceEqDiff, Int.reduceNeg, Int.reduceAdd, Int.reduceSub, Int.reduceMul, Int.reducePow, Int.reduceToNat, Int.reduceLT, Int.reduceLE, Int.reduceEq, if_true, if_false, Bool.false_eq_true, decide_true, decide_false, true_and, and_true, Bool.not_true, Bool.not_false, List.set_nil, List.length_set, ne_eq, not_false_eq_true, reduceCtorEq, and_self, List.isEmpty_cons, List.isEmpty_nil, List.length_map, List.set_set, decide_eq_true_eq]
      by_cases h1 : 1 < n
      · simp only [wpSs, wpS, wpE, wpEs, wpO, wpC, wpT, wpTg, wpTs, wpI, wipeU, startU, z_cell, z_slot, z_int, z_bl, z_tup, z_fn, z_lst, z_nil, z_cons, z_opt, z_optu, z_srct, z_srcl, z_bopi, z_bopt, z_bopl, z_bopm, z_add, z_sub, z_mul, z_div, z_mod, z_pow, z_auga, z_augs, z_augd, z_eqii, z_eqss, z_eqbb, z_eqtt, z_eqll, z_ceq, z_cne, z_clt, z_cle, z_cgt, z_cge, z_cin, z_cni, z_int_t, z_trn, z_trb, z_tri, z_trt, z_trl, z_ixt, z_ixl, z_slt, z_sll, z_sls, z_lent, z_lenl, z_abs, z_max, z_min, z_toi, z_tob, z_tut, z_tul, z_lit, z_lil, z_any, z_all, z_sum, z_app, z_set, z_isn, z_isb, z_isi, z_iss, z_ist, z_isl, z_revl, isNon, atI_0, atI_1, atI_2, atI_3, ixN_1, ixN_2, ixN_3, List.map_cons, List.map_nil, List.length_cons, List.length_nil, List.replicate, List.cons_append, List.nil_append, List.append_nil, List.set_cons_zero, List.set_cons_succ, List.getElem?_cons_zero, List.getElem?_cons_succ, Nat.reduceAdd, Nat.reduceSub, Nat.reduceLT, Nat.reduceLeDiff, Nat.reduceEqDiff, Int.reduceNeg, Int.reduceAdd, Int.reduceSub, Int.reduceMul, Int.reducePow, Int.reduceToNat, Int.reduceLT, Int.reduceLE, Int.reduceEq, if_true, if_false, Bool.false_eq_true, decide_true, decide_false, true_and, and_true, Bool.not_true, Bool.not_false, List.set_nil, List.length_set, ne_eq, not_false_eq_true, reduceCtorEq, and_self, List.isEmpty_cons, List.isEmpty_nil, List.length_map, List.set_set, decide_eq_true_eq, h1]
        by_cases h2 : n ≤ 65521
        · simp only [wpSs, wpS, wpE, wpEs, wpO, wpC, wpT, wpTg, wpTs, wpI, wipeU, startU, z_cell, z_slot, z_int, z_bl, z_tup, z_fn, z_lst, z_nil, z_cons, z_opt, z_optu, z_srct, z_srcl, z_bopi, z_bopt, z_bopl, z_bopm, z_add, z_sub, z_mul, z_div, z_mod, z_pow, z_auga, z_augs, z_augd, z_eqii, z_eqss, z_eqbb, z_eqtt, z_eqll, z_ceq, z_cne, z_clt, z_cle, z_cgt, z_cge, z_cin, z_cni, z_int_t, z_trn, z_trb, z_tri, z_trt, z_trl, z_ixt, z_ixl, z_slt, z_sll, z_sls, z_lent, z_lenl, z_abs, z_max, z_min, z_toi, z_tob, z_tut, z_tul, z_lit, z_lil, z_any, z_all, z_sum, z_app, z_set, z_isn, z_isb, z_isi, z_iss, z_ist, z_isl, z_revl, isNon, atI_0, atI_1, atI_2, atI_3, ixN_1, ixN_2, ixN_3, List.map_cons, List.map_nil, List.length_cons, List.length_nil, List.replicate, List.cons_append, List.nil_append, List.append_nil, List.set_cons_zero, List.set_cons_succ, List.getElem?_cons_zero, List.getElem?_cons_succ, Nat.reduceAdd, Nat.reduceSub, Nat.reduceLT, Nat.reduceLeDiff, Nat.reduceEqDiff, Int.reduceNeg, Int.reduceAdd, Int.reduceSub, Int.reduceMul, Int.reducePow, Int.reduceToNat, Int.reduceLT, Int.reduceLE, Int.reduceEq, if_true, if_false, Bool.false_eq_true, decide_true, decide_false, true_and, and_true, Bool.not_true, Bool.not_false, List.set_nil, List.length_set, ne_eq, not_false_eq_true, reduceCtorEq, and_self, List.isEmpty_cons, List.isEmpty_nil, List.length_map, List.set_set, decide_eq_true_eq, h2]
          exact hP _ _ _ _ ⟨n, rfl, .inr ⟨by omega, hQ⟩⟩
        · simp only [wpSs, wpS, wpE, wpEs, wpO, wpC, wpT, wpTg, wpTs, wpI, wipeU, startU, z_cell, z_slot, z_int, z_bl, z_tup, z_fn, z_lst, z_nil, z_cons, z_opt, z_optu, z_srct, z_srcl, z_bopi, z_bopt, z_bopl, z_bopm, z_add, z_sub, z_mul, z_div, z_mod, z_pow, z_auga, z_augs, z_augd, z_eqii, z_eqss, z_eqbb, z_eqtt, z_eqll, z_ceq, z_cne, z_clt, z_cle, z_cgt, z_cge, z_cin, z_cni, z_int_t, z_trn, z_trb, z_tri, z_trt, z_trl, z_ixt, z_ixl, z_slt, z_sll, z_sls, z_lent, z_lenl, z_abs, z_max, z_min, z_toi, z_tob, z_tut, z_tul, z_lit, z_lil, z_any, z_all, z_sum, z_app, z_set, z_isn, z_isb, z_isi, z_iss, z_ist, z_isl, z_revl, isNon, atI_0, atI_1, atI_2, atI_3, ixN_1, ixN_2, ixN_3, List.map_cons, List.map_nil, List.length_cons, List.length_nil, List.replicate, List.cons_append, List.nil_append, List.append_nil, List.set_cons_zero, List.set_cons_succ, List.getElem?_cons_zero, List.getElem?_cons_succ, Nat.reduceAdd, Nat.reduceSub, Nat.reduceLT, Nat.reduceLeDiff, Nat.reduceEqDiff, Int.reduceNeg, Int.reduceAdd, Int.reduceSub, Int.reduceMul, Int.reducePow, Int.reduceToNat, Int.reduceLT, Int.reduceLE, Int.reduceEq, if_true, if_false, Bool.false_eq_true, decide_true, decide_false, true_and, and_true, Bool.not_true, Bool.not_false, List.set_nil, List.length_set, ne_eq, not_false_eq_true, reduceCtorEq, and_self, List.isEmpty_cons, List.isEmpty_nil, List.length_map, List.set_set, decide_eq_true_eq, h2]
          exact hQ
      · simp only [wpSs, wpS, wpE, wpEs, wpO, wpC, wpT, wpTg, wpTs, wpI, wipeU, startU, z_cell, z_slot, z_int, z_bl, z_tup, z_fn, z_lst, z_nil, z_cons, z_opt, z_optu, z_srct, z_srcl, z_bopi, z_bopt, z_bopl, z_bopm, z_add, z_sub, z_mul, z_div, z_mod, z_pow, z_auga, z_augs, z_augd, z_eqii, z_eqss, z_eqbb, z_eqtt, z_eqll, z_ceq, z_cne, z_clt, z_cle, z_cgt, z_cge, z_cin, z_cni, z_int_t, z_trn, z_trb, z_tri, z_trt, z_trl, z_ixt, z_ixl, z_slt, z_sll, z_sls, z_lent, z_lenl, z_abs, z_max, z_min, z_toi, z_tob, z_tut, z_tul, z_lit, z_lil, z_any, z_all, z_sum, z_app, z_set, z_isn, z_isb, z_isi, z_iss, z_ist, z_isl, z_revl, isNon, atI_0, atI_1, atI_2, atI_3, ixN_1, ixN_2, ixN_3, List.map_cons, List.map_nil, List.length_cons, List.length_nil, List.replicate, List.cons_append, List.nil_append, List.append_nil, List.set_cons_zero, List.set_cons_succ, List.getElem?_cons_zero, List.getElem?_cons_succ, Nat.reduceAdd, Nat.reduceSub, Nat.reduceLT, Nat.reduceLeDiff, Nat.reduceEqDiff, Int.reduceNeg, Int.reduceAdd, Int.reduceSub, Int.reduceMul, Int.reducePow, Int.reduceToNat, Int.reduceLT, Int.reduceLE, Int.reduceEq, if_true, if_false, Bool.false_eq_true, decide_true, decide_false, true_and, and_true, Bool.not_true, Bool.not_false, List.set_nil, List.length_set, ne_eq, not_false_eq_true, reduceCtorEq, and_self, List.isEmpty_cons, List.isEmpty_nil, List.length_map, List.set_set, decide_eq_true_eq, h1]
        exact hQ
    · simp only [wpSs, wpS, wpE, wpEs, wpO, wpC, wpT, wpTg, wpTs, wpI, wipeU, startU, z_cell, z_slot, z_int, z_bl, z_tup, z_fn, z_lst, z_nil, z_cons, z_opt, z_optu, z_srct, z_srcl, z_bopi, z_bopt, z_bopl, z_bopm, z_add, z_sub, z_mul, z_div, z_mod, z_pow, z_auga, z_augs, z_augd, z_eqii, z_eqss, z_eqbb, z_eqtt, z_eqll, z_ceq, z_cne, z_clt, z_cle, z_cgt, z_cge, z_cin, z_cni, z_int_t, z_trn, z_trb, z_tri, z_trt, z_trl, z_ixt, z_ixl, z_slt, z_sll, z_sls, z_lent, z_lenl, z_abs, z_max, z_min, z_toi, z_tob, z_tut, z_tul, z_lit, z_lil, z_any, z_all, z_sum, z_app, z_set, z_isn, z_isb, z_isi, z_iss, z_ist, z_isl, z_revl, isNon, atI_0, atI_1, atI_2, atI_3, ixN_1, ixN_2, ixN_3, List.map_cons, List.map_nil, List.length_cons, List.length_nil, List.replicate, List.cons_append, List.nil_append, List.append_nil, List.set_cons_zero, List.set_cons_succ, List.getElem?_cons_zero, List.getElem?_cons_succ, Nat.reduceAdd, Nat.reduceSub, Nat.reduceLT, Nat.reduceLeDiff, Nat.reduceEqDiff, Int.reduceNeg, Int.reduceAdd, Int.reduceSub, Int.reduceMul, Int.reducePow, Int.reduceToNat, Int.reduceLT, Int.reduceLE, Int.reduceEq, if_true, if_false, Bool.false_eq_true, decide_true, decide_false, true_and, and_true, Bool.not_true, Bool.not_false, List.set_nil, List.length_set, ne_eq, not_false_eq_true, reduceCtorEq, and_self, List.isEmpty_cons, List.isEmpty_nil, List.length_map, List.set_set, decide_eq_true_eq, n_is_field, i_is_field, t_tt, t_ss, s_FQ, s_FF, eI, eP, hM]
      refine hI _ _ _ _ (.inr (.inl ⟨b, rfl, ?_⟩))
      simp only [wpSs, wpS, wpE, wpEs, wpO, wpC, wpT, wpTg, wpTs, wpI, wipeU, startU, z_cell, z_slot, z_int, z_bl, z_tup, z_fn, z_lst, z_nil, z_cons, z_opt, z_optu, z_srct, z_srcl, z_bopi, z_bopt, z_bopl, z_bopm, z_add, z_sub, z_mul, z_div, z_mod, z_pow, z_auga, z_augs, z_augd, z_eqii, z_eqss, z_eqbb, z_eqtt, z_eqll, z_ceq, z_cne, z_clt, z_cle, z_cgt, z_cge, z_cin, z_cni, z_int_t, z_trn, z_trb, z_tri, z_trt, z_trl, z_ixt, z_ixl, z_slt, z_sll, z_sls, z_lent, z_lenl, z_abs, z_max, z_min, z_toi, z_tob, z_tut, z_tul, z_lit, z_lil, z_any, z_all, z_sum, z_app, z_set, z_isn, z_isb, z_isi, z_iss, z_ist, z_isl, z_revl, isNon, atI_0, atI_1, atI_2, atI_3, ixN_1, ixN_2, ixN_3, List.map_cons, List.map_nil, List.length_cons, List.length_nil, List.replicate, List.cons_append, List.nil_append, List.append_nil, List.set_cons_zero, List.set_cons_succ, List.getElem?_cons_zero, List.getElem?_cons_succ, Nat.reduceAdd, Nat.reduceSub, Nat.reduceLT, Nat.reduceLeDiff, Nat.reduceEqDiff, Int.reduceNeg, Int.reduceAdd, Int.reduceSub, Int.reduceMul, Int.reducePow, Int.reduceToNat, Int.reduceLT, Int.reduceLE, Int.reduceEq, if_true, if_false, Bool.false_eq_true, decide_true, decide_false, true_and, and_true, Bool.not_true, Bool.not_false, List.set_nil, List.length_set, ne_eq, not_false_eq_true, reduceCtorEq, and_self, List.isEmpty_cons, List.isEmpty_nil, List.length_map, List.set_set, decide_eq_true_eq]
      exact hQ
    · simp only [wpSs, wpS, wpE, wpEs, wpO, wpC, wpT, wpTg, wpTs, wpI, wipeU, startU, z_cell, z_slot, z_int, z_bl, z_tup, z_fn, z_lst, z_nil, z_cons, z_opt, z_optu, z_srct, z_srcl, z_bopi, z_bopt, z_bopl, z_bopm, z_add, z_sub, z_mul, z_div, z_mod, z_pow, z_auga, z_augs, z_augd, z_eqii, z_eqss, z_eqbb, z_eqtt, z_eqll, z_ceq, z_cne, z_clt, z_cle, z_cgt, z_cge, z_cin, z_cni, z_int_t, z_trn, z_trb, z_tri, z_trt, z_trl, z_ixt, z_ixl, z_slt, z_sll, z_sls, z_lent, z_lenl, z_abs, z_max, z_min, z_toi, z_tob, z_tut, z_tul, z_lit, z_lil, z_any, z_all, z_sum, z_app, z_set, z_isn, z_isb, z_isi, z_iss, z_ist, z_isl, z_revl, isNon, atI_0, atI_1, atI_2, atI_3, ixN_1, ixN_2, ixN_3, List.map_cons, List.map_nil, List.length_cons, List.length_nil, List.replicate, List.cons_append, List.nil_append, List.append_nil, List.set_cons_zero, List.set_cons_succ, List.getElem?_cons_zero, List.getElem?_cons_succ, Nat.reduceAdd, Nat.reduceSub, Nat.reduceLT, Nat.reduceLeDiff, Nat.reduceEqDiff, Int.reduceNeg, Int.reduceAdd, Int.reduceSub, Int.reduceMul, Int.reducePow, Int.reduceToNat, Int.reduceLT, Int.reduceLE, Int.reduceEq, if_true, if_false, Bool.false_eq_true, decide_true, decide_false, true_and, and_true, Bool.not_true, Bool.not_false, List.set_nil, List.length_set, ne_eq, not_false_eq_true, reduceCtorEq, and_self, List.isEmpty_cons, List.isEmpty_nil, List.length_map, List.set_set, decide_eq_true_eq, n_is_field, i_is_field, t_tt, t_ss, s_FQ, s_FF, eI, eP, hM]
      refine hI _ _ _ _ (.inr (.inr ⟨s, rfl, ?_⟩))
      simp only [wpSs, wpS, wpE, wpEs, wpO, wpC, wpT, wpTg, wpTs, wpI, wipeU, startU, z_cell, z_slot, z_int, z_bl, z_tup, z_fn, z_lst, z_nil, z_cons, z_opt, z_optu, z_srct, z_srcl, z_bopi, z_bopt, z_bopl, z_bopm, z_add, z_sub, z_mul, z_div, z_mod, z_pow, z_auga, z_augs, z_augd, z_eqii, z_eqss, z_eqbb, z_eqtt, z_eqll, z_ceq, z_cne, z_clt, z_cle, z_cgt, z_cge, z_cin, z_cni, z_int_t, z_trn, z_trb, z_tri, z_trt, z_trl, z_ixt, z_ixl, z_slt, z_sll, z_sls, z_lent, z_lenl, z_abs, z_max, z_min, z_toi, z_tob, z_tut, z_tul, z_lit, z_lil, z_any, z_all, z_sum, z_app, z_set, z_isn, z_isb, z_isi, z_iss, z_ist, z_isl, z_revl, isNon, atI_0, atI_1, atI_2, atI_3, ixN_1, ixN_2, ixN_3, List.map_cons, List.map_nil, List.length_cons, List.length_nil, List.replicate, List.cons_append, List.nil_append, List.append_nil, List.set_cons_zero, List.set_cons_succ, List.getElem?_cons_zero, List.getElem?_cons_succ, Nat.reduceAdd, Nat.reduceSub, Nat.reduceLT, Nat.reduceLeDiff, Nat.reduceEqDiff, Int.reduceNeg, Int.reduceAdd, Int.reduceSub, Int.reduceMul, Int.reducePow, Int.reduceToNat, Int.reduceLT, Int.reduceLE, Int.reduceEq, if_true, if_false, Bool.false_eq_true, decide_true, decide_false, true_and, and_true, Bool.not_true, Bool.not_false, List.set_nil, List.length_set, ne_eq, not_false_eq_true, reduceCtorEq, and_self, List.isEmpty_cons, List.isEmpty_nil, List.length_map, List.set_set, decide_eq_true_eq]
      exact hQ
def spNF : FSpec := fun us S Q X => ∃ d, us = [d] ∧ ((FieldU d ∧ Q .non S) ∨ (NoF d ∧ X "DomainError" [] S))
theorem w_need_field (G : Gm) (hI : Has G "is_field" spIsField) : Pf G n_need_field i_need_field spNF := by
  intro us S Q X h
  obtain ⟨sI, eI, hI⟩ := hI
  obtain ⟨d, rfl, ⟨hd, hQ⟩ | ⟨hd, hQ⟩⟩ := h
  · simp only [wpSs, wpS, wpE, wpEs, wpO, wpC, wpT, wpTg, wpTs, wpI, wipeU, startU, z_cell, z_slot, z_int, z_bl, z_tup, z_fn, z_lst, z_nil, z_cons, z_opt, z_optu, z_srct, z_srcl, z_bopi, z_bopt, z_bopl, z_bopm, z_add, z_sub, z_mul, z_div, z_mod, z_pow, z_auga, z_augs, z_augd, z_eqii, z_eqss, z_eqbb, z_eqtt, z_eqll, z_ceq, z_cne, z_clt, z_cle, z_cgt, z_cge, z_cin, z_cni, z_int_t, z_trn, z_trb, z_tri, z_trt, z_trl, z_ixt, z_ixl, z_slt, z_sll, z_sls, z_lent, z_lenl, z_abs, z_max, z_min, z_toi, z_tob, z_tut, z_tul, z_lit, z_lil, z_any, z_all, z_sum, z_app, z_set, z_isn, z_isb, z_isi, z_iss, z_ist, z_isl, z_revl, isNon, atI_0, atI_1, atI_2, atI_3, ixN_1, ixN_2, ixN_3, List.map_cons, List.map_nil, List.length_cons, List.length_nil, List.replicate, List.cons_append, List.nil_append, List.append_nil, List.set_cons_zero, List.set_cons_succ, List.getElem?_cons_zero, List.getElem?_cons_succ, Nat.reduceAdd, Nat.reduceSub, Nat.reduceLT, Nat.reduceLeDiff, Nat.reduceEqDiff, Int.reduceNeg, Int.reduceAdd, Int.reduceSub, Int.reduceMul, Int.reducePow, Int.reduceToNat, Int.reduceLT, Int.reduceLE, Int.reduceEq, if_true, if_false, Bool.false_eq_true, decide_true, decide_false, true_and, and_true, Bool.not_true, Bool.not_false, List.set_nil, List.length_set, ne_eq, not_false_eq_true, reduceCtorEq, and_self, List.isEmpty_cons, List.isEmpty_nil, List.length_map, List.set_set, decide_eq_true_eq, n_need_field, i_need_field, eI]
    refine hI _ _ _ _ ⟨d, rfl, .inl ⟨hd, ?_⟩⟩
    simp only [wpSs, wpS, wpE, wpEs, wpO, wpC, wpT, wpTg, wpTs, wpI, wipeU, startU, z_cell, z_slot, z_int, z_bl, z_tup, z_fn, z_lst, z_nil, z_cons, z_opt, z_optu, z_srct, z_srcl, z_bopi, z_bopt, z_bopl, z_bopm, z_add, z_sub, z_mul, z_div, z_mod, z_pow, z_auga, z_augs, z_augd, z_eqii, z_eqss, z_eqbb, z_eqtt, z_eqll, z_ceq, z_cne, z_clt, z_cle, z_cgt, z_cge, z_cin, z_cni, z_int_t, z_trn, z_trb, z_tri, z_trt, z_trl, z_ixt, z_ixl, z_slt, z_sll, z_sls, z_lent, z_lenl, z_abs, z_max, z_min, z_toi, z_tob, z_tut, z_tul, z_lit, z_lil, z_any, z_all, z_sum, z_app, z_set, z_isn, z_isb, z_isi, z_iss, z_ist, z_isl, z_revl, isNon, atI_0, atI_1, atI_2, atI_3, ixN_1, ixN_2, ixN_3, List.map_cons, List.map_nil, List.length_cons, List.length_nil, List.replicate, List.cons_append, List.nil_append, List.append_nil, List.set_cons_zero, List.set_cons_succ, List.getElem?_cons_zero, List.getElem?_cons_succ, Nat.reduceAdd, Nat.reduceSub, Nat.reduceLT, Nat.reduceLeDiff, Nat.reduceEqDiff, Int.reduceNeg, Int.reduceAdd, Int.reduceSub, Int.reduceMul, Int.reducePow, Int.reduceToNat, Int.reduceLT, Int.reduceLE, Int.reduceEq, if_true, if_false, Bool.false_eq_true, decide_true, decide_false, true_and, and_true, Bool.not_true, Bool.not_false, List.set_nil, List.length_set, ne_eq, not_false_eq_true, reduceCtorEq, and_self, List.isEmpty_cons, List.isEmpty_nil, List.length_map, List.set_set, decide_eq_true_eq]
    exact hQ
  · simp only [wpSs, wpS, wpE, wpEs, wpO, wpC, wpT, wpTg, wpTs, wpI, wipeU, startU, z_cell, z_slot, z_int, z_bl, z_tup, z_fn, z_lst, z_nil, z_cons, z_opt, z_optu, z_srct, z_srcl, z_bopi, z_bopt, z_bopl, z_bopm, z_add, z_sub, z_mul, z_div, z_mod, z_pow, z_auga, z_augs, z_augd, z_eqii, z_eqss, z_eqbb, z_eqtt, z_eqll, z_ceq, z_cne, z_clt, z_cle, z_cgt, z_cge, z_cin, z_cni, z_int_t, z_trn, z_trb, z_tri, z_trt, z_trl, z_ixt, z_ixl, z_slt, z_sll, z_sls, z_lent, z_lenl, z_abs, z_max, z_min, z_toi, z_tob, z_tut, z_tul, z_lit, z_lil, z_any, z_all, z_sum, z_app, z_set, z_isn, z_isb, z_isi, z_iss, z_ist, z_isl, z_revl, isNon, atI_0, atI_1, atI_2, atI_3, ixN_1, ixN_2, ixN_3, List.map_cons, List.map_nil, List.length_cons, List.length_nil, List.replicate, List.cons_append, List.nil_append, List.append_nil, List.set_cons_zero, List.set_cons_succ, List.getElem?_cons_zero, List.getElem?_cons_succ, Nat.reduceAdd, Nat.reduceSub, Nat.reduceLT, Nat.reduceLeDiff, Nat.reduceEqDiff, Int.reduceNeg, Int.reduceAdd, Int.reduceSub, Int.reduceMul, Int.reducePow, Int.reduceToNat, Int.reduceLT, Int.reduceLE, Int.reduceEq, if_true, if_false, Bool.false_eq_true, decide_true, decide_false, true_and, and_true, Bool.not_true, Bool.not_false, List.set_nil, List.length_set, ne_eq, not_false_eq_true, reduceCtorEq, and_self, List.isEmpty_cons, List.isEmpty_nil, List.length_map, List.set_set, decide_eq_true_eq, n_need_field, i_need_field, eI]
    refine hI _ _ _ _ ⟨d, rfl, .inr ⟨hd, ?_⟩⟩
    simp only [wpSs, wpS, wpE, wpEs, wpO, wpC, wpT, wpTg, wpTs, wpI, wipeU, startU, z_cell, z_slot, z_int, z_bl, z_tup, z_fn, z_lst, z_nil, z_cons, z_opt, z_optu, z_srct, z_srcl, z_bopi, z_bopt, z_bopl, z_bopm, z_add, z_sub, z_mul, z_div, z_mod, z_pow, z_auga, z_augs, z_augd, z_eqii, z_eqss, z_eqbb, z_eqtt, z_eqll, z_ceq, z_cne, z_clt, z_cle, z_cgt, z_cge, z_cin, z_cni, z_int_t, z_trn, z_trb, z_tri, z_trt, z_trl, z_ixt, z_ixl, z_slt, z_sll, z_sls, z_lent, z_lenl, z_abs, z_max, z_min, z_toi, z_tob, z_tut, z_tul, z_lit, z_lil, z_any, z_all, z_sum, z_app, z_set, z_isn, z_isb, z_isi, z_iss, z_ist, z_isl, z_revl, isNon, atI_0, atI_1, atI_2, atI_3, ixN_1, ixN_2, ixN_3, List.map_cons, List.map_nil, List.length_cons, List.length_nil, List.replicate, List.cons_append, List.nil_append, List.append_nil, List.set_cons_zero, List.set_cons_succ, List.getElem?_cons_zero, List.getElem?_cons_succ, Nat.reduceAdd, Nat.reduceSub, Nat.reduceLT, Nat.reduceLeDiff, Nat.reduceEqDiff, Int.reduceNeg, Int.reduceAdd, Int.reduceSub, Int.reduceMul, Int.reducePow, Int.reduceToNat, Int.reduceLT, Int.reduceLE, Int.reduceEq, if_true, if_false, Bool.false_eq_true, decide_true, decide_false, true_and, and_true, Bool.not_true, Bool.not_false, List.set_nil, List.length_set, ne_eq, not_false_eq_true, reduceCtorEq, and_self, List.isEmpty_cons, List.isEmpty_nil, List.length_map, List.set_set, decide_eq_true_eq]
    exact hQ
def spNShape : FSpec := fun us S Q X => ∃ b, us = [.bl b] ∧ ((b = true ∧ Q .non S) ∨ (b = false ∧ X "ShapeError" [] S))
theorem w_need_shape (G : Gm) : Pf G n_need_shape i_need_shape spNShape := by
  intro us S Q X h
  obtain ⟨b, rfl, ⟨rfl, hQ⟩ | ⟨rfl, hQ⟩⟩ := h
  · simp only [wpSs, wpS, wpE, wpEs, wpO, wpC, wpT, wpTg, wpTs, wpI, wipeU, startU, z_cell, z_slot, z_int, z_bl, z_tup, z_fn, z_lst, z_nil, z_cons, z_opt, z_optu, z_srct, z_srcl, z_bopi, z_bopt, z_bopl, z_bopm, z_add, z_sub, z_mul, z_div, z_mod, z_pow, z_auga, z_augs, z_augd, z_eqii, z_eqss, z_eqbb, z_eqtt, z_eqll, z_ceq, z_cne, z_clt, z_cle, z_cgt, z_cge, z_cin, z_cni, z_int_t, z_trn, z_trb, z_tri, z_trt, z_trl, z_ixt, z_ixl, z_slt, z_sll, z_sls, z_lent, z_lenl, z_abs, z_max, z_min, z_toi, z_tob, z_tut, z_tul, z_lit, z_lil, z_any, z_all, z_sum, z_app, z_set, z_isn, z_isb, z_isi, z_iss, z_ist, z_isl, z_revl, isNon, atI_0, atI_1, atI_2, atI_3, ixN_1, ixN_2, ixN_3, List.map_cons, List.map_nil, List.length_cons, List.length_nil, List.replicate, List.cons_append, List.nil_append, List.append_nil, List.set_cons_zero, List.set_cons_succ, List.getElem?_cons_zero, List.getElem?_cons_succ, Nat.reduceAdd, Nat.reduceSub, Nat.reduceLT, Nat.reduceLeDiff, Nat.reduceEqDiff, Int.reduceNeg, Int.reduceAdd, Int.reduceSub, Int.reduceMul, Int.reducePow, Int.reduceToNat, Int.reduceLT, Int.reduceLE, Int.reduceEq, if_true, if_false, Bool.false_eq_true, decide_true, decide_false, true_and, and_true, Bool.not_true, Bool.not_false, List.set_nil, List.length_set, ne_eq, not_false_eq_true, reduceCtorEq, and_self, List.isEmpty_cons, List.isEmpty_nil, List.length_map, List.set_set, decide_eq_true_eq, n_need_shape, i_need_shape]
    exact hQ
  · simp only [wpSs, wpS, wpE, wpEs, wpO, wpC, wpT, wpTg, wpTs, wpI, wipeU, startU, z_cell, z_slot, z_int, z_bl, z_tup, z_fn, z_lst, z_nil, z_cons, z_opt, z_optu, z_srct, z_srcl, z_bopi, z_bopt, z_bopl, z_bopm, z_add, z_sub, z_mul, z_div, z_mod, z_pow, z_auga, z_augs, z_augd, z_eqii, z_eqss, z_eqbb, z_eqtt, z_eqll, z_ceq, z_cne, z_clt, z_cle, z_cgt, z_cge, z_cin, z_cni, z_int_t, z_trn, z_trb, z_tri, z_trt, z_trl, z_ixt, z_ixl, z_slt, z_sll, z_sls, z_lent, z_lenl, z_abs, z_max, z_min, z_toi, z_tob, z_tut, z_tul, z_lit, z_lil, z_any, z_all, z_sum, z_app, z_set, z_isn, z_isb, z_isi, z_iss, z_ist, z_isl, z_revl, isNon, atI_0, atI_1, atI_2, atI_3, ixN_1, ixN_2, ixN_3, List.map_cons, List.map_nil, List.length_cons, List.length_nil, List.replicate, List.cons_append, List.nil_append, List.append_nil, List.set_cons_zero, List.set_cons_succ, List.getElem?_cons_zero, List.getElem?_cons_succ, Nat.reduceAdd, Nat.reduceSub, Nat.reduceLT, Nat.reduceLeDiff, Nat.reduceEqDiff, Int.reduceNeg, Int.reduceAdd, Int.reduceSub, Int.reduceMul, Int.reducePow, Int.reduceToNat, Int.reduceLT, Int.reduceLE, Int.reduceEq, if_true, if_false, Bool.false_eq_true, decide_true, decide_false, true_and, and_true, Bool.not_true, Bool.not_false, List.set_nil, List.length_set, ne_eq, not_false_eq_true, reduceCtorEq, and_self, List.isEmpty_cons, List.isEmpty_nil, List.length_map, List.set_set, decide_eq_true_eq, n_need_shape, i_need_shape]
    exact hQ
def spNSq : FSpec := fun us S Q X => ∃ n k r, us = [.tup (.int n :: .int k :: r)] ∧ ((n = k ∧ Q .non S) ∨ (n ≠ k ∧ X "ShapeError" [] S))
theorem w_need_square (G : Gm) (hI : Has G "need_shape" spNShape) : Pf G n_need_square i_need_square spNSq := by
  intro us S Q X h
  obtain ⟨sI, eI, hI⟩ := hI
  obtain ⟨n, k, r, rfl, ⟨rfl, hQ⟩ | ⟨hd, hQ⟩⟩ := h
  · simp only [wpSs, wpS, wpE, wpEs, wpO, wpC, wpT, wpTg, wpTs, wpI, wipeU, startU, z_cell, z_slot, z_int, z_bl, z_tup, z_fn, z_lst, z_nil, z_cons, z_opt, z_optu, z_srct, z_srcl, z_bopi, z_bopt, z_bopl, z_bopm, z_add, z_sub, z_mul, z_div, z_mod, z_pow, z_auga, z_augs, z_augd, z_eqii, z_eqss, z_eqbb, z_eqtt, z_eqll, z_ceq, z_cne, z_clt, z_cle, z_cgt, z_cge, z_cin, z_cni, z_int_t, z_trn, z_trb, z_tri, z_trt, z_trl, z_ixt, z_ixl, z_slt, z_sll, z_sls, z_lent, z_lenl, z_abs, z_max, z_min, z_toi, z_tob, z_tut, z_tul, z_lit, z_lil, z_any, z_all, z_sum, z_app, z_set, z_isn, z_isb, z_isi, z_iss, z_ist, z_isl, z_revl, isNon, atI_0, atI_1, atI_2, atI_3, ixN_1, ixN_2, ixN_3, List.map_cons, List.map_nil, List.length_cons, List.length_nil, List.replicate, List.cons_append, List.nil_append, List.append_nil, List.set_cons_zero, List.set_cons_succ, List.getElem?_cons_zero, List.getElem?_cons_succ, Nat.reduceAdd, Nat.reduceSub, Nat.reduceLT, Nat.reduceLeDiff, Nat.reduceEqDiff, Int.reduceNeg, Int.reduceAdd, Int.reduceSub, Int.reduceMul, Int.reducePow, Int.reduceToNat, Int.reduceLT, Int.reduceLE, Int.reduceEq, if_true, if_false, Bool.false_eq_true, decide_true, decide_false, true_and, and_true, Bool.not_true, Bool.not_false, List.set_nil, List.length_set, ne_eq, not_false_eq_true, reduceCtorEq, and_self, List.isEmpty_cons, List.isEmpty_nil, List.length_map, List.set_set, decide_eq_true_eq, n_need_square, i_need_square, eI]
    exact hI _ _ _ _ ⟨_, rfl, .inl ⟨by simp, hQ⟩⟩
  · simp only [wpSs, wpS, wpE, wpEs, wpO, wpC, wpT, wpTg, wpTs, wpI, wipeU, startU, z_cell, z_slot, z_int, z_bl, z_tup, z_fn, z_lst, z_nil, z_cons, z_opt, z_optu, z_srct, z_srcl, z_bopi, z_bopt, z_bopl, z_bopm, z_add, z_sub, z_mul, z_div, z_mod, z_pow, z_auga, z_augs, z_augd, z_eqii, z_eqss, z_eqbb, z_eqtt, z_eqll, z_ceq, z_cne, z_clt, z_cle, z_cgt, z_cge, z_cin, z_cni, z_int_t, z_trn, z_trb, z_tri, z_trt, z_trl, z_ixt, z_ixl, z_slt, z_sll, z_sls, z_lent, z_lenl, z_abs, z_max, z_min, z_toi, z_tob, z_tut, z_tul, z_lit, z_lil, z_any, z_all, z_sum, z_app, z_set, z_isn, z_isb, z_isi, z_iss, z_ist, z_isl, z_revl, isNon, atI_0, atI_1, atI_2, atI_3, ixN_1, ixN_2, ixN_3, List.map_cons, List.map_nil, List.length_cons, List.length_nil, List.replicate, List.cons_append, List.nil_append, List.append_nil, List.set_cons_zero, List.set_cons_succ, List.getElem?_cons_zero, List.getElem?_cons_succ, Nat.reduceAdd, Nat.reduceSub, Nat.reduceLT, Nat.reduceLeDiff, Nat.reduceEqDiff, Int.reduceNeg, Int.reduceAdd, Int.reduceSub, Int.reduceMul, Int.reducePow, Int.reduceToNat, Int.reduceLT, Int.reduceLE, Int.reduceEq, if_true, if_false, Bool.false_eq_true, decide_true, decide_false, true_and, and_true, Bool.not_true, Bool.not_false, List.set_nil, List.length_set, ne_eq, not_false_eq_true, reduceCtorEq, and_self, List.isEmpty_cons, List.isEmpty_nil, List.length_map, List.set_set, decide_eq_true_eq, n_need_square, i_need_square, eI]
    exact hI _ _ _ _ ⟨_, rfl, .inr ⟨by simpa using hd, hQ⟩⟩
/-! ### the operators -/
def NoFd (us : List U) : Prop := ∃ d r, us = d :: r ∧ NoF d
def B0 (us : List U) : Prop := False
def B1 (us : List U) : Prop := ∃ d n k x r, us = d :: .tup [.int n, .int k, x] :: r ∧ FieldU d ∧ n ≠ k
def B2 (us : List U) : Prop := B1 us ∨ ∃ d n x l, us = [d, .tup [.int n, .int n, x], .tup l] ∧ FieldU d ∧ (l.length : Int) ≠ n
def B3 (us : List U) : Prop := B1 us ∨ ∃ d n x m y, us = [d, .tup [.int n, .int n, x], .tup [.int m, .int m, y]] ∧ FieldU d ∧ n ≠ m
def spOp (N : Nat) (B : List U → Prop) : FSpec := fun us S Q X => us.length = N ∧ ((NoFd us ∧ X "DomainError" [] S) ∨ (B us ∧ X "ShapeError" [] S))
def spNo : FSpec := fun _ _ _ _ => False
theorem two {us : List U} (h : us.length = 2) : ∃ a b, us = [a, b] := by
  match us, h with
  | [a, b], _ => exact ⟨a, b, rfl⟩
theorem three {us : List U} (h : us.length = 3) : ∃ a b c, us = [a, b, c] := by
  match us, h with
  | [a, b, c], _ => exact ⟨a, b, c, rfl⟩
/-- a guard of field and square -/
theorem guard {sF sS : FSpec} (hF : ∀ us S Q X, spNF us S Q X → sF us S Q X) (hS : ∀ us S Q X, spNSq us S Q X → sS us S Q X) {d a : U} {us : List U} {S : Sto} {X : Exn} {K : Ks}
    (h : (NoFd (d :: a :: us) ∧ X "DomainError" [] S) ∨ (B1 (d :: a :: us) ∧ X "ShapeError" [] S)) : sF [d] S (fun _ S1 => sS [a] S1 K X) X := by
  rcases h with ⟨⟨d2, r, e, hd⟩, hX⟩ | ⟨⟨d2, n, k, x, r, e, hd, hn⟩, hX⟩
  · injection e with e1 e2
    subst e1
    exact hF _ _ _ _ ⟨_, rfl, .inr ⟨hd, hX⟩⟩
  · injection e with e1 e2
    injection e2 with e2 e3
    subst e1 e2
    exact hF _ _ _ _ ⟨_, rfl, .inl ⟨hd, hS _ _ _ _ ⟨n, k, _, rfl, .inr ⟨hn, hX⟩⟩⟩⟩
theorem w_characteristic (G : Gm) (hF : Has G "need_field" spNF) (hS : Has G "need_square" spNSq) : Pf G n_characteristic i_characteristic (spOp 2 B1) := by
  rintro us S Q X ⟨hl, h⟩
  obtain ⟨d, a, rfl⟩ := two hl
  obtain ⟨sF, eF, hF⟩ := hF
  obtain ⟨sS, eS, hS⟩ := hS
  simp only [wpSs, wpS, wpE, wpEs, wpO, wpC, wpT, wpTg, wpTs, wpI, wipeU, startU, z_cell, z_slot, z_int, z_bl, z_tup, z_fn, z_lst, z_nil, z_cons, z_opt, z_optu, z_srct, z_srcl, z_bopi, z_bopt, z_bopl, z_bopm, z_add, z_sub, z_mul, z_div, z_mod, z_pow, z_auga, z_augs, z_augd, z_eqii, z_eqss, z_eqbb, z_eqtt, z_eqll, z_ceq, z_cne, z_clt, z_cle, z_cgt, z_cge, z_cin, z_cni, z_int_t, z_trn, z_trb, z_tri, z_trt, z_trl, z_ixt, z_ixl, z_slt, z_sll, z_sls, z_lent, z_lenl, z_abs, z_max, z_min, z_toi, z_tob, z_tut, z_tul, z_lit, z_lil, z_any, z_all, z_sum, z_app, z_set, z_isn, z_isb, z_isi, z_iss, z_ist, z_isl, z_revl, isNon, atI_0, atI_1, atI_2, atI_3, ixN_1, ixN_2, ixN_3, List.map_cons, List.map_nil, List.length_cons, List.length_nil, List.replicate, List.cons_append, List.nil_append, List.append_nil, List.set_cons_zero, List.set_cons_succ, List.getElem?_cons_zero, List.getElem?_cons_succ, Nat.reduceAdd, Nat.reduceSub, Nat.reduceLT, Nat.reduceLeDiff, Nat.reduceEqDiff, Int.reduceNeg, Int.reduceAdd, Int.reduceSub, Int.reduceMul, Int.reducePow, Int.reduceToNat, Int.reduceLT, Int.reduceLE, Int.reduceEq, if_true, if_false, Bool.false_eq_true, decide_true, decide_false, true_and, and_true, Bool.not_true, Bool.not_false, List.set_nil, List.length_set, ne_eq, not_false_eq_true, reduceCtorEq, and_self, List.isEmpty_cons, List.isEmpty_nil, List.length_map, List.set_set, decide_eq_true_eq, n_characteristic, i_characteristic, eF, eS]
  exact guard hF hS h
theorem w_cyclic_pair (G : Gm) (hF : Has G "need_field" spNF) (hS : Has G "need_square" spNSq) : Pf G n_cyclic_pair i_cyclic_pair (spOp 2 B1) := by
  rintro us S Q X ⟨hl, h⟩
  obtain ⟨d, a, rfl⟩ := two hl
  obtain ⟨sF, eF, hF⟩ := hF
  obtain ⟨sS, eS, hS⟩ := hS
  simp only [wpSs, wpS, wpE, wpEs, wpO, wpC, wpT, wpTg, wpTs, wpI, wipeU, startU, z_cell, z_slot, z_int, z_bl, z_tup, z_fn, z_lst, z_nil, z_cons, z_opt, z_optu, z_srct, z_srcl, z_bopi, z_bopt, z_bopl, z_bopm, z_add, z_sub, z_mul, z_div, z_mod, z_pow, z_auga, z_augs, z_augd, z_eqii, z_eqss, z_eqbb, z_eqtt, z_eqll, z_ceq, z_cne, z_clt, z_cle, z_cgt, z_cge, z_cin, z_cni, z_int_t, z_trn, z_trb, z_tri, z_trt, z_trl, z_ixt, z_ixl, z_slt, z_sll, z_sls, z_lent, z_lenl, z_abs, z_max, z_min, z_toi, z_tob, z_tut, z_tul, z_lit, z_lil, z_any, z_all, z_sum, z_app, z_set, z_isn, z_isb, z_isi, z_iss, z_ist, z_isl, z_revl, isNon, atI_0, atI_1, atI_2, atI_3, ixN_1, ixN_2, ixN_3, List.map_cons, List.map_nil, List.length_cons, List.length_nil, List.replicate, List.cons_append, List.nil_append, List.append_nil, List.set_cons_zero, List.set_cons_succ, List.getElem?_cons_zero, List.getElem?_cons_succ, Nat.reduceAdd, Nat.reduceSub, Nat.reduceLT, Nat.reduceLeDiff, Nat.reduceEqDiff, Int.reduceNeg, Int.reduceAdd, Int.reduceSub, Int.reduceMul, Int.reducePow, Int.reduceToNat, Int.reduceLT, Int.reduceLE, Int.reduceEq, if_true, if_false, Bool.false_eq_true, decide_true, decide_false, true_and, and_true, Bool.not_true, Bool.not_false, List.set_nil, List.length_set, ne_eq, not_false_eq_true, reduceCtorEq, and_self, List.isEmpty_cons, List.isEmpty_nil, List.length_map, List.set_set, decide_eq_true_eq, n_cyclic_pair, i_cyclic_pair, eF, eS]
  exact guard hF hS h
theorem w_jordan (G : Gm) (hF : Has G "need_field" spNF) (hS : Has G "need_square" spNSq) : Pf G n_jordan i_jordan (spOp 2 B1) := by
  rintro us S Q X ⟨hl, h⟩
  obtain ⟨d, a, rfl⟩ := two hl
  obtain ⟨sF, eF, hF⟩ := hF
  obtain ⟨sS, eS, hS⟩ := hS
  simp only [wpSs, wpS, wpE, wpEs, wpO, wpC, wpT, wpTg, wpTs, wpI, wipeU, startU, z_cell, z_slot, z_int, z_bl, z_tup, z_fn, z_lst, z_nil, z_cons, z_opt, z_optu, z_srct, z_srcl, z_bopi, z_bopt, z_bopl, z_bopm, z_add, z_sub, z_mul, z_div, z_mod, z_pow, z_auga, z_augs, z_augd, z_eqii, z_eqss, z_eqbb, z_eqtt, z_eqll, z_ceq, z_cne, z_clt, z_cle, z_cgt, z_cge, z_cin, z_cni, z_int_t, z_trn, z_trb, z_tri, z_trt, z_trl, z_ixt, z_ixl, z_slt, z_sll, z_sls, z_lent, z_lenl, z_abs, z_max, z_min, z_toi, z_tob, z_tut, z_tul, z_lit, z_lil, z_any, z_all, z_sum, z_app, z_set, z_isn, z_isb, z_isi, z_iss, z_ist, z_isl, z_revl, isNon, atI_0, atI_1, atI_2, atI_3, ixN_1, ixN_2, ixN_3, List.map_cons, List.map_nil, List.length_cons, List.length_nil, List.replicate, List.cons_append, List.nil_append, List.append_nil, List.set_cons_zero, List.set_cons_succ, List.getElem?_cons_zero, List.getElem?_cons_succ, Nat.reduceAdd, Nat.reduceSub, Nat.reduceLT, Nat.reduceLeDiff, Nat.reduceEqDiff, Int.reduceNeg, Int.reduceAdd, Int.reduceSub, Int.reduceMul, Int.reducePow, Int.reduceToNat, Int.reduceLT, Int.reduceLE, Int.reduceEq, if_true, if_false, Bool.false_eq_true, decide_true, decide_false, true_and, and_true, Bool.not_true, Bool.not_false, List.set_nil, List.length_set, ne_eq, not_false_eq_true, reduceCtorEq, and_self, List.isEmpty_cons, List.isEmpty_nil, List.length_map, List.set_set, decide_eq_true_eq, n_jordan, i_jordan, eF, eS]
  exact guard hF hS h
theorem w_decompose (G : Gm) (hF : Has G "need_field" spNF) (hS : Has G "need_square" spNSq) : Pf G n_decompose i_decompose (spOp 2 B1) := by
  rintro us S Q X ⟨hl, h⟩
  obtain ⟨d, a, rfl⟩ := two hl
  obtain ⟨sF, eF, hF⟩ := hF
  obtain ⟨sS, eS, hS⟩ := hS
  simp only [wpSs, wpS, wpE, wpEs, wpO, wpC, wpT, wpTg, wpTs, wpI, wipeU, startU, z_cell, z_slot, z_int, z_bl, z_tup, z_fn, z_lst, z_nil, z_cons, z_opt, z_optu, z_srct, z_srcl, z_bopi, z_bopt, z_bopl, z_bopm, z_add, z_sub, z_mul, z_div, z_mod, z_pow, z_auga, z_augs, z_augd, z_eqii, z_eqss, z_eqbb, z_eqtt, z_eqll, z_ceq, z_cne, z_clt, z_cle, z_cgt, z_cge, z_cin, z_cni, z_int_t, z_trn, z_trb, z_tri, z_trt, z_trl, z_ixt, z_ixl, z_slt, z_sll, z_sls, z_lent, z_lenl, z_abs, z_max, z_min, z_toi, z_tob, z_tut, z_tul, z_lit, z_lil, z_any, z_all, z_sum, z_app, z_set, z_isn, z_isb, z_isi, z_iss, z_ist, z_isl, z_revl, isNon, atI_0, atI_1, atI_2, atI_3, ixN_1, ixN_2, ixN_3, List.map_cons, List.map_nil, List.length_cons, List.length_nil, List.replicate, List.cons_append, List.nil_append, List.append_nil, List.set_cons_zero, List.set_cons_succ, List.getElem?_cons_zero, List.getElem?_cons_succ, Nat.reduceAdd, Nat.reduceSub, Nat.reduceLT, Nat.reduceLeDiff, Nat.reduceEqDiff, Int.reduceNeg, Int.reduceAdd, Int.reduceSub, Int.reduceMul, Int.reducePow, Int.reduceToNat, Int.reduceLT, Int.reduceLE, Int.reduceEq, if_true, if_false, Bool.false_eq_true, decide_true, decide_false, true_and, and_true, Bool.not_true, Bool.not_false, List.set_nil, List.length_set, ne_eq, not_false_eq_true, reduceCtorEq, and_self, List.isEmpty_cons, List.isEmpty_nil, List.length_map, List.set_set, decide_eq_true_eq, n_decompose, i_decompose, eF, eS]
  exact guard hF hS h
theorem w_minimal (G : Gm) (hF : Has G "cyclic_pair" (spOp 2 B1)) : Pf G n_minimal i_minimal (spOp 2 B1) := by
  rintro us S Q X ⟨hl, h⟩
  obtain ⟨d, a, rfl⟩ := two hl
  obtain ⟨sF, eF, hF⟩ := hF
  simp only [wpSs, wpS, wpE, wpEs, wpO, wpC, wpT, wpTg, wpTs, wpI, wipeU, startU, z_cell, z_slot, z_int, z_bl, z_tup, z_fn, z_lst, z_nil, z_cons, z_opt, z_optu, z_srct, z_srcl, z_bopi, z_bopt, z_bopl, z_bopm, z_add, z_sub, z_mul, z_div, z_mod, z_pow, z_auga, z_augs, z_augd, z_eqii, z_eqss, z_eqbb, z_eqtt, z_eqll, z_ceq, z_cne, z_clt, z_cle, z_cgt, z_cge, z_cin, z_cni, z_int_t, z_trn, z_trb, z_tri, z_trt, z_trl, z_ixt, z_ixl, z_slt, z_sll, z_sls, z_lent, z_lenl, z_abs, z_max, z_min, z_toi, z_tob, z_tut, z_tul, z_lit, z_lil, z_any, z_all, z_sum, z_app, z_set, z_isn, z_isb, z_isi, z_iss, z_ist, z_isl, z_revl, isNon, atI_0, atI_1, atI_2, atI_3, ixN_1, ixN_2, ixN_3, List.map_cons, List.map_nil, List.length_cons, List.length_nil, List.replicate, List.cons_append, List.nil_append, List.append_nil, List.set_cons_zero, List.set_cons_succ, List.getElem?_cons_zero, List.getElem?_cons_succ, Nat.reduceAdd, Nat.reduceSub, Nat.reduceLT, Nat.reduceLeDiff, Nat.reduceEqDiff, Int.reduceNeg, Int.reduceAdd, Int.reduceSub, Int.reduceMul, Int.reducePow, Int.reduceToNat, Int.reduceLT, Int.reduceLE, Int.reduceEq, if_true, if_false, Bool.false_eq_true, decide_true, decide_false, true_and, and_true, Bool.not_true, Bool.not_false, List.set_nil, List.length_set, ne_eq, not_false_eq_true, reduceCtorEq, and_self, List.isEmpty_cons, List.isEmpty_nil, List.length_map, List.set_set, decide_eq_true_eq, n_minimal, i_minimal, eF]
  exact hF _ _ _ _ ⟨rfl, h⟩
theorem w_cyclic_vector (G : Gm) (hF : Has G "cyclic_pair" (spOp 2 B1)) : Pf G n_cyclic_vector i_cyclic_vector (spOp 2 B1) := by
  rintro us S Q X ⟨hl, h⟩
  obtain ⟨d, a, rfl⟩ := two hl
  obtain ⟨sF, eF, hF⟩ := hF
  simp only [wpSs, wpS, wpE, wpEs, wpO, wpC, wpT, wpTg, wpTs, wpI, wipeU, startU, z_cell, z_slot, z_int, z_bl, z_tup, z_fn, z_lst, z_nil, z_cons, z_opt, z_optu, z_srct, z_srcl, z_bopi, z_bopt, z_bopl, z_bopm, z_add, z_sub, z_mul, z_div, z_mod, z_pow, z_auga, z_augs, z_augd, z_eqii, z_eqss, z_eqbb, z_eqtt, z_eqll, z_ceq, z_cne, z_clt, z_cle, z_cgt, z_cge, z_cin, z_cni, z_int_t, z_trn, z_trb, z_tri, z_trt, z_trl, z_ixt, z_ixl, z_slt, z_sll, z_sls, z_lent, z_lenl, z_abs, z_max, z_min, z_toi, z_tob, z_tut, z_tul, z_lit, z_lil, z_any, z_all, z_sum, z_app, z_set, z_isn, z_isb, z_isi, z_iss, z_ist, z_isl, z_revl, isNon, atI_0, atI_1, atI_2, atI_3, ixN_1, ixN_2, ixN_3, List.map_cons, List.map_nil, List.length_cons, List.length_nil, List.replicate, List.cons_append, List.nil_append, List.append_nil, List.set_cons_zero, List.set_cons_succ, List.getElem?_cons_zero, List.getElem?_cons_succ, Nat.reduceAdd, Nat.reduceSub, Nat.reduceLT, Nat.reduceLeDiff, Nat.reduceEqDiff, Int.reduceNeg, Int.reduceAdd, Int.reduceSub, Int.reduceMul, Int.reducePow, Int.reduceToNat, Int.reduceLT, Int.reduceLE, Int.reduceEq, if_true, if_false, Bool.false_eq_true, decide_true, decide_false, true_and, and_true, Bool.not_true, Bool.not_false, List.set_nil, List.length_set, ne_eq, not_false_eq_true, reduceCtorEq, and_self, List.isEmpty_cons, List.isEmpty_nil, List.length_map, List.set_set, decide_eq_true_eq, n_cyclic_vector, i_cyclic_vector, eF]
  exact hF _ _ _ _ ⟨rfl, h⟩
theorem w_invariant_factors (G : Gm) (hF : Has G "decompose" (spOp 2 B1)) : Pf G n_invariant_factors i_invariant_factors (spOp 2 B1) := by
  rintro us S Q X ⟨hl, h⟩
  obtain ⟨d, a, rfl⟩ := two hl
  obtain ⟨sF, eF, hF⟩ := hF
  simp only [wpSs, wpS, wpE, wpEs, wpO, wpC, wpT, wpTg, wpTs, wpI, wipeU, startU, z_cell, z_slot, z_int, z_bl, z_tup, z_fn, z_lst, z_nil, z_cons, z_opt, z_optu, z_srct, z_srcl, z_bopi, z_bopt, z_bopl, z_bopm, z_add, z_sub, z_mul, z_div, z_mod, z_pow, z_auga, z_augs, z_augd, z_eqii, z_eqss, z_eqbb, z_eqtt, z_eqll, z_ceq, z_cne, z_clt, z_cle, z_cgt, z_cge, z_cin, z_cni, z_int_t, z_trn, z_trb, z_tri, z_trt, z_trl, z_ixt, z_ixl, z_slt, z_sll, z_sls, z_lent, z_lenl, z_abs, z_max, z_min, z_toi, z_tob, z_tut, z_tul, z_lit, z_lil, z_any, z_all, z_sum, z_app, z_set, z_isn, z_isb, z_isi, z_iss, z_ist, z_isl, z_revl, isNon, atI_0, atI_1, atI_2, atI_3, ixN_1, ixN_2, ixN_3, List.map_cons, List.map_nil, List.length_cons, List.length_nil, List.replicate, List.cons_append, List.nil_append, List.append_nil, List.set_cons_zero, List.set_cons_succ, List.getElem?_cons_zero, List.getElem?_cons_succ, Nat.reduceAdd, Nat.reduceSub, Nat.reduceLT, Nat.reduceLeDiff, Nat.reduceEqDiff, Int.reduceNeg, Int.reduceAdd, Int.reduceSub, Int.reduceMul, Int.reducePow, Int.reduceToNat, Int.reduceLT, Int.reduceLE, Int.reduceEq, if_true, if_false, Bool.false_eq_true, decide_true, decide_false, true_and, and_true, Bool.not_true, Bool.not_false, List.set_nil, List.length_set, ne_eq, not_false_eq_true, reduceCtorEq, and_self, List.isEmpty_cons, List.isEmpty_nil, List.length_map, List.set_set, decide_eq_true_eq, n_invariant_factors, i_invariant_factors, eF]
  exact hF _ _ _ _ ⟨rfl, h⟩
theorem w_frobenius (G : Gm) (hF : Has G "decompose" (spOp 2 B1)) : Pf G n_frobenius i_frobenius (spOp 2 B1) := by
  rintro us S Q X ⟨hl, h⟩
  obtain ⟨d, a, rfl⟩ := two hl
  obtain ⟨sF, eF, hF⟩ := hF
  simp only [wpSs, wpS, wpE, wpEs, wpO, wpC, wpT, wpTg, wpTs, wpI, wipeU, startU, z_cell, z_slot, z_int, z_bl, z_tup, z_fn, z_lst, z_nil, z_cons, z_opt, z_optu, z_srct, z_srcl, z_bopi, z_bopt, z_bopl, z_bopm, z_add, z_sub, z_mul, z_div, z_mod, z_pow, z_auga, z_augs, z_augd, z_eqii, z_eqss, z_eqbb, z_eqtt, z_eqll, z_ceq, z_cne, z_clt, z_cle, z_cgt, z_cge, z_cin, z_cni, z_int_t, z_trn, z_trb, z_tri, z_trt, z_trl, z_ixt, z_ixl, z_slt, z_sll, z_sls, z_lent, z_lenl, z_abs, z_max, z_min, z_toi, z_tob, z_tut, z_tul, z_lit, z_lil, z_any, z_all, z_sum, z_app, z_set, z_isn, z_isb, z_isi, z_iss, z_ist, z_isl, z_revl, isNon, atI_0, atI_1, atI_2, atI_3, ixN_1, ixN_2, ixN_3, List.map_cons, List.map_nil, List.length_cons, List.length_nil, List.replicate, List.cons_append, List.nil_append, List.append_nil, List.set_cons_zero, List.set_cons_succ, List.getElem?_cons_zero, List.getElem?_cons_succ, Nat.reduceAdd, Nat.reduceSub, Nat.reduceLT, Nat.reduceLeDiff, Nat.reduceEqDiff, Int.reduceNeg, Int.reduceAdd, Int.reduceSub, Int.reduceMul, Int.reducePow, Int.reduceToNat, Int.reduceLT, Int.reduceLE, Int.reduceEq, if_true, if_false, Bool.false_eq_true, decide_true, decide_false, true_and, and_true, Bool.not_true, Bool.not_false, List.set_nil, List.length_set, ne_eq, not_false_eq_true, reduceCtorEq, and_self, List.isEmpty_cons, List.isEmpty_nil, List.length_map, List.set_set, decide_eq_true_eq, n_frobenius, i_frobenius, eF]
  exact hF _ _ _ _ ⟨rfl, h⟩
theorem w_eigenvalues (G : Gm) (hF : Has G "characteristic" (spOp 2 B1)) (hroots : Has G "roots" spNo) : Pf G n_eigenvalues i_eigenvalues (spOp 2 B1) := by
  rintro us S Q X ⟨hl, h⟩
  obtain ⟨d, a, rfl⟩ := two hl
  obtain ⟨sF, eF, hF⟩ := hF
  obtain ⟨sroots, eroots, _⟩ := hroots
  simp only [wpSs, wpS, wpE, wpEs, wpO, wpC, wpT, wpTg, wpTs, wpI, wipeU, startU, z_cell, z_slot, z_int, z_bl, z_tup, z_fn, z_lst, z_nil, z_cons, z_opt, z_optu, z_srct, z_srcl, z_bopi, z_bopt, z_bopl, z_bopm, z_add, z_sub, z_mul, z_div, z_mod, z_pow, z_auga, z_augs, z_augd, z_eqii, z_eqss, z_eqbb, z_eqtt, z_eqll, z_ceq, z_cne, z_clt, z_cle, z_cgt, z_cge, z_cin, z_cni, z_int_t, z_trn, z_trb, z_tri, z_trt, z_trl, z_ixt, z_ixl, z_slt, z_sll, z_sls, z_lent, z_lenl, z_abs, z_max, z_min, z_toi, z_tob, z_tut, z_tul, z_lit, z_lil, z_any, z_all, z_sum, z_app, z_set, z_isn, z_isb, z_isi, z_iss, z_ist, z_isl, z_revl, isNon, atI_0, atI_1, atI_2, atI_3, ixN_1, ixN_2, ixN_3, List.map_cons, List.map_nil, List.length_cons, List.length_nil, List.replicate, List.cons_append, List.nil_append, List.append_nil, List.set_cons_zero, List.set_cons_succ, List.getElem?_cons_zero, List.getElem?_cons_succ, Nat.reduceAdd, Nat.reduceSub, Nat.reduceLT, Nat.reduceLeDiff, Nat.reduceEqDiff, Int.reduceNeg, Int.reduceAdd, Int.reduceSub, Int.reduceMul, Int.reducePow, Int.reduceToNat, Int.reduceLT, Int.reduceLE, Int.reduceEq, if_true, if_false, Bool.false_eq_true, decide_true, decide_false, true_and, and_true, Bool.not_true, Bool.not_false, List.set_nil, List.length_set, ne_eq, not_false_eq_true, reduceCtorEq, and_self, List.isEmpty_cons, List.isEmpty_nil, List.length_map, List.set_set, decide_eq_true_eq, n_eigenvalues, i_eigenvalues, eF, eroots]
  exact hF _ _ _ _ ⟨rfl, h⟩
theorem w_splits (G : Gm) (hF : Has G "eigenvalues" (spOp 2 B1)) : Pf G n_splits i_splits (spOp 2 B1) := by
  rintro us S Q X ⟨hl, h⟩
  obtain ⟨d, a, rfl⟩ := two hl
  obtain ⟨sF, eF, hF⟩ := hF
  simp only [wpSs, wpS, wpE, wpEs, wpO, wpC, wpT, wpTg, wpTs, wpI, wipeU, startU, z_cell, z_slot, z_int, z_bl, z_tup, z_fn, z_lst, z_nil, z_cons, z_opt, z_optu, z_srct, z_srcl, z_bopi, z_bopt, z_bopl, z_bopm, z_add, z_sub, z_mul, z_div, z_mod, z_pow, z_auga, z_augs, z_augd, z_eqii, z_eqss, z_eqbb, z_eqtt, z_eqll, z_ceq, z_cne, z_clt, z_cle, z_cgt, z_cge, z_cin, z_cni, z_int_t, z_trn, z_trb, z_tri, z_trt, z_trl, z_ixt, z_ixl, z_slt, z_sll, z_sls, z_lent, z_lenl, z_abs, z_max, z_min, z_toi, z_tob, z_tut, z_tul, z_lit, z_lil, z_any, z_all, z_sum, z_app, z_set, z_isn, z_isb, z_isi, z_iss, z_ist, z_isl, z_revl, isNon, atI_0, atI_1, atI_2, atI_3, ixN_1, ixN_2, ixN_3, List.map_cons, List.map_nil, List.length_cons, List.length_nil, List.replicate, List.cons_append, List.nil_append, List.append_nil, List.set_cons_zero, List.set_cons_succ, List.getElem?_cons_zero, List.getElem?_cons_succ, Nat.reduceAdd, Nat.reduceSub, Nat.reduceLT, Nat.reduceLeDiff, Nat.reduceEqDiff, Int.reduceNeg, Int.reduceAdd, Int.reduceSub, Int.reduceMul, Int.reducePow, Int.reduceToNat, Int.reduceLT, Int.reduceLE, Int.reduceEq, if_true, if_false, Bool.false_eq_true, decide_true, decide_false, true_and, and_true, Bool.not_true, Bool.not_false, List.set_nil, List.length_set, ne_eq, not_false_eq_true, reduceCtorEq, and_self, List.isEmpty_cons, List.isEmpty_nil, List.length_map, List.set_set, decide_eq_true_eq, n_splits, i_splits, eF]
  exact hF _ _ _ _ ⟨rfl, h⟩
theorem w_unsplit (G : Gm) (hF : Has G "characteristic" (spOp 2 B1)) : Pf G n_unsplit i_unsplit (spOp 2 B1) := by
  rintro us S Q X ⟨hl, h⟩
  obtain ⟨d, a, rfl⟩ := two hl
  obtain ⟨sF, eF, hF⟩ := hF
  simp only [wpSs, wpS, wpE, wpEs, wpO, wpC, wpT, wpTg, wpTs, wpI, wipeU, startU, z_cell, z_slot, z_int, z_bl, z_tup, z_fn, z_lst, z_nil, z_cons, z_opt, z_optu, z_srct, z_srcl, z_bopi, z_bopt, z_bopl, z_bopm, z_add, z_sub, z_mul, z_div, z_mod, z_pow, z_auga, z_augs, z_augd, z_eqii, z_eqss, z_eqbb, z_eqtt, z_eqll, z_ceq, z_cne, z_clt, z_cle, z_cgt, z_cge, z_cin, z_cni, z_int_t, z_trn, z_trb, z_tri, z_trt, z_trl, z_ixt, z_ixl, z_slt, z_sll, z_sls, z_lent, z_lenl, z_abs, z_max, z_min, z_toi, z_tob, z_tut, z_tul, z_lit, z_lil, z_any, z_all, z_sum, z_app, z_set, z_isn, z_isb, z_isi, z_iss, z_ist, z_isl, z_revl, isNon, atI_0, atI_1, atI_2, atI_3, ixN_1, ixN_2, ixN_3, List.map_cons, List.map_nil, List.length_cons, List.length_nil, List.replicate, List.cons_append, List.nil_append, List.append_nil, List.set_cons_zero, List.set_cons_succ, List.getElem?_cons_zero, List.getElem?_cons_succ, Nat.reduceAdd, Nat.reduceSub, Nat.reduceLT, Nat.reduceLeDiff, Nat.reduceEqDiff, Int.reduceNeg, Int.reduceAdd, Int.reduceSub, Int.reduceMul, Int.reducePow, Int.reduceToNat, Int.reduceLT, Int.reduceLE, Int.reduceEq, if_true, if_false, Bool.false_eq_true, decide_true, decide_false, true_and, and_true, Bool.not_true, Bool.not_false, List.set_nil, List.length_set, ne_eq, not_false_eq_true, reduceCtorEq, and_self, List.isEmpty_cons, List.isEmpty_nil, List.length_map, List.set_set, decide_eq_true_eq, n_unsplit, i_unsplit, eF]
  exact hF _ _ _ _ ⟨rfl, h⟩
theorem w_is_diagonal (G : Gm) (hF : Has G "splits" (spOp 2 B1)) : Pf G n_is_diagonal i_is_diagonal (spOp 2 B1) := by
  rintro us S Q X ⟨hl, h⟩
  obtain ⟨d, a, rfl⟩ := two hl
  obtain ⟨sF, eF, hF⟩ := hF
  simp only [wpSs, wpS, wpE, wpEs, wpO, wpC, wpT, wpTg, wpTs, wpI, wipeU, startU, z_cell, z_slot, z_int, z_bl, z_tup, z_fn, z_lst, z_nil, z_cons, z_opt, z_optu, z_srct, z_srcl, z_bopi, z_bopt, z_bopl, z_bopm, z_add, z_sub, z_mul, z_div, z_mod, z_pow, z_auga, z_augs, z_augd, z_eqii, z_eqss, z_eqbb, z_eqtt, z_eqll, z_ceq, z_cne, z_clt, z_cle, z_cgt, z_cge, z_cin, z_cni, z_int_t, z_trn, z_trb, z_tri, z_trt, z_trl, z_ixt, z_ixl, z_slt, z_sll, z_sls, z_lent, z_lenl, z_abs, z_max, z_min, z_toi, z_tob, z_tut, z_tul, z_lit, z_lil, z_any, z_all, z_sum, z_app, z_set, z_isn, z_isb, z_isi, z_iss, z_ist, z_isl, z_revl, isNon, atI_0, atI_1, atI_2, atI_3, ixN_1, ixN_2, ixN_3, List.map_cons, List.map_nil, List.length_cons, List.length_nil, List.replicate, List.cons_append, List.nil_append, List.append_nil, List.set_cons_zero, List.set_cons_succ, List.getElem?_cons_zero, List.getElem?_cons_succ, Nat.reduceAdd, Nat.reduceSub, Nat.reduceLT, Nat.reduceLeDiff, Nat.reduceEqDiff, Int.reduceNeg, Int.reduceAdd, Int.reduceSub, Int.reduceMul, Int.reducePow, Int.reduceToNat, Int.reduceLT, Int.reduceLE, Int.reduceEq, if_true, if_false, Bool.false_eq_true, decide_true, decide_false, true_and, and_true, Bool.not_true, Bool.not_false, List.set_nil, List.length_set, ne_eq, not_false_eq_true, reduceCtorEq, and_self, List.isEmpty_cons, List.isEmpty_nil, List.length_map, List.set_set, decide_eq_true_eq, n_is_diagonal, i_is_diagonal, eF]
  exact hF _ _ _ _ ⟨rfl, h⟩
theorem w_krylov (G : Gm) (hF : Has G "annihilator" (spOp 3 B2)) : Pf G n_krylov i_krylov (spOp 3 B2) := by
  rintro us S Q X ⟨hl, h⟩
  obtain ⟨d, a, b, rfl⟩ := three hl
  obtain ⟨sF, eF, hF⟩ := hF
  simp only [wpSs, wpS, wpE, wpEs, wpO, wpC, wpT, wpTg, wpTs, wpI, wipeU, startU, z_cell, z_slot, z_int, z_bl, z_tup, z_fn, z_lst, z_nil, z_cons, z_opt, z_optu, z_srct, z_srcl, z_bopi, z_bopt, z_bopl, z_bopm, z_add, z_sub, z_mul, z_div, z_mod, z_pow, z_auga, z_augs, z_augd, z_eqii, z_eqss, z_eqbb, z_eqtt, z_eqll, z_ceq, z_cne, z_clt, z_cle, z_cgt, z_cge, z_cin, z_cni, z_int_t, z_trn, z_trb, z_tri, z_trt, z_trl, z_ixt, z_ixl, z_slt, z_sll, z_sls, z_lent, z_lenl, z_abs, z_max, z_min, z_toi, z_tob, z_tut, z_tul, z_lit, z_lil, z_any, z_all, z_sum, z_app, z_set, z_isn, z_isb, z_isi, z_iss, z_ist, z_isl, z_revl, isNon, atI_0, atI_1, atI_2, atI_3, ixN_1, ixN_2, ixN_3, List.map_cons, List.map_nil, List.length_cons, List.length_nil, List.replicate, List.cons_append, List.nil_append, List.append_nil, List.set_cons_zero, List.set_cons_succ, List.getElem?_cons_zero, List.getElem?_cons_succ, Nat.reduceAdd, Nat.reduceSub, Nat.reduceLT, Nat.reduceLeDiff, Nat.reduceEqDiff, Int.reduceNeg, Int.reduceAdd, Int.reduceSub, Int.reduceMul, Int.reducePow, Int.reduceToNat, Int.reduceLT, Int.reduceLE, Int.reduceEq, if_true, if_false, Bool.false_eq_true, decide_true, decide_false, true_and, and_true, Bool.not_true, Bool.not_false, List.set_nil, List.length_set, ne_eq, not_false_eq_true, reduceCtorEq, and_self, List.isEmpty_cons, List.isEmpty_nil, List.length_map, List.set_set, decide_eq_true_eq, n_krylov, i_krylov, eF]
  exact hF _ _ _ _ ⟨rfl, h⟩
theorem w_companion (G : Gm) (hF : Has G "need_field" spNF) : Pf G n_companion i_companion (spOp 2 B0) := by
  rintro us S Q X ⟨hl, ⟨⟨d2, r, rfl, hd⟩, hX⟩ | ⟨h, _⟩⟩
  · obtain ⟨d, a, e⟩ := two hl
    injection e with e1 e2
    subst e1 e2
    obtain ⟨sF, eF, hF⟩ := hF
    simp only [wpSs, wpS, wpE, wpEs, wpO, wpC, wpT, wpTg, wpTs, wpI, wipeU, startU, z_cell, z_slot, z_int, z_bl, z_tup, z_fn, z_lst, z_nil, z_cons, z_opt, z_optu, z_srct, z_srcl, z_bopi, z_bopt, z_bopl, z_bopm, z_add, z_sub, z_mul, z_div, z_mod, z_pow, z_auga, z_augs, z_augd, z_eqii, z_eqss, z_eqbb, z_eqtt, z_eqll, z_ceq, z_cne, z_clt, z_cle, z_cgt, z_cge, z_cin, z_cni, z_int_t, z_trn, z_trb, z_tri, z_trt, z_trl, z_ixt, z_ixl, z_slt, z_sll, z_sls, z_lent, z_lenl, z_abs, z_max, z_min, z_toi, z_tob, z_tut, z_tul, z_lit, z_lil, z_any, z_all, z_sum, z_app, z_set, z_isn, z_isb, z_isi, z_iss, z_ist, z_isl, z_revl, isNon, atI_0, atI_1, atI_2, atI_3, ixN_1, ixN_2, ixN_3, List.map_cons, List.map_nil, List.length_cons, List.length_nil, List.replicate, List.cons_append, List.nil_append, List.append_nil, List.set_cons_zero, List.set_cons_succ, List.getElem?_cons_zero, List.getElem?_cons_succ, Nat.reduceAdd, Nat.reduceSub, Nat.reduceLT, Nat.reduceLeDiff, Nat.reduceEqDiff, Int.reduceNeg, Int.reduceAdd, Int.reduceSub, Int.reduceMul, Int.reducePow, Int.reduceToNat, Int.reduceLT, Int.reduceLE, Int.reduceEq, if_true, if_false, Bool.false_eq_true, decide_true, decide_false, true_and, and_true, Bool.not_true, Bool.not_false, List.set_nil, List.length_set, ne_eq, not_false_eq_true, reduceCtorEq, and_self, List.isEmpty_cons, List.isEmpty_nil, List.length_map, List.set_set, decide_eq_true_eq, n_companion, i_companion, eF]
    exact hF _ _ _ _ ⟨_, rfl, .inr ⟨hd, hX⟩⟩
  · exact h.elim
theorem w_jordan_block (G : Gm) (hF : Has G "need_field" spNF) : Pf G n_jordan_block i_jordan_block (spOp 3 B0) := by
  rintro us S Q X ⟨hl, ⟨⟨d2, r, rfl, hd⟩, hX⟩ | ⟨h, _⟩⟩
  · obtain ⟨d, a, b, e⟩ := three hl
    injection e with e1 e2
    subst e1 e2
    obtain ⟨sF, eF, hF⟩ := hF
    simp only [wpSs, wpS, wpE, wpEs, wpO, wpC, wpT, wpTg, wpTs, wpI, wipeU, startU, z_cell, z_slot, z_int, z_bl, z_tup, z_fn, z_lst, z_nil, z_cons, z_opt, z_optu, z_srct, z_srcl, z_bopi, z_bopt, z_bopl, z_bopm, z_add, z_sub, z_mul, z_div, z_mod, z_pow, z_auga, z_augs, z_augd, z_eqii, z_eqss, z_eqbb, z_eqtt, z_eqll, z_ceq, z_cne, z_clt, z_cle, z_cgt, z_cge, z_cin, z_cni, z_int_t, z_trn, z_trb, z_tri, z_trt, z_trl, z_ixt, z_ixl, z_slt, z_sll, z_sls, z_lent, z_lenl, z_abs, z_max, z_min, z_toi, z_tob, z_tut, z_tul, z_lit, z_lil, z_any, z_all, z_sum, z_app, z_set, z_isn, z_isb, z_isi, z_iss, z_ist, z_isl, z_revl, isNon, atI_0, atI_1, atI_2, atI_3, ixN_1, ixN_2, ixN_3, List.map_cons, List.map_nil, List.length_cons, List.length_nil, List.replicate, List.cons_append, List.nil_append, List.append_nil, List.set_cons_zero, List.set_cons_succ, List.getElem?_cons_zero, List.getElem?_cons_succ, Nat.reduceAdd, Nat.reduceSub, Nat.reduceLT, Nat.reduceLeDiff, Nat.reduceEqDiff, Int.reduceNeg, Int.reduceAdd, Int.reduceSub, Int.reduceMul, Int.reducePow, Int.reduceToNat, Int.reduceLT, Int.reduceLE, Int.reduceEq, if_true, if_false, Bool.false_eq_true, decide_true, decide_false, true_and, and_true, Bool.not_true, Bool.not_false, List.set_nil, List.length_set, ne_eq, not_false_eq_true, reduceCtorEq, and_self, List.isEmpty_cons, List.isEmpty_nil, List.length_map, List.set_set, decide_eq_true_eq, n_jordan_block, i_jordan_block, eF]
    exact hF _ _ _ _ ⟨_, rfl, .inr ⟨hd, hX⟩⟩
  · exact h.elim
theorem w_annihilator (G : Gm) (hF : Has G "need_field" spNF) (hS : Has G "need_square" spNSq) (hH : Has G "need_shape" spNShape) : Pf G n_annihilator i_annihilator (spOp 3 B2) := by
  rintro us S Q X ⟨hl, h⟩
  obtain ⟨d, a, b, rfl⟩ := three hl
  obtain ⟨sF, eF, hF⟩ := hF
  obtain ⟨sS, eS, hS⟩ := hS
  obtain ⟨sH, eH, hH⟩ := hH
  simp only [wpSs, wpS, wpE, wpEs, wpO, wpC, wpT, wpTg, wpTs, wpI, wipeU, startU, z_cell, z_slot, z_int, z_bl, z_tup, z_fn, z_lst, z_nil, z_cons, z_opt, z_optu, z_srct, z_srcl, z_bopi, z_bopt, z_bopl, z_bopm, z_add, z_sub, z_mul, z_div, z_mod, z_pow, z_auga, z_augs, z_augd, z_eqii, z_eqss, z_eqbb, z_eqtt, z_eqll, z_ceq, z_cne, z_clt, z_cle, z_cgt, z_cge, z_cin, z_cni, z_int_t, z_trn, z_trb, z_tri, z_trt, z_trl, z_ixt, z_ixl, z_slt, z_sll, z_sls, z_lent, z_lenl, z_abs, z_max, z_min, z_toi, z_tob, z_tut, z_tul, z_lit, z_lil, z_any, z_all, z_sum, z_app, z_set, z_isn, z_isb, z_isi, z_iss, z_ist, z_isl, z_revl, isNon, atI_0, atI_1, atI_2, atI_3, ixN_1, ixN_2, ixN_3, List.map_cons, List.map_nil, List.length_cons, List.length_nil, List.replicate, List.cons_append, List.nil_append, List.append_nil, List.set_cons_zero, List.set_cons_succ, List.getElem?_cons_zero, List.getElem?_cons_succ, Nat.reduceAdd, Nat.reduceSub, Nat.reduceLT, Nat.reduceLeDiff, Nat.reduceEqDiff, Int.reduceNeg, Int.reduceAdd, Int.reduceSub, Int.reduceMul, Int.reducePow, Int.reduceToNat, Int.reduceLT, Int.reduceLE, Int.reduceEq, if_true, if_false, Bool.false_eq_true, decide_true, decide_false, true_and, and_true, Bool.not_true, Bool.not_false, List.set_nil, List.length_set, ne_eq, not_false_eq_true, reduceCtorEq, and_self, List.isEmpty_cons, List.isEmpty_nil, List.length_map, List.set_set, decide_eq_true_eq, n_annihilator, i_annihilator, eF, eS, eH]
  rcases h with h | ⟨h | ⟨d2, n, x, l, e, hd, hn⟩, hX⟩
  · exact guard hF hS (.inl h)
  · exact guard hF hS (.inr ⟨h, hX⟩)
  · injection e with e1 e2
    injection e2 with e2 e3
    injection e3 with e3 _
    subst e1 e2 e3
    refine hF _ _ _ _ ⟨_, rfl, .inl ⟨hd, hS _ _ _ _ ⟨n, n, _, rfl, .inl ⟨rfl, ?_⟩⟩⟩⟩
    simp only [wpSs, wpS, wpE, wpEs, wpO, wpC, wpT, wpTg, wpTs, wpI, wipeU, startU, z_cell, z_slot, z_int, z_bl, z_tup, z_fn, z_lst, z_nil, z_cons, z_opt, z_optu, z_srct, z_srcl, z_bopi, z_bopt, z_bopl, z_bopm, z_add, z_sub, z_mul, z_div, z_mod, z_pow, z_auga, z_augs, z_augd, z_eqii, z_eqss, z_eqbb, z_eqtt, z_eqll, z_ceq, z_cne, z_clt, z_cle, z_cgt, z_cge, z_cin, z_cni, z_int_t, z_trn, z_trb, z_tri, z_trt, z_trl, z_ixt, z_ixl, z_slt, z_sll, z_sls, z_lent, z_lenl, z_abs, z_max, z_min, z_toi, z_tob, z_tut, z_tul, z_lit, z_lil, z_any, z_all, z_sum, z_app, z_set, z_isn, z_isb, z_isi, z_iss, z_ist, z_isl, z_revl, isNon, atI_0, atI_1, atI_2, atI_3, ixN_1, ixN_2, ixN_3, List.map_cons, List.map_nil, List.length_cons, List.length_nil, List.replicate, List.cons_append, List.nil_append, List.append_nil, List.set_cons_zero, List.set_cons_succ, List.getElem?_cons_zero, List.getElem?_cons_succ, Nat.reduceAdd, Nat.reduceSub, Nat.reduceLT, Nat.reduceLeDiff, Nat.reduceEqDiff, Int.reduceNeg, Int.reduceAdd, Int.reduceSub, Int.reduceMul, Int.reducePow, Int.reduceToNat, Int.reduceLT, Int.reduceLE, Int.reduceEq, if_true, if_false, Bool.false_eq_true, decide_true, decide_false, true_and, and_true, Bool.not_true, Bool.not_false, List.set_nil, List.length_set, ne_eq, not_false_eq_true, reduceCtorEq, and_self, List.isEmpty_cons, List.isEmpty_nil, List.length_map, List.set_set, decide_eq_true_eq]
    exact hH _ _ _ _ ⟨_, rfl, .inr ⟨by simpa using hn, hX⟩⟩
theorem w_similarity (G : Gm) (hF : Has G "need_field" spNF) (hS : Has G "need_square" spNSq) (hH : Has G "need_shape" spNShape) : Pf G n_similarity i_similarity (spOp 3 B3) := by
  rintro us S Q X ⟨hl, h⟩
  obtain ⟨d, a, b, rfl⟩ := three hl
  obtain ⟨sF, eF, hF⟩ := hF
  obtain ⟨sS, eS, hS⟩ := hS
  obtain ⟨sH, eH, hH⟩ := hH
  simp only [wpSs, wpS, wpE, wpEs, wpO, wpC, wpT, wpTg, wpTs, wpI, wipeU, startU, z_cell, z_slot, z_int, z_bl, z_tup, z_fn, z_lst, z_nil, z_cons, z_opt, z_optu, z_srct, z_srcl, z_bopi, z_bopt, z_bopl, z_bopm, z_add, z_sub, z_mul, z_div, z_mod, z_pow, z_auga, z_augs, z_augd, z_eqii, z_eqss, z_eqbb, z_eqtt, z_eqll, z_ceq, z_cne, z_clt, z_cle, z_cgt, z_cge, z_cin, z_cni, z_int_t, z_trn, z_trb, z_tri, z_trt, z_trl, z_ixt, z_ixl, z_slt, z_sll, z_sls, z_lent, z_lenl, z_abs, z_max, z_min, z_toi, z_tob, z_tut, z_tul, z_lit, z_lil, z_any, z_all, z_sum, z_app, z_set, z_isn, z_isb, z_isi, z_iss, z_ist, z_isl, z_revl, isNon, atI_0, atI_1, atI_2, atI_3, ixN_1, ixN_2, ixN_3, List.map_cons, List.map_nil, List.length_cons, List.length_nil, List.replicate, List.cons_append, List.nil_append, List.append_nil, List.set_cons_zero, List.set_cons_succ, List.getElem?_cons_zero, List.getElem?_cons_succ, Nat.reduceAdd, Nat.reduceSub, Nat.reduceLT, Nat.reduceLeDiff, Nat.reduceEqDiff, Int.reduceNeg, Int.reduceAdd, Int.reduceSub, Int.reduceMul, Int.reducePow, Int.reduceToNat, Int.reduceLT, Int.reduceLE, Int.reduceEq, if_true, if_false, Bool.false_eq_true, decide_true, decide_false, true_and, and_true, Bool.not_true, Bool.not_false, List.set_nil, List.length_set, ne_eq, not_false_eq_true, reduceCtorEq, and_self, List.isEmpty_cons, List.isEmpty_nil, List.length_map, List.set_set, decide_eq_true_eq, n_similarity, i_similarity, eF, eS, eH]
  rcases h with h | ⟨h | ⟨d2, n, x, m, y, e, hd, hn⟩, hX⟩
  · exact guard hF hS (.inl h)
  · exact guard hF hS (.inr ⟨h, hX⟩)
  · injection e with e1 e2
    injection e2 with e2 e3
    injection e3 with e3 _
    subst e1 e2 e3
    refine hF _ _ _ _ ⟨_, rfl, .inl ⟨hd, hS _ _ _ _ ⟨n, n, _, rfl, .inl ⟨rfl, ?_⟩⟩⟩⟩
    have c1 : ∀ (i : Int) (z : U), cutU [.int i, .int i, z] none (some 2) = [.int i, .int i] := fun _ _ => rfl
    have c2 : ∀ i : Int, dats 59 [.int i, .int i] = true := fun _ => rfl
    have c3 : eqvs [.int n, .int n] [.int m, .int m] = false := by
      show ((n == m) && ((n == m) && true)) = false
      simp [hn]
    simp only [wpSs, wpS, wpE, wpEs, wpO, wpC, wpT, wpTg, wpTs, wpI, wipeU, startU, z_cell, z_slot, z_int, z_bl, z_tup, z_fn, z_lst, z_nil, z_cons, z_opt, z_optu, z_srct, z_srcl, z_bopi, z_bopt, z_bopl, z_bopm, z_add, z_sub, z_mul, z_div, z_mod, z_pow, z_auga, z_augs, z_augd, z_eqii, z_eqss, z_eqbb, z_eqtt, z_eqll, z_ceq, z_cne, z_clt, z_cle, z_cgt, z_cge, z_cin, z_cni, z_int_t, z_trn, z_trb, z_tri, z_trt, z_trl, z_ixt, z_ixl, z_slt, z_sll, z_sls, z_lent, z_lenl, z_abs, z_max, z_min, z_toi, z_tob, z_tut, z_tul, z_lit, z_lil, z_any, z_all, z_sum, z_app, z_set, z_isn, z_isb, z_isi, z_iss, z_ist, z_isl, z_revl, isNon, atI_0, atI_1, atI_2, atI_3, ixN_1, ixN_2, ixN_3, List.map_cons, List.map_nil, List.length_cons, List.length_nil, List.replicate, List.cons_append, List.nil_append, List.append_nil, List.set_cons_zero, List.set_cons_succ, List.getElem?_cons_zero, List.getElem?_cons_succ, Nat.reduceAdd, Nat.reduceSub, Nat.reduceLT, Nat.reduceLeDiff, Nat.reduceEqDiff, Int.reduceNeg, Int.reduceAdd, Int.reduceSub, Int.reduceMul, Int.reducePow, Int.reduceToNat, Int.reduceLT, Int.reduceLE, Int.reduceEq, if_true, if_false, Bool.false_eq_true, decide_true, decide_false, true_and, and_true, Bool.not_true, Bool.not_false, List.set_nil, List.length_set, ne_eq, not_false_eq_true, reduceCtorEq, and_self, List.isEmpty_cons, List.isEmpty_nil, List.length_map, List.set_set, decide_eq_true_eq, c1, c2, c3]
    exact hH _ _ _ _ ⟨_, rfl, .inr ⟨rfl, hX⟩⟩
theorem w_difference (G : Gm) (hF : Has G "need_field" spNF) (hS : Has G "need_square" spNSq) (hH : Has G "need_shape" spNShape) : Pf G n_difference i_difference (spOp 3 B3) := by
  rintro us S Q X ⟨hl, h⟩
  obtain ⟨d, a, b, rfl⟩ := three hl
  obtain ⟨sF, eF, hF⟩ := hF
  obtain ⟨sS, eS, hS⟩ := hS
  obtain ⟨sH, eH, hH⟩ := hH
  simp only [wpSs, wpS, wpE, wpEs, wpO, wpC, wpT, wpTg, wpTs, wpI, wipeU, startU, z_cell, z_slot, z_int, z_bl, z_tup, z_fn, z_lst, z_nil, z_cons, z_opt, z_optu, z_srct, z_srcl, z_bopi, z_bopt, z_bopl, z_bopm, z_add, z_sub, z_mul, z_div, z_mod, z_pow, z_auga, z_augs, z_augd, z_eqii, z_eqss, z_eqbb, z_eqtt, z_eqll, z_ceq, z_cne, z_clt, z_cle, z_cgt, z_cge, z_cin, z_cni, z_int_t, z_trn, z_trb, z_tri, z_trt, z_trl, z_ixt, z_ixl, z_slt, z_sll, z_sls, z_lent, z_lenl, z_abs, z_max, z_min, z_toi, z_tob, z_tut, z_tul, z_lit, z_lil, z_any, z_all, z_sum, z_app, z_set, z_isn, z_isb, z_isi, z_iss, z_ist, z_isl, z_revl, isNon, atI_0, atI_1, atI_2, atI_3, ixN_1, ixN_2, ixN_3, List.map_cons, List.map_nil, List.length_cons, List.length_nil, List.replicate, List.cons_append, List.nil_append, List.append_nil, List.set_cons_zero, List.set_cons_succ, List.getElem?_cons_zero, List.getElem?_cons_succ, Nat.reduceAdd, Nat.reduceSub, Nat.reduceLT, Nat.reduceLeDiff, Nat.reduceEqDiff, Int.reduceNeg, Int.reduceAdd, Int.reduceSub, Int.reduceMul, Int.reducePow, Int.reduceToNat, Int.reduceLT, Int.reduceLE, Int.reduceEq, if_true, if_false, Bool.false_eq_true, decide_true, decide_false, true_and, and_true, Bool.not_true, Bool.not_false, List.set_nil, List.length_set, ne_eq, not_false_eq_true, reduceCtorEq, and_self, List.isEmpty_cons, List.isEmpty_nil, List.length_map, List.set_set, decide_eq_true_eq, n_difference, i_difference, eF, eS, eH]
  rcases h with h | ⟨h | ⟨d2, n, x, m, y, e, hd, hn⟩, hX⟩
  · exact guard hF hS (.inl h)
  · exact guard hF hS (.inr ⟨h, hX⟩)
  · injection e with e1 e2
    injection e2 with e2 e3
    injection e3 with e3 _
    subst e1 e2 e3
    refine hF _ _ _ _ ⟨_, rfl, .inl ⟨hd, hS _ _ _ _ ⟨n, n, _, rfl, .inl ⟨rfl, ?_⟩⟩⟩⟩
    have c1 : ∀ (i : Int) (z : U), cutU [.int i, .int i, z] none (some 2) = [.int i, .int i] := fun _ _ => rfl
    have c2 : ∀ i : Int, dats 59 [.int i, .int i] = true := fun _ => rfl
    have c3 : eqvs [.int n, .int n] [.int m, .int m] = false := by
      show ((n == m) && ((n == m) && true)) = false
      simp [hn]
    simp only [wpSs, wpS, wpE, wpEs, wpO, wpC, wpT, wpTg, wpTs, wpI, wipeU, startU, z_cell, z_slot, z_int, z_bl, z_tup, z_fn, z_lst, z_nil, z_cons, z_opt, z_optu, z_srct, z_srcl, z_bopi, z_bopt, z_bopl, z_bopm, z_add, z_sub, z_mul, z_div, z_mod, z_pow, z_auga, z_augs, z_augd, z_eqii, z_eqss, z_eqbb, z_eqtt, z_eqll, z_ceq, z_cne, z_clt, z_cle, z_cgt, z_cge, z_cin, z_cni, z_int_t, z_trn, z_trb, z_tri, z_trt, z_trl, z_ixt, z_ixl, z_slt, z_sll, z_sls, z_lent, z_lenl, z_abs, z_max, z_min, z_toi, z_tob, z_tut, z_tul, z_lit, z_lil, z_any, z_all, z_sum, z_app, z_set, z_isn, z_isb, z_isi, z_iss, z_ist, z_isl, z_revl, isNon, atI_0, atI_1, atI_2, atI_3, ixN_1, ixN_2, ixN_3, List.map_cons, List.map_nil, List.length_cons, List.length_nil, List.replicate, List.cons_append, List.nil_append, List.append_nil, List.set_cons_zero, List.set_cons_succ, List.getElem?_cons_zero, List.getElem?_cons_succ, Nat.reduceAdd, Nat.reduceSub, Nat.reduceLT, Nat.reduceLeDiff, Nat.reduceEqDiff, Int.reduceNeg, Int.reduceAdd, Int.reduceSub, Int.reduceMul, Int.reducePow, Int.reduceToNat, Int.reduceLT, Int.reduceLE, Int.reduceEq, if_true, if_false, Bool.false_eq_true, decide_true, decide_false, true_and, and_true, Bool.not_true, Bool.not_false, List.set_nil, List.length_set, ne_eq, not_false_eq_true, reduceCtorEq, and_self, List.isEmpty_cons, List.isEmpty_nil, List.length_map, List.set_set, decide_eq_true_eq, c1, c2, c3]
    exact hH _ _ _ _ ⟨_, rfl, .inr ⟨rfl, hX⟩⟩
end K67

set_option Elab.async false
set_option linter.all false
set_option maxRecDepth 100000
set_option maxHeartbeats 4000000
namespace K67
open PySem PySem.Spec L2 Q
def opsL : List (Str × Nat × (List U → Prop)) := [("characteristic", 2, B1), ("minimal", 2, B1), ("cyclic_vector", 2, B1), ("invariant_factors", 2, B1), ("frobenius", 2, B1), ("eigenvalues", 2, B1), ("jordan", 2, B1), ("unsplit", 2, B1), ("is_diagonal", 2, B1),
  ("annihilator", 3, B2), ("krylov", 3, B2), ("similarity", 3, B3), ("difference", 3, B3), ("companion", 2, B0), ("jordan_block", 3, B0)]
theorem ops_len {f : Str} {N : Nat} {B : List U → Prop} (h : (f, N, B) ∈ opsL) : N = 2 ∨ N = 3 := by
  have : ∀ t ∈ opsL, t.2.1 = 2 ∨ t.2.1 = 3 := by
    intro t ht
    simp only [opsL, List.mem_cons, List.not_mem_nil, or_false] at ht
    rcases ht with rfl | rfl | rfl | rfl | rfl | rfl | rfl | rfl | rfl | rfl | rfl | rfl | rfl | rfl | rfl <;> simp
  exact this _ h
def spCalled : FSpec := fun us S Q X => ∃ f args N B, us = [.fn f, .tup args] ∧ (f, N, B) ∈ opsL ∧ spOp N B args S Q X
theorem w_called (G : Gm) (hO : ∀ f N B, (f, N, B) ∈ opsL → Has G f (spOp N B)) : Pf G n_law_called i_law_called spCalled := by
  intro us S Q X h
  obtain ⟨f, args, N, B, rfl, hm, hs⟩ := h
  obtain ⟨sO, eO, hO⟩ := hO _ _ _ hm
  have hl := hs.1
  rcases ops_len hm with rfl | rfl
  · obtain ⟨a, b, rfl⟩ := two hl
    simp only [wpSs, wpS, wpE, wpEs, wpO, wpC, wpT, wpTg, wpTs, wpI, wipeU, startU, z_cell, z_slot, z_int, z_bl, z_tup, z_fn, z_lst, z_nil, z_cons, z_opt, z_optu, z_srct, z_srcl, z_bopi, z_bopt, z_bopl, z_bopm, z_add, z_sub, z_mul, z_div, z_mod, z_pow, z_auga, z_augs, z_augd, z_eqii, z_eqss, z_eqbb, z_eqtt, z_eqll, z_ceq, z_cne, z_clt, z_cle, z_cgt, z_cge, z_cin, z_cni, z_int_t, z_trn, z_trb, z_tri, z_trt, z_trl, z_ixt, z_ixl, z_slt, z_sll, z_sls, z_lent, z_lenl, z_abs, z_max, z_min, z_toi, z_tob, z_tut, z_tul, z_lit, z_lil, z_any, z_all, z_sum, z_app, z_set, z_isn, z_isb, z_isi, z_iss, z_ist, z_isl, z_revl, isNon, atI_0, atI_1, atI_2, atI_3, ixN_1, ixN_2, ixN_3, List.map_cons, List.map_nil, List.length_cons, List.length_nil, List.replicate, List.cons_append, List.nil_append, List.append_nil, List.set_cons_zero, List.set_cons_succ, List.getElem?_cons_zero, List.getElem?_cons_succ, Nat.reduceAdd, Nat.reduceSub, Nat.reduceLT, Nat.reduceLeDiff, Nat.reduceEqDiff, Int.reduceNeg, Int.reduceAdd, Int.reduceSub, Int.reduceMul, Int.reducePow, Int.reduceToNat, Int.reduceLT, Int.reduceLE, Int.reduceEq, if_true, if_false, Bool.false_eq_true, decide_true, decide_false, true_and, and_true, Bool.not_true, Bool.not_false, List.set_nil, List.length_set, ne_eq, not_false_eq_true, reduceCtorEq, and_self, List.isEmpty_cons, List.isEmpty_nil, List.length_map, List.set_set, decide_eq_true_eq, n_law_called, i_law_called, eO]
    exact hO _ _ _ _ hs
  · obtain ⟨a, b, c, rfl⟩ := three hl
    simp only [wpSs, wpS, wpE, wpEs, wpO, wpC, wpT, wpTg, wpTs, wpI, wipeU, startU, z_cell, z_slot, z_int, z_bl, z_tup, z_fn, z_lst, z_nil, z_cons, z_opt, z_optu, z_srct, z_srcl, z_bopi, z_bopt, z_bopl, z_bopm, z_add, z_sub, z_mul, z_div, z_mod, z_pow, z_auga, z_augs, z_augd, z_eqii, z_eqss, z_eqbb, z_eqtt, z_eqll, z_ceq, z_cne, z_clt, z_cle, z_cgt, z_cge, z_cin, z_cni, z_int_t, z_trn, z_trb, z_tri, z_trt, z_trl, z_ixt, z_ixl, z_slt, z_sll, z_sls, z_lent, z_lenl, z_abs, z_max, z_min, z_toi, z_tob, z_tut, z_tul, z_lit, z_lil, z_any, z_all, z_sum, z_app, z_set, z_isn, z_isb, z_isi, z_iss, z_ist, z_isl, z_revl, isNon, atI_0, atI_1, atI_2, atI_3, ixN_1, ixN_2, ixN_3, List.map_cons, List.map_nil, List.length_cons, List.length_nil, List.replicate, List.cons_append, List.nil_append, List.append_nil, List.set_cons_zero, List.set_cons_succ, List.getElem?_cons_zero, List.getElem?_cons_succ, Nat.reduceAdd, Nat.reduceSub, Nat.reduceLT, Nat.reduceLeDiff, Nat.reduceEqDiff, Int.reduceNeg, Int.reduceAdd, Int.reduceSub, Int.reduceMul, Int.reducePow, Int.reduceToNat, Int.reduceLT, Int.reduceLE, Int.reduceEq, if_true, if_false, Bool.false_eq_true, decide_true, decide_false, true_and, and_true, Bool.not_true, Bool.not_false, List.set_nil, List.length_set, ne_eq, not_false_eq_true, reduceCtorEq, and_self, List.isEmpty_cons, List.isEmpty_nil, List.length_map, List.set_set, decide_eq_true_eq, n_law_called, i_law_called, eO]
    exact hO _ _ _ _ hs
/-- a refused call and its kind -/
def Refd (f : Str) (args : List U) (kind : Str) : Prop := ∃ N B, (f, N, B) ∈ opsL ∧ args.length = N ∧ ((NoFd args ∧ kind = "domain") ∨ (B args ∧ kind = "shape"))
def spClass : FSpec := fun us S Q _ => ∃ f args kind, us = [.fn f, .tup args] ∧ Refd f args kind ∧ Q (.lst S.length) (S ++ [.lst [.str kind, .bl true]])
def RowOk (due : Str) (row : U) : Prop := ∃ f args, row = .tup [.fn f, .tup args] ∧ Refd f args due
def spAll : FSpec := fun us S Q _ => ∃ r due rows, us = [.lst r, .str due] ∧ S[r]? = some (.lst rows) ∧ rows.length < 1000 ∧ (∀ row ∈ rows, RowOk due row) ∧ ∀ S2, Q (.bl true) S2
theorem kind_eq {f : Str} {args : List U} {kind : Str} (h : Refd f args kind) : eqvs [.str kind, .bl true] [.str kind, .bl true] = true := by
  obtain ⟨N, B, _, _, ⟨_, rfl⟩ | ⟨_, rfl⟩⟩ := h
  · show ((("domain" : Str) == "domain") && ((true == true) && true)) = true
    decide +kernel
  · show ((("shape" : Str) == "shape") && ((true == true) && true)) = true
    decide +kernel
theorem atI_mem {l : List U} {i : Int} (h0 : 0 ≤ i) (h1 : i < l.length) : ∃ u, u ∈ l ∧ L2.atI l i = some u := by
  rw [atI_pos _ _ h0, List.getElem?_eq_getElem (by omega)]
  exact ⟨_, List.getElem_mem _, rfl⟩
theorem get2 {S : Sto} {x y : Cell} : (S ++ [x] ++ [y])[S.length]? = some x := by
  rw [List.getElem?_append_left (by simp)]
  exact List.getElem?_concat_length
theorem w_all (G : Gm) (hC : Has G "_law_class" spClass) : Pf G n_law_all i_law_all spAll := by
  intro us S Q X h
  obtain ⟨r, due, rows, rfl, hr, hn, hR, hQ⟩ := h
  obtain ⟨sC, eC, hC⟩ := hC
  have hs2 : 2 ≤ sizeLine := by decide
  simp only [wpSs, wpS, wpE, wpEs, wpO, wpC, wpT, wpTg, wpTs, wpI, wipeU, startU, z_cell, z_slot, z_int, z_bl, z_tup, z_fn, z_lst, z_nil, z_cons, z_opt, z_optu, z_srct, z_srcl, z_bopi, z_bopt, z_bopl, z_bopm, z_add, z_sub, z_mul, z_div, z_mod, z_pow, z_auga, z_augs, z_augd, z_eqii, z_eqss, z_eqbb, z_eqtt, z_eqll, z_ceq, z_cne, z_clt, z_cle, z_cgt, z_cge, z_cin, z_cni, z_int_t, z_trn, z_trb, z_tri, z_trt, z_trl, z_ixt, z_ixl, z_slt, z_sll, z_sls, z_lent, z_lenl, z_abs, z_max, z_min, z_toi, z_tob, z_tut, z_tul, z_lit, z_lil, z_any, z_all, z_sum, z_app, z_set, z_isn, z_isb, z_isi, z_iss, z_ist, z_isl, z_revl, isNon, atI_0, atI_1, atI_2, atI_3, ixN_1, ixN_2, ixN_3, List.map_cons, List.map_nil, List.length_cons, List.length_nil, List.replicate, List.cons_append, List.nil_append, List.append_nil, List.set_cons_zero, List.set_cons_succ, List.getElem?_cons_zero, List.getElem?_cons_succ, Nat.reduceAdd, Nat.reduceSub, Nat.reduceLT, Nat.reduceLeDiff, Nat.reduceEqDiff, Int.reduceNeg, Int.reduceAdd, Int.reduceSub, Int.reduceMul, Int.reducePow, Int.reduceToNat, Int.reduceLT, Int.reduceLE, Int.reduceEq, if_true, if_false, Bool.false_eq_true, decide_true, decide_false, true_and, and_true, Bool.not_true, Bool.not_false, List.set_nil, List.length_set, ne_eq, not_false_eq_true, reduceCtorEq, and_self, List.isEmpty_cons, List.isEmpty_nil, List.length_map, List.set_set, decide_eq_true_eq, n_law_all, i_law_all, hr, eC]
  refine lcL_ind (fun us acc S4 => ∃ j : Nat, us = rows.drop j ∧ j ≤ rows.length ∧ acc = (List.replicate j true).map U.bl ∧ ∃ x, S4 = S ++ x) ?_ ?_ ?_ _ _ _ ⟨0, rfl, by omega, rfl, [], by simp⟩
  · rintro us acc S4 ⟨j, _, _, _, x, rfl⟩
    rw [List.getElem?_append_left (List.getElem?_eq_some_iff.1 hr).1]
    exact hr
  · rintro acc S4 ⟨j, hu, hj, rfl, x, rfl⟩
    simp only [wpSs, wpS, wpE, wpEs, wpO, wpC, wpT, wpTg, wpTs, wpI, wipeU, startU, z_cell, z_slot, z_int, z_bl, z_tup, z_fn, z_lst, z_nil, z_cons, z_opt, z_optu, z_srct, z_srcl, z_bopi, z_bopt, z_bopl, z_bopm, z_add, z_sub, z_mul, z_div, z_mod, z_pow, z_auga, z_augs, z_augd, z_eqii, z_eqss, z_eqbb, z_eqtt, z_eqll, z_ceq, z_cne, z_clt, z_cle, z_cgt, z_cge, z_cin, z_cni, z_int_t, z_trn, z_trb, z_tri, z_trt, z_trl, z_ixt, z_ixl, z_slt, z_sll, z_sls, z_lent, z_lenl, z_abs, z_max, z_min, z_toi, z_tob, z_tut, z_tul, z_lit, z_lil, z_any, z_all, z_sum, z_app, z_set, z_isn, z_isb, z_isi, z_iss, z_ist, z_isl, z_revl, isNon, atI_0, atI_1, atI_2, atI_3, ixN_1, ixN_2, ixN_3, List.map_cons, List.map_nil, List.length_cons, List.length_nil, List.replicate, List.cons_append, List.nil_append, List.append_nil, List.set_cons_zero, List.set_cons_succ, List.getElem?_cons_zero, List.getElem?_cons_succ, Nat.reduceAdd, Nat.reduceSub, Nat.reduceLT, Nat.reduceLeDiff, Nat.reduceEqDiff, Int.reduceNeg, Int.reduceAdd, Int.reduceSub, Int.reduceMul, Int.reducePow, Int.reduceToNat, Int.reduceLT, Int.reduceLE, Int.reduceEq, if_true, if_false, Bool.false_eq_true, decide_true, decide_false, true_and, and_true, Bool.not_true, Bool.not_false, List.set_nil, List.length_set, ne_eq, not_false_eq_true, reduceCtorEq, and_self, List.isEmpty_cons, List.isEmpty_nil, List.length_map, List.set_set, decide_eq_true_eq, List.getElem?_concat_length, bls_of]
    have : (List.replicate j true).all id = true := by simp
    rw [this]
    exact hQ _
  · rintro u us acc S4 k2 ⟨j, hu, hj, rfl, x, rfl⟩ ks kn
    have hj2 : j < rows.length := by
      apply Nat.lt_of_not_le
      intro hh
      rw [List.drop_eq_nil_of_le hh] at hu
      cases hu
    rw [List.drop_eq_getElem_cons hj2] at hu
    injection hu with h1 h2
    obtain ⟨f, args, hrow, hk⟩ := hR rows[j] (List.getElem_mem _)
    rw [hrow] at h1
    subst h1
    simp only [wpSs, wpS, wpE, wpEs, wpO, wpC, wpT, wpTg, wpTs, wpI, wipeU, startU, z_cell, z_slot, z_int, z_bl, z_tup, z_fn, z_lst, z_nil, z_cons, z_opt, z_optu, z_srct, z_srcl, z_bopi, z_bopt, z_bopl, z_bopm, z_add, z_sub, z_mul, z_div, z_mod, z_pow, z_auga, z_augs, z_augd, z_eqii, z_eqss, z_eqbb, z_eqtt, z_eqll, z_ceq, z_cne, z_clt, z_cle, z_cgt, z_cge, z_cin, z_cni, z_int_t, z_trn, z_trb, z_tri, z_trt, z_trl, z_ixt, z_ixl, z_slt, z_sll, z_sls, z_lent, z_lenl, z_abs, z_max, z_min, z_toi, z_tob, z_tut, z_tul, z_lit, z_lil, z_any, z_all, z_sum, z_app, z_set, z_isn, z_isb, z_isi, z_iss, z_ist, z_isl, z_revl, isNon, atI_0, atI_1, atI_2, atI_3, ixN_1, ixN_2, ixN_3, List.map_cons, List.map_nil, List.length_cons, List.length_nil, List.replicate, List.cons_append, List.nil_append, List.append_nil, List.set_cons_zero, List.set_cons_succ, List.getElem?_cons_zero, List.getElem?_cons_succ, Nat.reduceAdd, Nat.reduceSub, Nat.reduceLT, Nat.reduceLeDiff, Nat.reduceEqDiff, Int.reduceNeg, Int.reduceAdd, Int.reduceSub, Int.reduceMul, Int.reducePow, Int.reduceToNat, Int.reduceLT, Int.reduceLE, Int.reduceEq, if_true, if_false, Bool.false_eq_true, decide_true, decide_false, true_and, and_true, Bool.not_true, Bool.not_false, List.set_nil, List.length_set, ne_eq, not_false_eq_true, reduceCtorEq, and_self, List.isEmpty_cons, List.isEmpty_nil, List.length_map, List.set_set, decide_eq_true_eq]
    refine hC _ _ _ _ ⟨f, args, due, rfl, hk, ?_⟩
    have d1 : ∀ k : Str, dats 60 [.str k, .bl true] = true := fun _ => rfl
    simp only [wpSs, wpS, wpE, wpEs, wpO, wpC, wpT, wpTg, wpTs, wpI, wipeU, startU, z_cell, z_slot, z_int, z_bl, z_tup, z_fn, z_lst, z_nil, z_cons, z_opt, z_optu, z_srct, z_srcl, z_bopi, z_bopt, z_bopl, z_bopm, z_add, z_sub, z_mul, z_div, z_mod, z_pow, z_auga, z_augs, z_augd, z_eqii, z_eqss, z_eqbb, z_eqtt, z_eqll, z_ceq, z_cne, z_clt, z_cle, z_cgt, z_cge, z_cin, z_cni, z_int_t, z_trn, z_trb, z_tri, z_trt, z_trl, z_ixt, z_ixl, z_slt, z_sll, z_sls, z_lent, z_lenl, z_abs, z_max, z_min, z_toi, z_tob, z_tut, z_tul, z_lit, z_lil, z_any, z_all, z_sum, z_app, z_set, z_isn, z_isb, z_isi, z_iss, z_ist, z_isl, z_revl, isNon, atI_0, atI_1, atI_2, atI_3, ixN_1, ixN_2, ixN_3, List.map_cons, List.map_nil, List.length_cons, List.length_nil, List.replicate, List.cons_append, List.nil_append, List.append_nil, List.set_cons_zero, List.set_cons_succ, List.getElem?_cons_zero, List.getElem?_cons_succ, Nat.reduceAdd, Nat.reduceSub, Nat.reduceLT, Nat.reduceLeDiff, Nat.reduceEqDiff, Int.reduceNeg, Int.reduceAdd, Int.reduceSub, Int.reduceMul, Int.reducePow, Int.reduceToNat, Int.reduceLT, Int.reduceLE, Int.reduceEq, if_true, if_false, Bool.false_eq_true, decide_true, decide_false, true_and, and_true, Bool.not_true, Bool.not_false, List.set_nil, List.length_set, ne_eq, not_false_eq_true, reduceCtorEq, and_self, List.isEmpty_cons, List.isEmpty_nil, List.length_map, List.set_set, decide_eq_true_eq, get2, List.getElem?_concat_length, kind_eq hk, d1]
    refine ⟨hs2, ks _ _ ?_ ⟨j + 1, h2, hj2, ?_, x ++ [.lst [.str due, .bl true]] ++ [.lst [.str due, .bl true]], by simp⟩⟩
    · simp
      exact Nat.lt_of_lt_of_le (show j < 1000 by omega) (by decide)
    · rw [List.replicate_succ', List.map_append]; rfl
def spNoDom : FSpec := fun us S Q _ => ∃ c m, us = [.lst c] ∧ Cs S c m ∧ m < 1000000 ∧ ∀ d S2, NoF d → Q d S2
def l1 : List U := [.tup [.str "R"], .tup [.str "F", .int 4], .tup [.str "F", .int 1], .tup [.str "F", .int 0], .tup [.str "F", .int 65537], .tup [.str "F", .int 561], .tup [.str "F", .int (-3)], .tup [.str "F"], .tup [.str "F", .bl true], .tup [.str "F", .str "2"], .tup []]
def l2 : List U := [.tup [.str "Z", .int 1], .tup [.str "Q", .int 1], .tup [.str "P"], .tup [.str "P", .tup [.str "Z"]], .tup [.str "P", .tup [.str "P", .tup [.str "Q"]]], .tup [.str "P", .tup [.str "F", .int 9]], .str "Z", .non, .int 7, .bl true, .str "ZZ"]
theorem nof_head {s : Str} {r : List U} (h1 : (s == "Q") = false) (h2 : (s == "F") = false) : NoF (.tup (.str s :: r)) := .inr (.inr (.inr (.inr (.inr (.inl ⟨s, r, rfl, h1, h2⟩)))))
theorem nof_num {n : Int} (h : n ≤ 1 ∨ 65521 < n ∨ n = 4 ∨ n = 561) : NoF (.tup [.str "F", .int n]) := .inr (.inr (.inr (.inr (.inr (.inr (.inr (.inr (.inl ⟨n, rfl, h⟩))))))))
theorem nof_list : ∀ d ∈ l1 ++ l2, NoF d := by
  have hR1 : (("R" : Str) == "Q") = false := by decide +kernel
  have hR2 : (("R" : Str) == "F") = false := by decide +kernel
  intro d hd
  simp only [l1, l2, List.cons_append, List.nil_append, List.mem_cons, List.not_mem_nil, or_false] at hd
  rcases hd with rfl | rfl | rfl | rfl | rfl | rfl | rfl | rfl | rfl | rfl | rfl | rfl | rfl | rfl | rfl | rfl | rfl | rfl | rfl | rfl | rfl | rfl
  · exact nof_head hR1 hR2
  · exact nof_num (by omega)
  · exact nof_num (by omega)
  · exact nof_num (by omega)
  · exact nof_num (by omega)
  · exact nof_num (by omega)
  · exact nof_num (by omega)
  · exact .inr (.inr (.inr (.inr (.inr (.inr (.inr (.inl rfl)))))))
  · exact .inr (.inr (.inr (.inr (.inr (.inr (.inr (.inr (.inr (.inl ⟨true, rfl⟩)))))))))
  · exact .inr (.inr (.inr (.inr (.inr (.inr (.inr (.inr (.inr (.inr ⟨_, rfl⟩)))))))))
  · exact .inr (.inr (.inr (.inr (.inl rfl))))
  · exact nof_head s_ZQ s_ZF
  · exact .inr (.inr (.inr (.inr (.inr (.inr (.inl ⟨_, rfl⟩))))))
  · exact nof_head s_PQ s_PF
  · exact nof_head s_PQ s_PF
  · exact nof_head s_PQ s_PF
  · exact nof_head s_PQ s_PF
  · exact .inl ⟨_, rfl⟩
  · exact .inr (.inl rfl)
  · exact .inr (.inr (.inl ⟨_, rfl⟩))
  · exact .inr (.inr (.inr (.inl ⟨_, rfl⟩)))
  · exact .inl ⟨_, rfl⟩
theorem w_no_domain (G : Gm) (hT : Has G "_law_take" spTake) : Pf G n_law_no_domain i_law_no_domain spNoDom := by
  intro us S Q X h
  obtain ⟨c, m, rfl, hC, hm, hQ⟩ := h
  obtain ⟨sT, eT, hT⟩ := hT
  have hs : 2 ≤ sizeLine ∧ 1 ≤ sizeLine ∧ 0 ≤ sizeLine ∧ 11 ≤ sizeLine ∧ 11 + 11 ≤ sizeLine ∧ 22 ≤ sizeLine := by decide
  simp only [wpSs, wpS, wpE, wpEs, wpO, wpC, wpT, wpTg, wpTs, wpI, wipeU, startU, z_cell, z_slot, z_int, z_bl, z_tup, z_fn, z_lst, z_nil, z_cons, z_opt, z_optu, z_srct, z_srcl, z_bopi, z_bopt, z_bopl, z_bopm, z_add, z_sub, z_mul, z_div, z_mod, z_pow, z_auga, z_augs, z_augd, z_eqii, z_eqss, z_eqbb, z_eqtt, z_eqll, z_ceq, z_cne, z_clt, z_cle, z_cgt, z_cge, z_cin, z_cni, z_int_t, z_trn, z_trb, z_tri, z_trt, z_trl, z_ixt, z_ixl, z_slt, z_sll, z_sls, z_lent, z_lenl, z_abs, z_max, z_min, z_toi, z_tob, z_tut, z_tul, z_lit, z_lil, z_any, z_all, z_sum, z_app, z_set, z_isn, z_isb, z_isi, z_iss, z_ist, z_isl, z_revl, isNon, atI_0, atI_1, atI_2, atI_3, ixN_1, ixN_2, ixN_3, List.map_cons, List.map_nil, List.length_cons, List.length_nil, List.replicate, List.cons_append, List.nil_append, List.append_nil, List.set_cons_zero, List.set_cons_succ, List.getElem?_cons_zero, List.getElem?_cons_succ, Nat.reduceAdd, Nat.reduceSub, Nat.reduceLT, Nat.reduceLeDiff, Nat.reduceEqDiff, Int.reduceNeg, Int.reduceAdd, Int.reduceSub, Int.reduceMul, Int.reducePow, Int.reduceToNat, Int.reduceLT, Int.reduceLE, Int.reduceEq, if_true, if_false, Bool.false_eq_true, decide_true, decide_false, true_and, and_true, Bool.not_true, Bool.not_false, List.set_nil, List.length_set, ne_eq, not_false_eq_true, reduceCtorEq, and_self, List.isEmpty_cons, List.isEmpty_nil, List.length_map, List.set_set, decide_eq_true_eq, n_law_no_domain, i_law_no_domain, eT, hs, get2, List.getElem?_concat_length]
  refine hT _ _ _ _ ⟨c, _, m, rfl, by decide, by decide, ((hC.push _).push _).push _, by omega, fun dg S2 d0 d1 e2 c2 => ?_⟩
  have hl := e2.new (Nat.lt_of_lt_of_le hC.lt (by simp))
  simp only [wpSs, wpS, wpE, wpEs, wpO, wpC, wpT, wpTg, wpTs, wpI, wipeU, startU, z_cell, z_slot, z_int, z_bl, z_tup, z_fn, z_lst, z_nil, z_cons, z_opt, z_optu, z_srct, z_srcl, z_bopi, z_bopt, z_bopl, z_bopm, z_add, z_sub, z_mul, z_div, z_mod, z_pow, z_auga, z_augs, z_augd, z_eqii, z_eqss, z_eqbb, z_eqtt, z_eqll, z_ceq, z_cne, z_clt, z_cle, z_cgt, z_cge, z_cin, z_cni, z_int_t, z_trn, z_trb, z_tri, z_trt, z_trl, z_ixt, z_ixl, z_slt, z_sll, z_sls, z_lent, z_lenl, z_abs, z_max, z_min, z_toi, z_tob, z_tut, z_tul, z_lit, z_lil, z_any, z_all, z_sum, z_app, z_set, z_isn, z_isb, z_isi, z_iss, z_ist, z_isl, z_revl, isNon, atI_0, atI_1, atI_2, atI_3, ixN_1, ixN_2, ixN_3, List.map_cons, List.map_nil, List.length_cons, List.length_nil, List.replicate, List.cons_append, List.nil_append, List.append_nil, List.set_cons_zero, List.set_cons_succ, List.getElem?_cons_zero, List.getElem?_cons_succ, Nat.reduceAdd, Nat.reduceSub, Nat.reduceLT, Nat.reduceLeDiff, Nat.reduceEqDiff, Int.reduceNeg, Int.reduceAdd, Int.reduceSub, Int.reduceMul, Int.reducePow, Int.reduceToNat, Int.reduceLT, Int.reduceLE, Int.reduceEq, if_true, if_false, Bool.false_eq_true, decide_true, decide_false, true_and, and_true, Bool.not_true, Bool.not_false, List.set_nil, List.length_set, ne_eq, not_false_eq_true, reduceCtorEq, and_self, List.isEmpty_cons, List.isEmpty_nil, List.length_map, List.set_set, decide_eq_true_eq, hl]
  obtain ⟨u, hu, e⟩ := atI_mem (l := l1 ++ l2) d0 d1
  show optu (L2.atI (l1 ++ l2) dg) fun u => Q u S2
  rw [e]
  exact hQ u S2 (nof_list u hu)
/-! ### the law -/
def ops1 : List Str := ["characteristic", "minimal", "cyclic_vector", "invariant_factors", "frobenius", "eigenvalues", "jordan", "unsplit", "is_diagonal"]
def opNames : List Str := ["characteristic", "minimal", "cyclic_vector", "invariant_factors", "frobenius", "eigenvalues", "jordan", "unsplit", "is_diagonal", "annihilator", "krylov", "similarity", "difference", "companion", "jordan_block"]
def rows1 (d a : U) : List U := ops1.map fun f => .tup [.fn f, .tup [d, a]]
def rows2 (d a b v : U) : List U := [.tup [.fn "annihilator", .tup [d, a, v]], .tup [.fn "krylov", .tup [d, a, v]], .tup [.fn "similarity", .tup [d, a, b]], .tup [.fn "difference", .tup [d, a, b]]]
theorem cts_of {G : Gm} (h : ∀ f ∈ opNames, G.cts f = some (.fn f)) : G.cts "characteristic" = some (.fn "characteristic") ∧ G.cts "minimal" = some (.fn "minimal") ∧ G.cts "cyclic_vector" = some (.fn "cyclic_vector") ∧ G.cts "invariant_factors" = some (.fn "invariant_factors") ∧ G.cts "frobenius" = some (.fn "frobenius") ∧
    G.cts "eigenvalues" = some (.fn "eigenvalues") ∧ G.cts "jordan" = some (.fn "jordan") ∧ G.cts "unsplit" = some (.fn "unsplit") ∧ G.cts "is_diagonal" = some (.fn "is_diagonal") ∧ G.cts "annihilator" = some (.fn "annihilator") ∧ G.cts "krylov" = some (.fn "krylov") ∧ G.cts "similarity" = some (.fn "similarity") ∧
    G.cts "difference" = some (.fn "difference") ∧ G.cts "companion" = some (.fn "companion") ∧ G.cts "jordan_block" = some (.fn "jordan_block") := by
  refine ⟨?_, ?_, ?_, ?_, ?_, ?_, ?_, ?_, ?_, ?_, ?_, ?_, ?_, ?_, ?_⟩ <;> exact h _ (by simp [opNames])
def spSingle : FSpec := fun us S Q _ => ∃ d a, us = [d, a] ∧ ∀ n x, (S ++ x)[n]? = some (.lst (rows1 d a)) → Q (.lst n) (S ++ x)
theorem w_single (G : Gm) (hc : ∀ f ∈ opNames, G.cts f = some (.fn f)) : Pf G n_law_single i_law_single spSingle := by
  intro us S Q X h
  obtain ⟨d, a, rfl, hQ⟩ := h
  have hs : 9 ≤ sizeLine ∧ 2 ≤ sizeLine := by decide
  have hc := cts_of hc
  simp only [wpSs, wpS, wpE, wpEs, wpO, wpC, wpT, wpTg, wpTs, wpI, wipeU, startU, z_cell, z_slot, z_int, z_bl, z_tup, z_fn, z_lst, z_nil, z_cons, z_opt, z_optu, z_srct, z_srcl, z_bopi, z_bopt, z_bopl, z_bopm, z_add, z_sub, z_mul, z_div, z_mod, z_pow, z_auga, z_augs, z_augd, z_eqii, z_eqss, z_eqbb, z_eqtt, z_eqll, z_ceq, z_cne, z_clt, z_cle, z_cgt, z_cge, z_cin, z_cni, z_int_t, z_trn, z_trb, z_tri, z_trt, z_trl, z_ixt, z_ixl, z_slt, z_sll, z_sls, z_lent, z_lenl, z_abs, z_max, z_min, z_toi, z_tob, z_tut, z_tul, z_lit, z_lil, z_any, z_all, z_sum, z_app, z_set, z_isn, z_isb, z_isi, z_iss, z_ist, z_isl, z_revl, isNon, atI_0, atI_1, atI_2, atI_3, ixN_1, ixN_2, ixN_3, List.map_cons, List.map_nil, List.length_cons, List.length_nil, List.replicate, List.cons_append, List.nil_append, List.append_nil, List.set_cons_zero, List.set_cons_succ, List.getElem?_cons_zero, List.getElem?_cons_succ, Nat.reduceAdd, Nat.reduceSub, Nat.reduceLT, Nat.reduceLeDiff, Nat.reduceEqDiff, Int.reduceNeg, Int.reduceAdd, Int.reduceSub, Int.reduceMul, Int.reducePow, Int.reduceToNat, Int.reduceLT, Int.reduceLE, Int.reduceEq, if_true, if_false, Bool.false_eq_true, decide_true, decide_false, true_and, and_true, Bool.not_true, Bool.not_false, List.set_nil, List.length_set, ne_eq, not_false_eq_true, reduceCtorEq, and_self, List.isEmpty_cons, List.isEmpty_nil, List.length_map, List.set_set, decide_eq_true_eq, n_law_single, i_law_single, hc, hs, List.getElem?_concat_length]
  show lcL _ _ (ops1.map U.fn) [] _ _
  refine lcL_ind (fun us acc S4 => ∃ j : Nat, us = (ops1.drop j).map U.fn ∧ acc = (rows1 d a).take j ∧ j ≤ 9 ∧ S4 = S ++ [.lst (ops1.map U.fn)]) ?_ ?_ ?_ _ _ _ ⟨0, rfl, rfl, by omega, rfl⟩
  · rintro us acc S4 ⟨j, _, _, _, rfl⟩
    exact List.getElem?_concat_length
  · rintro acc S4 ⟨j, hu, rfl, hj, rfl⟩
    have hj : 9 ≤ j := by
      have := congrArg List.length hu
      simp [ops1] at this
      omega
    rw [List.take_of_length_le (by show 9 ≤ j; exact hj), List.append_assoc]
    refine hQ _ _ ?_
    rw [← List.append_assoc]
    exact List.getElem?_concat_length
  · rintro u us acc S4 k2 ⟨j, hu, rfl, hj9, rfl⟩ ks kn
    have hj : j < ops1.length := by
      have := congrArg List.length hu
      simp [ops1] at this
      show j < 9
      omega
    rw [List.drop_eq_getElem_cons hj, List.map_cons] at hu
    injection hu with h1 h2
    subst h1
    refine ks _ _ (Nat.lt_of_le_of_lt (show _ ≤ 9 by simp; omega) (by decide)) ⟨j + 1, h2, ?_, hj, rfl⟩
    rw [List.take_succ_eq_append_getElem (by show j < 9; exact hj)]
    congr 1
    simp [rows1]
def spDouble : FSpec := fun us S Q _ => ∃ d a b v, us = [d, a, b, v] ∧ Q (.lst S.length) (S ++ [.lst (rows2 d a b v)])
theorem w_double (G : Gm) (hc : ∀ f ∈ opNames, G.cts f = some (.fn f)) : Pf G n_law_double i_law_double spDouble := by
  intro us S Q X h
  obtain ⟨d, a, b, v, rfl, hQ⟩ := h
  have hs : 4 ≤ sizeLine ∧ 2 ≤ sizeLine ∧ 3 ≤ sizeLine := by decide
  have hc := cts_of hc
  simp only [wpSs, wpS, wpE, wpEs, wpO, wpC, wpT, wpTg, wpTs, wpI, wipeU, startU, z_cell, z_slot, z_int, z_bl, z_tup, z_fn, z_lst, z_nil, z_cons, z_opt, z_optu, z_srct, z_srcl, z_bopi, z_bopt, z_bopl, z_bopm, z_add, z_sub, z_mul, z_div, z_mod, z_pow, z_auga, z_augs, z_augd, z_eqii, z_eqss, z_eqbb, z_eqtt, z_eqll, z_ceq, z_cne, z_clt, z_cle, z_cgt, z_cge, z_cin, z_cni, z_int_t, z_trn, z_trb, z_tri, z_trt, z_trl, z_ixt, z_ixl, z_slt, z_sll, z_sls, z_lent, z_lenl, z_abs, z_max, z_min, z_toi, z_tob, z_tut, z_tul, z_lit, z_lil, z_any, z_all, z_sum, z_app, z_set, z_isn, z_isb, z_isi, z_iss, z_ist, z_isl, z_revl, isNon, atI_0, atI_1, atI_2, atI_3, ixN_1, ixN_2, ixN_3, List.map_cons, List.map_nil, List.length_cons, List.length_nil, List.replicate, List.cons_append, List.nil_append, List.append_nil, List.set_cons_zero, List.set_cons_succ, List.getElem?_cons_zero, List.getElem?_cons_succ, Nat.reduceAdd, Nat.reduceSub, Nat.reduceLT, Nat.reduceLeDiff, Nat.reduceEqDiff, Int.reduceNeg, Int.reduceAdd, Int.reduceSub, Int.reduceMul, Int.reducePow, Int.reduceToNat, Int.reduceLT, Int.reduceLE, Int.reduceEq, if_true, if_false, Bool.false_eq_true, decide_true, decide_false, true_and, and_true, Bool.not_true, Bool.not_false, List.set_nil, List.length_set, ne_eq, not_false_eq_true, reduceCtorEq, and_self, List.isEmpty_cons, List.isEmpty_nil, List.length_map, List.set_set, decide_eq_true_eq, n_law_double, i_law_double, hc, hs]
  exact hQ
theorem lc_small {sN : FSpec} (hN : ∀ us S Q X, spSmall true us S Q X → sN us S Q X) {d : U} {c m k : Nat} {X : Exn} (hd : DomU d) (hk : k ≤ 10) {S : Sto} {Q : List U → Sto → Prop} (hC : Cs S c m) (hm : m < 900000)
    (hQ : ∀ acc S2, acc.length = k → Ext c S S2 → Cs S2 c (m + 50) → Q acc S2) : lcL (fun u S2 kk => sN [.lst c, d] S2 (fun v S5 => kk (some v) S5) X) (fun _ => True) (rngL 0 k) [] S Q := by
  refine lcL_ind (fun us acc S4 => ∃ i : Nat, i ≤ k ∧ us = (rngL 0 k).drop i ∧ acc.length = i ∧ Ext c S S4 ∧ Cs S4 c (m + 5 * i)) ?_ ?_ ?_ _ _ _ ⟨0, by omega, rfl, rfl, Ext.refl _ _, hC⟩
  · intros; trivial
  · rintro acc2 S5 ⟨i, hi, hu2, ha2, e5, c5⟩
    have hik : i = k := by
      have := congrArg List.length hu2
      simp [rngL] at this
      omega
    exact hQ _ _ (by omega) e5 (c5.mono (by omega))
  · rintro u2 us2 acc2 S5 k3 ⟨i, hi, hu2, ha2, e5, c5⟩ ks2 kn2
    obtain ⟨i1, rfl, hus2⟩ := rng_drop hu2
    refine hN _ _ _ _ ⟨c, d, m + 5 * i, rfl, .inr ⟨rfl, hd⟩, c5, by omega, fun _ => by omega, fun v S6 hv e6 c6 => ?_⟩
    exact ks2 _ _ (Nat.lt_of_lt_of_le (show acc2.length < 256 by omega) (by decide)) ⟨i + 1, by omega, hus2, by simpa using ha2, e5.trans e6, c6.mono (by show m + 5 * i + 5 ≤ _; omega)⟩
def spLaw : FSpec := fun us S Q _ => ∃ ns, us = [.scr ns] ∧ ∀ S2, Q (.bl true) S2
theorem look2 {S : Sto} {n : Nat} {z x y : Cell} (h : S[n]? = some z) : (S ++ [x] ++ [y])[n]? = some z := by
  have hn := (List.getElem?_eq_some_iff.1 h).1
  rw [List.getElem?_append_left (by simp; omega), List.getElem?_append_left hn]
  exact h
theorem pick2 {a b : U} {g : Int} (h0 : 0 ≤ g) (h1 : g < 2) : ∃ u, (u = a ∨ u = b) ∧ L2.atI [a, b] g = some u := by
  have : g = 0 ∨ g = 1 := by omega
  rcases this with rfl | rfl
  · exact ⟨a, .inl rfl, rfl⟩
  · exact ⟨b, .inr rfl, rfl⟩
theorem nof_z : NoF (.tup [.str "Z"]) := nof_head s_ZQ s_ZF
theorem nof_p (f : U) : NoF (.tup [.str "P", f]) := nof_head s_PQ s_PF
theorem rows1_ok {d a : U} {due : Str} (h : ((∃ r, [d, a] = d :: r ∧ NoF d) ∧ due = "domain") ∨ (B1 [d, a] ∧ due = "shape")) : ∀ row ∈ rows1 d a, RowOk due row := by
  intro row hrow
  obtain ⟨f, hf, rfl⟩ := List.mem_map.1 hrow
  refine ⟨f, _, rfl, 2, B1, ?_, rfl, ?_⟩
  · simp only [ops1, List.mem_cons, List.not_mem_nil, or_false] at hf
    rcases hf with rfl | rfl | rfl | rfl | rfl | rfl | rfl | rfl | rfl <;> simp [opsL]
  · rcases h with ⟨⟨r, e, h⟩, hd⟩ | h
    · exact .inl ⟨⟨d, _, rfl, h⟩, hd⟩
    · exact .inr h
theorem op3_ok {f : Str} {B : List U → Prop} (hm : (f, 3, B) ∈ opsL) {d a b : U} {due : Str} (h : (NoF d ∧ due = "domain") ∨ (B [d, a, b] ∧ due = "shape")) : RowOk due (.tup [.fn f, .tup [d, a, b]]) := by
  refine ⟨f, _, rfl, 3, B, hm, rfl, ?_⟩
  rcases h with ⟨h, hd⟩ | h
  · exact .inl ⟨⟨d, _, rfl, h⟩, hd⟩
  · exact .inr h
theorem op2_ok {f : Str} {B : List U → Prop} (hm : (f, 2, B) ∈ opsL) {d a : U} {due : Str} (h : (NoF d ∧ due = "domain") ∨ (B [d, a] ∧ due = "shape")) : RowOk due (.tup [.fn f, .tup [d, a]]) := by
  refine ⟨f, _, rfl, 2, B, hm, rfl, ?_⟩
  rcases h with ⟨h, hd⟩ | h
  · exact .inl ⟨⟨d, _, rfl, h⟩, hd⟩
  · exact .inr h
theorem m_an : (("annihilator" : Str), 3, B2) ∈ opsL := by simp [opsL]
theorem m_kr : (("krylov" : Str), 3, B2) ∈ opsL := by simp [opsL]
theorem m_si : (("similarity" : Str), 3, B3) ∈ opsL := by simp [opsL]
theorem m_di : (("difference" : Str), 3, B3) ∈ opsL := by simp [opsL]
theorem m_co : (("companion" : Str), 2, B0) ∈ opsL := by simp [opsL]
theorem m_jb : (("jordan_block" : Str), 3, B0) ∈ opsL := by simp [opsL]
theorem rows2_ok {d a b v : U} {due : Str} (h : (NoF d ∧ due = "domain") ∨ ((∃ n k x, a = .tup [.int n, .int k, x] ∧ FieldU d ∧ n ≠ k) ∧ due = "shape")) : ∀ row ∈ rows2 d a b v, RowOk due row := by
  intro row hrow
  have hb : ∀ r, (NoF d ∧ due = "domain") ∨ (B1 (d :: a :: r) ∧ due = "shape") := fun r => by
    rcases h with h | ⟨⟨n, k, x, rfl, hd, hn⟩, h⟩
    · exact .inl h
    · exact .inr ⟨⟨d, n, k, x, r, rfl, hd, hn⟩, h⟩
  have or2 : ∀ {r : List U} {Y : Prop}, ((NoF d ∧ due = "domain") ∨ (B1 (d :: a :: r) ∧ due = "shape")) → (NoF d ∧ due = "domain") ∨ ((B1 (d :: a :: r) ∨ Y) ∧ due = "shape") := fun h => by
    rcases h with h | ⟨h, e⟩
    · exact .inl h
    · exact .inr ⟨.inl h, e⟩
  simp only [rows2, List.mem_cons, List.not_mem_nil, or_false] at hrow
  rcases hrow with rfl | rfl | rfl | rfl
  · exact op3_ok m_an (or2 (hb [v]))
  · exact op3_ok m_kr (or2 (hb [v]))
  · exact op3_ok m_si (or2 (hb [b]))
  · exact op3_ok m_di (or2 (hb [b]))
theorem w_law (G : Gm) (hc : ∀ f ∈ opNames, G.cts f = some (.fn f)) (hSt : Has G "_law_start" spStart) (hFi : Has G "_law_field" spField) (hT : Has G "_law_take" spTake) (hM : Has G "_law_matrix" spMatrix) (hSm : Has G "_law_small" (spSmall true)) (hNu : Has G "_law_number" (spNumber true))
    (hND : Has G "_law_no_domain" spNoDom) (hSi : Has G "_law_single" spSingle) (hDo : Has G "_law_double" spDouble) (hA : Has G "_law_all" spAll) : Pf G n_law i_law spLaw := by
  intro us S Q X h
  obtain ⟨ns, rfl, hQ⟩ := h
  have hc := cts_of hc
  obtain ⟨sSt, eSt, hSt⟩ := hSt
  obtain ⟨sFi, eFi, hFi⟩ := hFi
  obtain ⟨sT, eT, hT⟩ := hT
  obtain ⟨sM, eM, hM⟩ := hM
  obtain ⟨sSm, eSm, hSm⟩ := hSm
  obtain ⟨sNu, eNu, hNu⟩ := hNu
  obtain ⟨sND, eND, hND⟩ := hND
  obtain ⟨sSi, eSi, hSi⟩ := hSi
  obtain ⟨sDo, eDo, hDo⟩ := hDo
  obtain ⟨sA, eA, hA⟩ := hA
  have hs : 1 ≤ sizeLine ∧ 2 ≤ sizeLine ∧ 3 ≤ sizeLine := by decide
  simp only [wpSs, wpS, wpE, wpEs, wpO, wpC, wpT, wpTg, wpTs, wpI, wipeU, startU, z_cell, z_slot, z_int, z_bl, z_tup, z_fn, z_lst, z_nil, z_cons, z_opt, z_optu, z_srct, z_srcl, z_bopi, z_bopt, z_bopl, z_bopm, z_add, z_sub, z_mul, z_div, z_mod, z_pow, z_auga, z_augs, z_augd, z_eqii, z_eqss, z_eqbb, z_eqtt, z_eqll, z_ceq, z_cne, z_clt, z_cle, z_cgt, z_cge, z_cin, z_cni, z_int_t, z_trn, z_trb, z_tri, z_trt, z_trl, z_ixt, z_ixl, z_slt, z_sll, z_sls, z_lent, z_lenl, z_abs, z_max, z_min, z_toi, z_tob, z_tut, z_tul, z_lit, z_lil, z_any, z_all, z_sum, z_app, z_set, z_isn, z_isb, z_isi, z_iss, z_ist, z_isl, z_revl, isNon, atI_0, atI_1, atI_2, atI_3, ixN_1, ixN_2, ixN_3, List.map_cons, List.map_nil, List.length_cons, List.length_nil, List.replicate, List.cons_append, List.nil_append, List.append_nil, List.set_cons_zero, List.set_cons_succ, List.getElem?_cons_zero, List.getElem?_cons_succ, Nat.reduceAdd, Nat.reduceSub, Nat.reduceLT, Nat.reduceLeDiff, Nat.reduceEqDiff, Int.reduceNeg, Int.reduceAdd, Int.reduceSub, Int.reduceMul, Int.reducePow, Int.reduceToNat, Int.reduceLT, Int.reduceLE, Int.reduceEq, if_true, if_false, Bool.false_eq_true, decide_true, decide_false, true_and, and_true, Bool.not_true, Bool.not_false, List.set_nil, List.length_set, ne_eq, not_false_eq_true, reduceCtorEq, and_self, List.isEmpty_cons, List.isEmpty_nil, List.length_map, List.set_set, decide_eq_true_eq, n_law, i_law, hc, eSt, eFi, eT, eM, eSm, eNu, eND, eSi, eDo, eA, hs]
  refine hSt _ _ _ _ ⟨ns, rfl, fun c S1 c1 => ?_⟩
  simp only [wpSs, wpS, wpE, wpEs, wpO, wpC, wpT, wpTg, wpTs, wpI, wipeU, startU, z_cell, z_slot, z_int, z_bl, z_tup, z_fn, z_lst, z_nil, z_cons, z_opt, z_optu, z_srct, z_srcl, z_bopi, z_bopt, z_bopl, z_bopm, z_add, z_sub, z_mul, z_div, z_mod, z_pow, z_auga, z_augs, z_augd, z_eqii, z_eqss, z_eqbb, z_eqtt, z_eqll, z_ceq, z_cne, z_clt, z_cle, z_cgt, z_cge, z_cin, z_cni, z_int_t, z_trn, z_trb, z_tri, z_trt, z_trl, z_ixt, z_ixl, z_slt, z_sll, z_sls, z_lent, z_lenl, z_abs, z_max, z_min, z_toi, z_tob, z_tut, z_tul, z_lit, z_lil, z_any, z_all, z_sum, z_app, z_set, z_isn, z_isb, z_isi, z_iss, z_ist, z_isl, z_revl, isNon, atI_0, atI_1, atI_2, atI_3, ixN_1, ixN_2, ixN_3, List.map_cons, List.map_nil, List.length_cons, List.length_nil, List.replicate, List.cons_append, List.nil_append, List.append_nil, List.set_cons_zero, List.set_cons_succ, List.getElem?_cons_zero, List.getElem?_cons_succ, Nat.reduceAdd, Nat.reduceSub, Nat.reduceLT, Nat.reduceLeDiff, Nat.reduceEqDiff, Int.reduceNeg, Int.reduceAdd, Int.reduceSub, Int.reduceMul, Int.reducePow, Int.reduceToNat, Int.reduceLT, Int.reduceLE, Int.reduceEq, if_true, if_false, Bool.false_eq_true, decide_true, decide_false, true_and, and_true, Bool.not_true, Bool.not_false, List.set_nil, List.length_set, ne_eq, not_false_eq_true, reduceCtorEq, and_self, List.isEmpty_cons, List.isEmpty_nil, List.length_map, List.set_set, decide_eq_true_eq]
  refine hFi _ _ _ _ ⟨c, 0, rfl, c1, by omega, fun f S2 hf e2 c2 => ?_⟩
  simp only [wpSs, wpS, wpE, wpEs, wpO, wpC, wpT, wpTg, wpTs, wpI, wipeU, startU, z_cell, z_slot, z_int, z_bl, z_tup, z_fn, z_lst, z_nil, z_cons, z_opt, z_optu, z_srct, z_srcl, z_bopi, z_bopt, z_bopl, z_bopm, z_add, z_sub, z_mul, z_div, z_mod, z_pow, z_auga, z_augs, z_augd, z_eqii, z_eqss, z_eqbb, z_eqtt, z_eqll, z_ceq, z_cne, z_clt, z_cle, z_cgt, z_cge, z_cin, z_cni, z_int_t, z_trn, z_trb, z_tri, z_trt, z_trl, z_ixt, z_ixl, z_slt, z_sll, z_sls, z_lent, z_lenl, z_abs, z_max, z_min, z_toi, z_tob, z_tut, z_tul, z_lit, z_lil, z_any, z_all, z_sum, z_app, z_set, z_isn, z_isb, z_isi, z_iss, z_ist, z_isl, z_revl, isNon, atI_0, atI_1, atI_2, atI_3, ixN_1, ixN_2, ixN_3, List.map_cons, List.map_nil, List.length_cons, List.length_nil, List.replicate, List.cons_append, List.nil_append, List.append_nil, List.set_cons_zero, List.set_cons_succ, List.getElem?_cons_zero, List.getElem?_cons_succ, Nat.reduceAdd, Nat.reduceSub, Nat.reduceLT, Nat.reduceLeDiff, Nat.reduceEqDiff, Int.reduceNeg, Int.reduceAdd, Int.reduceSub, Int.reduceMul, Int.reducePow, Int.reduceToNat, Int.reduceLT, Int.reduceLE, Int.reduceEq, if_true, if_false, Bool.false_eq_true, decide_true, decide_false, true_and, and_true, Bool.not_true, Bool.not_false, List.set_nil, List.length_set, ne_eq, not_false_eq_true, reduceCtorEq, and_self, List.isEmpty_cons, List.isEmpty_nil, List.length_map, List.set_set, decide_eq_true_eq]
  refine hT _ _ _ _ ⟨c, 3, _, rfl, by decide, by decide, c2, by omega, fun n0 S3 n1 n2 e3 c3 => ?_⟩
  simp only [wpSs, wpS, wpE, wpEs, wpO, wpC, wpT, wpTg, wpTs, wpI, wipeU, startU, z_cell, z_slot, z_int, z_bl, z_tup, z_fn, z_lst, z_nil, z_cons, z_opt, z_optu, z_srct, z_srcl, z_bopi, z_bopt, z_bopl, z_bopm, z_add, z_sub, z_mul, z_div, z_mod, z_pow, z_auga, z_augs, z_augd, z_eqii, z_eqss, z_eqbb, z_eqtt, z_eqll, z_ceq, z_cne, z_clt, z_cle, z_cgt, z_cge, z_cin, z_cni, z_int_t, z_trn, z_trb, z_tri, z_trt, z_trl, z_ixt, z_ixl, z_slt, z_sll, z_sls, z_lent, z_lenl, z_abs, z_max, z_min, z_toi, z_tob, z_tut, z_tul, z_lit, z_lil, z_any, z_all, z_sum, z_app, z_set, z_isn, z_isb, z_isi, z_iss, z_ist, z_isl, z_revl, isNon, atI_0, atI_1, atI_2, atI_3, ixN_1, ixN_2, ixN_3, List.map_cons, List.map_nil, List.length_cons, List.length_nil, List.replicate, List.cons_append, List.nil_append, List.append_nil, List.set_cons_zero, List.set_cons_succ, List.getElem?_cons_zero, List.getElem?_cons_succ, Nat.reduceAdd, Nat.reduceSub, Nat.reduceLT, Nat.reduceLeDiff, Nat.reduceEqDiff, Int.reduceNeg, Int.reduceAdd, Int.reduceSub, Int.reduceMul, Int.reducePow, Int.reduceToNat, Int.reduceLT, Int.reduceLE, Int.reduceEq, if_true, if_false, Bool.false_eq_true, decide_true, decide_false, true_and, and_true, Bool.not_true, Bool.not_false, List.set_nil, List.length_set, ne_eq, not_false_eq_true, reduceCtorEq, and_self, List.isEmpty_cons, List.isEmpty_nil, List.length_map, List.set_set, decide_eq_true_eq]
  refine hT _ _ _ _ ⟨c, 2, _, rfl, by decide, by decide, c3.push _, by omega, fun g4 S4 l4 u4 e4 c4 => ?_⟩
  have hl := e4.new c3.lt
  generalize hn : (1 + n0) = n at *
  obtain ⟨k, hk, ek⟩ : ∃ k, (k = n - 1 ∨ k = n + 1) ∧ L2.atI [U.int (n - 1), U.int (n + 1)] g4 = some (.int k) := by
    have : g4 = 0 ∨ g4 = 1 := by omega
    rcases this with rfl | rfl
    · exact ⟨n - 1, .inl rfl, rfl⟩
    · exact ⟨n + 1, .inr rfl, rfl⟩
  have h13 : (9 : Nat) + 4 ≤ sizeLine := by decide
  have h133 : (9 : Nat) + 4 + 3 ≤ sizeLine := by decide
  have h163 : (9 : Nat) + 4 + 3 + 2 ≤ sizeLine := by decide
  have h15 : (9 : Nat) + 4 + 2 ≤ sizeLine := by decide
  simp only [wpSs, wpS, wpE, wpEs, wpO, wpC, wpT, wpTg, wpTs, wpI, wipeU, startU, z_cell, z_slot, z_int, z_bl, z_tup, z_fn, z_lst, z_nil, z_cons, z_opt, z_optu, z_srct, z_srcl, z_bopi, z_bopt, z_bopl, z_bopm, z_add, z_sub, z_mul, z_div, z_mod, z_pow, z_auga, z_augs, z_augd, z_eqii, z_eqss, z_eqbb, z_eqtt, z_eqll, z_ceq, z_cne, z_clt, z_cle, z_cgt, z_cge, z_cin, z_cni, z_int_t, z_trn, z_trb, z_tri, z_trt, z_trl, z_ixt, z_ixl, z_slt, z_sll, z_sls, z_lent, z_lenl, z_abs, z_max, z_min, z_toi, z_tob, z_tut, z_tul, z_lit, z_lil, z_any, z_all, z_sum, z_app, z_set, z_isn, z_isb, z_isi, z_iss, z_ist, z_isl, z_revl, isNon, atI_0, atI_1, atI_2, atI_3, ixN_1, ixN_2, ixN_3, List.map_cons, List.map_nil, List.length_cons, List.length_nil, List.replicate, List.cons_append, List.nil_append, List.append_nil, List.set_cons_zero, List.set_cons_succ, List.getElem?_cons_zero, List.getElem?_cons_succ, Nat.reduceAdd, Nat.reduceSub, Nat.reduceLT, Nat.reduceLeDiff, Nat.reduceEqDiff, Int.reduceNeg, Int.reduceAdd, Int.reduceSub, Int.reduceMul, Int.reducePow, Int.reduceToNat, Int.reduceLT, Int.reduceLE, Int.reduceEq, if_true, if_false, Bool.false_eq_true, decide_true, decide_false, true_and, and_true, Bool.not_true, Bool.not_false, List.set_nil, List.length_set, ne_eq, not_false_eq_true, reduceCtorEq, and_self, List.isEmpty_cons, List.isEmpty_nil, List.length_map, List.set_set, decide_eq_true_eq, hl, ek]
  refine hT _ _ _ _ ⟨c, 2, _, rfl, by decide, by decide, c4, by omega, fun g5 S5 l5 u5 e5 c5 => ?_⟩
  simp only [wpSs, wpS, wpE, wpEs, wpO, wpC, wpT, wpTg, wpTs, wpI, wipeU, startU, z_cell, z_slot, z_int, z_bl, z_tup, z_fn, z_lst, z_nil, z_cons, z_opt, z_optu, z_srct, z_srcl, z_bopi, z_bopt, z_bopl, z_bopm, z_add, z_sub, z_mul, z_div, z_mod, z_pow, z_auga, z_augs, z_augd, z_eqii, z_eqss, z_eqbb, z_eqtt, z_eqll, z_ceq, z_cne, z_clt, z_cle, z_cgt, z_cge, z_cin, z_cni, z_int_t, z_trn, z_trb, z_tri, z_trt, z_trl, z_ixt, z_ixl, z_slt, z_sll, z_sls, z_lent, z_lenl, z_abs, z_max, z_min, z_toi, z_tob, z_tut, z_tul, z_lit, z_lil, z_any, z_all, z_sum, z_app, z_set, z_isn, z_isb, z_isi, z_iss, z_ist, z_isl, z_revl, isNon, atI_0, atI_1, atI_2, atI_3, ixN_1, ixN_2, ixN_3, List.map_cons, List.map_nil, List.length_cons, List.length_nil, List.replicate, List.cons_append, List.nil_append, List.append_nil, List.set_cons_zero, List.set_cons_succ, List.getElem?_cons_zero, List.getElem?_cons_succ, Nat.reduceAdd, Nat.reduceSub, Nat.reduceLT, Nat.reduceLeDiff, Nat.reduceEqDiff, Int.reduceNeg, Int.reduceAdd, Int.reduceSub, Int.reduceMul, Int.reducePow, Int.reduceToNat, Int.reduceLT, Int.reduceLE, Int.reduceEq, if_true, if_false, Bool.false_eq_true, decide_true, decide_false, true_and, and_true, Bool.not_true, Bool.not_false, List.set_nil, List.length_set, ne_eq, not_false_eq_true, reduceCtorEq, and_self, List.isEmpty_cons, List.isEmpty_nil, List.length_map, List.set_set, decide_eq_true_eq]
  by_cases hz : g5 = 0
  · simp only [wpSs, wpS, wpE, wpEs, wpO, wpC, wpT, wpTg, wpTs, wpI, wipeU, startU, z_cell, z_slot, z_int, z_bl, z_tup, z_fn, z_lst, z_nil, z_cons, z_opt, z_optu, z_srct, z_srcl, z_bopi, z_bopt, z_bopl, z_bopm, z_add, z_sub, z_mul, z_div, z_mod, z_pow, z_auga, z_augs, z_augd, z_eqii, z_eqss, z_eqbb, z_eqtt, z_eqll, z_ceq, z_cne, z_clt, z_cle, z_cgt, z_cge, z_cin, z_cni, z_int_t, z_trn, z_trb, z_tri, z_trt, z_trl, z_ixt, z_ixl, z_slt, z_sll, z_sls, z_lent, z_lenl, z_abs, z_max, z_min, z_toi, z_tob, z_tut, z_tul, z_lit, z_lil, z_any, z_all, z_sum, z_app, z_set, z_isn, z_isb, z_isi, z_iss, z_ist, z_isl, z_revl, isNon, atI_0, atI_1, atI_2, atI_3, ixN_1, ixN_2, ixN_3, List.map_cons, List.map_nil, List.length_cons, List.length_nil, List.replicate, List.cons_append, List.nil_append, List.append_nil, List.set_cons_zero, List.set_cons_succ, List.getElem?_cons_zero, List.getElem?_cons_succ, Nat.reduceAdd, Nat.reduceSub, Nat.reduceLT, Nat.reduceLeDiff, Nat.reduceEqDiff, Int.reduceNeg, Int.reduceAdd, Int.reduceSub, Int.reduceMul, Int.reducePow, Int.reduceToNat, Int.reduceLT, Int.reduceLE, Int.reduceEq, if_true, if_false, Bool.false_eq_true, decide_true, decide_false, true_and, and_true, Bool.not_true, Bool.not_false, List.set_nil, List.length_set, ne_eq, not_false_eq_true, reduceCtorEq, and_self, List.isEmpty_cons, List.isEmpty_nil, List.length_map, List.set_set, decide_eq_true_eq, hz]
    refine hT _ _ _ _ ⟨c, 2, _, rfl, by decide, by decide, c5.push _, by omega, fun g6 S6 l6 u6 e6 c6 => ?_⟩
    have hl6 := e6.new c5.lt
    obtain ⟨d, hd, ed⟩ := pick2 (a := .tup [.str "Z"]) (b := .tup [.str "P", f]) l6 u6
    have hdom : DomU d := by
      rcases hd with rfl | rfl
      · exact .inr (.inl rfl)
      · exact .inr (.inr ⟨_, rfl, hf⟩)
    have hnf : NoF d := by
      rcases hd with rfl | rfl
      · exact nof_z
      · exact nof_p _
    simp only [wpSs, wpS, wpE, wpEs, wpO, wpC, wpT, wpTg, wpTs, wpI, wipeU, startU, z_cell, z_slot, z_int, z_bl, z_tup, z_fn, z_lst, z_nil, z_cons, z_opt, z_optu, z_srct, z_srcl, z_bopi, z_bopt, z_bopl, z_bopm, z_add, z_sub, z_mul, z_div, z_mod, z_pow, z_auga, z_augs, z_augd, z_eqii, z_eqss, z_eqbb, z_eqtt, z_eqll, z_ceq, z_cne, z_clt, z_cle, z_cgt, z_cge, z_cin, z_cni, z_int_t, z_trn, z_trb, z_tri, z_trt, z_trl, z_ixt, z_ixl, z_slt, z_sll, z_sls, z_lent, z_lenl, z_abs, z_max, z_min, z_toi, z_tob, z_tut, z_tul, z_lit, z_lil, z_any, z_all, z_sum, z_app, z_set, z_isn, z_isb, z_isi, z_iss, z_ist, z_isl, z_revl, isNon, atI_0, atI_1, atI_2, atI_3, ixN_1, ixN_2, ixN_3, List.map_cons, List.map_nil, List.length_cons, List.length_nil, List.replicate, List.cons_append, List.nil_append, List.append_nil, List.set_cons_zero, List.set_cons_succ, List.getElem?_cons_zero, List.getElem?_cons_succ, Nat.reduceAdd, Nat.reduceSub, Nat.reduceLT, Nat.reduceLeDiff, Nat.reduceEqDiff, Int.reduceNeg, Int.reduceAdd, Int.reduceSub, Int.reduceMul, Int.reducePow, Int.reduceToNat, Int.reduceLT, Int.reduceLE, Int.reduceEq, if_true, if_false, Bool.false_eq_true, decide_true, decide_false, true_and, and_true, Bool.not_true, Bool.not_false, List.set_nil, List.length_set, ne_eq, not_false_eq_true, reduceCtorEq, and_self, List.isEmpty_cons, List.isEmpty_nil, List.length_map, List.set_set, decide_eq_true_eq, hl6, ed]
    refine hT _ _ _ _ ⟨c, 2, _, rfl, by decide, by decide, c6.push _, by omega, fun g7 S7 l7 u7 e7 c7 => ?_⟩
    have hl7 := e7.new c6.lt
    obtain ⟨kk, hkk, ekk⟩ : ∃ kk, (kk = n ∨ kk = k) ∧ L2.atI [U.int n, U.int k] g7 = some (.int kk) := by
      have : g7 = 0 ∨ g7 = 1 := by omega
      rcases this with rfl | rfl
      · exact ⟨n, .inl rfl, rfl⟩
      · exact ⟨k, .inr rfl, rfl⟩
    simp only [wpSs, wpS, wpE, wpEs, wpO, wpC, wpT, wpTg, wpTs, wpI, wipeU, startU, z_cell, z_slot, z_int, z_bl, z_tup, z_fn, z_lst, z_nil, z_cons, z_opt, z_optu, z_srct, z_srcl, z_bopi, z_bopt, z_bopl, z_bopm, z_add, z_sub, z_mul, z_div, z_mod, z_pow, z_auga, z_augs, z_augd, z_eqii, z_eqss, z_eqbb, z_eqtt, z_eqll, z_ceq, z_cne, z_clt, z_cle, z_cgt, z_cge, z_cin, z_cni, z_int_t, z_trn, z_trb, z_tri, z_trt, z_trl, z_ixt, z_ixl, z_slt, z_sll, z_sls, z_lent, z_lenl, z_abs, z_max, z_min, z_toi, z_tob, z_tut, z_tul, z_lit, z_lil, z_any, z_all, z_sum, z_app, z_set, z_isn, z_isb, z_isi, z_iss, z_ist, z_isl, z_revl, isNon, atI_0, atI_1, atI_2, atI_3, ixN_1, ixN_2, ixN_3, List.map_cons, List.map_nil, List.length_cons, List.length_nil, List.replicate, List.cons_append, List.nil_append, List.append_nil, List.set_cons_zero, List.set_cons_succ, List.getElem?_cons_zero, List.getElem?_cons_succ, Nat.reduceAdd, Nat.reduceSub, Nat.reduceLT, Nat.reduceLeDiff, Nat.reduceEqDiff, Int.reduceNeg, Int.reduceAdd, Int.reduceSub, Int.reduceMul, Int.reducePow, Int.reduceToNat, Int.reduceLT, Int.reduceLE, Int.reduceEq, if_true, if_false, Bool.false_eq_true, decide_true, decide_false, true_and, and_true, Bool.not_true, Bool.not_false, List.set_nil, List.length_set, ne_eq, not_false_eq_true, reduceCtorEq, and_self, List.isEmpty_cons, List.isEmpty_nil, List.length_map, List.set_set, decide_eq_true_eq, hl7, ekk]
    refine hM _ _ _ _ ⟨c, d, n, kk, _, rfl, hdom, by omega, by omega, by omega, by omega, c7, by omega, fun ax S8 e8 c8 => ?_⟩
    generalize (U.tup [.int n, .int kk, ax]) = a
    refine hSm _ _ _ _ ⟨c, d, _, rfl, .inr ⟨rfl, hdom⟩, c8, by omega, fun _ => by omega, fun x S9 hx e9 c9 => ?_⟩
    simp only [wpSs, wpS, wpE, wpEs, wpO, wpC, wpT, wpTg, wpTs, wpI, wipeU, startU, z_cell, z_slot, z_int, z_bl, z_tup, z_fn, z_lst, z_nil, z_cons, z_opt, z_optu, z_srct, z_srcl, z_bopi, z_bopt, z_bopl, z_bopm, z_add, z_sub, z_mul, z_div, z_mod, z_pow, z_auga, z_augs, z_augd, z_eqii, z_eqss, z_eqbb, z_eqtt, z_eqll, z_ceq, z_cne, z_clt, z_cle, z_cgt, z_cge, z_cin, z_cni, z_int_t, z_trn, z_trb, z_tri, z_trt, z_trl, z_ixt, z_ixl, z_slt, z_sll, z_sls, z_lent, z_lenl, z_abs, z_max, z_min, z_toi, z_tob, z_tut, z_tul, z_lit, z_lil, z_any, z_all, z_sum, z_app, z_set, z_isn, z_isb, z_isi, z_iss, z_ist, z_isl, z_revl, isNon, atI_0, atI_1, atI_2, atI_3, ixN_1, ixN_2, ixN_3, List.map_cons, List.map_nil, List.length_cons, List.length_nil, List.replicate, List.cons_append, List.nil_append, List.append_nil, List.set_cons_zero, List.set_cons_succ, List.getElem?_cons_zero, List.getElem?_cons_succ, Nat.reduceAdd, Nat.reduceSub, Nat.reduceLT, Nat.reduceLeDiff, Nat.reduceEqDiff, Int.reduceNeg, Int.reduceAdd, Int.reduceSub, Int.reduceMul, Int.reducePow, Int.reduceToNat, Int.reduceLT, Int.reduceLE, Int.reduceEq, if_true, if_false, Bool.false_eq_true, decide_true, decide_false, true_and, and_true, Bool.not_true, Bool.not_false, List.set_nil, List.length_set, ne_eq, not_false_eq_true, reduceCtorEq, and_self, List.isEmpty_cons, List.isEmpty_nil, List.length_map, List.set_set, decide_eq_true_eq]
    refine ⟨⟨by omega, by omega⟩, ?_⟩
    refine lc_small hSm hdom (by omega) c9 (by show _ + 5 < _; omega) fun v S10 hv e10 c10 => ?_
    simp only [wpSs, wpS, wpE, wpEs, wpO, wpC, wpT, wpTg, wpTs, wpI, wipeU, startU, z_cell, z_slot, z_int, z_bl, z_tup, z_fn, z_lst, z_nil, z_cons, z_opt, z_optu, z_srct, z_srcl, z_bopi, z_bopt, z_bopl, z_bopm, z_add, z_sub, z_mul, z_div, z_mod, z_pow, z_auga, z_augs, z_augd, z_eqii, z_eqss, z_eqbb, z_eqtt, z_eqll, z_ceq, z_cne, z_clt, z_cle, z_cgt, z_cge, z_cin, z_cni, z_int_t, z_trn, z_trb, z_tri, z_trt, z_trl, z_ixt, z_ixl, z_slt, z_sll, z_sls, z_lent, z_lenl, z_abs, z_max, z_min, z_toi, z_tob, z_tut, z_tul, z_lit, z_lil, z_any, z_all, z_sum, z_app, z_set, z_isn, z_isb, z_isi, z_iss, z_ist, z_isl, z_revl, isNon, atI_0, atI_1, atI_2, atI_3, ixN_1, ixN_2, ixN_3, List.map_cons, List.map_nil, List.length_cons, List.length_nil, List.replicate, List.cons_append, List.nil_append, List.append_nil, List.set_cons_zero, List.set_cons_succ, List.getElem?_cons_zero, List.getElem?_cons_succ, Nat.reduceAdd, Nat.reduceSub, Nat.reduceLT, Nat.reduceLeDiff, Nat.reduceEqDiff, Int.reduceNeg, Int.reduceAdd, Int.reduceSub, Int.reduceMul, Int.reducePow, Int.reduceToNat, Int.reduceLT, Int.reduceLE, Int.reduceEq, if_true, if_false, Bool.false_eq_true, decide_true, decide_false, true_and, and_true, Bool.not_true, Bool.not_false, List.set_nil, List.length_set, ne_eq, not_false_eq_true, reduceCtorEq, and_self, List.isEmpty_cons, List.isEmpty_nil, List.length_map, List.set_set, decide_eq_true_eq, List.getElem?_concat_length]
    refine hNu _ _ _ _ ⟨d, 1, rfl, .inr ⟨rfl, hdom⟩, fun one y _ => ?_⟩
    simp only [wpSs, wpS, wpE, wpEs, wpO, wpC, wpT, wpTg, wpTs, wpI, wipeU, startU, z_cell, z_slot, z_int, z_bl, z_tup, z_fn, z_lst, z_nil, z_cons, z_opt, z_optu, z_srct, z_srcl, z_bopi, z_bopt, z_bopl, z_bopm, z_add, z_sub, z_mul, z_div, z_mod, z_pow, z_auga, z_augs, z_augd, z_eqii, z_eqss, z_eqbb, z_eqtt, z_eqll, z_ceq, z_cne, z_clt, z_cle, z_cgt, z_cge, z_cin, z_cni, z_int_t, z_trn, z_trb, z_tri, z_trt, z_trl, z_ixt, z_ixl, z_slt, z_sll, z_sls, z_lent, z_lenl, z_abs, z_max, z_min, z_toi, z_tob, z_tut, z_tul, z_lit, z_lil, z_any, z_all, z_sum, z_app, z_set, z_isn, z_isb, z_isi, z_iss, z_ist, z_isl, z_revl, isNon, atI_0, atI_1, atI_2, atI_3, ixN_1, ixN_2, ixN_3, List.map_cons, List.map_nil, List.length_cons, List.length_nil, List.replicate, List.cons_append, List.nil_append, List.append_nil, List.set_cons_zero, List.set_cons_succ, List.getElem?_cons_zero, List.getElem?_cons_succ, Nat.reduceAdd, Nat.reduceSub, Nat.reduceLT, Nat.reduceLeDiff, Nat.reduceEqDiff, Int.reduceNeg, Int.reduceAdd, Int.reduceSub, Int.reduceMul, Int.reducePow, Int.reduceToNat, Int.reduceLT, Int.reduceLE, Int.reduceEq, if_true, if_false, Bool.false_eq_true, decide_true, decide_false, true_and, and_true, Bool.not_true, Bool.not_false, List.set_nil, List.length_set, ne_eq, not_false_eq_true, reduceCtorEq, and_self, List.isEmpty_cons, List.isEmpty_nil, List.length_map, List.set_set, decide_eq_true_eq]
    refine hT _ _ _ _ ⟨c, 2, _, rfl, by decide, by decide, (c10.push _).push _, by show _ + 5 + 50 < _; omega, fun g11 S11 l11 u11 e11 c11 => ?_⟩
    simp only [wpSs, wpS, wpE, wpEs, wpO, wpC, wpT, wpTg, wpTs, wpI, wipeU, startU, z_cell, z_slot, z_int, z_bl, z_tup, z_fn, z_lst, z_nil, z_cons, z_opt, z_optu, z_srct, z_srcl, z_bopi, z_bopt, z_bopl, z_bopm, z_add, z_sub, z_mul, z_div, z_mod, z_pow, z_auga, z_augs, z_augd, z_eqii, z_eqss, z_eqbb, z_eqtt, z_eqll, z_ceq, z_cne, z_clt, z_cle, z_cgt, z_cge, z_cin, z_cni, z_int_t, z_trn, z_trb, z_tri, z_trt, z_trl, z_ixt, z_ixl, z_slt, z_sll, z_sls, z_lent, z_lenl, z_abs, z_max, z_min, z_toi, z_tob, z_tut, z_tul, z_lit, z_lil, z_any, z_all, z_sum, z_app, z_set, z_isn, z_isb, z_isi, z_iss, z_ist, z_isl, z_revl, isNon, atI_0, atI_1, atI_2, atI_3, ixN_1, ixN_2, ixN_3, List.map_cons, List.map_nil, List.length_cons, List.length_nil, List.replicate, List.cons_append, List.nil_append, List.append_nil, List.set_cons_zero, List.set_cons_succ, List.getElem?_cons_zero, List.getElem?_cons_succ, Nat.reduceAdd, Nat.reduceSub, Nat.reduceLT, Nat.reduceLeDiff, Nat.reduceEqDiff, Int.reduceNeg, Int.reduceAdd, Int.reduceSub, Int.reduceMul, Int.reducePow, Int.reduceToNat, Int.reduceLT, Int.reduceLE, Int.reduceEq, if_true, if_false, Bool.false_eq_true, decide_true, decide_false, true_and, and_true, Bool.not_true, Bool.not_false, List.set_nil, List.length_set, ne_eq, not_false_eq_true, reduceCtorEq, and_self, List.isEmpty_cons, List.isEmpty_nil, List.length_map, List.set_set, decide_eq_true_eq]
    by_cases hy : g11 = 0
    · simp only [wpSs, wpS, wpE, wpEs, wpO, wpC, wpT, wpTg, wpTs, wpI, wipeU, startU, z_cell, z_slot, z_int, z_bl, z_tup, z_fn, z_lst, z_nil, z_cons, z_opt, z_optu, z_srct, z_srcl, z_bopi, z_bopt, z_bopl, z_bopm, z_add, z_sub, z_mul, z_div, z_mod, z_pow, z_auga, z_augs, z_augd, z_eqii, z_eqss, z_eqbb, z_eqtt, z_eqll, z_ceq, z_cne, z_clt, z_cle, z_cgt, z_cge, z_cin, z_cni, z_int_t, z_trn, z_trb, z_tri, z_trt, z_trl, z_ixt, z_ixl, z_slt, z_sll, z_sls, z_lent, z_lenl, z_abs, z_max, z_min, z_toi, z_tob, z_tut, z_tul, z_lit, z_lil, z_any, z_all, z_sum, z_app, z_set, z_isn, z_isb, z_isi, z_iss, z_ist, z_isl, z_revl, isNon, atI_0, atI_1, atI_2, atI_3, ixN_1, ixN_2, ixN_3, List.map_cons, List.map_nil, List.length_cons, List.length_nil, List.replicate, List.cons_append, List.nil_append, List.append_nil, List.set_cons_zero, List.set_cons_succ, List.getElem?_cons_zero, List.getElem?_cons_succ, Nat.reduceAdd, Nat.reduceSub, Nat.reduceLT, Nat.reduceLeDiff, Nat.reduceEqDiff, Int.reduceNeg, Int.reduceAdd, Int.reduceSub, Int.reduceMul, Int.reducePow, Int.reduceToNat, Int.reduceLT, Int.reduceLE, Int.reduceEq, if_true, if_false, Bool.false_eq_true, decide_true, decide_false, true_and, and_true, Bool.not_true, Bool.not_false, List.set_nil, List.length_set, ne_eq, not_false_eq_true, reduceCtorEq, and_self, List.isEmpty_cons, List.isEmpty_nil, List.length_map, List.set_set, decide_eq_true_eq, hy]
      refine hND _ _ _ _ ⟨c, _, rfl, c11, by show _ + 5 + 50 + 1 < _; omega, fun d2 S12 hnf => ?_⟩
      simp only [wpSs, wpS, wpE, wpEs, wpO, wpC, wpT, wpTg, wpTs, wpI, wipeU, startU, z_cell, z_slot, z_int, z_bl, z_tup, z_fn, z_lst, z_nil, z_cons, z_opt, z_optu, z_srct, z_srcl, z_bopi, z_bopt, z_bopl, z_bopm, z_add, z_sub, z_mul, z_div, z_mod, z_pow, z_auga, z_augs, z_augd, z_eqii, z_eqss, z_eqbb, z_eqtt, z_eqll, z_ceq, z_cne, z_clt, z_cle, z_cgt, z_cge, z_cin, z_cni, z_int_t, z_trn, z_trb, z_tri, z_trt, z_trl, z_ixt, z_ixl, z_slt, z_sll, z_sls, z_lent, z_lenl, z_abs, z_max, z_min, z_toi, z_tob, z_tut, z_tul, z_lit, z_lil, z_any, z_all, z_sum, z_app, z_set, z_isn, z_isb, z_isi, z_iss, z_ist, z_isl, z_revl, isNon, atI_0, atI_1, atI_2, atI_3, ixN_1, ixN_2, ixN_3, List.map_cons, List.map_nil, List.length_cons, List.length_nil, List.replicate, List.cons_append, List.nil_append, List.append_nil, List.set_cons_zero, List.set_cons_succ, List.getElem?_cons_zero, List.getElem?_cons_succ, Nat.reduceAdd, Nat.reduceSub, Nat.reduceLT, Nat.reduceLeDiff, Nat.reduceEqDiff, Int.reduceNeg, Int.reduceAdd, Int.reduceSub, Int.reduceMul, Int.reducePow, Int.reduceToNat, Int.reduceLT, Int.reduceLE, Int.reduceEq, if_true, if_false, Bool.false_eq_true, decide_true, decide_false, true_and, and_true, Bool.not_true, Bool.not_false, List.set_nil, List.length_set, ne_eq, not_false_eq_true, reduceCtorEq, and_self, List.isEmpty_cons, List.isEmpty_nil, List.length_map, List.set_set, decide_eq_true_eq]
      refine hSi _ _ _ _ ⟨d2, a, rfl, fun r7 x7 hr7 => ?_⟩
      have hr7l := (List.getElem?_eq_some_iff.1 hr7).1
      simp only [wpSs, wpS, wpE, wpEs, wpO, wpC, wpT, wpTg, wpTs, wpI, wipeU, startU, z_cell, z_slot, z_int, z_bl, z_tup, z_fn, z_lst, z_nil, z_cons, z_opt, z_optu, z_srct, z_srcl, z_bopi, z_bopt, z_bopl, z_bopm, z_add, z_sub, z_mul, z_div, z_mod, z_pow, z_auga, z_augs, z_augd, z_eqii, z_eqss, z_eqbb, z_eqtt, z_eqll, z_ceq, z_cne, z_clt, z_cle, z_cgt, z_cge, z_cin, z_cni, z_int_t, z_trn, z_trb, z_tri, z_trt, z_trl, z_ixt, z_ixl, z_slt, z_sll, z_sls, z_lent, z_lenl, z_abs, z_max, z_min, z_toi, z_tob, z_tut, z_tul, z_lit, z_lil, z_any, z_all, z_sum, z_app, z_set, z_isn, z_isb, z_isi, z_iss, z_ist, z_isl, z_revl, isNon, atI_0, atI_1, atI_2, atI_3, ixN_1, ixN_2, ixN_3, List.map_cons, List.map_nil, List.length_cons, List.length_nil, List.replicate, List.cons_append, List.nil_append, List.append_nil, List.set_cons_zero, List.set_cons_succ, List.getElem?_cons_zero, List.getElem?_cons_succ, Nat.reduceAdd, Nat.reduceSub, Nat.reduceLT, Nat.reduceLeDiff, Nat.reduceEqDiff, Int.reduceNeg, Int.reduceAdd, Int.reduceSub, Int.reduceMul, Int.reducePow, Int.reduceToNat, Int.reduceLT, Int.reduceLE, Int.reduceEq, if_true, if_false, Bool.false_eq_true, decide_true, decide_false, true_and, and_true, Bool.not_true, Bool.not_false, List.set_nil, List.length_set, ne_eq, not_false_eq_true, reduceCtorEq, and_self, List.isEmpty_cons, List.isEmpty_nil, List.length_map, List.set_set, decide_eq_true_eq]
      refine hDo _ _ _ _ ⟨d2, a, a, .tup v, rfl, ?_⟩
      simp only [wpSs, wpS, wpE, wpEs, wpO, wpC, wpT, wpTg, wpTs, wpI, wipeU, startU, z_cell, z_slot, z_int, z_bl, z_tup, z_fn, z_lst, z_nil, z_cons, z_opt, z_optu, z_srct, z_srcl, z_bopi, z_bopt, z_bopl, z_bopm, z_add, z_sub, z_mul, z_div, z_mod, z_pow, z_auga, z_augs, z_augd, z_eqii, z_eqss, z_eqbb, z_eqtt, z_eqll, z_ceq, z_cne, z_clt, z_cle, z_cgt, z_cge, z_cin, z_cni, z_int_t, z_trn, z_trb, z_tri, z_trt, z_trl, z_ixt, z_ixl, z_slt, z_sll, z_sls, z_lent, z_lenl, z_abs, z_max, z_min, z_toi, z_tob, z_tut, z_tul, z_lit, z_lil, z_any, z_all, z_sum, z_app, z_set, z_isn, z_isb, z_isi, z_iss, z_ist, z_isl, z_revl, isNon, atI_0, atI_1, atI_2, atI_3, ixN_1, ixN_2, ixN_3, List.map_cons, List.map_nil, List.length_cons, List.length_nil, List.replicate, List.cons_append, List.nil_append, List.append_nil, List.set_cons_zero, List.set_cons_succ, List.getElem?_cons_zero, List.getElem?_cons_succ, Nat.reduceAdd, Nat.reduceSub, Nat.reduceLT, Nat.reduceLeDiff, Nat.reduceEqDiff, Int.reduceNeg, Int.reduceAdd, Int.reduceSub, Int.reduceMul, Int.reducePow, Int.reduceToNat, Int.reduceLT, Int.reduceLE, Int.reduceEq, if_true, if_false, Bool.false_eq_true, decide_true, decide_false, true_and, and_true, Bool.not_true, Bool.not_false, List.set_nil, List.length_set, ne_eq, not_false_eq_true, reduceCtorEq, and_self, List.isEmpty_cons, List.isEmpty_nil, List.length_map, List.set_set, decide_eq_true_eq, List.getElem?_append_left hr7l, hr7, List.getElem?_concat_length, get2]
      refine ⟨h13, h15, ?_⟩
      refine hA _ _ _ _ ⟨_, _, _, rfl, List.getElem?_concat_length, by simp [rows1, rows2, ops1], ?_, hQ⟩
      intro row hrow
      rcases List.mem_append.1 hrow with hrow | hrow
      · rcases List.mem_append.1 hrow with hrow | hrow
        · exact rows1_ok (.inl ⟨⟨_, rfl, hnf⟩, rfl⟩) row hrow
        · exact rows2_ok (.inl ⟨hnf, rfl⟩) row hrow
      · simp only [List.mem_cons, List.not_mem_nil, or_false] at hrow
        rcases hrow with rfl | rfl
        · exact op2_ok m_co (.inl ⟨hnf, rfl⟩)
        · exact op3_ok m_jb (.inl ⟨hnf, rfl⟩)
    · simp only [wpSs, wpS, wpE, wpEs, wpO, wpC, wpT, wpTg, wpTs, wpI, wipeU, startU, z_cell, z_slot, z_int, z_bl, z_tup, z_fn, z_lst, z_nil, z_cons, z_opt, z_optu, z_srct, z_srcl, z_bopi, z_bopt, z_bopl, z_bopm, z_add, z_sub, z_mul, z_div, z_mod, z_pow, z_auga, z_augs, z_augd, z_eqii, z_eqss, z_eqbb, z_eqtt, z_eqll, z_ceq, z_cne, z_clt, z_cle, z_cgt, z_cge, z_cin, z_cni, z_int_t, z_trn, z_trb, z_tri, z_trt, z_trl, z_ixt, z_ixl, z_slt, z_sll, z_sls, z_lent, z_lenl, z_abs, z_max, z_min, z_toi, z_tob, z_tut, z_tul, z_lit, z_lil, z_any, z_all, z_sum, z_app, z_set, z_isn, z_isb, z_isi, z_iss, z_ist, z_isl, z_revl, isNon, atI_0, atI_1, atI_2, atI_3, ixN_1, ixN_2, ixN_3, List.map_cons, List.map_nil, List.length_cons, List.length_nil, List.replicate, List.cons_append, List.nil_append, List.append_nil, List.set_cons_zero, List.set_cons_succ, List.getElem?_cons_zero, List.getElem?_cons_succ, Nat.reduceAdd, Nat.reduceSub, Nat.reduceLT, Nat.reduceLeDiff, Nat.reduceEqDiff, Int.reduceNeg, Int.reduceAdd, Int.reduceSub, Int.reduceMul, Int.reducePow, Int.reduceToNat, Int.reduceLT, Int.reduceLE, Int.reduceEq, if_true, if_false, Bool.false_eq_true, decide_true, decide_false, true_and, and_true, Bool.not_true, Bool.not_false, List.set_nil, List.length_set, ne_eq, not_false_eq_true, reduceCtorEq, and_self, List.isEmpty_cons, List.isEmpty_nil, List.length_map, List.set_set, decide_eq_true_eq, hy]
      refine hSi _ _ _ _ ⟨d, a, rfl, fun r7 x7 hr7 => ?_⟩
      have hr7l := (List.getElem?_eq_some_iff.1 hr7).1
      simp only [wpSs, wpS, wpE, wpEs, wpO, wpC, wpT, wpTg, wpTs, wpI, wipeU, startU, z_cell, z_slot, z_int, z_bl, z_tup, z_fn, z_lst, z_nil, z_cons, z_opt, z_optu, z_srct, z_srcl, z_bopi, z_bopt, z_bopl, z_bopm, z_add, z_sub, z_mul, z_div, z_mod, z_pow, z_auga, z_augs, z_augd, z_eqii, z_eqss, z_eqbb, z_eqtt, z_eqll, z_ceq, z_cne, z_clt, z_cle, z_cgt, z_cge, z_cin, z_cni, z_int_t, z_trn, z_trb, z_tri, z_trt, z_trl, z_ixt, z_ixl, z_slt, z_sll, z_sls, z_lent, z_lenl, z_abs, z_max, z_min, z_toi, z_tob, z_tut, z_tul, z_lit, z_lil, z_any, z_all, z_sum, z_app, z_set, z_isn, z_isb, z_isi, z_iss, z_ist, z_isl, z_revl, isNon, atI_0, atI_1, atI_2, atI_3, ixN_1, ixN_2, ixN_3, List.map_cons, List.map_nil, List.length_cons, List.length_nil, List.replicate, List.cons_append, List.nil_append, List.append_nil, List.set_cons_zero, List.set_cons_succ, List.getElem?_cons_zero, List.getElem?_cons_succ, Nat.reduceAdd, Nat.reduceSub, Nat.reduceLT, Nat.reduceLeDiff, Nat.reduceEqDiff, Int.reduceNeg, Int.reduceAdd, Int.reduceSub, Int.reduceMul, Int.reducePow, Int.reduceToNat, Int.reduceLT, Int.reduceLE, Int.reduceEq, if_true, if_false, Bool.false_eq_true, decide_true, decide_false, true_and, and_true, Bool.not_true, Bool.not_false, List.set_nil, List.length_set, ne_eq, not_false_eq_true, reduceCtorEq, and_self, List.isEmpty_cons, List.isEmpty_nil, List.length_map, List.set_set, decide_eq_true_eq]
      refine hDo _ _ _ _ ⟨d, a, a, .tup v, rfl, ?_⟩
      simp only [wpSs, wpS, wpE, wpEs, wpO, wpC, wpT, wpTg, wpTs, wpI, wipeU, startU, z_cell, z_slot, z_int, z_bl, z_tup, z_fn, z_lst, z_nil, z_cons, z_opt, z_optu, z_srct, z_srcl, z_bopi, z_bopt, z_bopl, z_bopm, z_add, z_sub, z_mul, z_div, z_mod, z_pow, z_auga, z_augs, z_augd, z_eqii, z_eqss, z_eqbb, z_eqtt, z_eqll, z_ceq, z_cne, z_clt, z_cle, z_cgt, z_cge, z_cin, z_cni, z_int_t, z_trn, z_trb, z_tri, z_trt, z_trl, z_ixt, z_ixl, z_slt, z_sll, z_sls, z_lent, z_lenl, z_abs, z_max, z_min, z_toi, z_tob, z_tut, z_tul, z_lit, z_lil, z_any, z_all, z_sum, z_app, z_set, z_isn, z_isb, z_isi, z_iss, z_ist, z_isl, z_revl, isNon, atI_0, atI_1, atI_2, atI_3, ixN_1, ixN_2, ixN_3, List.map_cons, List.map_nil, List.length_cons, List.length_nil, List.replicate, List.cons_append, List.nil_append, List.append_nil, List.set_cons_zero, List.set_cons_succ, List.getElem?_cons_zero, List.getElem?_cons_succ, Nat.reduceAdd, Nat.reduceSub, Nat.reduceLT, Nat.reduceLeDiff, Nat.reduceEqDiff, Int.reduceNeg, Int.reduceAdd, Int.reduceSub, Int.reduceMul, Int.reducePow, Int.reduceToNat, Int.reduceLT, Int.reduceLE, Int.reduceEq, if_true, if_false, Bool.false_eq_true, decide_true, decide_false, true_and, and_true, Bool.not_true, Bool.not_false, List.set_nil, List.length_set, ne_eq, not_false_eq_true, reduceCtorEq, and_self, List.isEmpty_cons, List.isEmpty_nil, List.length_map, List.set_set, decide_eq_true_eq, List.getElem?_append_left hr7l, hr7, List.getElem?_concat_length, get2]
      refine ⟨h13, h15, ?_⟩
      refine hA _ _ _ _ ⟨_, _, _, rfl, List.getElem?_concat_length, by simp [rows1, rows2, ops1], ?_, hQ⟩
      intro row hrow
      rcases List.mem_append.1 hrow with hrow | hrow
      · rcases List.mem_append.1 hrow with hrow | hrow
        · exact rows1_ok (.inl ⟨⟨_, rfl, hnf⟩, rfl⟩) row hrow
        · exact rows2_ok (.inl ⟨hnf, rfl⟩) row hrow
      · simp only [List.mem_cons, List.not_mem_nil, or_false] at hrow
        rcases hrow with rfl | rfl
        · exact op2_ok m_co (.inl ⟨hnf, rfl⟩)
        · exact op3_ok m_jb (.inl ⟨hnf, rfl⟩)
  · have hkn : n ≠ k := by omega
    have hdf : DomU f := .inl hf
    simp only [wpSs, wpS, wpE, wpEs, wpO, wpC, wpT, wpTg, wpTs, wpI, wipeU, startU, z_cell, z_slot, z_int, z_bl, z_tup, z_fn, z_lst, z_nil, z_cons, z_opt, z_optu, z_srct, z_srcl, z_bopi, z_bopt, z_bopl, z_bopm, z_add, z_sub, z_mul, z_div, z_mod, z_pow, z_auga, z_augs, z_augd, z_eqii, z_eqss, z_eqbb, z_eqtt, z_eqll, z_ceq, z_cne, z_clt, z_cle, z_cgt, z_cge, z_cin, z_cni, z_int_t, z_trn, z_trb, z_tri, z_trt, z_trl, z_ixt, z_ixl, z_slt, z_sll, z_sls, z_lent, z_lenl, z_abs, z_max, z_min, z_toi, z_tob, z_tut, z_tul, z_lit, z_lil, z_any, z_all, z_sum, z_app, z_set, z_isn, z_isb, z_isi, z_iss, z_ist, z_isl, z_revl, isNon, atI_0, atI_1, atI_2, atI_3, ixN_1, ixN_2, ixN_3, List.map_cons, List.map_nil, List.length_cons, List.length_nil, List.replicate, List.cons_append, List.nil_append, List.append_nil, List.set_cons_zero, List.set_cons_succ, List.getElem?_cons_zero, List.getElem?_cons_succ, Nat.reduceAdd, Nat.reduceSub, Nat.reduceLT, Nat.reduceLeDiff, Nat.reduceEqDiff, Int.reduceNeg, Int.reduceAdd, Int.reduceSub, Int.reduceMul, Int.reducePow, Int.reduceToNat, Int.reduceLT, Int.reduceLE, Int.reduceEq, if_true, if_false, Bool.false_eq_true, decide_true, decide_false, true_and, and_true, Bool.not_true, Bool.not_false, List.set_nil, List.length_set, ne_eq, not_false_eq_true, reduceCtorEq, and_self, List.isEmpty_cons, List.isEmpty_nil, List.length_map, List.set_set, decide_eq_true_eq, hz]
    refine hM _ _ _ _ ⟨c, f, n, k, _, rfl, hdf, by omega, by omega, by omega, by omega, c5, by omega, fun ax S6 e6 c6 => ?_⟩
    simp only [wpSs, wpS, wpE, wpEs, wpO, wpC, wpT, wpTg, wpTs, wpI, wipeU, startU, z_cell, z_slot, z_int, z_bl, z_tup, z_fn, z_lst, z_nil, z_cons, z_opt, z_optu, z_srct, z_srcl, z_bopi, z_bopt, z_bopl, z_bopm, z_add, z_sub, z_mul, z_div, z_mod, z_pow, z_auga, z_augs, z_augd, z_eqii, z_eqss, z_eqbb, z_eqtt, z_eqll, z_ceq, z_cne, z_clt, z_cle, z_cgt, z_cge, z_cin, z_cni, z_int_t, z_trn, z_trb, z_tri, z_trt, z_trl, z_ixt, z_ixl, z_slt, z_sll, z_sls, z_lent, z_lenl, z_abs, z_max, z_min, z_toi, z_tob, z_tut, z_tul, z_lit, z_lil, z_any, z_all, z_sum, z_app, z_set, z_isn, z_isb, z_isi, z_iss, z_ist, z_isl, z_revl, isNon, atI_0, atI_1, atI_2, atI_3, ixN_1, ixN_2, ixN_3, List.map_cons, List.map_nil, List.length_cons, List.length_nil, List.replicate, List.cons_append, List.nil_append, List.append_nil, List.set_cons_zero, List.set_cons_succ, List.getElem?_cons_zero, List.getElem?_cons_succ, Nat.reduceAdd, Nat.reduceSub, Nat.reduceLT, Nat.reduceLeDiff, Nat.reduceEqDiff, Int.reduceNeg, Int.reduceAdd, Int.reduceSub, Int.reduceMul, Int.reducePow, Int.reduceToNat, Int.reduceLT, Int.reduceLE, Int.reduceEq, if_true, if_false, Bool.false_eq_true, decide_true, decide_false, true_and, and_true, Bool.not_true, Bool.not_false, List.set_nil, List.length_set, ne_eq, not_false_eq_true, reduceCtorEq, and_self, List.isEmpty_cons, List.isEmpty_nil, List.length_map, List.set_set, decide_eq_true_eq]
    refine hM _ _ _ _ ⟨c, f, n, n, _, rfl, hdf, by omega, by omega, by omega, by omega, c6, by omega, fun sx S7 e7 c7 => ?_⟩
    simp only [wpSs, wpS, wpE, wpEs, wpO, wpC, wpT, wpTg, wpTs, wpI, wipeU, startU, z_cell, z_slot, z_int, z_bl, z_tup, z_fn, z_lst, z_nil, z_cons, z_opt, z_optu, z_srct, z_srcl, z_bopi, z_bopt, z_bopl, z_bopm, z_add, z_sub, z_mul, z_div, z_mod, z_pow, z_auga, z_augs, z_augd, z_eqii, z_eqss, z_eqbb, z_eqtt, z_eqll, z_ceq, z_cne, z_clt, z_cle, z_cgt, z_cge, z_cin, z_cni, z_int_t, z_trn, z_trb, z_tri, z_trt, z_trl, z_ixt, z_ixl, z_slt, z_sll, z_sls, z_lent, z_lenl, z_abs, z_max, z_min, z_toi, z_tob, z_tut, z_tul, z_lit, z_lil, z_any, z_all, z_sum, z_app, z_set, z_isn, z_isb, z_isi, z_iss, z_ist, z_isl, z_revl, isNon, atI_0, atI_1, atI_2, atI_3, ixN_1, ixN_2, ixN_3, List.map_cons, List.map_nil, List.length_cons, List.length_nil, List.replicate, List.cons_append, List.nil_append, List.append_nil, List.set_cons_zero, List.set_cons_succ, List.getElem?_cons_zero, List.getElem?_cons_succ, Nat.reduceAdd, Nat.reduceSub, Nat.reduceLT, Nat.reduceLeDiff, Nat.reduceEqDiff, Int.reduceNeg, Int.reduceAdd, Int.reduceSub, Int.reduceMul, Int.reducePow, Int.reduceToNat, Int.reduceLT, Int.reduceLE, Int.reduceEq, if_true, if_false, Bool.false_eq_true, decide_true, decide_false, true_and, and_true, Bool.not_true, Bool.not_false, List.set_nil, List.length_set, ne_eq, not_false_eq_true, reduceCtorEq, and_self, List.isEmpty_cons, List.isEmpty_nil, List.length_map, List.set_set, decide_eq_true_eq]
    refine hM _ _ _ _ ⟨c, f, k, k, _, rfl, hdf, by omega, by omega, by omega, by omega, c7, by omega, fun ox S8 e8 c8 => ?_⟩
    simp only [wpSs, wpS, wpE, wpEs, wpO, wpC, wpT, wpTg, wpTs, wpI, wipeU, startU, z_cell, z_slot, z_int, z_bl, z_tup, z_fn, z_lst, z_nil, z_cons, z_opt, z_optu, z_srct, z_srcl, z_bopi, z_bopt, z_bopl, z_bopm, z_add, z_sub, z_mul, z_div, z_mod, z_pow, z_auga, z_augs, z_augd, z_eqii, z_eqss, z_eqbb, z_eqtt, z_eqll, z_ceq, z_cne, z_clt, z_cle, z_cgt, z_cge, z_cin, z_cni, z_int_t, z_trn, z_trb, z_tri, z_trt, z_trl, z_ixt, z_ixl, z_slt, z_sll, z_sls, z_lent, z_lenl, z_abs, z_max, z_min, z_toi, z_tob, z_tut, z_tul, z_lit, z_lil, z_any, z_all, z_sum, z_app, z_set, z_isn, z_isb, z_isi, z_iss, z_ist, z_isl, z_revl, isNon, atI_0, atI_1, atI_2, atI_3, ixN_1, ixN_2, ixN_3, List.map_cons, List.map_nil, List.length_cons, List.length_nil, List.replicate, List.cons_append, List.nil_append, List.append_nil, List.set_cons_zero, List.set_cons_succ, List.getElem?_cons_zero, List.getElem?_cons_succ, Nat.reduceAdd, Nat.reduceSub, Nat.reduceLT, Nat.reduceLeDiff, Nat.reduceEqDiff, Int.reduceNeg, Int.reduceAdd, Int.reduceSub, Int.reduceMul, Int.reducePow, Int.reduceToNat, Int.reduceLT, Int.reduceLE, Int.reduceEq, if_true, if_false, Bool.false_eq_true, decide_true, decide_false, true_and, and_true, Bool.not_true, Bool.not_false, List.set_nil, List.length_set, ne_eq, not_false_eq_true, reduceCtorEq, and_self, List.isEmpty_cons, List.isEmpty_nil, List.length_map, List.set_set, decide_eq_true_eq]
    refine ⟨⟨by omega, by omega⟩, ?_⟩
    refine lc_small hSm hdf (by omega) c8 (by omega) fun v S9 hv e9 c9 => ?_
    simp only [wpSs, wpS, wpE, wpEs, wpO, wpC, wpT, wpTg, wpTs, wpI, wipeU, startU, z_cell, z_slot, z_int, z_bl, z_tup, z_fn, z_lst, z_nil, z_cons, z_opt, z_optu, z_srct, z_srcl, z_bopi, z_bopt, z_bopl, z_bopm, z_add, z_sub, z_mul, z_div, z_mod, z_pow, z_auga, z_augs, z_augd, z_eqii, z_eqss, z_eqbb, z_eqtt, z_eqll, z_ceq, z_cne, z_clt, z_cle, z_cgt, z_cge, z_cin, z_cni, z_int_t, z_trn, z_trb, z_tri, z_trt, z_trl, z_ixt, z_ixl, z_slt, z_sll, z_sls, z_lent, z_lenl, z_abs, z_max, z_min, z_toi, z_tob, z_tut, z_tul, z_lit, z_lil, z_any, z_all, z_sum, z_app, z_set, z_isn, z_isb, z_isi, z_iss, z_ist, z_isl, z_revl, isNon, atI_0, atI_1, atI_2, atI_3, ixN_1, ixN_2, ixN_3, List.map_cons, List.map_nil, List.length_cons, List.length_nil, List.replicate, List.cons_append, List.nil_append, List.append_nil, List.set_cons_zero, List.set_cons_succ, List.getElem?_cons_zero, List.getElem?_cons_succ, Nat.reduceAdd, Nat.reduceSub, Nat.reduceLT, Nat.reduceLeDiff, Nat.reduceEqDiff, Int.reduceNeg, Int.reduceAdd, Int.reduceSub, Int.reduceMul, Int.reducePow, Int.reduceToNat, Int.reduceLT, Int.reduceLE, Int.reduceEq, if_true, if_false, Bool.false_eq_true, decide_true, decide_false, true_and, and_true, Bool.not_true, Bool.not_false, List.set_nil, List.length_set, ne_eq, not_false_eq_true, reduceCtorEq, and_self, List.isEmpty_cons, List.isEmpty_nil, List.length_map, List.set_set, decide_eq_true_eq, List.getElem?_concat_length]
    refine hSi _ _ _ _ ⟨f, _, rfl, fun r7 x7 hr7 => ?_⟩
    have hr7l := (List.getElem?_eq_some_iff.1 hr7).1
    simp only [wpSs, wpS, wpE, wpEs, wpO, wpC, wpT, wpTg, wpTs, wpI, wipeU, startU, z_cell, z_slot, z_int, z_bl, z_tup, z_fn, z_lst, z_nil, z_cons, z_opt, z_optu, z_srct, z_srcl, z_bopi, z_bopt, z_bopl, z_bopm, z_add, z_sub, z_mul, z_div, z_mod, z_pow, z_auga, z_augs, z_augd, z_eqii, z_eqss, z_eqbb, z_eqtt, z_eqll, z_ceq, z_cne, z_clt, z_cle, z_cgt, z_cge, z_cin, z_cni, z_int_t, z_trn, z_trb, z_tri, z_trt, z_trl, z_ixt, z_ixl, z_slt, z_sll, z_sls, z_lent, z_lenl, z_abs, z_max, z_min, z_toi, z_tob, z_tut, z_tul, z_lit, z_lil, z_any, z_all, z_sum, z_app, z_set, z_isn, z_isb, z_isi, z_iss, z_ist, z_isl, z_revl, isNon, atI_0, atI_1, atI_2, atI_3, ixN_1, ixN_2, ixN_3, List.map_cons, List.map_nil, List.length_cons, List.length_nil, List.replicate, List.cons_append, List.nil_append, List.append_nil, List.set_cons_zero, List.set_cons_succ, List.getElem?_cons_zero, List.getElem?_cons_succ, Nat.reduceAdd, Nat.reduceSub, Nat.reduceLT, Nat.reduceLeDiff, Nat.reduceEqDiff, Int.reduceNeg, Int.reduceAdd, Int.reduceSub, Int.reduceMul, Int.reducePow, Int.reduceToNat, Int.reduceLT, Int.reduceLE, Int.reduceEq, if_true, if_false, Bool.false_eq_true, decide_true, decide_false, true_and, and_true, Bool.not_true, Bool.not_false, List.set_nil, List.length_set, ne_eq, not_false_eq_true, reduceCtorEq, and_self, List.isEmpty_cons, List.isEmpty_nil, List.length_map, List.set_set, decide_eq_true_eq]
    refine hDo _ _ _ _ ⟨f, _, _, .tup v, rfl, ?_⟩
    simp only [wpSs, wpS, wpE, wpEs, wpO, wpC, wpT, wpTg, wpTs, wpI, wipeU, startU, z_cell, z_slot, z_int, z_bl, z_tup, z_fn, z_lst, z_nil, z_cons, z_opt, z_optu, z_srct, z_srcl, z_bopi, z_bopt, z_bopl, z_bopm, z_add, z_sub, z_mul, z_div, z_mod, z_pow, z_auga, z_augs, z_augd, z_eqii, z_eqss, z_eqbb, z_eqtt, z_eqll, z_ceq, z_cne, z_clt, z_cle, z_cgt, z_cge, z_cin, z_cni, z_int_t, z_trn, z_trb, z_tri, z_trt, z_trl, z_ixt, z_ixl, z_slt, z_sll, z_sls, z_lent, z_lenl, z_abs, z_max, z_min, z_toi, z_tob, z_tut, z_tul, z_lit, z_lil, z_any, z_all, z_sum, z_app, z_set, z_isn, z_isb, z_isi, z_iss, z_ist, z_isl, z_revl, isNon, atI_0, atI_1, atI_2, atI_3, ixN_1, ixN_2, ixN_3, List.map_cons, List.map_nil, List.length_cons, List.length_nil, List.replicate, List.cons_append, List.nil_append, List.append_nil, List.set_cons_zero, List.set_cons_succ, List.getElem?_cons_zero, List.getElem?_cons_succ, Nat.reduceAdd, Nat.reduceSub, Nat.reduceLT, Nat.reduceLeDiff, Nat.reduceEqDiff, Int.reduceNeg, Int.reduceAdd, Int.reduceSub, Int.reduceMul, Int.reducePow, Int.reduceToNat, Int.reduceLT, Int.reduceLE, Int.reduceEq, if_true, if_false, Bool.false_eq_true, decide_true, decide_false, true_and, and_true, Bool.not_true, Bool.not_false, List.set_nil, List.length_set, ne_eq, not_false_eq_true, reduceCtorEq, and_self, List.isEmpty_cons, List.isEmpty_nil, List.length_map, List.set_set, decide_eq_true_eq, List.getElem?_append_left hr7l, hr7, List.getElem?_concat_length, get2]
    refine ⟨h13, ⟨by omega, by omega⟩, ?_⟩
    have c10 := (((c9.push [Cell.lst v]).push x7).push [Cell.lst (rows2 f (U.tup [U.int n, U.int k, ax]) (U.tup [U.int n, U.int k, ax]) (U.tup v))]).push [Cell.lst (rows1 f (U.tup [U.int n, U.int k, ax]) ++ rows2 f (U.tup [U.int n, U.int k, ax]) (U.tup [U.int n, U.int k, ax]) (U.tup v))]
    refine lc_small hSm hdf (by omega) c10 (by omega) fun sh S11 hsh e11 c11 => ?_
    have hr := e11.new (((c9.push [Cell.lst v]).push x7).push _).lt
    simp only [wpSs, wpS, wpE, wpEs, wpO, wpC, wpT, wpTg, wpTs, wpI, wipeU, startU, z_cell, z_slot, z_int, z_bl, z_tup, z_fn, z_lst, z_nil, z_cons, z_opt, z_optu, z_srct, z_srcl, z_bopi, z_bopt, z_bopl, z_bopm, z_add, z_sub, z_mul, z_div, z_mod, z_pow, z_auga, z_augs, z_augd, z_eqii, z_eqss, z_eqbb, z_eqtt, z_eqll, z_ceq, z_cne, z_clt, z_cle, z_cgt, z_cge, z_cin, z_cni, z_int_t, z_trn, z_trb, z_tri, z_trt, z_trl, z_ixt, z_ixl, z_slt, z_sll, z_sls, z_lent, z_lenl, z_abs, z_max, z_min, z_toi, z_tob, z_tut, z_tul, z_lit, z_lil, z_any, z_all, z_sum, z_app, z_set, z_isn, z_isb, z_isi, z_iss, z_ist, z_isl, z_revl, isNon, atI_0, atI_1, atI_2, atI_3, ixN_1, ixN_2, ixN_3, List.map_cons, List.map_nil, List.length_cons, List.length_nil, List.replicate, List.cons_append, List.nil_append, List.append_nil, List.set_cons_zero, List.set_cons_succ, List.getElem?_cons_zero, List.getElem?_cons_succ, Nat.reduceAdd, Nat.reduceSub, Nat.reduceLT, Nat.reduceLeDiff, Nat.reduceEqDiff, Int.reduceNeg, Int.reduceAdd, Int.reduceSub, Int.reduceMul, Int.reducePow, Int.reduceToNat, Int.reduceLT, Int.reduceLE, Int.reduceEq, if_true, if_false, Bool.false_eq_true, decide_true, decide_false, true_and, and_true, Bool.not_true, Bool.not_false, List.set_nil, List.length_set, ne_eq, not_false_eq_true, reduceCtorEq, and_self, List.isEmpty_cons, List.isEmpty_nil, List.length_map, List.set_set, decide_eq_true_eq, look2 hr]
    refine ⟨h133, h163, ?_⟩
    refine hA _ _ _ _ ⟨_, _, _, rfl, List.getElem?_concat_length, by simp [rows1, rows2, ops1], ?_, hQ⟩
    intro row hrow
    have b1 : ∀ r, B1 (f :: .tup [.int n, .int k, ax] :: r) := fun r => ⟨_, _, _, _, _, rfl, hf, hkn⟩
    have b2 : B2 [f, .tup [.int n, .int n, sx], .tup sh] := .inr ⟨_, _, _, _, rfl, hf, by rw [hsh]; omega⟩
    have b3 : B3 [f, .tup [.int n, .int n, sx], .tup [.int k, .int k, ox]] := .inr ⟨_, _, _, _, _, rfl, hf, hkn⟩
    have b4 : B3 [f, .tup [.int k, .int k, ox], .tup [.int n, .int n, sx]] := .inr ⟨_, _, _, _, _, rfl, hf, fun h => hkn h.symm⟩
    rcases List.mem_append.1 hrow with hrow | hrow
    · rcases List.mem_append.1 hrow with hrow | hrow
      · rcases List.mem_append.1 hrow with hrow | hrow
        · exact rows1_ok (.inr ⟨b1 _, rfl⟩) row hrow
        · exact rows2_ok (.inr ⟨⟨n, k, ax, rfl, hf, hkn⟩, rfl⟩) row hrow
      · simp only [List.mem_cons, List.not_mem_nil, or_false] at hrow
        rcases hrow with rfl | rfl | rfl
        · exact op3_ok m_an (.inr ⟨b2, rfl⟩)
        · exact op3_ok m_kr (.inr ⟨b2, rfl⟩)
        · exact op3_ok m_si (.inr ⟨b3, rfl⟩)
    · simp only [List.mem_cons, List.not_mem_nil, or_false] at hrow
      rcases hrow with rfl | rfl
      · exact op3_ok m_di (.inr ⟨b3, rfl⟩)
      · exact op3_ok m_si (.inr ⟨b4, rfl⟩)
/-- the try's body -/
def i_try : Ss := .cons (.ex (.call "_law_called" (.cons (.var 0) (.cons (.var 1) .nil)))) .nil
theorem w_try (G : Gm) (hC : Has G "_law_called" spCalled) {f : Str} {args : List U} {kind : Str} (hrf : Refd f args kind) {S : Sto} {Ex : ExS} {D : En} (h1 : kind = "domain" → Ex "DomainError" [] (startU 4 [.fn f, .tup args]) S)
    (h2 : kind = "shape" → Ex "ShapeError" [] (startU 4 [.fn f, .tup args]) S) : wpSs G i_try Ex D (startU 4 [.fn f, .tup args]) S := by
  obtain ⟨sC, eC, hC⟩ := hC
  simp only [wpSs, wpS, wpE, wpEs, wpO, wpC, wpT, wpTg, wpTs, wpI, wipeU, startU, z_cell, z_slot, z_int, z_bl, z_tup, z_fn, z_lst, z_nil, z_cons, z_opt, z_optu, z_srct, z_srcl, z_bopi, z_bopt, z_bopl, z_bopm, z_add, z_sub, z_mul, z_div, z_mod, z_pow, z_auga, z_augs, z_augd, z_eqii, z_eqss, z_eqbb, z_eqtt, z_eqll, z_ceq, z_cne, z_clt, z_cle, z_cgt, z_cge, z_cin, z_cni, z_int_t, z_trn, z_trb, z_tri, z_trt, z_trl, z_ixt, z_ixl, z_slt, z_sll, z_sls, z_lent, z_lenl, z_abs, z_max, z_min, z_toi, z_tob, z_tut, z_tul, z_lit, z_lil, z_any, z_all, z_sum, z_app, z_set, z_isn, z_isb, z_isi, z_iss, z_ist, z_isl, z_revl, isNon, atI_0, atI_1, atI_2, atI_3, ixN_1, ixN_2, ixN_3, List.map_cons, List.map_nil, List.length_cons, List.length_nil, List.replicate, List.cons_append, List.nil_append, List.append_nil, List.set_cons_zero, List.set_cons_succ, List.getElem?_cons_zero, List.getElem?_cons_succ, Nat.reduceAdd, Nat.reduceSub, Nat.reduceLT, Nat.reduceLeDiff, Nat.reduceEqDiff, Int.reduceNeg, Int.reduceAdd, Int.reduceSub, Int.reduceMul, Int.reducePow, Int.reduceToNat, Int.reduceLT, Int.reduceLE, Int.reduceEq, if_true, if_false, Bool.false_eq_true, decide_true, decide_false, true_and, and_true, Bool.not_true, Bool.not_false, List.set_nil, List.length_set, ne_eq, not_false_eq_true, reduceCtorEq, and_self, List.isEmpty_cons, List.isEmpty_nil, List.length_map, List.set_set, decide_eq_true_eq, i_try, eC]
  obtain ⟨N, B, hm, hl, hw⟩ := hrf
  refine hC _ _ _ _ ⟨f, args, N, B, rfl, hm, hl, ?_⟩
  rcases hw with ⟨h3, h4⟩ | ⟨h3, h4⟩
  · exact .inl ⟨h3, h1 h4⟩
  · exact .inr ⟨h3, h2 h4⟩
end K67

set_option Elab.async false
set_option linter.all false
set_option maxRecDepth 100000
set_option maxHeartbeats 4000000
/-! QTry: several clauses 'except X as n' of one name. -/
namespace Q
open PySem PySem.Spec PyProof.Rows L2
/-- the clauses one behind the other -/
def wAsM (K : PySem.W.Frag) (i : Nat) (Wo : WX) (D : Ends) : List (Value × (Addr → Value → Option Addr → TS)) → WX
  | [] => Wo
  | (c, ts) :: more => fun cls d σ H => ∃ yes, PySem.W.exmOne K cls c = some yes ∧
    (yes = true → ∀ ea, H ea = none → ts ea cls d ⟨fun σ2 H2 => D.nx (σ2.set i none) H2, D.rt, fun σ2 H2 => D.bk (σ2.set i none) H2, fun σ2 H2 => D.ct (σ2.set i none) H2⟩ (σ.set i (some (.ref ea))) H) ∧
    (yes = false → wAsM K i Wo D more cls d σ H)
inductive HdsAs (X : Cx) (nm : Str) : List ExceptHandler → List (Value × (Addr → Value → Option Addr → TS)) → Prop
  | nil : HdsAs X nm [] []
  | cons {x : Str} {c : Value} {ts : Addr → Value → Option Addr → TS} {b0 : Stmt} {ss : List Stmt} {p1 p2 : Pos} {hds : List ExceptHandler} {l : List (Value × (Addr → Value → Option Addr → TS))} (hc : Names X x c)
      (hsu : ∀ (ea : Addr) (eo : Obj) (cls : Value) (d : Option Addr) (pq : List (Addr × Obj)), Zc cls d eo → (∃ vs, eo.data = .fields vs) → PSs (X.suite ea ((ea, eo) :: pq)) (b0 :: ss) (ts ea cls d))
      (more : HdsAs X nm hds l) : HdsAs X nm (.ExceptHandler (some (.Name x p1)) (some nm) (b0 :: ss) p2 :: hds) ((c, ts) :: l)
section
variable {X : Cx} {nm : Str} {i : Nat} {body : List Stmt} {hd0 : ExceptHandler} {hds : List ExceptHandler} {l : List (Value × (Addr → Value → Option Addr → TS))} {pos : Pos} {tb : WX → TS} {Wo : WX}
theorem try_asM (hstk : X.stack = X.env :: X.outer) (hfm : X.env.frame = some X.env.locals) (hnd : X.N.Nodup) (hix : X.N[i]? = some nm) (hkd : X.env.kindOf nm = some .local) (tk : Takes X Wo)
    (hbody : ∀ (W : WX) (pq : List (Addr × Obj)) (xx : Value → Shared → Prop), Takes (X.tr pq xx) W → PassesOwn (model X.prog X.w) X.A X.env xx → PSs (X.tr pq xx) body (tb W))
    (hcl : HdsAs X nm (hd0 :: hds) l) : PS X (.Try body (hd0 :: hds) [] [] pos) (fun D σ H => tb (wAsM X.K i Wo D l) D σ H) := by
  refine ⟨fun pins s σ H D I0 hpre => ?_⟩
  have okX := I0.ok
  have hframes : X.A.frames = some (X.env :: X.outer) := by rw [okX.frames, hstk]
  have hlocal : Loc X.env.scope nm := .inl hkd
  refine wpAny_Try_except ?_
  refine wpAny_mono ((hbody (wAsM X.K i Wo D l) (X.pn ++ pins) (fun ev t1 => wpAny (model X.prog X.w) X.A (noteFrame ev X.env) (fun _ t2 => wpAny (model X.prog X.w) X.A (setFlight ev none) (fun _ t3 =>
    wpAny (model X.prog X.w) X.A (handleBy ev X.env (hd0 :: hds)) (SP X pins D) X.xe t3) X.xe t2) X.xe t1) ?ktch PassesOwn.looking).run [] s σ H D (I0.toTry _) hpre) (fun fl t1 hsp => ?ends) (fun ev t1 hev => hev)
  case ktch =>
    intro uu t0 hxe
    obtain ⟨ea, Bh, sB, pinsB, σB, HB, cls, dd, rfl, IB', nbB, upB, skB, naB, osB, agB, wB⟩ := hxe
    have IB : Inv X pins σB HB sB := IB'.ofTry okX
    have skB2 : Sky Bh (X.env :: X.outer) ea (Zc cls dd) X.env.locals t0.heap := by rw [← hstk]; exact skB
    show wpAny (model X.prog X.w) X.A (noteFrame (.ref ea) X.env) _ _ _
    refine Sky.land Zc.steady hframes hfm skB2 fun hp1 fy1 up1 => ?_
    have IC : Inv X pins σB HB { t0 with heap := hp1 } := IB.landed nbB fy1.1 (upB.trans up1) osB agB
    obtain ⟨ob1, vs1, hob1, hz1, hdt1⟩ := fy1.there
    have notF : ea ∉ frs (X.env :: X.outer) := fun hm => by
      obtain ⟨_, ob2, hob2, hnf⟩ := fy1.2.2.1.mem hm
      rw [hob1] at hob2
      cases hob2
      exact hnf _ hdt1
    have nLoc : ea ≠ X.env.locals := fun z => notF (List.mem_filterMap.mpr ⟨X.env, List.mem_cons_self, by rw [hfm, z]⟩)
    have nFs : ea ∉ X.fs := fun hm => by
      obtain ⟨ev, hev, qv⟩ := List.mem_filterMap.mp hm
      exact notF (List.mem_filterMap.mpr ⟨ev, List.mem_cons_of_mem _ hev, qv⟩)
    have IS := IC.suite hob1 hdt1 naB nLoc nFs
    have goes : ∀ {hds2 : List ExceptHandler} {l2 : List (Value × (Addr → Value → Option Addr → TS))}, HdsAs X nm hds2 l2 → wAsM X.K i Wo D l2 cls dd σB HB →
        wpAny (model X.prog X.w) X.A (handleBy (.ref ea) X.env hds2) (SP X pins D) X.xe { t0 with heap := hp1 } := by
      intro hds2 l2 hh
      induction hh with
      | nil =>
        intro wn
        refine wpAny_handleBy_nil ?_
        obtain ⟨q1, q2, q3, ob3, vs3, T3, oT3, ts3, hob3, hz3, hdt3, hv1, hr3⟩ := id fy1
        unfold PySem.passOn
        refine wpAny_bind (wpAny_field hob3 hdt3 hv1 ?_)
        rw [if_neg (by simp : ¬ ((Value.ref T3 == Value.none) = true))]
        have last : wpAny (model X.prog X.w) X.A (setFlight (.ref ea) X.env.frame) (fun _ t4 => wpAny (model X.prog X.w) X.A (throw (.ref ea) : Sem Flow) (SP X pins D) X.xe t4) X.xe { t0 with heap := hp1 } := by
          rw [hfm]
          refine HandSPX.setFlight_upZ fy1 fun hp4 held4 up4 => wpAny_throw (tk _ _ ?_)
          exact ⟨ea, Bh, sB, pins, σB, HB, cls, dd, rfl, IB, nbB, (upB.trans up1).trans up4, .inr (.inr (by rw [hstk]; exact held4)), naB, osB, agB, wn⟩
        first
          | exact wpAny_bind (wpAny_pure (wpAny_bind last))
          | exact wpAny_bind last
      | @cons x c ts b0 ss p1 p2 hds3 l3 hc hsu more ih =>
        intro wn
        obtain ⟨yes, hyes, wy, wno⟩ := wn
        refine wpAny_handleBy_cons (codeAny_handlers_test ?_) (by intro q; cases q)
        have lookT : PySem.W.Looks (model X.prog X.w) hp1 (typeOf (.ref ea)) cls := fun A Q E s k q => wpAny_typeOf_ref (k _ _ hob1) (by rw [hz1.1]; exact q)
        have lookM := PySem.W.exm_one (M := model X.prog X.w) (IC.kIn) lookT hyes
        have evalT : ∀ {Q : Value → Shared → Prop} {E : Value → Shared → Prop}, Q c { t0 with heap := hp1 } → wpAny (model X.prog X.w) (X.A.mark (some (.ref ea))) (eval (.Name x p1) X.env) Q E { t0 with heap := hp1 } := fun {Q E} q => by
          obtain ⟨hgl, hdbg, hmg | ⟨hmg, hbt, hnn⟩⟩ := hc
          · exact ld_glob (X := X.suite ea ((ea, ob1) :: (X.pn ++ pins))) IS hgl hmg q hdbg
          · exact ld_blt (X := X.suite ea ((ea, ob1) :: (X.pn ++ pins))) IS hgl hmg hbt q hnn hdbg
        refine evalT (lookM.here ?_)
        cases yes with
        | true =>
          refine codeAny_handlers_suite_as ?_
          refine HandSPX.lands_againZ fy1 fun hp5 fy5 up5 => ?_
          have I5 : Inv X pins σB HB { t0 with heap := hp5 } := IB.landed nbB fy5.1 ((upB.trans up1).trans up5) osB agB
          obtain ⟨ob5, vs5, hob5, hz5, hdt5⟩ := fy5.there
          have IS5 := I5.suite hob5 hdt5 naB nLoc nFs
          refine store_ok (X := X.suite ea ((ea, ob5) :: (X.pn ++ pins))) (v := .ref ea) IS5 hnd hix hlocal rfl (fun t6 IS6 => ?_) (.inr hkd)
          refine wpAny_mono ((hsu ea ob5 cls dd (X.pn ++ pins) hz5 ⟨_, hdt5⟩).run [] t6 _ HB _ IS6 (wy rfl ea naB)) (fun fl t7 hsp => ?_) (fun _ _ z => False.elim z)
          have ends : ∀ {σ7 : L2.St} {H7 : Hp} {Q : Shared → Prop}, Inv (X.suite ea ((ea, ob5) :: (X.pn ++ pins))) [] σ7 H7 t7 → (∀ t8, Inv X pins (σ7.set i none) H7 t8 → Q t8) →
              wpAny (model X.prog X.w) X.A (do bindName X.env nm .none; unbindBehindTheSuite X.env nm p2) (fun _ t8 => Q t8) X.xe t7 := fun {σ7 H7 Q} I7 hq => gone_ok (I7.unsuite okX) hnd hix hkd hq
          cases fl with
          | next =>
            obtain ⟨σ7, H7, I7, q7⟩ := hsp
            exact ends I7 fun t8 I8 => ⟨_, _, I8, q7⟩
          | brk =>
            obtain ⟨σ7, H7, I7, q7⟩ := hsp
            exact ends I7 fun t8 I8 => ⟨_, _, I8, q7⟩
          | cont =>
            obtain ⟨σ7, H7, I7, q7⟩ := hsp
            exact ends I7 fun t8 I8 => ⟨_, _, I8, q7⟩
          | ret u =>
            obtain ⟨v7, σ7, H7, I7, r7, q7⟩ := hsp
            exact ends I7 fun t8 I8 => ⟨_, _, _, I8, r7, q7⟩
        | false =>
          show wpAny _ X.A (handleBy (.ref ea) X.env hds3) _ _ _
          exact ih (wno rfl)
    exact goes hcl wB
  cases fl with
  | next =>
    obtain ⟨σ7, H7, I7, q7⟩ := hsp
    exact wpAny_execs_nil ⟨σ7, H7, I7.ofTry okX, q7⟩
  | brk =>
    obtain ⟨σ7, H7, I7, q7⟩ := hsp
    exact ⟨σ7, H7, I7.ofTry okX, q7⟩
  | cont =>
    obtain ⟨σ7, H7, I7, q7⟩ := hsp
    exact ⟨σ7, H7, I7.ofTry okX, q7⟩
  | ret u =>
    obtain ⟨v7, σ7, H7, I7, r7, q7⟩ := hsp
    exact ⟨v7, σ7, H7, I7.ofTry okX, r7, q7⟩
end
end Q

set_option Elab.async false
set_option linter.all false
set_option maxRecDepth 100000
set_option maxHeartbeats 4000000
namespace K67
open PySem PySem.Spec PyProof.Rows L2 Q
/-! ### the law's own try -/
def n_law_class : List Str := ["f", "args", "e", "good"]
def p_law_class : List Str := ["f", "args"]
theorem sc_law_class : FnScope n_law_class p_law_class (defScope (top 144)) := ⟨by kernel_rfl, by kernel_rfl, by kernel_rfl, by decide +kernel, by kernel_rfl, by decide +kernel, by decide +kernel⟩
def tryBody : List Stmt := match defBody (top 144) with
  | .Try b _ _ _ _ :: _ => b
  | _ => []
theorem ck_try : chkSs n_law_class bl xc i_try (defScope (top 144)) tryBody = true := by decide +kernel
/-- what the classes of the errors say -/
structure ErrF (M : Md) (aL aD aS aG : Addr) : Prop where
  gL : M.mg "LongrankError" = some (.ref aL)
  gD : M.mg "DomainError" = some (.ref aD)
  gS : M.mg "ShapeError" = some (.ref aS)
  gG : M.mg "SingularError" = some (.ref aG)
  fI : M.mg "isinstance" = none
  fV : M.mg "ValueError" = none
  cD : ExcC M.K aD
  cS : ExcC M.K aS
  xDD : PySem.W.exmOne M.K (.ref aD) (.ref aD) = some true
  xSD : PySem.W.exmOne M.K (.ref aS) (.ref aD) = some false
  xSS : PySem.W.exmOne M.K (.ref aS) (.ref aS) = some true
  kDL : PySem.W.kitOne M.K (.ref aD) (.ref aL) = some true
  kDV : PySem.W.kitOne M.K (.ref aD) (.type "ValueError") = some true
  kDS : PySem.W.kitOne M.K (.ref aD) (.ref aS) = some false
  kDG : PySem.W.kitOne M.K (.ref aD) (.ref aG) = some false
  kSL : PySem.W.kitOne M.K (.ref aS) (.ref aL) = some true
  kSV : PySem.W.kitOne M.K (.ref aS) (.type "ValueError") = some true
  kSG : PySem.W.kitOne M.K (.ref aS) (.ref aG) = some false
theorem boot_isi : bootBuiltins "isinstance" = some (.builtin "isinstance") := by decide +kernel
theorem boot_ve : bootBuiltins "ValueError" = some (.type "ValueError") := by decide +kernel
/-- isinstance(e, C) of the caught e -/
def tIs (K : PySem.W.Frag) (D ea : Addr) (c : V) : TE := tCB (rIsE K D ea) (tCons (tVar 2) (tCons (tC c) tNil))
def suite1 (M : Md) (aL aD aS aG ea : Addr) : TS := tSeq (tAsg (tAndV (tIs M.K aD ea (.ref aL)) (tIs M.K aD ea (.ty "ValueError"))) (gName 3))
  (tRet (tLst (tCons (tC (.str "domain")) (tCons (tAndV (tVar 3) (tAndV (tNotV (tIs M.K aD ea (.ref aS))) (tNotV (tIs M.K aD ea (.ref aG))))) tNil))))
def suite2 (M : Md) (aL aS aG ea : Addr) : TS := tRet (tLst (tCons (tC (.str "shape")) (tCons (tAndV (tIs M.K aS ea (.ref aL)) (tAndV (tIs M.K aS ea (.ty "ValueError")) (tNotV (tIs M.K aS ea (.ref aG))))) tNil)))
def only (D : Addr) (t : Addr → TS) : Addr → Value → Option Addr → TS := fun ea cls d E σ H => (cls = .ref D ∧ d = none) ∧ t ea E σ H
theorem tIs_ok {K : PySem.W.Frag} {D ea : Addr} {c : V} {cv : Value} {b : Bool} {σ : L2.St} {H : Hp} {Q : VK} (h2 : σ[2]? = some (some (.ref ea))) (hc : ∀ u, RelV c u → u = cv) (hk : PySem.W.kitOne K (.ref D) cv = some b) (hQ : Q (.bl b) H) : tIs K D ea c σ H Q :=
  ⟨_, h2, c, cv, b, rfl, hc, hk, hQ⟩
theorem class_ok {P : Program} {w : World} {M : Md} {base : Heap} {G : Gm} {k : Nat} {f : Addr} {fd : FuncData} {aL aD aS aG : Addr} (F : FunD M.K "_law_class" "_law_class" (defArgs (top 144)) (defBody (top 144)) (defScope (top 144)) [] [] f fd)
    (E : Env1 P w M base G k bl xc) (hC : Has G "_law_called" spCalled) (X : ErrF M aL aD aS aG) : FnOk P w M.K M.mg base (L2.CX P w) (k + 1) f fd p_law_class (spU M spClass) := by
  refine F.ok sc_law_class (fun vs H Q Y ⟨μ, S, us, _, r, h⟩ => ?_) fun cdv A outer s H vs Q Y hr ⟨μ, S, us, ok, r, h⟩ => ?_
  · obtain ⟨fn, args, kind, rfl, _⟩ := h
    rw [← r.length]; rfl
  obtain ⟨fn, args, kind, rfl, hrf, hfin⟩ := h
  refine ⟨_, pss_cons (try_asM (X := cxOf (L2.CX P w) P w M.K M.mg base n_law_class "_law_class" (defScope (top 144)) f cdv A outer s H Y) (i := 2) (nm := "e")
    (l := [(.ref aD, only aD (suite1 M aL aD aS aG)), (.ref aS, only aS (suite2 M aL aS aG)), (.ref aG, fun _ _ _ _ _ _ => False)]) (Wo := fun _ _ _ _ => False)
    (tb := fun W D σ H2 => ∃ Ex : ExS, (∀ c q σe S2 cls d σ2 H2 μ2, StR ⟨M, G, Ex, μ, H⟩ μ2 H2 S2 σe σ2 → ExR M c q cls d → Ex c q σe S2 → W cls d σ2 H2) ∧ tBl ⟨M, G, Ex, μ, H⟩ i_try D σ H2)
    rfl rfl sc_law_class.nd rfl rfl takes_none5 (fun W pq xx tk po => ?hb) ?hh) (pss_one (t := fun _ _ _ => False) ⟨fun _ _ _ _ _ _ h => h.elim⟩), ?_⟩
  case hb =>
    refine ⟨fun pins s1 σ1 H1 D1 I1 ⟨Ex, hW, hb⟩ => ?_⟩
    have g : GX ⟨M, G, Ex, μ, H⟩ k n_law_class bl xc (defScope (top 144)) sAll ((cxOf (L2.CX P w) P w M.K M.mg base n_law_class "_law_class" (defScope (top 144)) f cdv A outer s H Y).tr pq xx) :=
      { hK := rfl, hmg := rfl, hN := rfl, nd := sc_law_class.nd, hsc := rfl, knd := sc_law_class.kind, calm := rfl, room := hr, fn := fun _ _ => rfl, gm := E.gm, fns := E.fns, cts := E.cts, blt := E.blt, exc := E.exc, tk := ⟨W, tk, hW⟩, po := po }
    exact (sSs g i_try tryBody ck_try).run pins s1 σ1 H1 D1 I1 hb
  case hh =>
    refine .cons ⟨rfl, by decide, .inl X.gD⟩ (fun ea eo cls d pq hz hf => ⟨fun pins s1 σ1 H1 D1 I1 ⟨⟨e1, e2⟩, h⟩ => ?_⟩)
      (.cons ⟨rfl, by decide, .inl X.gS⟩ (fun ea eo cls d pq hz hf => ⟨fun pins s1 σ1 H1 D1 I1 ⟨⟨e1, e2⟩, h⟩ => ?_⟩)
      (.cons ⟨rfl, by decide, .inl X.gG⟩ (fun ea eo cls d pq hz hf => ⟨fun _ _ _ _ _ _ h => h.elim⟩) .nil))
    · subst e1 e2
      have CC := X.cD
      refine PSs.run (t := suite1 M aL aD aS aG ea) ?_ pins s1 σ1 H1 D1 I1 h
      exact pss_cons (ps_set (i := 3) sc_law_class.nd rfl (Or.inl rfl) (pe_and (pe_callB (call_isE CC hz hf) rfl X.fI boot_isi (pa_cons (pv 2) (pa_cons (pe_glob rfl X.gL rfl) pa_nil))) (pe_one (pe_callB (call_isE CC hz hf) rfl X.fI boot_isi (pa_cons (pv 2) (pa_cons (pe_bltn rfl X.fV boot_ve rfl) pa_nil))))))
        (pss_one (ps_ret (pe_lst (pa_cons pe_str (pa_cons (pe_and (pv 3) (pe_and (pe_not (pe_callB (call_isE CC hz hf) rfl X.fI boot_isi (pa_cons (pv 2) (pa_cons (pe_glob rfl X.gS rfl) pa_nil)))) (pe_one (pe_not (pe_callB (call_isE CC hz hf) rfl X.fI boot_isi (pa_cons (pv 2) (pa_cons (pe_glob rfl X.gG rfl) pa_nil))))))) pa_nil)))))
    · subst e1 e2
      have CC := X.cS
      refine PSs.run (t := suite2 M aL aS aG ea) ?_ pins s1 σ1 H1 D1 I1 h
      exact pss_one (ps_ret (pe_lst (pa_cons pe_str (pa_cons (pe_and (pe_callB (call_isE CC hz hf) rfl X.fI boot_isi (pa_cons (pv 2) (pa_cons (pe_glob rfl X.gL rfl) pa_nil))) (pe_and (pe_callB (call_isE CC hz hf) rfl X.fI boot_isi (pa_cons (pv 2) (pa_cons (pe_bltn rfl X.fV boot_ve rfl) pa_nil))) (pe_one (pe_not (pe_callB (call_isE CC hz hf) rfl X.fI boot_isi (pa_cons (pv 2) (pa_cons (pe_glob rfl X.gG rfl) pa_nil))))))) pa_nil))))
  have hst : StR ⟨M, G, fun c q σe S2 => S2 = S ∧ σe = startU 4 [.fn fn, .tup args] ∧ ((c = "DomainError" ∧ kind = "domain") ∨ (c = "ShapeError" ∧ kind = "shape")), μ, H⟩ μ H S (startU 4 [.fn fn, .tup args]) (L2.start n_law_class vs) := ⟨Step.refl _ _, ok, sl_start r n_law_class⟩
  refine ⟨fun c q σe S2 => S2 = S ∧ σe = startU 4 [.fn fn, .tup args] ∧ ((c = "DomainError" ∧ kind = "domain") ∨ (c = "ShapeError" ∧ kind = "shape")), ?_, μ, S, startU 4 [.fn fn, .tup args], ⟨fun _ _ => False, fun _ _ => False, fun _ _ => False, fun _ _ => False⟩, hst, ?_, ?_⟩
  · rintro c q σe S2 cls d σ2 H2 μ2 st ⟨rfl, rfl, a, rfl, hmg⟩ ⟨rfl, rfl, hk⟩
    have l4 : σ2.length = 4 := by
      have := st.sl.len
      simpa [startU] using this.symm
    have two2 : ∀ ea : Addr, (σ2.set 2 (some (.ref ea)))[2]? = some (some (.ref ea)) := fun ea => List.getElem?_set_self (by omega)
    have end_ : ∀ (kd : Str), kind = kd → ∀ p : Addr, H2 p = none → Q (.ref p) (upd H2 p (.lst [.str kd, .bl true])) := by
      rintro kd rfl p hp
      refine hfin (μ2 ++ [p]) _ _ (st.st.trans (Step.put hp)) (st.ok.put hp (.cons (by rw [Rep]) (.cons (by rw [Rep]) .nil))) ?_
      rw [Rep]
      exact ⟨p, rfl, by rw [← st.ok.len]; simp⟩
    have s2 : 2 ≤ sizeLine := by decide
    rcases hk with ⟨rfl, hk⟩ | ⟨rfl, hk⟩
    · have ea := hmg.symm.trans X.gD
      cases ea
      refine ⟨true, X.xDD, fun _ ea hea => ⟨⟨rfl, rfl⟩, ?_⟩, (fun z => nomatch z)⟩
      refine tIs_ok (two2 ea) (fun u h => h) X.kDL ⟨true, rfl, ?_⟩
      refine tIs_ok (two2 ea) (fun u h => h) X.kDV ?_
      have three : ((σ2.set 2 (some (.ref ea))).set 3 (some (.bl true)))[3]? = some (some (.bl true)) := List.getElem?_set_self (by rw [List.length_set]; omega)
      have two3 : ((σ2.set 2 (some (.ref ea))).set 3 (some (.bl true)))[2]? = some (some (.ref ea)) := by rw [List.getElem?_set_ne (by decide)]; exact two2 ea
      refine ⟨_, three, true, rfl, ?_⟩
      refine tIs_ok two3 (fun u h => h) X.kDS ⟨false, rfl, true, rfl, ?_⟩
      refine tIs_ok two3 (fun u h => h) X.kDG ⟨false, rfl, s2, ?_⟩
      exact end_ _ hk
    · have ea := hmg.symm.trans X.gS
      cases ea
      refine ⟨false, X.xSD, (fun z => nomatch z), fun _ => ⟨true, X.xSS, fun _ ea hea => ⟨⟨rfl, rfl⟩, ?_⟩, (fun z => nomatch z)⟩⟩
      refine tIs_ok (two2 ea) (fun u h => h) X.kSL ⟨true, rfl, ?_⟩
      refine tIs_ok (two2 ea) (fun u h => h) X.kSV ⟨true, rfl, ?_⟩
      refine tIs_ok (two2 ea) (fun u h => h) X.kSG ⟨false, rfl, s2, ?_⟩
      exact end_ _ hk
  · exact ⟨fun _ _ _ _ _ _ _ z => z.elim, fun _ _ _ _ _ _ _ _ z => z.elim, fun _ _ _ _ _ _ _ z => z.elim, fun _ _ _ _ _ _ _ z => z.elim⟩
  · exact w_try G hC hrf (fun hk => ⟨rfl, rfl, .inl ⟨rfl, hk⟩⟩) (fun hk => ⟨rfl, rfl, .inr ⟨rfl, hk⟩⟩)
end K67

set_option Elab.async false
set_option linter.all false
set_option maxRecDepth 100000
set_option maxHeartbeats 4000000
namespace K67
open PySem PySem.Spec PyProof.Rows L2 Q
/-! ### levels: a call of level k needs promises of lesser levels -/
def spK (L : List (Nat × FSpec)) (k : Nat) : FSpec := fun us S Q X => ∃ (Q0 : Ks) (X0 : Exn), (∀ u S2, Q0 u S2 → Q u S2) ∧ (∀ c p S2, X0 c p S2 → X c p S2) ∧ ∃ q ∈ L, q.1 ≤ k ∧ q.2 us S Q0 X0
theorem spK_mono (L : List (Nat × FSpec)) (k : Nat) : FMono (spK L k) := fun us S Q Q' E E' hQ hE ⟨Q0, X0, h1, h2, h⟩ => ⟨Q0, X0, fun u S2 q => hQ _ _ (h1 _ _ q), fun c p S2 q => hE _ _ _ (h2 _ _ _ q), h⟩
structure Ent where
  x : Str
  i : Nat
  ps : List Str
  L : List (Nat × FSpec)
def E_is_prime : Ent := ⟨"is_prime", 8, p_is_prime, [(1, spIsPrime)]⟩
def E_is_integer : Ent := ⟨"is_integer", 15, p_is_integer, [(1, spIsInteger)]⟩
def E_is_field : Ent := ⟨"is_field", 17, p_is_field, [(2, spIsField)]⟩
def E_need_field : Ent := ⟨"need_field", 20, p_need_field, [(3, spNF)]⟩
def E_need_shape : Ent := ⟨"need_shape", 35, p_need_shape, [(1, spNShape)]⟩
def E_need_square : Ent := ⟨"need_square", 36, p_need_square, [(2, spNSq)]⟩
def E_characteristic : Ent := ⟨"characteristic", 60, p_characteristic, [(4, (spOp 2 B1))]⟩
def E_cyclic_pair : Ent := ⟨"cyclic_pair", 68, p_cyclic_pair, [(4, (spOp 2 B1))]⟩
def E_jordan : Ent := ⟨"jordan", 112, p_jordan, [(4, (spOp 2 B1))]⟩
def E_decompose : Ent := ⟨"decompose", 84, p_decompose, [(4, (spOp 2 B1))]⟩
def E_minimal : Ent := ⟨"minimal", 69, p_minimal, [(5, (spOp 2 B1))]⟩
def E_cyclic_vector : Ent := ⟨"cyclic_vector", 70, p_cyclic_vector, [(5, (spOp 2 B1))]⟩
def E_invariant_factors : Ent := ⟨"invariant_factors", 85, p_invariant_factors, [(5, (spOp 2 B1))]⟩
def E_frobenius : Ent := ⟨"frobenius", 86, p_frobenius, [(5, (spOp 2 B1))]⟩
def E_unsplit : Ent := ⟨"unsplit", 108, p_unsplit, [(5, (spOp 2 B1))]⟩
def E_eigenvalues : Ent := ⟨"eigenvalues", 105, p_eigenvalues, [(5, (spOp 2 B1))]⟩
def E_splits : Ent := ⟨"splits", 107, p_splits, [(6, (spOp 2 B1))]⟩
def E_is_diagonal : Ent := ⟨"is_diagonal", 113, p_is_diagonal, [(7, (spOp 2 B1))]⟩
def E_krylov : Ent := ⟨"krylov", 63, p_krylov, [(5, (spOp 3 B2))]⟩
def E_companion : Ent := ⟨"companion", 71, p_companion, [(4, (spOp 2 B0))]⟩
def E_jordan_block : Ent := ⟨"jordan_block", 106, p_jordan_block, [(4, (spOp 3 B0))]⟩
def E_annihilator : Ent := ⟨"annihilator", 62, p_annihilator, [(4, (spOp 3 B2))]⟩
def E_similarity : Ent := ⟨"similarity", 87, p_similarity, [(4, (spOp 3 B3))]⟩
def E_difference : Ent := ⟨"difference", 88, p_difference, [(4, (spOp 3 B3))]⟩
def E_law_start : Ent := ⟨"_law_start", 115, p_law_start, [(1, spStart)]⟩
def E_law_fill : Ent := ⟨"_law_fill", 116, p_law_fill, [(1, spFill)]⟩
def E_law_take : Ent := ⟨"_law_take", 117, p_law_take, [(2, spTake)]⟩
def E_law_common : Ent := ⟨"_law_common", 119, p_law_common, [(1, spCommon)]⟩
def E_law_fraction : Ent := ⟨"_law_fraction", 120, p_law_fraction, [(2, spFraction)]⟩
def E_law_zero : Ent := ⟨"_law_zero", 121, p_law_zero, [(1, spZero)]⟩
def E_law_strip : Ent := ⟨"_law_strip", 122, p_law_strip, [(2, spStrip)]⟩
def E_law_number : Ent := ⟨"_law_number", 123, p_law_number, [(1, (spNumber false)), (3, (spNumber true))]⟩
def E_law_some_prime : Ent := ⟨"_law_some_prime", 130, p_law_some_prime, [(3, spPrime)]⟩
def E_law_field : Ent := ⟨"_law_field", 131, p_law_field, [(4, spField)]⟩
def E_law_small : Ent := ⟨"_law_small", 135, p_law_small, [(3, (spSmall false)), (4, (spSmall true))]⟩
def E_law_matrix : Ent := ⟨"_law_matrix", 136, p_law_matrix, [(5, spMatrix)]⟩
def E_law_called : Ent := ⟨"_law_called", 143, p_law_called, [(8, spCalled)]⟩
def E_law_all : Ent := ⟨"_law_all", 145, p_law_all, [(10, spAll)]⟩
def E_law_no_domain : Ent := ⟨"_law_no_domain", 146, p_law_no_domain, [(3, spNoDom)]⟩
def E_law_single : Ent := ⟨"_law_single", 147, p_law_single, [(1, spSingle)]⟩
def E_law_double : Ent := ⟨"_law_double", 148, p_law_double, [(1, spDouble)]⟩
def E_law : Ent := ⟨"law", 149, p_law, [(11, spLaw)]⟩
def E_law_class : Ent := ⟨"_law_class", 144, p_law_class, [(9, spClass)]⟩
def E_roots : Ent := ⟨"roots", 103, ["f", "a"], []⟩
def tab : List Ent := [E_is_prime, E_is_integer, E_is_field, E_need_field, E_need_shape, E_need_square, E_characteristic, E_annihilator, E_krylov, E_cyclic_pair, E_minimal, E_cyclic_vector, E_companion, E_decompose, E_invariant_factors, E_frobenius, E_similarity, E_difference, E_roots, E_eigenvalues, E_jordan_block, E_splits, E_unsplit, E_jordan, E_is_diagonal, E_law_start, E_law_fill, E_law_take, E_law_common, E_law_fraction, E_law_zero, E_law_strip, E_law_number, E_law_some_prime, E_law_field, E_law_small, E_law_matrix, E_law_called, E_law_class, E_law_all, E_law_no_domain, E_law_single, E_law_double, E_law]
def look (f : Str) : Option Ent := tab.find? fun e => decide (e.x = f)
def ctl (x : Str) : Option U := if x = "MOST_PRIME" then some (.int 65521) else if x ∈ opNames then some (.fn x) else none
def GK (k : Nat) : Gm := ⟨fun f => (look f).map fun e => spK e.L k, ctl⟩
theorem GK_mono (k : Nat) : GMono (GK k) := fun f sp h => by
  obtain ⟨e, _, rfl⟩ := Option.map_eq_some_iff.1 h
  exact spK_mono _ _
theorem has_k (f : Str) {e : Ent} {r k : Nat} {sp : FSpec} (h : look f = some e) (hm : (r, sp) ∈ e.L) (hk : r ≤ k) : Has (GK k) f sp :=
  ⟨spK e.L k, congrArg (Option.map _) h, fun us S Q X q => ⟨Q, X, fun _ _ z => z, fun _ _ _ z => z, (r, sp), hm, hk, q⟩⟩
theorem pf_spK {N : List Str} {ir : Ss} {L : List (Nat × FSpec)} {k : Nat} (hp : ∀ q ∈ L, q.1 ≤ k + 1 → Pf (GK k) N ir q.2) : Pf (GK k) N ir (spK L (k + 1)) := by
  rintro us S Q X ⟨Q0, X0, hQ, hX, q, hq, hr, h⟩
  exact wpSs_mono (GK_mono k) ir (D := { nx := fun _ S2 => Q0 .non S2, rt := Q0 }) (fun c p σ S2 z => hX _ _ _ z) ⟨fun σ S2 z => hQ _ _ z, fun u S2 z => hQ _ _ z, fun _ _ z => z, fun _ _ z => z⟩ (hp q hq hr us S Q0 X0 h)
section
variable {k : Nat}
theorem rfl_cts : (GK k).cts "MOST_PRIME" = some (.int 65521) := by
  show ctl "MOST_PRIME" = some (.int 65521)
  unfold ctl
  rw [if_pos rfl]
theorem all_cts : ∀ f ∈ opNames, (GK k).cts f = some (.fn f) := by
  intro f hf
  show ctl f = some (.fn f)
  unfold ctl
  have hn : ¬ ("MOST_PRIME" : Str) ∈ opNames := by decide +kernel
  rw [if_neg (fun e : f = "MOST_PRIME" => hn (e ▸ hf)), if_pos hf]
theorem has_roots : Has (GK k) "roots" spNo := ⟨spK [] k, by kernel_rfl, fun _ _ _ _ h => h.elim⟩
theorem lk_is_prime : look "is_prime" = some E_is_prime := by kernel_rfl
theorem lk_is_integer : look "is_integer" = some E_is_integer := by kernel_rfl
theorem lk_is_field : look "is_field" = some E_is_field := by kernel_rfl
theorem lk_need_field : look "need_field" = some E_need_field := by kernel_rfl
theorem lk_need_shape : look "need_shape" = some E_need_shape := by kernel_rfl
theorem lk_need_square : look "need_square" = some E_need_square := by kernel_rfl
theorem lk_characteristic : look "characteristic" = some E_characteristic := by kernel_rfl
theorem lk_annihilator : look "annihilator" = some E_annihilator := by kernel_rfl
theorem lk_krylov : look "krylov" = some E_krylov := by kernel_rfl
theorem lk_cyclic_pair : look "cyclic_pair" = some E_cyclic_pair := by kernel_rfl
theorem lk_minimal : look "minimal" = some E_minimal := by kernel_rfl
theorem lk_cyclic_vector : look "cyclic_vector" = some E_cyclic_vector := by kernel_rfl
theorem lk_companion : look "companion" = some E_companion := by kernel_rfl
theorem lk_decompose : look "decompose" = some E_decompose := by kernel_rfl
theorem lk_invariant_factors : look "invariant_factors" = some E_invariant_factors := by kernel_rfl
theorem lk_frobenius : look "frobenius" = some E_frobenius := by kernel_rfl
theorem lk_similarity : look "similarity" = some E_similarity := by kernel_rfl
theorem lk_difference : look "difference" = some E_difference := by kernel_rfl
theorem lk_roots : look "roots" = some E_roots := by kernel_rfl
theorem lk_eigenvalues : look "eigenvalues" = some E_eigenvalues := by kernel_rfl
theorem lk_jordan_block : look "jordan_block" = some E_jordan_block := by kernel_rfl
theorem lk_splits : look "splits" = some E_splits := by kernel_rfl
theorem lk_unsplit : look "unsplit" = some E_unsplit := by kernel_rfl
theorem lk_jordan : look "jordan" = some E_jordan := by kernel_rfl
theorem lk_is_diagonal : look "is_diagonal" = some E_is_diagonal := by kernel_rfl
theorem lk_law_start : look "_law_start" = some E_law_start := by kernel_rfl
theorem lk_law_fill : look "_law_fill" = some E_law_fill := by kernel_rfl
theorem lk_law_take : look "_law_take" = some E_law_take := by kernel_rfl
theorem lk_law_common : look "_law_common" = some E_law_common := by kernel_rfl
theorem lk_law_fraction : look "_law_fraction" = some E_law_fraction := by kernel_rfl
theorem lk_law_zero : look "_law_zero" = some E_law_zero := by kernel_rfl
theorem lk_law_strip : look "_law_strip" = some E_law_strip := by kernel_rfl
theorem lk_law_number : look "_law_number" = some E_law_number := by kernel_rfl
theorem lk_law_some_prime : look "_law_some_prime" = some E_law_some_prime := by kernel_rfl
theorem lk_law_field : look "_law_field" = some E_law_field := by kernel_rfl
theorem lk_law_small : look "_law_small" = some E_law_small := by kernel_rfl
theorem lk_law_matrix : look "_law_matrix" = some E_law_matrix := by kernel_rfl
theorem lk_law_called : look "_law_called" = some E_law_called := by kernel_rfl
theorem lk_law_class : look "_law_class" = some E_law_class := by kernel_rfl
theorem lk_law_all : look "_law_all" = some E_law_all := by kernel_rfl
theorem lk_law_no_domain : look "_law_no_domain" = some E_law_no_domain := by kernel_rfl
theorem lk_law_single : look "_law_single" = some E_law_single := by kernel_rfl
theorem lk_law_double : look "_law_double" = some E_law_double := by kernel_rfl
theorem lk_law : look "law" = some E_law := by kernel_rfl
theorem has_op (hk : 7 ≤ k) : ∀ f N B, (f, N, B) ∈ opsL → Has (GK k) f (spOp N B) := by
  intro f N B h
  simp only [opsL, List.mem_cons, List.not_mem_nil, or_false, Prod.mk.injEq] at h
  rcases h with ⟨rfl, rfl, rfl⟩ | ⟨rfl, rfl, rfl⟩ | ⟨rfl, rfl, rfl⟩ | ⟨rfl, rfl, rfl⟩ | ⟨rfl, rfl, rfl⟩ | ⟨rfl, rfl, rfl⟩ | ⟨rfl, rfl, rfl⟩ | ⟨rfl, rfl, rfl⟩ | ⟨rfl, rfl, rfl⟩ | ⟨rfl, rfl, rfl⟩ | ⟨rfl, rfl, rfl⟩ | ⟨rfl, rfl, rfl⟩ | ⟨rfl, rfl, rfl⟩ | ⟨rfl, rfl, rfl⟩ | ⟨rfl, rfl, rfl⟩
  · exact has_k _ (r := 4) lk_characteristic (List.mem_singleton.2 rfl) (by omega)
  · exact has_k _ (r := 5) lk_minimal (List.mem_singleton.2 rfl) (by omega)
  · exact has_k _ (r := 5) lk_cyclic_vector (List.mem_singleton.2 rfl) (by omega)
  · exact has_k _ (r := 5) lk_invariant_factors (List.mem_singleton.2 rfl) (by omega)
  · exact has_k _ (r := 5) lk_frobenius (List.mem_singleton.2 rfl) (by omega)
  · exact has_k _ (r := 5) lk_eigenvalues (List.mem_singleton.2 rfl) (by omega)
  · exact has_k _ (r := 4) lk_jordan (List.mem_singleton.2 rfl) (by omega)
  · exact has_k _ (r := 5) lk_unsplit (List.mem_singleton.2 rfl) (by omega)
  · exact has_k _ (r := 7) lk_is_diagonal (List.mem_singleton.2 rfl) (by omega)
  · exact has_k _ (r := 4) lk_annihilator (List.mem_singleton.2 rfl) (by omega)
  · exact has_k _ (r := 5) lk_krylov (List.mem_singleton.2 rfl) (by omega)
  · exact has_k _ (r := 4) lk_similarity (List.mem_singleton.2 rfl) (by omega)
  · exact has_k _ (r := 4) lk_difference (List.mem_singleton.2 rfl) (by omega)
  · exact has_k _ (r := 4) lk_companion (List.mem_singleton.2 rfl) (by omega)
  · exact has_k _ (r := 4) lk_jordan_block (List.mem_singleton.2 rfl) (by omega)
end
theorem pf_is_prime (k : Nat) : ∀ q ∈ E_is_prime.L, q.1 ≤ k + 1 → Pf (GK k) n_is_prime i_is_prime q.2 := by
  intro q hq hr
  obtain rfl := List.mem_singleton.1 hq
  have hr : 1 ≤ k + 1 := hr
  exact w_is_prime _
theorem pf_is_integer (k : Nat) : ∀ q ∈ E_is_integer.L, q.1 ≤ k + 1 → Pf (GK k) n_is_integer i_is_integer q.2 := by
  intro q hq hr
  obtain rfl := List.mem_singleton.1 hq
  have hr : 1 ≤ k + 1 := hr
  exact w_is_integer _
theorem pf_is_field (k : Nat) : ∀ q ∈ E_is_field.L, q.1 ≤ k + 1 → Pf (GK k) n_is_field i_is_field q.2 := by
  intro q hq hr
  obtain rfl := List.mem_singleton.1 hq
  have hr : 2 ≤ k + 1 := hr
  exact w_is_field _ (has_k "is_integer" (r := 1) (sp := spIsInteger) lk_is_integer (by simp [E_is_integer]) (by omega)) (has_k "is_prime" (r := 1) (sp := spIsPrime) lk_is_prime (by simp [E_is_prime]) (by omega)) rfl_cts
theorem pf_need_field (k : Nat) : ∀ q ∈ E_need_field.L, q.1 ≤ k + 1 → Pf (GK k) n_need_field i_need_field q.2 := by
  intro q hq hr
  obtain rfl := List.mem_singleton.1 hq
  have hr : 3 ≤ k + 1 := hr
  exact w_need_field _ (has_k "is_field" (r := 2) (sp := spIsField) lk_is_field (by simp [E_is_field]) (by omega))
theorem pf_need_shape (k : Nat) : ∀ q ∈ E_need_shape.L, q.1 ≤ k + 1 → Pf (GK k) n_need_shape i_need_shape q.2 := by
  intro q hq hr
  obtain rfl := List.mem_singleton.1 hq
  have hr : 1 ≤ k + 1 := hr
  exact w_need_shape _
theorem pf_need_square (k : Nat) : ∀ q ∈ E_need_square.L, q.1 ≤ k + 1 → Pf (GK k) n_need_square i_need_square q.2 := by
  intro q hq hr
  obtain rfl := List.mem_singleton.1 hq
  have hr : 2 ≤ k + 1 := hr
  exact w_need_square _ (has_k "need_shape" (r := 1) (sp := spNShape) lk_need_shape (by simp [E_need_shape]) (by omega))
theorem pf_characteristic (k : Nat) : ∀ q ∈ E_characteristic.L, q.1 ≤ k + 1 → Pf (GK k) n_characteristic i_characteristic q.2 := by
  intro q hq hr
  obtain rfl := List.mem_singleton.1 hq
  have hr : 4 ≤ k + 1 := hr
  exact w_characteristic _ (has_k "need_field" (r := 3) (sp := spNF) lk_need_field (by simp [E_need_field]) (by omega)) (has_k "need_square" (r := 2) (sp := spNSq) lk_need_square (by simp [E_need_square]) (by omega))
theorem pf_cyclic_pair (k : Nat) : ∀ q ∈ E_cyclic_pair.L, q.1 ≤ k + 1 → Pf (GK k) n_cyclic_pair i_cyclic_pair q.2 := by
  intro q hq hr
  obtain rfl := List.mem_singleton.1 hq
  have hr : 4 ≤ k + 1 := hr
  exact w_cyclic_pair _ (has_k "need_field" (r := 3) (sp := spNF) lk_need_field (by simp [E_need_field]) (by omega)) (has_k "need_square" (r := 2) (sp := spNSq) lk_need_square (by simp [E_need_square]) (by omega))
theorem pf_jordan (k : Nat) : ∀ q ∈ E_jordan.L, q.1 ≤ k + 1 → Pf (GK k) n_jordan i_jordan q.2 := by
  intro q hq hr
  obtain rfl := List.mem_singleton.1 hq
  have hr : 4 ≤ k + 1 := hr
  exact w_jordan _ (has_k "need_field" (r := 3) (sp := spNF) lk_need_field (by simp [E_need_field]) (by omega)) (has_k "need_square" (r := 2) (sp := spNSq) lk_need_square (by simp [E_need_square]) (by omega))
theorem pf_decompose (k : Nat) : ∀ q ∈ E_decompose.L, q.1 ≤ k + 1 → Pf (GK k) n_decompose i_decompose q.2 := by
  intro q hq hr
  obtain rfl := List.mem_singleton.1 hq
  have hr : 4 ≤ k + 1 := hr
  exact w_decompose _ (has_k "need_field" (r := 3) (sp := spNF) lk_need_field (by simp [E_need_field]) (by omega)) (has_k "need_square" (r := 2) (sp := spNSq) lk_need_square (by simp [E_need_square]) (by omega))
theorem pf_minimal (k : Nat) : ∀ q ∈ E_minimal.L, q.1 ≤ k + 1 → Pf (GK k) n_minimal i_minimal q.2 := by
  intro q hq hr
  obtain rfl := List.mem_singleton.1 hq
  have hr : 5 ≤ k + 1 := hr
  exact w_minimal _ (has_k "cyclic_pair" (r := 4) (sp := (spOp 2 B1)) lk_cyclic_pair (by simp [E_cyclic_pair]) (by omega))
theorem pf_cyclic_vector (k : Nat) : ∀ q ∈ E_cyclic_vector.L, q.1 ≤ k + 1 → Pf (GK k) n_cyclic_vector i_cyclic_vector q.2 := by
  intro q hq hr
  obtain rfl := List.mem_singleton.1 hq
  have hr : 5 ≤ k + 1 := hr
  exact w_cyclic_vector _ (has_k "cyclic_pair" (r := 4) (sp := (spOp 2 B1)) lk_cyclic_pair (by simp [E_cyclic_pair]) (by omega))
theorem pf_invariant_factors (k : Nat) : ∀ q ∈ E_invariant_factors.L, q.1 ≤ k + 1 → Pf (GK k) n_invariant_factors i_invariant_factors q.2 := by
  intro q hq hr
  obtain rfl := List.mem_singleton.1 hq
  have hr : 5 ≤ k + 1 := hr
  exact w_invariant_factors _ (has_k "decompose" (r := 4) (sp := (spOp 2 B1)) lk_decompose (by simp [E_decompose]) (by omega))
theorem pf_frobenius (k : Nat) : ∀ q ∈ E_frobenius.L, q.1 ≤ k + 1 → Pf (GK k) n_frobenius i_frobenius q.2 := by
  intro q hq hr
  obtain rfl := List.mem_singleton.1 hq
  have hr : 5 ≤ k + 1 := hr
  exact w_frobenius _ (has_k "decompose" (r := 4) (sp := (spOp 2 B1)) lk_decompose (by simp [E_decompose]) (by omega))
theorem pf_unsplit (k : Nat) : ∀ q ∈ E_unsplit.L, q.1 ≤ k + 1 → Pf (GK k) n_unsplit i_unsplit q.2 := by
  intro q hq hr
  obtain rfl := List.mem_singleton.1 hq
  have hr : 5 ≤ k + 1 := hr
  exact w_unsplit _ (has_k "characteristic" (r := 4) (sp := (spOp 2 B1)) lk_characteristic (by simp [E_characteristic]) (by omega))
theorem pf_eigenvalues (k : Nat) : ∀ q ∈ E_eigenvalues.L, q.1 ≤ k + 1 → Pf (GK k) n_eigenvalues i_eigenvalues q.2 := by
  intro q hq hr
  obtain rfl := List.mem_singleton.1 hq
  have hr : 5 ≤ k + 1 := hr
  exact w_eigenvalues _ (has_k "characteristic" (r := 4) (sp := (spOp 2 B1)) lk_characteristic (by simp [E_characteristic]) (by omega)) has_roots
theorem pf_splits (k : Nat) : ∀ q ∈ E_splits.L, q.1 ≤ k + 1 → Pf (GK k) n_splits i_splits q.2 := by
  intro q hq hr
  obtain rfl := List.mem_singleton.1 hq
  have hr : 6 ≤ k + 1 := hr
  exact w_splits _ (has_k "eigenvalues" (r := 5) (sp := (spOp 2 B1)) lk_eigenvalues (by simp [E_eigenvalues]) (by omega))
theorem pf_is_diagonal (k : Nat) : ∀ q ∈ E_is_diagonal.L, q.1 ≤ k + 1 → Pf (GK k) n_is_diagonal i_is_diagonal q.2 := by
  intro q hq hr
  obtain rfl := List.mem_singleton.1 hq
  have hr : 7 ≤ k + 1 := hr
  exact w_is_diagonal _ (has_k "splits" (r := 6) (sp := (spOp 2 B1)) lk_splits (by simp [E_splits]) (by omega))
theorem pf_krylov (k : Nat) : ∀ q ∈ E_krylov.L, q.1 ≤ k + 1 → Pf (GK k) n_krylov i_krylov q.2 := by
  intro q hq hr
  obtain rfl := List.mem_singleton.1 hq
  have hr : 5 ≤ k + 1 := hr
  exact w_krylov _ (has_k "annihilator" (r := 4) (sp := (spOp 3 B2)) lk_annihilator (by simp [E_annihilator]) (by omega))
theorem pf_companion (k : Nat) : ∀ q ∈ E_companion.L, q.1 ≤ k + 1 → Pf (GK k) n_companion i_companion q.2 := by
  intro q hq hr
  obtain rfl := List.mem_singleton.1 hq
  have hr : 4 ≤ k + 1 := hr
  exact w_companion _ (has_k "need_field" (r := 3) (sp := spNF) lk_need_field (by simp [E_need_field]) (by omega))
theorem pf_jordan_block (k : Nat) : ∀ q ∈ E_jordan_block.L, q.1 ≤ k + 1 → Pf (GK k) n_jordan_block i_jordan_block q.2 := by
  intro q hq hr
  obtain rfl := List.mem_singleton.1 hq
  have hr : 4 ≤ k + 1 := hr
  exact w_jordan_block _ (has_k "need_field" (r := 3) (sp := spNF) lk_need_field (by simp [E_need_field]) (by omega))
theorem pf_annihilator (k : Nat) : ∀ q ∈ E_annihilator.L, q.1 ≤ k + 1 → Pf (GK k) n_annihilator i_annihilator q.2 := by
  intro q hq hr
  obtain rfl := List.mem_singleton.1 hq
  have hr : 4 ≤ k + 1 := hr
  exact w_annihilator _ (has_k "need_field" (r := 3) (sp := spNF) lk_need_field (by simp [E_need_field]) (by omega)) (has_k "need_square" (r := 2) (sp := spNSq) lk_need_square (by simp [E_need_square]) (by omega)) (has_k "need_shape" (r := 1) (sp := spNShape) lk_need_shape (by simp [E_need_shape]) (by omega))
theorem pf_similarity (k : Nat) : ∀ q ∈ E_similarity.L, q.1 ≤ k + 1 → Pf (GK k) n_similarity i_similarity q.2 := by
  intro q hq hr
  obtain rfl := List.mem_singleton.1 hq
  have hr : 4 ≤ k + 1 := hr
  exact w_similarity _ (has_k "need_field" (r := 3) (sp := spNF) lk_need_field (by simp [E_need_field]) (by omega)) (has_k "need_square" (r := 2) (sp := spNSq) lk_need_square (by simp [E_need_square]) (by omega)) (has_k "need_shape" (r := 1) (sp := spNShape) lk_need_shape (by simp [E_need_shape]) (by omega))
theorem pf_difference (k : Nat) : ∀ q ∈ E_difference.L, q.1 ≤ k + 1 → Pf (GK k) n_difference i_difference q.2 := by
  intro q hq hr
  obtain rfl := List.mem_singleton.1 hq
  have hr : 4 ≤ k + 1 := hr
  exact w_difference _ (has_k "need_field" (r := 3) (sp := spNF) lk_need_field (by simp [E_need_field]) (by omega)) (has_k "need_square" (r := 2) (sp := spNSq) lk_need_square (by simp [E_need_square]) (by omega)) (has_k "need_shape" (r := 1) (sp := spNShape) lk_need_shape (by simp [E_need_shape]) (by omega))
theorem pf_law_start (k : Nat) : ∀ q ∈ E_law_start.L, q.1 ≤ k + 1 → Pf (GK k) n_law_start i_law_start q.2 := by
  intro q hq hr
  obtain rfl := List.mem_singleton.1 hq
  have hr : 1 ≤ k + 1 := hr
  exact w_start _
theorem pf_law_fill (k : Nat) : ∀ q ∈ E_law_fill.L, q.1 ≤ k + 1 → Pf (GK k) n_law_fill i_law_fill q.2 := by
  intro q hq hr
  obtain rfl := List.mem_singleton.1 hq
  have hr : 1 ≤ k + 1 := hr
  exact w_fill _
theorem pf_law_take (k : Nat) : ∀ q ∈ E_law_take.L, q.1 ≤ k + 1 → Pf (GK k) n_law_take i_law_take q.2 := by
  intro q hq hr
  obtain rfl := List.mem_singleton.1 hq
  have hr : 2 ≤ k + 1 := hr
  exact w_take _ (has_k "_law_fill" (r := 1) (sp := spFill) lk_law_fill (by simp [E_law_fill]) (by omega))
theorem pf_law_common (k : Nat) : ∀ q ∈ E_law_common.L, q.1 ≤ k + 1 → Pf (GK k) n_law_common i_law_common q.2 := by
  intro q hq hr
  obtain rfl := List.mem_singleton.1 hq
  have hr : 1 ≤ k + 1 := hr
  exact w_common _
theorem pf_law_fraction (k : Nat) : ∀ q ∈ E_law_fraction.L, q.1 ≤ k + 1 → Pf (GK k) n_law_fraction i_law_fraction q.2 := by
  intro q hq hr
  obtain rfl := List.mem_singleton.1 hq
  have hr : 2 ≤ k + 1 := hr
  exact w_fraction _ (has_k "_law_common" (r := 1) (sp := spCommon) lk_law_common (by simp [E_law_common]) (by omega))
theorem pf_law_zero (k : Nat) : ∀ q ∈ E_law_zero.L, q.1 ≤ k + 1 → Pf (GK k) n_law_zero i_law_zero q.2 := by
  intro q hq hr
  obtain rfl := List.mem_singleton.1 hq
  have hr : 1 ≤ k + 1 := hr
  exact w_zero _
theorem pf_law_strip (k : Nat) : ∀ q ∈ E_law_strip.L, q.1 ≤ k + 1 → Pf (GK k) n_law_strip i_law_strip q.2 := by
  intro q hq hr
  obtain rfl := List.mem_singleton.1 hq
  have hr : 2 ≤ k + 1 := hr
  exact w_strip _ (has_k "_law_zero" (r := 1) (sp := spZero) lk_law_zero (by simp [E_law_zero]) (by omega))
theorem pf_law_number (k : Nat) : ∀ q ∈ E_law_number.L, q.1 ≤ k + 1 → Pf (GK k) n_law_number i_law_number q.2 := by
  intro q hq hr
  simp only [E_law_number, List.mem_cons, List.not_mem_nil, or_false] at hq
  rcases hq with rfl | rfl
  · have hr : 1 ≤ k + 1 := hr
    exact w_number _ false (fun h => nomatch h) (fun h => nomatch h)
  · have hr : 3 ≤ k + 1 := hr
    exact w_number _ true (fun _ => (has_k "_law_strip" (r := 2) (sp := spStrip) lk_law_strip (by simp [E_law_strip]) (by omega))) (fun _ => (has_k "_law_number" (r := 1) (sp := (spNumber false)) lk_law_number (by simp [E_law_number]) (by omega)))
theorem pf_law_some_prime (k : Nat) : ∀ q ∈ E_law_some_prime.L, q.1 ≤ k + 1 → Pf (GK k) n_law_some_prime i_law_some_prime q.2 := by
  intro q hq hr
  obtain rfl := List.mem_singleton.1 hq
  have hr : 3 ≤ k + 1 := hr
  exact w_prime _ (has_k "_law_take" (r := 2) (sp := spTake) lk_law_take (by simp [E_law_take]) (by omega))
theorem pf_law_field (k : Nat) : ∀ q ∈ E_law_field.L, q.1 ≤ k + 1 → Pf (GK k) n_law_field i_law_field q.2 := by
  intro q hq hr
  obtain rfl := List.mem_singleton.1 hq
  have hr : 4 ≤ k + 1 := hr
  exact w_field _ (has_k "_law_take" (r := 2) (sp := spTake) lk_law_take (by simp [E_law_take]) (by omega)) (has_k "_law_some_prime" (r := 3) (sp := spPrime) lk_law_some_prime (by simp [E_law_some_prime]) (by omega))
theorem pf_law_small (k : Nat) : ∀ q ∈ E_law_small.L, q.1 ≤ k + 1 → Pf (GK k) n_law_small i_law_small q.2 := by
  intro q hq hr
  simp only [E_law_small, List.mem_cons, List.not_mem_nil, or_false] at hq
  rcases hq with rfl | rfl
  · have hr : 3 ≤ k + 1 := hr
    exact w_small _ false (has_k "_law_take" (r := 2) (sp := spTake) lk_law_take (by simp [E_law_take]) (by omega)) (has_k "_law_fraction" (r := 2) (sp := spFraction) lk_law_fraction (by simp [E_law_fraction]) (by omega)) (fun h => nomatch h) (fun h => nomatch h)
  · have hr : 4 ≤ k + 1 := hr
    exact w_small _ true (has_k "_law_take" (r := 2) (sp := spTake) lk_law_take (by simp [E_law_take]) (by omega)) (has_k "_law_fraction" (r := 2) (sp := spFraction) lk_law_fraction (by simp [E_law_fraction]) (by omega)) (fun _ => (has_k "_law_strip" (r := 2) (sp := spStrip) lk_law_strip (by simp [E_law_strip]) (by omega))) (fun _ => (has_k "_law_small" (r := 3) (sp := (spSmall false)) lk_law_small (by simp [E_law_small]) (by omega)))
theorem pf_law_matrix (k : Nat) : ∀ q ∈ E_law_matrix.L, q.1 ≤ k + 1 → Pf (GK k) n_law_matrix i_law_matrix q.2 := by
  intro q hq hr
  obtain rfl := List.mem_singleton.1 hq
  have hr : 5 ≤ k + 1 := hr
  exact w_matrix _ (has_k "_law_small" (r := 4) (sp := (spSmall true)) lk_law_small (by simp [E_law_small]) (by omega))
theorem pf_law_called (k : Nat) : ∀ q ∈ E_law_called.L, q.1 ≤ k + 1 → Pf (GK k) n_law_called i_law_called q.2 := by
  intro q hq hr
  obtain rfl := List.mem_singleton.1 hq
  have hr : 8 ≤ k + 1 := hr
  exact w_called _ (has_op (by omega))
theorem pf_law_all (k : Nat) : ∀ q ∈ E_law_all.L, q.1 ≤ k + 1 → Pf (GK k) n_law_all i_law_all q.2 := by
  intro q hq hr
  obtain rfl := List.mem_singleton.1 hq
  have hr : 10 ≤ k + 1 := hr
  exact w_all _ (has_k "_law_class" (r := 9) (sp := spClass) lk_law_class (by simp [E_law_class]) (by omega))
theorem pf_law_no_domain (k : Nat) : ∀ q ∈ E_law_no_domain.L, q.1 ≤ k + 1 → Pf (GK k) n_law_no_domain i_law_no_domain q.2 := by
  intro q hq hr
  obtain rfl := List.mem_singleton.1 hq
  have hr : 3 ≤ k + 1 := hr
  exact w_no_domain _ (has_k "_law_take" (r := 2) (sp := spTake) lk_law_take (by simp [E_law_take]) (by omega))
theorem pf_law_single (k : Nat) : ∀ q ∈ E_law_single.L, q.1 ≤ k + 1 → Pf (GK k) n_law_single i_law_single q.2 := by
  intro q hq hr
  obtain rfl := List.mem_singleton.1 hq
  have hr : 1 ≤ k + 1 := hr
  exact w_single _ all_cts
theorem pf_law_double (k : Nat) : ∀ q ∈ E_law_double.L, q.1 ≤ k + 1 → Pf (GK k) n_law_double i_law_double q.2 := by
  intro q hq hr
  obtain rfl := List.mem_singleton.1 hq
  have hr : 1 ≤ k + 1 := hr
  exact w_double _ all_cts
theorem pf_law (k : Nat) : ∀ q ∈ E_law.L, q.1 ≤ k + 1 → Pf (GK k) n_law i_law q.2 := by
  intro q hq hr
  obtain rfl := List.mem_singleton.1 hq
  have hr : 11 ≤ k + 1 := hr
  exact w_law _ all_cts (has_k "_law_start" (r := 1) (sp := spStart) lk_law_start (by simp [E_law_start]) (by omega)) (has_k "_law_field" (r := 4) (sp := spField) lk_law_field (by simp [E_law_field]) (by omega)) (has_k "_law_take" (r := 2) (sp := spTake) lk_law_take (by simp [E_law_take]) (by omega)) (has_k "_law_matrix" (r := 5) (sp := spMatrix) lk_law_matrix (by simp [E_law_matrix]) (by omega)) (has_k "_law_small" (r := 4) (sp := (spSmall true)) lk_law_small (by simp [E_law_small]) (by omega)) (has_k "_law_number" (r := 3) (sp := (spNumber true)) lk_law_number (by simp [E_law_number]) (by omega)) (has_k "_law_no_domain" (r := 3) (sp := spNoDom) lk_law_no_domain (by simp [E_law_no_domain]) (by omega)) (has_k "_law_single" (r := 1) (sp := spSingle) lk_law_single (by simp [E_law_single]) (by omega)) (has_k "_law_double" (r := 1) (sp := spDouble) lk_law_double (by simp [E_law_double]) (by omega)) (has_k "_law_all" (r := 10) (sp := spAll) lk_law_all (by simp [E_law_all]) (by omega))
/-! ### lengths -/
theorem len_K {L : List (Nat × FSpec)} {k n : Nat} (h : ∀ q ∈ L, ∀ us S Q X, q.2 us S Q X → us.length = n) : ∀ us S Q X, spK L k us S Q X → us.length = n := fun us S Q X ⟨Q0, X0, _, _, q, hq, _, z⟩ => h q hq us S Q0 X0 z
theorem len_is_prime : ∀ q ∈ E_is_prime.L, ∀ us S Q X, q.2 us S Q X → us.length = p_is_prime.length := by
  intro q hq us S Q X h
  obtain rfl := List.mem_singleton.1 hq
  obtain ⟨n, rfl, _⟩ := h
  rfl
theorem len_is_integer : ∀ q ∈ E_is_integer.L, ∀ us S Q X, q.2 us S Q X → us.length = p_is_integer.length := by
  intro q hq us S Q X h
  obtain rfl := List.mem_singleton.1 hq
  rcases h with ⟨n, rfl, _⟩ | ⟨n, rfl, _⟩ | ⟨n, rfl, _⟩ <;> rfl
theorem len_is_field : ∀ q ∈ E_is_field.L, ∀ us S Q X, q.2 us S Q X → us.length = p_is_field.length := by
  intro q hq us S Q X h
  obtain rfl := List.mem_singleton.1 hq
  obtain ⟨n, rfl, _⟩ := h
  rfl
theorem len_need_field : ∀ q ∈ E_need_field.L, ∀ us S Q X, q.2 us S Q X → us.length = p_need_field.length := by
  intro q hq us S Q X h
  obtain rfl := List.mem_singleton.1 hq
  obtain ⟨n, rfl, _⟩ := h
  rfl
theorem len_need_shape : ∀ q ∈ E_need_shape.L, ∀ us S Q X, q.2 us S Q X → us.length = p_need_shape.length := by
  intro q hq us S Q X h
  obtain rfl := List.mem_singleton.1 hq
  obtain ⟨n, rfl, _⟩ := h
  rfl
theorem len_need_square : ∀ q ∈ E_need_square.L, ∀ us S Q X, q.2 us S Q X → us.length = p_need_square.length := by
  intro q hq us S Q X h
  obtain rfl := List.mem_singleton.1 hq
  obtain ⟨n, k, r, rfl, _⟩ := h
  rfl
theorem len_characteristic : ∀ q ∈ E_characteristic.L, ∀ us S Q X, q.2 us S Q X → us.length = p_characteristic.length := by
  intro q hq us S Q X h
  obtain rfl := List.mem_singleton.1 hq
  exact h.1
theorem len_cyclic_pair : ∀ q ∈ E_cyclic_pair.L, ∀ us S Q X, q.2 us S Q X → us.length = p_cyclic_pair.length := by
  intro q hq us S Q X h
  obtain rfl := List.mem_singleton.1 hq
  exact h.1
theorem len_jordan : ∀ q ∈ E_jordan.L, ∀ us S Q X, q.2 us S Q X → us.length = p_jordan.length := by
  intro q hq us S Q X h
  obtain rfl := List.mem_singleton.1 hq
  exact h.1
theorem len_decompose : ∀ q ∈ E_decompose.L, ∀ us S Q X, q.2 us S Q X → us.length = p_decompose.length := by
  intro q hq us S Q X h
  obtain rfl := List.mem_singleton.1 hq
  exact h.1
theorem len_minimal : ∀ q ∈ E_minimal.L, ∀ us S Q X, q.2 us S Q X → us.length = p_minimal.length := by
  intro q hq us S Q X h
  obtain rfl := List.mem_singleton.1 hq
  exact h.1
theorem len_cyclic_vector : ∀ q ∈ E_cyclic_vector.L, ∀ us S Q X, q.2 us S Q X → us.length = p_cyclic_vector.length := by
  intro q hq us S Q X h
  obtain rfl := List.mem_singleton.1 hq
  exact h.1
theorem len_invariant_factors : ∀ q ∈ E_invariant_factors.L, ∀ us S Q X, q.2 us S Q X → us.length = p_invariant_factors.length := by
  intro q hq us S Q X h
  obtain rfl := List.mem_singleton.1 hq
  exact h.1
theorem len_frobenius : ∀ q ∈ E_frobenius.L, ∀ us S Q X, q.2 us S Q X → us.length = p_frobenius.length := by
  intro q hq us S Q X h
  obtain rfl := List.mem_singleton.1 hq
  exact h.1
theorem len_unsplit : ∀ q ∈ E_unsplit.L, ∀ us S Q X, q.2 us S Q X → us.length = p_unsplit.length := by
  intro q hq us S Q X h
  obtain rfl := List.mem_singleton.1 hq
  exact h.1
theorem len_eigenvalues : ∀ q ∈ E_eigenvalues.L, ∀ us S Q X, q.2 us S Q X → us.length = p_eigenvalues.length := by
  intro q hq us S Q X h
  obtain rfl := List.mem_singleton.1 hq
  exact h.1
theorem len_splits : ∀ q ∈ E_splits.L, ∀ us S Q X, q.2 us S Q X → us.length = p_splits.length := by
  intro q hq us S Q X h
  obtain rfl := List.mem_singleton.1 hq
  exact h.1
theorem len_is_diagonal : ∀ q ∈ E_is_diagonal.L, ∀ us S Q X, q.2 us S Q X → us.length = p_is_diagonal.length := by
  intro q hq us S Q X h
  obtain rfl := List.mem_singleton.1 hq
  exact h.1
theorem len_krylov : ∀ q ∈ E_krylov.L, ∀ us S Q X, q.2 us S Q X → us.length = p_krylov.length := by
  intro q hq us S Q X h
  obtain rfl := List.mem_singleton.1 hq
  exact h.1
theorem len_companion : ∀ q ∈ E_companion.L, ∀ us S Q X, q.2 us S Q X → us.length = p_companion.length := by
  intro q hq us S Q X h
  obtain rfl := List.mem_singleton.1 hq
  exact h.1
theorem len_jordan_block : ∀ q ∈ E_jordan_block.L, ∀ us S Q X, q.2 us S Q X → us.length = p_jordan_block.length := by
  intro q hq us S Q X h
  obtain rfl := List.mem_singleton.1 hq
  exact h.1
theorem len_annihilator : ∀ q ∈ E_annihilator.L, ∀ us S Q X, q.2 us S Q X → us.length = p_annihilator.length := by
  intro q hq us S Q X h
  obtain rfl := List.mem_singleton.1 hq
  exact h.1
theorem len_similarity : ∀ q ∈ E_similarity.L, ∀ us S Q X, q.2 us S Q X → us.length = p_similarity.length := by
  intro q hq us S Q X h
  obtain rfl := List.mem_singleton.1 hq
  exact h.1
theorem len_difference : ∀ q ∈ E_difference.L, ∀ us S Q X, q.2 us S Q X → us.length = p_difference.length := by
  intro q hq us S Q X h
  obtain rfl := List.mem_singleton.1 hq
  exact h.1
theorem len_law_start : ∀ q ∈ E_law_start.L, ∀ us S Q X, q.2 us S Q X → us.length = p_law_start.length := by
  intro q hq us S Q X h
  obtain rfl := List.mem_singleton.1 hq
  obtain ⟨ns, rfl, _⟩ := h
  rfl
theorem len_law_fill : ∀ q ∈ E_law_fill.L, ∀ us S Q X, q.2 us S Q X → us.length = p_law_fill.length := by
  intro q hq us S Q X h
  obtain rfl := List.mem_singleton.1 hq
  obtain ⟨c, d, L, a, b, n, rfl, _⟩ := h
  rfl
theorem len_law_take : ∀ q ∈ E_law_take.L, ∀ us S Q X, q.2 us S Q X → us.length = p_law_take.length := by
  intro q hq us S Q X h
  obtain rfl := List.mem_singleton.1 hq
  obtain ⟨c, d, m, rfl, _⟩ := h
  rfl
theorem len_law_common : ∀ q ∈ E_law_common.L, ∀ us S Q X, q.2 us S Q X → us.length = p_law_common.length := by
  intro q hq us S Q X h
  obtain rfl := List.mem_singleton.1 hq
  obtain ⟨a, b, rfl, _⟩ := h
  rfl
theorem len_law_fraction : ∀ q ∈ E_law_fraction.L, ∀ us S Q X, q.2 us S Q X → us.length = p_law_fraction.length := by
  intro q hq us S Q X h
  obtain rfl := List.mem_singleton.1 hq
  obtain ⟨a, b, rfl, _⟩ := h
  rfl
theorem len_law_zero : ∀ q ∈ E_law_zero.L, ∀ us S Q X, q.2 us S Q X → us.length = p_law_zero.length := by
  intro q hq us S Q X h
  obtain rfl := List.mem_singleton.1 hq
  obtain ⟨s, r, rfl, _⟩ := h
  rfl
theorem len_law_strip : ∀ q ∈ E_law_strip.L, ∀ us S Q X, q.2 us S Q X → us.length = p_law_strip.length := by
  intro q hq us S Q X h
  obtain rfl := List.mem_singleton.1 hq
  obtain ⟨s, r, p, l, rfl, _⟩ := h
  rfl
theorem len_law_number : ∀ q ∈ E_law_number.L, ∀ us S Q X, q.2 us S Q X → us.length = p_law_number.length := by
  intro q hq us S Q X h
  simp only [E_law_number, List.mem_cons, List.not_mem_nil, or_false] at hq
  rcases hq with rfl | rfl
  · obtain ⟨d, n, rfl, _⟩ := h
    rfl
  · obtain ⟨d, n, rfl, _⟩ := h
    rfl
theorem len_law_some_prime : ∀ q ∈ E_law_some_prime.L, ∀ us S Q X, q.2 us S Q X → us.length = p_law_some_prime.length := by
  intro q hq us S Q X h
  obtain rfl := List.mem_singleton.1 hq
  obtain ⟨c, m, rfl, _⟩ := h
  rfl
theorem len_law_field : ∀ q ∈ E_law_field.L, ∀ us S Q X, q.2 us S Q X → us.length = p_law_field.length := by
  intro q hq us S Q X h
  obtain rfl := List.mem_singleton.1 hq
  obtain ⟨c, m, rfl, _⟩ := h
  rfl
theorem len_law_small : ∀ q ∈ E_law_small.L, ∀ us S Q X, q.2 us S Q X → us.length = p_law_small.length := by
  intro q hq us S Q X h
  simp only [E_law_small, List.mem_cons, List.not_mem_nil, or_false] at hq
  rcases hq with rfl | rfl
  · obtain ⟨c, d, m, rfl, _⟩ := h
    rfl
  · obtain ⟨c, d, m, rfl, _⟩ := h
    rfl
theorem len_law_matrix : ∀ q ∈ E_law_matrix.L, ∀ us S Q X, q.2 us S Q X → us.length = p_law_matrix.length := by
  intro q hq us S Q X h
  obtain rfl := List.mem_singleton.1 hq
  obtain ⟨c, d, a, b, m, rfl, _⟩ := h
  rfl
theorem len_law_called : ∀ q ∈ E_law_called.L, ∀ us S Q X, q.2 us S Q X → us.length = p_law_called.length := by
  intro q hq us S Q X h
  obtain rfl := List.mem_singleton.1 hq
  obtain ⟨f, args, N, B, rfl, _⟩ := h
  rfl
theorem len_law_all : ∀ q ∈ E_law_all.L, ∀ us S Q X, q.2 us S Q X → us.length = p_law_all.length := by
  intro q hq us S Q X h
  obtain rfl := List.mem_singleton.1 hq
  obtain ⟨r, due, rows, rfl, _⟩ := h
  rfl
theorem len_law_no_domain : ∀ q ∈ E_law_no_domain.L, ∀ us S Q X, q.2 us S Q X → us.length = p_law_no_domain.length := by
  intro q hq us S Q X h
  obtain rfl := List.mem_singleton.1 hq
  obtain ⟨c, m, rfl, _⟩ := h
  rfl
theorem len_law_single : ∀ q ∈ E_law_single.L, ∀ us S Q X, q.2 us S Q X → us.length = p_law_single.length := by
  intro q hq us S Q X h
  obtain rfl := List.mem_singleton.1 hq
  obtain ⟨d, a, rfl, _⟩ := h
  rfl
theorem len_law_double : ∀ q ∈ E_law_double.L, ∀ us S Q X, q.2 us S Q X → us.length = p_law_double.length := by
  intro q hq us S Q X h
  obtain rfl := List.mem_singleton.1 hq
  obtain ⟨d, a, b, v, rfl, _⟩ := h
  rfl
theorem len_law : ∀ q ∈ E_law.L, ∀ us S Q X, q.2 us S Q X → us.length = p_law.length := by
  intro q hq us S Q X h
  obtain rfl := List.mem_singleton.1 hq
  obtain ⟨ns, rfl, _⟩ := h
  rfl
theorem len_law_class : ∀ q ∈ E_law_class.L, ∀ us S Q X, q.2 us S Q X → us.length = p_law_class.length := by
  intro q hq us S Q X h
  obtain rfl := List.mem_singleton.1 hq
  obtain ⟨f, args, kind, rfl, _⟩ := h
  rfl
/-! ### each def keeps its promises, level by level -/
section
variable {P : Program} {w : World} {M : Md} {base : Heap} {k : Nat} {f : Addr} {fd : FuncData}
theorem fn_no {ps : List Str} {sp : Sp} (h : ∀ vs H Q E, ¬ sp vs H Q E) {CX : CXT} : FnOk P w M.K M.mg base CX k f fd ps sp := ⟨fun vs H Q E z => absurd z (h vs H Q E), fun A outer s H args us vs Q E _ _ _ _ z => absurd z (h vs H Q E)⟩
abbrev FD (M : Md) (x : Str) (i : Nat) (f : Addr) (fd : FuncData) : Prop := FunD M.K x x (defArgs (top i)) (defBody (top i)) (defScope (top i)) [] [] f fd
abbrev Ok (P : Program) (w : World) (M : Md) (base : Heap) (e : Ent) (k : Nat) (f : Addr) (fd : FuncData) : Prop := FnOk P w M.K M.mg base (L2.CX P w) k f fd e.ps (spU M (spK e.L k))
theorem st_is_prime (F : FD M "is_prime" 8 f fd) (E : Env1 P w M base (GK k) k bl xc) : Ok P w M base E_is_prime (k + 1) f fd := def_ok F sc_is_prime E ck_is_prime (len_K len_is_prime) (pf_spK (pf_is_prime k))
theorem st_is_integer (F : FD M "is_integer" 15 f fd) (E : Env1 P w M base (GK k) k bl xc) : Ok P w M base E_is_integer (k + 1) f fd := def_ok F sc_is_integer E ck_is_integer (len_K len_is_integer) (pf_spK (pf_is_integer k))
theorem st_is_field (F : FD M "is_field" 17 f fd) (E : Env1 P w M base (GK k) k bl xc) : Ok P w M base E_is_field (k + 1) f fd := def_ok F sc_is_field E ck_is_field (len_K len_is_field) (pf_spK (pf_is_field k))
theorem st_need_field (F : FD M "need_field" 20 f fd) (E : Env1 P w M base (GK k) k bl xc) : Ok P w M base E_need_field (k + 1) f fd := def_ok F sc_need_field E ck_need_field (len_K len_need_field) (pf_spK (pf_need_field k))
theorem st_need_shape (F : FD M "need_shape" 35 f fd) (E : Env1 P w M base (GK k) k bl xc) : Ok P w M base E_need_shape (k + 1) f fd := def_ok F sc_need_shape E ck_need_shape (len_K len_need_shape) (pf_spK (pf_need_shape k))
theorem st_need_square (F : FD M "need_square" 36 f fd) (E : Env1 P w M base (GK k) k bl xc) : Ok P w M base E_need_square (k + 1) f fd := def_ok F sc_need_square E ck_need_square (len_K len_need_square) (pf_spK (pf_need_square k))
theorem st_characteristic (F : FD M "characteristic" 60 f fd) (E : Env1 P w M base (GK k) k bl xc) : Ok P w M base E_characteristic (k + 1) f fd := def_ok F sc_characteristic E ck_characteristic (len_K len_characteristic) (pf_spK (pf_characteristic k))
theorem st_cyclic_pair (F : FD M "cyclic_pair" 68 f fd) (E : Env1 P w M base (GK k) k bl xc) : Ok P w M base E_cyclic_pair (k + 1) f fd := def_ok F sc_cyclic_pair E ck_cyclic_pair (len_K len_cyclic_pair) (pf_spK (pf_cyclic_pair k))
theorem st_jordan (F : FD M "jordan" 112 f fd) (E : Env1 P w M base (GK k) k bl xc) : Ok P w M base E_jordan (k + 1) f fd := def_ok F sc_jordan E ck_jordan (len_K len_jordan) (pf_spK (pf_jordan k))
theorem st_decompose (F : FD M "decompose" 84 f fd) (E : Env1 P w M base (GK k) k bl xc) : Ok P w M base E_decompose (k + 1) f fd := def_ok F sc_decompose E ck_decompose (len_K len_decompose) (pf_spK (pf_decompose k))
theorem st_minimal (F : FD M "minimal" 69 f fd) (E : Env1 P w M base (GK k) k bl xc) : Ok P w M base E_minimal (k + 1) f fd := def_ok F sc_minimal E ck_minimal (len_K len_minimal) (pf_spK (pf_minimal k))
theorem st_cyclic_vector (F : FD M "cyclic_vector" 70 f fd) (E : Env1 P w M base (GK k) k bl xc) : Ok P w M base E_cyclic_vector (k + 1) f fd := def_ok F sc_cyclic_vector E ck_cyclic_vector (len_K len_cyclic_vector) (pf_spK (pf_cyclic_vector k))
theorem st_invariant_factors (F : FD M "invariant_factors" 85 f fd) (E : Env1 P w M base (GK k) k bl xc) : Ok P w M base E_invariant_factors (k + 1) f fd := def_ok F sc_invariant_factors E ck_invariant_factors (len_K len_invariant_factors) (pf_spK (pf_invariant_factors k))
theorem st_frobenius (F : FD M "frobenius" 86 f fd) (E : Env1 P w M base (GK k) k bl xc) : Ok P w M base E_frobenius (k + 1) f fd := def_ok F sc_frobenius E ck_frobenius (len_K len_frobenius) (pf_spK (pf_frobenius k))
theorem st_unsplit (F : FD M "unsplit" 108 f fd) (E : Env1 P w M base (GK k) k bl xc) : Ok P w M base E_unsplit (k + 1) f fd := def_ok F sc_unsplit E ck_unsplit (len_K len_unsplit) (pf_spK (pf_unsplit k))
theorem st_eigenvalues (F : FD M "eigenvalues" 105 f fd) (E : Env1 P w M base (GK k) k bl xc) : Ok P w M base E_eigenvalues (k + 1) f fd := def_ok F sc_eigenvalues E ck_eigenvalues (len_K len_eigenvalues) (pf_spK (pf_eigenvalues k))
theorem st_splits (F : FD M "splits" 107 f fd) (E : Env1 P w M base (GK k) k bl xc) : Ok P w M base E_splits (k + 1) f fd := def_ok F sc_splits E ck_splits (len_K len_splits) (pf_spK (pf_splits k))
theorem st_is_diagonal (F : FD M "is_diagonal" 113 f fd) (E : Env1 P w M base (GK k) k bl xc) : Ok P w M base E_is_diagonal (k + 1) f fd := def_ok F sc_is_diagonal E ck_is_diagonal (len_K len_is_diagonal) (pf_spK (pf_is_diagonal k))
theorem st_krylov (F : FD M "krylov" 63 f fd) (E : Env1 P w M base (GK k) k bl xc) : Ok P w M base E_krylov (k + 1) f fd := def_ok F sc_krylov E ck_krylov (len_K len_krylov) (pf_spK (pf_krylov k))
theorem st_companion (F : FD M "companion" 71 f fd) (E : Env1 P w M base (GK k) k bl xc) : Ok P w M base E_companion (k + 1) f fd := def_ok F sc_companion E ck_companion (len_K len_companion) (pf_spK (pf_companion k))
theorem st_jordan_block (F : FD M "jordan_block" 106 f fd) (E : Env1 P w M base (GK k) k bl xc) : Ok P w M base E_jordan_block (k + 1) f fd := def_ok F sc_jordan_block E ck_jordan_block (len_K len_jordan_block) (pf_spK (pf_jordan_block k))
theorem st_annihilator (F : FD M "annihilator" 62 f fd) (E : Env1 P w M base (GK k) k bl xc) : Ok P w M base E_annihilator (k + 1) f fd := def_ok F sc_annihilator E ck_annihilator (len_K len_annihilator) (pf_spK (pf_annihilator k))
theorem st_similarity (F : FD M "similarity" 87 f fd) (E : Env1 P w M base (GK k) k bl xc) : Ok P w M base E_similarity (k + 1) f fd := def_ok F sc_similarity E ck_similarity (len_K len_similarity) (pf_spK (pf_similarity k))
theorem st_difference (F : FD M "difference" 88 f fd) (E : Env1 P w M base (GK k) k bl xc) : Ok P w M base E_difference (k + 1) f fd := def_ok F sc_difference E ck_difference (len_K len_difference) (pf_spK (pf_difference k))
theorem st_law_start (F : FD M "_law_start" 115 f fd) (E : Env1 P w M base (GK k) k bl xc) : Ok P w M base E_law_start (k + 1) f fd := def_ok F sc_law_start E ck_law_start (len_K len_law_start) (pf_spK (pf_law_start k))
theorem st_law_fill (F : FD M "_law_fill" 116 f fd) (E : Env1 P w M base (GK k) k bl xc) : Ok P w M base E_law_fill (k + 1) f fd := def_ok F sc_law_fill E ck_law_fill (len_K len_law_fill) (pf_spK (pf_law_fill k))
theorem st_law_take (F : FD M "_law_take" 117 f fd) (E : Env1 P w M base (GK k) k bl xc) : Ok P w M base E_law_take (k + 1) f fd := def_ok F sc_law_take E ck_law_take (len_K len_law_take) (pf_spK (pf_law_take k))
theorem st_law_common (F : FD M "_law_common" 119 f fd) (E : Env1 P w M base (GK k) k bl xc) : Ok P w M base E_law_common (k + 1) f fd := def_ok F sc_law_common E ck_law_common (len_K len_law_common) (pf_spK (pf_law_common k))
theorem st_law_fraction (F : FD M "_law_fraction" 120 f fd) (E : Env1 P w M base (GK k) k bl xc) : Ok P w M base E_law_fraction (k + 1) f fd := def_ok F sc_law_fraction E ck_law_fraction (len_K len_law_fraction) (pf_spK (pf_law_fraction k))
theorem st_law_zero (F : FD M "_law_zero" 121 f fd) (E : Env1 P w M base (GK k) k bl xc) : Ok P w M base E_law_zero (k + 1) f fd := def_ok F sc_law_zero E ck_law_zero (len_K len_law_zero) (pf_spK (pf_law_zero k))
theorem st_law_strip (F : FD M "_law_strip" 122 f fd) (E : Env1 P w M base (GK k) k bl xc) : Ok P w M base E_law_strip (k + 1) f fd := def_ok F sc_law_strip E ck_law_strip (len_K len_law_strip) (pf_spK (pf_law_strip k))
theorem st_law_number (F : FD M "_law_number" 123 f fd) (E : Env1 P w M base (GK k) k bl xc) : Ok P w M base E_law_number (k + 1) f fd := def_ok F sc_law_number E ck_law_number (len_K len_law_number) (pf_spK (pf_law_number k))
theorem st_law_some_prime (F : FD M "_law_some_prime" 130 f fd) (E : Env1 P w M base (GK k) k bl xc) : Ok P w M base E_law_some_prime (k + 1) f fd := def_ok F sc_law_some_prime E ck_law_some_prime (len_K len_law_some_prime) (pf_spK (pf_law_some_prime k))
theorem st_law_field (F : FD M "_law_field" 131 f fd) (E : Env1 P w M base (GK k) k bl xc) : Ok P w M base E_law_field (k + 1) f fd := def_ok F sc_law_field E ck_law_field (len_K len_law_field) (pf_spK (pf_law_field k))
theorem st_law_small (F : FD M "_law_small" 135 f fd) (E : Env1 P w M base (GK k) k bl xc) : Ok P w M base E_law_small (k + 1) f fd := def_ok F sc_law_small E ck_law_small (len_K len_law_small) (pf_spK (pf_law_small k))
theorem st_law_matrix (F : FD M "_law_matrix" 136 f fd) (E : Env1 P w M base (GK k) k bl xc) : Ok P w M base E_law_matrix (k + 1) f fd := def_ok F sc_law_matrix E ck_law_matrix (len_K len_law_matrix) (pf_spK (pf_law_matrix k))
theorem st_law_called (F : FD M "_law_called" 143 f fd) (E : Env1 P w M base (GK k) k bl xc) : Ok P w M base E_law_called (k + 1) f fd := def_ok F sc_law_called E ck_law_called (len_K len_law_called) (pf_spK (pf_law_called k))
theorem st_law_all (F : FD M "_law_all" 145 f fd) (E : Env1 P w M base (GK k) k bl xc) : Ok P w M base E_law_all (k + 1) f fd := def_ok F sc_law_all E ck_law_all (len_K len_law_all) (pf_spK (pf_law_all k))
theorem st_law_no_domain (F : FD M "_law_no_domain" 146 f fd) (E : Env1 P w M base (GK k) k bl xc) : Ok P w M base E_law_no_domain (k + 1) f fd := def_ok F sc_law_no_domain E ck_law_no_domain (len_K len_law_no_domain) (pf_spK (pf_law_no_domain k))
theorem st_law_single (F : FD M "_law_single" 147 f fd) (E : Env1 P w M base (GK k) k bl xc) : Ok P w M base E_law_single (k + 1) f fd := def_ok F sc_law_single E ck_law_single (len_K len_law_single) (pf_spK (pf_law_single k))
theorem st_law_double (F : FD M "_law_double" 148 f fd) (E : Env1 P w M base (GK k) k bl xc) : Ok P w M base E_law_double (k + 1) f fd := def_ok F sc_law_double E ck_law_double (len_K len_law_double) (pf_spK (pf_law_double k))
theorem st_law (F : FD M "law" 149 f fd) (E : Env1 P w M base (GK k) k bl xc) : Ok P w M base E_law (k + 1) f fd := def_ok F sc_law E ck_law (len_K len_law) (pf_spK (pf_law k))
theorem st_roots : Ok P w M base E_roots k f fd := fn_no fun vs H Q E ⟨_, _, _, _, _, _, _, _, _, q, hq, _⟩ => nomatch hq
theorem st_law_class {aL aD aS aG : Addr} (X : ErrF M aL aD aS aG) (F : FD M "_law_class" 144 f fd) (E : Env1 P w M base (GK k) k bl xc) : Ok P w M base E_law_class (k + 1) f fd := by
  by_cases hk : 9 ≤ k + 1
  · refine (class_ok F E (has_k _ (r := 8) lk_law_called (List.mem_singleton.2 rfl) (by omega)) X).imp ?_
    rintro vs H Q Y ⟨μ, S, us, h1, h2, Q0, X0, hQ, hX, q, hq, hr, h⟩
    obtain rfl := List.mem_singleton.1 hq
    obtain ⟨fn, args, kind, rfl, hr2, hf⟩ := h
    exact ⟨μ, S, _, h1, h2, fn, args, kind, rfl, hr2, hQ _ _ hf⟩
  · refine fn_no fun vs H Q Y ⟨μ, S, us, h1, h2, Q0, X0, hQ, hX, q, hq, hr, h⟩ => ?_
    obtain rfl := List.mem_singleton.1 hq
    exact hk hr
theorem bd_is_prime (F : FD M "is_prime" 8 f fd) : Binds M.K fd E_is_prime.ps [] := F.bindsN fun _ _ _ _ _ _ us hl => match us, hl with | [_], _ => rfl
theorem bd_is_integer (F : FD M "is_integer" 15 f fd) : Binds M.K fd E_is_integer.ps [] := F.bindsN fun _ _ _ _ _ _ us hl => match us, hl with | [_], _ => rfl
theorem bd_is_field (F : FD M "is_field" 17 f fd) : Binds M.K fd E_is_field.ps [] := F.bindsN fun _ _ _ _ _ _ us hl => match us, hl with | [_], _ => rfl
theorem bd_need_field (F : FD M "need_field" 20 f fd) : Binds M.K fd E_need_field.ps [] := F.bindsN fun _ _ _ _ _ _ us hl => match us, hl with | [_], _ => rfl
theorem bd_need_shape (F : FD M "need_shape" 35 f fd) : Binds M.K fd E_need_shape.ps [] := F.bindsN fun _ _ _ _ _ _ us hl => match us, hl with | [_], _ => rfl
theorem bd_need_square (F : FD M "need_square" 36 f fd) : Binds M.K fd E_need_square.ps [] := F.bindsN fun _ _ _ _ _ _ us hl => match us, hl with | [_], _ => rfl
theorem bd_characteristic (F : FD M "characteristic" 60 f fd) : Binds M.K fd E_characteristic.ps [] := F.bindsN fun _ _ _ _ _ _ us hl => match us, hl with | [_, _], _ => rfl
theorem bd_annihilator (F : FD M "annihilator" 62 f fd) : Binds M.K fd E_annihilator.ps [] := F.bindsN fun _ _ _ _ _ _ us hl => match us, hl with | [_, _, _], _ => rfl
theorem bd_krylov (F : FD M "krylov" 63 f fd) : Binds M.K fd E_krylov.ps [] := F.bindsN fun _ _ _ _ _ _ us hl => match us, hl with | [_, _, _], _ => rfl
theorem bd_cyclic_pair (F : FD M "cyclic_pair" 68 f fd) : Binds M.K fd E_cyclic_pair.ps [] := F.bindsN fun _ _ _ _ _ _ us hl => match us, hl with | [_, _], _ => rfl
theorem bd_minimal (F : FD M "minimal" 69 f fd) : Binds M.K fd E_minimal.ps [] := F.bindsN fun _ _ _ _ _ _ us hl => match us, hl with | [_, _], _ => rfl
theorem bd_cyclic_vector (F : FD M "cyclic_vector" 70 f fd) : Binds M.K fd E_cyclic_vector.ps [] := F.bindsN fun _ _ _ _ _ _ us hl => match us, hl with | [_, _], _ => rfl
theorem bd_companion (F : FD M "companion" 71 f fd) : Binds M.K fd E_companion.ps [] := F.bindsN fun _ _ _ _ _ _ us hl => match us, hl with | [_, _], _ => rfl
theorem bd_decompose (F : FD M "decompose" 84 f fd) : Binds M.K fd E_decompose.ps [] := F.bindsN fun _ _ _ _ _ _ us hl => match us, hl with | [_, _], _ => rfl
theorem bd_invariant_factors (F : FD M "invariant_factors" 85 f fd) : Binds M.K fd E_invariant_factors.ps [] := F.bindsN fun _ _ _ _ _ _ us hl => match us, hl with | [_, _], _ => rfl
theorem bd_frobenius (F : FD M "frobenius" 86 f fd) : Binds M.K fd E_frobenius.ps [] := F.bindsN fun _ _ _ _ _ _ us hl => match us, hl with | [_, _], _ => rfl
theorem bd_similarity (F : FD M "similarity" 87 f fd) : Binds M.K fd E_similarity.ps [] := F.bindsN fun _ _ _ _ _ _ us hl => match us, hl with | [_, _, _], _ => rfl
theorem bd_difference (F : FD M "difference" 88 f fd) : Binds M.K fd E_difference.ps [] := F.bindsN fun _ _ _ _ _ _ us hl => match us, hl with | [_, _, _], _ => rfl
theorem bd_roots (F : FD M "roots" 103 f fd) : Binds M.K fd E_roots.ps [] := F.bindsN fun _ _ _ _ _ _ us hl => match us, hl with | [_, _], _ => rfl
theorem bd_eigenvalues (F : FD M "eigenvalues" 105 f fd) : Binds M.K fd E_eigenvalues.ps [] := F.bindsN fun _ _ _ _ _ _ us hl => match us, hl with | [_, _], _ => rfl
theorem bd_jordan_block (F : FD M "jordan_block" 106 f fd) : Binds M.K fd E_jordan_block.ps [] := F.bindsN fun _ _ _ _ _ _ us hl => match us, hl with | [_, _, _], _ => rfl
theorem bd_splits (F : FD M "splits" 107 f fd) : Binds M.K fd E_splits.ps [] := F.bindsN fun _ _ _ _ _ _ us hl => match us, hl with | [_, _], _ => rfl
theorem bd_unsplit (F : FD M "unsplit" 108 f fd) : Binds M.K fd E_unsplit.ps [] := F.bindsN fun _ _ _ _ _ _ us hl => match us, hl with | [_, _], _ => rfl
theorem bd_jordan (F : FD M "jordan" 112 f fd) : Binds M.K fd E_jordan.ps [] := F.bindsN fun _ _ _ _ _ _ us hl => match us, hl with | [_, _], _ => rfl
theorem bd_is_diagonal (F : FD M "is_diagonal" 113 f fd) : Binds M.K fd E_is_diagonal.ps [] := F.bindsN fun _ _ _ _ _ _ us hl => match us, hl with | [_, _], _ => rfl
theorem bd_law_start (F : FD M "_law_start" 115 f fd) : Binds M.K fd E_law_start.ps [] := F.bindsN fun _ _ _ _ _ _ us hl => match us, hl with | [_], _ => rfl
theorem bd_law_fill (F : FD M "_law_fill" 116 f fd) : Binds M.K fd E_law_fill.ps [] := F.bindsN fun _ _ _ _ _ _ us hl => match us, hl with | [_], _ => rfl
theorem bd_law_take (F : FD M "_law_take" 117 f fd) : Binds M.K fd E_law_take.ps [] := F.bindsN fun _ _ _ _ _ _ us hl => match us, hl with | [_, _], _ => rfl
theorem bd_law_common (F : FD M "_law_common" 119 f fd) : Binds M.K fd E_law_common.ps [] := F.bindsN fun _ _ _ _ _ _ us hl => match us, hl with | [_, _], _ => rfl
theorem bd_law_fraction (F : FD M "_law_fraction" 120 f fd) : Binds M.K fd E_law_fraction.ps [] := F.bindsN fun _ _ _ _ _ _ us hl => match us, hl with | [_, _], _ => rfl
theorem bd_law_zero (F : FD M "_law_zero" 121 f fd) : Binds M.K fd E_law_zero.ps [] := F.bindsN fun _ _ _ _ _ _ us hl => match us, hl with | [_], _ => rfl
theorem bd_law_strip (F : FD M "_law_strip" 122 f fd) : Binds M.K fd E_law_strip.ps [] := F.bindsN fun _ _ _ _ _ _ us hl => match us, hl with | [_, _], _ => rfl
theorem bd_law_number (F : FD M "_law_number" 123 f fd) : Binds M.K fd E_law_number.ps [] := F.bindsN fun _ _ _ _ _ _ us hl => match us, hl with | [_, _], _ => rfl
theorem bd_law_some_prime (F : FD M "_law_some_prime" 130 f fd) : Binds M.K fd E_law_some_prime.ps [] := F.bindsN fun _ _ _ _ _ _ us hl => match us, hl with | [_], _ => rfl
theorem bd_law_field (F : FD M "_law_field" 131 f fd) : Binds M.K fd E_law_field.ps [] := F.bindsN fun _ _ _ _ _ _ us hl => match us, hl with | [_], _ => rfl
theorem bd_law_small (F : FD M "_law_small" 135 f fd) : Binds M.K fd E_law_small.ps [] := F.bindsN fun _ _ _ _ _ _ us hl => match us, hl with | [_, _], _ => rfl
theorem bd_law_matrix (F : FD M "_law_matrix" 136 f fd) : Binds M.K fd E_law_matrix.ps [] := F.bindsN fun _ _ _ _ _ _ us hl => match us, hl with | [_, _, _, _], _ => rfl
theorem bd_law_called (F : FD M "_law_called" 143 f fd) : Binds M.K fd E_law_called.ps [] := F.bindsN fun _ _ _ _ _ _ us hl => match us, hl with | [_, _], _ => rfl
theorem bd_law_class (F : FD M "_law_class" 144 f fd) : Binds M.K fd E_law_class.ps [] := F.bindsN fun _ _ _ _ _ _ us hl => match us, hl with | [_, _], _ => rfl
theorem bd_law_all (F : FD M "_law_all" 145 f fd) : Binds M.K fd E_law_all.ps [] := F.bindsN fun _ _ _ _ _ _ us hl => match us, hl with | [_, _], _ => rfl
theorem bd_law_no_domain (F : FD M "_law_no_domain" 146 f fd) : Binds M.K fd E_law_no_domain.ps [] := F.bindsN fun _ _ _ _ _ _ us hl => match us, hl with | [_], _ => rfl
theorem bd_law_single (F : FD M "_law_single" 147 f fd) : Binds M.K fd E_law_single.ps [] := F.bindsN fun _ _ _ _ _ _ us hl => match us, hl with | [_, _], _ => rfl
theorem bd_law_double (F : FD M "_law_double" 148 f fd) : Binds M.K fd E_law_double.ps [] := F.bindsN fun _ _ _ _ _ _ us hl => match us, hl with | [_, _, _, _], _ => rfl
theorem bd_law (F : FD M "law" 149 f fd) : Binds M.K fd E_law.ps [] := F.bindsN fun _ _ _ _ _ _ us hl => match us, hl with | [_], _ => rfl
theorem st_all {aL aD aS aG : Addr} (X : ErrF M aL aD aS aG) (E : Env1 P w M base (GK k) k bl xc) : ∀ e ∈ tab, ∀ f fd, FD M e.x e.i f fd → Ok P w M base e (k + 1) f fd := by
  intro e he f fd F
  simp only [tab, List.mem_cons, List.not_mem_nil, or_false] at he
  rcases he with rfl | rfl | rfl | rfl | rfl | rfl | rfl | rfl | rfl | rfl | rfl | rfl | rfl | rfl | rfl | rfl | rfl | rfl | rfl | rfl | rfl | rfl | rfl | rfl | rfl | rfl | rfl | rfl | rfl | rfl | rfl | rfl | rfl | rfl | rfl | rfl | rfl | rfl | rfl | rfl | rfl | rfl | rfl | rfl
  · exact st_is_prime F E
  · exact st_is_integer F E
  · exact st_is_field F E
  · exact st_need_field F E
  · exact st_need_shape F E
  · exact st_need_square F E
  · exact st_characteristic F E
  · exact st_annihilator F E
  · exact st_krylov F E
  · exact st_cyclic_pair F E
  · exact st_minimal F E
  · exact st_cyclic_vector F E
  · exact st_companion F E
  · exact st_decompose F E
  · exact st_invariant_factors F E
  · exact st_frobenius F E
  · exact st_similarity F E
  · exact st_difference F E
  · exact st_roots
  · exact st_eigenvalues F E
  · exact st_jordan_block F E
  · exact st_splits F E
  · exact st_unsplit F E
  · exact st_jordan F E
  · exact st_is_diagonal F E
  · exact st_law_start F E
  · exact st_law_fill F E
  · exact st_law_take F E
  · exact st_law_common F E
  · exact st_law_fraction F E
  · exact st_law_zero F E
  · exact st_law_strip F E
  · exact st_law_number F E
  · exact st_law_some_prime F E
  · exact st_law_field F E
  · exact st_law_small F E
  · exact st_law_matrix F E
  · exact st_law_called F E
  · exact st_law_class X F E
  · exact st_law_all F E
  · exact st_law_no_domain F E
  · exact st_law_single F E
  · exact st_law_double F E
  · exact st_law F E
theorem bd_all : ∀ e ∈ tab, ∀ f fd, FD M e.x e.i f fd → Binds M.K fd e.ps [] := by
  intro e he f fd F
  simp only [tab, List.mem_cons, List.not_mem_nil, or_false] at he
  rcases he with rfl | rfl | rfl | rfl | rfl | rfl | rfl | rfl | rfl | rfl | rfl | rfl | rfl | rfl | rfl | rfl | rfl | rfl | rfl | rfl | rfl | rfl | rfl | rfl | rfl | rfl | rfl | rfl | rfl | rfl | rfl | rfl | rfl | rfl | rfl | rfl | rfl | rfl | rfl | rfl | rfl | rfl | rfl | rfl
  · exact bd_is_prime F
  · exact bd_is_integer F
  · exact bd_is_field F
  · exact bd_need_field F
  · exact bd_need_shape F
  · exact bd_need_square F
  · exact bd_characteristic F
  · exact bd_annihilator F
  · exact bd_krylov F
  · exact bd_cyclic_pair F
  · exact bd_minimal F
  · exact bd_cyclic_vector F
  · exact bd_companion F
  · exact bd_decompose F
  · exact bd_invariant_factors F
  · exact bd_frobenius F
  · exact bd_similarity F
  · exact bd_difference F
  · exact bd_roots F
  · exact bd_eigenvalues F
  · exact bd_jordan_block F
  · exact bd_splits F
  · exact bd_unsplit F
  · exact bd_jordan F
  · exact bd_is_diagonal F
  · exact bd_law_start F
  · exact bd_law_fill F
  · exact bd_law_take F
  · exact bd_law_common F
  · exact bd_law_fraction F
  · exact bd_law_zero F
  · exact bd_law_strip F
  · exact bd_law_number F
  · exact bd_law_some_prime F
  · exact bd_law_field F
  · exact bd_law_small F
  · exact bd_law_matrix F
  · exact bd_law_called F
  · exact bd_law_class F
  · exact bd_law_all F
  · exact bd_law_no_domain F
  · exact bd_law_single F
  · exact bd_law_double F
  · exact bd_law F
theorem pos_all : ∀ e ∈ tab, ∀ q ∈ e.L, 1 ≤ q.1 := by
  intro e he q hq
  simp only [tab, List.mem_cons, List.not_mem_nil, or_false] at he
  rcases he with rfl | rfl | rfl | rfl | rfl | rfl | rfl | rfl | rfl | rfl | rfl | rfl | rfl | rfl | rfl | rfl | rfl | rfl | rfl | rfl | rfl | rfl | rfl | rfl | rfl | rfl | rfl | rfl | rfl | rfl | rfl | rfl | rfl | rfl | rfl | rfl | rfl | rfl | rfl | rfl | rfl | rfl | rfl | rfl
  · obtain rfl := List.mem_singleton.1 hq; exact Nat.le_of_ble_eq_true rfl
  · obtain rfl := List.mem_singleton.1 hq; exact Nat.le_of_ble_eq_true rfl
  · obtain rfl := List.mem_singleton.1 hq; exact Nat.le_of_ble_eq_true rfl
  · obtain rfl := List.mem_singleton.1 hq; exact Nat.le_of_ble_eq_true rfl
  · obtain rfl := List.mem_singleton.1 hq; exact Nat.le_of_ble_eq_true rfl
  · obtain rfl := List.mem_singleton.1 hq; exact Nat.le_of_ble_eq_true rfl
  · obtain rfl := List.mem_singleton.1 hq; exact Nat.le_of_ble_eq_true rfl
  · obtain rfl := List.mem_singleton.1 hq; exact Nat.le_of_ble_eq_true rfl
  · obtain rfl := List.mem_singleton.1 hq; exact Nat.le_of_ble_eq_true rfl
  · obtain rfl := List.mem_singleton.1 hq; exact Nat.le_of_ble_eq_true rfl
  · obtain rfl := List.mem_singleton.1 hq; exact Nat.le_of_ble_eq_true rfl
  · obtain rfl := List.mem_singleton.1 hq; exact Nat.le_of_ble_eq_true rfl
  · obtain rfl := List.mem_singleton.1 hq; exact Nat.le_of_ble_eq_true rfl
  · obtain rfl := List.mem_singleton.1 hq; exact Nat.le_of_ble_eq_true rfl
  · obtain rfl := List.mem_singleton.1 hq; exact Nat.le_of_ble_eq_true rfl
  · obtain rfl := List.mem_singleton.1 hq; exact Nat.le_of_ble_eq_true rfl
  · obtain rfl := List.mem_singleton.1 hq; exact Nat.le_of_ble_eq_true rfl
  · obtain rfl := List.mem_singleton.1 hq; exact Nat.le_of_ble_eq_true rfl
  · cases hq
  · obtain rfl := List.mem_singleton.1 hq; exact Nat.le_of_ble_eq_true rfl
  · obtain rfl := List.mem_singleton.1 hq; exact Nat.le_of_ble_eq_true rfl
  · obtain rfl := List.mem_singleton.1 hq; exact Nat.le_of_ble_eq_true rfl
  · obtain rfl := List.mem_singleton.1 hq; exact Nat.le_of_ble_eq_true rfl
  · obtain rfl := List.mem_singleton.1 hq; exact Nat.le_of_ble_eq_true rfl
  · obtain rfl := List.mem_singleton.1 hq; exact Nat.le_of_ble_eq_true rfl
  · obtain rfl := List.mem_singleton.1 hq; exact Nat.le_of_ble_eq_true rfl
  · obtain rfl := List.mem_singleton.1 hq; exact Nat.le_of_ble_eq_true rfl
  · obtain rfl := List.mem_singleton.1 hq; exact Nat.le_of_ble_eq_true rfl
  · obtain rfl := List.mem_singleton.1 hq; exact Nat.le_of_ble_eq_true rfl
  · obtain rfl := List.mem_singleton.1 hq; exact Nat.le_of_ble_eq_true rfl
  · obtain rfl := List.mem_singleton.1 hq; exact Nat.le_of_ble_eq_true rfl
  · obtain rfl := List.mem_singleton.1 hq; exact Nat.le_of_ble_eq_true rfl
  · simp only [E_law_number, List.mem_cons, List.not_mem_nil, or_false] at hq; rcases hq with rfl | rfl <;> exact Nat.le_of_ble_eq_true rfl
  · obtain rfl := List.mem_singleton.1 hq; exact Nat.le_of_ble_eq_true rfl
  · obtain rfl := List.mem_singleton.1 hq; exact Nat.le_of_ble_eq_true rfl
  · simp only [E_law_small, List.mem_cons, List.not_mem_nil, or_false] at hq; rcases hq with rfl | rfl <;> exact Nat.le_of_ble_eq_true rfl
  · obtain rfl := List.mem_singleton.1 hq; exact Nat.le_of_ble_eq_true rfl
  · obtain rfl := List.mem_singleton.1 hq; exact Nat.le_of_ble_eq_true rfl
  · obtain rfl := List.mem_singleton.1 hq; exact Nat.le_of_ble_eq_true rfl
  · obtain rfl := List.mem_singleton.1 hq; exact Nat.le_of_ble_eq_true rfl
  · obtain rfl := List.mem_singleton.1 hq; exact Nat.le_of_ble_eq_true rfl
  · obtain rfl := List.mem_singleton.1 hq; exact Nat.le_of_ble_eq_true rfl
  · obtain rfl := List.mem_singleton.1 hq; exact Nat.le_of_ble_eq_true rfl
  · obtain rfl := List.mem_singleton.1 hq; exact Nat.le_of_ble_eq_true rfl
/-- all levels -/
theorem envs {aL aD aS aG : Addr} (X : ErrF M aL aD aS aG) (hfn : ∀ e ∈ tab, ∃ f fd, M.mg e.x = some (.ref f) ∧ FD M e.x e.i f fd) (hct : ∀ x u, ctl x = some u → ∃ w v, M.mg x = some w ∧ RelV v w ∧ ∀ μ H, Rep M μ H u v)
    (hbl : ∀ x ∈ bl, M.mg x = none) (hxc : ∀ c ∈ xc, ExcOk M c) : ∀ k, Env1 P w M base (GK k) k bl xc := by
  have mk : ∀ k, (∀ e ∈ tab, ∀ f fd, FD M e.x e.i f fd → Ok P w M base e k f fd) → Env1 P w M base (GK k) k bl xc := fun k h => ⟨GK_mono k, fun f sp hs => by
    obtain ⟨e, he, rfl⟩ := Option.map_eq_some_iff.1 hs
    have hm := List.mem_of_find?_eq_some he
    have hx : e.x = f := of_decide_eq_true (List.find?_some (p := fun z : Ent => decide (z.x = f)) he)
    obtain ⟨fa, fd, h1, F⟩ := hfn e hm
    exact ⟨fa, fd, e.ps, by rw [← hx]; exact h1, F.kp, h e hm fa fd F, bd_all e hm fa fd F⟩, hct, hbl, hxc⟩
  intro k
  induction k with
  | zero =>
    refine mk 0 fun e he f fd F => fn_no fun vs H Q Y ⟨μ, S, us, h1, h2, Q0, X0, hQ, hX, q, hq, hr, h⟩ => ?_
    have := pos_all e he q hq
    omega
  | succ k ih => exact mk (k + 1) (st_all X ih)
end
end K67

set_option Elab.async false
set_option linter.all false
set_option maxRecDepth 100000
set_option maxHeartbeats 0
namespace K67H
open PySem PySem.Spec PyProof.Rows L2
open K67 (top)
def dd (x : Str) (i : Nat) : He.DefD := ⟨(x, none), x, x, defArgs (top i), defBody (top i), defScope (top i), [], []⟩
def fn0 : List He.DefD := [dd "is_prime" 8, dd "is_integer" 15, dd "is_field" 17, dd "need_field" 20, dd "need_shape" 35, dd "need_square" 36, dd "characteristic" 60, dd "annihilator" 62, dd "krylov" 63, dd "cyclic_pair" 68, dd "minimal" 69, dd "cyclic_vector" 70, dd "companion" 71, dd "decompose" 84, dd "invariant_factors" 85]
def fn1 : List He.DefD := [dd "frobenius" 86, dd "similarity" 87, dd "difference" 88, dd "roots" 103, dd "eigenvalues" 105, dd "jordan_block" 106, dd "splits" 107, dd "unsplit" 108, dd "jordan" 112, dd "is_diagonal" 113, dd "_law_start" 115, dd "_law_fill" 116, dd "_law_take" 117, dd "_law_common" 119, dd "_law_fraction" 120]
def fn2 : List He.DefD := [dd "_law_zero" 121, dd "_law_strip" 122, dd "_law_number" 123, dd "_law_some_prime" 130, dd "_law_field" 131, dd "_law_small" 135, dd "_law_matrix" 136, dd "_law_called" 143, dd "_law_class" 144, dd "_law_all" 145, dd "_law_no_domain" 146, dd "_law_single" 147, dd "_law_double" 148, dd "law" 149]
def fn : List He.DefD := fn0 ++ (fn1 ++ (fn2))
def faG0 : List He.Fa := [He.Fa.glo "is_prime", He.Fa.glo "is_integer", He.Fa.glo "is_field", He.Fa.glo "need_field", He.Fa.glo "need_shape", He.Fa.glo "need_square", He.Fa.glo "characteristic", He.Fa.glo "annihilator", He.Fa.glo "krylov", He.Fa.glo "cyclic_pair", He.Fa.glo "minimal", He.Fa.glo "cyclic_vector", He.Fa.glo "companion", He.Fa.glo "decompose", He.Fa.glo "invariant_factors"]
def faG1 : List He.Fa := [He.Fa.glo "frobenius", He.Fa.glo "similarity", He.Fa.glo "difference", He.Fa.glo "roots", He.Fa.glo "eigenvalues", He.Fa.glo "jordan_block", He.Fa.glo "splits", He.Fa.glo "unsplit", He.Fa.glo "jordan", He.Fa.glo "is_diagonal", He.Fa.glo "_law_start", He.Fa.glo "_law_fill", He.Fa.glo "_law_take", He.Fa.glo "_law_common", He.Fa.glo "_law_fraction"]
def faG2 : List He.Fa := [He.Fa.glo "_law_zero", He.Fa.glo "_law_strip", He.Fa.glo "_law_number", He.Fa.glo "_law_some_prime", He.Fa.glo "_law_field", He.Fa.glo "_law_small", He.Fa.glo "_law_matrix", He.Fa.glo "_law_called", He.Fa.glo "_law_class", He.Fa.glo "_law_all", He.Fa.glo "_law_no_domain", He.Fa.glo "_law_single", He.Fa.glo "_law_double", He.Fa.glo "law"]
def faG : List He.Fa := faG0 ++ (faG1 ++ (faG2))
def faC : List He.Fa := [.glo "LongrankError", .glo "DomainError", .glo "ShapeError", .glo "SingularError"]
def faB : List He.Fa := [.free "abs", .free "all", .free "any", .free "bool", .free "int", .free "isinstance", .free "len", .free "list", .free "range", .free "str", .free "sum", .free "tuple", .free "ValueError"]
def faX : List He.Fa := [.int "MOST_PRIME" 65521, .exc "DomainError", .exc "ShapeError", .exm "DomainError" "DomainError" true, .exm "ShapeError" "DomainError" false, .exm "ShapeError" "ShapeError" true]
def fa : List He.Fa := faG ++ (faC ++ (faB ++ faX))
def ls0 : List Str := ["LongrankError", "DomainError", "ShapeError", "SingularError", "common", "divisor", "is_prime", "next_prime", "fraction", "symmetric", "is_less", "MOST_PRIME", "is_integer", "is_domain", "is_field", "is_euclidean", "need_domain", "need_field", "need_euclidean", "zero"]
def ls1 : List Str := ["one", "from_integer", "trimmed", "add", "negate", "subtract", "multiply", "inverse", "divide", "normal", "exact", "need_shape", "need_square", "identity", "zero_matrix", "plus", "dot", "times", "scaled", "transposed"]
def ls2 : List Str := ["applied", "row_times", "beside", "part", "diagonal", "evaluated", "degree", "derivative", "power_modulo", "common_part", "lift_root", "hessenberg", "exchange", "clear_entry", "characteristic", "Span", "annihilator", "krylov", "polynomial_applied", "part_within"]
def ls3 : List Str := ["joined", "unit_vector", "cyclic_pair", "minimal", "cyclic_vector", "companion", "add_row", "eliminate", "with_identity", "reduce", "pivots_of", "rank", "solve", "inverted", "complement", "kernel_columns", "decompose", "invariant_factors", "frobenius", "similarity"]
def ls4 : List Str := ["difference", "variable", "trial", "image_of", "split_equal", "prime_roots", "integer_form", "monic_form", "value_of", "rest_modulo", "is_good", "good_prime", "integer_roots", "fraction_roots", "roots", "eigenvalues", "jordan_block", "splits", "unsplit", "factor_power"]
def ls5 : List Str := ["chain", "blocks_of", "jordan", "is_diagonal", "_law_start", "_law_fill", "_law_take", "_law_raised", "_law_common", "_law_fraction", "_law_zero", "_law_strip", "_law_number", "_law_part", "_law_add", "_law_multiply", "_law_subtract", "_law_power", "_law_inverse", "_law_some_prime"]
def ls6 : List Str := ["_law_field", "_law_domain", "_law_integer", "_law_element", "_law_small", "_law_matrix", "_law_dot", "_law_column", "_law_product", "_law_identity", "_law_shape", "_law_low", "_law_called", "_law_class", "_law_all", "_law_no_domain", "_law_single", "_law_double"]
def loose : List Str := ls0 ++ (ls1 ++ (ls2 ++ (ls3 ++ (ls4 ++ (ls5 ++ (ls6))))))
def mask0 : List Bool := [true, true, true, true, false, false, true, false, false, false, false, false, true, false, true]
def mask1 : List Bool := [false, false, true, false, false, false, false, false, false, false, false, false, false, false, false]
def mask2 : List Bool := [false, true, true, false, false, false, false, false, false, false, false, false, false, false, false]
def mask3 : List Bool := [false, false, false, false, false, false, false, false, false, true, false, true, true, false, false]
def mask4 : List Bool := [false, false, true, true, true, true, false, false, false, false, false, false, false, false, false]
def mask5 : List Bool := [false, true, true, true, true, true, false, false, false, false, false, false, false, false, false]
def mask6 : List Bool := [false, false, false, false, true, true, true, true, true, false, false, false, true, true, true]
def mask7 : List Bool := [true, true, false, true, true, true, true, true, false, false, false, false, false, false, true]
def mask8 : List Bool := [true, false, false, false, true, true, false, false, false, false, false, false, true, true, true]
def mask9 : List Bool := [true, true, true, true]
def mask : List Bool := mask0 ++ (mask1 ++ (mask2 ++ (mask3 ++ (mask4 ++ (mask5 ++ (mask6 ++ (mask7 ++ (mask8 ++ (mask9)))))))))
def glE (g : Addr → Option Obj) : List PySem.DictEntry := match g mainGlobals with
  | some ⟨_, _, .dict es _, _⟩ => es.toList
  | _ => []
def dropE : List PySem.DictEntry → List PySem.DictEntry
  | [] => []
  | e :: r => bif e.key.isStr "LongrankError" then e :: r else dropE r
def pickE : List Bool → List PySem.DictEntry → List Addr
  | true :: ms, e :: es => He.refV e.val ++ pickE ms es
  | false :: ms, _ :: es => pickE ms es
  | _, _ => []
def asX (g : Addr → Option Obj) : List Addr :=
  let l := pickE mask (dropE (glE g))
  mainGlobals :: (l ++ l.flatMap fun a => match g a with
    | some o => He.refsO o
    | none => [])
/-- isinstance of the errors -/
def excB (K : PySem.W.Frag) (D : Addr) : Bool := He.eqO (PySem.W.findIn K (.ref D) "__getattribute__") (some (some (.builtin "BaseException.__getattribute__"))) && (He.eqO (PySem.W.findIn K (.ref D) "__getattr__") (some none) &&
  (decide (PySem.W.subIn K (.ref D) (.type "BaseException") = some true) && (PySem.W.hasDictIn K D && (He.eqO (PySem.W.findIn K (.ref D) "__class__") (some (some (.builtin "object.__class__"))) &&
  (He.eqO (PySem.W.specialIn K (.builtin "object.__class__") "__get__") (some (some (.builtin "getset_descriptor.__get__"))) && (decide (PySem.W.takesIn K (.builtin "object.__class__") = some true) && decide (PySem.W.mroIn K D (.type "object") = some true)))))))
def kitB (K : PySem.W.Frag) (l : List (Str × Value × Bool)) : Bool := l.all fun q => decide (PySem.W.kitOne K (.ref (He.ga K q.1)) q.2.1 = some q.2.2)
def ex (K : PySem.W.Frag) : Bool := excB K (He.ga K "DomainError") && (excB K (He.ga K "ShapeError") && kitB K [("DomainError", .ref (He.ga K "LongrankError"), true), ("DomainError", .type "ValueError", true), ("DomainError", .ref (He.ga K "ShapeError"), false), ("DomainError", .ref (He.ga K "SingularError"), false),
  ("ShapeError", .ref (He.ga K "LongrankError"), true), ("ShapeError", .type "ValueError", true), ("ShapeError", .ref (He.ga K "SingularError"), false)])
abbrev Ob : Type := He.AlD × Bool
def obX (K : PySem.W.Frag) : Ob := (He.obsD fa fn K, ex K)
def val : Ob := (He.valD fn, true)
def hk : PySem.W.Hook where
  α := Ob
  obs := fun s => obX (He.frG s.heap.get? (asX s.heap.get?))
  val := fun _ => val
  says := fun _ h => ∃ K : PySem.W.Frag, K.In h ∧ obX K = val
  of := fun _ _ e => ⟨_, He.frG_in, e⟩
  keeps := fun _ _ _ ⟨K, hK, c⟩ k => ⟨K, PySem.W.Frag.In.keeps hK k, c⟩
def ob (s : PySem.W.SharedT) : Ob := obX (He.frG (HandSHeadRun.getT s) (asX (HandSHeadRun.getT s)))
theorem ob_eq (s : PySem.W.SharedT) : ob s = hk.obs s.abs := by
  have e : HandSHeadRun.getT s = s.abs.heap.get? := funext fun a => HandSHeadRun.getT_eq s a
  unfold ob
  rw [e] <;> rfl
abbrev R : PySem.W.OpenRow := PySem.W.OpenLaw.row PySem.Challenge.rw_longrank_k67_refused_operators
theorem run (w : World) : HandSHeadRun.RunEq R (PySem.W.view R.prog [149]) hk ob 20000 loose w := by
  intro os
  kernel_rfl
end K67H

set_option Elab.async false
set_option linter.all false
set_option maxRecDepth 100000
set_option maxHeartbeats 4000000
namespace K67
open PySem PySem.Spec PyProof.Rows L2 Q
theorem fn_tab : K67H.fn = tab.map fun e => K67H.dd e.x e.i := rfl
theorem faG_tab : K67H.faG = tab.map fun e => He.Fa.glo e.x := rfl
theorem faB_bl : K67H.faB = (bl ++ [("ValueError" : Str)]).map fun x => He.Fa.free x := rfl
section
variable {K : PySem.W.Frag}
theorem fact_mem (c : He.SaysD K67H.fa K67H.fn K) {f : He.Fa} (h : f ∈ K67H.fa) : f.ok K = true := by
  obtain ⟨i, hi⟩ := List.mem_iff_getElem?.1 h
  exact c.fact i hi
theorem mem_G {f : He.Fa} (h : f ∈ K67H.faG) : f ∈ K67H.fa := List.mem_append.2 (.inl h)
theorem mem_C {f : He.Fa} (h : f ∈ K67H.faC) : f ∈ K67H.fa := List.mem_append.2 (.inr (List.mem_append.2 (.inl h)))
theorem mem_B {f : He.Fa} (h : f ∈ K67H.faB) : f ∈ K67H.fa := List.mem_append.2 (.inr (List.mem_append.2 (.inr (List.mem_append.2 (.inl h)))))
theorem mem_X {f : He.Fa} (h : f ∈ K67H.faX) : f ∈ K67H.fa := List.mem_append.2 (.inr (List.mem_append.2 (.inr (List.mem_append.2 (.inr h)))))
theorem excC_of {D : Addr} (h : K67H.excB K D = true) : ExcC K D := by
  obtain ⟨h1, h⟩ := He.ba h
  obtain ⟨h2, h⟩ := He.ba h
  obtain ⟨h3, h⟩ := He.ba h
  obtain ⟨h4, h⟩ := He.ba h
  obtain ⟨h5, h⟩ := He.ba h
  obtain ⟨h6, h⟩ := He.ba h
  obtain ⟨h7, h8⟩ := He.ba h
  exact ⟨He.eqO_ok h1, He.eqO_ok h2, of_decide_eq_true h3, h4, He.eqO_ok h5, He.eqO_ok h6, of_decide_eq_true h7, of_decide_eq_true h8⟩
variable {h : Heap} {mg : Str → Option Value}
theorem errF_of (X : K.In h) (G : h.Ns mainGlobals mg) (cc : K67H.obX K = K67H.val) : ErrF ⟨K, mg⟩ (He.ga K "LongrankError") (He.ga K "DomainError") (He.ga K "ShapeError") (He.ga K "SingularError") := by
  have c : He.SaysD K67H.fa K67H.fn K := congrArg Prod.fst cc
  have e : K67H.ex K = true := congrArg Prod.snd cc
  obtain ⟨e1, e⟩ := He.ba e
  obtain ⟨e2, e3⟩ := He.ba e
  have kit := List.all_eq_true.1 e3
  have glo : ∀ x, (He.Fa.glo x) ∈ K67H.faC → mg x = some (.ref (He.ga K x)) := fun x hx => He.glo_ok X G (fact_mem c (mem_C hx))
  have fre : ∀ x, (He.Fa.free x) ∈ K67H.faB → mg x = none := fun x hx => He.free_ok X G (fact_mem c (mem_B hx))
  exact {
    gL := glo _ (by simp [K67H.faC])
    gD := glo _ (by simp [K67H.faC])
    gS := glo _ (by simp [K67H.faC])
    gG := glo _ (by simp [K67H.faC])
    fI := fre _ (by rw [faB_bl]; exact List.mem_map.2 ⟨("isinstance" : Str), by decide +kernel, rfl⟩)
    fV := fre _ (by rw [faB_bl]; exact List.mem_map.2 ⟨("ValueError" : Str), by decide +kernel, rfl⟩)
    cD := excC_of e1
    cS := excC_of e2
    xDD := He.exm_ok (fact_mem c (mem_X (by simp [K67H.faX])))
    xSD := He.exm_ok (fact_mem c (mem_X (by simp [K67H.faX])))
    xSS := He.exm_ok (fact_mem c (mem_X (by simp [K67H.faX])))
    kDL := of_decide_eq_true (kit ("DomainError", .ref (He.ga K "LongrankError"), true) (by simp))
    kDV := of_decide_eq_true (kit ("DomainError", .type "ValueError", true) (by simp))
    kDS := of_decide_eq_true (kit ("DomainError", .ref (He.ga K "ShapeError"), false) (by simp))
    kDG := of_decide_eq_true (kit ("DomainError", .ref (He.ga K "SingularError"), false) (by simp))
    kSL := of_decide_eq_true (kit ("ShapeError", .ref (He.ga K "LongrankError"), true) (by simp))
    kSV := of_decide_eq_true (kit ("ShapeError", .type "ValueError", true) (by simp))
    kSG := of_decide_eq_true (kit ("ShapeError", .ref (He.ga K "SingularError"), false) (by simp)) }
theorem fn_of_tab (X : K.In h) (G : h.Ns mainGlobals mg) (c : He.SaysD K67H.fa K67H.fn K) : ∀ e ∈ tab, mg e.x = some (.ref (He.ga K e.x)) ∧ ∃ fd, FD ⟨K, mg⟩ e.x e.i (He.ga K e.x) fd := fun e he => by
  refine ⟨He.glo_ok X G (fact_mem c (mem_G (by rw [faG_tab]; exact List.mem_map.2 ⟨e, he, rfl⟩))), ?_⟩
  have hd : K67H.dd e.x e.i ∈ K67H.fn := by rw [fn_tab]; exact List.mem_map.2 ⟨e, he, rfl⟩
  obtain ⟨i, hi⟩ := List.mem_iff_getElem?.1 hd
  obtain ⟨fd, F⟩ := c.def_ i hi
  exact ⟨fd, F⟩
theorem names_in : ∀ f ∈ opNames, ∃ e ∈ tab, e.x = f := by
  have : ∀ f ∈ opNames, (tab.any fun e => decide (e.x = f)) = true := by decide +kernel
  intro f hf
  obtain ⟨e, he, h⟩ := List.any_eq_true.1 (this f hf)
  exact ⟨e, he, of_decide_eq_true h⟩
theorem envs_of {P : Program} {w : World} {base : Heap} (X : K.In h) (G : h.Ns mainGlobals mg) (cc : K67H.obX K = K67H.val) : ∀ k, Env1 P w ⟨K, mg⟩ base (GK k) k bl xc := by
  have c : He.SaysD K67H.fa K67H.fn K := congrArg Prod.fst cc
  have ft := fn_of_tab X G c
  refine envs (errF_of X G cc) (fun e he => ?_) (fun x u hu => ?_) (fun x hx => ?_) (fun x hx => ?_)
  · obtain ⟨h1, fd, F⟩ := ft e he
    exact ⟨_, fd, h1, F⟩
  · unfold ctl at hu
    split at hu
    · rename_i hx
      cases hu
      obtain ⟨t, ht⟩ := He.int_ok X G (i := 65521) (x := "MOST_PRIME") (fact_mem c (mem_X (by simp [K67H.faX])))
      subst hx
      exact ⟨_, .int 65521, ht, ⟨t, rfl⟩, fun μ H => by rw [Rep]⟩
    · split at hu
      · rename_i hx
        cases hu
        obtain ⟨e, he, rfl⟩ := names_in x hx
        have h1 := (ft e he).1
        exact ⟨_, .ref (He.ga K e.x), h1, rfl, fun μ H => by rw [Rep]; exact ⟨_, rfl, h1⟩⟩
      · cases hu
  · exact He.free_ok X G (fact_mem c (mem_B (by rw [faB_bl]; exact List.mem_map.2 ⟨x, List.mem_append.2 (.inl hx), rfl⟩)))
  · have hx2 : x = "DomainError" ∨ x = "ShapeError" := by
      simp only [xc, List.mem_cons, List.not_mem_nil, or_false] at hx
      exact hx
    have hX : He.Fa.exc x ∈ K67H.fa ∧ He.Fa.glo x ∈ K67H.fa := by
      rcases hx2 with rfl | rfl
      · exact ⟨mem_X (by simp [K67H.faX]), mem_C (by simp [K67H.faC])⟩
      · exact ⟨mem_X (by simp [K67H.faX]), mem_C (by simp [K67H.faC])⟩
    obtain ⟨q1, q2, q3, q4⟩ := He.exc_ok (fact_mem c hX.1)
    exact ⟨_, He.glo_ok X G (fact_mem c hX.2), q2, q3, q4, _, q1, rfl⟩
/-- a promise that lets no exception out -/
theorem calm_ok {P : Program} {w : World} {base : Heap} {k : Nat} {f : Addr} {fd : FuncData} {ps : List Str} {sp sp2 : Sp} (F : FnOk P w K mg base (L2.CX P w) k f fd ps sp) (hs : ∀ vs H Q E, sp2 vs H Q E → sp vs H Q fun _ _ _ => False) : FnOk P w K mg base L2.CX0 k f fd ps sp2 := by
  refine ⟨fun vs H Q E q => F.len _ _ _ _ (hs _ _ _ _ q), fun A outer s H args us vs Q E hr he hb hv q => codeAny_mono (F.run A outer s H args us vs Q _ hr he hb hv (hs _ _ _ _ q)) fun r s2 z => ?_⟩
  cases r with
  | ok fl => cases fl <;> exact z
  | error e =>
    obtain ⟨_, _, _, _, _, _, _, _, _, _, _, _, z⟩ := z
    exact z.elim
/-- the law's promise over the heap behind the top -/
def spEnd (K : PySem.W.Frag) : Sp := fun vs H Q _ => ∃ (a : Addr) (ns : List Int), vs = [.ref a] ∧ Only H ∧ SqL K H a (ns.map V.int) ∧ ∀ H2, Q (.bl true) H2
theorem law_end {P : Program} {w : World} (X : K.In h) (G : h.Ns mainGlobals mg) (cc : K67H.obX K = K67H.val) {f : Addr} (hf : mg "law" = some (.ref f)) :
    ∃ fd : FuncData, (∀ (s : Shared) (v : Value), BindsTo s fd ⟨[v], []⟩ [("script", v)]) ∧ ∀ base : Heap, FnOk P w K mg base L2.CX0 11 f fd ["script"] (spEnd K) := by
  have c : He.SaysD K67H.fa K67H.fn K := congrArg Prod.fst cc
  have hm : E_law ∈ tab := by simp [tab]
  obtain ⟨h1, fd, F⟩ := fn_of_tab X G c E_law hm
  have e := hf.symm.trans h1
  cases e
  refine ⟨fd, fun s v => FunD.bindsA (ps := ["script"]) F (fun _ _ _ _ _ _ us hl => match us, hl with | [_], _ => rfl) s [v] rfl, fun base => ?_⟩
  have ok := st_all (P := P) (w := w) (base := base) (errF_of X G cc) (envs_of X G cc 10) E_law hm _ fd F
  refine calm_ok ok fun vs H Q E ⟨a, ns, e, hO, hS, hQ⟩ => ?_
  refine ⟨[], [], [.scr ns], ⟨rfl, List.nodup_nil, fun n c h => by simp at h⟩, ?_, fun u S2 => u = .bl true, fun _ _ _ => False, fun u S2 hu μ2 H2 v _ _ hr => ?_, fun _ _ _ z => z.elim, (11, spLaw), List.mem_singleton.2 rfl, Nat.le_refl _, ns, rfl, fun _ => rfl⟩
  · rw [e]
    refine .cons ?_ .nil
    rw [Rep]
    refine ⟨a, rfl, ?_⟩
    rcases hS with (h1 | ⟨o, h1⟩) | h1
    · rcases hO a with h2 | ⟨o, xs, h2⟩
      · rw [h1] at h2; cases h2
      · rw [h1] at h2; cases h2
    · exact .inl ⟨o, h1⟩
    · exact .inr (.inr h1)
  · subst hu
    rw [Rep] at hr
    subst hr
    exact hQ _
end
end K67
open PySem PySem.W PySem.Calls PyProof.Rows
theorem PySem.Challenge.cw_longrank_k67_refused_operators_holds : PySem.Challenge.rw_longrank_k67_refused_operators.Holds := by
  w_on; o_law
  refine HandSHeadRun.head_any (r := OpenLaw.row PySem.Challenge.rw_longrank_k67_refused_operators) (q := view (OpenLaw.row PySem.Challenge.rw_longrank_k67_refused_operators).prog [149]) (H := K67H.hk) (ob := K67H.ob) (M := 20000) (loose := K67H.loose) (d := HandSHeadRun.topDef (OpenLaw.row PySem.Challenge.rw_longrank_k67_refused_operators).prog 149) (kwd := []) K67H.ob_eq
    (by kernel_rfl) (fun s => by kernel_rfl) K67H.run (by kernel_rfl) (by kernel_rfl) (by kernel_rfl) (by rfl) (by first | assumption | decide +kernel) (by decide +kernel) ⟨rfl, rfl, rfl, rfl, rfl, by decide +kernel⟩ ?hw ?hc
  case hw => w_witness2
  case hc =>
    refine L2.walk_ofE (l := PySem.Challenge.rw_longrank_k67_refused_operators) (n := 63) (k := 11) (x := "script") (CX := L2.CX0) rfl (by decide) (by kernel_rfl) ⟨rfl, by decide, by decide⟩ ?F (fun _ _ _ _ z => z)
    intro w mg fa h Y G hmg0
    obtain ⟨K, KX, cc⟩ := Y
    have hmg : mg ("law" : PySem.Str) = some (.ref fa) := by
      have e : (HandSHeadRun.topDef (OpenLaw.row PySem.Challenge.rw_longrank_k67_refused_operators).prog 149).name = ("law" : PySem.Str) := by kernel_rfl
      rw [← e]
      exact hmg0
    obtain ⟨fd, hb, hF⟩ := K67.law_end (P := (PySem.Challenge.rw_longrank_k67_refused_operators).prog) (w := w) KX G cc hmg
    exact ⟨K, fd, K67.spEnd K, KX, hb, fun H a ns hl hO hS => ⟨a, ns, rfl, hO, hS, fun _ => rfl⟩, fun base _ _ => hF base⟩
