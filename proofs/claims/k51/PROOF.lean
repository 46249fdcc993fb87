import PyProof.Rows.All
import Wide.All
import OpenK.AllK
import Wide.FinOn
import HandS.ForMost
import HandS.TupAny
import HandS.Style
import HandS.IsInst
import HandS.Exc
import HandS.TryOnly
import HandS.ExcOwn
import HandS.Small
import HandS.More
import HandS.Zip
import HandS.Walk
import HandS.CallLocal
import PyProof.ReprRoads
import KE.KSortedM
import KE.GoesEnum
import KE.GoesZip
import KE.GoesMore
import PySem.Challenge.RW_fixwright_k51_fillings_that_meet_equatio
set_option Elab.async false
set_option linter.all false
set_option maxRecDepth 100000
set_option autoImplicit false
/-! Fx1: values without addresses, a small syntax, its interpreter. -/
namespace Fx
open PySem

/-- values: lst and dic are containers that nobody changes any more; obj k is the k-th thing of the store; fn k is a def -/
inductive D where
  | non | bl (b : Bool) | int (i : Int) | str (x : Str)
  | tup (l : List D) | lst (l : List D) | dic (ks vs : List D) | obj (k : Nat) | fn (k : Nat)
  deriving Inhabited

abbrev LN : Nat := 16777216

/-- what a built-in class is asked for by isinstance -/
inductive Ty where | int | bool | str | tuple | list
  deriving DecidableEq

inductive Pr where
  | add | sub | mul | mod | fdiv | pow | neg
  | eq | ne | lt | le | gt | ge | isN | notN | isB | notB
  | tup | lst | cel | ix | dg | sl (lo hi : Bool) | rev
  | len | abs | int | repr | sum | all | any | tuple | list | sort | sortK
  | isi (t : Ty) | get2
  deriving DecidableEq

/-- what a loop walks -/
inductive IK where | seq | range1 | range2 | range3 | enum | zip | items
  deriving DecidableEq

inductive Tg where
  | n (i : Nat)
  | t (l : List Tg)

inductive E where
  | c (d : D)
  | g (x : Str) (d : D)
  | f (k : Nat)
  | v (i : Nat)
  | ov (i : Nat)
  | pr (p : Pr) (args : List E)
  | and (a b : E)
  | or (a b : E)
  | not (a : E)
  | ite (c a b : E)
  | chn (p q : Pr) (a b c : E)
  | call (k : Nat) (args : List E)
  | callV (i : Nat) (args : List E)
  | comp (elt : E) (t : Tg) (k : IK) (its : List E) (conds : List E) (own : List Nat)

/-- the right side of an assignment: a value, or a new container of one's own -/
inductive Rh where
  | e (e : E)
  | nl (es : List E)
  | nd
  | nc (e : E)

inductive S where
  | asg (t : Tg) (e : E)
  | par (l : List Nat) (rs : List Rh)
  | frz (i : Nat)
  | stop
  | app (i : Nat) (e : E)
  | ext (i : Nat) (e : E)
  | ins (i : Nat) (k e : E)
  | oset (i : Nat) (k e : E)
  | oswp (i : Nat) (k1 k2 e1 e2 : E)
  | cset (o k e : E)
  | caug (o k : E) (p : Pr) (e : E)
  | aug (i : Nat) (p : Pr) (e : E)
  | ex (e : E)
  | ret (e : E)
  | ret0
  | retO (i : Nat)
  | ite (c : E) (a b : List S)
  | whl (c : E) (a : List S)
  | for (t : Tg) (k : IK) (its : List E) (a : List S)
  | pass
  | brk
  | cont
  | raise (c : Nat) (args : List E)
  | try (a : List S) (c : Nat) (nm : Option Nat) (h : List S)

/-- a frame's slot: nothing, a value, a container of its own -/
inductive Sl where
  | no
  | val (d : D)
  | own (d : D)
  deriving Inhabited

abbrev Env := List Sl
abbrev Store := List D

inductive RE where | ok (d : D) (M : Store) | ex (c : Nat) (fs : List D) (M : Store) | no
inductive RL where | ok (ds : List D) (M : Store) | ex (c : Nat) (fs : List D) (M : Store) | no
inductive RS where
  | nx (ρ : Env) (M : Store) | rt (d : D) (M : Store) | bk (ρ : Env) (M : Store) | ct (ρ : Env) (M : Store)
  | ex (c : Nat) (fs : List D) (ρ : Env) (M : Store) | no

def RE.bd (r : RE) (f : D → Store → RE) : RE := match r with | .ok d M => f d M | .ex c fs M => .ex c fs M | .no => .no
def RL.bd (r : RL) (f : List D → Store → RE) : RE := match r with | .ok d M => f d M | .ex c fs M => .ex c fs M | .no => .no
def RE.bdL (r : RE) (f : D → Store → RL) : RL := match r with | .ok d M => f d M | .ex c fs M => .ex c fs M | .no => .no
def RL.bdL (r : RL) (f : List D → Store → RL) : RL := match r with | .ok d M => f d M | .ex c fs M => .ex c fs M | .no => .no
def RE.bdS (r : RE) (ρ : Env) (f : D → Store → RS) : RS := match r with | .ok d M => f d M | .ex c fs M => .ex c fs ρ M | .no => .no
def RL.bdS (r : RL) (ρ : Env) (f : List D → Store → RS) : RS := match r with | .ok d M => f d M | .ex c fs M => .ex c fs ρ M | .no => .no
def RE.ofO : Option D → Store → RE | some d, M => .ok d M | none, _ => .no

/-! ### plain data -/
mutual
def toPy : D → Option PyData
  | .non => some .none
  | .bl b => some (.bool b)
  | .int i => some (.int i)
  | .str x => some (.str x)
  | .tup l => (toPys l).map .tuple
  | .lst l => (toPys l).map .list
  | _ => none
def toPys : List D → Option (List PyData)
  | [] => some []
  | d :: l => match toPy d, toPys l with | some p, some q => some (p :: q) | _, _ => none
end

def eqP (a b : D) : Option Bool := match toPy a, toPy b with
  | some p, some q => if SeqAt.shaped p = true ∧ SeqAt.shaped q = true then some (PyData.eqv p q) else none
  | _, _ => none
def eqD : D → D → Option Bool
  | .str x, .str y => some (decide (x = y))
  | a, b => eqP a b

def allInt : List D → Option (List Int)
  | [] => some []
  | .int i :: l => (allInt l).map (i :: ·)
  | _ => none
def allBl : List D → Option (List Bool)
  | [] => some []
  | .bl i :: l => (allBl l).map (i :: ·)
  | _ => none

/-- keys: allInt and texts -/
def keyOf : D → Option L2.Key
  | .int i => some (.inl i)
  | .str x => some (.inr x)
  | _ => none
def keysOf : List D → Option (List L2.Key)
  | [] => some []
  | d :: l => match keyOf d, keysOf l with | some p, some q => some (p :: q) | _, _ => none
def dGet (k : L2.Key) : List L2.Key → List D → Option D
  | a :: ks, v :: vs => if a = k then some v else dGet k ks vs
  | _, _ => none
def dSet (k : L2.Key) (v : D) : List L2.Key → List D → List D
  | a :: as, y :: vs => (if a = k then v else y) :: dSet k v as vs
  | _, vs => vs
def dPut (k : L2.Key) (d v : D) (as : List L2.Key) (ks vs : List D) : List D × List D :=
  if (as.any fun a => decide (a = k)) = true then (ks, dSet k v as vs) else (ks ++ [d], vs ++ [v])

/-- insertion into an ascending row -/
def insI (i : Int) : List Int → List Int
  | [] => [i]
  | x :: l => if i ≤ x then i :: x :: l else x :: insI i l
def sortI : List Int → List Int
  | [] => []
  | x :: l => insI x (sortI l)

/-- items of a tuple or list -/
def seqOf : D → Option (List D) | .tup l => some l | .lst l => some l | _ => none
def cutD (l : List D) (lo hi : Option Int) : List D := (l.drop (HT.sIx l.length 0 lo)).take (HT.sIx l.length l.length hi - HT.sIx l.length 0 lo)

def isTy (t : Ty) (d : D) : Option Bool := match d with
  | .int _ => some (decide (t = .int))
  | .bl _ => some (decide (t = .int) || decide (t = .bool))
  | .non => some false
  | .str _ => some (decide (t = .str))
  | .tup _ => some (decide (t = .tuple))
  | .lst _ => some (decide (t = .list))
  | _ => none

instance (i j : Int) : Decidable (L2.CMul i j) := by unfold L2.CMul; infer_instance
instance (i j : Int) : Decidable (L2.CDiv i j) := by unfold L2.CDiv; infer_instance
instance (i j : Int) : Decidable (L2.CPow i j) := by unfold L2.CPow; infer_instance

/-! the built-ins, on values -/
def pAdd : List D → Store → RE
  | [.int i, .int j], M => .ok (.int (i + j)) M
  | [.tup a, .tup b], M => if a.length + b.length ≤ LN then .ok (.tup (a ++ b)) M else .no
  | [.lst a, .lst b], M => if a.length + b.length ≤ LN then .ok (.lst (a ++ b)) M else .no
  | _, _ => .no
/-- two whole numbers -/
def pII (ok : Int → Int → Bool) (f : Int → Int → D) : List D → Store → RE
  | [.int i, .int j], M => if ok i j = true then .ok (f i j) M else .no
  | _, _ => .no
def pEq (f : Bool → Bool) : List D → Store → RE
  | [a, b], M => RE.ofO ((eqD a b).map fun k => .bl (f k)) M
  | _, _ => .no
def isNon : D → Bool | .non => true | _ => false
def pNon (f : Bool → Bool) : List D → Store → RE
  | [a], M => .ok (.bl (f (isNon a))) M
  | _, _ => .no
def pBB (f : Bool → Bool) : List D → Store → RE
  | [.bl a, .bl b], M => .ok (.bl (f (decide (a = b)))) M
  | _, _ => .no
def pIx : List D → Store → RE
  | [.tup l, .int i], M => RE.ofO (L2.atI l i) M
  | [.lst l, .int i], M => RE.ofO (L2.atI l i) M
  | [.obj k, .int i], M => match M[k]? with | some (.lst l) => RE.ofO (L2.atI l i) M | _ => .no
  | _, _ => .no
def pDg : List D → Store → RE
  | [.dic ks vs, d], M => match keyOf d, keysOf ks with | some k, some as => RE.ofO (dGet k as vs) M | _, _ => .no
  | _, _ => .no
def intO : List D → Option (List Int) := allInt
def pSl (lo hi : Bool) : List D → Store → RE
  | .tup l :: r, M => match lo, hi, r with
    | false, false, [] => .ok (.tup (cutD l none none)) M
    | true, false, [.int i] => .ok (.tup (cutD l (some i) none)) M
    | false, true, [.int i] => .ok (.tup (cutD l none (some i))) M
    | true, true, [.int i, .int j] => .ok (.tup (cutD l (some i) (some j))) M
    | _, _, _ => .no
  | .lst l :: r, M => match lo, hi, r with
    | false, false, [] => .ok (.lst (cutD l none none)) M
    | true, false, [.int i] => .ok (.lst (cutD l (some i) none)) M
    | false, true, [.int i] => .ok (.lst (cutD l none (some i))) M
    | true, true, [.int i, .int j] => .ok (.lst (cutD l (some i) (some j))) M
    | _, _, _ => .no
  | _, _ => .no
def pRev : List D → Store → RE
  | [.lst l], M => .ok (.lst l.reverse) M
  | _, _ => .no
def pLen : List D → Store → RE
  | [.tup l], M => .ok (.int l.length) M
  | [.lst l], M => .ok (.int l.length) M
  | _, _ => .no
def pAbs : List D → Store → RE
  | [.int i], M => .ok (.int (if i < 0 then -i else i)) M
  | _, _ => .no
def pNeg : List D → Store → RE
  | [.int i], M => .ok (.int (-i)) M
  | _, _ => .no
def pInt : List D → Store → RE
  | [.int i], M => .ok (.int i) M
  | [.bl k], M => .ok (.int (if k then 1 else 0)) M
  | _, _ => .no
def pRepr : List D → Store → RE
  | [d], M => match toPy d with
    | some p => if p.showable = true ∧ SeqAt.shaped p = true ∧ p.shown.length ≤ LN then .ok (.str p.shown) M else .no
    | none => .no
  | _, _ => .no
def pSum : List D → Store → RE
  | [.lst l], M => RE.ofO ((allInt l).map fun ns => .int ns.sum) M
  | _, _ => .no
def pBls (f : List Bool → Bool) : List D → Store → RE
  | [.lst l], M => RE.ofO ((allBl l).map fun bs => .bl (f bs)) M
  | _, _ => .no
def pTuple : List D → Store → RE
  | [.lst l], M => .ok (.tup l) M
  | [.tup l], M => .ok (.tup l) M
  | _, _ => .no
def pList : List D → Store → RE
  | [.lst l], M => .ok (.lst l) M
  | [.tup l], M => .ok (.lst l) M
  | _, _ => .no
def pSort : List D → Store → RE
  | [.lst l], M => if l.length < 64 then RE.ofO ((allInt l).map fun ns => .lst ((sortI ns).map .int)) M else .no
  | _, _ => .no
def pSortK : List D → Store → RE
  | [.dic ks _], M => if ks.length < 64 then RE.ofO ((allInt ks).map fun ns => .lst ((sortI ns).map .int)) M else .no
  | _, _ => .no
def pIsi (t : Ty) : List D → Store → RE
  | [d], M => RE.ofO ((isTy t d).map .bl) M
  | _, _ => .no
def pGet2 : List D → Store → RE
  | [.dic ks vs, d, v], M => match keyOf d, keysOf ks with | some k, some as => .ok ((dGet k as vs).getD v) M | _, _ => .no
  | _, _ => .no

/-- a built-in, on values -/
def prm (p : Pr) (ds : List D) (M : Store) : RE := match p with
  | .add => pAdd ds M
  | .sub => pII (fun _ _ => true) (fun i j => .int (i - j)) ds M
  | .mul => pII (fun i j => decide (L2.CMul i j)) (fun i j => .int (i * j)) ds M
  | .mod => pII (fun _ j => decide (0 < j)) (fun i j => .int (i % j)) ds M
  | .fdiv => pII (fun i j => decide (L2.CDiv i j)) (fun i j => .int (i / j)) ds M
  | .pow => pII (fun i j => decide (L2.CPow i j)) (fun i j => .int (i ^ j.toNat)) ds M
  | .neg => pNeg ds M
  | .eq => pEq id ds M
  | .ne => pEq not ds M
  | .lt => pII (fun _ _ => true) (fun i j => .bl (decide (i < j))) ds M
  | .le => pII (fun _ _ => true) (fun i j => .bl (decide (i ≤ j))) ds M
  | .gt => pII (fun _ _ => true) (fun i j => .bl (decide (j < i))) ds M
  | .ge => pII (fun _ _ => true) (fun i j => .bl (decide (j ≤ i))) ds M
  | .isN => pNon id ds M
  | .notN => pNon not ds M
  | .isB => pBB id ds M
  | .notB => pBB not ds M
  | .tup => if ds.length ≤ LN then .ok (.tup ds) M else .no
  | .lst => if ds.length ≤ LN then .ok (.lst ds) M else .no
  | .cel => if ds.length ≤ LN then .ok (.obj M.length) (M ++ [.lst ds]) else .no
  | .ix => pIx ds M
  | .dg => pDg ds M
  | .sl lo hi => pSl lo hi ds M
  | .rev => pRev ds M
  | .len => pLen ds M
  | .abs => pAbs ds M
  | .int => pInt ds M
  | .repr => pRepr ds M
  | .sum => pSum ds M
  | .all => pBls (fun bs => bs.all id) ds M
  | .any => pBls (fun bs => bs.any id) ds M
  | .tuple => pTuple ds M
  | .list => pList ds M
  | .sort => pSort ds M
  | .sortK => pSortK ds M
  | .isi t => pIsi t ds M
  | .get2 => pGet2 ds M

/-- what is walked, item by item -/
def enumD : Nat → List D → List D
  | _, [] => []
  | i, d :: l => .tup [.int (i : Nat), d] :: enumD (i + 1) l
def zipD : List D → List D → List D
  | a :: l, b :: m => .tup [a, b] :: zipD l m
  | _, _ => []
def walkD (k : IK) (ds : List D) : Option (List D) := match k, ds with
  | .seq, [.tup l] => some l
  | .seq, [.lst l] => some l
  | .range1, [.int j] => if -(2 ^ 62) ≤ j ∧ j < 2 ^ 62 then some ((List.range j.toNat).map fun (i : Nat) => .int (i : Nat)) else none
  | .range2, [.int i, .int j] => if -(2 ^ 62) ≤ i ∧ i < 2 ^ 62 ∧ -(2 ^ 62) ≤ j ∧ j < 2 ^ 62 then some ((List.range (j - i).toNat).map fun (m : Nat) => .int (i + (m : Nat))) else none
  | .enum, [.tup l] => some (enumD 0 l)
  | .enum, [.lst l] => some (enumD 0 l)
  | .zip, [.tup a, .tup b] => some (zipD a b)
  | .zip, [.lst a, .lst b] => some (zipD a b)
  | .zip, [.tup a, .lst b] => some (zipD a b)
  | .zip, [.lst a, .tup b] => some (zipD a b)
  | _, _ => none

/-! ### targets -/
mutual
def bindT : Tg → D → Env → Option Env
  | .n i, d, ρ => some (ρ.set i (.val d))
  | .t ts, d, ρ => match seqOf d with | some ds => bindTs ts ds ρ | none => none
def bindTs : List Tg → List D → Env → Option Env
  | [], [], ρ => some ρ
  | t :: ts, d :: ds, ρ => match bindT t d ρ with | some ρ' => bindTs ts ds ρ' | none => none
  | _, _, _ => none
end
def wipeE (ρ : Env) : List Nat → Env
  | [] => ρ
  | v :: vs => (wipeE ρ vs).set v .no

/-! ### expressions -/
structure Cf where
  call : Nat → List D → Store → RE
  fuel : Nat

/-- one turn of a comprehension: nothing, or an item more -/
def loopC (f : D → Store → Option (Option D × Store)) : List D → Store → RL
  | [], M => .ok [] M
  | d :: ds, M => match f d M with
    | some (none, M1) => loopC f ds M1
    | some (some v, M1) => (loopC f ds M1).bdL fun vs M2 => .ok (v :: vs) M2
    | none => .no

section
variable (cf : Cf)
mutual
def evE : E → Env → Store → RE
  | .c d, _, M => .ok d M
  | .g _ d, _, M => .ok d M
  | .f k, _, M => .ok (.fn k) M
  | .v i, ρ, M => match ρ[i]? with | some (.val d) => .ok d M | _ => .no
  | .ov i, ρ, M => match ρ[i]? with | some (.own d) => .ok d M | _ => .no
  | .pr p args, ρ, M => (evL args ρ M).bd fun ds M1 => prm p ds M1
  | .and a b, ρ, M => (evE a ρ M).bd fun d M1 => match d with | .bl true => evE b ρ M1 | .bl false => .ok (.bl false) M1 | _ => .no
  | .or a b, ρ, M => (evE a ρ M).bd fun d M1 => match d with | .bl false => evE b ρ M1 | .bl true => .ok (.bl true) M1 | _ => .no
  | .not a, ρ, M => (evE a ρ M).bd fun d M1 => match d with | .bl k => .ok (.bl !k) M1 | _ => .no
  | .ite c a b, ρ, M => (evE c ρ M).bd fun d M1 => match d with | .bl true => evE a ρ M1 | .bl false => evE b ρ M1 | _ => .no
  | .chn p q a b c, ρ, M => (evE a ρ M).bd fun x M1 => (evE b ρ M1).bd fun y M2 => (prm p [x, y] M2).bd fun r M3 =>
      match r with | .bl true => (evE c ρ M3).bd fun z M4 => prm q [y, z] M4 | .bl false => .ok (.bl false) M3 | _ => .no
  | .call k args, ρ, M => (evL args ρ M).bd fun ds M1 => cf.call k ds M1
  | .callV i args, ρ, M => match ρ[i]? with | some (.val (.fn k)) => (evL args ρ M).bd fun ds M1 => cf.call k ds M1 | _ => .no
  | .comp elt t k its conds own, ρ, M => (evL its ρ M).bd fun ds M1 => match walkD k ds with
    | some xs => match loopC (fun d M2 => match bindT t d (wipeE ρ own) with
        | some ρ' => match evC conds ρ' M2 with
          | some (false, M3) => some (none, M3)
          | some (true, M3) => match evE elt ρ' M3 with | .ok v M4 => some (some v, M4) | _ => none
          | none => none
        | none => none) xs M1 with
      | .ok vs M5 => if vs.length ≤ LN then .ok (.lst vs) M5 else .no
      | _ => .no
    | none => .no
def evL : List E → Env → Store → RL
  | [], _, M => .ok [] M
  | e :: es, ρ, M => (evE e ρ M).bdL fun d M1 => (evL es ρ M1).bdL fun ds M2 => .ok (d :: ds) M2
/-- the conditions of a comprehension -/
def evC : List E → Env → Store → Option (Bool × Store)
  | [], _, M => some (true, M)
  | e :: es, ρ, M => match evE e ρ M with
    | .ok (.bl true) M1 => evC es ρ M1
    | .ok (.bl false) M1 => some (false, M1)
    | _ => none
end

/-! ### statements -/
def evR : Rh → Env → Store → RL → RL
  | _, _, _, r => r
/-- a right side: the slot's new content -/
inductive RR where | ok (x : Sl) (M : Store) | ex (c : Nat) (fs : List D) (M : Store) | no
def evRh : Rh → Env → Store → RR
  | .e e, ρ, M => match evE cf e ρ M with | .ok d M1 => .ok (.val d) M1 | .ex c fs M1 => .ex c fs M1 | .no => .no
  | .nl es, ρ, M => match evL cf es ρ M with | .ok ds M1 => if ds.length ≤ LN then .ok (.own (.lst ds)) M1 else .no | .ex c fs M1 => .ex c fs M1 | .no => .no
  | .nd, _, M => .ok (.own (.dic [] [])) M
  | .nc e, ρ, M => match evE cf e ρ M with
    | .ok d M1 => match seqOf d with | some l => .ok (.own (.lst l)) M1 | none => .no
    | .ex c fs M1 => .ex c fs M1 | .no => .no
inductive RRs where | ok (xs : List Sl) (M : Store) | ex (c : Nat) (fs : List D) (M : Store) | no
def evRhs : List Rh → Env → Store → RRs
  | [], _, M => .ok [] M
  | r :: l, ρ, M => match evRh cf r ρ M with
    | .ok x M1 => match evRhs l ρ M1 with
      | .ok xs M2 => .ok (x :: xs) M2
      | .ex c fs M2 => .ex c fs M2
      | .no => .no
    | .ex c fs M1 => .ex c fs M1
    | .no => .no
def setsE : Env → List Nat → List Sl → Env
  | ρ, i :: is, x :: xs => setsE (ρ.set i x) is xs
  | ρ, _, _ => ρ
/-- a op= b, whole numbers -/
def augI : Pr → D → D → Option D
  | .add, .int i, .int j => some (.int (i + j))
  | .sub, .int i, .int j => some (.int (i - j))
  | _, _, _ => none

def loopF (f : D → Env → Store → RS) : List D → Env → Store → RS
  | [], ρ, M => .nx ρ M
  | d :: ds, ρ, M => match f d ρ M with
    | .nx ρ' M' => loopF f ds ρ' M'
    | .ct ρ' M' => loopF f ds ρ' M'
    | .bk ρ' M' => .nx ρ' M'
    | r => r
def loopW (c : Env → Store → RE) (f : Env → Store → RS) : Nat → Env → Store → RS
  | 0, _, _ => .no
  | n + 1, ρ, M => (c ρ M).bdS ρ fun d M1 => match d with
    | .bl false => .nx ρ M1
    | .bl true => match f ρ M1 with
      | .nx ρ' M' => loopW c f n ρ' M'
      | .ct ρ' M' => loopW c f n ρ' M'
      | .bk ρ' M' => .nx ρ' M'
      | r => r
    | _ => .no

/-- x[k] = v in a container of one's own, or of the store -/
def putD (c k v : D) : Option D := match c, k with
  | .lst l, .int i => (L2.ixN l.length i).map fun j => .lst (l.set j v)
  | .dic ks vs, d => match keyOf d, keysOf ks with | some a, some as => if ks.length < LN then let r := dPut a d v as ks vs; some (.dic r.1 r.2) else none | _, _ => none
  | _, _ => none

mutual
def evS : S → Env → Store → RS
  | .asg t e, ρ, M => (evE cf e ρ M).bdS ρ fun d M1 => match bindT t d ρ with | some ρ' => .nx ρ' M1 | none => .no
  | .par l rs, ρ, M => match evRhs cf rs ρ M with
    | .ok xs M1 => .nx (setsE ρ l xs) M1
    | .ex c fs M1 => .ex c fs ρ M1
    | .no => .no
  | .frz i, ρ, M => match ρ[i]? with | some (.own d) => .nx (ρ.set i (.val d)) M | _ => .no
  | .stop, _, _ => .no
  | .app i e, ρ, M => match ρ[i]? with
    | some (.own (.lst l)) => (evE cf e ρ M).bdS ρ fun d M1 => if l.length < LN then .nx (ρ.set i (.own (.lst (l ++ [d])))) M1 else .no
    | _ => .no
  | .ext i e, ρ, M => (evE cf e ρ M).bdS ρ fun d M1 => match ρ[i]?, d with
    | some (.own (.lst l)), .lst m => if l.length + m.length ≤ LN then .nx (ρ.set i (.own (.lst (l ++ m)))) M1 else .no
    | _, _ => .no
  | .ins i k e, ρ, M => (evE cf k ρ M).bdS ρ fun x M1 => (evE cf e ρ M1).bdS ρ fun d M2 => match ρ[i]?, x with
    | some (.own (.lst l)), .int j => if l.length < LN ∧ 0 ≤ j ∧ j < 2 ^ 63 then .nx (ρ.set i (.own (.lst (l.take j.toNat ++ d :: l.drop j.toNat)))) M2 else .no
    | _, _ => .no
  | .oset i k e, ρ, M => (evE cf e ρ M).bdS ρ fun d M1 => match ρ[i]? with
    | some (.own c) => (evE cf k ρ M1).bdS ρ fun x M2 => match putD c x d with | some c' => .nx (ρ.set i (.own c')) M2 | none => .no
    | _ => .no
  | .oswp i k1 k2 e1 e2, ρ, M => (evE cf e1 ρ M).bdS ρ fun d1 M1 => (evE cf e2 ρ M1).bdS ρ fun d2 M2 => match ρ[i]? with
    | some (.own c) => (evE cf k1 ρ M2).bdS ρ fun x1 M3 => match putD c x1 d1 with
      | some c' => (evE cf k2 (ρ.set i (.own c')) M3).bdS (ρ.set i (.own c')) fun x2 M4 => match putD c' x2 d2 with
        | some c'' => .nx (ρ.set i (.own c'')) M4
        | none => .no
      | none => .no
    | _ => .no
  | .cset o k e, ρ, M => (evE cf e ρ M).bdS ρ fun d M1 => (evE cf o ρ M1).bdS ρ fun q M2 => (evE cf k ρ M2).bdS ρ fun x M3 => match q with
    | .obj j => match M3[j]? with
      | some c => match putD c x d with | some c' => .nx ρ (M3.set j c') | none => .no
      | none => .no
    | _ => .no
  | .caug o k p e, ρ, M => (evE cf o ρ M).bdS ρ fun q M1 => (evE cf k ρ M1).bdS ρ fun x M2 => match q, x with
    | .obj j, .int i => match M2[j]? with
      | some (.lst l) => match L2.atI l i with
        | some y => (evE cf e ρ M2).bdS ρ fun z M4 => match augI p y z with
          | some d => match M4[j]? with
            | some c => match putD c (.int i) d with | some c' => .nx ρ (M4.set j c') | none => .no
            | none => .no
          | none => .no
        | none => .no
      | _ => .no
    | _, _ => .no
  | .aug i p e, ρ, M => match ρ[i]? with
    | some (.val d) => (evE cf e ρ M).bdS ρ fun x M1 => match augI p d x with | some r => .nx (ρ.set i (.val r)) M1 | none => .no
    | _ => .no
  | .ex e, ρ, M => (evE cf e ρ M).bdS ρ fun _ M1 => .nx ρ M1
  | .ret e, ρ, M => (evE cf e ρ M).bdS ρ fun d M1 => .rt d M1
  | .ret0, _, M => .rt .non M
  | .retO i, ρ, M => match ρ[i]? with | some (.own d) => .rt d M | _ => .no
  | .ite c a b, ρ, M => (evE cf c ρ M).bdS ρ fun d M1 => match d with | .bl true => evB a ρ M1 | .bl false => evB b ρ M1 | _ => .no
  | .whl c a, ρ, M => loopW (fun ρ' M' => evE cf c ρ' M') (fun ρ' M' => evB a ρ' M') cf.fuel ρ M
  | .for t k its a, ρ, M => (evL cf its ρ M).bdS ρ fun ds M1 => match walkD k ds with
    | some xs => loopF (fun d ρ' M' => match bindT t d ρ' with | some ρ2 => evB a ρ2 M' | none => .no) xs ρ M1
    | none => .no
  | .pass, ρ, M => .nx ρ M
  | .brk, ρ, M => .bk ρ M
  | .cont, ρ, M => .ct ρ M
  | .raise c args, ρ, M => (evL cf args ρ M).bdS ρ fun ds M1 => .ex c ds ρ M1
  | .try a c nm h, ρ, M => match evB a ρ M with
    | .ex c' [] ρ' M' => if c' = c then evB h ρ' M' else .ex c' [] ρ' M'
    | .ex _ (_ :: _) _ _ => .no
    | r => r
def evB : List S → Env → Store → RS
  | [], ρ, M => .nx ρ M
  | s :: b, ρ, M => match evS s ρ M with
    | .nx ρ' M' => evB b ρ' M'
    | r => r
end
end

/-- a def: how many slots, its parameters, its body -/
structure Fd where
  many : Nat
  ps : Nat
  body : List S
abbrev Tab := List Fd

def runF (cf : Cf) (fd : Fd) (ds : List D) (M : Store) : RE :=
  if ds.length = fd.ps then
    match evB cf fd.body (ds.map .val ++ List.replicate (fd.many - fd.ps) .no) M with
    | .nx _ M' => .ok .non M'
    | .rt d M' => .ok d M'
    | .ex c fs _ M' => .ex c fs M'
    | _ => .no
  else .no
def callN (T : Tab) (w : Nat) : Nat → Nat → List D → Store → RE
  | 0, _, _, _ => .no
  | n + 1, k, ds, M => match T[k]? with | some fd => runF ⟨callN T w n, w⟩ fd ds M | none => .no
end Fx

/-! Fx2: how values lie in the heap, and what keeps them there. -/
namespace Fx
open PySem PySem.Spec PyProof.Rows L2

/-- where defs and classes stand -/
structure Ct where
  K : PySem.W.Frag
  fa : Nat → Option Addr
  ca : Nat → Option Addr

/-- a list of the written part -/
def KL (K : PySem.W.Frag) (a : Addr) (xs : List V) : Prop :=
  ∃ (o : Obj) (its : Array Value) (n : Nat), K.lookup a = some o ∧ o.cls = .type "list" ∧ o.dict = none ∧ o.data = .seq its n ∧ its.size ≤ sizeLine ∧ Vals xs its.toList

mutual
/-- μ: where the store's things lie; W: where containers lie that frames own; neither is a value's -/
def Rep (C : Ct) (μ W : List Addr) (H : Hp) : D → V → Prop
  | .non, v => v = .non
  | .bl b, v => v = .bl b
  | .int i, v => v = .int i
  | .str x, v => v = .str x
  | .tup l, v => ∃ a vs, v = .ref a ∧ SqT C.K H a vs ∧ Reps C μ W H l vs
  | .lst l, v => ∃ a vs, v = .ref a ∧ ((a ∉ μ ∧ a ∉ W ∧ Rd H a (.lst vs)) ∨ KL C.K a vs) ∧ Reps C μ W H l vs
  | .dic ks vs, v => ∃ a, ∃ kvs : List (Key × V), v = .ref a ∧ a ∉ μ ∧ a ∉ W ∧ H a = some (.dK kvs) ∧ keysOf ks = some (kvs.map (·.1)) ∧ Reps C μ W H vs (kvs.map (·.2))
  | .obj k, v => ∃ a, v = .ref a ∧ μ[k]? = some a
  | .fn k, v => ∃ a, v = .ref a ∧ C.fa k = some a
def Reps (C : Ct) (μ W : List Addr) (H : Hp) : List D → List V → Prop
  | [], vs => vs = []
  | d :: l, vs => ∃ v r, vs = v :: r ∧ Rep C μ W H d v ∧ Reps C μ W H l r
end

/-- a container at a, whoever may change it -/
def Con (C : Ct) (μ W : List Addr) (H : Hp) (a : Addr) : D → Prop
  | .lst l => ∃ vs, H a = some (.lst vs) ∧ Reps C μ W H l vs
  | .dic ks vs => ∃ kvs : List (Key × V), H a = some (.dK kvs) ∧ keysOf ks = some (kvs.map (·.1)) ∧ Reps C μ W H vs (kvs.map (·.2))
  | _ => False

/-- a value that is only looked at: a container may be somebody's own -/
def RepA (C : Ct) (μ W : List Addr) (H : Hp) (d : D) (v : V) : Prop :=
  Rep C μ W H d v ∨ ∃ a, v = .ref a ∧ a ∈ W ∧ Con C μ W H a d

/-- the store -/
structure Wd (C : Ct) (μ W : List Addr) (H : Hp) (M : Store) : Prop where
  len : μ.length = M.length
  nd : μ.Nodup
  cell : ∀ (k : Nat) (a : Addr) (d : D), μ[k]? = some a → M[k]? = some d → Con C μ W H a d
  dis : ∀ a ∈ W, a ∉ μ
  trk : ∀ a ∈ W, ∃ o, H a = some o

/-- from one heap to a later one; B: what may have changed besides the store's things -/
structure Ext (B : Addr → Prop) (μ W : List Addr) (H : Hp) (μ' W' : List Addr) (H' : Hp) : Prop where
  pre : ∃ l, μ' = μ ++ l
  keep : ∀ a o, H a = some o → a ∉ μ → ¬ B a → H' a = some o
  tups : ∀ a xs, H a = some (.tup xs) → H' a = some (.tup xs)
  frzs : ∀ a o u, H a = some (.frz o u) → H' a = some (.frz o u)
  newM : ∀ a ∈ μ', a ∈ μ ∨ H a = none
  newW : ∀ a ∈ W', a ∈ W ∨ H a = none
  trk : ∀ a o, H a = some o → ∃ o', H' a = some o'
abbrev NoB : Addr → Prop := fun _ => False
abbrev Sg := L2.St

section
variable {C : Ct} {B B' : Addr → Prop} {μ μ' μ2 W W' W2 : List Addr} {H H' H2 : Hp}

theorem Ext.refl : Ext B μ W H μ W H := ⟨⟨[], by simp⟩, fun _ _ h _ _ => h, fun _ _ h => h, fun _ _ _ h => h, fun _ h => .inl h, fun _ h => .inl h, fun _ o h => ⟨o, h⟩⟩
theorem Ext.mono (e : Ext B μ W H μ' W' H') (h : ∀ a, B a → B' a) : Ext B' μ W H μ' W' H' :=
  ⟨e.pre, fun a o q n nb => e.keep a o q n fun z => nb (h a z), e.tups, e.frzs, e.newM, e.newW, e.trk⟩
theorem Ext.back (e : Ext B μ W H μ' W' H') {a : Addr} (h : H' a = none) : H a = none := by
  cases q : H a with
  | none => rfl
  | some o =>
    obtain ⟨o', z⟩ := e.trk a o q
    rw [h] at z; cases z
/-- B grows by what is new -/
theorem Ext.trans (e : Ext B μ W H μ' W' H') (f : Ext B' μ' W' H' μ2 W2 H2) (hB : ∀ a, B' a → B a ∨ H a = none) : Ext B μ W H μ2 W2 H2 := by
  refine ⟨?_, fun a o q n nb => ?_, fun a xs q => f.tups a xs (e.tups a xs q), fun a o u q => f.frzs a o u (e.frzs a o u q), fun a h => ?_, fun a h => ?_, fun a o q => ?_⟩
  · obtain ⟨l, rfl⟩ := e.pre
    obtain ⟨m, rfl⟩ := f.pre
    exact ⟨l ++ m, by simp⟩
  · refine f.keep a o (e.keep a o q n nb) (fun z => ?_) fun z => ?_
    · rcases e.newM a z with y | y
      · exact n y
      · rw [q] at y; cases y
    · rcases hB a z with y | y
      · exact nb y
      · rw [q] at y; cases y
  · rcases f.newM a h with z | z
    · exact e.newM a z
    · exact .inr (e.back z)
  · rcases f.newW a h with z | z
    · exact e.newW a z
    · exact .inr (e.back z)
  · obtain ⟨o', z⟩ := e.trk a o q
    exact f.trk a o' z
theorem Ext.trans0 (e : Ext NoB μ W H μ' W' H') (f : Ext NoB μ' W' H' μ2 W2 H2) : Ext NoB μ W H μ2 W2 H2 := e.trans f fun _ z => z.elim

theorem SqT.ext (e : Ext B μ W H μ' W' H') {K : PySem.W.Frag} {a : Addr} {xs : List V} (h : SqT K H a xs) : SqT K H' a xs := by
  rcases h with (h | ⟨o, h⟩) | h
  · exact .inl (.inl (e.tups _ _ h))
  · exact .inl (.inr ⟨o, e.frzs _ _ _ h⟩)
  · exact .inr h

theorem Ext.getM (e : Ext B μ W H μ' W' H') {k : Nat} {a : Addr} (h : μ[k]? = some a) : μ'[k]? = some a := by
  obtain ⟨l, rfl⟩ := e.pre
  rw [List.getElem?_append_left (List.getElem?_eq_some_iff.mp h).1]
  exact h

/-- B may only hold what is W's -/
theorem Ext.rdL (e : Ext B μ W H μ' W' H') (hB : ∀ a, B a → a ∈ W) {a : Addr} {u : HO} (h1 : a ∉ μ) (h2 : a ∉ W) (h : Rd H a u) : a ∉ μ' ∧ a ∉ W' ∧ Rd H' a u := by
  have some_ : ∃ o, H a = some o := by
    rcases h with h | ⟨o, h⟩
    · exact ⟨_, h⟩
    · exact ⟨_, h⟩
  obtain ⟨o, ho⟩ := some_
  refine ⟨fun z => ?_, fun z => ?_, ?_⟩
  · rcases e.newM a z with y | y
    · exact h1 y
    · rw [ho] at y; cases y
  · rcases e.newW a z with y | y
    · exact h2 y
    · rw [ho] at y; cases y
  · have k := e.keep a o ho h1 fun z => h2 (hB a z)
    rcases h with h | ⟨q, h⟩
    · rw [ho] at h; cases h; exact .inl k
    · rw [ho] at h; cases h; exact .inr ⟨q, k⟩

mutual
theorem Rep.ext (e : Ext B μ W H μ' W' H') (hB : ∀ a, B a → a ∈ W) : ∀ (d : D) (v : V), Rep C μ W H d v → Rep C μ' W' H' d v
  | .non, _, h => h
  | .bl _, _, h => h
  | .int _, _, h => h
  | .str _, _, h => h
  | .tup l, _, ⟨a, vs, hv, hs, hr⟩ => ⟨a, vs, hv, SqT.ext e hs, Reps.ext e hB l vs hr⟩
  | .lst l, _, ⟨a, vs, hv, hs, hr⟩ => ⟨a, vs, hv, hs.elim (fun ⟨h1, h2, h3⟩ => .inl (e.rdL hB h1 h2 h3)) .inr, Reps.ext e hB l vs hr⟩
  | .dic ks vs, _, ⟨a, kvs, hv, h1, h2, h3, h4, hr⟩ => by
    obtain ⟨q1, q2, q3⟩ := e.rdL hB h1 h2 (.inl h3)
    refine ⟨a, kvs, hv, q1, q2, ?_, h4, Reps.ext e hB vs _ hr⟩
    exact e.keep a _ h3 h1 fun z => h2 (hB a z)
  | .obj k, _, ⟨a, hv, h⟩ => ⟨a, hv, e.getM h⟩
  | .fn _, _, h => h
theorem Reps.ext (e : Ext B μ W H μ' W' H') (hB : ∀ a, B a → a ∈ W) : ∀ (l : List D) (vs : List V), Reps C μ W H l vs → Reps C μ' W' H' l vs
  | [], _, h => h
  | d :: l, _, ⟨v, r, hv, h1, h2⟩ => ⟨v, r, hv, Rep.ext e hB d v h1, Reps.ext e hB l r h2⟩
end

theorem Reps.nil {vs : List V} : Reps C μ W H [] vs ↔ vs = [] := Iff.rfl
theorem Reps.cons {d : D} {l : List D} {v : V} {r : List V} (h1 : Rep C μ W H d v) (h2 : Reps C μ W H l r) : Reps C μ W H (d :: l) (v :: r) := ⟨v, r, rfl, h1, h2⟩
theorem Reps.len : ∀ {l : List D} {vs : List V}, Reps C μ W H l vs → vs.length = l.length
  | [], _, h => by rw [show _ = _ from h]; rfl
  | d :: l, _, ⟨v, r, hv, h1, h2⟩ => by rw [hv, List.length_cons, List.length_cons, Reps.len h2]
theorem Reps.app : ∀ {l m : List D} {vs ws : List V}, Reps C μ W H l vs → Reps C μ W H m ws → Reps C μ W H (l ++ m) (vs ++ ws)
  | [], _, _, _, h, q => by rw [show _ = _ from h]; exact q
  | d :: l, _, _, _, ⟨v, r, hv, h1, h2⟩, q => by rw [hv]; exact ⟨v, _, rfl, h1, Reps.app h2 q⟩
theorem Reps.get : ∀ {l : List D} {vs : List V} {i : Nat} {d : D}, Reps C μ W H l vs → l[i]? = some d → ∃ v, vs[i]? = some v ∧ Rep C μ W H d v
  | [], _, _, _, _, e => by simp at e
  | x :: l, _, 0, d, ⟨v, r, hv, h1, h2⟩, e => by
    have : x = d := by simpa using e
    subst this
    exact ⟨v, by rw [hv]; rfl, h1⟩
  | x :: l, _, i + 1, d, ⟨v, r, hv, h1, h2⟩, e => by
    obtain ⟨w, q1, q2⟩ := Reps.get h2 (i := i) (d := d) (by simpa using e)
    exact ⟨w, by rw [hv]; simpa using q1, q2⟩
theorem Reps.take : ∀ {l : List D} {vs : List V} (n : Nat), Reps C μ W H l vs → Reps C μ W H (l.take n) (vs.take n)
  | _, _, 0, _ => by simp [Reps]
  | [], _, n + 1, h => by rw [show _ = _ from h]; simp [Reps]
  | d :: l, _, n + 1, ⟨v, r, hv, h1, h2⟩ => by rw [hv]; exact ⟨v, _, rfl, h1, Reps.take n h2⟩
theorem Reps.drop : ∀ {l : List D} {vs : List V} (n : Nat), Reps C μ W H l vs → Reps C μ W H (l.drop n) (vs.drop n)
  | _, _, 0, h => h
  | [], _, n + 1, h => by rw [show _ = _ from h]; simp [Reps]
  | d :: l, _, n + 1, ⟨v, r, hv, h1, h2⟩ => by rw [hv]; exact Reps.drop n h2
theorem Reps.set {d : D} {v : V} (q : Rep C μ W H d v) : ∀ {l : List D} {vs : List V} (n : Nat), Reps C μ W H l vs → Reps C μ W H (l.set n d) (vs.set n v)
  | [], _, n, h => by rw [show _ = _ from h]; simp [Reps]
  | d :: l, _, 0, ⟨w, r, hv, h1, h2⟩ => by rw [hv]; exact ⟨v, r, rfl, q, h2⟩
  | d :: l, _, n + 1, ⟨w, r, hv, h1, h2⟩ => by rw [hv]; exact ⟨w, _, rfl, h1, Reps.set q n h2⟩
theorem Reps.rev : ∀ {l : List D} {vs : List V}, Reps C μ W H l vs → Reps C μ W H l.reverse vs.reverse
  | [], _, h => by rw [show _ = _ from h]; simp [Reps]
  | d :: l, _, ⟨w, r, hv, h1, h2⟩ => by
    rw [hv, List.reverse_cons, List.reverse_cons]
    exact Reps.app (Reps.rev h2) (Reps.cons h1 rfl)
theorem Reps.cut {l : List D} {vs : List V} {lo hi : Option Int} (h : Reps C μ W H l vs) : Reps C μ W H (cutD l lo hi) (cutV vs lo hi) := by
  unfold cutD cutV
  rw [h.len]
  exact Reps.take _ (Reps.drop _ h)
/-- fewer owners: what a caller sees -/
theorem Rep.lessW (hW : ∀ a ∈ W', a ∈ W) : ∀ (d : D) (v : V), Rep C μ W H d v → Rep C μ W' H d v := fun d v h => by
  have e : Ext NoB μ W H μ W' H := ⟨⟨[], by simp⟩, fun _ _ h _ _ => h, fun _ _ h => h, fun _ _ _ h => h, fun _ h => .inl h, fun a h => .inl (hW a h), fun _ o h => ⟨o, h⟩⟩
  exact Rep.ext e (fun _ z => z.elim) d v h
theorem Reps.lessW (hW : ∀ a ∈ W', a ∈ W) : ∀ (d : List D) (v : List V), Reps C μ W H d v → Reps C μ W' H d v := fun d v h => by
  have e : Ext NoB μ W H μ W' H := ⟨⟨[], by simp⟩, fun _ _ h _ _ => h, fun _ _ h => h, fun _ _ _ h => h, fun _ h => .inl h, fun a h => .inl (hW a h), fun _ o h => ⟨o, h⟩⟩
  exact Reps.ext e (fun _ z => z.elim) d v h

/-- what a container has stays so -/
theorem Con.ext (e : Ext B μ W H μ' W' H') (hB : ∀ a, B a → a ∈ W) {a : Addr} {d : D} (hk : ∀ o, H a = some o → H' a = some o) (h : Con C μ W H a d) : Con C μ' W' H' a d := by
  cases d with
  | lst l => obtain ⟨vs, h1, h2⟩ := h; exact ⟨vs, hk _ h1, Reps.ext e hB l vs h2⟩
  | dic ks vs => obtain ⟨kvs, h1, h2, h3⟩ := h; exact ⟨kvs, hk _ h1, h2, Reps.ext e hB vs _ h3⟩
  | _ => exact h.elim
theorem Con.there {a : Addr} {d : D} (h : Con C μ W H a d) : ∃ o, H a = some o ∧ (∀ xs, o ≠ .tup xs) ∧ ∀ q u, o ≠ .frz q u := by
  cases d with
  | lst l => obtain ⟨vs, h1, h2⟩ := h; exact ⟨_, h1, (fun _ z => nomatch z), (fun _ _ z => nomatch z)⟩
  | dic ks vs => obtain ⟨kvs, h1, h2, h3⟩ := h; exact ⟨_, h1, (fun _ z => nomatch z), (fun _ _ z => nomatch z)⟩
  | _ => exact h.elim

/-! ### steps of the heap -/
theorem ndix : ∀ {l : List Addr} {i j : Nat} {a : Addr}, l.Nodup → l[i]? = some a → l[j]? = some a → i = j
  | [], _, _, _, _, h, _ => by simp at h
  | x :: l, 0, 0, _, _, _, _ => rfl
  | x :: l, i + 1, 0, a, hn, h1, h2 => by
    simp at h1 h2
    subst h2
    exact ((List.nodup_cons.mp hn).1 (List.mem_of_getElem? h1)).elim
  | x :: l, 0, j + 1, a, hn, h1, h2 => by
    simp at h1 h2
    subst h1
    exact ((List.nodup_cons.mp hn).1 (List.mem_of_getElem? h2)).elim
  | x :: l, i + 1, j + 1, a, hn, h1, h2 => by
    simp at h1 h2
    rw [ndix (List.nodup_cons.mp hn).2 h1 h2]
theorem trk_upd {p : Addr} {o : HO} (H : Hp) : ∀ b u, H b = some u → ∃ u', L2.upd H p o b = some u' := fun b u h => by
  by_cases e : b = p
  · subst e; exact ⟨o, upd_same⟩
  · exact ⟨u, by rw [upd_ne e]; exact h⟩
/-- a new thing that nobody owns -/
theorem Ext.fresh {p : Addr} {o : HO} (hp : H p = none) : Ext B μ W H μ W (L2.upd H p o) :=
  ⟨⟨[], by simp⟩, fun a u h _ _ => by rw [upd_ne (ne_of_none h hp)]; exact h, fun a u h => by rw [upd_ne (ne_of_none h hp)]; exact h, fun a q u h => by rw [upd_ne (ne_of_none h hp)]; exact h, fun _ h => .inl h, fun _ h => .inl h, trk_upd H⟩
/-- .. that a frame owns -/
theorem Ext.freshW {p : Addr} {o : HO} (hp : H p = none) : Ext B μ W H μ (p :: W) (L2.upd H p o) :=
  ⟨⟨[], by simp⟩, fun a u h _ _ => by rw [upd_ne (ne_of_none h hp)]; exact h, fun a u h => by rw [upd_ne (ne_of_none h hp)]; exact h, fun a q u h => by rw [upd_ne (ne_of_none h hp)]; exact h, fun _ h => .inl h,
    fun a h => (List.mem_cons.mp h).elim (fun e => .inr (e ▸ hp)) .inl, trk_upd H⟩
/-- .. of the store -/
theorem Ext.freshM {p : Addr} {o : HO} (hp : H p = none) : Ext B μ W H (μ ++ [p]) W (L2.upd H p o) :=
  ⟨⟨[p], rfl⟩, fun a u h _ _ => by rw [upd_ne (ne_of_none h hp)]; exact h, fun a u h => by rw [upd_ne (ne_of_none h hp)]; exact h, fun a q u h => by rw [upd_ne (ne_of_none h hp)]; exact h,
    fun a h => (List.mem_append.mp h).elim .inl fun z => .inr (by rw [List.mem_singleton.mp z]; exact hp), fun _ h => .inl h, trk_upd H⟩
/-- a container that may be changed is changed -/
theorem Ext.put {p : Addr} {o u : HO} (hp : H p = some o) (ht : ∀ xs, o ≠ .tup xs) (hf : ∀ q u, o ≠ .frz q u) (hb : p ∈ μ ∨ B p) : Ext B μ W H μ W (L2.upd H p u) :=
  ⟨⟨[], by simp⟩, fun a w h n nb => by
      by_cases e : a = p
      · subst e; exact (hb.elim n nb).elim
      · rw [upd_ne e]; exact h, fun a xs h => by
      by_cases e : a = p
      · subst e; rw [hp] at h; cases h; exact (ht xs rfl).elim
      · rw [upd_ne e]; exact h, fun a q w h => by
      by_cases e : a = p
      · subst e; rw [hp] at h; cases h; exact (hf q w rfl).elim
      · rw [upd_ne e]; exact h, fun _ h => .inl h, fun _ h => .inl h, trk_upd H⟩

variable {M : Store}
/-- anything new that is not the store's -/
theorem Wd.keepAll (w : Wd C μ W H M) (e : Ext NoB μ W H μ W' H') (hk : ∀ a o, H a = some o → H' a = some o) (hW : ∀ a ∈ W', a ∉ μ ∧ ∃ o, H' a = some o) : Wd C μ W' H' M :=
  ⟨w.len, w.nd, fun k a d h1 h2 => (w.cell k a d h1 h2).ext e (fun _ z => z.elim) (hk a), fun a h => (hW a h).1, fun a h => (hW a h).2⟩
theorem Wd.notM (w : Wd C μ W H M) {p : Addr} (hp : H p = none) : p ∉ μ := fun z => by
  obtain ⟨k, hk⟩ := List.getElem?_of_mem z
  have hl : k < M.length := by rw [← w.len]; exact (List.getElem?_eq_some_iff.mp hk).1
  obtain ⟨o, h, _⟩ := (w.cell k p _ hk (List.getElem?_eq_getElem hl)).there
  rw [hp] at h; cases h
theorem Wd.notW (w : Wd C μ W H M) {p : Addr} (hp : H p = none) : p ∉ W := fun z => by
  obtain ⟨o, h⟩ := w.trk p z
  rw [hp] at h; cases h
theorem Wd.fresh {p : Addr} {o : HO} (w : Wd C μ W H M) (hp : H p = none) : Wd C μ W (L2.upd H p o) M :=
  w.keepAll (Ext.fresh hp) (fun a u h => by rw [upd_ne (ne_of_none h hp)]; exact h) fun a h => ⟨w.dis a h, by
    obtain ⟨u, q⟩ := w.trk a h
    exact ⟨u, by rw [upd_ne (ne_of_none q hp)]; exact q⟩⟩
theorem Wd.freshW {p : Addr} {o : HO} (w : Wd C μ W H M) (hp : H p = none) : Wd C μ (p :: W) (L2.upd H p o) M :=
  w.keepAll (Ext.freshW hp) (fun a u h => by rw [upd_ne (ne_of_none h hp)]; exact h) fun a h => by
    rcases List.mem_cons.mp h with e | h
    · subst e; exact ⟨w.notM hp, _, upd_same⟩
    · refine ⟨w.dis a h, ?_⟩
      obtain ⟨u, q⟩ := w.trk a h
      exact ⟨u, by rw [upd_ne (ne_of_none q hp)]; exact q⟩
/-- owners gone -/
theorem Wd.lessW (w : Wd C μ W H M) (hW : ∀ a ∈ W', a ∈ W) : Wd C μ W' H M :=
  w.keepAll ⟨⟨[], by simp⟩, fun _ _ h _ _ => h, fun _ _ h => h, fun _ _ _ h => h, fun _ h => .inl h, fun a h => .inl (hW a h), fun _ o h => ⟨o, h⟩⟩ (fun _ _ h => h) fun a h => ⟨w.dis a (hW a h), w.trk a (hW a h)⟩
/-- a container more in the store -/
theorem Wd.freshM {p : Addr} {o : HO} {d : D} (w : Wd C μ W H M) (hp : H p = none) (h : Con C (μ ++ [p]) W (L2.upd H p o) p d) : Wd C (μ ++ [p]) W (L2.upd H p o) (M ++ [d]) := by
  have e : Ext NoB μ W H (μ ++ [p]) W (L2.upd H p o) := Ext.freshM hp
  refine ⟨by simp [w.len], ?_, fun k a d' h1 h2 => ?_, fun a ha z => ?_, fun a h => ?_⟩
  · rw [List.nodup_append]
    refine ⟨w.nd, by simp, fun a ha b hb z => ?_⟩
    rw [List.mem_singleton.mp hb] at z
    subst z
    exact w.notM hp ha
  · by_cases hk : k < μ.length
    · rw [List.getElem?_append_left hk] at h1
      rw [List.getElem?_append_left (by rw [← w.len]; exact hk)] at h2
      exact (w.cell k a d' h1 h2).ext e (fun _ z => z.elim) fun u q => by rw [upd_ne (ne_of_none q hp)]; exact q
    · have ek : k = μ.length := by
        have := (List.getElem?_eq_some_iff.mp h1).1
        rw [List.length_append] at this
        simp at this
        omega
      subst ek
      rw [List.getElem?_append_right (Nat.le_refl _)] at h1
      rw [w.len, List.getElem?_append_right (Nat.le_refl _)] at h2
      simp at h1 h2
      subst h1 h2
      exact h
  · rcases List.mem_append.mp z with z | z
    · exact w.dis a ha z
    · rw [List.mem_singleton.mp z] at ha; exact w.notW hp ha
  · obtain ⟨u, q⟩ := w.trk a h
    exact ⟨u, by rw [upd_ne (ne_of_none q hp)]; exact q⟩
/-- a container of the store gets another content -/
theorem Wd.putM {k : Nat} {p : Addr} {u : HO} {d : D} (w : Wd C μ W H M) (hk : μ[k]? = some p) (h : Con C μ W (L2.upd H p u) p d) : Wd C μ W (L2.upd H p u) (M.set k d) ∧ Ext B μ W H μ W (L2.upd H p u) := by
  have hl : k < M.length := by rw [← w.len]; exact (List.getElem?_eq_some_iff.mp hk).1
  obtain ⟨o, q1, q2, q3⟩ := (w.cell k p _ hk (List.getElem?_eq_getElem hl)).there
  have e : ∀ B, Ext B μ W H μ W (L2.upd H p u) := fun B => Ext.put q1 q2 q3 (.inl (List.mem_of_getElem? hk))
  refine ⟨⟨by simp [w.len], w.nd, fun j a d' h1 h2 => ?_, w.dis, fun a ha => ?_⟩, e B⟩
  · by_cases hj : j = k
    · subst hj
      rw [hk] at h1
      cases h1
      rw [List.getElem?_set_self hl] at h2
      cases h2
      exact h
    · rw [List.getElem?_set_ne (Ne.symm hj)] at h2
      refine (w.cell j a d' h1 h2).ext (e NoB) (fun _ z => z.elim) fun v hv => ?_
      have : a ≠ p := fun z => by
        subst z
        exact hj (ndix w.nd h1 hk)
      rw [upd_ne this]; exact hv
  · obtain ⟨v, hv⟩ := w.trk a ha
    exact trk_upd H a v hv
/-- a container that a frame owns gets another content -/
theorem Wd.putW {p : Addr} {u : HO} (w : Wd C μ W H M) (hp : p ∈ W) (e : Ext (fun a => a = p) μ W H μ W (L2.upd H p u)) : Wd C μ W (L2.upd H p u) M := by
  refine ⟨w.len, w.nd, fun k a d h1 h2 => (w.cell k a d h1 h2).ext e (fun a z => by rw [z]; exact hp) fun o ho => ?_, w.dis, fun a ha => ?_⟩
  · have : a ≠ p := fun z => by
      subst z
      exact w.dis a hp (List.mem_of_getElem? h1)
    rw [upd_ne this]; exact ho
  · obtain ⟨v, hv⟩ := w.trk a ha
    exact trk_upd H a v hv
end

/-! ### a frame's slots -/
structure EnvR (C : Ct) (μ W : List Addr) (H : Hp) (Wo : List Addr) (ρ : Env) (σ : Sg) : Prop where
  len : ρ.length = σ.length
  val : ∀ (i : Nat) (d : D), ρ[i]? = some (Sl.val d) → ∃ v, σ[i]? = some (some v) ∧ Rep C μ W H d v
  own : ∀ (i : Nat) (d : D), ρ[i]? = some (Sl.own d) → ∃ a, σ[i]? = some (some (V.ref a)) ∧ a ∈ W ∧ a ∉ Wo ∧ Con C μ W H a d
  dist : ∀ (i j : Nat) (d d' : D) (a : Addr), ρ[i]? = some (Sl.own d) → ρ[j]? = some (Sl.own d') → σ[i]? = some (some (V.ref a)) → σ[j]? = some (some (V.ref a)) → i = j
  sub : ∀ a ∈ Wo, a ∈ W

section
variable {C : Ct} {B : Addr → Prop} {μ μ' W W' Wo : List Addr} {H H' : Hp} {ρ : Env} {σ : Sg}
theorem EnvR.ext (h : EnvR C μ W H Wo ρ σ) (e : Ext B μ W H μ' W' H') (hB : ∀ a, B a → a ∈ W) (dis : ∀ a ∈ W, a ∉ μ) (hW : ∀ a ∈ W, a ∈ W') (hk : ∀ (i : Nat) (d : D) (a : Addr), ρ[i]? = some (Sl.own d) → σ[i]? = some (some (V.ref a)) → ¬ B a) : EnvR C μ' W' H' Wo ρ σ := by
  refine ⟨h.len, fun i d q => ?_, fun i d q => ?_, h.dist, fun a z => hW a (h.sub a z)⟩
  · obtain ⟨v, q1, q2⟩ := h.val i d q
    exact ⟨v, q1, q2.ext e hB⟩
  · obtain ⟨a, q1, q2, q3, q4⟩ := h.own i d q
    exact ⟨a, q1, hW a q2, q3, q4.ext e hB fun o ho => e.keep a o ho (dis a q2) (hk i d a q q1)⟩
theorem EnvR.ext0 (h : EnvR C μ W H Wo ρ σ) (e : Ext NoB μ W H μ' W H') (dis : ∀ a ∈ W, a ∉ μ) : EnvR C μ' W H' Wo ρ σ :=
  h.ext e (fun _ z => z.elim) dis (fun _ z => z) fun _ _ _ _ _ z => z
theorem EnvR.setV (h : EnvR C μ W H Wo ρ σ) {i : Nat} {d : D} {v : V} (r : Rep C μ W H d v) : EnvR C μ W H Wo (ρ.set i (Sl.val d)) (σ.set i (some v)) := by
  refine ⟨by simp [h.len], fun j d' q => ?_, fun j d' q => ?_, fun j k d1 d2 a q1 q2 q3 q4 => ?_, h.sub⟩
  · by_cases hj : j = i
    · subst hj
      have hl := (List.getElem?_eq_some_iff.mp q).1
      rw [List.length_set] at hl
      rw [List.getElem?_set_self hl] at q
      cases q
      exact ⟨v, List.getElem?_set_self (h.len ▸ hl), r⟩
    · rw [List.getElem?_set_ne (Ne.symm hj)] at q ⊢
      exact h.val j d' q
  · by_cases hj : j = i
    · subst hj
      have hl := (List.getElem?_eq_some_iff.mp q).1
      rw [List.length_set] at hl
      rw [List.getElem?_set_self hl] at q
      cases q
    · rw [List.getElem?_set_ne (Ne.symm hj)] at q ⊢
      exact h.own j d' q
  · have ne : ∀ (j : Nat) (d' : D), (ρ.set i (Sl.val d))[j]? = some (Sl.own d') → j ≠ i := fun j d' q z => by
      subst z
      have hl := (List.getElem?_eq_some_iff.mp q).1
      rw [List.length_set] at hl
      rw [List.getElem?_set_self hl] at q
      cases q
    have n1 := ne j d1 q1
    have n2 := ne k d2 q2
    rw [List.getElem?_set_ne (Ne.symm n1)] at q1 q3
    rw [List.getElem?_set_ne (Ne.symm n2)] at q2 q4
    exact h.dist j k d1 d2 a q1 q2 q3 q4
theorem EnvR.setN (h : EnvR C μ W H Wo ρ σ) {i : Nat} : EnvR C μ W H Wo (ρ.set i Sl.no) (σ.set i none) := by
  have ne : ∀ (j : Nat) (x : Sl), x ≠ Sl.no → (ρ.set i Sl.no)[j]? = some x → j ≠ i := fun j x hx q z => by
    subst z
    have hl := (List.getElem?_eq_some_iff.mp q).1
    rw [List.length_set] at hl
    rw [List.getElem?_set_self hl] at q
    cases q
    exact hx rfl
  refine ⟨by simp [h.len], fun j d' q => ?_, fun j d' q => ?_, fun j k d1 d2 a q1 q2 q3 q4 => ?_, h.sub⟩
  · have n1 := ne j _ (by simp) q
    rw [List.getElem?_set_ne (Ne.symm n1)] at q ⊢
    exact h.val j d' q
  · have n1 := ne j _ (by simp) q
    rw [List.getElem?_set_ne (Ne.symm n1)] at q ⊢
    exact h.own j d' q
  · have n1 := ne j _ (by simp) q1
    have n2 := ne k _ (by simp) q2
    rw [List.getElem?_set_ne (Ne.symm n1)] at q1 q3
    rw [List.getElem?_set_ne (Ne.symm n2)] at q2 q4
    exact h.dist j k d1 d2 a q1 q2 q3 q4
theorem EnvR.wipe (h : EnvR C μ W H Wo ρ σ) : ∀ l : List Nat, EnvR C μ W H Wo (wipeE ρ l) (L2.wipe σ l)
  | [] => h
  | v :: vs => by
    unfold wipeE L2.wipe
    exact (EnvR.wipe h vs).setN
/-- a slot gets a container of its own, at p, which no other slot has -/
theorem EnvR.setO (h : EnvR C μ W H Wo ρ σ) {i : Nat} {d : D} {p : Addr} (hp : p ∈ W) (hpo : p ∉ Wo) (hc : Con C μ W H p d)
    (hd : ∀ (j : Nat) (d' : D), j ≠ i → ρ[j]? = some (Sl.own d') → σ[j]? ≠ some (some (V.ref p))) : EnvR C μ W H Wo (ρ.set i (Sl.own d)) (σ.set i (some (V.ref p))) := by
  refine ⟨by simp [h.len], fun j d' q => ?_, fun j d' q => ?_, fun j k d1 d2 a q1 q2 q3 q4 => ?_, h.sub⟩
  · by_cases hj : j = i
    · subst hj
      have hl := (List.getElem?_eq_some_iff.mp q).1
      rw [List.length_set] at hl
      rw [List.getElem?_set_self hl] at q
      cases q
    · rw [List.getElem?_set_ne (Ne.symm hj)] at q ⊢
      exact h.val j d' q
  · by_cases hj : j = i
    · subst hj
      have hl := (List.getElem?_eq_some_iff.mp q).1
      rw [List.length_set] at hl
      rw [List.getElem?_set_self hl] at q
      cases q
      exact ⟨p, List.getElem?_set_self (h.len ▸ hl), hp, hpo, hc⟩
    · rw [List.getElem?_set_ne (Ne.symm hj)] at q ⊢
      exact h.own j d' q
  · have at_ : ∀ x, (σ.set i (some (V.ref p)))[i]? = some x → x = some (V.ref p) := fun x q => by
      have hl := (List.getElem?_eq_some_iff.mp q).1
      rw [List.length_set] at hl
      rw [List.getElem?_set_self hl] at q
      cases q; rfl
    by_cases hj : j = i
    · by_cases hk : k = i
      · rw [hj, hk]
      · subst hj
        have e := at_ _ q3
        cases e
        rw [List.getElem?_set_ne (Ne.symm hk)] at q2 q4
        exact (hd k d2 hk q2 q4).elim
    · by_cases hk : k = i
      · subst hk
        have e := at_ _ q4
        cases e
        rw [List.getElem?_set_ne (Ne.symm hj)] at q1 q3
        exact (hd j d1 hj q1 q3).elim
      · rw [List.getElem?_set_ne (Ne.symm hj)] at q1 q3
        rw [List.getElem?_set_ne (Ne.symm hk)] at q2 q4
        exact h.dist j k d1 d2 a q1 q2 q3 q4
end
end Fx

/-! Fx3: the built-ins, on values. -/
namespace Fx
open PySem PySem.Spec PyProof.Rows L2

def ArgsR (C : Ct) (μ W : List Addr) (H : Hp) : List D → List V → Prop
  | [], vs => vs = []
  | d :: l, vs => ∃ v r, vs = v :: r ∧ RepA C μ W H d v ∧ Reps C μ W H l r

/-- what a built-in asks, and gives -/
def rPr (C : Ct) (p : Pr) (vs : List V) (H : Hp) (Q : VK) : Prop :=
  ∃ (μ W : List Addr) (ds : List D) (M : Store) (d : D) (M' : Store), ArgsR C μ W H ds vs ∧ Wd C μ W H M ∧ prm p ds M = .ok d M' ∧
    ∀ μ' H' v, Ext NoB μ W H μ' W H' → Wd C μ' W H' M' → Rep C μ' W H' d v → Q v H'
abbrev rPr1 (C : Ct) (p : Pr) : V → Hp → VK → Prop := fun x H Q => rPr C p [x] H Q
abbrev rPr2 (C : Ct) (p : Pr) : R2 := fun x y H Q => rPr C p [x, y] H Q

section
variable {C : Ct} {μ W : List Addr} {H : Hp} {M M' : Store} {d : D} {v : V} {Q : VK}

theorem RE.ofO_ok {o : Option D} (h : RE.ofO o M = .ok d M') : o = some d ∧ M' = M := by
  cases o with
  | none => cases h
  | some x => cases h; exact ⟨rfl, rfl⟩

theorem RepA.lst {l : List D} (h : RepA C μ W H (.lst l) v) : ∃ a vs, v = .ref a ∧ SqL C.K H a vs ∧ Reps C μ W H l vs := by
  rcases h with ⟨a, vs, e, h, r⟩ | ⟨a, e, _, vs, h, r⟩
  · exact ⟨a, vs, e, h.elim (fun z => .inl z.2.2) .inr, r⟩
  · exact ⟨a, vs, e, .inl (.inl h), r⟩
theorem RepA.dic {ks vs : List D} (h : RepA C μ W H (.dic ks vs) v) : ∃ a, ∃ kvs : List (Key × V), v = .ref a ∧ H a = some (.dK kvs) ∧ keysOf ks = some (kvs.map (·.1)) ∧ Reps C μ W H vs (kvs.map (·.2)) := by
  rcases h with ⟨a, kvs, e, _, _, h, k, r⟩ | ⟨a, e, _, kvs, h, k, r⟩
  · exact ⟨a, kvs, e, h, k, r⟩
  · exact ⟨a, kvs, e, h, k, r⟩
theorem RepA.tup {l : List D} (h : RepA C μ W H (.tup l) v) : ∃ a vs, v = .ref a ∧ SqT C.K H a vs ∧ Reps C μ W H l vs := by
  rcases h with h | ⟨a, e, _, h⟩
  · exact h
  · exact h.elim
theorem RepA.int {i : Int} (h : RepA C μ W H (.int i) v) : v = .int i := by
  rcases h with h | ⟨a, e, _, h⟩
  · exact h
  · exact h.elim
theorem RepA.bl {i : Bool} (h : RepA C μ W H (.bl i) v) : v = .bl i := by
  rcases h with h | ⟨a, e, _, h⟩
  · exact h
  · exact h.elim
theorem RepA.str {i : Str} (h : RepA C μ W H (.str i) v) : v = .str i := by
  rcases h with h | ⟨a, e, _, h⟩
  · exact h
  · exact h.elim
theorem RepA.non (h : RepA C μ W H .non v) : v = .non := by
  rcases h with h | ⟨a, e, _, h⟩
  · exact h
  · exact h.elim

theorem args1 {ds : List D} (h : ArgsR C μ W H ds [v]) : ∃ d, ds = [d] ∧ RepA C μ W H d v := by
  cases ds with
  | nil => cases h
  | cons d l =>
    obtain ⟨x, r, e, h1, h2⟩ := h
    cases e
    cases l with
    | nil => exact ⟨d, rfl, h1⟩
    | cons d' l' =>
      obtain ⟨_, _, e, _⟩ := h2
      cases e
theorem args2 {ds : List D} {u : V} (h : ArgsR C μ W H ds [v, u]) : ∃ d e, ds = [d, e] ∧ RepA C μ W H d v ∧ Rep C μ W H e u := by
  cases ds with
  | nil => cases h
  | cons d l =>
    obtain ⟨x, r, e, h1, h2⟩ := h
    cases e
    cases l with
    | nil => cases h2
    | cons d' l' =>
      obtain ⟨y, r', e, h3, h4⟩ := h2
      cases e
      cases l' with
      | nil => exact ⟨d, d', rfl, h1, h3⟩
      | cons d2 l2 =>
        obtain ⟨_, _, e, _⟩ := h4
        cases e

/-- an answer that changes nothing -/
theorem give (k : ∀ μ' H' v, Ext NoB μ W H μ' W H' → Wd C μ' W H' M → Rep C μ' W H' d v → Q v H') (w : Wd C μ W H M) (r : Rep C μ W H d v) : Q v H := k μ H v Ext.refl w r
theorem giveT {l : List D} {vs : List V} (k : ∀ μ' H' v, Ext NoB μ W H μ' W H' → Wd C μ' W H' M → Rep C μ' W H' (.tup l) v → Q v H') (w : Wd C μ W H M) (r : Reps C μ W H l vs) {p : Addr} (hp : H p = none) :
    Q (.ref p) (L2.upd H p (.tup vs)) :=
  k μ _ _ (Ext.fresh hp) (w.fresh hp) ⟨p, vs, rfl, .inl (.inl upd_same), Reps.ext (B := NoB) (Ext.fresh hp) (fun _ z => z.elim) l vs r⟩
theorem repL {l : List D} {vs : List V} (w : Wd C μ W H M) (r : Reps C μ W H l vs) {p : Addr} (hp : H p = none) : Rep C μ W (L2.upd H p (.lst vs)) (.lst l) (.ref p) :=
  ⟨p, vs, rfl, .inl ⟨w.notM hp, w.notW hp, .inl upd_same⟩, Reps.ext (B := NoB) (Ext.fresh hp) (fun _ z => z.elim) l vs r⟩
theorem giveL {l : List D} {vs : List V} (k : ∀ μ' H' v, Ext NoB μ W H μ' W H' → Wd C μ' W H' M → Rep C μ' W H' (.lst l) v → Q v H') (w : Wd C μ W H M) (r : Reps C μ W H l vs) {p : Addr} (hp : H p = none) :
    Q (.ref p) (L2.upd H p (.lst vs)) :=
  k μ _ _ (Ext.fresh hp) (w.fresh hp) (repL w r hp)
theorem lenLN {n : Nat} (h : n ≤ LN) : n ≤ sizeLine := by rw [sizeLine_eq]; exact h
end

/-! ### operators -/
section
variable {X : Cx} {C : Ct}
/-- xs + ys, whatever known lists -/
theorem op_catL : OpR X (binaryOp .Add) (fun x y H Q => ∃ a b xs ys, x = .ref a ∧ y = .ref b ∧ SqL X.K H a xs ∧ SqL X.K H b ys ∧ xs.length + ys.length ≤ sizeLine ∧ ∀ p, H p = none → Q (.ref p) (L2.upd H p (.lst (xs ++ ys)))) := by
  intro pins s σ H x y v u Q I rx ry ⟨a, b, xs, ys, ex, ey, ha, hb, hz, q⟩
  subst ex ey
  cases rx; cases ry
  obtain ⟨its, r1, p1, _⟩ := I.list ha
  obtain ⟨jts, r2, p2, _⟩ := I.list hb
  obtain ⟨⟨c1, dd1, dt1, sl1⟩, k1, g1, g2, g3, g4⟩ := p1
  obtain ⟨⟨c2, dd2, dt2, sl2⟩, k2, g5, g6, g7, g8⟩ := p2
  simp only at g2 g3 g4 g6 g7 g8
  subst g2 g3 g4 g6 g7 g8
  have e : its.toArray ++ jts.toArray = (its ++ jts).toArray := by simp
  have l1 := r1.length
  have l2 := r2.length
  refine concat_meets ⟨_, g1, rfl⟩ ⟨_, g5, rfl⟩ noFill_list_add seq_list_add PySem.F.slot_list_add PySem.F.entry_list_add
    (PySem.F.args_list_add_2 _ _) (list_addW a b its.toArray jts.toArray k1 k2 none none sl1 sl2 (by simp; omega)) ⟨g1, g5, ?_⟩
  rw [e]
  exact ⟨.ref _, _, I.lnew (t' := s.toks) (r1.append r2) (by rw [List.length_append]; omega), rfl, q _ I.fresh⟩
theorem o_add (hK : X.K = C.K) : OpR X (binaryOp .Add) (rPr2 C .add) := by
  intro pins s σ H x y v u Q I rx ry ⟨μ, W, ds, M, d, M', ha, w, hp, k⟩
  obtain ⟨da, db, rfl, ra, rb⟩ := args2 ha
  replace hp : pAdd [da, db] M = .ok d M' := hp
  unfold pAdd at hp
  split at hp
  · rename_i i j hd; cases hd; cases hp
    exact op_add pins s σ H x y v u Q I rx ry ⟨i, j, ra.int, rb, give k w rfl⟩
  · rename_i l m hd; cases hd
    split at hp
    · rename_i hl
      cases hp
      obtain ⟨a, vs, ea, sa, qa⟩ := ra.tup
      obtain ⟨b, ws, eb, sb, qb⟩ := rb
      rw [← hK] at sa sb
      refine op_catA pins s σ H x y v u Q I rx ry ⟨a, b, vs, ws, ea, eb, sa, sb, by rw [qa.len, qb.len]; exact lenLN hl, fun e => ?_, fun e1 e2 => ?_, fun _ _ p hp => giveT k w (qa.app qb) hp⟩
      · refine give k w ⟨b, ws, rfl, hK ▸ sb, ?_⟩
        have := qa.len
        rw [e] at this
        rw [List.eq_nil_of_length_eq_zero this.symm]
        exact qb
      · refine give k w ⟨a, vs, rfl, hK ▸ sa, ?_⟩
        have := qb.len
        rw [e2] at this
        rw [List.eq_nil_of_length_eq_zero this.symm, List.append_nil]
        exact qa
    · cases hp
  · rename_i l m hd; cases hd
    split at hp
    · rename_i hl
      cases hp
      obtain ⟨a, vs, ea, sa, qa⟩ := ra.lst
      obtain ⟨b, ws, eb, sb, qb⟩ := (show RepA C μ W H (.lst m) y from .inl rb).lst
      rw [← hK] at sa sb
      exact op_catL pins s σ H x y v u Q I rx ry ⟨a, b, vs, ws, ea, eb, sa, sb, by rw [qa.len, qb.len]; exact lenLN hl, fun p hp => giveL k w (qa.app qb) hp⟩
    · cases hp
  · cases hp

theorem o_ii {fv : Value → Value → Sem Value} {p : Pr} {ok : Int → Int → Bool} {f : Int → Int → D} {g : Int → Int → V} (hp : ∀ ds M, prm p ds M = pII ok f ds M)
    (hr : ∀ μ W H i j, Rep C μ W H (f i j) (g i j)) (rule : OpR X fv (fun x y H Q => ∃ i j, x = .int i ∧ y = .int j ∧ ok i j = true ∧ Q (g i j) H)) : OpR X fv (rPr2 C p) := by
  intro pins s σ H x y v u Q I rx ry ⟨μ, W, ds, M, d, M', ha, w, hq, k⟩
  obtain ⟨da, db, rfl, ra, rb⟩ := args2 ha
  rw [hp] at hq
  unfold pII at hq
  split at hq
  · rename_i i j hd; cases hd
    split at hq
    · rename_i ho
      cases hq
      exact rule pins s σ H x y v u Q I rx ry ⟨i, j, ra.int, rb, ho, give k w (hr _ _ _ _ _)⟩
    · cases hq
  · cases hq
theorem OpR.imp {f : Value → Value → Sem Value} {r r' : R2} (h : OpR X f r) (i : ∀ x y H Q, r' x y H Q → r x y H Q) : OpR X f r' :=
  fun pins s σ H x y v u Q I rx ry q => h pins s σ H x y v u Q I rx ry (i x y H Q q)
theorem o_sub : OpR X (binaryOp .Sub) (rPr2 C .sub) := o_ii (fun _ _ => rfl) (fun _ _ _ _ _ => rfl) (OpR.imp op_sub fun _ _ _ _ ⟨i, j, a, b, _, q⟩ => ⟨i, j, a, b, q⟩)
theorem o_mul : OpR X (binaryOp .Mult) (rPr2 C .mul) := o_ii (fun _ _ => rfl) (fun _ _ _ _ _ => rfl) (OpR.imp op_mul fun _ _ _ _ ⟨i, j, a, b, c, q⟩ => ⟨i, j, a, b, of_decide_eq_true c, q⟩)
theorem o_mod : OpR X (binaryOp .Mod) (rPr2 C .mod) := o_ii (fun _ _ => rfl) (fun _ _ _ _ _ => rfl) (OpR.imp op_mod fun _ _ _ _ ⟨i, j, a, b, c, q⟩ => ⟨i, j, a, b, of_decide_eq_true c, q⟩)
theorem o_fdiv : OpR X (binaryOp .FloorDiv) (rPr2 C .fdiv) := o_ii (fun _ _ => rfl) (fun _ _ _ _ _ => rfl) (OpR.imp op_fdiv fun _ _ _ _ ⟨i, j, a, b, c, q⟩ => ⟨i, j, a, b, of_decide_eq_true c, q⟩)
theorem o_pow : OpR X (binaryOp .Pow) (rPr2 C .pow) := o_ii (fun _ _ => rfl) (fun _ _ _ _ _ => rfl) (OpR.imp op_pow fun _ _ _ _ ⟨i, j, a, b, c, q⟩ => ⟨i, j, a, b, of_decide_eq_true c, q⟩)
theorem o_lt : OpR X (compareOp .Lt) (rPr2 C .lt) := o_ii (fun _ _ => rfl) (fun _ _ _ _ _ => rfl) (OpR.imp op_lt fun _ _ _ _ ⟨i, j, a, b, _, q⟩ => ⟨i, j, a, b, q⟩)
theorem o_le : OpR X (compareOp .LtE) (rPr2 C .le) := o_ii (fun _ _ => rfl) (fun _ _ _ _ _ => rfl) (OpR.imp op_le fun _ _ _ _ ⟨i, j, a, b, _, q⟩ => ⟨i, j, a, b, q⟩)
theorem o_gt : OpR X (compareOp .Gt) (rPr2 C .gt) := o_ii (fun _ _ => rfl) (fun _ _ _ _ _ => rfl) (OpR.imp op_gt fun _ _ _ _ ⟨i, j, a, b, _, q⟩ => ⟨i, j, a, b, q⟩)
theorem o_ge : OpR X (compareOp .GtE) (rPr2 C .ge) := o_ii (fun _ _ => rfl) (fun _ _ _ _ _ => rfl) (OpR.imp op_ge fun _ _ _ _ ⟨i, j, a, b, _, q⟩ => ⟨i, j, a, b, q⟩)

mutual
theorem dp_of {μ W : List Addr} {H : Hp} : ∀ (d : D) (p : PyData) (v : V), toPy d = some p → Rep C μ W H d v → Dp C.K H v p
  | .non, _, _, h, r => by cases h; cases (show _ = _ from r); exact .non
  | .bl b, _, _, h, r => by cases h; cases (show _ = _ from r); exact .bl b
  | .int b, _, _, h, r => by cases h; cases (show _ = _ from r); exact .int b
  | .str b, _, _, h, r => by cases h; cases (show _ = _ from r); exact .str b
  | .tup l, _, _, h, ⟨a, vs, e, hs, hr⟩ => by
    unfold toPy at h
    cases q : toPys l with
    | none => rw [q] at h; cases h
    | some ps =>
      rw [q] at h; cases h
      subst e
      exact .tup hs (dps_of l ps vs q hr)
  | .lst l, _, _, h, ⟨a, vs, e, hs, hr⟩ => by
    unfold toPy at h
    cases q : toPys l with
    | none => rw [q] at h; cases h
    | some ps =>
      rw [q] at h; cases h
      subst e
      exact .lst (hs.elim (fun z => .inl z.2.2) .inr) (dps_of l ps vs q hr)
  | .dic _ _, _, _, h, _ => by cases h
  | .obj _, _, _, h, _ => by cases h
  | .fn _, _, _, h, _ => by cases h
theorem dps_of {μ W : List Addr} {H : Hp} : ∀ (l : List D) (ps : List PyData) (vs : List V), toPys l = some ps → Reps C μ W H l vs → DpAll C.K H vs ps
  | [], _, _, h, r => by cases h; cases (show _ = _ from r); exact .nil
  | d :: l, _, _, h, ⟨v, r, e, h1, h2⟩ => by
    unfold toPys at h
    split at h
    · rename_i p q e1 e2
      cases h
      subst e
      exact .cons (dp_of d p v e1 h1) (dps_of l q r e2 h2)
    · cases h
end
theorem dpA_of {μ W : List Addr} {H : Hp} {d : D} {p : PyData} {v : V} (h : toPy d = some p) (r : RepA C μ W H d v) : Dp C.K H v p := by
  rcases r with r | ⟨a, e, _, r⟩
  · exact dp_of d p v h r
  · cases d with
    | lst l =>
      obtain ⟨vs, h1, h2⟩ := r
      unfold toPy at h
      cases q : toPys l with
      | none => rw [q] at h; cases h
      | some ps =>
        rw [q] at h; cases h
        subst e
        exact .lst (.inl (.inl h1)) (dps_of l ps vs q h2)
    | dic => cases h
    | _ => exact r.elim

theorem o_eqs {op : CmpOp} {p : Pr} {f : Bool → Bool} (hp : ∀ ds M, prm p ds M = pEq f ds M)
    (rule : OpR X (compareOp op) (fun x y H Q => ∃ d e, Dp X.K H x d ∧ Dp X.K H y e ∧ SeqAt.shaped d = true ∧ SeqAt.shaped e = true ∧ Q (.bl (f (PyData.eqv d e))) H))
    (rule2 : OpR X (compareOp op) (fun x y H Q => ∃ i j, x = .str i ∧ y = .str j ∧ Q (.bl (f (decide (i = j)))) H)) (hK : X.K = C.K) : OpR X (compareOp op) (rPr2 C p) := by
  intro pins s σ H x y v u Q I rx ry ⟨μ, W, ds, M, d, M', ha, w, hq, k⟩
  obtain ⟨da, db, rfl, ra, rb⟩ := args2 ha
  rw [hp] at hq
  obtain ⟨e1, e2⟩ := RE.ofO_ok hq
  subst e2
  unfold eqD at e1
  split at e1
  · rename_i i j
    cases e1
    have ra : Rep C μ W H (.str i) x := ra.elim id fun ⟨_, _, _, z⟩ => z.elim
    exact rule2 pins s σ H x y v u Q I rx ry ⟨i, j, ra, rb, give k w rfl⟩
  · unfold eqP at e1
    split at e1
    · rename_i pa pb q1 q2
      split at e1
      · rename_i sh
        cases e1
        exact rule pins s σ H x y v u Q I rx ry ⟨pa, pb, hK ▸ dpA_of q1 ra, hK ▸ dp_of db pb y q2 rb, sh.1, sh.2, give k w rfl⟩
      · cases e1
    · cases e1
theorem dec_strs {i j : Str} : decide (V.str i = V.str j) = decide (i = j) := by
  by_cases h : i = j
  · subst h; simp
  · have : ¬ V.str i = V.str j := fun e => h (by cases e; rfl)
    simp [h, this]
theorem o_eq (hu : X.A.units + 64 < cLine) (hK : X.K = C.K) : OpR X (compareOp .Eq) (rPr2 C .eq) := o_eqs (fun _ _ => rfl) (op_eqD hu) (fun pins s σ H x y v u Q I rx ry ⟨i, j, e1, e2, q⟩ => by
  subst e1 e2
  exact op_eq pins s σ H _ _ v u Q I rx ry ⟨rfl, by rw [dec_strs]; exact q⟩) hK
theorem o_ne (hu : X.A.units + 64 < cLine) (hK : X.K = C.K) : OpR X (compareOp .NotEq) (rPr2 C .ne) := o_eqs (fun _ _ => rfl) (op_neD hu) (fun pins s σ H x y v u Q I rx ry ⟨i, j, e1, e2, q⟩ => by
  subst e1 e2
  exact op_ne pins s σ H _ _ v u Q I rx ry ⟨rfl, by rw [dec_strs]; exact q⟩) hK

theorem isNon_of {μ W : List Addr} {H : Hp} {d : D} {v : V} (r : RepA C μ W H d v) : decide (v = .non) = isNon d := by
  rcases r with r | ⟨a, e, _, r⟩
  · cases d with
    | non => cases (show _ = _ from r); rfl
    | bl _ => cases (show _ = _ from r); rfl
    | int _ => cases (show _ = _ from r); rfl
    | str _ => cases (show _ = _ from r); rfl
    | tup l => obtain ⟨a, _, e, _⟩ := r; subst e; rfl
    | lst l => obtain ⟨a, _, e, _⟩ := r; subst e; rfl
    | dic ks l => obtain ⟨a, _, e, _⟩ := r; subst e; rfl
    | obj l => obtain ⟨a, e, _⟩ := r; subst e; rfl
    | fn l => obtain ⟨a, e, _⟩ := r; subst e; rfl
  · subst e
    cases d with
    | lst => rfl
    | dic => rfl
    | _ => exact r.elim
/-- x is None, x is not None: the reading of one -/
theorem n_isN {x : V} {H : Hp} {Q : VK} (h : rPr C .isN [x] H Q) : Q (.bl (decide (x = .non))) H := by
  obtain ⟨μ, W, ds, M, d, M', ha, w, hq, k⟩ := h
  obtain ⟨da, rfl, ra⟩ := args1 ha
  cases hq
  rw [isNon_of ra]
  exact give k w rfl
theorem n_notN {x : V} {H : Hp} {Q : VK} (h : rPr C .notN [x] H Q) : Q (.bl (!decide (x = .non))) H := by
  obtain ⟨μ, W, ds, M, d, M', ha, w, hq, k⟩ := h
  obtain ⟨da, rfl, ra⟩ := args1 ha
  cases hq
  rw [isNon_of ra]
  exact give k w rfl
theorem o_bb {op : CmpOp} {p : Pr} {f : Bool → Bool} (hp : ∀ ds M, prm p ds M = pBB f ds M)
    (rule : OpR X (compareOp op) (fun x y H Q => ∃ a b : Bool, x = .bl a ∧ y = .bl b ∧ Q (.bl (f (decide (a = b)))) H)) : OpR X (compareOp op) (rPr2 C p) := by
  intro pins s σ H x y v u Q I rx ry ⟨μ, W, ds, M, d, M', ha, w, hq, k⟩
  obtain ⟨da, db, rfl, ra, rb⟩ := args2 ha
  rw [hp] at hq
  unfold pBB at hq
  split at hq
  · rename_i i j hd; cases hd; cases hq
    exact rule pins s σ H x y v u Q I rx ry ⟨i, j, ra.bl, rb, give k w rfl⟩
  · cases hq
theorem o_isB : OpR X (compareOp .Is) (rPr2 C .isB) := o_bb (fun _ _ => rfl) op_isBl
theorem o_notB : OpR X (compareOp .IsNot) (rPr2 C .notB) := o_bb (fun _ _ => rfl) op_notBl
theorem u_neg : UnR X (unaryOp .USub) (rPr1 C .neg) := by
  intro pins s σ H x v Q I rx ⟨μ, W, ds, M, d, M', ha, w, hq, k⟩
  obtain ⟨da, rfl, ra⟩ := args1 ha
  replace hq : pNeg [da] M = .ok d M' := hq
  unfold pNeg at hq
  split at hq
  · rename_i i hd; cases hd; cases hq
    exact un_neg pins s σ H x v Q I rx ⟨i, ra.int, give k w rfl⟩
  · cases hq

/-! ### subscripts -/
theorem i_ix (hK : X.K = C.K) : IxR X (rPr2 C .ix) := by
  intro value slice pins s σ H x y v u Q I rx ry ⟨μ, W, ds, M, d, M', ha, w, hq, k⟩ hs
  obtain ⟨da, db, rfl, ra, rb⟩ := args2 ha
  replace hq : pIx [da, db] M = .ok d M' := hq
  unfold pIx at hq
  split at hq
  · rename_i l i hd; cases hd
    obtain ⟨e1, e2⟩ := RE.ofO_ok hq
    subst e2
    obtain ⟨a, vs, ea, sa, qa⟩ := ra.tup
    obtain ⟨j, g1, g2, g3, g4, g5⟩ := atI_get e1
    obtain ⟨z, h1, h2⟩ := qa.get g2
    refine ix_tup value slice pins s σ H x y v u Q I rx ry ⟨a, vs, i, z, ea, rb, hK ▸ sa, ?_, give k w h2⟩ hs
    unfold atI at e1 ⊢
    rw [qa.len]
    cases hn : ixN l.length i with
    | none => rw [hn] at e1; cases e1
    | some j' =>
      rw [hn] at e1
      obtain ⟨z', h3, h4⟩ := qa.get (show l[j']? = some d from e1)
      have := (ixN_seq hn).1
      rw [g1] at this
      cases this
      exact h1
  · rename_i l i hd; cases hd
    obtain ⟨e1, e2⟩ := RE.ofO_ok hq
    subst e2
    obtain ⟨a, vs, ea, sa, qa⟩ := ra.lst
    obtain ⟨j, g1, g2, g3, g4, g5⟩ := atI_get e1
    obtain ⟨z, h1, h2⟩ := qa.get g2
    refine ix_list value slice pins s σ H x y v u Q I rx ry ⟨a, vs, i, z, ea, rb, hK ▸ sa, ?_, give k w h2⟩ hs
    unfold atI at e1 ⊢
    rw [qa.len]
    cases hn : ixN l.length i with
    | none => rw [hn] at e1; cases e1
    | some j' =>
      rw [hn] at e1
      have := (ixN_seq hn).1
      rw [g1] at this
      cases this
      exact h1
  · rename_i kk i hd; cases hd
    split at hq
    · rename_i l hl
      obtain ⟨e1, e2⟩ := RE.ofO_ok hq
      subst e2
      rcases ra with ⟨a, ea, ka⟩ | ⟨a, ea, _, z⟩
      · obtain ⟨vs, sa, qa⟩ := w.cell kk a _ ka hl
        obtain ⟨j, g1, g2, g3, g4, g5⟩ := atI_get e1
        obtain ⟨z, h1, h2⟩ := qa.get g2
        refine ix_list value slice pins s σ H x y v u Q I rx ry ⟨a, vs, i, z, ea, rb, .inl (.inl sa), ?_, give k w h2⟩ hs
        unfold atI at e1 ⊢
        rw [qa.len]
        cases hn : ixN l.length i with
        | none => rw [hn] at e1; cases e1
        | some j' =>
          rw [hn] at e1
          have := (ixN_seq hn).1
          rw [g1] at this
          cases this
          exact h1
      · exact z.elim
    · cases hq
  · cases hq
end

/-! ### slices -/
def slA (l u : Option Int) : List D := (match l with | some i => [D.int i] | none => []) ++ (match u with | some i => [D.int i] | none => [])
def rSlP (C : Ct) : V → Option Int → Option Int → Hp → VK → Prop := fun x l u H Q =>
  ∃ (μ W : List Addr) (dx : D) (M : Store) (d : D) (M' : Store), RepA C μ W H dx x ∧ Wd C μ W H M ∧ prm (.sl l.isSome u.isSome) (dx :: slA l u) M = .ok d M' ∧
    ∀ μ' H' v, Ext NoB μ W H μ' W H' → Wd C μ' W H' M' → Rep C μ' W H' d v → Q v H'
theorem cut_whole {α : Type} {xs : List α} {lo hi : Option Int} (h : HT.sIx xs.length 0 lo = 0 ∧ HT.sIx xs.length xs.length hi = xs.length) :
    (xs.drop (HT.sIx xs.length 0 lo)).take (HT.sIx xs.length xs.length hi - HT.sIx xs.length 0 lo) = xs := by
  rw [h.1, h.2]
  simp
section
variable {X : Cx} {C : Ct}
theorem s_sl (hK : X.K = C.K) : SlR X (rSlP C) := by
  intro pins s σ H x v vl vu lo hi sl Q I rx hs pl pu ⟨μ, W, dx, M, d, M', ra, w, hq, k⟩
  have hq' : pSl lo.isSome hi.isSome (dx :: slA lo hi) M = .ok d M' := hq
  cases dx with
  | tup l =>
    have e : pSl lo.isSome hi.isSome (.tup l :: slA lo hi) M = .ok (.tup (cutD l lo hi)) M := by cases lo <;> cases hi <;> rfl
    rw [e] at hq'
    cases hq'
    obtain ⟨a, vs, ea, sa, qa⟩ := ra.tup
    refine sl_tupA pins s σ H x v vl vu lo hi sl Q I rx hs pl pu ⟨a, vs, ea, hK ▸ sa, fun hw => ?_, fun _ p hp => giveT k w qa.cut hp⟩
    refine give k w ⟨a, vs, rfl, sa, ?_⟩
    rw [qa.len] at hw
    unfold cutD
    rw [cut_whole hw]
    exact qa
  | lst l =>
    have e : pSl lo.isSome hi.isSome (.lst l :: slA lo hi) M = .ok (.lst (cutD l lo hi)) M := by cases lo <;> cases hi <;> rfl
    rw [e] at hq'
    cases hq'
    obtain ⟨a, vs, ea, sa, qa⟩ := ra.lst
    exact sl_list pins s σ H x v vl vu lo hi sl Q I rx hs pl pu ⟨a, vs, ea, hK ▸ sa, fun p hp => giveL k w qa.cut hp⟩
  | _ => unfold pSl at hq'; cases hq'
end

/-! ### built-ins by their names -/
section
variable {X : Cx} {C : Ct} {μ W : List Addr} {H : Hp}
theorem ints_rep : ∀ {l : List D} {ns : List Int} {vs : List V}, allInt l = some ns → Reps C μ W H l vs → vs = ns.map V.int
  | [], _, _, h, r => by cases h; exact r
  | .int i :: l, _, _, h, ⟨v, r, e, h1, h2⟩ => by
    unfold allInt at h
    cases q : allInt l with
    | none => rw [q] at h; cases h
    | some ns =>
      rw [q] at h; cases h
      cases (show _ = _ from h1)
      rw [e, ints_rep q h2]; rfl
  | .non :: _, _, _, h, _ => by cases h
  | .bl _ :: _, _, _, h, _ => by cases h
  | .str _ :: _, _, _, h, _ => by cases h
  | .tup _ :: _, _, _, h, _ => by cases h
  | .lst _ :: _, _, _, h, _ => by cases h
  | .dic _ _ :: _, _, _, h, _ => by cases h
  | .obj _ :: _, _, _, h, _ => by cases h
  | .fn _ :: _, _, _, h, _ => by cases h
theorem bls_rep : ∀ {l : List D} {ns : List Bool} {vs : List V}, allBl l = some ns → Reps C μ W H l vs → vs = ns.map V.bl
  | [], _, _, h, r => by cases h; exact r
  | .bl i :: l, _, _, h, ⟨v, r, e, h1, h2⟩ => by
    unfold allBl at h
    cases q : allBl l with
    | none => rw [q] at h; cases h
    | some ns =>
      rw [q] at h; cases h
      cases (show _ = _ from h1)
      rw [e, bls_rep q h2]; rfl
  | .non :: _, _, _, h, _ => by cases h
  | .int _ :: _, _, _, h, _ => by cases h
  | .str _ :: _, _, _, h, _ => by cases h
  | .tup _ :: _, _, _, h, _ => by cases h
  | .lst _ :: _, _, _, h, _ => by cases h
  | .dic _ _ :: _, _, _, h, _ => by cases h
  | .obj _ :: _, _, _, h, _ => by cases h
  | .fn _ :: _, _, _, h, _ => by cases h
theorem reps_ints : ∀ (ns : List Int), Reps C μ W H (ns.map D.int) (ns.map V.int)
  | [] => rfl
  | n :: ns => ⟨.int n, _, rfl, rfl, reps_ints ns⟩
theorem allInt_len : ∀ {l : List D} {ns : List Int}, allInt l = some ns → ns.length = l.length
  | [], _, h => by cases h; rfl
  | .int i :: l, _, h => by
    unfold allInt at h
    cases q : allInt l with
    | none => rw [q] at h; cases h
    | some ns => rw [q] at h; cases h; simp [allInt_len q]
  | .non :: _, _, h => by cases h
  | .bl _ :: _, _, h => by cases h
  | .str _ :: _, _, h => by cases h
  | .tup _ :: _, _, h => by cases h
  | .lst _ :: _, _, h => by cases h
  | .dic _ _ :: _, _, h => by cases h
  | .obj _ :: _, _, h => by cases h
  | .fn _ :: _, _, h => by cases h
theorem insI_perm (i : Int) : ∀ l : List Int, (insI i l).Perm (i :: l)
  | [] => .refl _
  | x :: l => by
    unfold insI
    split
    · exact .refl _
    · exact ((insI_perm i l).cons x).trans (.swap i x l)
theorem sortI_perm : ∀ l : List Int, (sortI l).Perm l
  | [] => .refl _
  | x :: l => (insI_perm x (sortI l)).trans ((sortI_perm l).cons x)
theorem insI_ord (i : Int) : ∀ {l : List Int}, l.Pairwise (· ≤ ·) → (insI i l).Pairwise (· ≤ ·)
  | [], _ => List.pairwise_singleton _ _
  | x :: l, h => by
    unfold insI
    obtain ⟨h1, h2⟩ := List.pairwise_cons.mp h
    split
    · rename_i hi
      exact List.pairwise_cons.mpr ⟨fun y hy => (List.mem_cons.mp hy).elim (fun e => e ▸ hi) fun z => Int.le_trans hi (h1 y z), h⟩
    · rename_i hi
      refine List.pairwise_cons.mpr ⟨fun y hy => ?_, insI_ord i h2⟩
      rcases List.mem_cons.mp ((insI_perm i l).mem_iff.mp hy) with e | z
      · subst e; omega
      · exact h1 y z
theorem sortI_ord : ∀ l : List Int, (sortI l).Pairwise (· ≤ ·)
  | [] => .nil
  | x :: l => insI_ord x (sortI_ord l)
theorem sortI_eq {l m : List Int} (h1 : m.Perm l) (h2 : m.Pairwise (· ≤ ·)) : m = sortI l := PySem.W.ksm_same (h1.trans (sortI_perm l).symm) h2 (sortI_ord l)

theorem c_len (hK : X.K = C.K) : CallR X (.builtin "len") (rPr C .len) := by
  intro pins s σ H vs us Q I rv ⟨μ, W, ds, M, d, M', ha, w, hq, k⟩
  replace hq : pLen ds M = .ok d M' := hq
  unfold pLen at hq
  split at hq
  · cases hq
    obtain ⟨x, r, ev, ra, rr⟩ := ha
    cases (show _ = _ from rr)
    obtain ⟨a, ws, ea, sa, qa⟩ := ra.tup
    exact call_len_seq pins s σ H vs us Q I rv ⟨a, ws, by rw [ev, ea], .inr (hK ▸ sa), by rw [qa.len]; exact give k w rfl⟩
  · cases hq
    obtain ⟨x, r, ev, ra, rr⟩ := ha
    cases (show _ = _ from rr)
    obtain ⟨a, ws, ea, sa, qa⟩ := ra.lst
    exact call_len_seq pins s σ H vs us Q I rv ⟨a, ws, by rw [ev, ea], .inl (hK ▸ sa), by rw [qa.len]; exact give k w rfl⟩
  · cases hq
theorem c_abs : CallR X (.builtin "abs") (rPr C .abs) := by
  intro pins s σ H vs us Q I rv ⟨μ, W, ds, M, d, M', ha, w, hq, k⟩
  replace hq : pAbs ds M = .ok d M' := hq
  unfold pAbs at hq
  split at hq
  · cases hq
    obtain ⟨x, r, ev, ra, rr⟩ := ha
    cases (show _ = _ from rr)
    exact call_abs pins s σ H vs us Q I rv ⟨_, by rw [ev, ra.int], give k w rfl⟩
  · cases hq
theorem c_int : CallR X (.type "int") (rPr C .int) := by
  intro pins s σ H vs us Q I rv ⟨μ, W, ds, M, d, M', ha, w, hq, k⟩
  replace hq : pInt ds M = .ok d M' := hq
  unfold pInt at hq
  split at hq
  · cases hq
    obtain ⟨x, r, ev, ra, rr⟩ := ha
    cases (show _ = _ from rr)
    exact call_int1 pins s σ H vs us Q I rv (.inl ⟨_, by rw [ev, ra.int], give k w rfl⟩)
  · cases hq
    obtain ⟨x, r, ev, ra, rr⟩ := ha
    cases (show _ = _ from rr)
    exact call_int1 pins s σ H vs us Q I rv (.inr ⟨_, by rw [ev, ra.bl], give k w rfl⟩)
  · cases hq
theorem c_sum (hK : X.K = C.K) (hc : X.calm = true) : CallR X (.builtin "sum") (rPr C .sum) := by
  intro pins s σ H vs us Q I rv ⟨μ, W, ds, M, d, M', ha, w, hq, k⟩
  replace hq : pSum ds M = .ok d M' := hq
  unfold pSum at hq
  split at hq
  · rename_i l
    obtain ⟨e1, e2⟩ := RE.ofO_ok hq
    subst e2
    cases hn : allInt l with
    | none => rw [hn] at e1; cases e1
    | some ns =>
      rw [hn] at e1; cases e1
      obtain ⟨x, r, ev, ra, rr⟩ := ha
      cases (show _ = _ from rr)
      obtain ⟨a, ws, ea, sa, qa⟩ := ra.lst
      rw [ints_rep hn qa] at sa
      exact cr_sum hc pins s σ H vs us Q I rv ⟨a, ns, by rw [ev, ea], hK ▸ sa, give k w rfl⟩
  · cases hq
theorem c_all (hK : X.K = C.K) (hc : X.calm = true) : CallR X (.builtin "all") (rPr C .all) := by
  intro pins s σ H vs us Q I rv ⟨μ, W, ds, M, d, M', ha, w, hq, k⟩
  replace hq : pBls (fun bs => bs.all id) ds M = .ok d M' := hq
  unfold pBls at hq
  split at hq
  · rename_i l
    obtain ⟨e1, e2⟩ := RE.ofO_ok hq
    subst e2
    cases hn : allBl l with
    | none => rw [hn] at e1; cases e1
    | some ns =>
      rw [hn] at e1; cases e1
      obtain ⟨x, r, ev, ra, rr⟩ := ha
      cases (show _ = _ from rr)
      obtain ⟨a, ws, ea, sa, qa⟩ := ra.lst
      rw [bls_rep hn qa] at sa
      exact cr_all hc pins s σ H vs us Q I rv ⟨a, ns, by rw [ev, ea], hK ▸ sa, give k w rfl⟩
  · cases hq
theorem c_any (hK : X.K = C.K) (hc : X.calm = true) : CallR X (.builtin "any") (rPr C .any) := by
  intro pins s σ H vs us Q I rv ⟨μ, W, ds, M, d, M', ha, w, hq, k⟩
  replace hq : pBls (fun bs => bs.any id) ds M = .ok d M' := hq
  unfold pBls at hq
  split at hq
  · rename_i l
    obtain ⟨e1, e2⟩ := RE.ofO_ok hq
    subst e2
    cases hn : allBl l with
    | none => rw [hn] at e1; cases e1
    | some ns =>
      rw [hn] at e1; cases e1
      obtain ⟨x, r, ev, ra, rr⟩ := ha
      cases (show _ = _ from rr)
      obtain ⟨a, ws, ea, sa, qa⟩ := ra.lst
      rw [bls_rep hn qa] at sa
      exact cr_any hc pins s σ H vs us Q I rv ⟨a, ns, by rw [ev, ea], hK ▸ sa, give k w rfl⟩
  · cases hq
theorem c_tuple (hK : X.K = C.K) : CallR X (.type "tuple") (rPr C .tuple) := by
  intro pins s σ H vs us Q I rv ⟨μ, W, ds, M, d, M', ha, w, hq, k⟩
  replace hq : pTuple ds M = .ok d M' := hq
  unfold pTuple at hq
  split at hq
  · cases hq
    obtain ⟨x, r, ev, ra, rr⟩ := ha
    cases (show _ = _ from rr)
    obtain ⟨a, ws, ea, sa, qa⟩ := ra.lst
    exact call_tuple_of pins s σ H vs us Q I rv ⟨a, ws, by rw [ev, ea], .inl ⟨hK ▸ sa, fun p hp => giveT k w qa hp⟩⟩
  · cases hq
    obtain ⟨x, r, ev, ra, rr⟩ := ha
    cases (show _ = _ from rr)
    obtain ⟨a, ws, ea, sa, qa⟩ := ra.tup
    exact call_tuple_of pins s σ H vs us Q I rv ⟨a, ws, by rw [ev, ea], .inr ⟨hK ▸ sa, give k w ⟨a, ws, rfl, sa, qa⟩⟩⟩
  · cases hq
theorem c_list (hK : X.K = C.K) : CallR X (.type "list") (rPr C .list) := by
  intro pins s σ H vs us Q I rv ⟨μ, W, ds, M, d, M', ha, w, hq, k⟩
  replace hq : pList ds M = .ok d M' := hq
  unfold pList at hq
  split at hq
  · cases hq
    obtain ⟨x, r, ev, ra, rr⟩ := ha
    cases (show _ = _ from rr)
    obtain ⟨a, ws, ea, sa, qa⟩ := ra.lst
    exact call_list_of pins s σ H vs us Q I rv ⟨a, ws, by rw [ev, ea], .inl (hK ▸ sa), fun p hp => giveL k w qa hp⟩
  · cases hq
    obtain ⟨x, r, ev, ra, rr⟩ := ha
    cases (show _ = _ from rr)
    obtain ⟨a, ws, ea, sa, qa⟩ := ra.tup
    exact call_list_of pins s σ H vs us Q I rv ⟨a, ws, by rw [ev, ea], .inr (hK ▸ sa), fun p hp => giveL k w qa hp⟩
  · cases hq
theorem c_sort (hK : X.K = C.K) : CallR X (.builtin "sorted") (rPr C .sort) := by
  intro pins s σ H vs us Q I rv ⟨μ, W, ds, M, d, M', ha, w, hq, k⟩
  replace hq : pSort ds M = .ok d M' := hq
  unfold pSort at hq
  split at hq
  · rename_i l
    split at hq
    · rename_i hl
      obtain ⟨e1, e2⟩ := RE.ofO_ok hq
      subst e2
      cases hn : allInt l with
      | none => rw [hn] at e1; cases e1
      | some ns =>
        rw [hn] at e1; cases e1
        obtain ⟨x, r, ev, ra, rr⟩ := ha
        cases (show _ = _ from rr)
        obtain ⟨a, ws, ea, sa, qa⟩ := ra.lst
        rw [ints_rep hn qa] at sa
        refine cr_sorted pins s σ H vs us Q I rv ⟨a, ns, by rw [ev, ea], hK ▸ sa, by rw [allInt_len hn]; exact hl, fun ms p h1 h2 hp => ?_⟩
        rw [sortI_eq h1 h2]
        exact giveL k w (reps_ints _) hp
    · cases hq
  · cases hq
theorem keys_ints : ∀ {ks : List D} {ns : List Int} {as : List Key}, allInt ks = some ns → keysOf ks = some as → as = ns.map Sum.inl
  | [], _, _, h, q => by cases h; cases q; rfl
  | .int i :: l, _, _, h, q => by
    unfold allInt at h
    unfold keysOf at q
    cases z : allInt l with
    | none => rw [z] at h; cases h
    | some ns =>
      rw [z] at h; cases h
      cases y : keysOf l with
      | none => rw [y] at q; cases q
      | some as => rw [y] at q; cases q; rw [keys_ints z y]; rfl
  | .non :: _, _, _, h, _ => by cases h
  | .bl _ :: _, _, _, h, _ => by cases h
  | .str _ :: _, _, _, h, _ => by cases h
  | .tup _ :: _, _, _, h, _ => by cases h
  | .lst _ :: _, _, _, h, _ => by cases h
  | .dic _ _ :: _, _, _, h, _ => by cases h
  | .obj _ :: _, _, _, h, _ => by cases h
  | .fn _ :: _, _, _, h, _ => by cases h
theorem c_sortK (hc : X.calm = true) : CallR X (.builtin "sorted") (rPr C .sortK) := by
  intro pins s σ H vs us Q I rv ⟨μ, W, ds, M, d, M', ha, w, hq, k⟩
  replace hq : pSortK ds M = .ok d M' := hq
  unfold pSortK at hq
  split at hq
  · rename_i ks _
    split at hq
    · rename_i hl
      obtain ⟨e1, e2⟩ := RE.ofO_ok hq
      subst e2
      cases hn : allInt ks with
      | none => rw [hn] at e1; cases e1
      | some ns =>
        rw [hn] at e1; cases e1
        obtain ⟨x, r, ev, ra, rr⟩ := ha
        cases (show _ = _ from rr)
        obtain ⟨a, kvs, ea, sa, ka, qa⟩ := ra.dic
        refine call_sortedDI hc pins s σ H vs us Q I rv ⟨a, kvs, ns, by rw [ev, ea], .inl sa, keys_ints hn ka, by rw [allInt_len hn]; exact hl, fun ms p h1 h2 hp => ?_⟩
        rw [sortI_eq h1 h2]
        exact giveL k w (reps_ints _) hp
    · cases hq
  · cases hq

/-! ### repr -/
mutual
theorem noD : ∀ (d : D) (p : PyData), toPy d = some p → p.hasDict = false
  | .non, _, h => by cases h; rfl
  | .bl _, _, h => by cases h; rfl
  | .int _, _, h => by cases h; rfl
  | .str _, _, h => by cases h; rfl
  | .tup l, _, h => by
    unfold toPy at h
    cases q : toPys l with
    | none => rw [q] at h; cases h
    | some ps => rw [q] at h; cases h; exact noDs l ps q
  | .lst l, _, h => by
    unfold toPy at h
    cases q : toPys l with
    | none => rw [q] at h; cases h
    | some ps => rw [q] at h; cases h; exact noDs l ps q
  | .dic _ _, _, h => by cases h
  | .obj _, _, h => by cases h
  | .fn _, _, h => by cases h
theorem noDs : ∀ (l : List D) (ps : List PyData), toPys l = some ps → PyData.hasDictAll ps = false
  | [], _, h => by cases h; rfl
  | d :: l, _, h => by
    unfold toPys at h
    split at h
    · rename_i p q e1 e2
      cases h
      unfold PyData.hasDictAll
      rw [noD d p e1, noDs l q e2]; rfl
    · cases h
end
theorem c_repr (hK : X.K = C.K) (hg : X.A.guards = some []) (hu : X.A.units + 100 < cLine) : CallR X (.builtin "repr") (rPr C .repr) := by
  intro pins s σ H vs us Q I rv ⟨μ, W, ds, M, d, M', ha, w, hq, k⟩
  replace hq : pRepr ds M = .ok d M' := hq
  unfold pRepr at hq
  split at hq
  · rename_i dd
    split at hq
    · rename_i p hp
      split at hq
      · rename_i hc
        cases hq
        obtain ⟨x, r, ev, ra, rr⟩ := ha
        cases (show _ = _ from rr)
        subst ev
        obtain ⟨u, eu, ru⟩ := vals1 rv
        subst eu
        have fin : ∀ h' tk tk', (∀ b o, s.heap.get? b = some o → h'.get? b = some o) → EP X pins σ Q (.str p.shown tk') { s with heap := h', toks := tk } := fun h' tk tk' hk =>
          ⟨.str p.shown, H, I.kept hk, ⟨_, rfl⟩, give k w rfl⟩
        have fin0 : ∀ tk, EP X pins σ Q (.str p.shown tk) { s with toks := s.toks + 1 } := fun tk => fin s.heap (s.toks + 1) tk fun _ _ q => q
        have hsz : p.shown.length ≤ sizeLine := lenLN hc.2.2
        obtain ⟨as, R⟩ := Dp.reads I p x u (hK ▸ dpA_of hp ra) ru
        have big : ∀ a, u = .ref a → wpAny (model X.prog X.w) X.A (call (.builtin "repr") [.ref a]) (EP X pins σ Q) X.xe s := fun a e => by
          subst e
          have hd := SeqAt.depth_of_shaped hc.2.1
          exact repr_of_reads' R hc.1 (fun z => by rw [noD dd p hp] at z; cases z) hg (by omega) (fun _ _ q => q) (fun h' tk' tk hk => fin h' tk tk' hk) hsz
        cases R with
        | none => exact PySem.P.repr_of_none (fin0 _)
        | bool b => exact PySem.P.repr_of_bool (fin0 _)
        | int i t => exact PySem.P.repr_of_int (of_decide_eq_true hc.1) (fin0 _)
        | str y t => exact PySem.P.repr_of_str (fin0 _) hsz
        | list => exact big _ rfl
        | tuple => exact big _ rfl
        | dict => exact big _ rfl
      · cases hq
    · cases hq
  · cases hq

/-! ### isinstance -/
def tyN : Ty → String
  | .int => "int" | .bool => "bool" | .str => "str" | .tuple => "tuple" | .list => "list"
theorem tyx_lst {H : Hp} {K : PySem.W.Frag} {a : Addr} {vs : List V} (h : SqL K H a vs) : TyX K H (.ref a) (.type "list") := by
  rcases h with (h | ⟨o, h⟩) | ⟨o, its, n, h1, h2, _⟩
  · exact .base (.lst h)
  · exact .base (.frz h)
  · exact .kList h1 h2
theorem tyx_tup {H : Hp} {K : PySem.W.Frag} {a : Addr} {vs : List V} (h : SqT K H a vs) : TyX K H (.ref a) (.type "tuple") := by
  rcases h with (h | ⟨o, h⟩) | ⟨o, its, n, h1, h2, _⟩
  · exact .base (.tup h)
  · exact .fTuple h
  · exact .kTuple h1 h2
def tyD : D → String
  | .non => "NoneType" | .bl _ => "bool" | .int _ => "int" | .str _ => "str" | .tup _ => "tuple" | .lst _ => "list" | _ => ""
theorem isTy_kit (t : Ty) (d : D) (b : Bool) (h : isTy t d = some b) : kitB (tyD d) (tyN t) = some b := by
  cases d <;> cases t <;> cases h <;> simp only [tyD, tyN] <;> decide +kernel
theorem tyx_of {H : Hp} {t : Ty} {d : D} {b : Bool} {x : V} (h : isTy t d = some b) (r : RepA C μ W H d x) : TyX C.K H x (.type (tyD d)) := by
  cases d with
  | non => rw [r.non]; exact .base .non
  | bl _ => rw [r.bl]; exact .base (.bl _)
  | int _ => rw [r.int]; exact .base (.int _)
  | str _ => rw [r.str]; exact .base (.str _)
  | tup l => obtain ⟨a, vs, e, sa, _⟩ := r.tup; rw [e]; exact tyx_tup sa
  | lst l => obtain ⟨a, vs, e, sa, _⟩ := r.lst; rw [e]; exact tyx_lst sa
  | _ => cases h
/-- the class is the second argument -/
def rIsP (C : Ct) (t : Ty) : List V → Hp → VK → Prop := fun vs H Q => ∃ x, vs = [x, .ty (tyN t)] ∧ rPr C (.isi t) [x] H Q
theorem c_isi (hK : X.K = C.K) (t : Ty) : CallR X (.builtin "isinstance") (rIsP C t) := by
  intro pins s σ H vs us Q I rv ⟨x, ev, μ, W, ds, M, d, M', ha, w, hq, k⟩
  obtain ⟨da, rfl, ra⟩ := args1 ha
  replace hq : RE.ofO ((isTy t da).map .bl) M = .ok d M' := hq
  obtain ⟨e1, e2⟩ := RE.ofO_ok hq
  subst e2
  cases hb : isTy t da with
  | none => rw [hb] at e1; cases e1
  | some b =>
    rw [hb] at e1; cases e1
    exact call_isi pins s σ H vs us Q I rv ⟨x, .ty (tyN t), .type (tyD da), .type (tyN t), b, ev, .ty _, hK ▸ tyx_of hb ra, kit_ty (isTy_kit t da b hb), give k w rfl⟩
end
end Fx

/-! Fx3b: enumerate and zip over lists and tuples, mixed as they come. -/
namespace Fx
open PySem PySem.Spec PyProof.Rows L2

set_option maxHeartbeats 1000000 in
theorem enumNew1 {v : Value} {o : Obj} {Z : Heap → Prop} (B : Begins v o Z) :
    Meets (Builtin.«enumerate.__new__» ⟨[.type "enumerate", v], []⟩) (fun _ R s => Z s.heap ∧
      R (.ok (.ret (.ref (s.heap.push o).objs.size))) { s with heap := (s.heap.push o).push { cls := .type "enumerate", data := .fields #[.none, .bool false, .ref s.heap.objs.size, rawInt 0, .none, .none] } }) :=
  .of_wp fun prog w A R st0 hh => by
    obtain ⟨hp, gg, dr, tk, os⟩ := st0
    obtain ⟨z1, fin⟩ := hh
    have hsub := sub_enumerate
    have start : ∀ {A' : Around} {E : Value → Shared → Prop} {Q : Value → Shared → Prop}, Q (.ref hp.objs.size) ⟨hp.push o, gg, dr, tk, os⟩ → wpAny (model prog w) A' (pyIter v) Q E ⟨hp, gg, dr, tk, os⟩ :=
      fun q => B.iter prog w _ _ ⟨hp, gg, dr, tk, os⟩ _ z1 q
    wp_walk
    refine wpAny_stack_any fun st => wpAny_pure ?_
    split
    · rename_i c _ _ _ _ _
      cases (c == Value.type "enumerate") <;> (wp_walk using start; exact ⟨_, rfl, fin⟩)
    · wp_walk using start
      exact ⟨_, rfl, fin⟩

section
variable {prog : Program} {w : World} {A : Around} {E : Value → Shared → Prop} {s : Shared}
theorem enumCall1 {v : Value} {o : Obj} {Z : Heap → Prop} {Q : Value → Shared → Prop} (B : Begins v o Z) (h1 : Z s.heap)
    (h : ∀ h', IsEnum h' (s.heap.objs.size + 1) s.heap.objs.size 0 .none → h'.get? s.heap.objs.size = some o → (∀ b u, s.heap.get? b = some u → h'.get? b = some u) → Q (.ref (s.heap.objs.size + 1)) { s with heap := h' }) :
    wpAny (model prog w) A (call (.type "enumerate") [v]) Q E s := by
  refine callType_new F.called_enumerate (by decide) (F.typeCall_enumerate_1 _) (F.newCall_enumerate_1 _) (fun obj => F.args_object_init_2 obj _) F.entry_enumerate_new
    (enumNew1 B) ⟨h1, ?_⟩
  have sz : (s.heap.push o).objs.size = s.heap.objs.size + 1 := Heap.size_push ..
  have he : ((s.heap.push o).push { cls := .type "enumerate", data := .fields #[.none, .bool false, .ref s.heap.objs.size, rawInt 0, .none, .none] }).get? (s.heap.push o).objs.size =
      some { cls := .type "enumerate", data := .fields #[.none, .bool false, .ref s.heap.objs.size, rawInt 0, .none, .none] } := Heap.get?_push_size _ rfl
  show _ ∧ _
  rw [sz] at he ⊢
  exact ⟨⟨_, he, rfl⟩, h _ he (Heap.get?_push_of_some _ (Heap.get?_push_size _ B.free)) fun b u x => Heap.get?_push_of_some _ (Heap.get?_push_of_some _ x)⟩
end

/-! ### a list or a tuple, told by t -/
def Sq (t : Bool) (K : PySem.W.Frag) (H : Hp) (a : Addr) (xs : List V) : Prop := if t = true then SqT K H a xs else SqL K H a xs
def SObj (t : Bool) (h : Heap) (a : Addr) (items : Array Value) : Prop := if t = true then h.IsTuple a items else h.IsList a items
def SIt (t : Bool) (h : Heap) (it a : Addr) (i : Nat) : Prop := if t = true then h.IsTupleIter it a i else h.IsListIter it a i
def itObj (t : Bool) (a : Addr) : Obj := if t = true then { cls := .type "tuple_iterator", data := .fields #[.ref a, .int 0 0] } else { cls := .type "list_iterator", data := .fields #[.ref a, .int 0 0] }
theorem Sq.at {t : Bool} {X : Cx} {pins : List (Addr × Obj)} {σ : Sg} {H : Hp} {s : Shared} {a : Addr} {xs : List V} (I : Inv X pins σ H s) (h : Sq t X.K H a xs) :
    ∃ its : List Value, Vals xs its ∧ SObj t s.heap a its.toArray := by
  cases t with
  | true => obtain ⟨its, r, p, _⟩ := I.tuple h; exact ⟨its, r, p⟩
  | false => obtain ⟨its, r, p, _⟩ := I.list h; exact ⟨its, r, p.isList⟩
theorem Sq.inj {t : Bool} {X : Cx} {pins : List (Addr × Obj)} {σ : Sg} {H : Hp} {s : Shared} {a : Addr} {xs ys : List V} (I : Inv X pins σ H s) (h : Sq t X.K H a xs) (h' : Sq t X.K H a ys) : xs = ys := by
  cases t with
  | true => exact I.tuple_inj h h'
  | false => exact I.list_inj h h'
theorem SObj.lt {t : Bool} {h : Heap} {a : Addr} {items : Array Value} (x : SObj t h a items) : a < h.objs.size := by
  cases t with
  | true => obtain ⟨o, e, _⟩ := (show h.IsTuple a items from x); exact Heap.lt_size e
  | false => obtain ⟨o, e, _⟩ := (show h.IsList a items from x); exact Heap.lt_size e
theorem SIt.obj {t : Bool} {h : Heap} {it a : Addr} {i : Nat} (x : SIt t h it a i) : ∃ o, h.get? it = some o ∧ ∀ v, o.data ≠ .cell v := by
  cases t with
  | true => obtain ⟨o, e, _, d⟩ := (show h.IsTupleIter it a i from x); exact ⟨o, e, fun v q => by rw [d] at q; cases q⟩
  | false => obtain ⟨o, e, _, d⟩ := (show h.IsListIter it a i from x); exact ⟨o, e, fun v q => by rw [d] at q; cases q⟩
theorem SIt.to {t : Bool} {h h' : Heap} {it a : Addr} {i : Nat} (x : SIt t h it a i) (k : ∀ o, h.get? it = some o → h'.get? it = some o) : SIt t h' it a i := by
  cases t with
  | true => exact Heap.IsTupleIter.at x k
  | false => exact Heap.IsListIter.at x k
theorem SObj.keeps {t : Bool} {h h' : Heap} {a : Addr} {items : Array Value} (x : SObj t h a items) (k : ∀ b o, h.get? b = some o → h'.get? b = some o) : SObj t h' a items := by
  cases t with
  | true => exact (begins_tuple a items).keeps h h' x k
  | false => exact (begins_list a items).keeps h h' x k
theorem sBegins (t : Bool) (a : Addr) (items : Array Value) : Begins (.ref a) (itObj t a) fun h => SObj t h a items := by
  cases t with
  | true => exact begins_tuple a items
  | false => exact begins_list a items
theorem sDraws {prog : Program} {w : World} {A : Around} (hh : A.handled = none) (t : Bool) (it a : Addr) (hne : a ≠ it) (items : Array Value) :
    Draws prog w A it [it, a] items.size (fun i v => items[i]? = some v) (fun i h => SIt t h it a i ∧ SObj t h a items) := by
  cases t with
  | true => exact Draws.tuple hh it a hne items
  | false => exact Draws.list hh it a hne items
theorem itObj_it {t : Bool} {h : Heap} {it a : Addr} (e : h.get? it = some (itObj t a)) : SIt t h it a 0 := by
  cases t with
  | true => exact ⟨_, e, rfl, rfl⟩
  | false => exact ⟨_, e, rfl, rfl⟩

/-! ### enumerate -/
def ItE (t : Bool) (K : PySem.W.Frag) (a : Addr) : It :=
  ⟨fun i H => ∃ (xs : List V) (x : V), Sq t K H a xs ∧ xs[i]? = some x, fun i H v H' => ∃ T x, v = .ref T ∧ H T = none ∧ H' = L2.upd H T (.tup [.int (i : Nat), x]) ∧ ∀ xs, Sq t K H a xs → xs[i]? = some x,
    fun i H => ∃ xs : List V, Sq t K H a xs ∧ xs.length = i⟩
theorem turnE {P : Program} {w : World} {K : PySem.W.Frag} {elts : List Expr} {kk : Nat} {tpos : Pos} (t : Bool) (a e it : Addr) :
    Turn P w K (.Tuple elts kk tpos) (ItE t K a) [e, it] e (fun i h => (∃ old, IsEnum h e it ((i : Nat) : Int) old) ∧ SIt t h it a i ∧ e ≠ it ∧ a ≠ it ∧ e ≠ a) where
  mem := by simp
  obj := fun i h st b hb => by
    obtain ⟨⟨old, he⟩, hi, _⟩ := st
    have e' : b = e ∨ b = it := by simpa using hb
    rcases e' with z | z
    · rw [z]; exact ⟨_, he, fun v q => nomatch q⟩
    · rw [z]; exact hi.obj
  keep := fun i h h' st k => by
    obtain ⟨⟨old, he⟩, hi, r⟩ := st
    exact ⟨⟨old, k e (by simp) _ he⟩, hi.to fun o q => k it (by simp) o q, r⟩
  item := by
    intro X hP hw hK hc i pins s σ H E I hf st hg
    subst hP hw hK
    obtain ⟨⟨old, he⟩, hit, hne, hai, hea⟩ := st
    obtain ⟨xs, x, hq, hx⟩ := hg
    obtain ⟨its, rv, p⟩ := Sq.at I hq
    obtain ⟨u, hu, ru⟩ := rv.get hx
    have hlt : i < its.toArray.size := by
      have := (List.getElem?_eq_some_iff.mp hu).1
      simpa using this
    have hel : e < s.heap.objs.size := Heap.lt_size he
    have hil : it < s.heap.objs.size := by obtain ⟨_, q, _⟩ := hit.obj; exact Heap.lt_size q
    refine wpAny_pyNext_enum_itemD (sDraws (prog := X.prog) (w := X.w) (A := X.A.in1) (I.ok.hd hc) t it a hai its.toArray) he ⟨hit, p⟩ hlt hne (by simp [hne, hea]) fun y h' tk hy ho hst hT hsz hk => ?_
    have ey : y = u := by
      have h1 : its[i]? = some y := by simpa using hy
      rw [hu] at h1
      exact (Option.some.inj h1).symm
    subst ey
    refine ⟨_, rfl, wpAny_letOwnedTupleGo_enum (s := { s with heap := h', toks := tk + 1 }) ho fun h'' he' sb => ?_⟩
    have hT2 : h''.get? s.heap.objs.size = some { cls := .type "tuple", data := .seq #[.int i tk, y] } := (sb.2 _ (Nat.ne_of_gt hel)).trans hT
    have new : ObjOk X.prog X.w (L2.upd H s.heap.objs.size (.tup [.int (i : Nat), x])) h'' s.heap.objs.size (.tup [.int (i : Nat), x]) :=
      ⟨by show 2 ≤ sizeLine; decide, [.int i tk, y], .cons ⟨_, rfl⟩ (.cons ru .nil), ⟨_, hT2, rfl, _, rfl⟩⟩
    have I1 : Inv X pins σ (L2.upd H s.heap.objs.size (.tup [.int (i : Nat), x])) { s with heap := h'', toks := tk + 1 } :=
      I.turnedNew (ch := [e, it]) (fun b ob hb q => (sb.2 b (fun z => hb (by simp [z]))).trans (hk b ob (fun z => hb (by simp [z])) (fun z => hb (by simp [z])) q)) hf (Nat.le_refl _) new
    refine ⟨.ref s.heap.objs.size, _, I1, rfl, ⟨_, x, rfl, I.hok.fresh (Nat.le_refl _), rfl, fun ys hz => by rw [Sq.inj I hz hq]; exact hx⟩, ⟨⟨y, ?_⟩, hst.1.to fun o q => (sb.2 it (Ne.symm hne)).trans q, hne, hai, hea⟩, fun b hb => ?_⟩
    · have e1 : ((i + 1 : Nat) : Int) = (i : Int) + 1 := by omega
      rw [e1]; exact he'
    · have hb' : b < s.heap.objs.size := by
        have e' : b = e ∨ b = it := by simpa using hb
        rcases e' with z | z
        · rw [z]; exact hel
        · rw [z]; exact hil
      rw [upd_ne (Nat.ne_of_lt hb')]
      exact (hf b hb).1
  done := by
    intro X hP hw hK hc i pins s σ H E I hf st hg
    subst hP hw hK
    obtain ⟨⟨old, he⟩, hit, hne, hai, hea⟩ := st
    obtain ⟨xs, hq, hx⟩ := hg
    obtain ⟨its, rv, p⟩ := Sq.at I hq
    obtain ⟨f0, f1, f2, f3, f4, f5⟩ := hf it (by simp)
    have hl := rv.length
    have en : i = its.toArray.size := by simp; omega
    exact wpAny_pyNext_enum_endD (sDraws (prog := X.prog) (w := X.w) (A := X.A.in1) (I.ok.hd hc) t it a hai its.toArray) he (show SIt t s.heap it a its.toArray.size ∧ SObj t s.heap a its.toArray from ⟨en ▸ hit, p⟩) fun h' eb => ⟨rfl, I.turned (t' := s.toks) (fun b o hb q => eb b o hb q) f0 f1 f3 f4 f5⟩
  self := fun A i s Q E st h => let ⟨⟨_, he⟩, _⟩ := st; wpAny_pyIter_enum he h
def iEnumA (K : PySem.W.Frag) (ta : TA) : TI := fun σ H R => ta σ H fun vs H1 => ∃ t a xs, vs = [.ref a] ∧ Sq t K H1 a xs ∧ R (ItE t K a) H1
theorem pi_enumA {X : Cx} {e : Expr} {ta : TA} {p pos tpos : Pos} {elts : List Expr} {kk : Nat} (hg : Gl X "enumerate") (hm : X.mg "enumerate" = none) (ha : PA X [e] ta) (hs : starEach [e] X.env = [(false, eval e X.env)]) :
    PI X (.Tuple elts kk tpos) (.Call (.Name "enumerate" p) [e] [] pos) (iEnumA X.K ta) := by
  refine ⟨fun pins s σ H R I h => ?_⟩
  refine Call_ (ld_blt I hg hm boot_enumerate (PyProof.Rows.callWith_type1 (thn (ha.run pos pins s σ H _ I h) fun us s1 ⟨vs, H1, I1, r1, q1⟩ => ?_) hs rfl))
  obtain ⟨t, a, xs, ex, hq, q⟩ := q1
  subst ex
  cases r1 with
  | cons r rr =>
    cases rr
    cases r
    obtain ⟨its, rv, p'⟩ := Sq.at I1 hq
    have la : a < s1.heap.objs.size := p'.lt
    refine enumCall1 (sBegins t a its.toArray) p' fun h' he hit hk => wpAny_pyIter_enum he ?_
    have I2 : Inv X pins σ H1 { s1 with heap := h' } := I1.kept (t' := s1.toks) hk
    refine ⟨s1.heap.objs.size + 1, [s1.heap.objs.size + 1, s1.heap.objs.size], _, _, H1, rfl, I2, turnE t a (s1.heap.objs.size + 1) s1.heap.objs.size,
      ⟨⟨.none, he⟩, itObj_it hit, Nat.succ_ne_self _, Nat.ne_of_lt la, fun z => by rw [← z] at la; exact absurd la (Nat.not_succ_lt_self)⟩, fun b hb => ?_, q⟩
    have e' : b = s1.heap.objs.size + 1 ∨ b = s1.heap.objs.size := by simpa using hb
    have hle : s1.heap.objs.size ≤ b := by
      rcases e' with z | z
      · rw [z]; exact Nat.le_add_right _ _
      · rw [z]; exact Nat.le_refl _
    exact I1.fpOk hle (I1.hok.fresh hle)

/-! ### zip -/
def ItZ (t u : Bool) (K : PySem.W.Frag) (a b : Addr) : It :=
  ⟨fun i H => ∃ (xs ys : List V) (x y : V), Sq t K H a xs ∧ Sq u K H b ys ∧ xs[i]? = some x ∧ ys[i]? = some y,
    fun i H v H' => ∃ T x y, v = .ref T ∧ H T = none ∧ H' = L2.upd H T (.tup [x, y]) ∧ (∀ xs, Sq t K H a xs → xs[i]? = some x) ∧ ∀ ys, Sq u K H b ys → ys[i]? = some y,
    fun i H => ∃ xs ys : List V, Sq t K H a xs ∧ Sq u K H b ys ∧ i ≤ xs.length ∧ i ≤ ys.length ∧ (i = xs.length ∨ i = ys.length)⟩
theorem turnZ {P : Program} {w : World} {K : PySem.W.Frag} {elts : List Expr} {kk : Nat} {tpos : Pos} {t u : Bool} {a b z TI TO i1 i2 : Addr} (D : ZipSep2 z TI TO i1 i2 [i1, a] [i2, b]) (ha : a ≠ i1) (hb : b ≠ i2) :
    Turn P w K (.Tuple elts kk tpos) (ItZ t u K a b) [z, TI, TO, i1, i2] z (fun i h => IsZip h z TI TO .none ∧ IsTupOf2 h TI (.ref i1) (.ref i2) ∧ (∃ x y, IsTupOf2 h TO x y) ∧ SIt t h i1 a i ∧ SIt u h i2 b i) where
  mem := by simp
  obj := fun i h st c hc => by
    obtain ⟨hz, hTI, ⟨x, y, hTO⟩, h1, h2⟩ := st
    have e' : c = z ∨ c = TI ∨ c = TO ∨ c = i1 ∨ c = i2 := by simpa using hc
    rcases e' with q | q | q | q | q
    · rw [q]; exact ⟨_, hz, fun v q => nomatch q⟩
    · rw [q]; exact ⟨_, hTI, fun v q => nomatch q⟩
    · rw [q]; exact ⟨_, hTO, fun v q => nomatch q⟩
    · rw [q]; exact h1.obj
    · rw [q]; exact h2.obj
  keep := fun i h h' st k => by
    obtain ⟨hz, hTI, ⟨x, y, hTO⟩, h1, h2⟩ := st
    exact ⟨k z (by simp) _ hz, k TI (by simp) _ hTI, ⟨x, y, k TO (by simp) _ hTO⟩, h1.to fun o q => k i1 (by simp) o q, h2.to fun o q => k i2 (by simp) o q⟩
  item := by
    intro X hP hw hK hc i pins s σ H E I hf st hg
    subst hP hw hK
    obtain ⟨hz, hTI, ⟨x0, y0, hTO⟩, h1, h2⟩ := st
    obtain ⟨xs, ys, x, y, hqx, hqy, hx, hy⟩ := hg
    obtain ⟨its, rv, p⟩ := Sq.at I hqx
    obtain ⟨jts, rv2, p2⟩ := Sq.at I hqy
    obtain ⟨v1, hv1, ru⟩ := rv.get hx
    obtain ⟨v2, hv2, ru2⟩ := rv2.get hy
    have lt1 : i < its.toArray.size := by have := (List.getElem?_eq_some_iff.mp hv1).1; simpa using this
    have lt2 : i < jts.toArray.size := by have := (List.getElem?_eq_some_iff.mp hv2).1; simpa using this
    have hzl : z < s.heap.objs.size := Heap.lt_size hz
    refine wpAny_pyNext_zipD2_item D (sDraws (prog := X.prog) (w := X.w) (A := X.A.in1) (I.ok.hd hc) t i1 a ha its.toArray) (sDraws (prog := X.prog) (w := X.w) (A := X.A.in1) (I.ok.hd hc) u i2 b hb jts.toArray) hz hTI hTO ⟨h1, p⟩ ⟨h2, p2⟩ lt1 lt2 fun w1 w2 h' tk y1 y2 z' TO' s1' s2' hT hsz hk => ?_
    have e1 : w1 = v1 := by
      have q : its[i]? = some w1 := by simpa using y1
      rw [hv1] at q; exact (Option.some.inj q).symm
    have e2 : w2 = v2 := by
      have q : jts[i]? = some w2 := by simpa using y2
      rw [hv2] at q; exact (Option.some.inj q).symm
    subst e1 e2
    refine ⟨_, rfl, wpAny_letOwnedTupleGo_zip (s := { s with heap := h', toks := tk }) z' fun h'' z'' sb => ?_⟩
    have hT2 : h''.get? s.heap.objs.size = some { cls := .type "tuple", data := .seq #[w1, w2] } := (sb.2 _ (Nat.ne_of_gt hzl)).trans hT
    have new : ObjOk X.prog X.w (L2.upd H s.heap.objs.size (.tup [x, y])) h'' s.heap.objs.size (.tup [x, y]) :=
      ⟨by show 2 ≤ sizeLine; decide, [w1, w2], .cons ru (.cons ru2 .nil), ⟨_, hT2, rfl, _, rfl⟩⟩
    have I1 : Inv X pins σ (L2.upd H s.heap.objs.size (.tup [x, y])) { s with heap := h'', toks := tk } :=
      I.turnedNew (t' := tk) (ch := [z, TI, TO, i1, i2]) (fun c o hb q => (sb.2 c (fun q' => hb (by simp [q']))).trans (hk c o (fun q' => hb (by simp [q'])) (fun q' => hb (by simp [q'])) (fun q' => hb (by simp [q'])) (fun q' => hb (by simp [q'])) q)) hf (Nat.le_refl _) new
    refine ⟨.ref s.heap.objs.size, _, I1, rfl, ⟨_, x, y, rfl, I.hok.fresh (Nat.le_refl _), rfl, fun l hl => by rw [Sq.inj I hl hqx]; exact hx, fun l hl => by rw [Sq.inj I hl hqy]; exact hy⟩, ⟨z'', ?_, ⟨w1, w2, ?_⟩, ?_, ?_⟩, fun c hcm => ?_⟩
    · exact (sb.2 _ D.TIz).trans (hk _ _ D.TIz D.TITO D.TIi1 D.TIi2 hTI)
    · exact (sb.2 _ D.TOz).trans TO'
    · exact s1'.1.to fun o q => (sb.2 _ (Ne.symm D.zi1)).trans q
    · exact s2'.1.to fun o q => (sb.2 _ (Ne.symm D.zi2)).trans q
    · have hlt : c < s.heap.objs.size := by
        have e' : c = z ∨ c = TI ∨ c = TO ∨ c = i1 ∨ c = i2 := by simpa using hcm
        rcases e' with q | q | q | q | q
        · rw [q]; exact hzl
        · rw [q]; exact Heap.lt_size hTI
        · rw [q]; exact Heap.lt_size hTO
        · rw [q]; obtain ⟨_, e1, _⟩ := h1.obj; exact Heap.lt_size e1
        · rw [q]; obtain ⟨_, e2, _⟩ := h2.obj; exact Heap.lt_size e2
      rw [upd_ne (Nat.ne_of_lt hlt)]
      exact (hf c hcm).1
  done := by
    intro X hP hw hK hc i pins s σ H E I hf st hg
    subst hP hw hK
    obtain ⟨hz, hTI, ⟨x0, y0, hTO⟩, h1, h2⟩ := st
    obtain ⟨xs, ys, hqx, hqy, le1, le2, hend⟩ := hg
    obtain ⟨its, rv, p⟩ := Sq.at I hqx
    obtain ⟨jts, rv2, p2⟩ := Sq.at I hqy
    have l1 := rv.length
    have l2 := rv2.length
    exact wpAny_pyNext_zipD2_end D (sDraws (prog := X.prog) (w := X.w) (A := X.A.in1) (I.ok.hd hc) t i1 a ha its.toArray) (sDraws (prog := X.prog) (w := X.w) (A := X.A.in1) (I.ok.hd hc) u i2 b hb jts.toArray) hz hTI hTO ⟨h1, p⟩ ⟨h2, p2⟩ (by simp; omega) (by simp; omega) (by simp; omega) fun h' tk hk =>
      ⟨rfl, I.turnedL (t' := tk) (ch := [z, TI, TO, i1, i2]) (fun c o hb q => hk c o (fun q' => hb (by simp [q'])) (fun q' => hb (by simp [q'])) (fun q' => hb (by simp [q'])) (fun q' => hb (by simp [q'])) q) hf⟩
  self := fun A i s Q E st h => wpAny_pyIter_zip st.1 h
def iZipM (K : PySem.W.Frag) (ta : TA) : TI := fun σ H R => ta σ H fun vs H1 => ∃ t u a b xs ys, vs = [.ref a, .ref b] ∧ Sq t K H1 a xs ∧ Sq u K H1 b ys ∧ R (ItZ t u K a b) H1
theorem pi_zipM {X : Cx} {e e2 : Expr} {ta : TA} {p pos tpos : Pos} {elts : List Expr} {kk : Nat} (hg : Gl X "zip") (hm : X.mg "zip" = none) (ha : PA X [e, e2] ta)
    (hs : starEach [e, e2] X.env = (false, eval e X.env) :: starEach [e2] X.env) (hpl : (backTo pos (starEach [e2] X.env)).any (·.1) = false) :
    PI X (.Tuple elts kk tpos) (.Call (.Name "zip" p) [e, e2] [] pos) (iZipM X.K ta) := by
  refine ⟨fun pins s σ H R I h => ?_⟩
  refine Call_ (ld_blt I hg hm PyProof.Rows.boot_zip (PyProof.Rows.callWith_type1 (thn (ha.run pos pins s σ H _ I h) fun us s1 ⟨vs, H1, I1, r1, q1⟩ => ?_) hs hpl))
  obtain ⟨t, u, a, b, xs, ys, ex, hqx, hqy, q⟩ := q1
  subst ex
  cases r1 with
  | cons r rr =>
    cases rr with
    | cons r' rr =>
      cases rr
      cases r
      cases r'
      obtain ⟨its, rv, p1⟩ := Sq.at I1 hqx
      obtain ⟨jts, rv2, p2⟩ := Sq.at I1 hqy
      have la : a < s1.heap.objs.size := p1.lt
      have lb : b < s1.heap.objs.size := p2.lt
      refine zip_begins2 (sBegins t a its.toArray) (sBegins u b jts.toArray) p1 p2 fun h' hz hTI hTO g1 g2 hsz hk => wpAny_pyIter_zip hz ?_
      have I2 : Inv X pins σ H1 { s1 with heap := h' } := I1.kept (t' := s1.toks) hk
      refine ⟨s1.heap.objs.size + 4, [s1.heap.objs.size + 4, s1.heap.objs.size + 2, s1.heap.objs.size + 3, s1.heap.objs.size, s1.heap.objs.size + 1], _, _, H1, rfl, I2,
        turnZ (zip_sep2 (fun c hc => by rw [List.mem_singleton.mp hc]; exact la) (fun c hc => by rw [List.mem_singleton.mp hc]; exact lb)) (Nat.ne_of_lt la) (Nat.ne_of_lt (Nat.lt_succ_of_lt lb)),
        ⟨hz, hTI, ⟨_, _, hTO⟩, itObj_it g1, itObj_it g2⟩, fun c hcm => ?_, q⟩
      have e' : c = s1.heap.objs.size + 4 ∨ c = s1.heap.objs.size + 2 ∨ c = s1.heap.objs.size + 3 ∨ c = s1.heap.objs.size ∨ c = s1.heap.objs.size + 1 := by simpa using hcm
      have hle : s1.heap.objs.size ≤ c := by
        rcases e' with z | z | z | z | z
        · rw [z]; exact Nat.le_add_right _ _
        · rw [z]; exact Nat.le_add_right _ _
        · rw [z]; exact Nat.le_add_right _ _
        · rw [z]; exact Nat.le_refl _
        · rw [z]; exact Nat.le_add_right _ _
      exact I1.fpOk hle (I1.hok.fresh hle)
end Fx

/-! Fx4: which expression of the text an expression of ours stands for; what its run does. -/
namespace Fx
open PySem PySem.Spec PyProof.Rows L2

/-- the names of the module: defs, classes, built-ins that nobody shadows, whole numbers -/
structure Nm where
  fn : List Str
  cls : List Str
  blt : List Str
  cst : List (Str × Int)
  pl : List Nat

def plainNm (x : Str) : Bool := !(x == ("__debug__" : Str)) && !(x == ("__classdict__" : Str)) && !decide (x = ("__name__" : Str))
def visB (sc : Scope) (x : Str) : Bool := match sc.names.lookup x with | some .local => true | some .cell => true | some .free => true | _ => false
def glB (sc : Scope) (x : Str) : Bool := decide (sc.names.lookup x = some .globalImplicit)
def locB (sc : Scope) (x : Str) : Bool := match sc.names.lookup x with | some .local => true | some .cell => true | _ => false
/-- a name of ours at slot i -/
def slotB (N : List Str) (sc : Scope) (i : Nat) (x : Str) : Bool := decide (N[i]? = some x) && visB sc x && plainNm x
def bltB (nm : Nm) (sc : Scope) (x : Str) (y : Str) : Bool := decide (x = y) && glB sc x && decide (x ∈ nm.blt)
def notStar : Expr → Bool | .Starred _ _ => false | _ => true
def notSet : Expr → Bool | .Set _ _ _ => false | _ => true
def notSl : Expr → Bool | .Slice _ _ _ _ => false | _ => true
def binOf : Pr → Option Operator
  | .add => some .Add | .sub => some .Sub | .mul => some .Mult | .mod => some .Mod | .fdiv => some .FloorDiv | .pow => some .Pow | _ => none
def cmpOf : Pr → Option CmpOp
  | .eq => some .Eq | .ne => some .NotEq | .lt => some .Lt | .le => some .LtE | .gt => some .Gt | .ge => some .GtE | .isB => some .Is | .notB => some .IsNot | _ => none
/-- built-in functions of one argument -/
def fun1 : Pr → Option Str
  | .len => some "len" | .abs => some "abs" | .repr => some "repr" | .sum => some "sum" | .all => some "all" | .any => some "any" | .sort => some "sorted" | .sortK => some "sorted"
  | .int => some "int" | .tuple => some "tuple" | .list => some "list" | _ => none
def tyS : Ty → Str | .int => "int" | .bool => "bool" | .str => "str" | .tuple => "tuple" | .list => "list"
def isOv : E → Bool | .ov _ => true | _ => false

mutual
def chkT (N : List Str) (sc : Scope) : Tg → Expr → Bool
  | .n i, p => match p with | .Name x _ => decide (N[i]? = some x) && locB sc x && plainNm x | _ => false
  | .t l, p => match p with | .Tuple es _ _ => chkTs N sc l es | _ => false
def chkTs (N : List Str) (sc : Scope) : List Tg → List Expr → Bool
  | [], [] => true
  | t :: l, p :: ps => notStar p && chkT N sc t p && chkTs N sc l ps
  | _, _ => false
end

mutual
def tgIn (own : List Nat) : Tg → Bool
  | .n i => decide (i ∈ own)
  | .t l => tgsIn own l
def tgsIn (own : List Nat) : List Tg → Bool
  | [] => true
  | t :: l => tgIn own t && tgsIn own l
end
mutual
/-- nothing of the text is called -/
def noCall : E → Bool
  | .pr _ args => noCalls args
  | .and a b => noCall a && noCall b
  | .or a b => noCall a && noCall b
  | .not a => noCall a
  | .ite c a b => noCall c && noCall a && noCall b
  | .chn _ _ a b c => noCall a && noCall b && noCall c
  | .call _ _ => false
  | .callV _ _ => false
  | .comp _ _ _ its _ _ => noCalls its
  | _ => true
def noCalls : List E → Bool
  | [] => true
  | e :: l => noCall e && noCalls l
end
section
variable (nm : Nm) (N : List Str)
/-- what a walked thing is made of -/
def iterArgs (sc : Scope) (k : IK) (tg iter : Expr) : Option (List Expr) := match k with
  | .seq => if notSet iter = true then some [iter] else none
  | .range1 => match iter with | .Call (.Name x _) [a] [] _ => if bltB nm sc x "range" = true then some [a] else none | _ => none
  | .range2 => match iter with | .Call (.Name x _) [a, b] [] _ => if bltB nm sc x "range" = true then some [a, b] else none | _ => none
  | .enum => match tg, iter with | .Tuple _ _ _, .Call (.Name x _) [a] [] _ => if bltB nm sc x "enumerate" = true then some [a] else none | _, _ => none
  | .zip => match tg, iter with | .Tuple _ _ _, .Call (.Name x _) [a, b] [] _ => if bltB nm sc x "zip" = true then some [a, b] else none | _, _ => none
  | _ => none
mutual
def chkE (sc : Scope) : E → Expr → Bool
  | .c d, p => match d, p with
    | .int i, .Constant (.int j) _ _ => decide (i = j)
    | .bl i, .Constant (.bool j) _ _ => decide (i = j)
    | .non, .Constant .none _ _ => true
    | .str i, .Constant (.str j) _ _ => decide (i = j)
    | _, _ => false
  | .g x d, p => match d, p with
    | .int i, .Name y _ => decide (x = y) && glB sc x && decide ((x, i) ∈ nm.cst) && plainNm x
    | _, _ => false
  | .f k, p => match p with | .Name y _ => decide (nm.fn[k]? = some y) && glB sc y && plainNm y | _ => false
  | .v i, p => match p with | .Name x _ => slotB N sc i x | _ => false
  | .ov _, _ => false
  | .pr q args, p => match p with
    | .BinOp a op b _ => decide (binOf q = some op) && chkW sc args [a, b]
    | .UnaryOp .USub a _ => decide (q = .neg) && chkW sc args [a]
    | .Compare a ops bs _ => match ops, bs with
      | [op], [b] => (decide (cmpOf q = some op) && notSet b && chkW sc args [a, b])
          || (match b with | .Constant .none _ _ => ((decide (q = .isN) && decide (op = .Is)) || (decide (q = .notN) && decide (op = .IsNot))) && chkW sc args [a] | _ => false)
      | _, _ => false
    | .Tuple es _ _ => decide (q = .tup) && chkL sc args es
    | .List es _ => (decide (q = .lst) || decide (q = .cel)) && chkL sc args es
    | .Subscript a b _ => match b with
      | .Slice lo hi st _ => match q, st with
        | .sl l h, none => decide (lo.isSome = l) && decide (hi.isSome = h) && (!l || !h || noCalls args) && chkW sc args (a :: (lo.toList ++ hi.toList))
        | .rev, some (.UnaryOp .USub (.Constant (.int 1) _ _) _) => !lo.isSome && !hi.isSome && chkW sc args [a]
        | _, _ => false
      | b => (decide (q = .ix) || decide (q = .dg)) && chkW sc args [a, b]
    | .Call f es kws pos => match f, kws with
      | .Name x _, [] => (match fun1 q with | some y => bltB nm sc x y && chkW sc args es && decide (es.length = 1) | none => false)
          || (match q, es with
            | .isi t, [a, .Name y _] => bltB nm sc x "isinstance" && bltB nm sc y (tyS t) && notStar a && chkW sc args [a]
            | _, _ => false)
      | .Attribute o m apos, [] => match q, es, o with
        | .get2, [a, b], .Name _ _ => decide (m = ("get" : Str)) && (apos.endLine == pos.line) && noCalls args && chkW sc args [o, a, b] && notStar a && notStar b
        | _, _, _ => false
      | _, _ => false
    | _ => false
  | .and a b, p => match p with
    | .BoolOp op vs pos => match op, vs with
      | .And, [x, y] => chkE sc a x && chkE sc b y
      | .And, x :: y :: z :: r => chkE sc a x && chkE sc b (.BoolOp .And (y :: z :: r) pos)
      | _, _ => false
    | _ => false
  | .or a b, p => match p with
    | .BoolOp op vs pos => match op, vs with
      | .Or, [x, y] => chkE sc a x && chkE sc b y
      | .Or, x :: y :: z :: r => chkE sc a x && chkE sc b (.BoolOp .Or (y :: z :: r) pos)
      | _, _ => false
    | _ => false
  | .not a, p => match p with | .UnaryOp .Not x _ => chkE sc a x | _ => false
  | .ite c a b, p => match p with | .IfExp x y z _ => chkE sc c x && chkE sc a y && chkE sc b z | _ => false
  | .chn q r a b c, p => match p with
    | .Compare x ops ys _ => match ops, ys with
      | [o1, o2], [y, z] => decide (cmpOf q = some o1) && decide (cmpOf r = some o2) && notSet y && notSet z && chkE sc a x && chkE sc b y && chkE sc c z
      | _, _ => false
    | _ => false
  | .call k args, p => match p with
    | .Call f es kws _ => match f, kws with
      | .Name x _, [] => decide (nm.fn[k]? = some x) && glB sc x && plainNm x && !es.isEmpty && chkL sc args es
      | _, _ => false
    | _ => false
  | .callV i args, p => match p with
    | .Call f es kws _ => match f, kws with
      | .Name x _, [] => slotB N sc i x && !es.isEmpty && chkL sc args es
      | _, _ => false
    | _ => false
  | .comp elt t k its conds own, p => match p with
    | .ListComp pe gens scope _ => match gens with
      | [⟨tg, iter, ifs, a⟩] => decide (a = 0) && (match iterArgs nm sc k tg iter with | some ps => chkW sc its ps | none => false) && blkC N sc scope (own.map fun i => (N.getD i Str.empty, i)) && chkT N scope t tg
          && tgIn own t && decide (conds.length ≤ 1) && chkL1 (relS scope sc) conds ifs && chkE (relS scope sc) elt pe
      | _ => false
    | _ => false
/-- the first may be somebody's own -/
def chkW (sc : Scope) : List E → List Expr → Bool
  | [], ps => ps.isEmpty
  | e :: l, ps => match ps with
    | p :: r => notStar p && (match e with | .ov i => (match p with | .Name x _ => slotB N sc i x | _ => false) | e => chkE sc e p) && chkL sc l r
    | [] => false
def chkL (sc : Scope) : List E → List Expr → Bool
  | [], ps => ps.isEmpty
  | e :: l, ps => match ps with | p :: r => notStar p && chkE sc e p && chkL sc l r | [] => false
def chkL1 (sc : Scope) : List E → List Expr → Bool
  | [], ps => ps.isEmpty
  | e :: l, ps => match ps with | p :: r => chkE sc e p && chkL1 sc l r | [] => false
end
end
end Fx

/-! Fx5: an expression of the text does what ours tells. -/
namespace Fx
open PySem PySem.Spec PyProof.Rows L2

/-- an exception of ours: the class c, with no fields -/
def ExK (C : Ct) (c : Nat) (fs : List D) (k : XK) (H : Hp) : Prop := match fs with
  | [] => ∃ a, C.ca c = some a ∧ k (.ref a) none H
  | _ => False
/-- what is to be shown of an outcome -/
def outE (C : Ct) (μ W : List Addr) (H : Hp) (k : XK) (Q : VK) : RE → Prop
  | .ok d M' => ∀ μ' H' v, Ext NoB μ W H μ' W H' → Wd C μ' W H' M' → Rep C μ' W H' d v → Q v H'
  | .ex c fs M' => ∀ μ' H', Ext NoB μ W H μ' W H' → Wd C μ' W H' M' → ExK C c fs k H'
  | .no => False
def outA (C : Ct) (μ W : List Addr) (H : Hp) (k : XK) (Q : VK) : RE → Prop
  | .ok d M' => ∀ μ' H' v, Ext NoB μ W H μ' W H' → Wd C μ' W H' M' → RepA C μ' W H' d v → Q v H'
  | .ex c fs M' => ∀ μ' H', Ext NoB μ W H μ' W H' → Wd C μ' W H' M' → ExK C c fs k H'
  | .no => False
def outL (C : Ct) (μ W : List Addr) (H : Hp) (k : XK) (Q : List V → Hp → Prop) : RL → Prop
  | .ok d M' => ∀ μ' H' v, Ext NoB μ W H μ' W H' → Wd C μ' W H' M' → Reps C μ' W H' d v → Q v H'
  | .ex c fs M' => ∀ μ' H', Ext NoB μ W H μ' W H' → Wd C μ' W H' M' → ExK C c fs k H'
  | .no => False
def outW (C : Ct) (μ W : List Addr) (H : Hp) (k : XK) (Q : List V → Hp → Prop) : RL → Prop
  | .ok d M' => ∀ μ' H' v, Ext NoB μ W H μ' W H' → Wd C μ' W H' M' → ArgsR C μ' W H' d v → Q v H'
  | .ex c fs M' => ∀ μ' H', Ext NoB μ W H μ' W H' → Wd C μ' W H' M' → ExK C c fs k H'
  | .no => False

section
variable {C : Ct} {μ μ' W : List Addr} {H H' : Hp} {k : XK} {Q : VK}
theorem outE.later {r : RE} (e : Ext NoB μ W H μ' W H') (h : outE C μ W H k Q r) : outE C μ' W H' k Q r := by
  cases r with
  | ok d M => exact fun μ2 H2 v e2 w r => h μ2 H2 v (e.trans0 e2) w r
  | ex c fs M => exact fun μ2 H2 e2 w => h μ2 H2 (e.trans0 e2) w
  | no => exact h
theorem outA.later {r : RE} (e : Ext NoB μ W H μ' W H') (h : outA C μ W H k Q r) : outA C μ' W H' k Q r := by
  cases r with
  | ok d M => exact fun μ2 H2 v e2 w r => h μ2 H2 v (e.trans0 e2) w r
  | ex c fs M => exact fun μ2 H2 e2 w => h μ2 H2 (e.trans0 e2) w
  | no => exact h
theorem outL.later {Q : List V → Hp → Prop} {r : RL} (e : Ext NoB μ W H μ' W H') (h : outL C μ W H k Q r) : outL C μ' W H' k Q r := by
  cases r with
  | ok d M => exact fun μ2 H2 v e2 w r => h μ2 H2 v (e.trans0 e2) w r
  | ex c fs M => exact fun μ2 H2 e2 w => h μ2 H2 (e.trans0 e2) w
  | no => exact h
theorem outW.later {Q : List V → Hp → Prop} {r : RL} (e : Ext NoB μ W H μ' W H') (h : outW C μ W H k Q r) : outW C μ' W H' k Q r := by
  cases r with
  | ok d M => exact fun μ2 H2 v e2 w r => h μ2 H2 v (e.trans0 e2) w r
  | ex c fs M => exact fun μ2 H2 e2 w => h μ2 H2 (e.trans0 e2) w
  | no => exact h
end

/-- a state: slots, heap and what they stand for -/
structure At (C : Ct) (Wo : List Addr) (μ W : List Addr) (ρ : Env) (M : Store) (σ : Sg) (H : Hp) : Prop where
  env : EnvR C μ W H Wo ρ σ
  wd : Wd C μ W H M
theorem At.later {C : Ct} {Wo μ μ' W : List Addr} {ρ : Env} {M M' : Store} {σ : Sg} {H H' : Hp} (a : At C Wo μ W ρ M σ H) (e : Ext NoB μ W H μ' W H') (w : Wd C μ' W H' M') : At C Wo μ' W ρ M' σ H' :=
  ⟨a.env.ext0 e a.wd.dis, w⟩

def tEv (C : Ct) (Wo : List Addr) (PX : Sg → XK) (ev : Env → Store → RE) : TE := fun σ H Q => ∃ μ W ρ M, At C Wo μ W ρ M σ H ∧ outE C μ W H (PX σ) Q (ev ρ M)
def tEvA (C : Ct) (Wo : List Addr) (PX : Sg → XK) (ev : Env → Store → RE) : TE := fun σ H Q => ∃ μ W ρ M, At C Wo μ W ρ M σ H ∧ outA C μ W H (PX σ) Q (ev ρ M)
def tEvL (C : Ct) (Wo : List Addr) (PX : Sg → XK) (ev : Env → Store → RL) : TA := fun σ H Q => ∃ μ W ρ M, At C Wo μ W ρ M σ H ∧ outL C μ W H (PX σ) Q (ev ρ M)
def tEvW (C : Ct) (Wo : List Addr) (PX : Sg → XK) (ev : Env → Store → RL) : TA := fun σ H Q => ∃ μ W ρ M, At C Wo μ W ρ M σ H ∧ outW C μ W H (PX σ) Q (ev ρ M)

/-! ### calls -/
/-- what a call of a def is to do -/
def spF (C : Ct) (call : Nat → List D → Store → RE) (j : Nat) : Sp := fun vs H Q E => ∃ μ W ds M, Reps C μ W H ds vs ∧ Wd C μ W H M ∧ outE C μ W H E Q (call j ds M)
/-- a def's promise where no repr runs -/
structure FnG (P : Program) (w : World) (K : PySem.W.Frag) (mg : Str → Option Value) (base : Heap) (k : Nat) (f : Addr) (fd : FuncData) (ps : List Str) (sp : Sp) : Prop where
  len : ∀ vs H Q E, sp vs H Q E → vs.length = ps.length
  run : ∀ (A : Around) (outer : List PySem.Env) (s : Shared) (H : Hp) (args : Args) (us : List Value) (vs : List V) (Q : VK) (E : XK), Room k A → A.guards = some [] → Env0 P w K mg base A outer s H → BindsTo s fd args (ps.zip us) → Vals vs us → sp vs H Q E →
    codeAny (model P w) A (.call (.ref f) args) (CR (L2.CX P w) outer P w H s Q E) s

/-- what is known where a body runs -/
structure Good (C : Ct) (nm : Nm) (call : Nat → List D → Store → RE) (n : Nat) (X : Cx) (PX : Sg → XK) : Prop where
  K : X.K = C.K
  nd : X.N.Nodup
  calm : X.calm = true
  room : Room n X.A
  grd : X.A.guards = some []
  mgf : ∀ k x, nm.fn[k]? = some x → ∃ a, C.fa k = some a ∧ X.mg x = some (.ref a)
  mgb : ∀ x ∈ nm.blt, X.mg x = none
  mgc : ∀ x i, (x, i) ∈ nm.cst → ∃ t, X.mg x = some (.int i t)
  fns : ∀ k a, C.fa k = some a → ∃ fd ps, FnG X.prog X.w X.K X.mg X.base n a fd ps (spF C call k) ∧ PySem.W.keepIn X.K (.ref a) = true ∧ Binds X.K fd ps []
  pass : ∀ σ, PassesAt (L2.CX X.prog X.w) X σ (PX σ)

theorem starCons {e : Expr} {es : List Expr} {env : PySem.Env} (h : notStar e = true) : starEach (e :: es) env = (false, eval e env) :: starEach es env := by
  cases e <;> first | rfl | cases h

section
variable {X : Cx} {C : Ct} {PX : Sg → XK} {n : Nat} {f : Addr} {fd : FuncData} {ps : List Str} {sp : Sp} {x : Str} {p pos : Pos} {e : Expr} {es : List Expr} {t : TA}
theorem runG {pins : List (Addr × Obj)} {σ : Sg} {H : Hp} {s : Shared} {Q : VK} {us : List Value} {vs : List V} (F : FnG X.prog X.w X.K X.mg X.base n f fd ps sp) (hr : Room n X.A) (hg : X.A.guards = some []) (hb : Binds X.K fd ps [])
    (hx : PassesAt (L2.CX X.prog X.w) X σ (PX σ)) (I : Inv X pins σ H s) (r : Vals vs us) (h : sp vs H Q (PX σ)) : wpAny (model X.prog X.w) X.A (call (.ref f) us) (EP X pins σ Q) X.xe s := by
  have hl : us.length = ps.length := r.length.symm.trans (F.len _ _ _ _ h)
  have b := hb s us I.kIn (by rw [List.append_nil]; exact hl)
  rw [List.append_nil] at b
  refine wpAny_call (codeAny_mono (F.run X.A X.stack s H ⟨us, []⟩ us vs Q (PX σ) hr hg I.env0 b r h) fun r s' hq => ?_)
  match r, hq with
  | .error e, hq => exact hx pins H s e s' I hq
  | .ok (.ret u), hq => exact I.after hq
theorem pe_callG (hN : ∃ a, X.mg x = some (.ref a) ∧ f = a) (F : FnG X.prog X.w X.K X.mg X.base n f fd ps sp) (hr : Room n X.A) (hgd : X.A.guards = some []) (hg : Gl X x) (hk : PySem.W.keepIn X.K (.ref f) = true) (hb : Binds X.K fd ps [])
    (hx : ∀ σ, PassesAt (L2.CX X.prog X.w) X σ (PX σ)) (ha : PA X (e :: es) t) (hd : (x == ("__debug__" : Str)) = false) (hs : notStar e = true) (hpl : (backTo pos (starEach es X.env)).any (·.1) = false) :
    PE X (.Call (.Name x p) (e :: es) [] pos) (fun σ H Q => t σ H fun vs H1 => sp vs H1 Q (PX σ)) := by
  obtain ⟨a, hm, rfl⟩ := hN
  refine ⟨fun pins s σ H Q I h => wpAny_Call_Name_kw (ld_glob I hg hm ?_ hd)⟩
  refine PySem.W.callWith_K (h₀ := X.base) I.ok.mod.kin hk (thn (ha.run pos pins s σ H _ I h) fun us s1 ⟨vs, H1, I1, r, q⟩ => ⟨I1.kIn, ?_⟩) (starCons hs) hpl
  exact runG (PX := PX) F hr hgd hb (hx σ) I1 r q
/-- a def that a slot holds -/
theorem pe_callH {i : Nat} {S : Nat → Sp} (hF : ∀ k a, C.fa k = some a → ∃ fd ps, FnG X.prog X.w X.K X.mg X.base n a fd ps (S k) ∧ PySem.W.keepIn X.K (.ref a) = true ∧ Binds X.K fd ps []) (hr : Room n X.A) (hgd : X.A.guards = some [])
    (hN : X.N[i]? = some x) (hv : Vis X.env.scope x) (hx : ∀ σ, PassesAt (L2.CX X.prog X.w) X σ (PX σ)) (ha : PA X (e :: es) t) (hd : (x == ("__debug__" : Str)) = false) (hcd : (x == ("__classdict__" : Str)) = false) (hs : notStar e = true) (hpl : (backTo pos (starEach es X.env)).any (·.1) = false) :
    PE X (.Call (.Name x p) (e :: es) [] pos) (fun σ H Q => ∃ k a, C.fa k = some a ∧ σ[i]? = some (some (.ref a)) ∧ t σ H fun vs H1 => S k vs H1 Q (PX σ)) := by
  refine ⟨fun pins s σ H Q I ⟨k, a, ha', hσ, h⟩ => ?_⟩
  obtain ⟨fd, ps, F, hk, hb⟩ := hF k a ha'
  refine wpAny_Call_Name_kw (thn ((pe_var (pos := p) hN hv hd hcd).run pins s σ H (fun v H1 => v = .ref a ∧ H1 = H) I ⟨.ref a, hσ, rfl, rfl⟩) fun u s1 ⟨v, H1, I1, r1, q1⟩ => ?_)
  obtain ⟨e1, e2⟩ := q1
  subst e1 e2
  cases r1
  refine PySem.W.callWith_K (h₀ := X.base) I.ok.mod.kin hk (thn (ha.run pos pins s1 σ _ _ I1 h) fun us s2 ⟨vs, H2, I2, r, q⟩ => ⟨I2.kIn, ?_⟩) (starCons hs) hpl
  exact runG (PX := PX) F hr hgd hb (hx σ) I2 r q
end

/-! ### weaker readings -/
section
variable {X : Cx} {e : Expr} {es : List Expr}
theorem PEimp {t t' : TE} (h : PE X e t) (i : ∀ σ H Q, t' σ H Q → t σ H Q) : PE X e t' := ⟨fun pins s σ H Q I q => h.run pins s σ H Q I (i σ H Q q)⟩
theorem PTimp {t t' : TT} (h : PT X e t) (i : ∀ σ H Q, t' σ H Q → t σ H Q) : PT X e t' := ⟨fun pins s σ H Q I q => h.run pins s σ H Q I (i σ H Q q)⟩
theorem PWimp {t t' : TT} (h : PW X e t) (i : ∀ σ H Q, t' σ H Q → t σ H Q) : PW X e t' := ⟨fun wh pins s σ H Q I q => h.run wh pins s σ H Q I (i σ H Q q)⟩
theorem PAimp {t t' : TA} (h : PA X es t) (i : ∀ σ H Q, t' σ H Q → t σ H Q) : PA X es t' := ⟨fun pos pins s σ H Q I q => h.run pos pins s σ H Q I (i σ H Q q)⟩
end

section
variable (C : Ct) (nm : Nm) (cf : Cf) (n : Nat) (Wo : List Addr)
/-- an expression of ours stands for those that the check lets -/
structure Snd (e : E) : Prop where
  pe : ∀ (X : Cx) (PX : Sg → XK) (sc : Scope) (p : Expr), Good C nm cf.call n X PX → X.env.scope = sc → chkE nm X.N sc e p = true → PE X p (tEv C Wo PX (evE cf e))
  pt : ∀ (X : Cx) (PX : Sg → XK) (sc : Scope) (p : Expr), Good C nm cf.call n X PX → X.env.scope = sc → chkE nm X.N sc e p = true → PT X p (tB (tEv C Wo PX (evE cf e)))
  pw : ∀ (X : Cx) (PX : Sg → XK) (sc : Scope) (op : BoolOp) (vs : List Expr) (pos : Pos), Good C nm cf.call n X PX → X.env.scope = sc → chkE nm X.N sc e (.BoolOp op vs pos) = true → PW X (.BoolOp op vs pos) (tB (tEv C Wo PX (evE cf e)))
def AllPE (X : Cx) (PX : Sg → XK) : List E → List Expr → Prop
  | [], ps => ps = []
  | e :: l, ps => ∃ p r, ps = p :: r ∧ notStar p = true ∧ PE X p (tEv C Wo PX (evE cf e)) ∧ AllPE X PX l r
def WPE (X : Cx) (PX : Sg → XK) : List E → List Expr → Prop
  | [], ps => ps = []
  | e :: l, ps => ∃ p r, ps = p :: r ∧ notStar p = true ∧ PE X p (tEvA C Wo PX (evE cf e)) ∧ AllPE C cf Wo X PX l r
end

section
variable {C : Ct} {nm : Nm} {cf : Cf} {n : Nat} {Wo : List Addr} {X : Cx} {PX : Sg → XK}
theorem vis_of {sc : Scope} {x : Str} (h : visB sc x = true) : Vis sc x := by
  unfold visB at h
  split at h <;> first | (rename_i q; first | exact .inl q | exact .inr (.inl q) | exact .inr (.inr q)) | cases h
theorem nm_of {x : Str} (h : plainNm x = true) : (x == ("__debug__" : Str)) = false ∧ (x == ("__classdict__" : Str)) = false ∧ x ≠ "__name__" := by
  unfold plainNm at h
  simp only [Bool.and_eq_true, Bool.not_eq_true', decide_eq_false_iff_not] at h
  exact ⟨h.1.1, h.1.2, h.2⟩
theorem slot_of {N : List Str} {sc : Scope} {i : Nat} {x : Str} (h : slotB N sc i x = true) : N[i]? = some x ∧ Vis sc x ∧ (x == ("__debug__" : Str)) = false ∧ (x == ("__classdict__" : Str)) = false := by
  unfold slotB at h
  simp only [Bool.and_eq_true, decide_eq_true_eq] at h
  exact ⟨h.1.1, vis_of h.1.2, (nm_of h.2).1, (nm_of h.2).2.1⟩
theorem gl_of {sc : Scope} {x : Str} (hX : X.env.scope = sc) (h : glB sc x = true) : Gl X x := by
  subst hX
  unfold glB at h
  have := of_decide_eq_true h
  exact this
theorem blt_of {sc : Scope} {x y : Str} (hX : X.env.scope = sc) (h : bltB nm sc x y = true) : x = y ∧ Gl X x ∧ x ∈ nm.blt := by
  unfold bltB at h
  simp only [Bool.and_eq_true, decide_eq_true_eq] at h
  exact ⟨h.1.1, gl_of hX h.1.2, h.2⟩

theorem relA (r : RE) (μ W H) (k : XK) (Q : VK) (h : outA C μ W H k Q r) : outE C μ W H k Q r := by
  cases r with
  | ok d M => exact fun μ' H' v e w q => h μ' H' v e w (.inl q)
  | ex c fs M => exact h
  | no => exact h

theorem allPE {l : List E} : ∀ (sc : Scope) (ps : List Expr), (∀ e ∈ l, Snd C nm cf n Wo e) → Good C nm cf.call n X PX → X.env.scope = sc → chkL nm X.N sc l ps = true → AllPE C cf Wo X PX l ps := by
  induction l with
  | nil =>
    intro sc ps _ _ _ h
    unfold chkL at h
    exact List.isEmpty_iff.mp h
  | cons e l ih =>
    intro sc ps hs g hX h
    unfold chkL at h
    split at h
    · rename_i p r
      simp only [Bool.and_eq_true] at h
      exact ⟨p, r, rfl, h.1.1, (hs e List.mem_cons_self).pe X PX sc p g hX h.1.2, ih sc r (fun e' h' => hs e' (List.mem_cons_of_mem _ h')) g hX h.2⟩
    · cases h
theorem wPE {l : List E} : ∀ (sc : Scope) (ps : List Expr), (∀ e ∈ l, Snd C nm cf n Wo e) → Good C nm cf.call n X PX → X.env.scope = sc → chkW nm X.N sc l ps = true → WPE C cf Wo X PX l ps := by
  cases l with
  | nil =>
    intro sc ps _ _ _ h
    unfold chkW at h
    exact List.isEmpty_iff.mp h
  | cons e l =>
    intro sc ps hs g hX h
    unfold chkW at h
    split at h
    · rename_i p r
      simp only [Bool.and_eq_true] at h
      refine ⟨p, r, rfl, h.1.1, ?_, allPE sc r (fun e' h' => hs e' (List.mem_cons_of_mem _ h')) g hX h.2⟩
      have h2 := h.1.2
      split at h2
      · rename_i i
        split at h2
        · rename_i x pos
          obtain ⟨h3, h4, h5, h6⟩ := slot_of h2
          refine PEimp (pe_var h3 (hX ▸ h4) h5 h6) fun σ H Q ⟨μ, W, ρ, M, a, o⟩ => ?_
          unfold evE at o
          split at o
          · rename_i d hd
            have o : ∀ μ' H' v, Ext NoB μ W H μ' W H' → Wd C μ' W H' M → RepA C μ' W H' d v → Q v H' := o
            obtain ⟨q, e1, e2, _, e3⟩ := a.env.own i d hd
            exact ⟨.ref q, e1, o μ H _ Ext.refl a.wd (.inr ⟨q, rfl, e2, e3⟩)⟩
          · exact o.elim
        · cases h2
      · rename_i hn
        have q := (hs e List.mem_cons_self).pe X PX sc p g hX h2
        exact PEimp q fun σ H Q ⟨μ, W, ρ, M, a, o⟩ => ⟨μ, W, ρ, M, a, relA _ _ _ _ _ _ o⟩
    · cases h

/-- lists of arguments -/
theorem paL : ∀ {l : List E} {ps : List Expr}, AllPE C cf Wo X PX l ps → PA X ps (tEvL C Wo PX (evL cf l))
  | [], ps, h => by
    cases (show ps = [] from h)
    exact PAimp pa_nil fun σ H Q ⟨μ, W, ρ, M, a, o⟩ => o μ H [] Ext.refl a.wd rfl
  | e :: l, ps, ⟨p, r, hp, hs, h1, h2⟩ => by
    subst hp
    refine PAimp (pa_cons h1 (paL h2) (starCons hs)) fun σ H Q ⟨μ, W, ρ, M, a, o⟩ => ⟨μ, W, ρ, M, a, ?_⟩
    unfold evL at o
    cases he : evE cf e ρ M with
    | no => rw [he] at o; exact o
    | ex c fs M1 => rw [he] at o; exact o
    | ok d M1 =>
      rw [he] at o
      intro μ1 H1 v e1 w1 r1
      refine ⟨μ1, W, ρ, M1, a.later e1 w1, ?_⟩
      have o : outL C μ W H (PX σ) Q ((evL cf l ρ M1).bdL fun ds M2 => .ok (d :: ds) M2) := o
      cases hl : evL cf l ρ M1 with
      | no => rw [hl] at o; exact o
      | ex c fs M2 => rw [hl] at o; exact fun μ2 H2 e2 w2 => o μ2 H2 (e1.trans0 e2) w2
      | ok ds M2 =>
        rw [hl] at o
        exact fun μ2 H2 vs e2 w2 r2 => o μ2 H2 _ (e1.trans0 e2) w2 ⟨v, vs, rfl, Rep.ext e2 (fun _ z => z.elim) d v r1, r2⟩
theorem RepA.later {μ μ' W : List Addr} {H H' : Hp} {d : D} {v : V} {M : Store} (e : Ext NoB μ W H μ' W H') (w : Wd C μ W H M) (r : RepA C μ W H d v) : RepA C μ' W H' d v := by
  rcases r with r | ⟨a, ha, hw, r⟩
  · exact .inl (Rep.ext e (fun _ z => z.elim) d v r)
  · exact .inr ⟨a, ha, hw, r.ext e (fun _ z => z.elim) fun o ho => e.keep a o ho (w.dis a hw) id⟩
theorem paW : ∀ {l : List E} {ps : List Expr}, WPE C cf Wo X PX l ps → PA X ps (tEvW C Wo PX (evL cf l))
  | [], ps, h => by
    cases (show ps = [] from h)
    exact PAimp pa_nil fun σ H Q ⟨μ, W, ρ, M, a, o⟩ => o μ H [] Ext.refl a.wd rfl
  | e :: l, ps, ⟨p, r, hp, hs, h1, h2⟩ => by
    subst hp
    refine PAimp (pa_cons h1 (paL h2) (starCons hs)) fun σ H Q ⟨μ, W, ρ, M, a, o⟩ => ⟨μ, W, ρ, M, a, ?_⟩
    unfold evL at o
    cases he : evE cf e ρ M with
    | no => rw [he] at o; exact o
    | ex c fs M1 => rw [he] at o; exact o
    | ok d M1 =>
      rw [he] at o
      intro μ1 H1 v e1 w1 r1
      refine ⟨μ1, W, ρ, M1, a.later e1 w1, ?_⟩
      have o : outW C μ W H (PX σ) Q ((evL cf l ρ M1).bdL fun ds M2 => .ok (d :: ds) M2) := o
      cases hl : evL cf l ρ M1 with
      | no => rw [hl] at o; exact o
      | ex c fs M2 => rw [hl] at o; exact fun μ2 H2 e2 w2 => o μ2 H2 (e1.trans0 e2) w2
      | ok ds M2 =>
        rw [hl] at o
        exact fun μ2 H2 vs e2 w2 r2 => o μ2 H2 _ (e1.trans0 e2) w2 ⟨v, vs, rfl, r1.later e2 w1, r2⟩
theorem noStars : ∀ {l : List E} {ps : List Expr} {pos : Pos}, AllPE C cf Wo X PX l ps → (backTo pos (starEach ps X.env)).any (·.1) = false
  | [], ps, _, h => by cases (show ps = [] from h); rfl
  | e :: l, ps, pos, ⟨p, r, hp, hs, h1, h2⟩ => by
    subst hp
    rw [starCons hs]
    exact noStars (pos := pos) h2
end
end Fx

/-! Fx6: the expressions, one by one. -/
namespace Fx
open PySem PySem.Spec PyProof.Rows L2

theorem ofO_noex {o : Option D} {M M' : Store} {c : Nat} {fs : List D} (h : RE.ofO o M = .ex c fs M') : False := by cases o <;> cases h
theorem prm_noex (p : Pr) (ds : List D) (M : Store) (c : Nat) (fs : List D) (M' : Store) (h : prm p ds M = .ex c fs M') : False := by
  cases p <;> simp only [prm] at h <;>
    (first
      | unfold pAdd at h | unfold pII at h | unfold pNeg at h | unfold pEq at h | unfold pNon at h | unfold pBB at h | unfold pIx at h | unfold pDg at h | unfold pSl at h | unfold pRev at h | unfold pLen at h
      | unfold pAbs at h | unfold pInt at h | unfold pRepr at h | unfold pSum at h | unfold pBls at h | unfold pTuple at h | unfold pList at h | unfold pSort at h | unfold pSortK at h | unfold pIsi at h | unfold pGet2 at h | skip) <;>
    (repeat' (split at h)) <;> (first | cases h | exact ofO_noex h)

mutual
theorem noex (cf : Cf) : ∀ (e : E), noCall e = true → ∀ (ρ : Env) (M : Store) (c : Nat) (fs : List D) (M' : Store), evE cf e ρ M ≠ .ex c fs M'
  | .c d, _, ρ, M, c, fs, M', h => by unfold evE at h; cases h
  | .g _ d, _, ρ, M, c, fs, M', h => by unfold evE at h; cases h
  | .f _, _, ρ, M, c, fs, M', h => by unfold evE at h; cases h
  | .v i, _, ρ, M, c, fs, M', h => by unfold evE at h; split at h <;> cases h
  | .ov i, _, ρ, M, c, fs, M', h => by unfold evE at h; split at h <;> cases h
  | .pr p args, hn, ρ, M, c, fs, M', h => by
    unfold evE at h
    cases hl : evL cf args ρ M with
    | no => rw [hl] at h; cases h
    | ex c' fs' M1 => exact noexs cf args hn _ _ _ _ _ hl
    | ok ds M1 => rw [hl] at h; exact prm_noex p ds M1 c fs M' h
  | .and a b, hn, ρ, M, c, fs, M', h => by
    unfold noCall at hn
    simp only [Bool.and_eq_true] at hn
    unfold evE at h
    cases hl : evE cf a ρ M with
    | no => rw [hl] at h; cases h
    | ex c' fs' M1 => exact noex cf a hn.1 _ _ _ _ _ hl
    | ok d M1 =>
      rw [hl] at h
      simp only [RE.bd] at h
      split at h
      · exact noex cf b hn.2 _ _ _ _ _ h
      · cases h
      · cases h
  | .or a b, hn, ρ, M, c, fs, M', h => by
    unfold noCall at hn
    simp only [Bool.and_eq_true] at hn
    unfold evE at h
    cases hl : evE cf a ρ M with
    | no => rw [hl] at h; cases h
    | ex c' fs' M1 => exact noex cf a hn.1 _ _ _ _ _ hl
    | ok d M1 =>
      rw [hl] at h
      simp only [RE.bd] at h
      split at h
      · exact noex cf b hn.2 _ _ _ _ _ h
      · cases h
      · cases h
  | .not a, hn, ρ, M, c, fs, M', h => by
    unfold evE at h
    cases hl : evE cf a ρ M with
    | no => rw [hl] at h; cases h
    | ex c' fs' M1 => exact noex cf a hn _ _ _ _ _ hl
    | ok d M1 =>
      rw [hl] at h
      simp only [RE.bd] at h
      split at h <;> cases h
  | .ite a b d, hn, ρ, M, c, fs, M', h => by
    unfold noCall at hn
    simp only [Bool.and_eq_true] at hn
    unfold evE at h
    cases hl : evE cf a ρ M with
    | no => rw [hl] at h; cases h
    | ex c' fs' M1 => exact noex cf a hn.1.1 _ _ _ _ _ hl
    | ok x M1 =>
      rw [hl] at h
      simp only [RE.bd] at h
      split at h
      · exact noex cf b hn.1.2 _ _ _ _ _ h
      · exact noex cf d hn.2 _ _ _ _ _ h
      · cases h
  | .chn p q a b d, hn, ρ, M, c, fs, M', h => by
    unfold noCall at hn
    simp only [Bool.and_eq_true] at hn
    unfold evE at h
    cases hl : evE cf a ρ M with
    | no => rw [hl] at h; cases h
    | ex c' fs' M1 => exact noex cf a hn.1.1 _ _ _ _ _ hl
    | ok x M1 =>
      rw [hl] at h
      simp only [RE.bd] at h
      cases h2 : evE cf b ρ M1 with
      | no => rw [h2] at h; cases h
      | ex c' fs' M2 => exact noex cf b hn.1.2 _ _ _ _ _ h2
      | ok y M2 =>
        rw [h2] at h
        simp only at h
        cases h3 : prm p [x, y] M2 with
        | no => rw [h3] at h; cases h
        | ex c' fs' M3 => exact prm_noex p _ M2 _ _ _ h3
        | ok r M3 =>
          rw [h3] at h
          simp only at h
          split at h
          · cases h4 : evE cf d ρ M3 with
            | no => rw [h4] at h; cases h
            | ex c' fs' M4 => exact noex cf d hn.2 _ _ _ _ _ h4
            | ok z M4 => rw [h4] at h; exact prm_noex q _ M4 _ _ _ h
          · cases h
          · cases h
  | .call _ _, hn, _, _, _, _, _, _ => by cases hn
  | .callV _ _, hn, _, _, _, _, _, _ => by cases hn
  | .comp elt t k its conds own, hn, ρ, M, c, fs, M', h => by
    unfold evE at h
    cases hl : evL cf its ρ M with
    | no => rw [hl] at h; cases h
    | ex c' fs' M1 => exact noexs cf its hn _ _ _ _ _ hl
    | ok ds M1 =>
      rw [hl] at h
      simp only [RL.bd] at h
      repeat' (split at h)
      all_goals cases h
theorem noexs (cf : Cf) : ∀ (l : List E), noCalls l = true → ∀ (ρ : Env) (M : Store) (c : Nat) (fs : List D) (M' : Store), evL cf l ρ M ≠ .ex c fs M'
  | [], _, ρ, M, c, fs, M', h => by unfold evL at h; cases h
  | e :: l, hn, ρ, M, c, fs, M', h => by
    unfold noCalls at hn
    simp only [Bool.and_eq_true] at hn
    unfold evL at h
    cases hl : evE cf e ρ M with
    | no => rw [hl] at h; cases h
    | ex c' fs' M1 => exact noex cf e hn.1 _ _ _ _ _ hl
    | ok d M1 =>
      rw [hl] at h
      simp only [RE.bdL] at h
      cases h2 : evL cf l ρ M1 with
      | no => rw [h2] at h; cases h
      | ex c' fs' M2 => exact noexs cf l hn.2 _ _ _ _ _ h2
      | ok ds M2 => rw [h2] at h; cases h
end

section
variable {C : Ct} {nm : Nm} {cf : Cf} {n : Nat} {Wo : List Addr} {X : Cx} {PX : Sg → XK} {σ : Sg} {H : Hp} {Q : VK} {p : Pr}
theorem prm_out {μ W : List Addr} {ds : List D} {M : Store} {k : XK} {vs : List V} (a : ArgsR C μ W H ds vs) (w : Wd C μ W H M) (o : outE C μ W H k Q (prm p ds M)) : rPr C p vs H Q := by
  cases h : prm p ds M with
  | no => rw [h] at o; exact o.elim
  | ex c fs M' => exact (prm_noex p ds M c fs M' h).elim
  | ok d M' => rw [h] at o; exact ⟨μ, W, ds, M, d, M', a, w, h, o⟩
theorem list_read {args : List E} (h : tEv C Wo PX (evE cf (.pr p args)) σ H Q) : tEvW C Wo PX (evL cf args) σ H fun vs H1 => rPr C p vs H1 Q := by
  obtain ⟨μ, W, ρ, M, a, o⟩ := h
  refine ⟨μ, W, ρ, M, a, ?_⟩
  unfold evE at o
  cases hl : evL cf args ρ M with
  | no => rw [hl] at o; exact o
  | ex c fs M1 => rw [hl] at o; exact o
  | ok ds M1 =>
    rw [hl] at o
    exact fun μ1 H1 vs e1 w1 r1 => prm_out r1 w1 (outE.later e1 o)
theorem listS_read {args : List E} (h : tEv C Wo PX (evE cf (.pr p args)) σ H Q) : tEvL C Wo PX (evL cf args) σ H fun vs H1 => ∃ μ W ds M k, Reps C μ W H1 ds vs ∧ Wd C μ W H1 M ∧ outE C μ W H1 k Q (prm p ds M) := by
  obtain ⟨μ, W, ρ, M, a, o⟩ := h
  refine ⟨μ, W, ρ, M, a, ?_⟩
  unfold evE at o
  cases hl : evL cf args ρ M with
  | no => rw [hl] at o; exact o
  | ex c fs M1 => rw [hl] at o; exact o
  | ok ds M1 =>
    rw [hl] at o
    exact fun μ1 H1 vs e1 w1 r1 => ⟨μ1, W, ds, M1, _, r1, w1, outE.later e1 o⟩
theorem un_read {ea : E} (h : tEv C Wo PX (evE cf (.pr p [ea])) σ H Q) : tEvA C Wo PX (evE cf ea) σ H fun x H1 => rPr C p [x] H1 Q := by
  obtain ⟨μ, W, ρ, M, a, o⟩ := h
  refine ⟨μ, W, ρ, M, a, ?_⟩
  simp only [evE, evL] at o
  cases he : evE cf ea ρ M with
  | no => rw [he] at o; exact o
  | ex c fs M1 => rw [he] at o; exact o
  | ok d M1 =>
    rw [he] at o
    exact fun μ1 H1 v e1 w1 r1 => prm_out (ds := [d]) ⟨v, [], rfl, r1, rfl⟩ w1 (outE.later e1 o)
theorem bin_read {ea eb : E} (h : tEv C Wo PX (evE cf (.pr p [ea, eb])) σ H Q) : tEvA C Wo PX (evE cf ea) σ H fun x H1 => tEv C Wo PX (evE cf eb) σ H1 fun y H2 => rPr C p [x, y] H2 Q := by
  obtain ⟨μ, W, ρ, M, a, o⟩ := h
  refine ⟨μ, W, ρ, M, a, ?_⟩
  simp only [evE, evL] at o
  cases he : evE cf ea ρ M with
  | no => rw [he] at o; exact o
  | ex c fs M1 => rw [he] at o; exact o
  | ok d M1 =>
    rw [he] at o
    intro μ1 H1 x e1 w1 r1
    refine ⟨μ1, W, ρ, M1, a.later e1 w1, ?_⟩
    simp only [RE.bdL] at o
    cases hf : evE cf eb ρ M1 with
    | no => rw [hf] at o; exact o
    | ex c fs M2 => rw [hf] at o; exact fun μ2 H2 e2 w2 => o μ2 H2 (e1.trans0 e2) w2
    | ok d2 M2 =>
      rw [hf] at o
      exact fun μ2 H2 y e2 w2 r2 => prm_out (ds := [d, d2]) ⟨x, [y], rfl, r1.later e2 w1, y, [], rfl, r2, rfl⟩ w2 (outE.later (e1.trans0 e2) o)
theorem tri_read {ea eb ec : E} (h : tEv C Wo PX (evE cf (.pr p [ea, eb, ec])) σ H Q) :
    tEvA C Wo PX (evE cf ea) σ H fun x H1 => tEv C Wo PX (evE cf eb) σ H1 fun y H2 => tEv C Wo PX (evE cf ec) σ H2 fun z H3 => rPr C p [x, y, z] H3 Q := by
  obtain ⟨μ, W, ρ, M, a, o⟩ := h
  refine ⟨μ, W, ρ, M, a, ?_⟩
  simp only [evE, evL] at o
  cases he : evE cf ea ρ M with
  | no => rw [he] at o; exact o
  | ex c fs M1 => rw [he] at o; exact o
  | ok d M1 =>
    rw [he] at o
    intro μ1 H1 x e1 w1 r1
    refine ⟨μ1, W, ρ, M1, a.later e1 w1, ?_⟩
    simp only [RE.bdL] at o
    cases hf : evE cf eb ρ M1 with
    | no => rw [hf] at o; exact o
    | ex c fs M2 => rw [hf] at o; exact fun μ2 H2 e2 w2 => o μ2 H2 (e1.trans0 e2) w2
    | ok d2 M2 =>
      rw [hf] at o
      intro μ2 H2 y e2 w2 r2
      refine ⟨μ2, W, ρ, M2, (a.later e1 w1).later e2 w2, ?_⟩
      simp only at o
      cases hg : evE cf ec ρ M2 with
      | no => rw [hg] at o; exact o
      | ex c fs M3 => rw [hg] at o; exact fun μ3 H3 e3 w3 => o μ3 H3 ((e1.trans0 e2).trans0 e3) w3
      | ok d3 M3 =>
        rw [hg] at o
        exact fun μ3 H3 z e3 w3 r3 => prm_out (ds := [d, d2, d3]) ⟨x, [y, z], rfl, r1.later (e2.trans0 e3) w1, y, [z], rfl, Rep.ext e3 (fun _ z => z.elim) d2 y r2, z, [], rfl, r3, rfl⟩ w3 (outE.later ((e1.trans0 e2).trans0 e3) o)

theorem tri_sl {ea eb ec : E} (hne : ∀ ρ M c fs M', evE cf ec ρ M ≠ .ex c fs M') (hd : ∀ d d2 d3 M d' M', prm p [d, d2, d3] M = .ok d' M' → (∃ i, d2 = .int i)) (h : tEv C Wo PX (evE cf (.pr p [ea, eb, ec])) σ H Q) :
    tEvA C Wo PX (evE cf ea) σ H fun x H1 => tEv C Wo PX (evE cf eb) σ H1 fun y H2 => ∃ i, y = .int i ∧ tEv C Wo PX (evE cf ec) σ H2 fun z H3 => rPr C p [x, .int i, z] H3 Q := by
  obtain ⟨μ, W, ρ, M, a, o⟩ := h
  refine ⟨μ, W, ρ, M, a, ?_⟩
  simp only [evE, evL] at o
  cases he : evE cf ea ρ M with
  | no => rw [he] at o; exact o
  | ex c fs M1 => rw [he] at o; exact o
  | ok d M1 =>
    rw [he] at o
    intro μ1 H1 x e1 w1 r1
    refine ⟨μ1, W, ρ, M1, a.later e1 w1, ?_⟩
    simp only [RE.bdL] at o
    cases hf : evE cf eb ρ M1 with
    | no => rw [hf] at o; exact o
    | ex c fs M2 => rw [hf] at o; exact fun μ2 H2 e2 w2 => o μ2 H2 (e1.trans0 e2) w2
    | ok d2 M2 =>
      rw [hf] at o
      intro μ2 H2 y e2 w2 r2
      simp only at o
      cases hg : evE cf ec ρ M2 with
      | no => rw [hg] at o; exact o.elim
      | ex c fs M3 => exact (hne _ _ _ _ _ hg).elim
      | ok d3 M3 =>
        rw [hg] at o
        have o : outE C μ W H (PX σ) Q (prm p [d, d2, d3] M3) := o
        have hi : ∃ i, d2 = .int i := by
          cases hp : prm p [d, d2, d3] M3 with
          | no => rw [hp] at o; exact o.elim
          | ex c fs M' => exact (prm_noex p _ M3 c fs M' hp).elim
          | ok d' M' => exact hd _ _ _ _ _ _ hp
        obtain ⟨i, rfl⟩ := hi
        cases (show _ = _ from r2)
        refine ⟨i, rfl, μ2, W, ρ, M2, (a.later e1 w1).later e2 w2, ?_⟩
        rw [hg]
        exact fun μ3 H3 z e3 w3 r3 => prm_out (ds := [d, .int i, d3]) ⟨x, [.int i, z], rfl, r1.later (e2.trans0 e3) w1, .int i, [z], rfl, rfl, z, [], rfl, r3, rfl⟩ w3 (outE.later ((e1.trans0 e2).trans0 e3) o)
theorem tri_get {ea eb ec : E} (hd : ∀ d d2 d3 M d' M', prm p [d, d2, d3] M = .ok d' M' → ∃ ks vs, d = .dic ks vs) (hne : ∀ ρ M c fs M', evE cf ec ρ M ≠ .ex c fs M') (hne2 : ∀ ρ M c fs M', evE cf eb ρ M ≠ .ex c fs M')
    (h : tEv C Wo PX (evE cf (.pr p [ea, eb, ec])) σ H Q) :
    tEvA C Wo PX (evE cf ea) σ H fun x H1 => (∃ a, ∃ kvs : List (Key × V), x = .ref a ∧ H1 a = some (.dK kvs)) ∧ tEv C Wo PX (evE cf eb) σ H1 fun y H2 => tEv C Wo PX (evE cf ec) σ H2 fun z H3 => rPr C p [x, y, z] H3 Q := by
  obtain ⟨μ, W, ρ, M, a, o⟩ := h
  refine ⟨μ, W, ρ, M, a, ?_⟩
  simp only [evE, evL] at o
  cases he : evE cf ea ρ M with
  | no => rw [he] at o; exact o
  | ex c fs M1 => rw [he] at o; exact o
  | ok d M1 =>
    rw [he] at o
    simp only [RE.bdL] at o
    cases hf : evE cf eb ρ M1 with
    | no => rw [hf] at o; exact o.elim
    | ex c fs M2 => exact (hne2 _ _ _ _ _ hf).elim
    | ok d2 M2 =>
      rw [hf] at o
      simp only at o
      cases hg : evE cf ec ρ M2 with
      | no => rw [hg] at o; exact o.elim
      | ex c fs M3 => exact (hne _ _ _ _ _ hg).elim
      | ok d3 M3 =>
        rw [hg] at o
        have o : outE C μ W H (PX σ) Q (prm p [d, d2, d3] M3) := o
        have hi : ∃ ks vs, d = .dic ks vs := by
          cases hp : prm p [d, d2, d3] M3 with
          | no => rw [hp] at o; exact o.elim
          | ex c fs M' => exact (prm_noex p _ M3 c fs M' hp).elim
          | ok d' M' => exact hd _ _ _ _ _ _ hp
        obtain ⟨ks, vs, rfl⟩ := hi
        intro μ1 H1 x e1 w1 r1
        refine ⟨?_, μ1, W, ρ, M1, a.later e1 w1, ?_⟩
        · obtain ⟨q, kvs, h1, h2, _⟩ := r1.dic
          exact ⟨q, kvs, h1, h2⟩
        · rw [hf]
          intro μ2 H2 y e2 w2 r2
          refine ⟨μ2, W, ρ, M2, (a.later e1 w1).later e2 w2, ?_⟩
          rw [hg]
          exact fun μ3 H3 z e3 w3 r3 => prm_out (ds := [.dic ks vs, d2, d3]) ⟨x, [y, z], rfl, r1.later (e2.trans0 e3) w1, y, [z], rfl, Rep.ext e3 (fun _ z => z.elim) d2 y r2, z, [], rfl, r3, rfl⟩ w3 (outE.later ((e1.trans0 e2).trans0 e3) o)

theorem wpe1 {args : List E} {a : Expr} (h : WPE C cf Wo X PX args [a]) : ∃ ea, args = [ea] ∧ notStar a = true ∧ PE X a (tEvA C Wo PX (evE cf ea)) := by
  cases args with
  | nil => cases h
  | cons e l =>
    obtain ⟨q, r, e1, h1, h2, h3⟩ := h
    cases e1
    cases l with
    | nil => exact ⟨e, rfl, h1, h2⟩
    | cons e' l' => obtain ⟨_, _, z, _⟩ := h3; cases z
theorem wpe2 {args : List E} {a b : Expr} (h : WPE C cf Wo X PX args [a, b]) : ∃ ea eb, args = [ea, eb] ∧ PE X a (tEvA C Wo PX (evE cf ea)) ∧ PE X b (tEv C Wo PX (evE cf eb)) ∧ notStar a = true ∧ notStar b = true := by
  cases args with
  | nil => cases h
  | cons e l =>
    obtain ⟨q, r, e1, h1, h2, h3⟩ := h
    cases e1
    cases l with
    | nil => cases h3
    | cons e' l' =>
      obtain ⟨q', r', e2, h4, h5, h6⟩ := h3
      cases e2
      cases l' with
      | nil => exact ⟨e, e', rfl, h2, h5, h1, h4⟩
      | cons e3 l3 => obtain ⟨_, _, z, _⟩ := h6; cases z
theorem wpe3 {args : List E} {a b c : Expr} (h : WPE C cf Wo X PX args [a, b, c]) : ∃ ea eb ec, args = [ea, eb, ec] ∧ PE X a (tEvA C Wo PX (evE cf ea)) ∧ PE X b (tEv C Wo PX (evE cf eb)) ∧ PE X c (tEv C Wo PX (evE cf ec)) := by
  cases args with
  | nil => cases h
  | cons e l =>
    obtain ⟨q, r, e1, h1, h2, h3⟩ := h
    cases e1
    cases l with
    | nil => cases h3
    | cons e' l' =>
      obtain ⟨q', r', e2, h4, h5, h6⟩ := h3
      cases e2
      cases l' with
      | nil => cases h6
      | cons e3 l3 =>
        obtain ⟨q3, r3, e4, h7, h8, h9⟩ := h6
        cases e4
        cases l3 with
        | nil => exact ⟨e, e', e3, rfl, h2, h5, h8⟩
        | cons e5 l5 => obtain ⟨_, _, z, _⟩ := h9; cases z

/-! ### operators and subscripts -/
theorem op_of {op : Operator} (h : binOf p = some op) (hK : X.K = C.K) : OpR X (binaryOp op) (rPr2 C p) := by
  cases p <;> cases h
  · exact o_add hK
  · exact o_sub
  · exact o_mul
  · exact o_mod
  · exact o_fdiv
  · exact o_pow
theorem cmp_of {op : CmpOp} (h : cmpOf p = some op) (hK : X.K = C.K) (hu : X.A.units + 64 < cLine) : OpR X (compareOp op) (rPr2 C p) := by
  cases p <;> cases h
  · exact o_eq hu hK
  · exact o_ne hu hK
  · exact o_lt
  · exact o_le
  · exact o_gt
  · exact o_ge
  · exact o_isB
  · exact o_notB
theorem mark_of {op : CmpOp} {b : Expr} (h : notSet b = true) : behindInMarks op b = false := by cases b <;> first | rfl | cases h
theorem marks2 {o1 o2 : CmpOp} {b c : Expr} (h1 : notSet b = true) (h2 : notSet c = true) : lastMarks [o1, o2] [b, c] = false := by cases c <;> first | rfl | cases h2
theorem ix_of {b : Expr} (h : notSl b = true) : PlainIx b := by cases b <;> first | exact fun _ _ => rfl | cases h

/-! ### what an expression that is no test of its own kind is as a test -/
def plainTest : Expr → Bool
  | .UnaryOp .Not _ _ => false | .BoolOp _ _ _ => false | .IfExp _ _ _ _ => false | .Compare _ _ _ _ => false | _ => true
theorem test_of {e : Expr} (h : plainTest e = true) (env : PySem.Env) : ∀ whole, isTrue e env whole = (do let v ← whole; standAt e.pos; holding [v] (truthy v)) := by
  intro whole
  cases e <;> first | rfl | (cases h; done) | skip
  rename_i op x pos
  cases op <;> first | rfl | cases h
theorem ptOf {e : Expr} {t : TE} (h : PE X e t) (hp : plainTest e = true) : PT X e (tB t) := pt_val h (test_of hp X.env)
end
end Fx

/-! Fx7: each expression of ours is sound. -/
namespace Fx
open PySem PySem.Spec PyProof.Rows L2
section
variable {C : Ct} {nm : Nm} {cf : Cf} {n : Nat} {Wo : List Addr}

theorem Snd.both {e : E} (h : ∀ (X : Cx) (PX : Sg → XK) (sc : Scope) (p : Expr), Good C nm cf.call n X PX → X.env.scope = sc → chkE nm X.N sc e p = true →
    PE X p (tEv C Wo PX (evE cf e)) ∧ PT X p (tB (tEv C Wo PX (evE cf e)))) (hw : ∀ (N : List Str) (sc : Scope) (op : BoolOp) (vs : List Expr) (pos : Pos), chkE nm N sc e (.BoolOp op vs pos) = false) : Snd C nm cf n Wo e :=
  ⟨fun X PX sc p g hX hc => (h X PX sc p g hX hc).1, fun X PX sc p g hX hc => (h X PX sc p g hX hc).2, fun X PX sc op vs pos g hX hc => by rw [hw] at hc; cases hc⟩

theorem pureE {X : Cx} {PX : Sg → XK} {p : Expr} {d : D} {v : V} (h : PE X p (tC v)) (hr : ∀ μ W H, Rep C μ W H d v) : PE X p (tEv C Wo PX (fun _ M => .ok d M)) :=
  PEimp h fun σ H Q ⟨μ, W, ρ, M, a, o⟩ => o μ H v Ext.refl a.wd (hr μ W H)

theorem snd_c (d : D) : Snd C nm cf n Wo (.c d) := by
  refine Snd.both (fun X PX sc p g hX h => ?_) fun N sc op vs pos => by unfold chkE; cases d <;> rfl
  unfold chkE at h
  have key : ∀ {v : V}, PE X p (tC v) → (∀ μ W H, Rep C μ W H d v) → plainTest p = true → PE X p (tEv C Wo PX (evE cf (.c d))) ∧ PT X p (tB (tEv C Wo PX (evE cf (.c d)))) := fun h1 h2 h3 =>
    have q : PE X p (tEv C Wo PX (evE cf (.c d))) := PEimp (pureE (PX := PX) h1 h2) fun σ H Q h => by
      obtain ⟨μ, W, ρ, M, a, o⟩ := h
      unfold evE at o
      exact ⟨μ, W, ρ, M, a, o⟩
    ⟨q, ptOf q h3⟩
  split at h
  · rename_i i j _ _
    cases (of_decide_eq_true h)
    exact key pe_int (fun _ _ _ => rfl) rfl
  · rename_i i j _ _
    cases (of_decide_eq_true h)
    exact key pe_bl (fun _ _ _ => rfl) rfl
  · exact key pe_non (fun _ _ _ => rfl) rfl
  · rename_i i j _ _
    cases (of_decide_eq_true h)
    exact key pe_str (fun _ _ _ => rfl) rfl
  · cases h
theorem snd_g (x : Str) (d : D) : Snd C nm cf n Wo (.g x d) := by
  refine Snd.both (fun X PX sc p g hX h => ?_) fun N sc op vs pos => by unfold chkE; cases d <;> rfl
  unfold chkE at h
  split at h
  · rename_i i y ps
    simp only [Bool.and_eq_true, decide_eq_true_eq] at h
    obtain ⟨⟨⟨rfl, h2⟩, h3⟩, h4⟩ := h
    obtain ⟨t, ht⟩ := g.mgc x i h3
    have q : PE X (.Name x ps) (tEv C Wo PX (evE cf (.g x (.int i)))) := PEimp (pureE (C := C) (Wo := Wo) (PX := PX) (d := .int i) (pe_glob (v := .int i) (gl_of hX h2) ht ⟨t, rfl⟩ (nm_of h4).1) fun _ _ _ => rfl) fun σ H Q h => by
      obtain ⟨μ, W, ρ, M, a, o⟩ := h
      unfold evE at o
      exact ⟨μ, W, ρ, M, a, o⟩
    exact ⟨q, ptOf q rfl⟩
  · cases h
theorem snd_f (k : Nat) : Snd C nm cf n Wo (.f k) := by
  refine Snd.both (fun X PX sc p g hX h => ?_) fun N sc op vs pos => by unfold chkE; rfl
  unfold chkE at h
  split at h
  · rename_i y ps
    simp only [Bool.and_eq_true, decide_eq_true_eq] at h
    obtain ⟨⟨h1, h2⟩, h3⟩ := h
    obtain ⟨a, ha, hm⟩ := g.mgf k y h1
    have q : PE X (.Name y ps) (tEv C Wo PX (evE cf (.f k))) := PEimp (pureE (C := C) (Wo := Wo) (PX := PX) (d := .fn k) (pe_glob (v := .ref a) (gl_of hX h2) hm rfl (nm_of h3).1) fun _ _ _ => ⟨a, rfl, ha⟩) fun σ H Q h => by
      obtain ⟨μ, W, ρ, M, a, o⟩ := h
      unfold evE at o
      exact ⟨μ, W, ρ, M, a, o⟩
    exact ⟨q, ptOf q rfl⟩
  · cases h
theorem snd_v (i : Nat) : Snd C nm cf n Wo (.v i) := by
  refine Snd.both (fun X PX sc p g hX h => ?_) fun N sc op vs pos => by unfold chkE; rfl
  unfold chkE at h
  split at h
  · rename_i x ps
    obtain ⟨h3, h4, h5, h6⟩ := slot_of h
    have q : PE X (.Name x ps) (tEv C Wo PX (evE cf (.v i))) := by
      refine PEimp (pe_var h3 (hX ▸ h4) h5 h6) fun σ H Q ⟨μ, W, ρ, M, a, o⟩ => ?_
      unfold evE at o
      split at o
      · rename_i d hd
        have o : ∀ μ' H' v, Ext NoB μ W H μ' W H' → Wd C μ' W H' M → Rep C μ' W H' d v → Q v H' := o
        obtain ⟨v, e1, e2⟩ := a.env.val i d hd
        exact ⟨v, e1, o μ H v Ext.refl a.wd e2⟩
      · exact o.elim
    exact ⟨q, ptOf q rfl⟩
  · cases h
theorem snd_ov (i : Nat) : Snd C nm cf n Wo (.ov i) :=
  Snd.both (fun X PX sc p g hX h => by unfold chkE at h; cases h) fun N sc op vs pos => by unfold chkE; rfl

/-! ### dicts -/
theorem key_rep {μ W : List Addr} {H : Hp} {d : D} {k : Key} {v : V} (h : keyOf d = some k) (r : Rep C μ W H d v) : v = kV k := by
  cases d <;> cases h <;> exact r
theorem dget_rep {μ W : List Addr} {H : Hp} (k : Key) : ∀ {kvs : List (Key × V)} {vs : List D}, Reps C μ W H vs (kvs.map (·.2)) →
    (∀ d, dGet k (kvs.map (·.1)) vs = some d → ∃ v, valV kvs k = some v ∧ Rep C μ W H d v) ∧ (dGet k (kvs.map (·.1)) vs = none → valV kvs k = none)
  | [], vs, r => ⟨fun d h => (by cases vs <;> cases h), fun _ => rfl⟩
  | (a, v) :: kvs, [], r => by cases (show _ = _ from r)
  | (a, v) :: kvs, x :: vs, ⟨v', r', e, h1, h2⟩ => by
    cases e
    have e0 : dGet k (((a, v) :: kvs).map (·.1)) (x :: vs) = if a = k then some x else dGet k (kvs.map (·.1)) vs := rfl
    rw [e0]
    by_cases ha : a = k
    · rw [if_pos ha, valV_pos (p := (a, v)) ha]
      exact ⟨fun d h => ⟨v, rfl, by cases h; exact h1⟩, fun h => by cases h⟩
    · rw [if_neg ha, valV_neg (p := (a, v)) ha]
      exact dget_rep k h2
theorem dset_rep {μ W : List Addr} {H : Hp} (k : Key) {d : D} {v : V} (q : Rep C μ W H d v) : ∀ {kvs : List (Key × V)} {vs : List D}, Reps C μ W H vs (kvs.map (·.2)) →
    Reps C μ W H (dSet k d (kvs.map (·.1)) vs) ((kvs.map fun kv => if kv.1 = k then (kv.1, v) else kv).map (·.2))
  | [], vs, r => by cases vs <;> exact r
  | (a, v0) :: kvs, [], r => by cases (show _ = _ from r)
  | (a, v0) :: kvs, x :: vs, ⟨v', r', e, h1, h2⟩ => by
    cases e
    refine ⟨_, _, rfl, ?_, dset_rep k q h2⟩
    show Rep C μ W H (if a = k then d else x) (if a = k then (a, v) else (a, v0)).2
    by_cases ha : a = k
    · rw [if_pos ha, if_pos ha]; exact q
    · rw [if_neg ha, if_neg ha]; exact h1
theorem keys_snoc : ∀ {ks : List D} {as : List Key} {d : D} {k : Key}, keysOf ks = some as → keyOf d = some k → keysOf (ks ++ [d]) = some (as ++ [k])
  | [], _, d, k, h, q => by cases h; simp [keysOf, q]
  | x :: ks, _, d, k, h, q => by
    unfold keysOf at h
    split at h
    · rename_i p r e1 e2
      cases h
      show keysOf (x :: (ks ++ [d])) = _
      unfold keysOf
      rw [e1, keys_snoc e2 q]
      rfl
    · cases h
theorem dput_rep {μ W : List Addr} {H : Hp} {k : Key} {dk d : D} {v : V} {kvs : List (Key × V)} {ks vs : List D} (hk : keyOf dk = some k) (h1 : keysOf ks = some (kvs.map (·.1))) (h2 : Reps C μ W H vs (kvs.map (·.2))) (q : Rep C μ W H d v) :
    keysOf (dPut k dk d (kvs.map (·.1)) ks vs).1 = some ((putK kvs k v).map (·.1)) ∧ Reps C μ W H (dPut k dk d (kvs.map (·.1)) ks vs).2 ((putK kvs k v).map (·.2)) := by
  unfold dPut putK
  have ek : ((kvs.map (·.1)).any fun a => decide (a = k)) = kvs.any fun kv => decide (kv.1 = k) := by rw [List.any_map]; rfl
  rw [ek]
  by_cases hb : (kvs.any fun kv => decide (kv.1 = k)) = true
  · rw [if_pos hb, if_pos hb]
    refine ⟨?_, dset_rep k q h2⟩
    rw [h1]
    congr 1
    rw [List.map_map]
    refine List.map_congr_left fun kv _ => ?_
    show kv.1 = (if kv.1 = k then (kv.1, v) else kv).1
    split <;> rfl
  · rw [if_neg hb, if_neg hb, List.map_append, List.map_append]
    exact ⟨keys_snoc h1 hk, Reps.app h2 ⟨v, [], rfl, q, rfl⟩⟩

/-- d.get(k, x), d[k] -/
theorem n_get2 {x y z : V} {H : Hp} {Q : VK} (h : rPr C .get2 [x, y, z] H Q) : ∃ a kvs k, x = .ref a ∧ H a = some (.dK kvs) ∧ y = kV k ∧ Q ((valV kvs k).getD z) H := by
  obtain ⟨μ, W, ds, M, d, M', ha, w, hq, kk⟩ := h
  replace hq : pGet2 ds M = .ok d M' := hq
  unfold pGet2 at hq
  split at hq
  · rename_i ks vs dk dv
    obtain ⟨x', r, e1, ra, rr⟩ := ha
    cases e1
    obtain ⟨y', r', e2, rb, rr⟩ := rr
    cases e2
    obtain ⟨z', r', e3, rc, rr⟩ := rr
    cases e3
    split at hq
    · rename_i k as h1 h2
      cases hq
      obtain ⟨a, kvs, e4, h3, h4, h5⟩ := ra.dic
      rw [h2] at h4
      cases h4
      refine ⟨a, kvs, k, e4, h3, key_rep h1 rb, ?_⟩
      obtain ⟨g1, g2⟩ := dget_rep k h5
      cases hd : dGet k (kvs.map (·.1)) vs with
      | none =>
        rw [g2 hd]
        rw [hd] at kk
        exact give kk w rc
      | some d =>
        obtain ⟨v, q1, q2⟩ := g1 d hd
        rw [q1]
        rw [hd] at kk
        exact give kk w q2
    · cases hq
  · cases hq
theorem n_dg {x y : V} {H : Hp} {Q : VK} (h : rPr C .dg [x, y] H Q) : ∃ a kvs k v, x = .ref a ∧ H a = some (.dK kvs) ∧ y = kV k ∧ valV kvs k = some v ∧ Q v H := by
  obtain ⟨μ, W, ds, M, d, M', ha, w, hq, kk⟩ := h
  replace hq : pDg ds M = .ok d M' := hq
  unfold pDg at hq
  split at hq
  · rename_i ks vs dk
    obtain ⟨x', r, e1, ra, rr⟩ := ha
    cases e1
    obtain ⟨y', r', e2, rb, rr⟩ := rr
    cases e2
    split at hq
    · rename_i k as h1 h2
      obtain ⟨h0, e0⟩ := RE.ofO_ok hq
      subst e0
      obtain ⟨a, kvs, e4, h3, h4, h5⟩ := ra.dic
      rw [h2] at h4
      cases h4
      obtain ⟨g1, g2⟩ := dget_rep k h5
      obtain ⟨v, q1, q2⟩ := g1 d h0
      exact ⟨a, kvs, k, v, e4, h3, key_rep h1 rb, q1, give kk w q2⟩
    · cases hq
  · cases hq

/-! ### built-in functions -/
section
variable {X : Cx} {PX : Sg → XK}
theorem fun1_of {q : Pr} {y : Str} {p pos : Pos} {e : Expr} {es : List Expr} {t : TA} (hf : fun1 q = some y) (hK : X.K = C.K) (hc : X.calm = true) (hg : X.A.guards = some []) (hu : X.A.units + 100 < cLine) (gl : Gl X y) (hm : X.mg y = none)
    (ha : PA X (e :: es) t) (hs : notStar e = true) (hpl : (backTo pos (starEach es X.env)).any (·.1) = false) : PE X (.Call (.Name y p) (e :: es) [] pos) (tCB (rPr C q) t) := by
  cases q <;> cases hf
  · exact pe_callB (c_len hK) gl hm PySem.boot_len ha (by decide) (by decide) (starCons hs) hpl
  · exact pe_callB c_abs gl hm boot_abs ha (by decide) (by decide) (starCons hs) hpl
  · exact pe_callTy c_int gl hm boot_int ha (by decide) (by decide) (starCons hs) hpl
  · exact pe_callB (c_repr hK hg hu) gl hm boot_repr ha (by decide) (by decide) (starCons hs) hpl
  · exact pe_callB (c_sum hK hc) gl hm boot_sum ha (by decide) (by decide) (starCons hs) hpl
  · exact pe_callB (c_all hK hc) gl hm boot_all ha (by decide) (by decide) (starCons hs) hpl
  · exact pe_callB (c_any hK hc) gl hm boot_any ha (by decide) (by decide) (starCons hs) hpl
  · exact pe_callTy (c_tuple hK) gl hm boot_tuple ha (by decide) (by decide) (starCons hs) hpl
  · exact pe_callTy (c_list hK) gl hm boot_list ha (by decide) (by decide) (starCons hs) hpl
  · exact pe_callB (c_sort hK) gl hm boot_sorted ha (by decide) (by decide) (starCons hs) hpl
  · exact pe_callB (c_sortK hc) gl hm boot_sorted ha (by decide) (by decide) (starCons hs) hpl
theorem tyS_boot (t : Ty) : bootBuiltins (tyS t) = some (.type (tyN t)) ∧ tyS t ≠ "__name__" ∧ (tyS t == ("__debug__" : Str)) = false := by
  cases t <;> exact ⟨by decide +kernel, by decide, by decide⟩
theorem outA.imp {μ W : List Addr} {H : Hp} {k : XK} {Q Q' : VK} {r : RE} (h : outA C μ W H k Q r) (i : ∀ v H', Q v H' → Q' v H') : outA C μ W H k Q' r := by
  cases r with
  | ok d M => exact fun μ1 H1 v e w r => i v H1 (h μ1 H1 v e w r)
  | ex c fs M => exact h
  | no => exact h
theorem outE.imp {μ W : List Addr} {H : Hp} {k : XK} {Q Q' : VK} {r : RE} (h : outE C μ W H k Q r) (i : ∀ v H', Q v H' → Q' v H') : outE C μ W H k Q' r := by
  cases r with
  | ok d M => exact fun μ1 H1 v e w r => i v H1 (h μ1 H1 v e w r)
  | ex c fs M => exact h
  | no => exact h
theorem tEvA.imp {ev : Env → Store → RE} {σ : Sg} {H : Hp} {Q Q' : VK} (h : tEvA C Wo PX ev σ H Q) (i : ∀ v H', Q v H' → Q' v H') : tEvA C Wo PX ev σ H Q' :=
  let ⟨μ, W, ρ, M, a, o⟩ := h; ⟨μ, W, ρ, M, a, o.imp i⟩
theorem tEv.imp {ev : Env → Store → RE} {σ : Sg} {H : Hp} {Q Q' : VK} (h : tEv C Wo PX ev σ H Q) (i : ∀ v H', Q v H' → Q' v H') : tEv C Wo PX ev σ H Q' :=
  let ⟨μ, W, ρ, M, a, o⟩ := h; ⟨μ, W, ρ, M, a, o.imp i⟩
theorem isi_of {t : Ty} {p p2 pos : Pos} {a : Expr} {ev : Env → Store → RE} (hK : X.K = C.K) (gl : Gl X "isinstance") (hm : X.mg "isinstance" = none) (gl2 : Gl X (tyS t)) (hm2 : X.mg (tyS t) = none) (ha : PE X a (tEvA C Wo PX ev)) (hs : notStar a = true) :
    PE X (.Call (.Name "isinstance" p) [a, .Name (tyS t) p2] [] pos) (fun σ H Q => tEvA C Wo PX ev σ H fun x H1 => rPr C (.isi t) [x] H1 Q) := by
  obtain ⟨b1, b2, b3⟩ := tyS_boot t
  refine PEimp (pe_callB (c_isi hK t) gl hm boot_isinstance (pa_cons ha (pa_cons (pe_bltn (v := .ty (tyN t)) gl2 hm2 b1 rfl b2 b3) pa_nil (starCons rfl)) (starCons hs)) (by decide) (by decide) (starCons hs) rfl) fun σ H Q h => ?_
  exact tEvA.imp h fun x H1 q => ⟨x, rfl, q⟩
end
theorem unit_of {X : Cx} {PX : Sg → XK} (g : Good C nm cf.call n X PX) : X.A.units + 100 < cLine := by have := g.room.un; omega

theorem tpr_of {X : Cx} {PX : Sg → XK} {σ : Sg} {H : Hp} {Q : VK} {args : List E} (h : tEv C Wo PX (evE cf (.pr .tup args)) σ H Q) :
    tEvL C Wo PX (evL cf args) σ H fun vs H1 => vs.length ≤ sizeLine ∧ ∀ p, H1 p = none → Q (.ref p) (L2.upd H1 p (.tup vs)) := by
  obtain ⟨μ, W, ρ, M, a, o⟩ := listS_read h
  refine ⟨μ, W, ρ, M, a, ?_⟩
  cases hl : evL cf args ρ M with
  | no => rw [hl] at o; exact o
  | ex c fs M1 => rw [hl] at o; exact o
  | ok ds M1 =>
    rw [hl] at o
    intro μ1 H1 vs e1 w1 r1
    obtain ⟨μ2, W2, ds2, M2, k, r2, w2, o2⟩ := o μ1 H1 vs e1 w1 r1
    have o2 : outE C μ2 W2 H1 k Q (if ds2.length ≤ LN then .ok (.tup ds2) M2 else .no) := o2
    split at o2
    · rename_i hl
      exact ⟨by rw [r2.len]; exact lenLN hl, fun p hp => giveT o2 w2 r2 hp⟩
    · exact o2.elim
theorem lpr_of {X : Cx} {PX : Sg → XK} {σ : Sg} {H : Hp} {Q : VK} {args : List E} (h : tEv C Wo PX (evE cf (.pr .lst args)) σ H Q) :
    tEvL C Wo PX (evL cf args) σ H fun vs H1 => vs.length ≤ sizeLine ∧ ∀ p, H1 p = none → Q (.ref p) (L2.upd H1 p (.lst vs)) := by
  obtain ⟨μ, W, ρ, M, a, o⟩ := listS_read h
  refine ⟨μ, W, ρ, M, a, ?_⟩
  cases hl : evL cf args ρ M with
  | no => rw [hl] at o; exact o
  | ex c fs M1 => rw [hl] at o; exact o
  | ok ds M1 =>
    rw [hl] at o
    intro μ1 H1 vs e1 w1 r1
    obtain ⟨μ2, W2, ds2, M2, k, r2, w2, o2⟩ := o μ1 H1 vs e1 w1 r1
    have o2 : outE C μ2 W2 H1 k Q (if ds2.length ≤ LN then .ok (.lst ds2) M2 else .no) := o2
    split at o2
    · rename_i hl
      exact ⟨by rw [r2.len]; exact lenLN hl, fun p hp => giveL o2 w2 r2 hp⟩
    · exact o2.elim
theorem cpr_of {X : Cx} {PX : Sg → XK} {σ : Sg} {H : Hp} {Q : VK} {args : List E} (h : tEv C Wo PX (evE cf (.pr .cel args)) σ H Q) :
    tEvL C Wo PX (evL cf args) σ H fun vs H1 => vs.length ≤ sizeLine ∧ ∀ p, H1 p = none → Q (.ref p) (L2.upd H1 p (.lst vs)) := by
  obtain ⟨μ, W, ρ, M, a, o⟩ := listS_read h
  refine ⟨μ, W, ρ, M, a, ?_⟩
  cases hl : evL cf args ρ M with
  | no => rw [hl] at o; exact o
  | ex c fs M1 => rw [hl] at o; exact o
  | ok ds M1 =>
    rw [hl] at o
    intro μ1 H1 vs e1 w1 r1
    obtain ⟨μ2, W2, ds2, M2, k, r2, w2, o2⟩ := o μ1 H1 vs e1 w1 r1
    have o2 : outE C μ2 W2 H1 k Q (if ds2.length ≤ LN then .ok (.obj M2.length) (M2 ++ [.lst ds2]) else .no) := o2
    split at o2
    · rename_i hl
      refine ⟨by rw [r2.len]; exact lenLN hl, fun p hp => ?_⟩
      have e : Ext NoB μ2 W2 H1 (μ2 ++ [p]) W2 (L2.upd H1 p (.lst vs)) := Ext.freshM hp
      refine o2 (μ2 ++ [p]) _ _ e (w2.freshM hp ⟨vs, upd_same, Reps.ext e (fun _ z => z.elim) ds2 vs r2⟩) ⟨p, rfl, ?_⟩
      rw [← w2.len, List.getElem?_append_right (Nat.le_refl _)]
      simp
    · exact o2.elim

/-- slices -/
theorem po_of {X : Cx} {PX : Sg → XK} {e : Expr} {ee : E} (h : PE X e (tEv C Wo PX (evE cf ee))) : PO X (some e) (tPart (tEv C Wo PX (evE cf ee))) := po_some h
theorem sl_int {l h : Bool} {dx : D} {r : List D} {M M' : Store} {d : D} (hq : pSl l h (dx :: r) M = .ok d M') :
    (l = false ∧ h = false ∧ r = []) ∨ (l = true ∧ h = false ∧ ∃ i, r = [.int i]) ∨ (l = false ∧ h = true ∧ ∃ i, r = [.int i]) ∨ (l = true ∧ h = true ∧ ∃ i j, r = [.int i, .int j]) := by
  unfold pSl at hq
  split at hq
  · rename_i e
    split at hq <;> first | (cases e; simp; done) | (rename_i e2; cases e; first | (cases hq; done) | simp) | cases hq
  · rename_i e
    split at hq <;> first | (cases e; simp; done) | (rename_i e2; cases e; first | (cases hq; done) | simp) | cases hq
  · cases hq

theorem sl00 {x : V} {H : Hp} {Q : VK} (h : rPr C (.sl false false) [x] H Q) : rSlP C x none none H Q := by
  obtain ⟨μ, W, ds, M, d, M', ha, w, hq, k⟩ := h
  obtain ⟨da, rfl, ra⟩ := args1 ha
  exact ⟨μ, W, da, M, d, M', ra, w, hq, k⟩
theorem sl10 {x y : V} {H : Hp} {Q : VK} (h : rPr C (.sl true false) [x, y] H Q) : ∃ i, y = .int i ∧ rSlP C x (some i) none H Q := by
  obtain ⟨μ, W, ds, M, d, M', ha, w, hq, k⟩ := h
  obtain ⟨da, db, rfl, ra, rb⟩ := args2 ha
  rcases sl_int hq with ⟨z, _⟩ | ⟨_, _, i, e⟩ | ⟨z, _⟩ | ⟨_, z, _⟩
  · cases z
  · cases e
    exact ⟨i, rb, μ, W, da, M, d, M', ra, w, hq, k⟩
  · cases z
  · cases z
theorem sl01 {x y : V} {H : Hp} {Q : VK} (h : rPr C (.sl false true) [x, y] H Q) : ∃ i, y = .int i ∧ rSlP C x none (some i) H Q := by
  obtain ⟨μ, W, ds, M, d, M', ha, w, hq, k⟩ := h
  obtain ⟨da, db, rfl, ra, rb⟩ := args2 ha
  rcases sl_int hq with ⟨_, z, _⟩ | ⟨z, _⟩ | ⟨_, _, i, e⟩ | ⟨z, _⟩
  · cases z
  · cases z
  · cases e
    exact ⟨i, rb, μ, W, da, M, d, M', ra, w, hq, k⟩
  · cases z
theorem sl11 {x y z : V} {H : Hp} {Q : VK} (h : rPr C (.sl true true) [x, y, z] H Q) : ∃ i, y = .int i ∧ ∃ j, z = .int j ∧ rSlP C x (some i) (some j) H Q := by
  obtain ⟨μ, W, ds, M, d, M', ha, w, hq, k⟩ := h
  cases ds with
  | nil => cases ha
  | cons da r =>
    obtain ⟨x', r', e1, ra, rr⟩ := ha
    cases e1
    rcases sl_int hq with ⟨q, _⟩ | ⟨_, q, _⟩ | ⟨q, _⟩ | ⟨_, _, i, j, e⟩
    · cases q
    · cases q
    · cases q
    · subst e
      obtain ⟨y', r2, e2, rb, z', r3, e3, rc, e4⟩ := rr
      cases e2
      cases e3
      exact ⟨i, rb, j, rc, μ, W, da, M, d, M', ra, w, hq, k⟩
theorem rev_of {x : V} {H : Hp} {Q : VK} (h : rPr C .rev [x] H Q) : ∃ a xs, x = .ref a ∧ SqL C.K H a xs ∧ ∀ p, H p = none → Q (.ref p) (L2.upd H p (.lst xs.reverse)) := by
  obtain ⟨μ, W, ds, M, d, M', ha, w, hq, k⟩ := h
  obtain ⟨da, rfl, ra⟩ := args1 ha
  replace hq : pRev [da] M = .ok d M' := hq
  unfold pRev at hq
  split at hq
  · rename_i l hd; cases hd; cases hq
    obtain ⟨a, vs, e, h1, h2⟩ := ra.lst
    exact ⟨a, vs, e, h1, fun p hp => giveL k w h2.rev hp⟩
  · cases hq

theorem snd_pr (q : Pr) (args : List E) (hs : ∀ e ∈ args, Snd C nm cf n Wo e) : Snd C nm cf n Wo (.pr q args) := by
  refine Snd.both (fun X PX sc p g hX h => ?_) fun N sc op vs pos => by unfold chkE; rfl
  have hu := unit_of g
  have hK := g.K
  unfold chkE at h
  split at h
  · -- a op b
    rename_i a op b pos
    simp only [Bool.and_eq_true, decide_eq_true_eq] at h
    obtain ⟨ea, eb, rfl, h1, h2, _⟩ := wpe2 (wPE sc [a, b] hs g hX h.2)
    have z : PE X (.BinOp a op b pos) (tEv C Wo PX (evE cf (.pr q [ea, eb]))) := PEimp (pe_op (op_of h.1 hK) h1 h2) fun _ _ _ o => bin_read o
    exact ⟨z, ptOf z rfl⟩
  · -- -a
    rename_i a pos
    simp only [Bool.and_eq_true, decide_eq_true_eq] at h
    obtain ⟨ea, rfl, _, h1⟩ := wpe1 (wPE sc [a] hs g hX h.2)
    cases h.1
    have z : PE X (.UnaryOp .USub a pos) (tEv C Wo PX (evE cf (.pr .neg [ea]))) := PEimp (pe_un u_neg h1) fun _ _ _ o => un_read o
    exact ⟨z, ptOf z rfl⟩
  · -- comparisons
    rename_i a ops bs pos
    split at h
    · rename_i op b
      rw [Bool.or_eq_true] at h
      rcases h with h | h
      · simp only [Bool.and_eq_true, decide_eq_true_eq] at h
        obtain ⟨ea, eb, rfl, h1, h2, _⟩ := wpe2 (wPE sc [a, b] hs g hX h.2)
        have o := cmp_of h.1.1 hK (by omega)
        exact ⟨PEimp (pe_cmpR o h1 h2 (mark_of h.1.2)) fun _ _ _ o => bin_read o, PTimp (pt_cmpR o h1 h2 (mark_of h.1.2)) fun _ _ _ o => bin_read o⟩
      · split at h
        · rename_i j pos'
          simp only [Bool.and_eq_true, Bool.or_eq_true, decide_eq_true_eq] at h
          obtain ⟨ea, rfl, _, h1⟩ := wpe1 (wPE sc [a] hs g hX h.2)
          rcases h.1 with ⟨e1, e2⟩ | ⟨e1, e2⟩
          · subst e1 e2
            exact ⟨PEimp (pe_cmp (pc_isN h1)) fun _ _ _ o => tEvA.imp (un_read o) fun _ _ q => n_isN q, PTimp (pt_cmp (pc_isN h1)) fun _ _ _ o => tEvA.imp (un_read o) fun _ _ q => n_isN q⟩
          · subst e1 e2
            exact ⟨PEimp (pe_cmp (pc_notN h1)) fun _ _ _ o => tEvA.imp (un_read o) fun _ _ q => n_notN q, PTimp (pt_cmp (pc_notN h1)) fun _ _ _ o => tEvA.imp (un_read o) fun _ _ q => n_notN q⟩
        · cases h
    · cases h
  · -- (a, b)
    rename_i es k pos
    simp only [Bool.and_eq_true, decide_eq_true_eq] at h
    cases h.1
    have z : PE X (.Tuple es k pos) (tEv C Wo PX (evE cf (.pr .tup args))) := PEimp (pe_tup (paL (allPE sc es hs g hX h.2))) fun _ _ _ o => tpr_of (X := X) o
    exact ⟨z, ptOf z rfl⟩
  · -- [a, b]
    rename_i es pos
    simp only [Bool.and_eq_true, Bool.or_eq_true, decide_eq_true_eq] at h
    have ha := paL (allPE sc es hs g hX h.2)
    rcases h.1 with e | e
    · cases e
      have z : PE X (.List es pos) (tEv C Wo PX (evE cf (.pr .lst args))) := PEimp (pe_lst ha) fun _ _ _ o => lpr_of (X := X) o
      exact ⟨z, ptOf z rfl⟩
    · cases e
      have z : PE X (.List es pos) (tEv C Wo PX (evE cf (.pr .cel args))) := PEimp (pe_lst ha) fun _ _ _ o => cpr_of (X := X) o
      exact ⟨z, ptOf z rfl⟩
  · -- subscripts
    rename_i a b pos
    split at h
    · rename_i lo hi st pos'
      split at h
      · rename_i l hh
        simp only [Bool.and_eq_true, decide_eq_true_eq] at h
        obtain ⟨⟨⟨e1, e2⟩, h4'⟩, h3⟩ := h
        subst e1 e2
        cases lo with
        | none =>
          cases hi with
          | none =>
            obtain ⟨ea, rfl, _, h1⟩ := wpe1 (wPE sc [a] hs g hX h3)
            have z := PEimp (pe_slice (pos := pos) (p2 := pos') (s_sl hK) h1 po_none po_none) (t' := tEv C Wo PX (evE cf (.pr (.sl false false) [ea]))) fun _ _ _ o => tEvA.imp (un_read o) fun _ _ q => sl00 q
            exact ⟨z, ptOf z rfl⟩
          | some hi =>
            obtain ⟨ea, eb, rfl, h1, h2, _⟩ := wpe2 (wPE sc [a, hi] hs g hX h3)
            have z := PEimp (pe_slice (pos := pos) (p2 := pos') (s_sl hK) h1 po_none (po_some h2)) (t' := tEv C Wo PX (evE cf (.pr (.sl false true) [ea, eb]))) fun _ _ _ o => tEvA.imp (bin_read o) fun _ _ q => tEv.imp q fun _ _ q => sl01 q
            exact ⟨z, ptOf z rfl⟩
        | some lo =>
          cases hi with
          | none =>
            obtain ⟨ea, eb, rfl, h1, h2, _⟩ := wpe2 (wPE sc [a, lo] hs g hX h3)
            have z := PEimp (pe_slice (pos := pos) (p2 := pos') (s_sl hK) h1 (po_some h2) po_none) (t' := tEv C Wo PX (evE cf (.pr (.sl true false) [ea, eb]))) fun _ _ _ o => tEvA.imp (bin_read o) fun _ _ q => tEv.imp q fun _ _ q => sl10 q
            exact ⟨z, ptOf z rfl⟩
          | some hi =>
            obtain ⟨ea, eb, ec, rfl, h1, h2, h4⟩ := wpe3 (wPE sc [a, lo, hi] hs g hX h3)
            have z := PEimp (pe_slice (pos := pos) (p2 := pos') (s_sl hK) h1 (po_some h2) (po_some h4)) (t' := tEv C Wo PX (evE cf (.pr (.sl true true) [ea, eb, ec]))) fun _ _ _ o => tEvA.imp (tri_sl (noex cf ec (by simp [noCalls] at h4'; exact h4'.2.2)) (fun d d2 d3 M d' M' hq => by
              rcases sl_int hq with ⟨z, _⟩ | ⟨_, z, _⟩ | ⟨z, _⟩ | ⟨_, _, i, j, e⟩
              · cases z
              · cases z
              · cases z
              · cases e; exact ⟨i, rfl⟩) o) fun x H1 q => tEv.imp q fun y H2 ⟨i, ey, q⟩ => ⟨i, ey, tEv.imp q fun z H3 q => by
                obtain ⟨i', e1, j, e2, q⟩ := sl11 q
                cases e1
                exact ⟨j, e2, q⟩⟩
            exact ⟨z, ptOf z rfl⟩
      · rename_i k1 p1 p2
        simp only [Bool.and_eq_true, Bool.not_eq_true', Option.isSome_eq_false_iff, Option.isNone_iff_eq_none] at h
        obtain ⟨⟨e1, e2⟩, h3⟩ := h
        subst e1 e2
        obtain ⟨ea, rfl, _, h1⟩ := wpe1 (wPE sc [a] hs g hX h3)
        have z := PEimp (pe_revL (pos := pos) (p3 := pos') (k := k1) (p1 := p1) (p2 := p2) h1) (t' := tEv C Wo PX (evE cf (.pr .rev [ea]))) fun _ _ _ o => tEvA.imp (un_read o) fun _ _ q => hK ▸ rev_of q
        exact ⟨z, ptOf z rfl⟩
      · cases h
    · rename_i hb
      simp only [Bool.and_eq_true, Bool.or_eq_true, decide_eq_true_eq] at h
      obtain ⟨ea, eb, rfl, h1, h2, _⟩ := wpe2 (wPE sc [a, b] hs g hX h.2)
      have hsl : PlainIx b := ix_of (by cases b <;> first | rfl | exact (hb _ _ _ _ rfl).elim)
      rcases h.1 with e | e
      · cases e
        have z := PEimp (pe_ix (pos := pos) (i_ix hK) h1 h2 hsl) (t' := tEv C Wo PX (evE cf (.pr .ix [ea, eb]))) fun _ _ _ o => bin_read o
        exact ⟨z, ptOf z rfl⟩
      · cases e
        have z := PEimp (pe_dget (pos := pos) (by omega) h1 h2 hsl) (t' := tEv C Wo PX (evE cf (.pr .dg [ea, eb]))) fun _ _ _ o => tEvA.imp (bin_read o) fun _ _ q => tEv.imp q fun _ _ q => by
          obtain ⟨a, kvs, k, v, e1, e2, e3, e4, e5⟩ := n_dg q
          exact ⟨a, v, e1, .inl ⟨kvs, k, .inl e2, e3, e4.symm⟩, e5⟩
        exact ⟨z, ptOf z rfl⟩
  · -- calls
    rename_i f es kws pos
    split at h
    · rename_i x px
      rw [Bool.or_eq_true] at h
      rcases h with h | h
      · split at h
        · rename_i y hy
          simp only [Bool.and_eq_true, decide_eq_true_eq] at h
          obtain ⟨⟨h1, h2⟩, h3⟩ := h
          obtain ⟨e1, gl, hb⟩ := blt_of hX h1
          subst e1
          match es, h3, h2 with
          | [a], _, h2 =>
            have hw := wPE sc [a] hs g hX h2
            obtain ⟨ea, rfl, hn, _⟩ := wpe1 hw
            have z := PEimp (fun1_of (pos := pos) (p := px) hy hK g.calm g.grd hu gl (g.mgb x hb) (paW hw) hn rfl) (t' := tEv C Wo PX (evE cf (.pr q [ea]))) fun _ _ _ o => list_read o
            exact ⟨z, ptOf z rfl⟩
        · cases h
      · split at h
        · rename_i t a y py
          simp only [Bool.and_eq_true, decide_eq_true_eq] at h
          obtain ⟨⟨⟨h1, h2⟩, h3⟩, h4⟩ := h
          obtain ⟨e1, gl, hb⟩ := blt_of hX h1
          obtain ⟨e2, gl2, hb2⟩ := blt_of hX h2
          subst e1 e2
          obtain ⟨ea, rfl, _, h5⟩ := wpe1 (wPE sc [a] hs g hX h4)
          have z := PEimp (isi_of (pos := pos) (p := px) (p2 := py) hK gl (g.mgb _ hb) gl2 (g.mgb _ hb2) h5 h3) (t' := tEv C Wo PX (evE cf (.pr (.isi t) [ea]))) fun _ _ _ o => un_read o
          exact ⟨z, ptOf z rfl⟩
        · cases h
    · rename_i o m apos
      split at h
      · rename_i a b x px
        simp only [Bool.and_eq_true, decide_eq_true_eq] at h
        obtain ⟨⟨⟨⟨⟨e1, e2⟩, hnc⟩, h3⟩, h4⟩, h5⟩ := h
        subst e1
        obtain ⟨eo, ea, eb, rfl, h6, h7, h8⟩ := wpe3 (wPE sc [.Name x px, a, b] hs g hX h3)
        have trees : backTo pos (starEach [a, b] X.env) = [(false, eval a X.env), (false, eval b X.env)] := by rw [starCons h4, starCons h5]; rfl
        have m2 : M2 X (.Name x px) "get" apos a b pos := ⟨rfl, by rw [trees]; rfl, e2, trees⟩
        simp only [noCalls, Bool.and_eq_true] at hnc
        have z := PEimp (pe_dget2 (cpos := pos) (by omega) h6 h7 h8 m2) (t' := tEv C Wo PX (evE cf (.pr .get2 [eo, ea, eb]))) fun _ _ _ o =>
          tEvA.imp (tri_get (fun d d2 d3 M d' M' hq => by
            replace hq : pGet2 [d, d2, d3] M = .ok d' M' := hq
            unfold pGet2 at hq
            split at hq
            · rename_i ks vs dk dv e; cases e; exact ⟨ks, vs, rfl⟩
            · cases hq) (noex cf eb hnc.2.2.1) (noex cf ea hnc.2.1) o) fun x H1 ⟨⟨a, kvs, ex, hk⟩, q⟩ => ⟨a, ex, .inl ⟨kvs, .inl hk⟩, tEv.imp q fun y H2 q => tEv.imp q fun z H3 q => by
              obtain ⟨a', kvs', k, e1, e2, e3, e4⟩ := n_get2 q
              rw [ex] at e1
              cases e1
              exact ⟨valV kvs' k, .inl ⟨kvs', k, .inl e2, e3, rfl⟩, e4⟩⟩
        exact ⟨z, ptOf z rfl⟩
      · cases h
    · cases h
  · cases h
end
end Fx

/-! Fx8: targets; what is walked. -/
namespace Fx
open PySem PySem.Spec PyProof.Rows L2

mutual
def tgS : Tg → List Nat
  | .n i => [i]
  | .t l => tgsS l
def tgsS : List Tg → List Nat
  | [] => []
  | t :: l => tgS t ++ tgsS l
end
/-- where names may be stored -/
structure Stor (X : Cx) (sc : Scope) : Prop where
  nd : X.N.Nodup
  calm : X.calm = true
  loc : ∀ x, locB sc x = true → Loc X.env.scope x ∧ (X.fn x = true ∨ X.env.scope.names.lookup x = some .local)

/-- a target takes a value -/
def gT (C : Ct) (Wo : List Addr) (t : Tg) : TG := fun v σ H Q => ∃ μ W ρ M d ρ', At C Wo μ W ρ M σ H ∧ Rep C μ W H d v ∧ bindT t d ρ = some ρ' ∧
  ∀ σ', At C Wo μ W ρ' M σ' H → (∀ i, i ∉ tgS t → σ'[i]? = σ[i]?) → σ'.length = σ.length → Q σ' H
def gTs (C : Ct) (Wo : List Addr) (ts : List Tg) : TGs := fun vs σ H Q => ∃ μ W ρ M ds ρ', At C Wo μ W ρ M σ H ∧ Reps C μ W H ds vs ∧ bindTs ts ds ρ = some ρ' ∧
  ∀ σ', At C Wo μ W ρ' M σ' H → (∀ i, i ∉ tgsS ts → σ'[i]? = σ[i]?) → σ'.length = σ.length → Q σ' H

theorem PGimp {X : Cx} {p : Expr} {t t' : TG} (h : PG X p t) (i : ∀ v σ H Q, t' v σ H Q → t v σ H Q) : PG X p t' := ⟨fun pins s σ H v u Q I r q => h.run pins s σ H v u Q I r (i v σ H Q q)⟩
theorem PGsimp {X : Cx} {p : List Expr} {t t' : TGs} (h : PGs X p t) (i : ∀ v σ H Q, t' v σ H Q → t v σ H Q) : PGs X p t' := ⟨fun pins s σ H v u Q I r q => h.run pins s σ H v u Q I r (i v σ H Q q)⟩

def noStarL : List Expr → Bool
  | [] => true
  | p :: ps => notStar p && noStarL ps
theorem assignCons {e : Expr} {es : List Expr} {env : PySem.Env} (h : notStar e = true) : assignEach (e :: es) env = (false, assign e env) :: assignEach es env := by
  cases e <;> first | rfl | cases h
theorem assign_len {env : PySem.Env} : ∀ {es : List Expr}, noStarL es = true → (assignEach es env).length = es.length ∧ (assignEach es env).findIdx? (·.1) = none
  | [], _ => ⟨rfl, rfl⟩
  | e :: es, h => by
    unfold noStarL at h
    simp only [Bool.and_eq_true] at h
    obtain ⟨h1, h2⟩ := assign_len (env := env) h.2
    rw [assignCons h.1]
    refine ⟨by rw [List.length_cons, List.length_cons, h1], ?_⟩
    rw [List.findIdx?_cons, h2]
    rfl
theorem chkTs_star {N : List Str} {sc : Scope} : ∀ {ts : List Tg} {es : List Expr}, chkTs N sc ts es = true → noStarL es = true ∧ ts.length = es.length
  | [], [], _ => ⟨rfl, rfl⟩
  | t :: ts, e :: es, h => by
    unfold chkTs at h
    simp only [Bool.and_eq_true] at h
    obtain ⟨h1, h2⟩ := chkTs_star h.2
    exact ⟨by unfold noStarL; simp [h.1.1, h1], by simp [h2]⟩
  | [], _ :: _, h => by cases h
  | _ :: _, [], h => by cases h

theorem bindTs_len : ∀ {ts : List Tg} {ds : List D} {ρ ρ' : Env}, bindTs ts ds ρ = some ρ' → ds.length = ts.length
  | [], [], _, _, _ => rfl
  | t :: ts, d :: ds, ρ, ρ', h => by
    unfold bindTs at h
    split at h
    · rw [List.length_cons, List.length_cons, bindTs_len h]
    · cases h
  | [], _ :: _, _, _, h => by cases h
  | _ :: _, [], _, _, h => by cases h

section
variable {C : Ct} {Wo : List Addr} {X : Cx} {sc : Scope}
mutual
theorem pgT (S : Stor X sc) (hK : X.K = C.K) : ∀ (t : Tg) (p : Expr), chkT X.N sc t p = true → PG X p (gT C Wo t)
  | .n i, p, h => by
    unfold chkT at h
    split at h
    · rename_i x pos
      simp only [Bool.and_eq_true, decide_eq_true_eq] at h
      obtain ⟨l1, l2⟩ := S.loc x h.1.2
      refine PGimp (pg_name S.nd h.1.1 l1 l2) fun v σ H Q ⟨μ, W, ρ, M, d, ρ', a, r, hb, k⟩ => ?_
      have hb' : ρ.set i (.val d) = ρ' := by
        have : some (ρ.set i (.val d)) = some ρ' := hb
        exact Option.some.inj this
      subst hb'
      refine k _ ⟨a.env.setV r, a.wd⟩ (fun j hj => ?_) (by simp)
      have hj : j ≠ i := fun z => hj (by rw [z]; exact List.mem_singleton.mpr rfl)
      rw [List.getElem?_set_ne (Ne.symm hj)]
    · cases h
  | .t ts, p, h => by
    unfold chkT at h
    split at h
    · rename_i es k pos
      have hs := chkTs_star h
      have hl := assign_len (env := X.env) hs.1
      have P := pgTs S hK ts es h
      refine ⟨fun pins s σ H v u Q I r ⟨μ, W, ρ, M, d, ρ', a, rd, hb, k⟩ => ?_⟩
      unfold bindT at hb
      split at hb
      · rename_i ds hq
        have hlen := bindTs_len hb
        cases d with
        | tup l =>
          cases hq
          obtain ⟨b, vs, ev, sv, qv⟩ := rd
          exact (pg_tup (pos := pos) S.calm P (hl.1.trans rfl) hl.2).run pins s σ H v u Q I r ⟨b, vs, ev, hK ▸ sv, by rw [qv.len, hlen, hs.2], μ, W, ρ, M, ds, ρ', a, qv, hb, k⟩
        | lst l =>
          cases hq
          obtain ⟨b, vs, ev, sv, qv⟩ := (show RepA C μ W H (.lst ds) v from .inl rd).lst
          exact (pg_lst (pos := pos) S.calm P (hl.1.trans rfl) hl.2).run pins s σ H v u Q I r ⟨b, vs, ev, hK ▸ sv, by rw [qv.len, hlen, hs.2], μ, W, ρ, M, ds, ρ', a, qv, hb, k⟩
        | _ => cases hq
      · cases hb
    · cases h
theorem pgTs (S : Stor X sc) (hK : X.K = C.K) : ∀ (ts : List Tg) (ps : List Expr), chkTs X.N sc ts ps = true → PGs X ps (gTs C Wo ts)
  | [], [], _ => PGsimp pgs_nil fun vs σ H Q ⟨μ, W, ρ, M, ds, ρ', a, r, hb, k⟩ => by
    cases ds with
    | nil =>
      cases hb
      exact ⟨r, k σ a (fun _ _ => rfl) rfl⟩
    | cons d ds => cases hb
  | t :: ts, p :: ps, h => by
    unfold chkTs at h
    simp only [Bool.and_eq_true] at h
    refine PGsimp (pgs_cons (pgT S hK t p h.1.2) (pgTs S hK ts ps h.2) (by rw [assignCons h.1.1]; rfl)) fun vs σ H Q ⟨μ, W, ρ, M, ds, ρ', a, r, hb, k⟩ => ?_
    cases ds with
    | nil => cases hb
    | cons d ds =>
      obtain ⟨v, vr, ev, r1, r2⟩ := r
      unfold bindTs at hb
      split at hb
      · rename_i ρ1 h1
        refine ⟨v, vr, ev, μ, W, ρ, M, d, ρ1, a, r1, h1, fun σ1 a1 k1 l1 => ⟨μ, W, ρ1, M, ds, ρ', a1, r2, hb, fun σ2 a2 k2 l2 => k σ2 a2 (fun i hi => ?_) (l2.trans l1)⟩⟩
        have hi' : i ∉ tgS t ∧ i ∉ tgsS ts := ⟨fun z => hi (List.mem_append_left _ z), fun z => hi (List.mem_append_right _ z)⟩
        rw [k2 i hi'.2, k1 i hi'.1]
      · cases hb
  | [], _ :: _, h => by cases h
  | _ :: _, [], h => by cases h
end
end

/-! ### what is walked -/
/-- items by turns, in any later state; B: what may have changed -/
def Wlk (C : Ct) (B : Addr → Prop) (J : It) (ds : List D) (μ W : List Addr) (H : Hp) : Prop := ∀ (μ' W' : List Addr) (H' : Hp) (M' : Store), Ext B μ W H μ' W' H' → Wd C μ' W' H' M' →
  (∀ i, i < ds.length → J.go i H') ∧ J.stop ds.length H' ∧
  ∀ i x H'', i < ds.length → J.yld i H' x H'' → ∃ d, ds[i]? = some d ∧ Ext NoB μ' W' H' μ' W' H'' ∧ Wd C μ' W' H'' M' ∧ Rep C μ' W' H'' d x

section
variable {C : Ct} {B : Addr → Prop} {μ W : List Addr} {H : Hp}
/-- a list that stays -/
def Stays (C : Ct) (B : Addr → Prop) (t : Bool) (a : Addr) (vs : List V) (l : List D) (μ W : List Addr) (H : Hp) : Prop :=
  ∀ (μ' W' : List Addr) (H' : Hp) (M' : Store), Ext B μ W H μ' W' H' → Wd C μ' W' H' M' → Sq t C.K H' a vs ∧ Reps C μ' W' H' l vs
/-- an argument that the loop leaves as it is -/
def RepB (C : Ct) (B : Addr → Prop) (μ W : List Addr) (H : Hp) (d : D) (v : V) : Prop :=
  Rep C μ W H d v ∨ ∃ a, v = .ref a ∧ a ∈ W ∧ ¬ B a ∧ Con C μ W H a d
def isTup : D → Bool | .tup _ => true | _ => false
theorem stays_of {d : D} {v : V} {l : List D} {M : Store} (w : Wd C μ W H M) (hd : seqOf d = some l) (hB : ∀ a, B a → a ∈ W) (r : RepB C B μ W H d v) : ∃ a vs, v = .ref a ∧ Stays C B (isTup d) a vs l μ W H ∧ Sq (isTup d) C.K H a vs := by
  cases d with
  | tup l' =>
    cases hd
    have r : Rep C μ W H (.tup l) v := r.elim id fun ⟨_, _, _, _, z⟩ => z.elim
    obtain ⟨a, vs, e, h1, h2⟩ := r
    exact ⟨a, vs, e, fun μ' W' H' M' e w' => ⟨SqT.ext e h1, Reps.ext e hB l vs h2⟩, h1⟩
  | lst l' =>
    cases hd
    rcases r with ⟨a, vs, e, h1, h2⟩ | ⟨a, e, hw, hb, vs, h1, h2⟩
    · have hl : SqL C.K H a vs := h1.elim (fun z => .inl z.2.2) .inr
      refine ⟨a, vs, e, fun μ' W' H' M' e w' => ⟨?_, Reps.ext e hB l vs h2⟩, hl⟩
      rcases h1 with ⟨q1, q2, q3⟩ | q
      · exact .inl (e.rdL hB q1 q2 q3).2.2
      · exact .inr q
    · exact ⟨a, vs, e, fun μ' W' H' M' e w' => ⟨.inl (.inl (e.keep a _ h1 (w.dis a hw) hb)), Reps.ext e hB l vs h2⟩, .inl (.inl h1)⟩
  | _ => cases hd

theorem wlk_list {a : Addr} {vs : List V} {l : List D} (s : Stays C B false a vs l μ W H) : Wlk C B (Itl C.K a) l μ W H := fun μ' W' H' M' e w => by
  obtain ⟨h1, h2⟩ := s μ' W' H' M' e w
  have h1 : SqL C.K H' a vs := h1
  have wk := walk_list (K := C.K) (a := a) (xs := vs)
  rw [h2.len] at wk
  refine ⟨fun i hi => wk.goes i H' hi h1, wk.stops H' h1, fun i x H'' hi y => ?_⟩
  obtain ⟨e1, e2⟩ := wk.yields i H' x H'' hi h1 y
  subst e1
  obtain ⟨v, q1, q2⟩ := h2.get (List.getElem?_eq_getElem hi)
  rw [e2] at q1
  cases q1
  exact ⟨l[i], List.getElem?_eq_getElem hi, Ext.refl, w, q2⟩
theorem wlk_tup {a : Addr} {vs : List V} {l : List D} (s : Stays C B true a vs l μ W H) : Wlk C B (Itt C.K a) l μ W H := fun μ' W' H' M' e w => by
  obtain ⟨h1, h2⟩ := s μ' W' H' M' e w
  have h1 : SqT C.K H' a vs := h1
  have wk := walk_tup (K := C.K) (a := a) (xs := vs)
  rw [h2.len] at wk
  refine ⟨fun i hi => wk.goes i H' hi h1, wk.stops H' h1, fun i x H'' hi y => ?_⟩
  obtain ⟨e1, e2⟩ := wk.yields i H' x H'' hi h1 y
  subst e1
  obtain ⟨v, q1, q2⟩ := h2.get (List.getElem?_eq_getElem hi)
  rw [e2] at q1
  cases q1
  exact ⟨l[i], List.getElem?_eq_getElem hi, Ext.refl, w, q2⟩
theorem wlk_range {lo : Int} {m : Nat} : Wlk C B (Itr lo m) ((List.range m).map fun (i : Nat) => .int (lo + (i : Nat))) μ W H := fun μ' W' H' M' e w => by
  have wk := walk_range (lo := lo) (n := m)
  have hl : ((List.range m).map fun (i : Nat) => D.int (lo + (i : Nat))).length = m := by simp
  rw [hl]
  refine ⟨fun i hi => wk.goes i H' hi trivial, wk.stops H' trivial, fun i x H'' hi y => ?_⟩
  obtain ⟨e1, e2⟩ := wk.yields i H' x H'' hi trivial y
  subst e1
  exact ⟨.int (lo + i), by simp [hi], Ext.refl, w, e2⟩
theorem enumD_get : ∀ (l : List D) (j i : Nat), (enumD j l)[i]? = (l[i]?).map fun d => .tup [.int ((j + i : Nat) : Int), d]
  | [], _, _ => by simp [enumD]
  | d :: l, j, 0 => by simp [enumD]
  | d :: l, j, i + 1 => by
    have := enumD_get l (j + 1) i
    simp only [enumD, List.getElem?_cons_succ, this]
    rw [show j + 1 + i = j + (i + 1) by omega]
theorem enumD_len : ∀ (l : List D) (j : Nat), (enumD j l).length = l.length
  | [], _ => rfl
  | d :: l, j => by simp [enumD, enumD_len l (j + 1)]
theorem wlk_enum {t : Bool} {a : Addr} {vs : List V} {l : List D} (s : Stays C B t a vs l μ W H) : Wlk C B (ItE t C.K a) (enumD 0 l) μ W H := fun μ' W' H' M' e w => by
  obtain ⟨h1, h2⟩ := s μ' W' H' M' e w
  have hl := h2.len
  rw [enumD_len]
  refine ⟨fun i hi => ⟨vs, vs[i], h1, by simp [hl, hi]⟩, ⟨vs, h1, hl⟩, fun i x H'' hi y => ?_⟩
  obtain ⟨T, z, e1, hT, e2, e3⟩ := y
  subst e1 e2
  obtain ⟨v, q1, q2⟩ := h2.get (List.getElem?_eq_getElem hi)
  rw [e3 vs h1] at q1
  cases q1
  have ex : Ext NoB μ' W' H' μ' W' (L2.upd H' T (.tup [.int (i : Nat), z])) := Ext.fresh hT
  refine ⟨.tup [.int ((0 + i : Nat) : Int), l[i]], by rw [enumD_get, List.getElem?_eq_getElem hi]; rfl, ex, w.fresh hT, T, _, rfl, .inl (.inl upd_same), ?_⟩
  rw [Nat.zero_add]
  exact ⟨_, _, rfl, rfl, _, _, rfl, Rep.ext ex (fun _ z => z.elim) _ _ q2, rfl⟩
theorem zipD_get : ∀ (l m : List D) (i : Nat), (zipD l m)[i]? = match l[i]?, m[i]? with | some a, some b => some (.tup [a, b]) | _, _ => none
  | [], m, i => by simp [zipD]
  | a :: l, [], i => by
    simp only [zipD, List.getElem?_nil]
    cases (a :: l)[i]? <;> rfl
  | a :: l, b :: m, 0 => by simp [zipD]
  | a :: l, b :: m, i + 1 => by simp only [zipD, List.getElem?_cons_succ, zipD_get l m i]
theorem zipD_len : ∀ (l m : List D), (zipD l m).length = min l.length m.length
  | [], m => by simp [zipD]
  | a :: l, [] => by simp [zipD]
  | a :: l, b :: m => by simp [zipD, zipD_len l m]
theorem wlk_zip {t u : Bool} {a b : Addr} {vs ws : List V} {l m : List D} (s : Stays C B t a vs l μ W H) (s2 : Stays C B u b ws m μ W H) : Wlk C B (ItZ t u C.K a b) (zipD l m) μ W H := fun μ' W' H' M' e w => by
  obtain ⟨h1, h2⟩ := s μ' W' H' M' e w
  obtain ⟨h3, h4⟩ := s2 μ' W' H' M' e w
  have hl := h2.len
  have hm := h4.len
  rw [zipD_len]
  refine ⟨fun i hi => ⟨vs, ws, vs[i]'(by omega), ws[i]'(by omega), h1, h3, by simp, by simp⟩, ⟨vs, ws, h1, h3, by omega, by omega, by omega⟩, fun i x H'' hi y => ?_⟩
  obtain ⟨T, z, z2, e1, hT, e2, e3, e4⟩ := y
  subst e1 e2
  have i1 : i < l.length := by omega
  have i2 : i < m.length := by omega
  obtain ⟨v, q1, q2⟩ := h2.get (List.getElem?_eq_getElem i1)
  obtain ⟨v', q3, q4⟩ := h4.get (List.getElem?_eq_getElem i2)
  rw [e3 vs h1] at q1
  cases q1
  rw [e4 ws h3] at q3
  cases q3
  have ex : Ext NoB μ' W' H' μ' W' (L2.upd H' T (.tup [z, z2])) := Ext.fresh hT
  refine ⟨.tup [l[i], m[i]], by rw [zipD_get, List.getElem?_eq_getElem i1, List.getElem?_eq_getElem i2], ex, w.fresh hT, T, _, rfl, .inl (.inl upd_same), ?_⟩
  exact ⟨_, _, rfl, Rep.ext ex (fun _ z => z.elim) _ _ q2, _, _, rfl, Rep.ext ex (fun _ z => z.elim) _ _ q4, rfl⟩
end
end Fx

/-! Fx9: and, or, not, conditional expressions, chains, calls. -/
namespace Fx
open PySem PySem.Spec PyProof.Rows L2
section
variable {C : Ct} {nm : Nm} {cf : Cf} {n : Nat} {Wo : List Addr} {X : Cx} {PX : Sg → XK} {σ : Sg} {H : Hp} {Q : VK}

/-- first the one, then the other -/
def Then (C : Ct) (Wo : List Addr) (PX : Sg → XK) (g : Env → D → Store → RE) (σ : Sg) (H : Hp) (Q : VK) (x : V) : Prop :=
  ∃ μ W ρ d M, At C Wo μ W ρ M σ H ∧ Rep C μ W H d x ∧ outE C μ W H (PX σ) Q (g ρ d M)
theorem bd_read {f : Env → Store → RE} {g : Env → D → Store → RE} (h : tEv C Wo PX (fun ρ M => (f ρ M).bd (g ρ)) σ H Q) : tEv C Wo PX f σ H fun x H1 => Then C Wo PX g σ H1 Q x := by
  obtain ⟨μ, W, ρ, M, a, o⟩ := h
  refine ⟨μ, W, ρ, M, a, ?_⟩
  cases he : f ρ M with
  | no => simp only [he] at o; exact o
  | ex c fs M1 => simp only [he] at o; exact o
  | ok d M1 =>
    simp only [he] at o
    exact fun μ1 H1 v e1 w1 r1 => ⟨μ1, W, ρ, d, M1, a.later e1 w1, r1, outE.later e1 o⟩
theorem toB {ev : Env → Store → RE} {Q : Bool → Hp → Prop} (h : tEv C Wo PX ev σ H fun x H1 => ∃ c, x = .bl c ∧ Q c H1) : tB (tEv C Wo PX ev) σ H Q := h

theorem and_t {a b : E} (h : tEv C Wo PX (evE cf (.and a b)) σ H Q) : tEv C Wo PX (evE cf a) σ H fun x H1 => ∃ c, x = .bl c ∧ if c = true then tEv C Wo PX (evE cf b) σ H1 Q else Q (.bl false) H1 := by
  have h : tEv C Wo PX (fun ρ M => (evE cf a ρ M).bd fun d M1 => match d with | .bl true => evE cf b ρ M1 | .bl false => .ok (.bl false) M1 | _ => .no) σ H Q := by
    obtain ⟨μ, W, ρ, M, at_, o⟩ := h
    unfold evE at o
    exact ⟨μ, W, ρ, M, at_, o⟩
  refine (bd_read h).imp fun x H1 ⟨μ, W, ρ, d, M, at_, r, o⟩ => ?_
  cases d with
  | bl c =>
    refine ⟨c, r, ?_⟩
    cases c with
    | true => exact ⟨μ, W, ρ, M, at_, o⟩
    | false => exact o μ H1 (.bl false) Ext.refl at_.wd rfl
  | _ => exact o.elim
theorem or_t {a b : E} (h : tEv C Wo PX (evE cf (.or a b)) σ H Q) : tEv C Wo PX (evE cf a) σ H fun x H1 => ∃ c, x = .bl c ∧ if c = true then Q (.bl true) H1 else tEv C Wo PX (evE cf b) σ H1 Q := by
  have h : tEv C Wo PX (fun ρ M => (evE cf a ρ M).bd fun d M1 => match d with | .bl false => evE cf b ρ M1 | .bl true => .ok (.bl true) M1 | _ => .no) σ H Q := by
    obtain ⟨μ, W, ρ, M, at_, o⟩ := h
    unfold evE at o
    exact ⟨μ, W, ρ, M, at_, o⟩
  refine (bd_read h).imp fun x H1 ⟨μ, W, ρ, d, M, at_, r, o⟩ => ?_
  cases d with
  | bl c =>
    refine ⟨c, r, ?_⟩
    cases c with
    | false => exact ⟨μ, W, ρ, M, at_, o⟩
    | true => exact o μ H1 (.bl true) Ext.refl at_.wd rfl
  | _ => exact o.elim
theorem not_t {a : E} (h : tEv C Wo PX (evE cf (.not a)) σ H Q) : tEv C Wo PX (evE cf a) σ H fun x H1 => ∃ c, x = .bl c ∧ Q (.bl (!c)) H1 := by
  have h : tEv C Wo PX (fun ρ M => (evE cf a ρ M).bd fun d M1 => match d with | .bl k => .ok (.bl !k) M1 | _ => .no) σ H Q := by
    obtain ⟨μ, W, ρ, M, at_, o⟩ := h
    unfold evE at o
    exact ⟨μ, W, ρ, M, at_, o⟩
  refine (bd_read h).imp fun x H1 ⟨μ, W, ρ, d, M, at_, r, o⟩ => ?_
  cases d with
  | bl c => exact ⟨c, r, o μ H1 (.bl !c) Ext.refl at_.wd rfl⟩
  | _ => exact o.elim
theorem ite_t {c a b : E} (h : tEv C Wo PX (evE cf (.ite c a b)) σ H Q) : tEv C Wo PX (evE cf c) σ H fun x H1 => ∃ k, x = .bl k ∧ if k = true then tEv C Wo PX (evE cf a) σ H1 Q else tEv C Wo PX (evE cf b) σ H1 Q := by
  have h : tEv C Wo PX (fun ρ M => (evE cf c ρ M).bd fun d M1 => match d with | .bl true => evE cf a ρ M1 | .bl false => evE cf b ρ M1 | _ => .no) σ H Q := by
    obtain ⟨μ, W, ρ, M, at_, o⟩ := h
    unfold evE at o
    exact ⟨μ, W, ρ, M, at_, o⟩
  refine (bd_read h).imp fun x H1 ⟨μ, W, ρ, d, M, at_, r, o⟩ => ?_
  cases d with
  | bl k =>
    refine ⟨k, r, ?_⟩
    cases k <;> exact ⟨μ, W, ρ, M, at_, o⟩
  | _ => exact o.elim
theorem bl_inj {a b : Bool} (h : V.bl a = V.bl b) : a = b := by cases h; rfl

theorem snd_and (a b : E) (ha : Snd C nm cf n Wo a) (hb : Snd C nm cf n Wo b) : Snd C nm cf n Wo (.and a b) := by
  have pe : ∀ (X : Cx) (PX : Sg → XK) (sc : Scope) (p : Expr), Good C nm cf.call n X PX → X.env.scope = sc → chkE nm X.N sc (.and a b) p = true → PE X p (tEv C Wo PX (evE cf (.and a b))) := fun X PX sc p g hX h => by
    unfold chkE at h
    split at h
    · rename_i op vs pos
      split at h
      · rename_i x y
        simp only [Bool.and_eq_true] at h
        exact PEimp (pe_and (ha.pe X PX sc x g hX h.1) (pe_one (hb.pe X PX sc y g hX h.2))) fun σ H Q h => and_t h
      · rename_i x y z r
        simp only [Bool.and_eq_true] at h
        exact PEimp (pe_and (ha.pe X PX sc x g hX h.1) (hb.pe X PX sc _ g hX h.2)) fun σ H Q h => and_t h
      · cases h
    · cases h
  have pw : ∀ (X : Cx) (PX : Sg → XK) (sc : Scope) (op : BoolOp) (vs : List Expr) (pos : Pos), Good C nm cf.call n X PX → X.env.scope = sc → chkE nm X.N sc (.and a b) (.BoolOp op vs pos) = true → PW X (.BoolOp op vs pos) (tB (tEv C Wo PX (evE cf (.and a b)))) := fun X PX sc op vs pos g hX h => by
    have rd : ∀ {σ : Sg} {H : Hp} {Q : Bool → Hp → Prop}, tB (tEv C Wo PX (evE cf (.and a b))) σ H Q → tAnd (tB (tEv C Wo PX (evE cf a))) (tB (tEv C Wo PX (evE cf b))) σ H Q := fun {σ H Q} h => by
      refine (and_t h).imp fun x H1 ⟨c, e, k⟩ => ⟨c, e, ?_⟩
      cases c with
      | true => exact k
      | false =>
        obtain ⟨c, e, q⟩ := k
        cases e
        exact q
    unfold chkE at h
    simp only at h
    split at h
    · rename_i x y
      simp only [Bool.and_eq_true] at h
      exact PWimp (pw_and (ha.pt X PX sc x g hX h.1) (pw_and1 (hb.pt X PX sc y g hX h.2))) fun σ H Q h => rd h
    · rename_i x y z r
      simp only [Bool.and_eq_true] at h
      exact PWimp (pw_and (ha.pt X PX sc x g hX h.1) (hb.pw X PX sc _ _ _ g hX h.2)) fun σ H Q h => rd h
    · cases h
  refine ⟨pe, fun X PX sc p g hX h => ?_, pw⟩
  have h' := h
  unfold chkE at h'
  split at h'
  · exact (pw X PX sc _ _ _ g hX h).pt
  · cases h'
theorem snd_or (a b : E) (ha : Snd C nm cf n Wo a) (hb : Snd C nm cf n Wo b) : Snd C nm cf n Wo (.or a b) := by
  have pe : ∀ (X : Cx) (PX : Sg → XK) (sc : Scope) (p : Expr), Good C nm cf.call n X PX → X.env.scope = sc → chkE nm X.N sc (.or a b) p = true → PE X p (tEv C Wo PX (evE cf (.or a b))) := fun X PX sc p g hX h => by
    unfold chkE at h
    split at h
    · rename_i op vs pos
      split at h
      · rename_i x y
        simp only [Bool.and_eq_true] at h
        exact PEimp (pe_or (ha.pe X PX sc x g hX h.1) (pe_one (hb.pe X PX sc y g hX h.2))) fun σ H Q h => or_t h
      · rename_i x y z r
        simp only [Bool.and_eq_true] at h
        exact PEimp (pe_or (ha.pe X PX sc x g hX h.1) (hb.pe X PX sc _ g hX h.2)) fun σ H Q h => or_t h
      · cases h
    · cases h
  have pw : ∀ (X : Cx) (PX : Sg → XK) (sc : Scope) (op : BoolOp) (vs : List Expr) (pos : Pos), Good C nm cf.call n X PX → X.env.scope = sc → chkE nm X.N sc (.or a b) (.BoolOp op vs pos) = true → PW X (.BoolOp op vs pos) (tB (tEv C Wo PX (evE cf (.or a b)))) := fun X PX sc op vs pos g hX h => by
    have rd : ∀ {σ : Sg} {H : Hp} {Q : Bool → Hp → Prop}, tB (tEv C Wo PX (evE cf (.or a b))) σ H Q → tOr (tB (tEv C Wo PX (evE cf a))) (tB (tEv C Wo PX (evE cf b))) σ H Q := fun {σ H Q} h => by
      refine (or_t h).imp fun x H1 ⟨c, e, k⟩ => ⟨c, e, ?_⟩
      cases c with
      | false => exact k
      | true =>
        obtain ⟨c, e, q⟩ := k
        cases e
        exact q
    unfold chkE at h
    simp only at h
    split at h
    · rename_i x y
      simp only [Bool.and_eq_true] at h
      exact PWimp (pw_or (ha.pt X PX sc x g hX h.1) (pw_or1 (hb.pt X PX sc y g hX h.2))) fun σ H Q h => rd h
    · rename_i x y z r
      simp only [Bool.and_eq_true] at h
      exact PWimp (pw_or (ha.pt X PX sc x g hX h.1) (hb.pw X PX sc _ _ _ g hX h.2)) fun σ H Q h => rd h
    · cases h
  refine ⟨pe, fun X PX sc p g hX h => ?_, pw⟩
  have h' := h
  unfold chkE at h'
  split at h'
  · exact (pw X PX sc _ _ _ g hX h).pt
  · cases h'
theorem snd_not (a : E) (ha : Snd C nm cf n Wo a) : Snd C nm cf n Wo (.not a) := by
  refine Snd.both (fun X PX sc p g hX h => ?_) fun N sc op vs pos => by unfold chkE; rfl
  unfold chkE at h
  split at h
  · rename_i x pos
    refine ⟨PEimp (pe_not (ha.pe X PX sc x g hX h)) fun σ H Q h => not_t h, PTimp (pt_not (ha.pt X PX sc x g hX h)) fun σ H Q h => ?_⟩
    refine (not_t h).imp fun v H1 ⟨c, e, k⟩ => ⟨c, e, ?_⟩
    obtain ⟨c', e', q⟩ := k
    cases e'
    exact q
  · cases h
theorem pt_ifE {c a b : Expr} {pos : Pos} {tA t u : TT} (hc : PT X c tA) (ha : PT X a t) (hb : PT X b u) : PT X (.IfExp c a b pos) (fun σ H Q => tA σ H fun k H1 => if k = true then t σ H1 Q else u σ H1 Q) := by
  refine ⟨fun pins s σ H Q I h => ?_⟩
  refine PyProof.Rows.isTrue_IfExp (thn (hc.run pins s σ H _ I h) fun d s1 ⟨H1, I1, q1⟩ => ?_)
  cases d with
  | true => exact ha.run pins s1 σ H1 Q I1 q1
  | false => exact hb.run pins s1 σ H1 Q I1 q1
theorem snd_ite (c a b : E) (hc : Snd C nm cf n Wo c) (ha : Snd C nm cf n Wo a) (hb : Snd C nm cf n Wo b) : Snd C nm cf n Wo (.ite c a b) := by
  refine Snd.both (fun X PX sc p g hX h => ?_) fun N sc op vs pos => by unfold chkE; rfl
  unfold chkE at h
  split at h
  · rename_i x y z pos
    simp only [Bool.and_eq_true] at h
    refine ⟨PEimp (pe_ifExp (hc.pt X PX sc x g hX h.1.1) (ha.pe X PX sc y g hX h.1.2) (hb.pe X PX sc z g hX h.2)) fun σ H Q h => ?_,
      PTimp (pt_ifE (hc.pt X PX sc x g hX h.1.1) (ha.pt X PX sc y g hX h.1.2) (hb.pt X PX sc z g hX h.2)) fun σ H Q h => ?_⟩
    · exact ite_t h
    · refine (ite_t h).imp fun v H1 ⟨k, e, q⟩ => ⟨k, e, ?_⟩
      cases k <;> exact q
  · cases h

/-! chains -/
theorem prm_bd {p : Pr} {μ W : List Addr} {ds : List D} {M : Store} {k : XK} {vs : List V} {g : D → Store → RE} {Q' : VK} (a : ArgsR C μ W H ds vs) (w : Wd C μ W H M) (o : outE C μ W H k Q ((prm p ds M).bd g))
    (h : ∀ d M' μ' H' v, prm p ds M = .ok d M' → Ext NoB μ W H μ' W H' → Wd C μ' W H' M' → Rep C μ' W H' d v → outE C μ' W H' k Q (g d M') → Q' v H') : rPr C p vs H Q' := by
  cases hp : prm p ds M with
  | no => rw [hp] at o; exact o.elim
  | ex c fs M' => exact (prm_noex p ds M c fs M' hp).elim
  | ok d M' =>
    rw [hp] at o
    exact ⟨μ, W, ds, M, d, M', a, w, hp, fun μ' H' v e w' r => h d M' μ' H' v hp e w' r (outE.later e o)⟩
theorem chn_t {p q : Pr} {a b c : E} (h : tEv C Wo PX (evE cf (.chn p q a b c)) σ H Q) : tChain (rPr2 C p) (rPr2 C q) (tEv C Wo PX (evE cf a)) (tEv C Wo PX (evE cf b)) (tEv C Wo PX (evE cf c)) σ H Q := by
  obtain ⟨μ, W, ρ, M, at_, o⟩ := h
  unfold evE at o
  refine ⟨μ, W, ρ, M, at_, ?_⟩
  cases he : evE cf a ρ M with
  | no => rw [he] at o; exact o
  | ex c fs M1 => rw [he] at o; exact o
  | ok d M1 =>
    rw [he] at o
    intro μ1 H1 x e1 w1 r1
    refine ⟨μ1, W, ρ, M1, at_.later e1 w1, ?_⟩
    have o := outE.later e1 o
    simp only [RE.bd] at o
    cases hf : evE cf b ρ M1 with
    | no => rw [hf] at o; exact o
    | ex c fs M2 => rw [hf] at o; exact o
    | ok d2 M2 =>
      rw [hf] at o
      intro μ2 H2 y e2 w2 r2
      have o := outE.later e2 o
      simp only at o
      refine prm_bd (p := p) (ds := [d, d2]) ⟨x, [y], rfl, .inl (Rep.ext e2 (fun _ z => z.elim) d x r1), y, [], rfl, r2, rfl⟩ w2 o fun r M3 μ3 H3 z hp e3 w3 r3 o => ?_
      cases r with
      | bl k =>
        refine ⟨k, r3, ?_⟩
        cases k with
        | false => exact o μ3 H3 _ Ext.refl w3 rfl
        | true =>
          refine ⟨μ3, W, ρ, M3, ((at_.later e1 w1).later e2 w2).later e3 w3, ?_⟩
          have o : outE C μ3 W H3 (PX σ) Q ((evE cf c ρ M3).bd fun z M4 => prm q [d2, z] M4) := o
          cases hg : evE cf c ρ M3 with
          | no => rw [hg] at o; exact o
          | ex c fs M4 => rw [hg] at o; exact o
          | ok d4 M4 =>
            rw [hg] at o
            intro μ4 H4 z4 e4 w4 r4
            exact prm_out (ds := [d2, d4]) ⟨y, [z4], rfl, .inl (Rep.ext (e3.trans0 e4) (fun _ z => z.elim) d2 y r2), z4, [], rfl, r4, rfl⟩ w4 (outE.later e4 o)
      | _ => exact o.elim
theorem snd_chn (q r : Pr) (a b c : E) (ha : Snd C nm cf n Wo a) (hb : Snd C nm cf n Wo b) (hc : Snd C nm cf n Wo c) : Snd C nm cf n Wo (.chn q r a b c) := by
  refine Snd.both (fun X PX sc p g hX h => ?_) fun N sc op vs pos => by unfold chkE; rfl
  have hu := unit_of g
  unfold chkE at h
  split at h
  · rename_i x ops ys pos
    split at h
    · rename_i o1 o2 y z
      simp only [Bool.and_eq_true, decide_eq_true_eq] at h
      obtain ⟨⟨⟨⟨⟨⟨h1, h2⟩, h3⟩, h4⟩, h5⟩, h6⟩, h7⟩ := h
      have c1 := cmp_of h1 g.K (by omega)
      have c2 := cmp_of h2 g.K (by omega)
      exact ⟨PEimp (pe_chain c1 c2 (ha.pe X PX sc x g hX h5) (hb.pe X PX sc y g hX h6) (hc.pe X PX sc z g hX h7) (marks2 h3 h4)) fun σ H Q h => chn_t h,
        PTimp (pt_chain c1 c2 (ha.pe X PX sc x g hX h5) (hb.pe X PX sc y g hX h6) (hc.pe X PX sc z g hX h7) (marks2 h3 h4)) fun σ H Q h => chn_t h⟩
    · cases h
  · cases h

/-! calls -/
theorem call_t {k : Nat} {args : List E} (h : tEv C Wo PX (evE cf (.call k args)) σ H Q) : tEvL C Wo PX (evL cf args) σ H fun vs H1 => spF C cf.call k vs H1 Q (PX σ) := by
  obtain ⟨μ, W, ρ, M, at_, o⟩ := h
  unfold evE at o
  refine ⟨μ, W, ρ, M, at_, ?_⟩
  cases he : evL cf args ρ M with
  | no => rw [he] at o; exact o
  | ex c fs M1 => rw [he] at o; exact o
  | ok ds M1 =>
    rw [he] at o
    exact fun μ1 H1 vs e1 w1 r1 => ⟨μ1, W, ds, M1, r1, w1, outE.later e1 o⟩
theorem callV_t {i : Nat} {args : List E} (h : tEv C Wo PX (evE cf (.callV i args)) σ H Q) : ∃ k a, C.fa k = some a ∧ σ[i]? = some (some (.ref a)) ∧ tEvL C Wo PX (evL cf args) σ H fun vs H1 => spF C cf.call k vs H1 Q (PX σ) := by
  obtain ⟨μ, W, ρ, M, at_, o⟩ := h
  unfold evE at o
  split at o
  · rename_i k hk
    obtain ⟨v, e1, a, e2, e3⟩ := at_.env.val i _ hk
    subst e2
    refine ⟨k, a, e3, e1, μ, W, ρ, M, at_, ?_⟩
    cases he : evL cf args ρ M with
    | no => rw [he] at o; exact o
    | ex c fs M1 => rw [he] at o; exact o
    | ok ds M1 =>
      rw [he] at o
      exact fun μ1 H1 vs e1 w1 r1 => ⟨μ1, W, ds, M1, r1, w1, outE.later e1 o⟩
  · exact o.elim
theorem snd_call (k : Nat) (args : List E) (hs : ∀ e ∈ args, Snd C nm cf n Wo e) : Snd C nm cf n Wo (.call k args) := by
  refine Snd.both (fun X PX sc p g hX h => ?_) fun N sc op vs pos => by unfold chkE; rfl
  unfold chkE at h
  split at h
  · rename_i f es kws pos
    split at h
    · rename_i x px
      simp only [Bool.and_eq_true, decide_eq_true_eq, Bool.not_eq_true'] at h
      obtain ⟨⟨⟨⟨h1, h2⟩, h3⟩, h4⟩, h5⟩ := h
      obtain ⟨a, ha, hm⟩ := g.mgf k x h1
      obtain ⟨fd, ps, F, hk, hb⟩ := g.fns k a ha
      have al := allPE sc es hs g hX h5
      cases es with
      | nil => cases h4
      | cons e es =>
        cases args with
        | nil => cases (show _ = _ from al)
        | cons e0 args =>
          obtain ⟨_, _, e1, hst, _, al2⟩ := al
          cases e1
          have pl := noStars (pos := pos) al2
          have z : PE X (.Call (.Name x px) (e :: es) [] pos) (tEv C Wo PX (evE cf (.call k (e0 :: args)))) := PEimp (pe_callG (PX := PX) ⟨a, hm, rfl⟩ F g.room g.grd (gl_of hX h2) hk hb g.pass (paL (allPE sc (e :: es) hs g hX h5)) (nm_of h3).1 hst pl) fun σ H Q h => call_t h
          exact ⟨z, ptOf z rfl⟩
    · cases h
  · cases h
theorem snd_callV (i : Nat) (args : List E) (hs : ∀ e ∈ args, Snd C nm cf n Wo e) : Snd C nm cf n Wo (.callV i args) := by
  refine Snd.both (fun X PX sc p g hX h => ?_) fun N sc op vs pos => by unfold chkE; rfl
  unfold chkE at h
  split at h
  · rename_i f es kws pos
    split at h
    · rename_i x px
      simp only [Bool.and_eq_true, decide_eq_true_eq, Bool.not_eq_true'] at h
      obtain ⟨⟨h1, h4⟩, h5⟩ := h
      obtain ⟨q1, q2, q3, q4⟩ := slot_of h1
      have al := allPE sc es hs g hX h5
      cases es with
      | nil => cases h4
      | cons e es =>
        cases args with
        | nil => cases (show _ = _ from al)
        | cons e0 args =>
          obtain ⟨_, _, e1, hst, _, al2⟩ := al
          cases e1
          have pl := noStars (pos := pos) al2
          have z : PE X (.Call (.Name x px) (e :: es) [] pos) (tEv C Wo PX (evE cf (.callV i (e0 :: args)))) := PEimp (pe_callH (PX := PX) g.fns g.room g.grd q1 (hX ▸ q2) g.pass (paL (allPE sc (e :: es) hs g hX h5)) q3 q4 hst pl) fun σ H Q h => callV_t h
          exact ⟨z, ptOf z rfl⟩
    · cases h
  · cases h
end
end Fx

/-! Fx10: what is walked, from the text; comprehensions. -/
namespace Fx
open PySem PySem.Spec PyProof.Rows L2

/-- what a walked thing asks of its values -/
def iKr (K : PySem.W.Frag) (k : IK) (vs : List V) (H : Hp) (R : It → Hp → Prop) : Prop := match k with
  | .seq => ∃ (b : Bool) (a : Addr) (xs : List V), vs = [.ref a] ∧ Sq b K H a xs ∧ R (if b = true then Itt K a else Itl K a) H
  | .range1 => ∃ j : Int, vs = [.int j] ∧ -(2 ^ 62) ≤ j ∧ j < 2 ^ 62 ∧ R (Itr 0 j.toNat) H
  | .range2 => ∃ i j : Int, vs = [.int i, .int j] ∧ (-(2 ^ 62) ≤ i ∧ i < 2 ^ 62 ∧ -(2 ^ 62) ≤ j ∧ j < 2 ^ 62) ∧ R (Itr i (j - i).toNat) H
  | .enum => ∃ (t : Bool) (a : Addr) (xs : List V), vs = [.ref a] ∧ Sq t K H a xs ∧ R (ItE t K a) H
  | .zip => ∃ (t u : Bool) (a b : Addr) (xs ys : List V), vs = [.ref a, .ref b] ∧ Sq t K H a xs ∧ Sq u K H b ys ∧ R (ItZ t u K a b) H
  | _ => False
def iK (K : PySem.W.Frag) (k : IK) (t : TA) : TI := fun σ H R => t σ H fun vs H1 => iKr K k vs H1 R
def isTup1 : List D → Bool | d :: _ => isTup d | _ => false
def isTup2 : List D → Bool | _ :: d :: _ => isTup d | _ => false
def ref1 : List V → Addr | .ref a :: _ => a | _ => 0
def ref2 : List V → Addr | _ :: .ref a :: _ => a | _ => 0
def int1 : List D → Int | .int i :: _ => i | _ => 0
def int2 : List D → Int | _ :: .int i :: _ => i | _ => 0
/-- the walk -/
def itOf (K : PySem.W.Frag) (k : IK) (ds : List D) (vs : List V) : It := match k with
  | .range1 => Itr 0 (int1 ds).toNat
  | .range2 => Itr (int1 ds) (int2 ds - int1 ds).toNat
  | .enum => ItE (isTup1 ds) K (ref1 vs)
  | .zip => ItZ (isTup1 ds) (isTup2 ds) K (ref1 vs) (ref2 vs)
  | _ => if isTup1 ds = true then Itt K (ref1 vs) else Itl K (ref1 vs)

def ArgsB (C : Ct) (B : Addr → Prop) (μ W : List Addr) (H : Hp) : List D → List V → Prop
  | [], vs => vs = []
  | d :: l, vs => ∃ v r, vs = v :: r ∧ RepB C B μ W H d v ∧ Reps C μ W H l r

section
variable {C : Ct} {B : Addr → Prop} {μ W : List Addr} {H : Hp} {M : Store}
theorem ArgsB.A {ds : List D} {vs : List V} (h : ArgsB C B μ W H ds vs) : ArgsR C μ W H ds vs := by
  cases ds with
  | nil => exact h
  | cons d l =>
    obtain ⟨v, r, e, h1, h2⟩ := h
    exact ⟨v, r, e, h1.elim .inl fun ⟨a, e, hw, _, hc⟩ => .inr ⟨a, e, hw, hc⟩, h2⟩
theorem ArgsR.toB {ds : List D} {vs : List V} (h : ArgsR C μ W H ds vs) (hB : ∀ a ∈ W, ¬ B a) : ArgsB C B μ W H ds vs := by
  cases ds with
  | nil => exact h
  | cons d l =>
    obtain ⟨v, r, e, h1, h2⟩ := h
    exact ⟨v, r, e, h1.elim .inl fun ⟨a, e, hw, hc⟩ => .inr ⟨a, e, hw, hB a hw, hc⟩, h2⟩
theorem ArgsB.one {d : D} {vs : List V} (h : ArgsB C B μ W H [d] vs) : ∃ v, vs = [v] ∧ RepB C B μ W H d v := by
  obtain ⟨v, r, e, h1, h2⟩ := h
  cases (show r = [] from h2)
  exact ⟨v, e, h1⟩
theorem ArgsB.two {d d2 : D} {vs : List V} (h : ArgsB C B μ W H [d, d2] vs) : ∃ v v2, vs = [v, v2] ∧ RepB C B μ W H d v ∧ Rep C μ W H d2 v2 := by
  obtain ⟨v, r, e, h1, v2, r2, e2, h3, h4⟩ := h
  cases (show r2 = [] from h4)
  subst e2
  exact ⟨v, v2, e, h1, h3⟩
theorem RepB.i {i : Int} {v : V} (h : RepB C B μ W H (.int i) v) : v = .int i := h.elim id fun ⟨_, _, _, _, z⟩ => z.elim

/-- the walks of the text are walks of ours -/
theorem wlk_of {k : IK} {ds xs : List D} {vs : List V} (hw : walkD k ds = some xs) (w : Wd C μ W H M) (hB : ∀ a, B a → a ∈ W) (h : ArgsB C B μ W H ds vs) :
    Wlk C B (itOf C.K k ds vs) xs μ W H ∧ ∀ R : It → Hp → Prop, R (itOf C.K k ds vs) H → iKr C.K k vs H R := by
  have one : ∀ {d : D} {l : List D}, ds = [d] → seqOf d = some l → ∃ a us, vs = [.ref a] ∧ isTup1 ds = isTup d ∧ ref1 vs = a ∧ Stays C B (isTup d) a us l μ W H ∧ Sq (isTup d) C.K H a us := fun {d l} e q => by
    subst e
    obtain ⟨v, e1, r⟩ := h.one
    obtain ⟨a, us, e2, s, sq⟩ := stays_of w q hB r
    subst e1 e2
    exact ⟨a, us, rfl, rfl, rfl, s, sq⟩
  have two : ∀ {d d2 : D} {l l2 : List D}, ds = [d, d2] → seqOf d = some l → seqOf d2 = some l2 → ∃ a b us us2, vs = [.ref a, .ref b] ∧ isTup1 ds = isTup d ∧ isTup2 ds = isTup d2 ∧ ref1 vs = a ∧ ref2 vs = b ∧
      (Stays C B (isTup d) a us l μ W H ∧ Sq (isTup d) C.K H a us) ∧ Stays C B (isTup d2) b us2 l2 μ W H ∧ Sq (isTup d2) C.K H b us2 := fun {d d2 l l2} e q q2 => by
    subst e
    obtain ⟨v, v2, e1, r, r2⟩ := h.two
    obtain ⟨a, us, e2, s, sq⟩ := stays_of w q hB r
    obtain ⟨b, us2, e3, s2, sq2⟩ := stays_of (B := B) w q2 hB (.inl r2)
    subst e1 e2 e3
    exact ⟨a, b, us, us2, rfl, rfl, rfl, rfl, rfl, ⟨s, sq⟩, s2, sq2⟩
  have enumr : ∀ {d : D} {l : List D}, k = .enum → ds = [d] → seqOf d = some l → xs = enumD 0 l → Wlk C B (itOf C.K k ds vs) xs μ W H ∧ ∀ R : It → Hp → Prop, R (itOf C.K k ds vs) H → iKr C.K k vs H R := fun {d l} ek e q ex => by
    obtain ⟨a, us, e1, e2, e3, s, sq⟩ := one e q
    subst ek ex
    simp only [itOf, e2, e3]
    exact ⟨wlk_enum s, fun R r => ⟨_, a, us, e1, sq, r⟩⟩
  have zipr : ∀ {d d2 : D} {l l2 : List D}, k = .zip → ds = [d, d2] → seqOf d = some l → seqOf d2 = some l2 → xs = zipD l l2 → Wlk C B (itOf C.K k ds vs) xs μ W H ∧ ∀ R : It → Hp → Prop, R (itOf C.K k ds vs) H → iKr C.K k vs H R := fun {d d2 l l2} ek e q q2 ex => by
    obtain ⟨a, b, us, us2, e1, e2, e3, e4, e5, ⟨s, sq⟩, s2, sq2⟩ := two e q q2
    subst ek ex
    simp only [itOf, e2, e3, e4, e5]
    exact ⟨wlk_zip s s2, fun R r => ⟨_, _, a, b, us, us2, e1, sq, sq2, r⟩⟩
  unfold walkD at hw
  split at hw
  · cases hw
    obtain ⟨a, us, e1, e2, e3, s, sq⟩ := one rfl rfl
    simp only [itOf, e2, e3]
    exact ⟨by simp only [isTup]; exact wlk_tup s, fun R r => ⟨true, a, us, e1, sq, r⟩⟩
  · cases hw
    obtain ⟨a, us, e1, e2, e3, s, sq⟩ := one rfl rfl
    simp only [itOf, e2, e3]
    exact ⟨by simp only [isTup]; exact wlk_list s, fun R r => ⟨false, a, us, e1, sq, r⟩⟩
  · rename_i j
    split at hw
    · rename_i hj
      cases hw
      obtain ⟨v, e1, r⟩ := h.one
      have e2 := r.i
      subst e1 e2
      have wk := wlk_range (C := C) (B := B) (μ := μ) (W := W) (H := H) (lo := 0) (m := j.toNat)
      simp only [Int.zero_add] at wk
      exact ⟨wk, fun R r => ⟨j, rfl, hj.1, hj.2, r⟩⟩
    · cases hw
  · rename_i i j
    split at hw
    · rename_i hj
      cases hw
      obtain ⟨v, v2, e1, r, r2⟩ := h.two
      have e2 := r.i
      cases r2
      subst e1 e2
      exact ⟨wlk_range, fun R r => ⟨i, j, rfl, hj, r⟩⟩
    · cases hw
  · cases hw; exact enumr rfl rfl rfl rfl
  · cases hw; exact enumr rfl rfl rfl rfl
  · cases hw; exact zipr rfl rfl rfl rfl rfl
  · cases hw; exact zipr rfl rfl rfl rfl rfl
  · cases hw; exact zipr rfl rfl rfl rfl rfl
  · cases hw; exact zipr rfl rfl rfl rfl rfl
  · cases hw
theorem go_walk {k : IK} {ds xs : List D} {vs : List V} (hw : walkD k ds = some xs) (w : Wd C μ W H M) (h : ArgsR C μ W H ds vs) {R : It → Hp → Prop} (r : R (itOf C.K k ds vs) H) : iKr C.K k vs H R :=
  (wlk_of (B := NoB) hw w (fun _ z => z.elim) (ArgsR.toB h fun _ _ z => z)).2 R r
end

section
variable {C : Ct} {nm : Nm} {cf : Cf} {n : Nat} {Wo : List Addr} {X : Cx} {PX : Sg → XK}
theorem one_read {e : E} {σ : Sg} {H : Hp} {Q : List V → Hp → Prop} (h : tEvW C Wo PX (evL cf [e]) σ H Q) : tEvA C Wo PX (evE cf e) σ H fun x H1 => Q [x] H1 := by
  obtain ⟨μ, W, ρ, M, a, o⟩ := h
  refine ⟨μ, W, ρ, M, a, ?_⟩
  simp only [evL] at o
  cases he : evE cf e ρ M with
  | no => rw [he] at o; exact o
  | ex c fs M1 => rw [he] at o; exact o
  | ok d M1 =>
    rw [he] at o
    exact fun μ1 H1 v e1 w1 r1 => o μ1 H1 [v] e1 w1 ⟨v, [], rfl, r1, rfl⟩
theorem pi_seq {tg l : Expr} {t : TE} (hl : PE X l t) : PI X tg l (fun σ H R => t σ H fun x H1 => iKr X.K .seq [x] H1 R) := by
  refine ⟨fun pins s σ H R I h => ?_⟩
  refine thn (hl.run pins s σ H _ I h) fun v s1 ⟨x, H1, I1, r1, q1⟩ => ?_
  obtain ⟨b, a, xs, e, hq, q⟩ := q1
  cases e
  cases r1
  have fpk : ∀ b' ∈ [s1.heap.objs.size], FpOk X pins H1 b' := fun b' hb => by
    have e : b' = s1.heap.objs.size := by simpa using hb
    subst e
    exact I1.fpOk (Nat.le_refl _) (I1.hok.fresh (Nat.le_refl _))
  cases b with
  | false =>
    obtain ⟨its, rv, p, hz⟩ := I1.list (show SqL X.K H1 a xs from hq)
    refine wpAny_pyIter_list p.isList ?_
    exact ⟨s1.heap.objs.size, [s1.heap.objs.size], _, _, H1, rfl, I1.kept (t' := s1.toks) fun b o e => Heap.get?_push_of_some _ e, turn_list a _, ⟨_, Heap.get?_push_size _ rfl, rfl, rfl⟩, fpk, q⟩
  | true =>
    obtain ⟨its, rv, p, hz⟩ := I1.tuple (show SqT X.K H1 a xs from hq)
    refine wpAny_pyIter_tuple (show s1.heap.IsTuple a its.toArray from p) ?_
    exact ⟨s1.heap.objs.size, [s1.heap.objs.size], _, _, H1, rfl, I1.kept (t' := s1.toks) fun b o e => Heap.get?_push_of_some _ e, turn_tuple a _, ⟨_, Heap.get?_push_size _ rfl, rfl, rfl⟩, fpk, q⟩
theorem PIimp {tg l : Expr} {t t' : TI} (h : PI X tg l t) (i : ∀ σ H R, t' σ H R → t σ H R) : PI X tg l t' := ⟨fun pins s σ H R I q => h.run pins s σ H R I (i σ H R q)⟩
/-- what is walked comes -/
theorem pi_of {sc : Scope} {k : IK} {tg iter : Expr} {ps : List Expr} {its : List E} (hs : ∀ e ∈ its, Snd C nm cf n Wo e) (g : Good C nm cf.call n X PX) (hX : X.env.scope = sc) (h : iterArgs nm sc k tg iter = some ps) (hc : chkW nm X.N sc its ps = true) :
    PI X tg iter (iK X.K k (tEvW C Wo PX (evL cf its))) ∧ ∀ x, foldedSetIterable iter X.env x = pure x := by
  have w := wPE sc ps hs g hX hc
  unfold iterArgs at h
  split at h
  · split at h
    · rename_i h1
      cases h
      obtain ⟨e, rfl, _, h2⟩ := wpe1 w
      refine ⟨PIimp (pi_seq h2) fun σ H R q => one_read q, fun x => ?_⟩
      cases iter <;> first | rfl | cases h1
    · cases h
  · split at h
    · rename_i x px a pos
      split at h
      · rename_i h1
        cases h
        obtain ⟨e1, gl, hb⟩ := blt_of hX h1
        subst e1
        obtain ⟨e, rfl, hn, h2⟩ := wpe1 w
        exact ⟨pi_range1 gl (g.mgb _ hb) (paW w) (starCons hn), fun _ => rfl⟩
      · cases h
    · cases h
  · split at h
    · rename_i x px a b pos
      split at h
      · rename_i h1
        cases h
        obtain ⟨e1, gl, hb⟩ := blt_of hX h1
        subst e1
        obtain ⟨e, e2, rfl, _, _, hn, hn2⟩ := wpe2 w
        exact ⟨pi_range2 gl (g.mgb _ hb) (paW w) (by rw [starCons hn, starCons hn2]; rfl) (starCons hn2), fun _ => rfl⟩
      · cases h
    · cases h
  · split at h
    · rename_i x px a pos
      split at h
      · rename_i h1
        cases h
        obtain ⟨e1, gl, hb⟩ := blt_of hX h1
        subst e1
        obtain ⟨e, rfl, hn, h2⟩ := wpe1 w
        exact ⟨pi_enumA gl (g.mgb _ hb) (paW w) (starCons hn), fun _ => rfl⟩
      · cases h
    · cases h
  · split at h
    · rename_i x px a b pos
      split at h
      · rename_i h1
        cases h
        obtain ⟨e1, gl, hb⟩ := blt_of hX h1
        subst e1
        obtain ⟨e, e2, rfl, _, _, hn, hn2⟩ := wpe2 w
        exact ⟨pi_zipM gl (g.mgb _ hb) (paW w) (starCons hn) (by rw [starCons hn2]; rfl), fun _ => rfl⟩
      · cases h
    · cases h
  · cases h
end
end Fx

/-! Fx11: comprehensions; every expression is sound. -/
namespace Fx
open PySem PySem.Spec PyProof.Rows L2

theorem wipe_get {σ : Sg} {i : Nat} : ∀ {l : List Nat}, (L2.wipe σ l)[i]? = if i ∈ l then (if i < σ.length then some none else none) else σ[i]?
  | [] => by simp [L2.wipe]
  | v :: vs => by
    unfold L2.wipe
    by_cases h : v = i
    · subst h
      by_cases hl : v < σ.length
      · rw [List.getElem?_set_self (by rw [wipe_length]; exact hl)]; simp [hl]
      · rw [List.getElem?_eq_none (by rw [List.length_set, wipe_length]; omega)]; simp [hl]
    · rw [List.getElem?_set_ne h, wipe_get]
      simp [Ne.symm h]
theorem wipe_same {σ σ2 : Sg} {l : List Nat} (hl : σ2.length = σ.length) (h : ∀ i, i ∉ l → σ2[i]? = (L2.wipe σ l)[i]?) : L2.wipe σ2 l = L2.wipe σ l := by
  apply List.ext_getElem?
  intro i
  rw [wipe_get]
  by_cases hi : i ∈ l
  · rw [if_pos hi, wipe_get, if_pos hi, hl]
  · rw [if_neg hi]
    exact h i hi
mutual
theorem tg_in {own : List Nat} : ∀ (t : Tg), tgIn own t = true → ∀ i ∈ tgS t, i ∈ own
  | .n i, h, j, hj => by
    unfold tgIn at h
    have : j = i := List.mem_singleton.mp hj
    subst this
    exact of_decide_eq_true h
  | .t l, h, j, hj => tgs_in l h j hj
theorem tgs_in {own : List Nat} : ∀ (l : List Tg), tgsIn own l = true → ∀ i ∈ tgsS l, i ∈ own
  | [], _, j, hj => by cases hj
  | t :: l, h, j, hj => by
    unfold tgsIn at h
    simp only [Bool.and_eq_true] at h
    rcases List.mem_append.mp hj with z | z
    · exact tg_in t h.1 j z
    · exact tgs_in l h.2 j z
end
section
variable {C : Ct} {B : Addr → Prop} {μ μ' W W' W2 : List Addr} {H H' : Hp}
theorem Ext.lessW (e : Ext B μ W H μ' W' H') (h : ∀ a ∈ W2, a ∈ W') : Ext B μ W H μ' W2 H' := ⟨e.pre, e.keep, e.tups, e.frzs, e.newM, fun a z => e.newW a (h a z), e.trk⟩

variable {nm : Nm} {cf : Cf} {n : Nat} {Wo : List Addr} {X : Cx} {PX : Sg → XK}
abbrev PX0 : Sg → XK := fun _ _ _ _ => False
/-- conditions -/
def ttC (C : Ct) (cf : Cf) (Wo : List Addr) (conds : List E) : TT := fun σ H Q => ∃ μ W ρ M b M', At C Wo μ W ρ M σ H ∧ evC cf conds ρ M = some (b, M') ∧
  ∀ μ' H', Ext NoB μ W H μ' W H' → Wd C μ' W H' M' → Q b H'
theorem pts_of {sc : Scope} {conds : List E} {ifs : List Expr} (hs : ∀ e ∈ conds, Snd C nm cf n Wo e) (g : Good C nm cf.call n X PX0) (hX : X.env.scope = sc) (hl : conds.length ≤ 1) (h : chkL1 nm X.N sc conds ifs = true) : PTs X ifs (ttC C cf Wo conds) := by
  match conds, hl with
  | [], _ =>
    unfold chkL1 at h
    cases List.isEmpty_iff.mp h
    refine ⟨fun pins s σ H Q I ⟨μ, W, ρ, M, b, M', a, e, q⟩ => ?_⟩
    cases e
    exact pts_nil.run pins s σ H Q I (q μ H Ext.refl a.wd)
  | [c], _ =>
    unfold chkL1 at h
    split at h
    · rename_i p r
      simp only [Bool.and_eq_true] at h
      have h2 := h.2
      unfold chkL1 at h2
      cases List.isEmpty_iff.mp h2
      refine ⟨fun pins s σ H Q I ⟨μ, W, ρ, M, b, M', a, e, q⟩ => ?_⟩
      refine (pts_one ((hs c List.mem_cons_self).pt X PX0 sc p g hX h.1)).run pins s σ H Q I ⟨μ, W, ρ, M, a, ?_⟩
      unfold evC at e
      split at e
      · rename_i M1 he
        cases e
        rw [he]
        intro μ1 H1 v e1 w1 r1
        exact ⟨true, r1, q μ1 H1 e1 w1⟩
      · rename_i M1 he
        cases e
        rw [he]
        intro μ1 H1 v e1 w1 r1
        exact ⟨false, r1, q μ1 H1 e1 w1⟩
      · cases e
    · cases h

/-- one turn -/
abbrev turnD (cf : Cf) (elt : E) (t : Tg) (conds : List E) (own : List Nat) (ρ : Env) : D → Store → Option (Option D × Store) := fun d M2 => match bindT t d (wipeE ρ own) with
  | some ρ' => match evC cf conds ρ' M2 with
    | some (false, M3) => some (none, M3)
    | some (true, M3) => match evE cf elt ρ' M3 with | .ok v M4 => some (some v, M4) | _ => none
    | none => none
  | none => none

theorem comp_ev (elt : E) (t : Tg) (k : IK) (its conds : List E) (own : List Nat) (ρ : Env) (M : Store) : evE cf (.comp elt t k its conds own) ρ M = (evL cf its ρ M).bd fun ds M1 => match walkD k ds with
    | some xs => match loopC (turnD cf elt t conds own ρ) xs M1 with
      | .ok vs M5 => if vs.length ≤ LN then .ok (.lst vs) M5 else .no
      | _ => .no
    | none => .no := by
  rw [evE] <;> rfl

theorem bdL_ok {r : RL} {f : List D → Store → RL} {ds : List D} {M : Store} (h : r.bdL f = .ok ds M) : ∃ d M1, r = .ok d M1 ∧ f d M1 = .ok ds M := by
  cases r with
  | ok d M1 => exact ⟨d, M1, rfl, h⟩
  | ex c fs M1 => cases h
  | no => cases h

theorem comp_t {elt : E} {t : Tg} {k : IK} {its conds : List E} {own : List Nat} {σ : Sg} {H : Hp} {Q : VK} (hK : X.K = C.K) (ht : tgIn own t = true) (h : tEv C Wo PX (evE cf (.comp elt t k its conds own)) σ H Q) :
    tLc (iK X.K k (tEvW C Wo PX (evL cf its))) (gT C Wo t) (ttC C cf Wo conds) (tEv C Wo PX0 (evE cf elt)) own σ H Q := by
  obtain ⟨μ, W, ρ, M, a, o⟩ := h
  rw [comp_ev] at o
  refine ⟨μ, W, ρ, M, a, ?_⟩
  cases hl : evL cf its ρ M with
  | no => rw [hl] at o; exact o
  | ex c fs M1 => rw [hl] at o; exact o
  | ok ds M1 =>
    rw [hl] at o
    intro μ1 H1 vs e1 w1 r1
    simp only [RL.bd] at o
    split at o
    · rename_i xs hx
      split at o
      · rename_i fin Mf hf
        split at o
        · rename_i hz
          rw [hK]
          refine go_walk hx w1 r1 fun D hD => ?_
          have o : ∀ μ' H' v, Ext NoB μ W H μ' W H' → Wd C μ' W H' Mf → Rep C μ' W H' (.lst fin) v → Q v H' := o
          have f1 : Ext NoB μ1 W H1 μ1 (D :: W) (upd H1 D (.lst [])) := Ext.freshW hD
          have w2 : Wd C μ1 (D :: W) (upd H1 D (.lst [])) M1 := w1.freshW hD
          have a1 := a.later e1 w1
          have envD : EnvR C μ1 (D :: W) (upd H1 D (.lst [])) Wo ρ σ := a1.env.ext f1 (fun _ z => z.elim) w1.dis (fun b hb => List.mem_cons_of_mem _ hb) fun _ _ _ _ _ z => z
          have neD : ∀ (i : Nat) (d : Fx.D) (b : Addr), ρ[i]? = some (Sl.own d) → σ[i]? = some (some (V.ref b)) → ¬ b = D := fun i d b h1 h2 z => by
            obtain ⟨b', q1, q2, _⟩ := a1.env.own i d h1
            rw [h2] at q1
            cases q1
            subst z
            exact w1.notW hD q2
          have wk := (wlk_of (B := fun b => b = D) (M := M1) hx w2 (fun b z => by rw [z]; exact List.mem_cons_self) (ds := ds) (vs := vs) (by
            have r2 : ArgsB C (fun b => b = D) μ1 W H1 ds vs := ArgsR.toB r1 fun b hb z => by subst z; exact w1.notW hD hb
            cases ds with
            | nil => exact r2
            | cons d l =>
              obtain ⟨v, r, e, h1, h2⟩ := r2
              refine ⟨v, r, e, h1.elim (fun z => .inl (Rep.ext f1 (fun _ z => z.elim) d v z)) fun ⟨b, q1, q2, q3, q4⟩ => .inr ⟨b, q1, List.mem_cons_of_mem _ q2, q3, q4.ext f1 (fun _ z => z.elim) fun o ho => f1.keep b o ho (w1.dis b q2) id⟩, Reps.ext f1 (fun _ z => z.elim) l r h2⟩)).1
          -- the turns
          let Pv : Nat → Hp → Prop := fun i H' => i ≤ xs.length ∧ ∃ μ' M' acc rest, Ext (fun b => b = D) μ1 (D :: W) (upd H1 D (.lst [])) μ' (D :: W) H' ∧ Wd C μ' (D :: W) H' M' ∧ Con C μ' (D :: W) H' D (.lst acc) ∧
            loopC (turnD cf elt t conds own ρ) (xs.drop i) M' = .ok rest Mf ∧ acc ++ rest = fin
          refine ⟨fun i m H' => m = xs.length - i ∧ Pv i H', ⟨xs.length, by simp, Nat.zero_le _, μ1, M1, [], fin, Ext.refl, w2, ⟨[], upd_same, rfl⟩, hf, rfl⟩, ?_⟩
          rintro i m H2 ⟨rfl, hi, μ2, M2, acc, rest, x2, wd2, c2, l2, e2⟩
          have wki := wk μ2 (D :: W) H2 M2 x2 wd2
          by_cases hlt : i < xs.length
          · refine .inr ⟨wki.1 i hlt, Pv (i + 1), fun H' p' => ⟨xs.length - (i + 1), by omega, rfl, p'⟩, fun x H3 y => ?_⟩
            obtain ⟨d, hd, x3, wd3, r3⟩ := wki.2.2 i x H3 hlt y
            have hdr : xs.drop i = d :: xs.drop (i + 1) := by
              rw [List.drop_eq_getElem_cons hlt]
              rw [List.getElem?_eq_getElem hlt] at hd
              cases hd
              rfl
            rw [hdr] at l2
            unfold loopC at l2
            have x23 : Ext (fun b => b = D) μ1 (D :: W) (upd H1 D (.lst [])) μ2 (D :: W) H3 := x2.trans x3 fun _ z => z.elim
            have conK : ∀ {μ' : List Addr} {H' : Hp}, Ext NoB μ2 (D :: W) H2 μ' (D :: W) H' → Con C μ' (D :: W) H' D (.lst acc) := fun {μ' H'} e => c2.ext e (fun _ z => z.elim) fun o ho => e.keep D o ho (wd2.dis D List.mem_cons_self) id
            have at3 : At C Wo μ2 (D :: W) (wipeE ρ own) M2 (L2.wipe σ own) H3 := ⟨(envD.ext x23 (fun b z => by rw [z]; exact List.mem_cons_self) w2.dis (fun _ z => z) neD).wipe own, wd3⟩
            split at l2
            · rename_i M3 ht2
              simp only [turnD] at ht2
              split at ht2
              · rename_i ρ' hb
                refine ⟨μ2, D :: W, _, M2, d, ρ', at3, r3, hb, fun σ' a' k' n' => ⟨wipe_same (by rw [n', wipe_length]) fun j hj => k' j fun z => hj (tg_in t ht j z), ?_⟩⟩
                split at ht2
                · rename_i M4 hc
                  cases ht2
                  refine ⟨μ2, D :: W, ρ', M2, false, _, a', hc, fun μ5 H5 x5 w5 => ?_⟩
                  show Pv (i + 1) H5
                  exact ⟨hlt, μ5, _, acc, rest, x23.trans x5 (fun _ z => z.elim), w5, conK (x3.trans0 x5), l2, e2⟩
                · split at ht2 <;> cases ht2
                · cases ht2
              · cases ht2
            · rename_i v M3 ht2
              simp only [turnD] at ht2
              split at ht2
              · rename_i ρ' hb
                refine ⟨μ2, D :: W, _, M2, d, ρ', at3, r3, hb, fun σ' a' k' n' => ⟨wipe_same (by rw [n', wipe_length]) fun j hj => k' j fun z => hj (tg_in t ht j z), ?_⟩⟩
                split at ht2
                · cases ht2
                · rename_i M4 hc
                  split at ht2
                  · rename_i v' M5 hv
                    cases ht2
                    refine ⟨μ2, D :: W, ρ', M2, true, _, a', hc, fun μ5 H5 x5 w5 => ?_⟩
                    show tEv C Wo PX0 (evE cf elt) σ' H5 fun y H4 => ∃ acc, H4 D = some (.lst acc) ∧ acc.length < sizeLine ∧ Pv (i + 1) (upd H4 D (.lst (acc ++ [y])))
                    refine ⟨μ5, D :: W, ρ', M4, a'.later x5 w5, ?_⟩
                    rw [hv]
                    intro μ6 H6 y6 x6 w6 r6
                    obtain ⟨rest', M6, hr, hr2⟩ := bdL_ok l2
                    cases hr2
                    have c6 := conK ((x3.trans0 x5).trans0 x6)
                    obtain ⟨us, c61, c62⟩ := c6
                    have hlen : acc.length < LN := by
                      rw [← e2] at hz
                      simp at hz
                      omega
                    have hp : Ext (fun b => b = D) μ6 (D :: W) H6 μ6 (D :: W) (upd H6 D (.lst (us ++ [y6]))) := Ext.put c61 (fun _ z => nomatch z) (fun _ _ z => nomatch z) (.inr rfl)
                    refine ⟨us, c61, by rw [c62.len]; exact hlen, hlt, μ6, _, acc ++ [v], rest', (x23.trans (x5.trans0 x6) (fun _ z => z.elim)).trans hp (fun b z => .inl z), w6.putW List.mem_cons_self hp, ⟨_, upd_same, ?_⟩, hr, by rw [List.append_assoc]; exact e2⟩
                    exact Reps.ext hp (fun b z => by rw [z]; exact List.mem_cons_self) _ _ (Reps.app c62 ⟨y6, [], rfl, r6, rfl⟩)
                  · cases ht2
                · cases ht2
              · cases ht2
            · cases l2
          · have ei : i = xs.length := by omega
            subst ei
            rw [List.drop_length] at l2
            cases l2
            rw [List.append_nil] at e2
            subst e2
            refine .inl ⟨wki.2.1, ?_⟩
            have x4 : Ext NoB μ W H μ2 (D :: W) H2 := (e1.trans f1 (fun _ z => z.elim)).trans x2 fun b z => .inr (by rw [z]; exact e1.back hD)
            obtain ⟨us, c21, c22⟩ := c2
            exact o μ2 H2 (.ref D) (x4.lessW fun b z => List.mem_cons_of_mem _ z) (wd2.lessW fun b z => List.mem_cons_of_mem _ z)
              ⟨D, us, rfl, .inl ⟨wd2.dis D List.mem_cons_self, w1.notW hD, .inl c21⟩, Reps.lessW (fun b z => List.mem_cons_of_mem _ z) _ _ c22⟩
        · exact o.elim
      · exact o.elim
    · exact o.elim

theorem relS_loc {scope sc : Scope} {y : Str} : (relS scope sc).kind = scope.kind := rfl
theorem good_blk {s : Shared} {H : Hp} {scope : Scope} {cenv : PySem.Env} {fp : List Addr} (g : Good C nm cf.call n X PX) : Good C nm cf.call n (X.blk s H scope cenv fp) PX0 :=
  ⟨g.K, g.nd, g.calm, g.room, g.grd, g.mgf, g.mgb, g.mgc, g.fns, fun σ pins H s e s' I ⟨_, _, _, _, _, _, _, _, _, _, _, _, z⟩ => z.elim⟩
theorem stor_blk {s : Shared} {H : Hp} {scope : Scope} {cl : List (Str × Addr)} {A : Addr} {fp : List Addr} (g : Good C nm cf.call n X PX) : Stor (X.blk s H scope (compEnvC scope cl A X.env) fp) scope where
  nd := g.nd
  calm := g.calm
  loc := fun x h => by
    have key : scope.names.lookup x = some .local ∨ scope.names.lookup x = some .cell := by
      unfold locB at h
      split at h
      · exact .inl (by assumption)
      · exact .inr (by assumption)
      · cases h
    rcases key with k | k
    · have z : (compEnvC scope cl A X.env).scope.names.lookup x = some .local := lookup_relS_keep (by decide) k
      exact ⟨.inl z, .inr z⟩
    · have z : (compEnvC scope cl A X.env).scope.names.lookup x = some .cell := lookup_relS_keep (by decide) k
      exact ⟨.inr z, .inl (by show (scope.names.lookup x == some .cell) = true; rw [k]; rfl)⟩

theorem map_own (N : List Str) : ∀ own : List Nat, (own.map fun i => (N.getD i Str.empty, i)).map (·.2) = own
  | [] => rfl
  | i :: l => by simp only [List.map_cons, map_own N l]
theorem snd_comp (elt : E) (t : Tg) (k : IK) (its conds : List E) (own : List Nat) (he : Snd C nm cf n Wo elt) (hi : ∀ e ∈ its, Snd C nm cf n Wo e) (hc : ∀ e ∈ conds, Snd C nm cf n Wo e) : Snd C nm cf n Wo (.comp elt t k its conds own) := by
  refine Snd.both (fun X PX sc p g hX h => ?_) fun N sc op vs pos => by unfold chkE; rfl
  unfold chkE at h
  split at h
  · rename_i pe gens scope pos
    split at h
    · rename_i tg iter ifs a
      simp only [Bool.and_eq_true, decide_eq_true_eq] at h
      obtain ⟨⟨⟨⟨⟨⟨⟨h1, h2⟩, h3⟩, h4⟩, h5⟩, h6⟩, h7⟩, h8⟩ := h
      subst h1
      split at h2
      · rename_i ps hps
        obtain ⟨P, hf⟩ := pi_of hi g hX hps h2
        subst hX
        have ok := blkOk_by h3
        have z : PE X (.ListComp pe [⟨tg, iter, ifs, 0⟩] scope pos) (tEv C Wo PX (evE cf (.comp elt t k its conds own))) := by
          refine PEimp (pe_lc g.calm g.nd P ok (g := gT C Wo t) (tt := ttC C cf Wo conds) (te := tEv C Wo PX0 (evE cf elt)) (fun s H A cl fp => pgT (stor_blk g) g.K t tg h4)
            (fun s H A cl fp => pts_of hc (good_blk g) rfl h6 h7) (fun s H A cl fp => he.pe _ PX0 _ pe (good_blk g) rfl h8) hf) fun σ H Q h => ?_
          rw [map_own]
          exact comp_t g.K h5 h
        exact ⟨z, ptOf z rfl⟩
      · cases h2
    · cases h
  · cases h

mutual
/-- every expression of ours -/
theorem snd (C : Ct) (nm : Nm) (cf : Cf) (n : Nat) (Wo : List Addr) : ∀ e : E, Snd C nm cf n Wo e
  | .c d => snd_c d
  | .g x d => snd_g x d
  | .f k => snd_f k
  | .v i => snd_v i
  | .ov i => snd_ov i
  | .pr q args => snd_pr q args (snds C nm cf n Wo args)
  | .and a b => snd_and a b (snd C nm cf n Wo a) (snd C nm cf n Wo b)
  | .or a b => snd_or a b (snd C nm cf n Wo a) (snd C nm cf n Wo b)
  | .not a => snd_not a (snd C nm cf n Wo a)
  | .ite c a b => snd_ite c a b (snd C nm cf n Wo c) (snd C nm cf n Wo a) (snd C nm cf n Wo b)
  | .chn q r a b c => snd_chn q r a b c (snd C nm cf n Wo a) (snd C nm cf n Wo b) (snd C nm cf n Wo c)
  | .call k args => snd_call k args (snds C nm cf n Wo args)
  | .callV i args => snd_callV i args (snds C nm cf n Wo args)
  | .comp elt t k its conds own => snd_comp elt t k its conds own (snd C nm cf n Wo elt) (snds C nm cf n Wo its) (snds C nm cf n Wo conds)
theorem snds (C : Ct) (nm : Nm) (cf : Cf) (n : Nat) (Wo : List Addr) : ∀ (l : List E) (e : E), e ∈ l → Snd C nm cf n Wo e
  | [], _, h => (by cases h)
  | a :: l, e, h => by
    rcases List.mem_cons.mp h with z | z
    · rw [z]; exact snd C nm cf n Wo a
    · exact snds C nm cf n Wo l e z
end
end
end Fx

/-! Fx12: the order of stores. -/
namespace Fx
open PySem PySem.Spec PyProof.Rows L2

def notLoc (sc : Scope) : Expr → Bool | .Name x _ => !decide (sc.names.lookup x = some .local) | _ => true
theorem fm_lt {α β : Type} {f : α → Option β} : ∀ {l : List α}, (∃ t ∈ l, f t = none) → (l.filterMap f).length < l.length
  | [], ⟨_, h, _⟩ => by cases h
  | a :: l, ⟨t, h, e⟩ => by
    have le : (l.filterMap f).length ≤ l.length := List.length_filterMap_le _ _
    rw [List.filterMap_cons]
    rcases List.mem_cons.mp h with z | z
    · subst z
      rw [e]
      simp only [List.length_cons]
      omega
    · have q := fm_lt ⟨t, z, e⟩
      split
      · simp only [List.length_cons]; omega
      · simp only [List.length_cons]; omega
theorem swp_none {env : PySem.Env} {ts vs : List Expr} {k k2 p p2} (h : ts.any (notLoc env.scope) = true) : swappedStores [.Tuple ts k p] (.Tuple vs k2 p2) env = pure none := by
  unfold swappedStores
  simp only
  split
  · rfl
  · split
    · rfl
    · split
      · rfl
      · rename_i h3
        exfalso
        apply h3
        rw [Bool.or_eq_true]
        left
        refine bne_iff_ne.mpr (Nat.ne_of_lt (fm_lt ?_))
        obtain ⟨t, ht, hn⟩ := List.any_eq_true.mp h
        refine ⟨t, ht, ?_⟩
        cases t <;> try rfl
        rename_i x pos
        simp only [notLoc, Bool.not_eq_true', decide_eq_false_iff_not] at hn
        have hk : (env.kindOf x == some NameKind.local) = false := beq_eq_false_iff_ne.mpr hn
        simp only [hk, Bool.false_and]
        rfl
/-- names of a pair or triple that are stored from the right -/
def swpB (sc : Scope) (ts vs : List Expr) (xs : List Str) : Bool :=
  decide (sc.kind = .function) && (ts.length == 2 || ts.length == 3) && vs.length == ts.length && vs.all notStar && decide (ts.length = xs.length)
    && (ts.zip xs).all (fun (t, x) => match t with | .Name y p => decide (y = x) && decide (sc.names.lookup x = some .local) && p.line == (ts.head?.map (·.pos.line)).getD 0 | _ => false)
    && decide xs.Nodup && !vs.all (foldedForSure 8) && !vs.all (constantsAlone 8)
theorem fm_names {env : PySem.Env} {l : Nat} : ∀ {ts : List Expr} {xs : List Str}, ts.length = xs.length → (ts.zip xs).all (fun (t, x) => match t with | .Name y p => decide (y = x) && decide (env.scope.names.lookup x = some .local) && p.line == l | _ => false) = true →
    (ts.filterMap fun | .Name id pos => if env.kindOf id == some .local && pos.line == l then some id else none | _ => none) = xs
  | [], [], _, _ => rfl
  | t :: ts, x :: xs, hl, h => by
    simp only [List.zip_cons_cons, List.all_cons, Bool.and_eq_true] at h
    obtain ⟨h1, h2⟩ := h
    have ih := fm_names (env := env) (l := l) (by simpa using hl) h2
    rw [List.filterMap_cons]
    split at h1
    · rename_i y p
      simp only [Bool.and_eq_true, decide_eq_true_eq] at h1
      obtain ⟨⟨rfl, h4⟩, h5⟩ := h1
      have hk : (env.kindOf y == some NameKind.local) = true := beq_iff_eq.mpr h4
      simp only [hk, h5, Bool.and_self, if_true, ih]
    · cases h1
  | [], _ :: _, hl, _ => by cases hl
  | _ :: _, [], hl, _ => by cases hl
theorem nodup_erase : ∀ {xs : List Str}, xs.Nodup → xs.length ≤ 3 → xs.eraseDups.length = xs.length
  | [], _, _ => rfl
  | [a], _, _ => by simp [List.eraseDups_cons]
  | [a, b], h, _ => by
    simp at h
    have hb : (b == a) = false := beq_eq_false_iff_ne.mpr (Ne.symm h)
    simp [List.eraseDups_cons, Ne.symm h]
  | [a, b, c], h, _ => by
    simp at h
    obtain ⟨⟨h1, h2⟩, h3⟩ := h
    simp [List.eraseDups_cons, Ne.symm h1, Ne.symm h2, Ne.symm h3]
  | _ :: _ :: _ :: _ :: _, _, h => by simp at h
theorem swp_some {env : PySem.Env} {ts vs : List Expr} {xs : List Str} {k k2 p p2} (h : swpB env.scope ts vs xs = true) : swappedStores [.Tuple ts k p] (.Tuple vs k2 p2) env = pure (some xs) := by
  unfold swpB at h
  simp only [Bool.and_eq_true, decide_eq_true_eq, Bool.not_eq_true'] at h
  obtain ⟨⟨⟨⟨⟨⟨⟨⟨h1, h2⟩, h3⟩, h4⟩, h5⟩, h6⟩, h7⟩, h8⟩, h9⟩ := h
  have hf := fm_names h5 h6
  unfold swappedStores
  simp only
  have hb : env.blockKind = .function := by unfold PySem.Env.blockKind; rw [h1]; rfl
  have h3' : vs.length = ts.length := by simpa using h3
  have c1 : (!(ts.length == 2 || ts.length == 3) || vs.length != ts.length || env.blockKind != ScopeKind.function) = false := by
    rw [h2, hb, h3', bne_self_eq_false, bne_self_eq_false]; rfl
  rw [if_neg (by rw [c1]; decide)]
  have hl3 : xs.length ≤ 3 := by
    rw [← h5]
    simp only [Bool.or_eq_true, beq_iff_eq] at h2
    omega
  split
  · rename_i z
    obtain ⟨v, hv, z⟩ := List.any_eq_true.mp z
    have := List.all_eq_true.mp h4 v hv
    exfalso
    cases v <;> first | (cases this; done) | (cases z; done)
  · generalize hg : List.filterMap _ ts = L
    have hL : L = xs := by rw [← hg]; exact hf
    subst hL
    rw [if_neg (by rw [nodup_erase h7 hl3, h5]; simp)]
    rw [if_neg (by rw [h8]; decide)]
    rw [if_neg (by rw [h9]; decide)]
end Fx

/-! Fx13: what a statement does; the check. -/
namespace Fx
open PySem PySem.Spec PyProof.Rows L2

/-- a frame's own things -/
abbrev Bo (W Wo : List Addr) : Addr → Prop := fun a => a ∈ W ∧ a ∉ Wo
/-- what is to be shown of a statement's outcome -/
def outS (C : Ct) (Wo : List Addr) (Wx : WX) (D : Ends) (μ W : List Addr) (H : Hp) : RS → Prop
  | .nx ρ M => ∀ σ' μ' W' H', Ext (Bo W Wo) μ W H μ' W' H' → At C Wo μ' W' ρ M σ' H' → D.nx σ' H'
  | .bk ρ M => ∀ σ' μ' W' H', Ext (Bo W Wo) μ W H μ' W' H' → At C Wo μ' W' ρ M σ' H' → D.bk σ' H'
  | .ct ρ M => ∀ σ' μ' W' H', Ext (Bo W Wo) μ W H μ' W' H' → At C Wo μ' W' ρ M σ' H' → D.ct σ' H'
  | .rt d M => ∀ μ' W' H' v, Ext (Bo W Wo) μ W H μ' W' H' → Wd C μ' W' H' M → (∀ a ∈ Wo, a ∈ W') → Rep C μ' W' H' d v → D.rt v H'
  | .ex c fs ρ M => ∀ σ' μ' W' H', Ext (Bo W Wo) μ W H μ' W' H' → At C Wo μ' W' ρ M σ' H' → ExK C c fs (fun cl d h => Wx cl d σ' h) H'
  | .no => False
def tSt (C : Ct) (Wo : List Addr) (Wx : WX) (ev : Env → Store → RS) : TS := fun D σ H => ∃ μ W ρ M, At C Wo μ W ρ M σ H ∧ outS C Wo Wx D μ W H (ev ρ M)

section
variable {C : Ct} {Wo μ μ' μ1 W W' : List Addr} {H H' H1 : Hp} {Wx : WX} {D : Ends} {ρ : Env} {M : Store} {σ : Sg} {Q : VK}
theorem Bo.trans {μ2 W2 : List Addr} {H2 : Hp} (e : Ext (Bo W Wo) μ W H μ' W' H') (f : Ext (Bo W' Wo) μ' W' H' μ2 W2 H2) : Ext (Bo W Wo) μ W H μ2 W2 H2 :=
  e.trans f fun a z => (e.newW a z.1).elim (fun h => .inl ⟨h, z.2⟩) .inr
theorem outS.later {r : RS} (e : Ext (Bo W Wo) μ W H μ' W' H') (o : outS C Wo Wx D μ W H r) : outS C Wo Wx D μ' W' H' r := by
  cases r with
  | nx ρ M => exact fun σ2 μ2 W2 H2 f a => o σ2 μ2 W2 H2 (Bo.trans e f) a
  | bk ρ M => exact fun σ2 μ2 W2 H2 f a => o σ2 μ2 W2 H2 (Bo.trans e f) a
  | ct ρ M => exact fun σ2 μ2 W2 H2 f a => o σ2 μ2 W2 H2 (Bo.trans e f) a
  | rt d M => exact fun μ2 W2 H2 v f w s r => o μ2 W2 H2 v (Bo.trans e f) w s r
  | ex c fs ρ M => exact fun σ2 μ2 W2 H2 f a => o σ2 μ2 W2 H2 (Bo.trans e f) a
  | no => exact o
theorem Ext.bo {μ' : List Addr} {H' : Hp} (e : Ext NoB μ W H μ' W H') : Ext (Bo W Wo) μ W H μ' W H' := e.mono fun _ z => z.elim
theorem outS.go (a : At C Wo μ W ρ M σ H) (o : outS C Wo Wx D μ W H (.nx ρ M)) : D.nx σ H := o σ μ W H Ext.refl a

/-- first a value, then the rest -/
theorem bdS_out {r : RE} {f : Fx.D → Store → RS} (a : At C Wo μ W ρ M σ H) (o : outS C Wo Wx D μ W H (r.bdS ρ f))
    (k : ∀ d M1 μ1 H1 v, Ext NoB μ W H μ1 W H1 → At C Wo μ1 W ρ M1 σ H1 → Rep C μ1 W H1 d v → outS C Wo Wx D μ1 W H1 (f d M1) → Q v H1) : outE C μ W H (WE Wx σ) Q r := by
  cases r with
  | ok d M1 => exact fun μ1 H1 v e w r => k d M1 μ1 H1 v e (a.later e w) r (outS.later e.bo o)
  | ex c fs M1 => exact fun μ1 H1 e w => o σ μ1 W H1 e.bo (a.later e w)
  | no => exact o
theorem bdS_tEv {ev : Env → Store → RE} {f : Fx.D → Store → RS} (a : At C Wo μ W ρ M σ H) (o : outS C Wo Wx D μ W H ((ev ρ M).bdS ρ f))
    (k : ∀ d M1 μ1 H1 v, Ext NoB μ W H μ1 W H1 → At C Wo μ1 W ρ M1 σ H1 → Rep C μ1 W H1 d v → outS C Wo Wx D μ1 W H1 (f d M1) → Q v H1) : tEv C Wo (WE Wx) ev σ H Q :=
  ⟨μ, W, ρ, M, a, bdS_out a o k⟩
end

/-! ### the check -/
def isComp : Expr → Bool | .ListComp _ _ _ _ => true | .SetComp _ _ _ _ => true | .DictComp _ _ _ _ _ => true | _ => false
def asgOk (sc : Scope) (tg v : Expr) : Bool := match v with
  | .ListComp _ _ _ _ => (match tg with | .Name y _ => !decide (sc.names.lookup y = some .local) | .Tuple _ _ _ => true | _ => false)
  | .Tuple _ _ _ => (match tg with | .Name _ _ => true | .Tuple ts _ _ => ts.any (notLoc sc) | _ => false)
  | v => !isComp v && (match tg with | .Name _ _ => true | .Tuple _ _ _ => true | _ => false)
/-- a comprehension into a local of the same line -/
def lcOk (sc : Scope) (tg v : Expr) : Bool := match tg, v with
  | .Name y py, .ListComp _ _ scope p => decide (sc.names.lookup y = some .local) && (py.line == p.line) && !(scope.names.any fun (n, k) => n == y && (k == .local || k == .cell))
  | _, _ => false
section
variable (nm : Nm) (N : List Str)
def chkRh (sc : Scope) : Rh → Expr → Bool
  | .e e, p => chkE nm N sc e p && notStar p
  | .nl es, p => match p with | .List ps _ => chkL nm N sc es ps | _ => false
  | .nd, p => match p with | .Dict [] [] _ => true | _ => false
  | .nc e, p => match p with | .Call (.Name x _) [a] [] _ => bltB nm sc x "list" && chkW nm N sc [e] [a] | _ => false
def chkRhs (sc : Scope) : List Rh → List Expr → Bool
  | [], ps => ps.isEmpty
  | r :: l, ps => match ps with | p :: q => chkRh nm N sc r p && chkRhs sc l q | [] => false
def nmsOf (is : List Nat) : List Str := is.map fun i => N.getD i Str.empty
mutual
def chkS (sc : Scope) : S → Stmt → Bool
  | .asg t e, st => match st with | .Assign [tg] v _ => chkE nm N sc e v && chkT N sc t tg && (asgOk sc tg v || lcOk sc tg v) | _ => false
  | .par is rs, st => match st with
    | .Assign [.Name x _] v _ => (match is, rs with | [i], [r] => decide (N[i]? = some x) && locB sc x && plainNm x && !isComp v && chkRh nm N sc r v | _, _ => false)
    | .Assign [.Tuple ts _ _] (.Tuple vs _ _) _ => decide is.Nodup && is.all (fun i => decide (i < N.length)) && swpB sc ts vs (nmsOf N is) && chkRhs nm N sc rs vs
    | _ => false
  | .app i e, st => match st with
    | .Expr (.Call (.Attribute (.Name x _) m apos) [v] [] cpos) _ => decide (m = ("append" : Str)) && slotB N sc i x && (apos.endLine == cpos.line) && notStar v && chkE nm N sc e v
    | _ => false
  | .oset i k e, st => match st with
    | .Assign [.Subscript (.Name x _) j _] v _ => slotB N sc i x && !isComp v && notSl j && chkE nm N sc k j && chkE nm N sc e v
    | _ => false
  | .cset o k e, st => match st with
    | .Assign [.Subscript b j _] v _ => !isComp v && notSl j && chkE nm N sc o b && chkE nm N sc k j && chkE nm N sc e v
    | _ => false
  | .caug o k p e, st => match st with
    | .AugAssign (.Subscript b j _) op v _ => ((decide (p = .add) && decide (op = .Add)) || (decide (p = .sub) && decide (op = .Sub))) && notSl j && chkE nm N sc o b && chkE nm N sc k j && chkE nm N sc e v
    | _ => false
  | .aug i p e, st => match st with
    | .AugAssign (.Name x _) op v _ => ((decide (p = .add) && decide (op = .Add)) || (decide (p = .sub) && decide (op = .Sub))) && decide (N[i]? = some x) && locB sc x && chkE nm N sc e v
    | _ => false
  | .ex e, st => match st with | .Expr v _ => !isComp v && chkE nm N sc e v | _ => false
  | .ret e, st => match st with | .Return (some v) _ => chkE nm N sc e v | _ => false
  | .ret0, st => match st with | .Return none _ => true | _ => false
  | .ite c a b, st => match st with | .If v x y _ => chkE nm N sc c v && chkB sc a x && chkB sc b y | _ => false
  | .whl c a, st => match st with | .While v x [] _ => chkE nm N sc c v && chkB sc a x | _ => false
  | .for t k its a, st => match st with
    | .For tg iter x [] _ => (match iterArgs nm sc k tg iter with | some ps => chkL nm N sc its ps | none => false) && chkT N sc t tg && chkB sc a x
    | _ => false
  | .pass, st => match st with | .Pass _ => true | _ => false
  | .brk, st => match st with | .Break _ => true | _ => false
  | .cont, st => match st with | .Continue _ => true | _ => false
  | .raise c args, st => match st with
    | .Raise (some (.Call (.Name x _) [] [] _)) none _ => args.isEmpty && decide (nm.cls[c]? = some x) && decide (c ∈ nm.pl) && glB sc x && plainNm x
    | _ => false
  | .try a c n h, st => match st with
    | .Try x [.ExceptHandler (some (.Name y _)) none z _] [] [] _ => n.isNone && decide (nm.cls[c]? = some y) && glB sc y && plainNm y && chkB sc a x
        && (match h, z with | [.cont], [.Continue _] => true | [.pass], [.Pass _] => true | [.brk], [.Break _] => true | _, _ => false)
    | _ => false
  | .stop, _ => true
  | _, _ => false
def chkB (sc : Scope) : List S → List Stmt → Bool
  | [], st => st.isEmpty
  | .frz _ :: b, st => chkB sc b st
  | s :: b, st => match st with | x :: y => chkS sc s x && chkB sc b y | [] => false
end
end

/-- a class of exceptions -/
structure ClsOk (X : Cx) (x : Str) (a : Addr) : Prop where
  mg : X.mg x = some (.ref a)
structure ClsPl (X : Cx) (a : Addr) : Prop where
  keep : PySem.W.keepIn X.K (.ref a) = true
  exc : ∃ B newId initId bmB, ExcBaseFacts B newId initId bmB ∧ PySem.W.excIn X.K a bmB newId = true
  rs : Raises X (.ref a)
structure GoodS (C : Ct) (nm : Nm) (cf : Cf) (n : Nat) (X : Cx) (Wx : WX) : Prop where
  g : Good C nm cf.call n X (WE Wx)
  tk : Takes X Wx
  po : PassesOwn (model X.prog X.w) X.A X.env X.xe
  st : Stor X X.env.scope
  hs : X.stack = X.env :: X.outer
  hf : X.env.frame = some X.env.locals
  kind : X.env.scope.kind = .function
  cls : ∀ c x, nm.cls[c]? = some x → ∃ a, C.ca c = some a ∧ ClsOk X x a
  pl : ∀ c ∈ nm.pl, ∀ a, C.ca c = some a → ClsPl X a
  exm : ∀ c c' a a', C.ca c = some a → C.ca c' = some a' → PySem.W.exmOne C.K (.ref a) (.ref a') = some (decide (c = c'))
end Fx

/-! Fx14: right sides; slots set together; frozen containers. -/
namespace Fx
open PySem PySem.Spec PyProof.Rows L2

def outR (C : Ct) (μ W : List Addr) (H : Hp) (k : XK) (Q : VK) : RR → Prop
  | .ok (.val d) M => ∀ μ' H' v, Ext NoB μ W H μ' W H' → Wd C μ' W H' M → Rep C μ' W H' d v → Q v H'
  | .ok (.own d) M => ∀ μ' H' a, Ext NoB μ W H μ' (a :: W) H' → a ∉ W → Wd C μ' (a :: W) H' M → Con C μ' (a :: W) H' a d → Q (.ref a) H'
  | .ok .no _ => False
  | .ex c fs M => ∀ μ' H', Ext NoB μ W H μ' W H' → Wd C μ' W H' M → ExK C c fs k H'
  | .no => False
def tRh (C : Ct) (Wo : List Addr) (PX : Sg → XK) (ev : Env → Store → RR) : TE := fun σ H Q => ∃ μ W ρ M, At C Wo μ W ρ M σ H ∧ outR C μ W H (PX σ) Q (ev ρ M)

section
variable {C : Ct} {nm : Nm} {cf : Cf} {n : Nat} {Wo : List Addr} {X : Cx} {PX : Sg → XK} {μ W : List Addr} {H : Hp} {M : Store} {Q : VK} {k : XK}
/-- a new list of one's own -/
theorem giveO {l : List Fx.D} {vs : List V} {p : Addr} (o : outR C μ W H k Q (.ok (.own (.lst l)) M)) (w : Wd C μ W H M) (r : Reps C μ W H l vs) (hp : H p = none) : Q (.ref p) (L2.upd H p (.lst vs)) := by
  have e : Ext NoB μ W H μ (p :: W) (L2.upd H p (.lst vs)) := Ext.freshW hp
  exact o μ _ p e (w.notW hp) (w.freshW hp) ⟨vs, upd_same, Reps.ext e (fun _ z => z.elim) l vs r⟩
theorem outR.later {r : RR} {μ' : List Addr} {H' : Hp} (e : Ext NoB μ W H μ' W H') (h : outR C μ W H k Q r) : outR C μ' W H' k Q r := by
  cases r with
  | ok x M =>
    cases x with
    | no => exact h
    | val d => exact fun μ2 H2 v e2 w r => h μ2 H2 v (e.trans0 e2) w r
    | own d => exact fun μ2 H2 a e2 na w r => h μ2 H2 a (e.trans e2 fun _ z => z.elim) na w r
  | ex c fs M => exact fun μ2 H2 e2 w => h μ2 H2 (e.trans0 e2) w
  | no => exact h
theorem pe_rh {sc : Scope} {r : Rh} {p : Expr} (g : Good C nm cf.call n X PX) (hX : X.env.scope = sc) (h : chkRh nm X.N sc r p = true) : PE X p (tRh C Wo PX (evRh cf r)) := by
  cases r with
  | e e =>
    simp only [chkRh] at h
    simp only [Bool.and_eq_true] at h
    refine PEimp ((snd C nm cf n Wo e).pe X PX sc p g hX h.1) fun σ H Q ⟨μ, W, ρ, M, a, o⟩ => ⟨μ, W, ρ, M, a, ?_⟩
    simp only [evRh] at o
    cases he : evE cf e ρ M with
    | no => rw [he] at o; exact o
    | ex c fs M1 => rw [he] at o; exact o
    | ok d M1 => rw [he] at o; exact o
  | nl es =>
    simp only [chkRh] at h
    split at h
    · rename_i ps pos
      refine PEimp (pe_lst (paL (allPE sc ps (snds C nm cf n Wo es) g hX h))) fun σ H Q ⟨μ, W, ρ, M, a, o⟩ => ⟨μ, W, ρ, M, a, ?_⟩
      simp only [evRh] at o
      cases he : evL cf es ρ M with
      | no => rw [he] at o; exact o
      | ex c fs M1 => rw [he] at o; exact o
      | ok ds M1 =>
        rw [he] at o
        simp only at o
        split at o
        · rename_i hl
          intro μ1 H1 vs e1 w1 r1
          exact ⟨by rw [r1.len]; exact hl, fun p hp => giveO (outR.later e1 o) w1 r1 hp⟩
        · exact o.elim
    · cases h
  | nd =>
    simp only [chkRh] at h
    split at h
    · refine PEimp pe_dnewK fun σ H Q ⟨μ, W, ρ, M, a, o⟩ => fun p hp => ?_
      simp only [evRh] at o
      have e : Ext NoB μ W H μ (p :: W) (L2.upd H p (.dK [])) := Ext.freshW hp
      exact o μ _ p e (a.wd.notW hp) (a.wd.freshW hp) ⟨[], upd_same, rfl, rfl⟩
    · cases h
  | nc e =>
    simp only [chkRh] at h
    split at h
    · rename_i x px b pos
      simp only [Bool.and_eq_true] at h
      obtain ⟨e1, gl, hb⟩ := blt_of hX h.1
      subst e1
      have hw := wPE sc [b] (snds C nm cf n Wo [e]) g hX h.2
      obtain ⟨ea, e2, hn, _⟩ := wpe1 hw
      refine PEimp (pe_callTy call_list_of gl (g.mgb _ hb) boot_list (paW hw) (by decide) (by decide) (starCons hn) rfl) fun σ H Q ⟨μ, W, ρ, M, a, o⟩ => ⟨μ, W, ρ, M, a, ?_⟩
      simp only [evRh] at o
      simp only [evL]
      cases he : evE cf e ρ M with
      | no => rw [he] at o; exact o
      | ex c fs M1 => rw [he] at o; exact o
      | ok d M1 =>
        rw [he] at o
        intro μ1 H1 vs e1 w1 r1
        simp only at o
        split at o
        · rename_i l hq
          have o := outR.later e1 o
          obtain ⟨v, r, ev, ra, rr⟩ := r1
          cases (show r = [] from rr)
          cases d with
          | tup l' =>
            cases hq
            obtain ⟨q, ws, eq, h1, h2⟩ := ra.tup
            exact ⟨q, ws, by rw [ev, eq], .inr (g.K ▸ h1), fun p hp => giveO o w1 h2 hp⟩
          | lst l' =>
            cases hq
            obtain ⟨q, ws, eq, h1, h2⟩ := ra.lst
            exact ⟨q, ws, by rw [ev, eq], .inl (g.K ▸ h1), fun p hp => giveO o w1 h2 hp⟩
          | _ => cases hq
        · exact o.elim
    · cases h
end

/-! ### several right sides -/
/-- contents of slots; A: where the new containers lie -/
def SlsR (C : Ct) (μ W : List Addr) (H : Hp) : List Addr → List Sl → List V → Prop
  | A, [], vs => vs = [] ∧ A = []
  | A, .val d :: xs, vs => ∃ v r, vs = v :: r ∧ Rep C μ W H d v ∧ SlsR C μ W H A xs r
  | A, .own d :: xs, vs => ∃ a B r, A = a :: B ∧ vs = .ref a :: r ∧ Con C μ W H a d ∧ SlsR C μ W H B xs r
  | _, .no :: _, _ => False
def outRs (C : Ct) (μ W : List Addr) (H : Hp) (k : XK) (Q : List V → Hp → Prop) : RRs → Prop
  | .ok xs M => ∀ μ' W' A H' vs, Ext NoB μ W H μ' W' H' → (∀ a, a ∈ W' ↔ a ∈ A ∨ a ∈ W) → A.Nodup → (∀ a ∈ A, a ∉ W) → Wd C μ' W' H' M → SlsR C μ' W' H' A xs vs → Q vs H'
  | .ex c fs M => ∀ μ' W' H', Ext NoB μ W H μ' W' H' → (∀ a ∈ W, a ∈ W') → Wd C μ' W' H' M → ExK C c fs k H'
  | .no => False
def tRhs (C : Ct) (Wo : List Addr) (PX : Sg → XK) (ev : Env → Store → RRs) : TA := fun σ H Q => ∃ μ W ρ M, At C Wo μ W ρ M σ H ∧ outRs C μ W H (PX σ) Q (ev ρ M)
theorem At.bigger {C : Ct} {Wo μ μ' W W' : List Addr} {ρ : Env} {M M' : Store} {σ : Sg} {H H' : Hp} (a : At C Wo μ W ρ M σ H) (e : Ext NoB μ W H μ' W' H') (hW : ∀ a ∈ W, a ∈ W') (w : Wd C μ' W' H' M') : At C Wo μ' W' ρ M' σ H' :=
  ⟨a.env.ext e (fun _ z => z.elim) a.wd.dis hW fun _ _ _ _ _ z => z, w⟩
theorem star_rh {nm : Nm} {N : List Str} {sc : Scope} {r : Rh} {p : Expr} (h : chkRh nm N sc r p = true) : notStar p = true := by
  cases r <;> simp only [chkRh] at h
  · simp only [Bool.and_eq_true] at h; exact h.2
  · split at h
    · rfl
    · cases h
  · split at h
    · rfl
    · cases h
  · split at h
    · rfl
    · cases h
section
variable {C : Ct} {nm : Nm} {cf : Cf} {n : Nat} {Wo : List Addr} {X : Cx} {PX : Sg → XK}
theorem pa_rhs {sc : Scope} (g : Good C nm cf.call n X PX) (hX : X.env.scope = sc) : ∀ {rs : List Rh} {ps : List Expr}, chkRhs nm X.N sc rs ps = true → PA X ps (tRhs C Wo PX (evRhs cf rs))
  | [], ps, h => by
    unfold chkRhs at h
    cases List.isEmpty_iff.mp h
    exact PAimp pa_nil fun σ H Q ⟨μ, W, ρ, M, a, o⟩ => o μ W [] H [] Ext.refl (by simp) List.nodup_nil (fun _ z => nomatch z) a.wd ⟨rfl, rfl⟩
  | r :: rs, ps, h => by
    unfold chkRhs at h
    split at h
    · rename_i p q
      simp only [Bool.and_eq_true] at h
      refine PAimp (pa_cons (pe_rh (Wo := Wo) g hX h.1) (pa_rhs g hX h.2) (starCons (star_rh h.1))) fun σ H Q ⟨μ, W, ρ, M, a, o⟩ => ⟨μ, W, ρ, M, a, ?_⟩
      unfold evRhs at o
      cases he : evRh cf r ρ M with
      | no => rw [he] at o; exact o
      | ex c fs M1 => rw [he] at o; exact fun μ' H' e w => o μ' W H' e (fun _ z => z) w
      | ok x M1 =>
        rw [he] at o
        cases x with
        | no =>
          cases r <;> simp only [evRh] at he
          · split at he <;> cases he
          · split at he
            · split at he <;> cases he
            · cases he
            · cases he
          · cases he
          · split at he
            · split at he <;> cases he
            · cases he
            · cases he
        | val d =>
          intro μ1 H1 v e1 w1 r1
          refine ⟨μ1, W, ρ, M1, a.later e1 w1, ?_⟩
          simp only at o
          cases hl : evRhs cf rs ρ M1 with
          | no => rw [hl] at o; exact o
          | ex c fs M2 => rw [hl] at o; exact fun μ2 W2 H2 e2 hw w2 => o μ2 W2 H2 (e1.trans e2 fun _ z => z.elim) hw w2
          | ok xs M2 =>
            rw [hl] at o
            exact fun μ2 W2 A H2 vs e2 hw nd na w2 r2 => o μ2 W2 A H2 (v :: vs) (e1.trans e2 fun _ z => z.elim) hw nd na w2 ⟨v, vs, rfl, Rep.ext e2 (fun _ z => z.elim) d v r1, r2⟩
        | own d =>
          intro μ1 H1 b e1 nb w1 c1
          refine ⟨μ1, b :: W, ρ, M1, a.bigger e1 (fun _ z => List.mem_cons_of_mem _ z) w1, ?_⟩
          simp only at o
          cases hl : evRhs cf rs ρ M1 with
          | no => rw [hl] at o; exact o
          | ex c fs M2 => rw [hl] at o; exact fun μ2 W2 H2 e2 hw w2 => o μ2 W2 H2 (e1.trans e2 fun _ z => z.elim) (fun z hz => hw z (List.mem_cons_of_mem _ hz)) w2
          | ok xs M2 =>
            rw [hl] at o
            refine fun μ2 W2 A H2 vs e2 hw nd na w2 r2 => o μ2 W2 (b :: A) H2 (.ref b :: vs) (e1.trans e2 fun _ z => z.elim) (fun z => ?_) (List.nodup_cons.mpr ⟨fun z => na b z List.mem_cons_self, nd⟩) (fun z hz => ?_) w2
              ⟨b, A, vs, rfl, rfl, c1.ext e2 (fun _ z => z.elim) fun o ho => e2.keep b o ho (w1.dis b List.mem_cons_self) id, r2⟩
            · rw [hw z]
              simp only [List.mem_cons]
              constructor
              · rintro (h | h | h)
                · exact .inl (.inr h)
                · exact .inl (.inl h)
                · exact .inr h
              · rintro ((h | h) | h)
                · exact .inr (.inl h)
                · exact .inl h
                · exact .inr (.inr h)
            · rcases List.mem_cons.mp hz with e | e
              · rw [e]; exact nb
              · exact fun y => na z e (List.mem_cons_of_mem _ y)
    · cases h
end

/-! ### slots set together -/
def setsV : Sg → List Nat → List V → Sg
  | σ, i :: is, v :: vs => setsV (σ.set i (some v)) is vs
  | σ, _, _ => σ
section
variable {C : Ct} {μ W Wo : List Addr} {H : Hp}
theorem sets_env : ∀ {is : List Nat} {xs : List Sl} {A : List Addr} {vs : List V} {ρ : Env} {σ : Sg}, EnvR C μ W H Wo ρ σ → SlsR C μ W H A xs vs → A.Nodup → (∀ a ∈ A, a ∈ W ∧ a ∉ Wo) →
    (∀ a ∈ A, ∀ (j : Nat) (d : Fx.D), ρ[j]? = some (Sl.own d) → σ[j]? ≠ some (some (V.ref a))) → EnvR C μ W H Wo (setsE ρ is xs) (setsV σ is vs)
  | [], xs, A, vs, ρ, σ, h, _, _, _, _ => by
    have e1 : setsE ρ [] xs = ρ := by cases xs <;> rfl
    have e2 : setsV σ [] vs = σ := by cases vs <;> rfl
    rw [e1, e2]; exact h
  | i :: is, [], A, vs, ρ, σ, h, r, _, _, _ => by
    cases r.1
    exact h
  | i :: is, .val d :: xs, A, vs, ρ, σ, h, r, nd, hA, hn => by
    obtain ⟨v, r', e, h1, h2⟩ := r
    subst e
    refine sets_env (is := is) (h.setV h1) h2 nd hA fun a ha j d' q q2 => ?_
    by_cases hj : j = i
    · subst hj
      have hl := (List.getElem?_eq_some_iff.mp q).1
      rw [List.length_set] at hl
      rw [List.getElem?_set_self hl] at q
      cases q
    · rw [List.getElem?_set_ne (Ne.symm hj)] at q q2
      exact hn a ha j d' q q2
  | i :: is, .own d :: xs, A, vs, ρ, σ, h, r, nd, hA, hn => by
    obtain ⟨b, B, r', eA, e, h1, h2⟩ := r
    subst eA e
    have nd' := List.nodup_cons.mp nd
    have hb := hA b List.mem_cons_self
    refine sets_env (is := is) (h.setO hb.1 hb.2 h1 fun j d' _ q => hn b List.mem_cons_self j d' q) h2 nd'.2 (fun a ha => hA a (List.mem_cons_of_mem _ ha)) fun a ha j d' q q2 => ?_
    by_cases hj : j = i
    · subst hj
      have hl := (List.getElem?_eq_some_iff.mp q).1
      rw [List.length_set] at hl
      rw [List.getElem?_set_self (h.len ▸ hl)] at q2
      cases q2
      exact nd'.1 ha
    · rw [List.getElem?_set_ne (Ne.symm hj)] at q q2
      exact hn a (List.mem_cons_of_mem _ ha) j d' q q2
  | i :: is, .no :: xs, A, vs, ρ, σ, h, r, _, _, _ => r.elim

/-- a container is given up: nobody changes it any more -/
theorem At.frz {ρ : Env} {M : Store} {σ : Sg} {i : Nat} {d : Fx.D} (a : At C Wo μ W ρ M σ H) (h : ρ[i]? = some (.own d)) : ∃ W', At C Wo μ W' (ρ.set i (.val d)) M σ H ∧ Ext (Bo W Wo) μ W H μ W' H := by
  obtain ⟨p, h1, h2, h3, h4⟩ := a.env.own i d h
  have sub : ∀ q ∈ W.filter (fun q => decide (q ≠ p)), q ∈ W := fun q hq => (List.mem_filter.mp hq).1
  have e : ∀ B, Ext B μ W H μ (W.filter fun q => decide (q ≠ p)) H := fun B => ⟨⟨[], by simp⟩, fun _ _ h _ _ => h, fun _ _ h => h, fun _ _ _ h => h, fun _ h => .inl h, fun q hq => .inl (sub q hq), fun _ o h => ⟨o, h⟩⟩
  have np : p ∉ W.filter (fun q => decide (q ≠ p)) := fun z => by
    have := (List.mem_filter.mp z).2
    simp at this
  have hlen := (List.getElem?_eq_some_iff.mp h).1
  refine ⟨W.filter (fun q => decide (q ≠ p)), ⟨⟨by rw [List.length_set]; exact a.env.len, fun j d' q => ?_, fun j d' q => ?_, fun j k d1 d2 b q1 q2 q3 q4 => ?_, fun q hq => ?_⟩, a.wd.lessW sub⟩, e _⟩
  · by_cases hj : j = i
    · subst hj
      rw [List.getElem?_set_self hlen] at q
      cases q
      refine ⟨_, h1, ?_⟩
      cases d with
      | lst l =>
        obtain ⟨vs, q1, q2⟩ := h4
        exact ⟨p, vs, rfl, .inl ⟨a.wd.dis p h2, np, .inl q1⟩, Reps.lessW sub _ _ q2⟩
      | dic ks vs =>
        obtain ⟨kvs, q1, q2, q3⟩ := h4
        exact ⟨p, kvs, rfl, a.wd.dis p h2, np, q1, q2, Reps.lessW sub _ _ q3⟩
      | _ => exact h4.elim
    · rw [List.getElem?_set_ne (Ne.symm hj)] at q
      obtain ⟨v, q1, q2⟩ := a.env.val j d' q
      exact ⟨v, q1, Rep.lessW sub _ _ q2⟩
  · by_cases hj : j = i
    · subst hj
      rw [List.getElem?_set_self hlen] at q
      cases q
    · rw [List.getElem?_set_ne (Ne.symm hj)] at q
      obtain ⟨b, q1, q2, q3, q4⟩ := a.env.own j d' q
      refine ⟨b, q1, List.mem_filter.mpr ⟨q2, decide_eq_true fun z => ?_⟩, q3, q4.ext (e NoB) (fun _ z => z.elim) fun o ho => ho⟩
      subst z
      exact hj (a.env.dist j i d' d b q h q1 h1)
  · have ne : ∀ j d', (ρ.set i (Sl.val d))[j]? = some (Sl.own d') → ρ[j]? = some (Sl.own d') := fun j d' q => by
      by_cases hj : j = i
      · subst hj
        rw [List.getElem?_set_self hlen] at q
        cases q
      · rw [List.getElem?_set_ne (Ne.symm hj)] at q
        exact q
    exact a.env.dist j k d1 d2 b (ne _ _ q1) (ne _ _ q2) q3 q4
  · refine List.mem_filter.mpr ⟨a.env.sub q hq, decide_eq_true fun z => ?_⟩
    subst z
    exact h3 hq
end
end Fx

/-! Fx15: statements, one by one. -/
namespace Fx
open PySem PySem.Spec PyProof.Rows L2

section
variable {C : Ct} {nm : Nm} {cf : Cf} {n : Nat} {Wo : List Addr} {X : Cx} {PX : Sg → XK} {Wx : WX}
theorem PSimp {st : Stmt} {t t' : TS} (h : PS X st t) (i : ∀ D σ H, t' D σ H → t D σ H) : PS X st t' := ⟨fun pins s σ H D I q => h.run pins s σ H D I (i D σ H q)⟩
theorem PSsimp {st : List Stmt} {t t' : TS} (h : PSs X st t) (i : ∀ D σ H, t' D σ H → t D σ H) : PSs X st t' := ⟨fun pins s σ H D I q => h.run pins s σ H D I (i D σ H q)⟩

/-! assignments -/
theorem sws_false {tg v : Expr} {l : Nat} {env : PySem.Env} (h : asgOk env.scope tg v = true) : swapsWithSole [tg] v l env = pure false := by
  cases v with
  | ListComp e gs sc p =>
    cases tg with
    | Name y py =>
      have h : (!decide (env.scope.names.lookup y = some .local)) = true := h
      simp only [Bool.not_eq_true', decide_eq_false_iff_not] at h
      have hk : (env.kindOf y == some NameKind.local) = false := beq_eq_false_iff_ne.mpr h
      show (pure (env.blockKind == .function && env.kindOf y == some .local && py.line == p.line && !(sc.names.any fun (n, k) => n == y && (k == .local || k == .cell))) : Sem Bool) = pure false
      rw [hk, Bool.and_false, Bool.false_and, Bool.false_and]
    | _ => first | rfl | cases h
  | SetComp _ _ _ _ => cases h
  | DictComp _ _ _ _ _ => cases h
  | _ => rfl
theorem swp_not {tg v : Expr} {env : PySem.Env} (h : asgOk env.scope tg v = true) : swappedStores [tg] v env = pure none := by
  cases v with
  | Tuple vs k p =>
    cases tg with
    | Name y py => rfl
    | Tuple ts kt pt => exact swp_none h
    | _ => cases h
  | _ => cases tg <;> first | rfl | cases h
theorem tg_one {tg v : Expr} {env : PySem.Env} (h : asgOk env.scope tg v = true) : (assignEach [tg] env).map (·.2) = [assign tg env] := by
  cases tg <;> first | rfl | (cases v <;> cases h)
theorem chk_lc {N : List Str} {sc : Scope} {e : E} {a : Expr} {b : List Comprehension} {c : Scope} {d : Pos} (h : chkE nm N sc e (.ListComp a b c d) = true) : ∃ elt t k its conds own, e = .comp elt t k its conds own := by
  cases e with
  | comp elt t k its conds own => exact ⟨elt, t, k, its, conds, own, rfl⟩
  | c d => unfold chkE at h; cases d <;> cases h
  | g x d => unfold chkE at h; cases d <;> cases h
  | pr q args => unfold chkE at h; cases h
  | _ => unfold chkE at h; cases h
theorem comp_parts {elt : E} {t : Tg} {k : IK} {its conds : List E} {own : List Nat} {p : Expr} (g : Good C nm cf.call n X PX) (h : chkE nm X.N X.env.scope (.comp elt t k its conds own) p = true) :
    ∃ pe tg iter ifs scope pos, p = .ListComp pe [⟨tg, iter, ifs, 0⟩] scope pos ∧ PI X tg iter (iK X.K k (tEvW C Wo PX (evL cf its))) ∧ BlkOk X.N X.env.scope scope (own.map fun i => (X.N.getD i Str.empty, i)) ∧
      (∀ (s : Shared) (H : Hp) (A : Addr) (cl : List (Str × Addr)) (fp : List Addr), PG (X.blk s H scope (compEnvC scope cl A X.env) fp) tg (gT C Wo t)) ∧
      (∀ (s : Shared) (H : Hp) (A : Addr) (cl : List (Str × Addr)) (fp : List Addr), PTs (X.blk s H scope (compEnvC scope cl A X.env) fp) ifs (ttC C cf Wo conds)) ∧
      (∀ (s : Shared) (H : Hp) (A : Addr) (cl : List (Str × Addr)) (fp : List Addr), PE (X.blk s H scope (compEnvC scope cl A X.env) fp) pe (tEv C Wo PX0 (evE cf elt))) ∧
      (∀ x, foldedSetIterable iter X.env x = pure x) ∧ tgIn own t = true := by
  unfold chkE at h
  split at h
  · rename_i pe gens scope pos
    split at h
    · rename_i tg iter ifs a
      simp only [Bool.and_eq_true, decide_eq_true_eq] at h
      obtain ⟨⟨⟨⟨⟨⟨⟨h1, h2⟩, h3⟩, h4⟩, h5⟩, h6⟩, h7⟩, h8⟩ := h
      subst h1
      split at h2
      · rename_i ps hps
        obtain ⟨P, hf⟩ := pi_of (snds C nm cf n Wo its) g rfl hps h2
        exact ⟨pe, tg, iter, ifs, scope, pos, rfl, P, blkOk_by h3, (fun s H A cl fp => pgT (stor_blk g) g.K t tg h4), (fun s H A cl fp => pts_of (snds C nm cf n Wo conds) (good_blk g) rfl h6 h7),
          (fun s H A cl fp => (snd C nm cf n Wo elt).pe _ PX0 _ pe (good_blk g) rfl h8), hf, h5⟩
      · cases h2
    · cases h
  · cases h

theorem s_asg {t : Tg} {e : E} {st : Stmt} (G : GoodS C nm cf n X Wx) (h : chkS nm X.N X.env.scope (.asg t e) st = true) : PS X st (tSt C Wo Wx (evS cf (.asg t e))) := by
  unfold chkS at h
  split at h
  · rename_i tg v pos
    simp only [Bool.and_eq_true, Bool.or_eq_true] at h
    obtain ⟨⟨h1, h2⟩, h3⟩ := h
    have rd : ∀ {D : Ends} {σ : Sg} {H : Hp}, tSt C Wo Wx (evS cf (.asg t e)) D σ H → tEv C Wo (WE Wx) (evE cf e) σ H fun x H1 => gT C Wo t x σ H1 D.nx := fun {D σ H} ⟨μ, W, ρ, M, a, o⟩ => by
      unfold evS at o
      refine bdS_tEv a o fun d M1 μ1 H1 x e1 a1 r1 o1 => ?_
      split at o1
      · rename_i ρ' hb
        exact ⟨μ1, W, ρ, M1, d, ρ', a1, r1, hb, fun σ' a' _ _ => o1 σ' μ1 W H1 Ext.refl a'⟩
      · exact o1.elim
    rcases h3 with h3 | h3
    · exact PSimp (ps_asg ((snd C nm cf n Wo e).pe X (WE Wx) _ v G.g rfl h1) (pgT G.st G.g.K t tg h2) (sws_false h3) (swp_not h3) (tg_one h3)) fun D σ H q => rd q
    · unfold lcOk at h3
      split at h3
      · rename_i y py el gs scope p
        simp only [Bool.and_eq_true, decide_eq_true_eq, Bool.not_eq_true'] at h3
        obtain ⟨elt, t0, k, its, conds, own, rfl⟩ := chk_lc h1
        obtain ⟨pe, tg, iter, ifs, scope', pos', ep, P, ok, hg, ht, he, hf, htg⟩ := comp_parts (Wo := Wo) G.g h1
        cases ep
        cases t with
        | t l => unfold chkT at h2; cases h2
        | n i =>
          unfold chkT at h2
          simp only [Bool.and_eq_true, decide_eq_true_eq] at h2
          have hy : X.N[i]? = some y := h2.1.1
          refine PSimp (ps_setLc G.g.calm G.g.nd hy h3.1.1 (sw_true G.kind h3.1.1 h3.1.2 h3.2) P ok hg ht he hf) fun D σ H q => ?_
          show tLc _ _ _ _ _ σ H fun x H1 => gName i x σ H1 D.nx
          rw [map_own]
          refine comp_t G.g.K htg ((rd q).imp fun x H1 ⟨μ, W, ρ, M, d, ρ', a, r, hb, k⟩ => ?_)
          have hb' : ρ.set i (.val d) = ρ' := Option.some.inj (show some (ρ.set i (.val d)) = some ρ' from hb)
          subst hb'
          refine k _ ⟨a.env.setV r, a.wd⟩ (fun j hj => ?_) (by simp)
          have hj : j ≠ i := fun z => hj (by rw [z]; exact List.mem_singleton.mpr rfl)
          rw [List.getElem?_set_ne (Ne.symm hj)]
      · cases h3
  · cases h

theorem not_comp {v : Expr} {tg : Expr} {l : Nat} {env : PySem.Env} (h : isComp v = false) : swapsWith v (some tg) l env = pure false := by
  cases v <;> first | rfl | cases h
theorem not_compN {v : Expr} {l : Nat} {env : PySem.Env} (h : isComp v = false) : swapsWith v none l env = pure false := by
  cases v <;> first | rfl | cases h

theorem len2 {α : Type} : ∀ {l : List α}, l.length = 2 → ∃ a b, l = [a, b]
  | [a, b], _ => ⟨a, b, rfl⟩
  | [], h => by cases h
  | [_], h => by cases h
  | _ :: _ :: _ :: _, h => by simp at h
theorem len3 {α : Type} : ∀ {l : List α}, l.length = 3 → ∃ a b c, l = [a, b, c]
  | [a, b, c], _ => ⟨a, b, c, rfl⟩
  | [], h => by cases h
  | [_], h => by cases h
  | [_, _], h => by cases h
  | _ :: _ :: _ :: _ :: _, h => by simp at h
theorem s_par {is : List Nat} {rs : List Rh} {st : Stmt} (G : GoodS C nm cf n X Wx) (h : chkS nm X.N X.env.scope (.par is rs) st = true) : PS X st (tSt C Wo Wx (evS cf (.par is rs))) := by
  unfold chkS at h
  split at h
  · rename_i x px v pos
    split at h
    · rename_i i r
      simp only [Bool.and_eq_true, decide_eq_true_eq, Bool.not_eq_true'] at h
      obtain ⟨⟨⟨⟨h1, h2⟩, h3⟩, h4⟩, h5⟩ := h
      obtain ⟨l1, l2⟩ := G.st.loc x h2
      refine PSimp (ps_set G.g.nd h1 l1 (pe_rh (Wo := Wo) G.g rfl h5) (not_comp h4) l2) fun D σ H ⟨μ, W, ρ, M, a, o⟩ => ⟨μ, W, ρ, M, a, ?_⟩
      unfold evS at o
      simp only [evRhs] at o
      show outR C μ W H (WE Wx σ) (fun v H1 => D.nx (σ.set i (some v)) H1) (evRh cf r ρ M)
      cases he : evRh cf r ρ M with
      | no => rw [he] at o; exact o
      | ex c fs M1 =>
        rw [he] at o
        exact fun μ1 H1 e w => o σ μ1 W H1 e.bo (a.later e w)
      | ok x M1 =>
        rw [he] at o
        simp only [setsE] at o
        cases x with
        | no =>
          cases r <;> simp only [evRh] at he
          · split at he <;> cases he
          · split at he
            · split at he <;> cases he
            · cases he
            · cases he
          · cases he
          · split at he
            · split at he <;> cases he
            · cases he
            · cases he
        | val d => exact fun μ1 H1 v e w r => o _ μ1 W H1 e.bo ⟨(a.later e w).env.setV r, w⟩
        | own d =>
          intro μ1 H1 b e nb w c
          have a1 := a.bigger e (fun _ z => List.mem_cons_of_mem _ z) w
          refine o _ μ1 (b :: W) H1 (e.mono fun _ z => z.elim) ⟨a1.env.setO List.mem_cons_self (fun z => nb (a.env.sub b z)) c fun j d' _ q1 q2 => ?_, w⟩
          obtain ⟨b', q3, q4, _⟩ := a.env.own j d' q1
          rw [q2] at q3
          cases q3
          exact nb q4
    · cases h
  · rename_i ts kt pt vs k2 p2 pos
    simp only [Bool.and_eq_true, decide_eq_true_eq, List.all_eq_true] at h
    obtain ⟨⟨⟨h1, h2⟩, h3⟩, h4⟩ := h
    have hsw := swp_some (k := kt) (k2 := k2) (p := pt) (p2 := p2) h3
    have pa := pa_rhs (Wo := Wo) (PX := WE Wx) G.g rfl h4
    have nmi : ∀ i ∈ is, X.N[i]? = some (X.N.getD i Str.empty) := fun i hi => by
      have := h2 i hi
      rw [List.getD_eq_getElem?_getD, List.getElem?_eq_getElem this]; rfl
    have fin : ∀ (D : Ends) (σ : Sg) (H : Hp) (μ W : List Addr) (ρ : Env) (M : Store) (Q : List V → Hp → Prop), At C Wo μ W ρ M σ H → outS C Wo Wx D μ W H (evS cf (.par is rs) ρ M) → (∀ vs H', D.nx (setsV σ is vs) H' → vs.length = rs.length → Q vs H') → outRs C μ W H (WE Wx σ) Q (evRhs cf rs ρ M) := fun D σ H μ W ρ M Q a o k => by
      unfold evS at o
      have lens : ∀ (rs : List Rh) (ρ : Env) (M M1 : Store) (xs : List Sl), evRhs cf rs ρ M = .ok xs M1 → xs.length = rs.length := by
        intro rs
        induction rs with
        | nil => intro ρ M M1 xs h; cases h; rfl
        | cons r rs ih =>
          intro ρ M M1 xs h
          unfold evRhs at h
          split at h
          · split at h
            · rename_i h2; cases h; simp [ih _ _ _ _ h2]
            · cases h
            · cases h
          · cases h
          · cases h
      have lenV : ∀ {μ W : List Addr} {H : Hp} (xs : List Sl) (A : List Addr) (vs : List V), SlsR C μ W H A xs vs → vs.length = xs.length := by
        intro μ W H xs
        induction xs with
        | nil => intro A vs h; rw [h.1]; rfl
        | cons x xs ih =>
          intro A vs h
          cases x with
          | no => exact h.elim
          | val d => obtain ⟨v, r, e, _, h2⟩ := h; rw [e]; simp [ih _ _ h2]
          | own d => obtain ⟨b, B, r, _, e, _, h2⟩ := h; rw [e]; simp [ih _ _ h2]
      cases he : evRhs cf rs ρ M with
      | no => rw [he] at o; exact o
      | ex c fs M1 =>
        rw [he] at o
        exact fun μ1 W1 H1 e hw w => o σ μ1 W1 H1 (e.mono fun _ z => z.elim) (a.bigger e hw w)
      | ok xs M1 =>
        rw [he] at o
        intro μ1 W1 A H1 vs e hw nd na w r
        refine k vs H1 (o _ μ1 W1 H1 (e.mono fun _ z => z.elim) ⟨sets_env (a.bigger e (fun b hb => (hw b).mpr (.inr hb)) w).env r nd (fun b hb => ⟨(hw b).mpr (.inl hb), fun z => na b hb (a.env.sub b z)⟩) fun b hb j d q1 q2 => ?_, w⟩) ((lenV _ _ _ r).trans (lens _ _ _ _ _ he))
        obtain ⟨b', q3, q4, _⟩ := a.env.own j d q1
        rw [q2] at q3
        cases q3
        exact na b hb q4
    have h3' := h3
    unfold swpB at h3'
    simp only [Bool.and_eq_true, decide_eq_true_eq, Bool.not_eq_true'] at h3'
    obtain ⟨⟨⟨⟨⟨⟨⟨⟨q1, q2⟩, q3⟩, q4⟩, q5⟩, q6⟩, q7⟩, q8⟩, q9⟩ := h3'
    have lrs : ∀ (rs : List Rh) (ps : List Expr), chkRhs nm X.N X.env.scope rs ps = true → ps.length = rs.length := by
      intro rs
      induction rs with
      | nil => intro ps h; unfold chkRhs at h; cases List.isEmpty_iff.mp h; rfl
      | cons r rs ih =>
        intro ps h
        unfold chkRhs at h
        split at h
        · simp only [Bool.and_eq_true] at h; simp [ih _ h.2]
        · cases h
    have lv := lrs rs vs h4
    have q3 : vs.length = ts.length := by simpa using q3
    have lis : ts.length = is.length := by rw [q5]; simp [nmsOf]
    rw [Bool.or_eq_true, beq_iff_eq, beq_iff_eq] at q2
    rcases q2 with q2 | q2
    · obtain ⟨t1, t2, rfl⟩ := len2 q2
      obtain ⟨v1, v2, rfl⟩ := len2 (q3.trans q2)
      obtain ⟨i, j, rfl⟩ := len2 (lis.symm.trans q2)
      simp only [nmsOf, List.map_cons, List.map_nil, List.zip_cons_cons, List.zip_nil_right, List.all_cons, List.all_nil, Bool.and_true, Bool.and_eq_true] at q6
      obtain ⟨q61, q62⟩ := q6
      split at q61
      · rename_i y1 p1
        split at q62
        · rename_i y2 p2'
          simp only [Bool.and_eq_true, decide_eq_true_eq] at q61 q62
          obtain ⟨⟨e1, l1⟩, _⟩ := q61
          obtain ⟨⟨e2, l2⟩, _⟩ := q62
          have hij : i ≠ j := by simpa using h1
          refine PSimp (ps_par G.g.calm G.g.nd (e1 ▸ nmi i (by simp)) (e2 ▸ nmi j (by simp)) hij (e1 ▸ l1) (e2 ▸ l2) pa (by rw [hsw]; simp [nmsOf, e1, e2]) rfl) fun D σ H ⟨μ, W, ρ, M, a, o⟩ => ⟨μ, W, ρ, M, a, fin D σ H μ W ρ M _ a o fun vs H' q hl => ?_⟩
          rw [← lv] at hl
          match vs, hl, q with
          | [u, w], _, q => exact ⟨u, w, rfl, q⟩
        · cases q62
      · cases q61
    · obtain ⟨t1, t2, t3, rfl⟩ := len3 q2
      obtain ⟨v1, v2, v3, rfl⟩ := len3 (q3.trans q2)
      obtain ⟨i, j, l, rfl⟩ := len3 (lis.symm.trans q2)
      simp only [nmsOf, List.map_cons, List.map_nil, List.zip_cons_cons, List.zip_nil_right, List.all_cons, List.all_nil, Bool.and_true, Bool.and_eq_true] at q6
      obtain ⟨q61, q62, q63⟩ := q6
      split at q61
      · rename_i y1 p1
        split at q62
        · rename_i y2 p2'
          split at q63
          · rename_i y3 p3'
            simp only [Bool.and_eq_true, decide_eq_true_eq] at q61 q62 q63
            obtain ⟨⟨e1, l1⟩, _⟩ := q61
            obtain ⟨⟨e2, l2⟩, _⟩ := q62
            obtain ⟨⟨e3, l3⟩, _⟩ := q63
            have hn : (¬ i = j ∧ ¬ i = l) ∧ ¬ j = l := by simpa using h1
            refine PSimp (ps_par3 G.g.calm G.g.nd (e1 ▸ nmi i (by simp)) (e2 ▸ nmi j (by simp)) (e3 ▸ nmi l (by simp)) hn.1.1 hn.1.2 hn.2 (e1 ▸ l1) (e2 ▸ l2) (e3 ▸ l3) pa (by rw [hsw]; simp [nmsOf, e1, e2, e3]) rfl) fun D σ H ⟨μ, W, ρ, M, a, o⟩ => ⟨μ, W, ρ, M, a, fin D σ H μ W ρ M _ a o fun vs H' q hl => ?_⟩
            rw [← lv] at hl
            match vs, hl, q with
            | [u, w, z], _, q => exact ⟨u, w, z, rfl, q⟩
          · cases q63
        · cases q62
      · cases q61
  · cases h
end
end Fx

/-! Fx16: changes of containers. -/
namespace Fx
open PySem PySem.Spec PyProof.Rows L2

def rSet2 : TSet := fun o i v H Q => rSetL o i v H Q ∨ rSetD o i v H Q
theorem set2 {X : Cx} (hu : X.A.units + 1 < cLine) : PSet X rSet2 := by
  intro pins s σ H o i v ov iv u Q I ro ri rv h
  rcases h with h | h
  · exact set_list pins s σ H o i v ov iv u Q I ro ri rv h
  · exact set_dict hu pins s σ H o i v ov iv u Q I ro ri rv h
theorem keysOf_len : ∀ {ks : List D} {as : List Key}, keysOf ks = some as → as.length = ks.length
  | [], _, h => by cases h; rfl
  | d :: ks, _, h => by
    unfold keysOf at h
    split at h
    · rename_i p q e1 e2
      cases h
      simp [keysOf_len e2]
    · cases h
section
variable {C : Ct} {B : Addr → Prop} {μ W Wo : List Addr} {H : Hp} {M : Store} {p : Addr} {cd c' kd d : D} {y v : V} {ρ : Env} {σ : Sg}
theorem put_of (hB : ∀ a, B a → a ∈ W) (hpB : p ∈ μ ∨ B p) (c : Con C μ W H p cd) (rk : Rep C μ W H kd y) (rv : Rep C μ W H d v) (hp : putD cd kd d = some c') :
    ∃ u, (∀ Q : Hp → Prop, Q (L2.upd H p u) → rSet2 (.ref p) y v H Q) ∧ Ext B μ W H μ W (L2.upd H p u) ∧ Con C μ W (L2.upd H p u) p c' := by
  obtain ⟨o, t1, t2, t3⟩ := c.there
  have ex : ∀ u, Ext B μ W H μ W (L2.upd H p u) := fun u => Ext.put t1 t2 t3 hpB
  unfold putD at hp
  split at hp
  · rename_i l i
    obtain ⟨vs, h1, h2⟩ := c
    cases hj : ixN l.length i with
    | none => rw [hj] at hp; cases hp
    | some j =>
      rw [hj] at hp
      cases hp
      exact ⟨.lst (vs.set j v), fun Q q => .inl ⟨p, vs, i, j, rfl, rk, h1, by rw [h2.len]; exact hj, q⟩, ex _, _, upd_same, Reps.ext (ex _) hB _ _ (Reps.set rv j h2)⟩
  · rename_i ks vs d'
    obtain ⟨kvs, h1, h2, h3⟩ := c
    split at hp
    · rename_i a as ha hs
      rw [h2] at hs
      cases hs
      split at hp
      · rename_i hl
        cases hp
        obtain ⟨q1, q2⟩ := dput_rep ha h2 h3 rv
        refine ⟨.dK (putK kvs a v), fun Q q => .inr ⟨p, _, rfl, ?_, q⟩, ex _, _, upd_same, q1, Reps.ext (ex _) hB _ _ q2⟩
        rw [key_rep ha rk]
        refine DPut.k h1 ?_
        have := keysOf_len h2
        rw [List.length_map] at this
        rw [this]; exact hl
      · cases hp
    · cases hp
  · cases hp
/-- a container of one's own changed -/
theorem At.putO {i : Nat} {u : HO} (a : At C Wo μ W ρ M σ H) (hi : ρ[i]? = some (.own cd)) (hs : σ[i]? = some (some (.ref p))) (e : Ext (fun a => a = p) μ W H μ W (L2.upd H p u)) (c : Con C μ W (L2.upd H p u) p c') :
    At C Wo μ W (ρ.set i (.own c')) M σ (L2.upd H p u) ∧ Ext (Bo W Wo) μ W H μ W (L2.upd H p u) := by
  obtain ⟨p', h1, h2, h3, h4⟩ := a.env.own i cd hi
  rw [hs] at h1
  cases h1
  have hB : ∀ b, b = p → b ∈ W := fun b z => by rw [z]; exact h2
  have hlen := (List.getElem?_eq_some_iff.mp hi).1
  refine ⟨⟨⟨by rw [List.length_set]; exact a.env.len, fun j d' q => ?_, fun j d' q => ?_, fun j k d1 d2 b q1 q2 q3 q4 => ?_, a.env.sub⟩, a.wd.putW h2 e⟩, e.mono fun b z => by rw [z]; exact ⟨h2, h3⟩⟩
  · by_cases hj : j = i
    · subst hj
      rw [List.getElem?_set_self hlen] at q
      cases q
    · rw [List.getElem?_set_ne (Ne.symm hj)] at q
      obtain ⟨v, q1, q2⟩ := a.env.val j d' q
      exact ⟨v, q1, Rep.ext e hB _ _ q2⟩
  · by_cases hj : j = i
    · subst hj
      rw [List.getElem?_set_self hlen] at q
      cases q
      exact ⟨p, hs, h2, h3, c⟩
    · rw [List.getElem?_set_ne (Ne.symm hj)] at q
      obtain ⟨b, q1, q2, q3, q4⟩ := a.env.own j d' q
      refine ⟨b, q1, q2, q3, q4.ext e hB fun o ho => e.keep b o ho (a.wd.dis b q2) fun z => ?_⟩
      subst z
      exact hj (a.env.dist j i d' cd b q hi q1 hs)
  · have was : ∀ (j : Nat) (d' : D), (ρ.set i (Sl.own c'))[j]? = some (Sl.own d') → ∃ d2, ρ[j]? = some (Sl.own d2) := fun j d' q => by
      by_cases hj : j = i
      · subst hj; exact ⟨_, hi⟩
      · rw [List.getElem?_set_ne (Ne.symm hj)] at q
        exact ⟨_, q⟩
    obtain ⟨_, w1⟩ := was j d1 q1
    obtain ⟨_, w2⟩ := was k d2 q2
    exact a.env.dist j k _ _ b w1 w2 q3 q4
end

/-- xs[i], by values -/
theorem get_list {X : Cx} : PGet X (rIxL X.K) := by
  intro pins s σ H x y v u Q I rx ry h
  obtain ⟨p, xs, i, z, rfl, rfl, hq, he, q⟩ := h
  cases rx
  obtain ⟨t, rfl⟩ := ry
  obtain ⟨its, r, pl, hz⟩ := I.list hq
  obtain ⟨j, h1, h2, h3, h4, h5⟩ := atI_get he
  obtain ⟨w, ew, rw'⟩ := r.get h2
  have hl := r.length
  have hn := line63
  have fin : EP X pins σ Q w s := ⟨z, H, I, rw', q⟩
  by_cases h0 : 0 ≤ i
  · have hj : i.toNat = j := by
      rw [seqIndex_of h0 h5] at h1
      exact Option.some.inj h1
    exact wpAny_getItem_list pl.isList h0 (by omega) (by rw [hj]; simpa using ew) fin
  · have hj : (i + (its.toArray.size : Int)).toNat = j := by
      rw [seqIndex_neg (by omega) h4] at h1
      rw [List.size_toArray, ← hl]
      exact Option.some.inj h1
    exact wpAny_getItem_list_neg pl.isList (by omega) (by rw [List.size_toArray] <;> omega) (by omega) (by rw [hj]; simpa using ew) fin

section
variable {C : Ct} {nm : Nm} {cf : Cf} {n : Nat} {Wo : List Addr} {X : Cx} {Wx : WX}
theorem not_compS {v : Expr} {tg : Expr} {l : Nat} {env : PySem.Env} (h : isComp v = false) : swapsWithSole [tg] v l env = pure false := by
  cases v <;> first | rfl | cases h
theorem s_app {i : Nat} {e : E} {st : Stmt} (G : GoodS C nm cf n X Wx) (h : chkS nm X.N X.env.scope (.app i e) st = true) : PS X st (tSt C Wo Wx (evS cf (.app i e))) := by
  unfold chkS at h
  split at h
  · rename_i x px m apos v cpos pos
    simp only [Bool.and_eq_true, decide_eq_true_eq] at h
    obtain ⟨⟨⟨⟨h1, h2⟩, h3⟩, h4⟩, h5⟩ := h
    subst h1
    obtain ⟨q1, q2, q3, q4⟩ := slot_of h2
    have pe := (snd C nm cf n Wo e).pe X (WE Wx) _ v G.g rfl h5
    refine PSimp (ps_expr (pe_bm F.plainAttrs_list F.slot_list_append F.type_list_append mt_append (pe_var q1 q2 q3 q4) (pa_cons pe pa_nil (starCons h4)) rfl (by rw [starCons h4]; rfl) h3 (starCons h4) rfl) rfl) fun D σ H ⟨μ, W, ρ, M, a, o⟩ => ?_
    unfold evS at o
    split at o
    · rename_i l hl
      obtain ⟨p, s1, s2, s3, vs, s4, s5⟩ := a.env.own i _ hl
      refine ⟨.ref p, s1, .inl ⟨rfl, vs, .inl (.inl s4)⟩, ?_⟩
      refine bdS_tEv a o fun d M1 μ1 H1 y e1 a1 r1 o1 => ?_
      have hl1 : H1 p = some (.lst vs) := e1.keep p _ s4 (a.wd.dis p s2) id
      split at o1
      · rename_i hz
        have ex : Ext (fun b => b = p) μ1 W H1 μ1 W (L2.upd H1 p (.lst (vs ++ [y]))) := Ext.put hl1 (fun _ z => nomatch z) (fun _ _ z => nomatch z) (.inr rfl)
        have hB : ∀ b, b = p → b ∈ W := fun b z => by rw [z]; exact s2
        have con : Con C μ1 W (L2.upd H1 p (.lst (vs ++ [y]))) p (.lst (l ++ [d])) := ⟨_, upd_same, Reps.ext ex hB _ _ (Reps.app (Reps.ext e1 (fun _ z => z.elim) _ _ s5) ⟨y, [], rfl, r1, rfl⟩)⟩
        obtain ⟨a2, e2⟩ := a1.putO hl s1 ex con
        exact ⟨p, vs, y, rfl, rfl, hl1, by rw [s5.len]; exact hz, o1 σ μ1 W _ e2 a2⟩
      · exact o1.elim
    · exact o.elim
  · cases h
theorem s_oset {i : Nat} {k e : E} {st : Stmt} (G : GoodS C nm cf n X Wx) (h : chkS nm X.N X.env.scope (.oset i k e) st = true) : PS X st (tSt C Wo Wx (evS cf (.oset i k e))) := by
  unfold chkS at h
  split at h
  · rename_i x px j jp v pos
    simp only [Bool.and_eq_true, decide_eq_true_eq, Bool.not_eq_true'] at h
    obtain ⟨⟨⟨⟨h1, h2⟩, h3⟩, h4⟩, h5⟩ := h
    obtain ⟨q1, q2, q3, q4⟩ := slot_of h1
    have hu := unit_of G.g
    have pe := (snd C nm cf n Wo e).pe X (WE Wx) _ v G.g rfl h5
    have pk := (snd C nm cf n Wo k).pe X (WE Wx) _ j G.g rfl h4
    have pv := pe_var (pos := px) q1 q2 q3 q4
    refine PSimp (ps_asg pe (pg_sub pv pk (set2 (by omega)) (by intro u; cases j <;> first | rfl | cases h3)) (not_compS h2) (by cases v <;> rfl) rfl) fun D σ H ⟨μ, W, ρ, M, a, o⟩ => ?_
    unfold evS at o
    refine bdS_tEv a o fun d M1 μ1 H1 y e1 a1 r1 o1 => ?_
    split at o1
    · rename_i cd hc
      obtain ⟨p, s1, s2, s3, s4⟩ := a1.env.own i _ hc
      refine ⟨.ref p, s1, bdS_tEv a1 o1 fun dk M2 μ2 H2 z e2 a2 r2 o2 => ?_⟩
      split at o2
      · rename_i c' hp
        have c2 : Con C μ2 W H2 p cd := s4.ext e2 (fun _ z => z.elim) fun o ho => e2.keep p o ho (a1.wd.dis p s2) id
        obtain ⟨u, u1, u2, u3⟩ := put_of (B := fun b => b = p) (fun b z => by rw [z]; exact s2) (.inr rfl) c2 r2 (Rep.ext e2 (fun _ z => z.elim) _ _ r1) hp
        obtain ⟨a3, e3⟩ := a2.putO hc s1 u2 u3
        exact u1 _ (o2 σ μ2 W _ e3 a3)
      · exact o2.elim
    · exact o1.elim
  · cases h
theorem s_cset {b k e : E} {st : Stmt} (G : GoodS C nm cf n X Wx) (h : chkS nm X.N X.env.scope (.cset b k e) st = true) : PS X st (tSt C Wo Wx (evS cf (.cset b k e))) := by
  unfold chkS at h
  split at h
  · rename_i q j jp v pos
    simp only [Bool.and_eq_true, decide_eq_true_eq, Bool.not_eq_true'] at h
    obtain ⟨⟨⟨⟨h1, h2⟩, h3⟩, h4⟩, h5⟩ := h
    have hu := unit_of G.g
    have pe := (snd C nm cf n Wo e).pe X (WE Wx) _ v G.g rfl h5
    have pk := (snd C nm cf n Wo k).pe X (WE Wx) _ j G.g rfl h4
    have pb := (snd C nm cf n Wo b).pe X (WE Wx) _ q G.g rfl h3
    refine PSimp (ps_asg pe (pg_sub pb pk (set2 (by omega)) (by intro u; cases j <;> first | rfl | cases h2)) (not_compS h1) (by cases v <;> rfl) rfl) fun D σ H ⟨μ, W, ρ, M, a, o⟩ => ?_
    unfold evS at o
    refine bdS_tEv a o fun d M1 μ1 H1 y e1 a1 r1 o1 => ?_
    refine bdS_tEv a1 o1 fun dq M2 μ2 H2 z e2 a2 r2 o2 => ?_
    refine bdS_tEv a2 o2 fun dk M3 μ3 H3 x e3 a3 r3 o3 => ?_
    split at o3
    · rename_i jj
      split at o3
      · rename_i cd hc
        split at o3
        · rename_i c' hp
          obtain ⟨p, e4, e5⟩ := Rep.ext e3 (fun _ z => z.elim) _ _ r2
          subst e4
          have con := a3.wd.cell jj p cd e5 hc
          obtain ⟨u, u1, u2, u3⟩ := put_of (B := NoB) (fun _ z => z.elim) (.inl (List.mem_of_getElem? e5)) con r3 (Rep.ext (e2.trans0 e3) (fun _ z => z.elim) _ _ r1) hp
          obtain ⟨w4, _⟩ := a3.wd.putM (B := NoB) e5 u3
          exact u1 _ (o3 σ μ3 W _ u2.bo ⟨a3.env.ext0 u2 a3.wd.dis, w4⟩)
        · exact o3.elim
      · exact o3.elim
    · exact o3.elim
  · cases h
theorem aug_of {p : Pr} {op : Operator} {d1 d2 d : D} {x y : V} {μ W : List Addr} {H : Hp} (h : ((decide (p = .add) && decide (op = .Add)) || (decide (p = .sub) && decide (op = .Sub))) = true) :
    ∃ ti, PIp X op ti ∧ ∀ (d1 d2 d : D) (x y : V) (μ W : List Addr) (H : Hp) (Q : VK), augI p d1 d2 = some d → Rep C μ W H d1 x → Rep C μ W H d2 y → (∀ z, Rep C μ W H d z → Q z H) → ti x y H Q := by
  simp only [Bool.or_eq_true, Bool.and_eq_true, decide_eq_true_eq] at h
  rcases h with ⟨rfl, rfl⟩ | ⟨rfl, rfl⟩
  · refine ⟨_, ip_add, fun d1 d2 d x y μ W H Q e r1 r2 k => ?_⟩
    unfold augI at e
    split at e
    · cases e; exact ⟨_, _, r1, r2, k _ rfl⟩
    · rename_i h; cases h
    · cases e
  · refine ⟨_, ip_sub, fun d1 d2 d x y μ W H Q e r1 r2 k => ?_⟩
    unfold augI at e
    split at e
    · rename_i h; cases h
    · cases e; exact ⟨_, _, r1, r2, k _ rfl⟩
    · cases e
theorem s_caug {b k e : E} {p : Pr} {st : Stmt} (G : GoodS C nm cf n X Wx) (h : chkS nm X.N X.env.scope (.caug b k p e) st = true) : PS X st (tSt C Wo Wx (evS cf (.caug b k p e))) := by
  unfold chkS at h
  split at h
  · rename_i q j jp op v pos
    simp only [Bool.and_eq_true] at h
    obtain ⟨⟨⟨⟨h1, h2⟩, h3⟩, h4⟩, h5⟩ := h
    have hu := unit_of G.g
    have pe := (snd C nm cf n Wo e).pe X (WE Wx) _ v G.g rfl h5
    have pk := (snd C nm cf n Wo k).pe X (WE Wx) _ j G.g rfl h4
    have pb := (snd C nm cf n Wo b).pe X (WE Wx) _ q G.g rfl h3
    obtain ⟨ti, hti, kti⟩ := aug_of (C := C) (X := X) (d1 := .non) (d2 := .non) (d := .non) (x := .non) (y := .non) (μ := []) (W := []) (H := fun _ => none) h1
    refine PSimp (ps_augS pb pk get_list pe hti (set2 (by omega)) (by intro ov iv new; cases j <;> first | rfl | cases h2)) fun D σ H ⟨μ, W, ρ, M, a, o⟩ => ?_
    unfold evS at o
    refine bdS_tEv a o fun dq M1 μ1 H1 z e1 a1 r1 o1 => ?_
    refine bdS_tEv a1 o1 fun dk M2 μ2 H2 x e2 a2 r2 o2 => ?_
    split at o2
    · rename_i jj i
      split at o2
      · rename_i l hl
        split at o2
        · rename_i y hy
          obtain ⟨p', e4, e5⟩ := Rep.ext e2 (fun _ z => z.elim) _ _ r1
          subst e4
          obtain ⟨vs, c1, c2⟩ := a2.wd.cell jj p' _ e5 hl
          obtain ⟨j', g1, g2, g3, g4, g5⟩ := atI_get hy
          obtain ⟨w, f1, f2⟩ := c2.get g2
          have hw : atI vs i = some w := by
            unfold atI at hy ⊢
            rw [c2.len]
            cases hn : ixN l.length i with
            | none => rw [hn] at hy; cases hy
            | some j2 =>
              rw [hn] at hy
              have := (ixN_seq hn).1
              rw [g1] at this
              cases this
              exact f1
          refine ⟨p', vs, i, w, rfl, r2, .inl (.inl c1), hw, ?_⟩
          refine bdS_tEv a2 o2 fun dz M4 μ4 H4 z4 e4 a4 r4 o4 => ?_
          split at o4
          · rename_i d' hd'
            refine kti _ _ _ _ _ μ4 W H4 _ hd' (Rep.ext e4 (fun _ z => z.elim) _ _ f2) r4 fun nv rn => ?_
            split at o4
            · rename_i cd hc
              split at o4
              · rename_i c' hp
                have m4 := e4.getM e5
                have con := a4.wd.cell jj p' cd m4 hc
                obtain ⟨u, u1, u2, u3⟩ := put_of (B := NoB) (kd := .int i) (fun _ z => z.elim) (.inl (List.mem_of_getElem? m4)) con (Rep.ext e4 (fun _ z => z.elim) (.int i) _ r2) rn hp
                obtain ⟨w4, _⟩ := a4.wd.putM (B := NoB) m4 u3
                exact u1 _ (o4 σ μ4 W _ u2.bo ⟨a4.env.ext0 u2 a4.wd.dis, w4⟩)
              · exact o4.elim
            · exact o4.elim
          · exact o4.elim
        · exact o2.elim
      · exact o2.elim
    · exact o2.elim
  · cases h
theorem s_aug {i : Nat} {p : Pr} {e : E} {st : Stmt} (G : GoodS C nm cf n X Wx) (h : chkS nm X.N X.env.scope (.aug i p e) st = true) : PS X st (tSt C Wo Wx (evS cf (.aug i p e))) := by
  unfold chkS at h
  split at h
  · rename_i x px op v pos
    simp only [Bool.and_eq_true, decide_eq_true_eq] at h
    obtain ⟨⟨⟨h1, h2⟩, h3⟩, h4⟩ := h
    obtain ⟨l1, l2⟩ := G.st.loc x h3
    have pe := (snd C nm cf n Wo e).pe X (WE Wx) _ v G.g rfl h4
    obtain ⟨ti, hti, kti⟩ := aug_of (C := C) (X := X) (d1 := .non) (d2 := .non) (d := .non) (x := .non) (y := .non) (μ := []) (W := []) (H := fun _ => none) h1
    refine PSimp (ps_aug G.g.nd h2 l1 pe hti l2) fun D σ H ⟨μ, W, ρ, M, a, o⟩ => ?_
    unfold evS at o
    split at o
    · rename_i d hd
      obtain ⟨w, s1, s2⟩ := a.env.val i d hd
      refine ⟨w, s1, bdS_tEv a o fun d1 M1 μ1 H1 y e1 a1 r1 o1 => ?_⟩
      split at o1
      · rename_i r hr
        exact kti _ _ _ _ _ μ1 W H1 _ hr (Rep.ext e1 (fun _ z => z.elim) _ _ s2) r1 fun z rz => o1 _ μ1 W H1 Ext.refl ⟨a1.env.setV rz, a1.wd⟩
      · exact o1.elim
    · exact o.elim
  · cases h
end
end Fx

/-! Fx17: loops, conditions, exceptions; every statement is sound. -/
namespace Fx
open PySem PySem.Spec PyProof.Rows L2

section
variable {C : Ct} {nm : Nm} {cf : Cf} {n : Nat} {Wo : List Addr} {X : Cx} {PX : Sg → XK} {Wx : WX}
/-! walks of values alone -/
theorem lpe1 {args : List E} {a : Expr} (h : AllPE C cf Wo X PX args [a]) : ∃ ea, args = [ea] ∧ notStar a = true ∧ PE X a (tEv C Wo PX (evE cf ea)) := by
  cases args with
  | nil => cases h
  | cons e l =>
    obtain ⟨q, r, e1, h1, h2, h3⟩ := h
    cases e1
    cases l with
    | nil => exact ⟨e, rfl, h1, h2⟩
    | cons e' l' => obtain ⟨_, _, z, _⟩ := h3; cases z
theorem lpe2 {args : List E} {a b : Expr} (h : AllPE C cf Wo X PX args [a, b]) : notStar a = true ∧ notStar b = true := by
  cases args with
  | nil => cases h
  | cons e l =>
    obtain ⟨q, r, e1, h1, h2, h3⟩ := h
    cases e1
    cases l with
    | nil => cases h3
    | cons e' l' =>
      obtain ⟨q', r', e2, h4, h5, h6⟩ := h3
      cases e2
      exact ⟨h1, h4⟩
theorem oneL_read {e : E} {σ : Sg} {H : Hp} {Q : List V → Hp → Prop} (h : tEvL C Wo PX (evL cf [e]) σ H Q) : tEv C Wo PX (evE cf e) σ H fun x H1 => Q [x] H1 := by
  obtain ⟨μ, W, ρ, M, a, o⟩ := h
  refine ⟨μ, W, ρ, M, a, ?_⟩
  simp only [evL] at o
  cases he : evE cf e ρ M with
  | no => rw [he] at o; exact o
  | ex c fs M1 => rw [he] at o; exact o
  | ok d M1 =>
    rw [he] at o
    exact fun μ1 H1 v e1 w1 r1 => o μ1 H1 [v] e1 w1 ⟨v, [], rfl, r1, rfl⟩
theorem pi_ofL {sc : Scope} {k : IK} {tg iter : Expr} {ps : List Expr} {its : List E} (g : Good C nm cf.call n X PX) (hX : X.env.scope = sc) (h : iterArgs nm sc k tg iter = some ps) (hc : chkL nm X.N sc its ps = true) :
    PI X tg iter (iK X.K k (tEvL C Wo PX (evL cf its))) ∧ ∀ x, foldedSetIterable iter X.env x = pure x := by
  have w : AllPE C cf Wo X PX its ps := allPE sc ps (snds C nm cf n Wo its) g hX hc
  unfold iterArgs at h
  split at h
  · split at h
    · rename_i h1
      cases h
      obtain ⟨e, rfl, _, h2⟩ := lpe1 w
      refine ⟨PIimp (pi_seq h2) fun σ H R q => oneL_read q, fun x => ?_⟩
      cases iter <;> first | rfl | cases h1
    · cases h
  · split at h
    · rename_i x px a pos
      split at h
      · rename_i h1
        cases h
        obtain ⟨e1, gl, hb⟩ := blt_of hX h1
        subst e1
        obtain ⟨e, rfl, hn, h2⟩ := lpe1 w
        exact ⟨pi_range1 gl (g.mgb _ hb) (paL w) (starCons hn), fun _ => rfl⟩
      · cases h
    · cases h
  · split at h
    · rename_i x px a b pos
      split at h
      · rename_i h1
        cases h
        obtain ⟨e1, gl, hb⟩ := blt_of hX h1
        subst e1
        obtain ⟨hn, hn2⟩ := lpe2 w
        exact ⟨pi_range2 gl (g.mgb _ hb) (paL w) (by rw [starCons hn, starCons hn2]; rfl) (starCons hn2), fun _ => rfl⟩
      · cases h
    · cases h
  · split at h
    · rename_i x px a pos
      split at h
      · rename_i h1
        cases h
        obtain ⟨e1, gl, hb⟩ := blt_of hX h1
        subst e1
        obtain ⟨e, rfl, hn, h2⟩ := lpe1 w
        exact ⟨pi_enumA gl (g.mgb _ hb) (paL w) (starCons hn), fun _ => rfl⟩
      · cases h
    · cases h
  · split at h
    · rename_i x px a b pos
      split at h
      · rename_i h1
        cases h
        obtain ⟨e1, gl, hb⟩ := blt_of hX h1
        subst e1
        obtain ⟨hn, hn2⟩ := lpe2 w
        exact ⟨pi_zipM gl (g.mgb _ hb) (paL w) (starCons hn) (by rw [starCons hn2]; rfl), fun _ => rfl⟩
      · cases h
    · cases h
  · cases h

/-! small statements -/
theorem s_ex {e : E} {st : Stmt} (G : GoodS C nm cf n X Wx) (h : chkS nm X.N X.env.scope (.ex e) st = true) : PS X st (tSt C Wo Wx (evS cf (.ex e))) := by
  unfold chkS at h
  split at h
  · rename_i v pos
    simp only [Bool.and_eq_true, Bool.not_eq_true'] at h
    refine PSimp (ps_expr ((snd C nm cf n Wo e).pe X (WE Wx) _ v G.g rfl h.2) (not_compN h.1)) fun D σ H ⟨μ, W, ρ, M, a, o⟩ => ?_
    unfold evS at o
    exact bdS_tEv a o fun d M1 μ1 H1 y e1 a1 r1 o1 => o1 σ μ1 W H1 Ext.refl a1
  · cases h
theorem s_ret {e : E} {st : Stmt} (G : GoodS C nm cf n X Wx) (h : chkS nm X.N X.env.scope (.ret e) st = true) : PS X st (tSt C Wo Wx (evS cf (.ret e))) := by
  unfold chkS at h
  split at h
  · rename_i v pos
    refine PSimp (ps_ret ((snd C nm cf n Wo e).pe X (WE Wx) _ v G.g rfl h)) fun D σ H ⟨μ, W, ρ, M, a, o⟩ => ?_
    unfold evS at o
    exact bdS_tEv a o fun d M1 μ1 H1 y e1 a1 r1 o1 => o1 μ1 W H1 y Ext.refl a1.wd a1.env.sub r1
  · cases h
theorem s_ret0 {st : Stmt} (h : chkS nm X.N X.env.scope .ret0 st = true) : PS X st (tSt C Wo Wx (evS cf .ret0)) := by
  unfold chkS at h
  split at h
  · refine PSimp ps_retN fun D σ H ⟨μ, W, ρ, M, a, o⟩ => ?_
    unfold evS at o
    exact o μ W H .non Ext.refl a.wd a.env.sub rfl
  · cases h
theorem s_pass {st : Stmt} (h : chkS nm X.N X.env.scope .pass st = true) : PS X st (tSt C Wo Wx (evS cf .pass)) := by
  unfold chkS at h
  split at h
  · refine PSimp ps_pass fun D σ H ⟨μ, W, ρ, M, a, o⟩ => ?_
    unfold evS at o
    exact o σ μ W H Ext.refl a
  · cases h
theorem s_brk {st : Stmt} (h : chkS nm X.N X.env.scope .brk st = true) : PS X st (tSt C Wo Wx (evS cf .brk)) := by
  unfold chkS at h
  split at h
  · refine PSimp ps_break fun D σ H ⟨μ, W, ρ, M, a, o⟩ => ?_
    unfold evS at o
    exact o σ μ W H Ext.refl a
  · cases h
theorem s_cont {st : Stmt} (h : chkS nm X.N X.env.scope .cont st = true) : PS X st (tSt C Wo Wx (evS cf .cont)) := by
  unfold chkS at h
  split at h
  · refine PSimp ps_continue fun D σ H ⟨μ, W, ρ, M, a, o⟩ => ?_
    unfold evS at o
    exact o σ μ W H Ext.refl a
  · cases h

/-! conditions, loops -/
theorem s_ite {c : E} {a b : List S} {st : Stmt} (G : GoodS C nm cf n X Wx) (ha : ∀ sts, chkB nm X.N X.env.scope a sts = true → PSs X sts (tSt C Wo Wx (evB cf a))) (hb : ∀ sts, chkB nm X.N X.env.scope b sts = true → PSs X sts (tSt C Wo Wx (evB cf b)))
    (h : chkS nm X.N X.env.scope (.ite c a b) st = true) : PS X st (tSt C Wo Wx (evS cf (.ite c a b))) := by
  unfold chkS at h
  split at h
  · rename_i v x y pos
    simp only [Bool.and_eq_true] at h
    refine PSimp (ps_if ((snd C nm cf n Wo c).pt X (WE Wx) _ v G.g rfl h.1.1) (ha x h.1.2) (hb y h.2)) fun D σ H ⟨μ, W, ρ, M, a, o⟩ => ?_
    unfold evS at o
    refine bdS_tEv a o fun d M1 μ1 H1 y e1 a1 r1 o1 => ?_
    cases d with
    | bl k =>
      refine ⟨k, r1, ?_⟩
      cases k with
      | true => exact ⟨μ1, W, ρ, M1, a1, o1⟩
      | false => exact ⟨μ1, W, ρ, M1, a1, o1⟩
    | _ => exact o1.elim
  · cases h
theorem s_whl {c : E} {a : List S} {st : Stmt} (G : GoodS C nm cf n X Wx) (ha : ∀ sts, chkB nm X.N X.env.scope a sts = true → PSs X sts (tSt C Wo Wx (evB cf a)))
    (h : chkS nm X.N X.env.scope (.whl c a) st = true) : PS X st (tSt C Wo Wx (evS cf (.whl c a))) := by
  unfold chkS at h
  split at h
  · rename_i v x pos
    simp only [Bool.and_eq_true] at h
    refine PSimp (ps_while G.po ((snd C nm cf n Wo c).pt X (WE Wx) _ v G.g rfl h.1) (ha x h.2)) fun D σ H ⟨μ, W, ρ, M, a0, o⟩ => ?_
    unfold evS at o
    refine ⟨fun m σ H => ∃ μ W ρ M, At C Wo μ W ρ M σ H ∧ outS C Wo Wx D μ W H (loopW (fun ρ' M' => evE cf c ρ' M') (fun ρ' M' => evB cf a ρ' M') m ρ M), ⟨cf.fuel, μ, W, ρ, M, a0, o⟩, ?_⟩
    rintro m σ1 H1 ⟨μ1, W1, ρ1, M1, a1, o1⟩
    cases m with
    | zero => exact o1.elim
    | succ m =>
      unfold loopW at o1
      refine bdS_tEv a1 o1 fun d M2 μ2 H2 y e2 a2 r2 o2 => ?_
      cases d with
      | bl k =>
        refine ⟨k, r2, ?_⟩
        cases k with
        | false => exact o2 σ1 μ2 W1 H2 Ext.refl a2
        | true =>
          refine ⟨fun σ H => ∃ μ W ρ M, At C Wo μ W ρ M σ H ∧ outS C Wo Wx D μ W H (loopW (fun ρ' M' => evE cf c ρ' M') (fun ρ' M' => evB cf a ρ' M') m ρ M), fun σ' H' q => ⟨m, Nat.lt_succ_self m, q⟩, μ2, W1, ρ1, M2, a2, ?_⟩
          simp only at o2
          cases hb : evB cf a ρ1 M2 with
          | nx ρ3 M3 => rw [hb] at o2; exact fun σ3 μ3 W3 H3 e3 a3 => ⟨μ3, W3, ρ3, M3, a3, outS.later e3 o2⟩
          | ct ρ3 M3 => rw [hb] at o2; exact fun σ3 μ3 W3 H3 e3 a3 => ⟨μ3, W3, ρ3, M3, a3, outS.later e3 o2⟩
          | bk ρ3 M3 => rw [hb] at o2; exact o2
          | rt d M3 => rw [hb] at o2; exact o2
          | ex c fs ρ3 M3 => rw [hb] at o2; exact o2
          | no => rw [hb] at o2; exact o2
      | _ => exact o2.elim
  · cases h
theorem s_for {t : Tg} {k : IK} {its : List E} {a : List S} {st : Stmt} (G : GoodS C nm cf n X Wx) (ha : ∀ sts, chkB nm X.N X.env.scope a sts = true → PSs X sts (tSt C Wo Wx (evB cf a)))
    (h : chkS nm X.N X.env.scope (.for t k its a) st = true) : PS X st (tSt C Wo Wx (evS cf (.for t k its a))) := by
  unfold chkS at h
  split at h
  · rename_i tg iter x pos
    simp only [Bool.and_eq_true] at h
    obtain ⟨⟨h1, h2⟩, h3⟩ := h
    split at h1
    · rename_i ps hps
      obtain ⟨P, hf⟩ := pi_ofL (Wo := Wo) (PX := WE Wx) G.g rfl hps h1
      refine PSimp (ps_for G.po G.g.calm P (pgT (C := C) (Wo := Wo) G.st G.g.K t tg h2) (ha x h3) hf) fun D σ H ⟨μ, W, ρ, M, a0, o⟩ => ⟨μ, W, ρ, M, a0, ?_⟩
      unfold evS at o
      cases hl : evL cf its ρ M with
      | no => rw [hl] at o; exact o
      | ex c fs M1 =>
        rw [hl] at o
        exact fun μ1 H1 e w => o σ μ1 W H1 e.bo (a0.later e w)
      | ok ds M1 =>
        rw [hl] at o
        intro μ1 H1 vs e1 w1 r1
        have o := outS.later (Wo := Wo) e1.bo o
        simp only [RL.bdS] at o
        split at o
        · rename_i xs hx
          have r1' : ∀ B, ArgsB C B μ1 W H1 ds vs := fun B => by
            cases ds with
            | nil => exact r1
            | cons d l =>
              obtain ⟨v, r, e, q1, q2⟩ := r1
              exact ⟨v, r, e, .inl q1, q2⟩
          rw [G.g.K]
          refine go_walk hx w1 (r1' NoB).A ?_
          have wk := (wlk_of (B := Bo W Wo) hx w1 (fun b z => z.1) (r1' _)).1
          refine ⟨fun i m σ H => m = xs.length - i ∧ i ≤ xs.length ∧ ∃ μ' W' ρ M, Ext (Bo W Wo) μ1 W H1 μ' W' H ∧ At C Wo μ' W' ρ M σ H ∧
            outS C Wo Wx D μ' W' H (loopF (fun d ρ' M' => match bindT t d ρ' with | some ρ2 => evB cf a ρ2 M' | none => .no) (xs.drop i) ρ M), ⟨xs.length, by simp, Nat.zero_le _, μ1, W, ρ, M1, Ext.refl, a0.later e1 w1, by rw [List.drop_zero]; exact o⟩, ?_⟩
          rintro i m σ2 H2 ⟨rfl, hi, μ2, W2, ρ2, M2, e2, a2, o2⟩
          have wki := wk μ2 W2 H2 M2 e2 a2.wd
          by_cases hlt : i < xs.length
          · refine .inr ⟨wki.1 i hlt, fun σ H => i + 1 ≤ xs.length ∧ ∃ μ' W' ρ M, Ext (Bo W Wo) μ1 W H1 μ' W' H ∧ At C Wo μ' W' ρ M σ H ∧
              outS C Wo Wx D μ' W' H (loopF (fun d ρ' M' => match bindT t d ρ' with | some ρ2 => evB cf a ρ2 M' | none => .no) (xs.drop (i + 1)) ρ M), fun σ' H' q => ⟨xs.length - (i + 1), by omega, rfl, q⟩, fun x H3 y => ?_⟩
            obtain ⟨d, hd, x3, wd3, r3⟩ := wki.2.2 i x H3 hlt y
            have hdr : xs.drop i = d :: xs.drop (i + 1) := by
              rw [List.drop_eq_getElem_cons hlt]
              rw [List.getElem?_eq_getElem hlt] at hd
              cases hd
              rfl
            rw [hdr] at o2
            unfold loopF at o2
            have a3 := a2.later x3 wd3
            have o3 := outS.later (Wo := Wo) x3.bo o2
            have e3 : Ext (Bo W Wo) μ1 W H1 μ2 W2 H3 := Bo.trans e2 x3.bo
            split at o3
            · rename_i ρ' M' hq
              split at hq
              · rename_i ρ3 hb
                refine ⟨μ2, W2, ρ2, M2, d, ρ3, a3, r3, hb, fun σ' a' _ _ => ⟨μ2, W2, ρ3, M2, a', ?_⟩⟩
                rw [hq]
                exact fun σ4 μ4 W4 H4 e4 a4 => ⟨hlt, μ4, W4, ρ', M', Bo.trans e3 e4, a4, outS.later e4 o3⟩
              · cases hq
            · rename_i ρ' M' hq
              split at hq
              · rename_i ρ3 hb
                refine ⟨μ2, W2, ρ2, M2, d, ρ3, a3, r3, hb, fun σ' a' _ _ => ⟨μ2, W2, ρ3, M2, a', ?_⟩⟩
                rw [hq]
                exact fun σ4 μ4 W4 H4 e4 a4 => ⟨hlt, μ4, W4, ρ', M', Bo.trans e3 e4, a4, outS.later e4 o3⟩
              · cases hq
            · rename_i ρ' M' hq
              split at hq
              · rename_i ρ3 hb
                refine ⟨μ2, W2, ρ2, M2, d, ρ3, a3, r3, hb, fun σ' a' _ _ => ⟨μ2, W2, ρ3, M2, a', ?_⟩⟩
                rw [hq]
                exact o3
              · cases hq
            · rename_i r hn1 hn2 hn3
              split at o3
              · rename_i ρ3 hb
                refine ⟨μ2, W2, ρ2, M2, d, ρ3, a3, r3, hb, fun σ' a' _ _ => ⟨μ2, W2, ρ3, M2, a', ?_⟩⟩
                simp only [hb] at hn1 hn2 hn3
                cases hq : evB cf a ρ3 M2 with
                | nx ρ' M' => exact (hn1 _ _ hq).elim
                | ct ρ' M' => exact (hn2 _ _ hq).elim
                | bk ρ' M' => exact (hn3 _ _ hq).elim
                | rt d' M' => rw [hq] at o3; exact o3
                | ex c fs ρ' M' => rw [hq] at o3; exact o3
                | no => rw [hq] at o3; exact o3
              · exact o3.elim
          · have ei : i = xs.length := by omega
            subst ei
            rw [List.drop_length] at o2
            exact .inl ⟨wki.2.1, o2 σ2 μ2 W2 H2 Ext.refl a2⟩
        · exact o.elim
    · cases h1
  · cases h

/-! exceptions -/
theorem pmk0 {x : Str} {p pos : Pos} {a : Addr} (c : ClsOk X x a) (q : ClsPl X a) (hg : Gl X x) (hdb : (x == ("__debug__" : Str)) = false) : PMk X (.Call (.Name x p) [] [] pos) (fun _ H Q => Q (.ref a) none H) := by
  intro pins s σ H Q I h
  refine wpAny_Call_Name_kw (ld_glob I hg c.mg ?_ hdb)
  obtain ⟨B, newId, initId, bmB, F, qx⟩ := q.exc
  refine PySem.W.callWith_K0 (first := []) I.kIn q.keep ?_
  show wpAny _ _ (call (.ref a) []) _ _ _
  obtain ⟨bm, N, nm, qn, bs, hdct, sn, sub, ab, col, dd, k0, k1, k2, k3, k5, mN, hC, hN, hni, T⟩ := exc_obj I.kIn qx
  refine wpAny_call_exc_subT F T hC hN hni (fun h' e hm => ?_) (by show 0 ≤ sizeLine; omega)
  exact mk_of I hm q.rs h (I.hok.gone hm.new)
theorem s_raise {c : Nat} {args : List E} {st : Stmt} (G : GoodS C nm cf n X Wx) (h : chkS nm X.N X.env.scope (.raise c args) st = true) : PS X st (tSt C Wo Wx (evS cf (.raise c args))) := by
  unfold chkS at h
  split at h
  · rename_i x px pos pos'
    simp only [Bool.and_eq_true, decide_eq_true_eq] at h
    obtain ⟨⟨⟨⟨h1, h2⟩, h3⟩, h4⟩, h5⟩ := h
    cases List.isEmpty_iff.mp h1
    obtain ⟨a, ha, ok⟩ := G.cls c x h2
    refine PSimp (ps_raise G.g.calm G.tk (pmk0 ok (G.pl c h3 a ha) (gl_of rfl h4) (nm_of h5).1)) fun D σ H ⟨μ, W, ρ, M, a0, o⟩ => ?_
    simp only [evS, evL, RL.bdS] at o
    obtain ⟨a', ha', q⟩ := o σ μ W H Ext.refl a0
    rw [ha] at ha'
    cases ha'
    exact q
  · cases h
theorem Good.tr {pn : List (Addr × Obj)} {xe : Value → Shared → Prop} {W : WX} (g : Good C nm cf.call n X (WE Wx)) (tk : Takes (X.tr pn xe) W) : Good C nm cf.call n (X.tr pn xe) (WE W) :=
  ⟨g.K, g.nd, g.calm, g.room, g.grd, g.mgf, g.mgb, g.mgc, g.fns, fun σ => passAt tk σ⟩
theorem GoodS.tr {pn : List (Addr × Obj)} {xe : Value → Shared → Prop} {W : WX} (G : GoodS C nm cf n X Wx) (tk : Takes (X.tr pn xe) W) (po : PassesOwn (model X.prog X.w) X.A X.env xe) : GoodS C nm cf n (X.tr pn xe) W :=
  ⟨G.g.tr tk, tk, po, ⟨G.st.nd, G.st.calm, G.st.loc⟩, G.hs, G.hf, G.kind, fun c x h => by
    obtain ⟨a, h1, h2⟩ := G.cls c x h
    exact ⟨a, h1, ⟨h2.mg⟩⟩, fun c h a ha => by
    have q := G.pl c h a ha
    exact ⟨q.keep, q.exc, q.rs⟩, G.exm⟩
theorem s_try {a : List S} {c : Nat} {nx : Option Nat} {hd : List S} {st : Stmt} (G : GoodS C nm cf n X Wx)
    (ha : ∀ (X' : Cx) (W : WX) sts, GoodS C nm cf n X' W → chkB nm X'.N X'.env.scope a sts = true → PSs X' sts (tSt C Wo W (evB cf a)))
    (h : chkS nm X.N X.env.scope (.try a c nx hd) st = true) : PS X st (tSt C Wo Wx (evS cf (.try a c nx hd))) := by
  unfold chkS at h
  split at h
  · rename_i x y np z pos' pos
    simp only [Bool.and_eq_true, decide_eq_true_eq] at h
    obtain ⟨⟨⟨⟨⟨h1, h2⟩, h3⟩, h4⟩, h5⟩, h6⟩ := h
    obtain ⟨b, hb, ok⟩ := G.cls c y h2
    have hc : Names X y (.ref b) := ⟨gl_of rfl h3, (nm_of h4).1, .inl ok.mg⟩
    have go : ∀ (s₀ : Stmt) (ss : List Stmt) (ts : TS) , (∀ (a : Addr) (oe : Obj) (cls : Value) (d : Option Addr) (pn : List (Addr × Obj)), Zc cls d oe → (∃ vs, oe.data = .fields vs) → PSs (X.suite a ((a, oe) :: pn)) (s₀ :: ss) ts) →
        (∀ (D : Ends) (μ W : List Addr) (H : Hp) (ρ : Env) (M : Store) (σ : Sg), At C Wo μ W ρ M σ H → outS C Wo Wx D μ W H (evB cf hd ρ M) → ts D σ H) → PS X (.Try x [.ExceptHandler (some (.Name y np)) none (s₀ :: ss) pos'] [] [] pos) (tSt C Wo Wx (evS cf (.try a c nx hd))) := fun s₀ ss ts hsu hts => by
      refine PSimp (ps_try_only (tb := fun W => tSt C Wo W (evB cf a)) (ts := fun _ _ _ => ts) G.hs G.hf hc G.tk (fun W pn xe tk po => ha (X.tr pn xe) W x (G.tr tk po) h5) hsu) fun D σ H ⟨μ, W, ρ, M, a0, o⟩ => ⟨μ, W, ρ, M, a0, ?_⟩
      unfold evS at o
      cases hq : evB cf a ρ M with
      | nx ρ' M' => rw [hq] at o; exact o
      | ct ρ' M' => rw [hq] at o; exact o
      | bk ρ' M' => rw [hq] at o; exact o
      | rt d' M' => rw [hq] at o; exact o
      | no => rw [hq] at o; exact o
      | ex c' fs ρ' M' =>
        rw [hq] at o
        intro σ1 μ1 W1 H1 e1 a1
        cases fs with
        | cons f fs => exact o.elim
        | nil =>
          simp only at o
          split at o
          · rename_i hcc
            subst hcc
            refine ⟨b, hb, _, by rw [G.g.K]; exact G.exm _ _ _ _ hb hb, fun _ a2 _ => hts D μ1 W1 H1 ρ' M' σ1 a1 (outS.later e1 o), fun z => ?_⟩
            simp at z
          · rename_i hcc
            obtain ⟨b', hb', q⟩ := o σ1 μ1 W1 H1 e1 a1
            refine ⟨b', hb', _, by rw [G.g.K]; exact G.exm _ _ _ _ hb' hb, fun z => ?_, fun _ => q⟩
            simp at z
            exact (hcc z).elim
    split at h6
    · rename_i pz
      refine go _ [] tCont (fun a oe cls d pn _ _ => pss_one ps_continue) fun D μ W H ρ M σ a1 o1 => ?_
      simp only [evB, evS] at o1
      exact o1 σ μ W H Ext.refl a1
    · rename_i pz
      refine go _ [] tNext (fun a oe cls d pn _ _ => pss_one ps_pass) fun D μ W H ρ M σ a1 o1 => ?_
      simp only [evB, evS] at o1
      exact o1 σ μ W H Ext.refl a1
    · rename_i pz
      refine go _ [] tBreak (fun a oe cls d pn _ _ => pss_one ps_break) fun D μ W H ρ M σ a1 o1 => ?_
      simp only [evB, evS] at o1
      exact o1 σ μ W H Ext.refl a1
    · cases h6
  · cases h

/-! blocks -/
theorem b_frz {i : Nat} {b : List S} {sts : List Stmt} (hb : PSs X sts (tSt C Wo Wx (evB cf b))) : PSs X sts (tSt C Wo Wx (evB cf (.frz i :: b))) :=
  PSsimp hb fun D σ H ⟨μ, W, ρ, M, a, o⟩ => by
    simp only [evB, evS] at o
    split at o
    · rename_i ρ' M' hq
      split at hq
      · rename_i d hd
        cases hq
        obtain ⟨W', a', e'⟩ := a.frz hd
        exact ⟨μ, W', _, _, a', outS.later e' o⟩
      · cases hq
    · rename_i r hn
      split at o
      · rename_i d hd
        exact (hn _ _ (by rw [hd])).elim
      · exact o.elim
theorem b_cons {s : S} {b : List S} {st : Stmt} {sts : List Stmt} (hs : PS X st (tSt C Wo Wx (evS cf s))) (hb : PSs X sts (tSt C Wo Wx (evB cf b))) : PSs X (st :: sts) (tSt C Wo Wx (evB cf (s :: b))) :=
  PSsimp (pss_cons hs hb) fun D σ H ⟨μ, W, ρ, M, a, o⟩ => ⟨μ, W, ρ, M, a, by
    unfold evB at o
    cases hq : evS cf s ρ M with
    | nx ρ' M' => rw [hq] at o; exact fun σ1 μ1 W1 H1 e1 a1 => ⟨μ1, W1, ρ', M', a1, outS.later e1 o⟩
    | ct ρ' M' => rw [hq] at o; exact o
    | bk ρ' M' => rw [hq] at o; exact o
    | rt d' M' => rw [hq] at o; exact o
    | ex c fs ρ' M' => rw [hq] at o; exact o
    | no => rw [hq] at o; exact o⟩
theorem b_nil : PSs X [] (tSt C Wo Wx (evB cf [])) := PSsimp pss_nil fun D σ H ⟨μ, W, ρ, M, a, o⟩ => by
  simp only [evB] at o
  exact o σ μ W H Ext.refl a
end

mutual
/-- every statement of ours is sound -/
theorem sndS (C : Ct) (nm : Nm) (cf : Cf) (n : Nat) (Wo : List Addr) : ∀ (s : S) (X : Cx) (Wx : WX) (st : Stmt), GoodS C nm cf n X Wx → chkS nm X.N X.env.scope s st = true → PS X st (tSt C Wo Wx (evS cf s))
  | .asg t e, X, Wx, st, G, h => s_asg G h
  | .par is rs, X, Wx, st, G, h => s_par G h
  | .frz i, X, Wx, st, G, h => by unfold chkS at h; cases h
  | .stop, X, Wx, st, G, h => ⟨fun pins s σ H D I ⟨μ, W, ρ, M, a, o⟩ => by unfold evS at o; exact o.elim⟩
  | .app i e, X, Wx, st, G, h => s_app G h
  | .ext i e, X, Wx, st, G, h => by unfold chkS at h; cases h
  | .ins i k e, X, Wx, st, G, h => by unfold chkS at h; cases h
  | .oset i k e, X, Wx, st, G, h => s_oset G h
  | .oswp i k1 k2 e1 e2, X, Wx, st, G, h => by unfold chkS at h; cases h
  | .cset o k e, X, Wx, st, G, h => s_cset G h
  | .caug o k p e, X, Wx, st, G, h => s_caug G h
  | .aug i p e, X, Wx, st, G, h => s_aug G h
  | .ex e, X, Wx, st, G, h => s_ex G h
  | .ret e, X, Wx, st, G, h => s_ret G h
  | .ret0, X, Wx, st, G, h => s_ret0 h
  | .retO i, X, Wx, st, G, h => by unfold chkS at h; cases h
  | .ite c a b, X, Wx, st, G, h => s_ite G (fun sts h => sndB C nm cf n Wo a X Wx sts G h) (fun sts h => sndB C nm cf n Wo b X Wx sts G h) h
  | .whl c a, X, Wx, st, G, h => s_whl G (fun sts h => sndB C nm cf n Wo a X Wx sts G h) h
  | .for t k its a, X, Wx, st, G, h => s_for G (fun sts h => sndB C nm cf n Wo a X Wx sts G h) h
  | .pass, X, Wx, st, G, h => s_pass h
  | .brk, X, Wx, st, G, h => s_brk h
  | .cont, X, Wx, st, G, h => s_cont h
  | .raise c args, X, Wx, st, G, h => s_raise G h
  | .try a c nx hd, X, Wx, st, G, h => s_try G (fun X' W sts G' h => sndB C nm cf n Wo a X' W sts G' h) h
theorem sndB (C : Ct) (nm : Nm) (cf : Cf) (n : Nat) (Wo : List Addr) : ∀ (b : List S) (X : Cx) (Wx : WX) (sts : List Stmt), GoodS C nm cf n X Wx → chkB nm X.N X.env.scope b sts = true → PSs X sts (tSt C Wo Wx (evB cf b))
  | [], X, Wx, sts, G, h => by
    unfold chkB at h
    cases List.isEmpty_iff.mp h
    exact b_nil
  | s :: b, X, Wx, sts, G, h => by
    unfold chkB at h
    split at h
    · rename_i hq; cases hq
    · rename_i i b' hq
      cases hq
      exact b_frz (sndB C nm cf n Wo b X Wx _ G h)
    · rename_i hn hq
      cases hq
      split at h
      · simp only [Bool.and_eq_true] at h
        exact b_cons (sndS C nm cf n Wo s X Wx _ G h.1) (sndB C nm cf n Wo b X Wx _ G h.2)
      · cases h
end
end Fx

/-! Fx18: defs; the law's end. -/
namespace Fx
open PySem PySem.Spec PyProof.Rows L2

theorem grd_deeper {A : Around} {env : PySem.Env} (h : A.guards = some []) : (A.deeper env).guards = some [] := h
/-- a def of the text, where no repr is under way, by its body -/
theorem fnG_of {P : Program} {w : World} {K : PySem.W.Frag} {mg : Str → Option Value} {base : Heap} {x qual : Str} {st : Stmt} {f : Addr} {fd : FuncData} {N ps : List Str} {k : Nat} {sp : Sp} (F : Fun K x qual st f fd) (S : FnScope N ps (defScope st))
    (len : ∀ vs H Q E, sp vs H Q E → vs.length = ps.length)
    (body : ∀ (cdv : Value) (A : Around) (outer : List PySem.Env) (s : Shared) (H : Hp) (vs : List V) (Q : VK) (E : XK), Room k (A.deeper (envOfC qual (defScope st) s.heap.objs.size f cdv)) → A.guards = some [] → Env0 P w K mg base A outer s H → sp vs H Q E →
      ∃ t, PSs (cxOf (L2.CX P w) P w K mg base N qual (defScope st) f cdv A outer s H E) (defBody st) t ∧ t { nx := fun _ H' => Q .non H', rt := Q } (start N vs) H) :
    FnG P w K mg base (k + 1) f fd ps sp := by
  obtain ⟨oc, od, kV, doc, pm, an, cdv, ct, osl, e, lk, hcd⟩ := F.ex
  subst e
  constructor
  · exact len
  intro A outer s H args us vs Q E hr hg e0 hb r hsp
  have n1 := len _ _ _ _ hsp
  have stays : ∀ b o, base.get? b = some o → s.heap.get? b = some o := fun b o q => (e0.bs b o q).1
  have inK : K.In s.heap := e0.mod.kin.keeps stays
  have nolim : s.heap.NoLimit := e0.mod.nolimit.keeps stays
  refine codeAny_call_function hr.depth (inK _ _ lk) rfl S.co S.gen rfl (PySem.W.codeRec_of inK hcd) (hb _ _ _ _ ?_)
  refine wpAny_newFunctionEnv_cells S.kind (fun y hy => ?_) fun env he s1 q => ?_
  · obtain ⟨z, v⟩ := y
    have hz := S.par z (List.of_mem_zip hy).1
    exact hz.imp id fun c => ⟨c, PySem.W.cellsFrom_some _ _ _ (Or.inl c)⟩
  subst he
  obtain ⟨t, ht, hq⟩ := body cdv A outer s H vs Q E (hr.deeper _) hg e0 hsp
  have I := inv_start (CX := L2.CX P w) (E := E) (qual := qual) (f := f) (cd := cdv) S hr.hd e0 n1 r q
  refine ⟨nolim.keeps q.toInCall.keep, codeAny_func (wpAny_mono (ht.run [] s1 (start N vs) H _ I hq) (fun fl s2 hs => ?_) fun _ _ hs => hs)⟩
  match fl, hs with
  | .ret _, ⟨v, _, H2, J, rv, q2⟩ => exact ⟨v, H2, J.os, J.bare, J.base, J.hok, rv, q2⟩
  | .next, ⟨_, H2, J, q2⟩ => exact ⟨.non, H2, J.os, J.bare, J.base, J.hok, rfl, q2⟩
  | .brk, ⟨_, _, _, q2⟩ => exact q2.elim
  | .cont, ⟨_, _, _, q2⟩ => exact q2.elim

/-- a def of the table as it stands in the text -/
structure DefOk (K : PySem.W.Frag) (nm : Nm) (T : Tab) (k : Nat) (a : Addr) : Prop where
  ex : ∃ (x : Str) (st : Stmt) (N ps : List Str) (fd : FuncData) (f : Fd), Fun K x x st a fd ∧ Binds K fd ps [] ∧ FnScope N ps (defScope st) ∧ T[k]? = some f ∧ f.ps = ps.length ∧ f.many = N.length ∧ chkB nm N (defScope st) f.body (defBody st) = true
/-- what is known of the module -/
structure ModF (C : Ct) (nm : Nm) (T : Tab) (mg : Str → Option Value) : Prop where
  mgf : ∀ k x, nm.fn[k]? = some x → ∃ a, C.fa k = some a ∧ mg x = some (.ref a)
  mgb : ∀ x ∈ nm.blt, mg x = none
  mgc : ∀ x i, (x, i) ∈ nm.cst → ∃ t, mg x = some (.int i t)
  cls : ∀ (c : Nat) x, nm.cls[c]? = some x → ∃ a, C.ca c = some a ∧ mg x = some (.ref a)
  pl : ∀ c ∈ nm.pl, ∀ a, C.ca c = some a → PySem.W.keepIn C.K (.ref a) = true ∧ (∃ B newId initId bmB, ExcBaseFacts B newId initId bmB ∧ PySem.W.excIn C.K a bmB newId = true) ∧
    PySem.W.subIn C.K (.ref a) (.type "BaseException") = some true ∧ PySem.W.typeIn C.K (.ref a) = some (.type "type")
  exm : ∀ c c' a a', C.ca c = some a → C.ca c' = some a' → PySem.W.exmOne C.K (.ref a) (.ref a') = some (decide (c = c'))
  defs : ∀ k a, C.fa k = some a → DefOk C.K nm T k a

section
variable {P : Program} {w : World} {C : Ct} {nm : Nm} {T : Tab} {mg : Str → Option Value} {base : Heap}
theorem env_start {μ W : List Addr} {H : Hp} {ds : List D} {vs : List V} {N : List Str} {many : Nat} (hm : many = N.length) (r : Reps C μ W H ds vs) :
    EnvR C μ W H W (ds.map Sl.val ++ List.replicate (many - ds.length) Sl.no) (start N vs) := by
  have hl := r.len
  have shape : ∀ (i : Nat) (x : Sl), (ds.map Sl.val ++ List.replicate (many - ds.length) Sl.no)[i]? = some x → x = .no ∨ ∃ d, ds[i]? = some d ∧ x = .val d := fun i x h => by
    by_cases hi : i < ds.length
    · rw [List.getElem?_append_left (by simpa using hi), List.getElem?_map, List.getElem?_eq_getElem hi] at h
      cases h
      exact .inr ⟨ds[i], List.getElem?_eq_getElem hi, rfl⟩
    · rw [List.getElem?_append_right (by simpa using hi), List.getElem?_replicate] at h
      split at h
      · cases h; exact .inl rfl
      · cases h
  refine ⟨?_, fun i d h => ?_, fun i d h => ?_, fun i j d d' a h => ?_, fun a h => h⟩
  · unfold L2.start
    simp [hl, hm]
  · rcases shape i _ h with z | ⟨d', h1, z⟩
    · cases z
    · cases z
      obtain ⟨v, q1, q2⟩ := r.get h1
      refine ⟨v, ?_, q2⟩
      unfold L2.start
      have hi := (List.getElem?_eq_some_iff.mp q1).1
      rw [List.getElem?_append_left (by simpa using hi), List.getElem?_map, q1]
      rfl
  · rcases shape i _ h with z | ⟨d', _, z⟩ <;> cases z
  · rcases shape i _ h with z | ⟨d', _, z⟩ <;> cases z
theorem bo_none {μ W μ' W' : List Addr} {H H' : Hp} (e : Ext (Bo W W) μ W H μ' W' H') (h : ∀ a ∈ W, a ∈ W') : Ext NoB μ W H μ' W H' := (e.mono fun a z => z.2 z.1).lessW h

/-- all defs keep their promises -/
theorem allFn (F : ModF C nm T mg) (fu : Nat) : ∀ (n k : Nat) (a : Addr), C.fa k = some a →
    ∃ fd ps, FnG P w C.K mg base n a fd ps (spF C (callN T fu n) k) ∧ PySem.W.keepIn C.K (.ref a) = true ∧ Binds C.K fd ps []
  | 0, k, a, ha => by
    obtain ⟨x, st, N, ps, fd, f, h1, h2, _⟩ := (F.defs k a ha).ex
    exact ⟨fd, ps, ⟨fun vs H Q E ⟨_, _, _, _, _, _, z⟩ => z.elim, fun A outer s H args us vs Q E _ _ _ _ _ ⟨_, _, _, _, _, _, z⟩ => z.elim⟩, h1.kp, h2⟩
  | n + 1, k, a, ha => by
    obtain ⟨x, st, N, ps, fd, f, h1, h2, h3, h4, h5, h6, h7⟩ := (F.defs k a ha).ex
    refine ⟨fd, ps, fnG_of h1 h3 (fun vs H Q E ⟨μ, W, ds, M, r, wd, o⟩ => ?_) fun cdv A outer s H vs Q E hr hg e0 ⟨μ, W, ds, M, r, wd, o⟩ => ?_, h1.kp, h2⟩
    · unfold callN at o
      rw [h4] at o
      simp only [runF] at o
      split at o
      · rename_i hl
        rw [r.len, hl, h5]
      · exact o.elim
    · unfold callN at o
      rw [h4] at o
      simp only [runF] at o
      split at o
      · rename_i hl
        let X := cxOf (L2.CX P w) P w C.K mg base N x (defScope st) a cdv A outer s H E
        have tk : Takes X (fun cls d _ H => E cls d H) := takes_of rfl rfl rfl rfl
        have po : PassesOwn (model X.prog X.w) X.A X.env X.xe := passes_of rfl
        have G : GoodS C nm ⟨callN T fu n, fu⟩ n X (fun cls d _ H => E cls d H) := by
          refine ⟨⟨rfl, h3.nd, rfl, hr, grd_deeper hg, F.mgf, F.mgb, F.mgc, fun k' a' h' => allFn F fu n k' a' h', fun σ => passAt tk σ⟩, tk, po, ⟨h3.nd, rfl, fun y hy => ⟨?_, .inl rfl⟩⟩, rfl, rfl, h3.kind, fun c y hy => ?_, fun c hc b hb => ?_, F.exm⟩
          · unfold locB at hy
            split at hy
            · exact .inl (by assumption)
            · exact .inr (by assumption)
            · cases hy
          · obtain ⟨b, q1, q2⟩ := F.cls c y hy
            exact ⟨b, q1, ⟨q2⟩⟩
          · obtain ⟨q1, q2, q3, q4⟩ := F.pl c hc b hb
            exact ⟨q1, q2, raises_own q3 q4⟩
        refine ⟨_, sndB C nm ⟨callN T fu n, fu⟩ n W f.body X (fun cls d _ H => E cls d H) (defBody st) G h7, μ, W, _, M, ⟨env_start h6 r, wd⟩, ?_⟩
        rw [hl]
        cases hq : evB ⟨callN T fu n, fu⟩ f.body (ds.map Sl.val ++ List.replicate (f.many - f.ps) Sl.no) M with
        | nx ρ M' =>
          rw [hq] at o
          exact fun σ' μ' W' H' e a' => o μ' H' .non (bo_none e a'.env.sub) (a'.wd.lessW a'.env.sub) rfl
        | rt d M' =>
          rw [hq] at o
          exact fun μ' W' H' v e w' sub r' => o μ' H' v (bo_none e sub) (w'.lessW sub) (Rep.lessW sub _ _ r')
        | ex c fs ρ M' =>
          rw [hq] at o
          exact fun σ' μ' W' H' e a' => o μ' H' (bo_none e a'.env.sub) (a'.wd.lessW a'.env.sub)
        | bk ρ M' => rw [hq] at o; exact o.elim
        | ct ρ M' => rw [hq] at o; exact o.elim
        | no => rw [hq] at o; exact o.elim
      · exact o.elim
end
end Fx

/-! Fx19: the law's end. -/
namespace Fx
open PySem PySem.Spec PyProof.Rows L2

/-- the heap the law starts in: the script at a is frozen, or one of the module's own objects -/
structure Start0 (K : PySem.W.Frag) (P : Program) (w : World) (s : Shared) (a : Addr) (ns : List Int) (H : Hp) : Prop where
  one : ∀ b u, H b = some u → b = a ∧ ∃ o xs, u = .frz o (.lst xs)
  sq : SqL K H a (ns.map V.int)
  ok : HOk P w H s.heap
  out : ∀ u, H a = some u → K.lookup a = none
theorem start0 {K : PySem.W.Frag} {P : Program} {w : World} {s : Shared} {a : Addr} {vs : List Value} {ns : List Int} (KX : K.In s.heap) (ha : s.heap.get? a = some { cls := .type "list", data := .seq vs.toArray }) (hi : IntsAre vs ns) (hl : ns.length ≤ sizeLine) :
    ∃ H, Start0 K P w s a ns H := by
  have rv := vals_ints hi
  cases hk : K.lookup a with
  | some o =>
    refine ⟨fun _ => none, fun b u z => (nomatch (show (none : Option HO) = some u from z)), .inr ⟨o, vs.toArray, ?_⟩, fun b u z => (nomatch (show (none : Option HO) = some u from z)), fun u z => (nomatch (show (none : Option HO) = some u from z))⟩
    have e := KX a o hk
    rw [ha] at e
    cases e
    exact ⟨_, hk, rfl, rfl, rfl, by rw [List.size_toArray, hi.length]; exact hl, by simpa using rv⟩
  | none =>
    let H : Hp := fun b => if b = a then some (.frz { cls := .type "list", data := .seq vs.toArray } (.lst (ns.map V.int))) else none
    have Ha : H a = some (.frz { cls := .type "list", data := .seq vs.toArray } (.lst (ns.map V.int))) := if_pos rfl
    have Hb : ∀ b u, H b = some u → b = a := fun b u z => Classical.byContradiction fun hb => by
      have z2 := (if_neg hb).symm.trans z
      cases z2
    refine ⟨H, fun b u z => ?_, .inl (.inr ⟨_, Ha⟩), fun b u z => ?_, fun _ _ => hk⟩
    · have e := Hb b u z
      subst e
      rw [Ha] at z
      cases z
      exact ⟨rfl, _, _, rfl⟩
    · have e := Hb b u z
      subst e
      rw [Ha] at z
      cases z
      exact ⟨ha, by rw [List.length_map]; exact hl, vs, _, rv, ha⟩

/-- the law's walk, from what its table computes -/
theorem law_end {l : PySem.W.OpenLaw} {n N kl fu : Nat} {q : Program} {loose : List Str} {XP : (Str → Option Value) → Heap → Prop} {YP : World → Heap → Prop} {d : DefRec} {K : Params → PySem.W.Frag} {nm : Nm} {T : Tab}
    (hn : l.most = some n) (hn2 : n ≤ sizeLine) (hdf : d.params.defaults = []) (hr : Room N callerA) (hY : ∀ (w : World) (h : Heap), YP w h → (K w.params).In h)
    (F : ∀ (w : World) (mg : Str → Option Value) (fa : Addr) (h : Heap), (K w.params).In h → h.Ns mainGlobals mg → mg d.name = some (.ref fa) → ∃ C : Ct, C.K = K w.params ∧ ModF C nm T mg ∧ C.fa kl = some fa)
    (plain : ∀ ns : List Int, ns.length ≤ n → ∃ M, callN T fu N kl [.lst (ns.map .int)] [] = .ok (.bl true) M) :
    PySem.W.WalkO q loose XP YP l.row.toRowW d [] (fun f vs => PySem.call f vs) := by
  refine Att.attach_call hn hdf fun w s₀ s₁ mg mb fa o pm cd doc a vs ns G Y ho hd hcd hmg hobj hints hlen hg => ?_
  have KX := hY w _ Y
  obtain ⟨C, hK, MF, hfa⟩ := F w mg fa _ KX G.T.g hmg
  rw [← hK] at KX
  obtain ⟨H, S⟩ := start0 (P := l.prog) (w := w) KX hobj hints (Nat.le_trans hlen hn2)
  have low : ∀ {b : Addr} {ob : Obj}, s₁.heap.get? b = some ob → H b = none → (hidT s₁.heap H).get? b = some ob := fun e z => hidT_get e z
  have free : ∀ {b : Addr} {ob : Obj}, s₁.heap.get? b = some ob → (∀ xs k, ob.data ≠ .seq xs k) → H b = none := fun {b ob} e z => by
    cases hq : H b with
    | none => rfl
    | some u =>
      obtain ⟨e2, _⟩ := S.one b u hq
      subst e2
      rw [hobj] at e
      cases e
      exact (z _ _ rfl).elim
  have ns' : ∀ {b : Addr} {m : Str → Option Value}, s₁.heap.Ns b m → (hidT s₁.heap H).Ns b m := fun {b m} ⟨ob, es, ep, e, dd, r⟩ => ⟨ob, es, ep, low e (free e fun xs k z => by rw [dd] at z; cases z), dd, r⟩
  have KB : C.K.In (hidT s₁.heap H) := fun b ob e => low (KX b ob e) (by
    cases hq : H b with
    | none => rfl
    | some u =>
      obtain ⟨e2, _⟩ := S.one b u hq
      subst e2
      rw [S.out u hq] at e
      cases e)
  have md : Mod C.K mg (hidT s₁.heap H) := by
    obtain ⟨mc, q1, q2⟩ := G.T.nolimit
    exact ⟨KB, ns' G.T.g, ⟨mb, ns' G.T.b, G.T.builtins⟩, mc, ns' q1, q2⟩
  have e0 : Env0 l.prog w C.K mg (hidT s₁.heap H) callerA [] s₁ H := by
    refine ⟨rfl, md, fun b ob e => of_hidT e, Nat.le_of_eq (hidT_size _ _), trivial, fun b hb => ?_, S.ok, .of_eq hg⟩
    cases (show b ∈ ([] : List Addr) from hb)
  obtain ⟨fd, ps, FG, hk, hb⟩ := allFn (P := l.prog) (w := w) (base := hidT s₁.heap H) MF fu N kl fa hfa
  have sp : spF C (callN T fu N) kl [.ref a] H (fun v _ => v = .bl true) (fun _ _ _ => False) := by
    obtain ⟨M, hM⟩ := plain ns hlen
    refine ⟨[], [], [.lst (ns.map .int)], [], ⟨.ref a, [], rfl, ⟨a, ns.map V.int, rfl, ?_, ?_⟩, rfl⟩, ⟨rfl, List.nodup_nil, fun k b d h => by simp at h, fun b h => by simp at h, fun b h => by simp at h⟩, ?_⟩
    · rcases S.sq with z | z
      · exact .inl ⟨List.not_mem_nil, List.not_mem_nil, z⟩
      · exact .inr z
    · clear hM hints hlen S
      induction ns with
      | nil => rfl
      | cons i r ih => exact ⟨_, _, rfl, rfl, ih⟩
    · rw [hM]
      exact fun μ' H' v _ _ z => z
  have hl1 : ([Value.ref a] : List Value).length = ps.length := FG.len _ _ _ _ sp
  have bnd := hb s₁ [.ref a] KX (by rw [List.append_nil]; exact hl1)
  rw [List.append_nil] at bnd
  refine codeAny_mono (FG.run callerA [] s₁ H ⟨[.ref a], []⟩ [.ref a] [.ref a] _ _ hr rfl e0 bnd (.cons rfl .nil) sp) fun r s' hres => ?_
  match r, hres with
  | .error e, ⟨_, _, _, _, _, _, _, _, _, _, _, _, z⟩ => exact z.elim
  | .ok (.ret u), ⟨v, H', os, bare, un, ok', r', qv⟩ =>
    cases (show v = .bl true from qv)
    cases (show u = Value.bool true from r')
    refine ⟨rfl, OldK.of_keep fun b ob e => ?_, os, bare⟩
    cases hq : H b with
    | none => exact un.keep b ob e hq List.not_mem_nil List.not_mem_nil
    | some u =>
      obtain ⟨_, o1, xs, z⟩ := S.one b u hq
      subst z
      obtain ⟨e1, _⟩ := S.ok b _ hq
      obtain ⟨e2, _⟩ := ok' b _ (un.frzs b o1 _ hq)
      rw [e] at e1
      cases e1
      exact e2
end Fx

/-! Fx20: the module's facts, gathered in rows. -/
namespace Fx
open PySem PySem.Spec PyProof.Rows L2

def Al (mg : Str → Option Value) : List Str → List Addr → Prop
  | [], [] => True
  | x :: xs, a :: as => mg x = some (.ref a) ∧ Al mg xs as
  | _, _ => False
theorem al_get {mg : Str → Option Value} : ∀ {xs : List Str} {as : List Addr}, Al mg xs as → ∀ (k : Nat) x, xs[k]? = some x → ∃ a, as[k]? = some a ∧ mg x = some (.ref a)
  | [], [], _, k, x, h => by simp at h
  | y :: xs, a :: as, ⟨h1, _⟩, 0, x, h => by
    simp at h
    subst h
    exact ⟨a, rfl, h1⟩
  | y :: xs, a :: as, ⟨_, h2⟩, k + 1, x, h => by
    obtain ⟨b, q1, q2⟩ := al_get h2 k x (by simpa using h)
    exact ⟨b, by simpa using q1, q2⟩
  | [], _ :: _, h, _, _, _ => h.elim
  | _ :: _, [], h, _, _, _ => h.elim
def Nl (mg : Str → Option Value) : List Str → Prop
  | [] => True
  | x :: xs => mg x = none ∧ Nl mg xs
theorem nl_get {mg : Str → Option Value} : ∀ {xs : List Str}, Nl mg xs → ∀ x ∈ xs, mg x = none
  | [], _, x, h => by cases h
  | y :: xs, ⟨h1, h2⟩, x, h => by
    rcases List.mem_cons.mp h with e | e
    · rw [e]; exact h1
    · exact nl_get h2 x e
def Il (mg : Str → Option Value) : List (Str × Int) → Prop
  | [] => True
  | (x, i) :: xs => (∃ t, mg x = some (.int i t)) ∧ Il mg xs
theorem il_get {mg : Str → Option Value} : ∀ {xs : List (Str × Int)}, Il mg xs → ∀ x i, (x, i) ∈ xs → ∃ t, mg x = some (.int i t)
  | [], _, x, i, h => by cases h
  | (y, j) :: xs, ⟨h1, h2⟩, x, i, h => by
    rcases List.mem_cons.mp h with e | e
    · cases e; exact h1
    · exact il_get h2 x i e
def Dl (K : PySem.W.Frag) (nm : Nm) (T : Tab) : Nat → List Addr → Prop
  | _, [] => True
  | k, a :: as => DefOk K nm T k a ∧ Dl K nm T (k + 1) as
theorem dl_get {K : PySem.W.Frag} {nm : Nm} {T : Tab} : ∀ {as : List Addr} {j : Nat}, Dl K nm T j as → ∀ k a, as[k]? = some a → DefOk K nm T (j + k) a
  | [], _, _, k, a, h => by simp at h
  | b :: as, j, ⟨h1, _⟩, 0, a, h => by
    simp at h
    subst h
    exact h1
  | b :: as, j, ⟨_, h2⟩, k + 1, a, h => by
    have := dl_get h2 k a (by simpa using h)
    rwa [show j + 1 + k = j + (k + 1) by omega] at this
/-- a plain class of exceptions -/
structure PlainC (K : PySem.W.Frag) (a : Addr) : Prop where
  keep : PySem.W.keepIn K (.ref a) = true
  exc : ∃ B newId initId bmB, ExcBaseFacts B newId initId bmB ∧ PySem.W.excIn K a bmB newId = true
  sub : PySem.W.subIn K (.ref a) (.type "BaseException") = some true
  ty : PySem.W.typeIn K (.ref a) = some (.type "type")
theorem exm_of {K : PySem.W.Frag} {a b : Addr} {k : Bool} (h1 : PySem.W.subIn K (.ref b) (.type "BaseException") = some true) (h2 : PySem.W.isClsIn K b = true) (h3 : PySem.W.typeIn K (.ref b) = some (.type "type")) (h4 : PySem.W.subIn K (.ref a) (.ref b) = some k) :
    PySem.W.exmOne K (.ref a) (.ref b) = some k := by
  have e1 : (PySem.W.subIn K (.ref b) (.type "BaseException") == some true) = true := by rw [h1]; rfl
  have e2 : ((PySem.W.clsIn K b).isSome && PySem.W.typeIn K (.ref b) == some (.type "type")) = true := by rw [show (PySem.W.clsIn K b).isSome = true from h2, h3]; rfl
  show (if (PySem.W.subIn K (.ref b) (.type "BaseException") == some true) = true then (if ((PySem.W.clsIn K b).isSome && PySem.W.typeIn K (.ref b) == some (.type "type")) = true then PySem.W.subIn K (.ref a) (.ref b) else none) else none) = some k
  rw [if_pos e1, if_pos e2, h4]
theorem def_ok {K : PySem.W.Frag} {nm : Nm} {T : Tab} {k : Nat} {a : Addr} {x : Str} {st : Stmt} {N ps : List Str} {f : Fd} {fd : FuncData} (F : Fun K x x st a fd) (B : Binds K fd ps []) (S : FnScope N ps (defScope st)) (h : T[k]? = some f) (h2 : f.ps = ps.length) (h3 : f.many = N.length)
    (c : chkB nm N (defScope st) f.body (defBody st) = true) : DefOk K nm T k a := ⟨x, st, N, ps, fd, f, F, B, S, h, h2, h3, c⟩
/-- one class of exceptions -/
theorem mod1 {K : PySem.W.Frag} {nm : Nm} {T : Tab} {mg : Str → Option Value} {as : List Addr} {c : Addr} {xc : Str} (ha : Al mg nm.fn as) (hb : Nl mg nm.blt) (hc : Il mg nm.cst) (hd : Dl K nm T 0 as) (h1 : nm.cls = [xc]) (h2 : nm.pl = [0]) (h3 : mg xc = some (.ref c)) (h4 : PlainC K c)
    (h5 : PySem.W.exmOne K (.ref c) (.ref c) = some true) : ModF ⟨K, fun k => as[k]?, fun k => [c][k]?⟩ nm T mg where
  mgf := fun k x h => al_get ha k x h
  mgb := nl_get hb
  mgc := il_get hc
  cls := fun k x h => by
    rw [h1] at h
    match k, h with
    | 0, h => cases h; exact ⟨c, rfl, h3⟩
    | k + 1, h => simp at h
  pl := fun k hk a h => by
    rw [h2] at hk
    cases List.mem_singleton.mp hk
    cases h
    exact ⟨h4.keep, h4.exc, h4.sub, h4.ty⟩
  exm := fun k k' a a' h h' => by
    match k, k', h, h' with
    | 0, 0, h, h' => cases h; cases h'; exact h5
    | k + 1, _, h, _ => simp at h
    | 0, k' + 1, _, h => simp at h
  defs := fun k a h => by
    have := dl_get hd k a h
    rwa [Nat.zero_add] at this
end Fx

/-! Fx21: running the table by simp. -/
namespace Fx
open PySem L2

section
variable {d : D} {ds : List D} {M : Store} {ρ : Env} {c : Nat} {fs : List D}
@[simp] theorem bd_ok (f : D → Store → RE) : (RE.ok d M).bd f = f d M := rfl
@[simp] theorem bd_ex (f : D → Store → RE) : (RE.ex c fs M).bd f = .ex c fs M := rfl
@[simp] theorem bdl_ok (f : D → Store → RL) : (RE.ok d M).bdL f = f d M := rfl
@[simp] theorem bdl_ex (f : D → Store → RL) : (RE.ex c fs M).bdL f = .ex c fs M := rfl
@[simp] theorem bds_ok (f : D → Store → RS) : (RE.ok d M).bdS ρ f = f d M := rfl
@[simp] theorem bds_ex (f : D → Store → RS) : (RE.ex c fs M).bdS ρ f = .ex c fs ρ M := rfl
@[simp] theorem lbd_ok (f : List D → Store → RE) : (RL.ok ds M).bd f = f ds M := rfl
@[simp] theorem lbd_ex (f : List D → Store → RE) : (RL.ex c fs M).bd f = .ex c fs M := rfl
@[simp] theorem lbdl_ok (f : List D → Store → RL) : (RL.ok ds M).bdL f = f ds M := rfl
@[simp] theorem lbdl_ex (f : List D → Store → RL) : (RL.ex c fs M).bdL f = .ex c fs M := rfl
@[simp] theorem lbds_ok (f : List D → Store → RS) : (RL.ok ds M).bdS ρ f = f ds M := rfl
@[simp] theorem lbds_ex (f : List D → Store → RS) : (RL.ex c fs M).bdS ρ f = .ex c fs ρ M := rfl
end
/-- a def's end -/
def fin : RS → RE
  | .nx _ M => .ok .non M
  | .rt d M => .ok d M
  | .ex c fs _ M => .ex c fs M
  | _ => .no
@[simp] theorem fin_nx {ρ M} : fin (.nx ρ M) = .ok .non M := rfl
@[simp] theorem fin_rt {d M} : fin (.rt d M) = .ok d M := rfl
@[simp] theorem fin_ex {c fs ρ M} : fin (.ex c fs ρ M) = .ex c fs M := rfl
theorem callN_at {T : Tab} {fu n k : Nat} {fd : Fd} {ds : List D} {M : Store} (h : T[k]? = some fd) (hl : ds.length = fd.ps) :
    callN T fu (n + 1) k ds M = fin (evB ⟨callN T fu n, fu⟩ fd.body (ds.map .val ++ List.replicate (fd.many - fd.ps) .no) M) := by
  unfold callN
  rw [h]
  simp only [runF, hl, if_true]
  cases evB ⟨callN T fu n, fu⟩ fd.body (ds.map .val ++ List.replicate (fd.many - fd.ps) .no) M <;> rfl

/-! built-ins -/
section
variable {M : Store} {i j : Int} {a b : Bool}
@[simp] theorem p_add : prm .add [.int i, .int j] M = .ok (.int (i + j)) M := rfl
@[simp] theorem p_sub : prm .sub [.int i, .int j] M = .ok (.int (i - j)) M := rfl
@[simp] theorem p_neg : prm .neg [.int i] M = .ok (.int (-i)) M := rfl
@[simp] theorem p_mulI : prm .mul [.int i, .int j] M = if CMul i j then .ok (.int (i * j)) M else .no := by simp [prm, pII]
@[simp] theorem p_modI : prm .mod [.int i, .int j] M = if 0 < j then .ok (.int (i % j)) M else .no := by simp [prm, pII]
@[simp] theorem p_fdivI : prm .fdiv [.int i, .int j] M = if CDiv i j then .ok (.int (i / j)) M else .no := by simp [prm, pII]
theorem p_mul (h : CMul i j) : prm .mul [.int i, .int j] M = .ok (.int (i * j)) M := by simp [prm, pII, h]
theorem p_mod (h : 0 < j) : prm .mod [.int i, .int j] M = .ok (.int (i % j)) M := by simp [prm, pII, h]
theorem p_fdiv (h : CDiv i j) : prm .fdiv [.int i, .int j] M = .ok (.int (i / j)) M := by simp [prm, pII, h]
@[simp] theorem p_lt : prm .lt [.int i, .int j] M = .ok (.bl (decide (i < j))) M := rfl
@[simp] theorem p_le : prm .le [.int i, .int j] M = .ok (.bl (decide (i ≤ j))) M := rfl
@[simp] theorem p_gt : prm .gt [.int i, .int j] M = .ok (.bl (decide (j < i))) M := rfl
@[simp] theorem p_ge : prm .ge [.int i, .int j] M = .ok (.bl (decide (j ≤ i))) M := rfl
theorem eqD_int : eqD (.int i) (.int j) = some (decide (i = j)) := by
  have e : (i == j) = decide (i = j) := by
    by_cases h : i = j
    · subst h; simp
    · simp [h]
  simp [eqD, eqP, toPy, SeqAt.shaped, PyData.canLay0, PyData.depth, PyData.eqv, e]
@[simp] theorem p_eq : prm .eq [.int i, .int j] M = .ok (.bl (decide (i = j))) M := by
  simp [prm, pEq, eqD_int, RE.ofO]
@[simp] theorem p_ne : prm .ne [.int i, .int j] M = .ok (.bl (!decide (i = j))) M := by
  simp [prm, pEq, eqD_int, RE.ofO]
@[simp] theorem p_int : prm .int [.int i] M = .ok (.int i) M := rfl
@[simp] theorem p_abs : prm .abs [.int i] M = .ok (.int (if i < 0 then -i else i)) M := rfl
@[simp] theorem p_isB : prm .isB [.bl a, .bl b] M = .ok (.bl (decide (a = b))) M := rfl
@[simp] theorem p_notB : prm .notB [.bl a, .bl b] M = .ok (.bl (!decide (a = b))) M := rfl
@[simp] theorem p_lenT {l : List D} : prm .len [.tup l] M = .ok (.int l.length) M := rfl
@[simp] theorem p_lenL {l : List D} : prm .len [.lst l] M = .ok (.int l.length) M := rfl
@[simp] theorem p_tupT {l : List D} : prm .tuple [.tup l] M = .ok (.tup l) M := rfl
@[simp] theorem p_tupL {l : List D} : prm .tuple [.lst l] M = .ok (.tup l) M := rfl
@[simp] theorem p_listT {l : List D} : prm .list [.tup l] M = .ok (.lst l) M := rfl
@[simp] theorem p_listL {l : List D} : prm .list [.lst l] M = .ok (.lst l) M := rfl
theorem p_tup {ds : List D} (h : ds.length ≤ LN) : prm .tup ds M = .ok (.tup ds) M := by simp [prm, h]
theorem p_lst {ds : List D} (h : ds.length ≤ LN) : prm .lst ds M = .ok (.lst ds) M := by simp [prm, h]
@[simp] theorem p_tup0 : prm .tup [] M = .ok (.tup []) M := rfl
@[simp] theorem p_tup1 {x : D} : prm .tup [x] M = .ok (.tup [x]) M := rfl
@[simp] theorem p_tup2 {x y : D} : prm .tup [x, y] M = .ok (.tup [x, y]) M := rfl
@[simp] theorem p_tup3 {x y z : D} : prm .tup [x, y, z] M = .ok (.tup [x, y, z]) M := rfl
@[simp] theorem p_tup4 {x y z u : D} : prm .tup [x, y, z, u] M = .ok (.tup [x, y, z, u]) M := rfl
@[simp] theorem p_tup5 {x y z u v : D} : prm .tup [x, y, z, u, v] M = .ok (.tup [x, y, z, u, v]) M := rfl
@[simp] theorem p_lst0 : prm .lst [] M = .ok (.lst []) M := rfl
@[simp] theorem p_lst1 {x : D} : prm .lst [x] M = .ok (.lst [x]) M := rfl
@[simp] theorem p_lst2 {x y : D} : prm .lst [x, y] M = .ok (.lst [x, y]) M := rfl
@[simp] theorem p_ixO' {k : Nat} : prm .ix [.obj k, .int i] M = match M[k]? with | some (.lst l) => RE.ofO (atI l i) M | _ => .no := rfl
@[simp] theorem p_ixT {l : List D} : prm .ix [.tup l, .int i] M = RE.ofO (atI l i) M := rfl
@[simp] theorem p_ixL {l : List D} : prm .ix [.lst l, .int i] M = RE.ofO (atI l i) M := rfl
theorem p_ixO {k : Nat} {l : List D} (h : M[k]? = some (.lst l)) : prm .ix [.obj k, .int i] M = RE.ofO (atI l i) M := by simp [prm, pIx, h]
@[simp] theorem ofO_some {d : D} : RE.ofO (some d) M = .ok d M := rfl
@[simp] theorem p_isN (d : D) : prm .isN [d] M = .ok (.bl (isNon d)) M := rfl
@[simp] theorem p_notN (d : D) : prm .notN [d] M = .ok (.bl (!isNon d)) M := rfl
@[simp] theorem isNon_int : isNon (.int i) = false := rfl
@[simp] theorem isNon_non : isNon .non = true := rfl
theorem p_catT {l m : List D} (h : l.length + m.length ≤ LN) : prm .add [.tup l, .tup m] M = .ok (.tup (l ++ m)) M := by simp [prm, pAdd, h]
theorem p_catL {l m : List D} (h : l.length + m.length ≤ LN) : prm .add [.lst l, .lst m] M = .ok (.lst (l ++ m)) M := by simp [prm, pAdd, h]
theorem mul_l (h1 : -(2 ^ 64) < i) (h2 : i < 2 ^ 64) : CMul i j := .inl ⟨h1, h2⟩
theorem mul_r (h1 : -(2 ^ 64) < j) (h2 : j < 2 ^ 64) : CMul i j := .inr ⟨h1, h2⟩
end

/-! subscripts -/
theorem ixN_nat {n j : Nat} (h : j < n) : ixN n (j : Int) = some j := by
  unfold ixN
  rw [if_pos (by omega), if_pos (by omega)]
  simp
theorem atI_nat {α : Type} {l : List α} {j : Nat} {x : α} (h : l[j]? = some x) : atI l (j : Int) = some x := by
  unfold atI
  rw [ixN_nat (List.getElem?_eq_some_iff.mp h).1]
  exact h
theorem atI_int {α : Type} {l : List α} {i : Int} {x : α} (h0 : 0 ≤ i) (h : l[i.toNat]? = some x) : atI l i = some x := by
  have := atI_nat h
  rwa [Int.toNat_of_nonneg h0] at this
@[simp] theorem at0 {α : Type} {a : α} {l : List α} : atI (a :: l) 0 = some a := atI_nat (l := a :: l) (j := 0) rfl
@[simp] theorem at1 {α : Type} {a b : α} {l : List α} : atI (a :: b :: l) 1 = some b := atI_nat (l := a :: b :: l) (j := 1) rfl
@[simp] theorem at2 {α : Type} {a b c : α} {l : List α} : atI (a :: b :: c :: l) 2 = some c := atI_nat (l := a :: b :: c :: l) (j := 2) rfl
@[simp] theorem at3 {α : Type} {a b c d : α} {l : List α} : atI (a :: b :: c :: d :: l) 3 = some d := atI_nat (l := a :: b :: c :: d :: l) (j := 3) rfl
@[simp] theorem at4 {α : Type} {a b c d e : α} {l : List α} : atI (a :: b :: c :: d :: e :: l) 4 = some e := atI_nat (l := a :: b :: c :: d :: e :: l) (j := 4) rfl

/-! plain data that repr and == can take -/
mutual
def okD : D → Bool
  | .non => true
  | .bl _ => true
  | .int i => decide (i.natAbs < 10 ^ 12)
  | .tup l => okL l
  | .lst l => okL l
  | _ => false
def okL : List D → Bool
  | [] => true
  | d :: l => okD d && okL l
end
mutual
def dpD : D → Nat
  | .tup l => dpL l + 1
  | .lst l => dpL l + 1
  | _ => 0
def dpL : List D → Nat
  | [] => 0
  | d :: l => max (dpD d) (dpL l)
end
mutual
def wtD : D → Nat
  | .tup l => wtL l
  | .lst l => wtL l
  | _ => 41
def wtL : List D → Nat
  | [] => 0
  | d :: l => wtD d + 1 + wtL l
end
mutual
theorem py_of : ∀ d : D, okD d = true → ∃ p, toPy d = some p ∧ p.canLay0 = true ∧ p.intsShort 13 = true ∧ p.showable = true ∧ p.depth ≤ dpD d ∧ p.weight ≤ wtD d
  | .non, _ => ⟨.none, rfl, rfl, rfl, rfl, Nat.le_refl _, Nat.zero_le _⟩
  | .bl b, _ => ⟨.bool b, rfl, rfl, rfl, rfl, Nat.le_refl _, Nat.zero_le _⟩
  | .int i, h => by
    unfold okD at h
    have hi : i.natAbs < 10 ^ 12 := of_decide_eq_true h
    have hlog : i.natAbs.log2 < 40 := by
      by_cases hz : i.natAbs = 0
      · rw [hz]; decide
      · exact (Nat.log2_lt hz).mpr (Nat.lt_of_lt_of_le hi (by decide))
    refine ⟨.int i, rfl, rfl, ?_, ?_, Nat.zero_le _, ?_⟩
    · simp only [PyData.intsShort]
      exact decide_eq_true (PyData.shown_int_le hi)
    · simp only [PyData.showable]
      exact decide_eq_true (by omega)
    · simp only [PyData.weight, wtD]
      split <;> omega
  | .tup l, h => by
    unfold okD at h
    obtain ⟨ps, h1, h2, h3, h4, h5, h6⟩ := pys_of l h
    refine ⟨.tuple ps, by simp [toPy, h1], h2, h3, h4, ?_, ?_⟩
    · simp only [PyData.depth, dpD]; omega
    · simp only [PyData.weight, wtD]; exact h6
  | .lst l, h => by
    unfold okD at h
    obtain ⟨ps, h1, h2, h3, h4, h5, h6⟩ := pys_of l h
    refine ⟨.list ps, by simp [toPy, h1], h2, h3, h4, ?_, ?_⟩
    · simp only [PyData.depth, dpD]; omega
    · simp only [PyData.weight, wtD]; exact h6
  | .str _, h => by cases h
  | .dic _ _, h => by cases h
  | .obj _, h => by cases h
  | .fn _, h => by cases h
theorem pys_of : ∀ l : List D, okL l = true → ∃ ps, toPys l = some ps ∧ PyData.canLayAll0 ps = true ∧ PyData.intsShortAll 13 ps = true ∧ PyData.showableAll ps = true ∧ PyData.depthAll ps ≤ dpL l ∧ PyData.weightAll ps ≤ wtL l
  | [], _ => ⟨[], rfl, rfl, rfl, rfl, Nat.le_refl _, Nat.le_refl _⟩
  | d :: l, h => by
    unfold okL at h
    simp only [Bool.and_eq_true] at h
    obtain ⟨p, h1, h2, h3, h4, h5, h6⟩ := py_of d h.1
    obtain ⟨ps, q1, q2, q3, q4, q5, q6⟩ := pys_of l h.2
    refine ⟨p :: ps, by simp [toPys, h1, q1], ?_, ?_, ?_, ?_, ?_⟩
    · simp [PyData.canLayAll0, h2, q2]
    · simp [PyData.intsShortAll, h3, q3]
    · simp [PyData.showableAll, h4, q4]
    · simp only [PyData.depthAll, dpL]; omega
    · simp only [PyData.weightAll, wtL]; omega
end
theorem repr_of {d : D} (h : okD d = true) (hd : dpD d ≤ 64) (hw : wtD d ≤ 2 ^ 20) : ∃ x, ∀ M, prm .repr [d] M = .ok (.str x) M := by
  obtain ⟨p, h1, h2, h3, h4, h5, h6⟩ := py_of d h
  refine ⟨p.shown, fun M => ?_⟩
  have sh : SeqAt.shaped p = true := by
    unfold SeqAt.shaped
    rw [h2, decide_eq_true (Nat.le_trans h5 hd)]
    rfl
  have lay : p.layable0 = true := by
    unfold PyData.layable0
    rw [h2, decide_eq_true (Nat.le_trans h5 hd), decide_eq_true (Nat.le_trans h6 hw)]
    rfl
  have hl : p.shown.length ≤ LN := PyData.shown_fits_of_layable0 (B := 13) (by decide) (by decide) lay h3
  simp only [prm, pRepr, h1]
  rw [if_pos ⟨h4, sh, hl⟩]
theorem eq_self {d : D} (h : okD d = true) (hd : dpD d ≤ 64) : eqD d d = some true := by
  obtain ⟨p, h1, h2, h3, h4, h5, h6⟩ := py_of d h
  have sh : SeqAt.shaped p = true := by
    unfold SeqAt.shaped
    rw [h2, decide_eq_true (Nat.le_trans h5 hd)]
    rfl
  have : eqD d d = eqP d d := by cases d <;> first | rfl | cases h
  rw [this]
  simp only [eqP, h1]
  rw [if_pos ⟨sh, sh⟩, PySem.SeqAt.eqv_refl p h2]
@[simp] theorem p_eqs {x : Str} {M : Store} : prm .eq [.str x, .str x] M = .ok (.bl true) M := by simp [prm, pEq, eqD, RE.ofO]
theorem p_eq_self {d : D} {M : Store} (h : okD d = true) (hd : dpD d ≤ 64) : prm .eq [d, d] M = .ok (.bl true) M := by simp [prm, pEq, eq_self h hd, RE.ofO]
/-! steps, one by one; comprehensions and loops are left -/
section
variable {cf : Cf} {ρ : Env} {M : Store} {e a b c : E} {l : List E} {i k : Nat} {d : D} {x y : List S} {t : Tg} {s : S}
@[simp] theorem ev_c : evE cf (.c d) ρ M = .ok d M := by rw [evE]
@[simp] theorem ev_g {z : Str} : evE cf (.g z d) ρ M = .ok d M := by rw [evE]
@[simp] theorem ev_f : evE cf (.f k) ρ M = .ok (.fn k) M := by rw [evE]
@[simp] theorem ev_v : evE cf (.v i) ρ M = match ρ[i]? with | some (.val d) => .ok d M | _ => .no := by rw [evE] <;> rfl
@[simp] theorem ev_ov : evE cf (.ov i) ρ M = match ρ[i]? with | some (.own d) => .ok d M | _ => .no := by rw [evE] <;> rfl
@[simp] theorem ev_pr {p : Pr} : evE cf (.pr p l) ρ M = (evL cf l ρ M).bd fun ds M1 => prm p ds M1 := by rw [evE]
@[simp] theorem ev_and : evE cf (.and a b) ρ M = (evE cf a ρ M).bd fun d M1 => match d with | .bl true => evE cf b ρ M1 | .bl false => .ok (.bl false) M1 | _ => .no := by rw [evE] <;> rfl
@[simp] theorem ev_or : evE cf (.or a b) ρ M = (evE cf a ρ M).bd fun d M1 => match d with | .bl false => evE cf b ρ M1 | .bl true => .ok (.bl true) M1 | _ => .no := by rw [evE] <;> rfl
@[simp] theorem ev_not : evE cf (.not a) ρ M = (evE cf a ρ M).bd fun d M1 => match d with | .bl k => .ok (.bl !k) M1 | _ => .no := by rw [evE] <;> rfl
@[simp] theorem ev_ite : evE cf (.ite c a b) ρ M = (evE cf c ρ M).bd fun d M1 => match d with | .bl true => evE cf a ρ M1 | .bl false => evE cf b ρ M1 | _ => .no := by rw [evE] <;> rfl
@[simp] theorem ev_chn {p q : Pr} : evE cf (.chn p q a b c) ρ M = (evE cf a ρ M).bd fun x M1 => (evE cf b ρ M1).bd fun y M2 => (prm p [x, y] M2).bd fun r M3 =>
      match r with | .bl true => (evE cf c ρ M3).bd fun z M4 => prm q [y, z] M4 | .bl false => .ok (.bl false) M3 | _ => .no := by rw [evE] <;> rfl
@[simp] theorem ev_call : evE cf (.call k l) ρ M = (evL cf l ρ M).bd fun ds M1 => cf.call k ds M1 := by rw [evE]
@[simp] theorem ev_callV : evE cf (.callV i l) ρ M = match ρ[i]? with | some (.val (.fn k)) => (evL cf l ρ M).bd fun ds M1 => cf.call k ds M1 | _ => .no := by rw [evE] <;> rfl
@[simp] theorem ev_nil : evL cf [] ρ M = .ok [] M := by rw [evL]
@[simp] theorem ev_cons : evL cf (e :: l) ρ M = (evE cf e ρ M).bdL fun d M1 => (evL cf l ρ M1).bdL fun ds M2 => .ok (d :: ds) M2 := by rw [evL]
@[simp] theorem st_asg : evS cf (.asg t e) ρ M = (evE cf e ρ M).bdS ρ fun d M1 => match bindT t d ρ with | some ρ' => .nx ρ' M1 | none => .no := by rw [evS] <;> rfl
@[simp] theorem st_ex : evS cf (.ex e) ρ M = (evE cf e ρ M).bdS ρ fun _ M1 => .nx ρ M1 := by rw [evS]
@[simp] theorem st_ret : evS cf (.ret e) ρ M = (evE cf e ρ M).bdS ρ fun d M1 => .rt d M1 := by rw [evS]
@[simp] theorem st_ite : evS cf (.ite c x y) ρ M = (evE cf c ρ M).bdS ρ fun d M1 => match d with | .bl true => evB cf x ρ M1 | .bl false => evB cf y ρ M1 | _ => .no := by rw [evS] <;> rfl
@[simp] theorem st_cont : evS cf .cont ρ M = .ct ρ M := by rw [evS]
@[simp] theorem st_pass : evS cf .pass ρ M = .nx ρ M := by rw [evS]
@[simp] theorem st_stop : evS cf .stop ρ M = .no := by rw [evS]
@[simp] theorem st_raise0 : evS cf (.raise k []) ρ M = .ex k [] ρ M := by simp only [evS, evL, RL.bdS]
@[simp] theorem st_oset : evS cf (.oset i a e) ρ M = (evE cf e ρ M).bdS ρ fun d M1 => match ρ[i]? with
    | some (.own c) => (evE cf a ρ M1).bdS ρ fun x M2 => match putD c x d with | some c' => .nx (ρ.set i (.own c')) M2 | none => .no
    | _ => .no := by rw [evS] <;> rfl
@[simp] theorem st_app : evS cf (.app i e) ρ M = match ρ[i]? with
    | some (.own (.lst l)) => (evE cf e ρ M).bdS ρ fun d M1 => if l.length < LN then .nx (ρ.set i (.own (.lst (l ++ [d])))) M1 else .no
    | _ => .no := by rw [evS] <;> rfl
theorem st_for {its : List E} {kk : IK} : evS cf (.for t kk its x) ρ M = (evL cf its ρ M).bdS ρ fun ds M1 => match walkD kk ds with
    | some xs => loopF (fun d ρ' M' => match bindT t d ρ' with | some ρ2 => evB cf x ρ2 M' | none => .no) xs ρ M1
    | none => .no := by rw [evS] <;> rfl
@[simp] theorem st_par {l : List Nat} {rs : List Rh} : evS cf (.par l rs) ρ M = match evRhs cf rs ρ M with
    | .ok xs M1 => .nx (setsE ρ l xs) M1
    | .ex c fs M1 => .ex c fs ρ M1
    | .no => .no := by rw [evS] <;> rfl
@[simp] theorem rhs_nil : evRhs cf [] ρ M = .ok [] M := rfl
@[simp] theorem rhs_cons {r : Rh} {rs : List Rh} : evRhs cf (r :: rs) ρ M = match evRh cf r ρ M with
    | .ok x M1 => match evRhs cf rs ρ M1 with
      | .ok xs M2 => .ok (x :: xs) M2
      | .ex c fs M2 => .ex c fs M2
      | .no => .no
    | .ex c fs M1 => .ex c fs M1
    | .no => .no := by rw [evRhs] <;> rfl
@[simp] theorem rh_e : evRh cf (.e e) ρ M = match evE cf e ρ M with | .ok d M1 => .ok (.val d) M1 | .ex c fs M1 => .ex c fs M1 | .no => .no := rfl
@[simp] theorem rh_nd : evRh cf .nd ρ M = .ok (.own (.dic [] [])) M := rfl
@[simp] theorem rh_nl0 : evRh cf (.nl []) ρ M = .ok (.own (.lst [])) M := rfl
@[simp] theorem sets_nil {ρ : Env} {xs : List Sl} : setsE ρ [] xs = ρ := by cases xs <;> rfl
@[simp] theorem sets_cons {ρ : Env} {i : Nat} {is : List Nat} {z : Sl} {xs : List Sl} : setsE ρ (i :: is) (z :: xs) = setsE (ρ.set i z) is xs := rfl
@[simp] theorem sb_nil : evB cf [] ρ M = .nx ρ M := by rw [evB]
@[simp] theorem sb_cons : evB cf (s :: x) ρ M = match evS cf s ρ M with | .nx ρ' M' => evB cf x ρ' M' | r => r := by rw [evB] <;> rfl
@[simp] theorem bindT_n : bindT (.n i) d ρ = some (ρ.set i (.val d)) := rfl
end
theorem evB_nx {cf : Cf} {x : S} {b : List S} {ρ ρ' : Env} {M M' : Store} (h : evS cf x ρ M = .nx ρ' M') : evB cf (x :: b) ρ M = evB cf b ρ' M' := by
  simp only [evB, h]
theorem evB_rt {cf : Cf} {x : S} {b : List S} {ρ : Env} {d : D} {M M' : Store} (h : evS cf x ρ M = .rt d M') : evB cf (x :: b) ρ M = .rt d M' := by
  simp only [evB, h]
theorem evB_ex {cf : Cf} {x : S} {b : List S} {ρ ρ' : Env} {c : Nat} {fs : List D} {M M' : Store} (h : evS cf x ρ M = .ex c fs ρ' M') : evB cf (x :: b) ρ M = .ex c fs ρ' M' := by
  simp only [evB, h]
end Fx

/-! Fx22: comprehensions and loops, in plain words. -/
namespace Fx
open PySem L2

theorem loopC_all {α : Type} {f : D → Store → Option (Option D × Store)} {inj g : α → D} {M : Store} : ∀ (l : List α), (∀ a ∈ l, f (inj a) M = some (some (g a), M)) → loopC f (l.map inj) M = .ok (l.map g) M
  | [], _ => rfl
  | a :: l, h => by
    simp only [List.map_cons, loopC, h a List.mem_cons_self, loopC_all l fun b hb => h b (List.mem_cons_of_mem _ hb), lbdl_ok]
theorem loopC_some {α : Type} {f : D → Store → Option (Option D × Store)} {inj : α → D} {g : α → Option D} {M : Store} : ∀ (l : List α), (∀ a ∈ l, f (inj a) M = some (g a, M)) → loopC f (l.map inj) M = .ok (l.filterMap g) M
  | [], _ => rfl
  | a :: l, h => by
    have ih := loopC_some l fun b hb => h b (List.mem_cons_of_mem _ hb)
    simp only [List.map_cons, loopC, h a List.mem_cons_self]
    cases hg : g a with
    | none => simp only [ih, List.filterMap_cons, hg]
    | some v => simp only [ih, List.filterMap_cons, hg, lbdl_ok]
section
variable {cf : Cf} {elt : E} {t : Tg} {k : IK} {its conds : List E} {own : List Nat} {ρ : Env} {M M1 : Store} {ds : List D}
/-- [elt for t in its], nothing of the store changed -/
theorem comp_map {α : Type} (l : List α) (inj g : α → D) (hi : evL cf its ρ M = .ok ds M1) (hw : walkD k ds = some (l.map inj)) (hx : ∀ a ∈ l, ∃ ρ', bindT t (inj a) (wipeE ρ own) = some ρ' ∧ evE cf elt ρ' M1 = .ok (g a) M1) (hl : l.length ≤ LN) :
    evE cf (.comp elt t k its [] own) ρ M = .ok (.lst (l.map g)) M1 := by
  have hlp : loopC (turnD cf elt t [] own ρ) (l.map inj) M1 = .ok (l.map g) M1 := loopC_all l fun a ha => by
    obtain ⟨ρ', h1, h2⟩ := hx a ha
    simp only [turnD, h1, evC, h2]
  have hl2 : (l.map g).length ≤ LN := by rw [List.length_map]; exact hl
  rw [comp_ev, hi, lbd_ok, hw]
  simp only
  rw [hlp]
  simp only [hl2, if_true]
/-- .. if c -/
theorem comp_if {α : Type} {c : E} (l : List α) (inj g : α → D) (q : α → Bool) (hi : evL cf its ρ M = .ok ds M1) (hw : walkD k ds = some (l.map inj)) (hx : ∀ a ∈ l, ∃ ρ', bindT t (inj a) (wipeE ρ own) = some ρ' ∧ evE cf c ρ' M1 = .ok (.bl (q a)) M1 ∧ (q a = true → evE cf elt ρ' M1 = .ok (g a) M1)) (hl : l.length ≤ LN) :
    evE cf (.comp elt t k its [c] own) ρ M = .ok (.lst ((l.filter q).map g)) M1 := by
  have e : l.filterMap (fun a => if q a = true then some (g a) else none) = (l.filter q).map g := by
    clear hx hl hw
    induction l with
    | nil => rfl
    | cons a l ih =>
      by_cases h : q a = true
      · simp [List.filterMap_cons, h, ih]
      · simp [List.filterMap_cons, h, ih]
  have hlp : loopC (turnD cf elt t [c] own ρ) (l.map inj) M1 = .ok (l.filterMap fun a => if q a = true then some (g a) else none) M1 := loopC_some l fun a ha => by
    obtain ⟨ρ', h1, h2, h3⟩ := hx a ha
    simp only [turnD, h1, evC, h2]
    cases hq : q a with
    | true => simp [h3 hq]
    | false => simp
  have hl2 : ((l.filter q).map g).length ≤ LN := by
    rw [List.length_map]
    exact Nat.le_trans (List.length_filter_le _ _) hl
  rw [comp_ev, hi, lbd_ok, hw]
  simp only
  rw [hlp, e]
  simp only [hl2, if_true]
/-- draws: the store goes on, I is kept, each item has P -/
theorem loopC_draw {I : Store → Prop} {P : D → Prop} {f : D → Store → Option (Option D × Store)} : ∀ (xs : List D) (M : Store), I M → (∀ d ∈ xs, ∀ M, I M → ∃ v M', f d M = some (some v, M') ∧ P v ∧ I M') → ∃ vs M', loopC f xs M = .ok vs M' ∧ vs.length = xs.length ∧ (∀ v ∈ vs, P v) ∧ I M'
  | [], M, hI, _ => ⟨[], M, rfl, rfl, (fun _ h => by cases h), hI⟩
  | d :: xs, M, hI, h => by
    obtain ⟨v, M1, h1, h2, h3⟩ := h d List.mem_cons_self M hI
    obtain ⟨vs, M2, q1, q2, q3, q4⟩ := loopC_draw xs M1 h3 fun e he => h e (List.mem_cons_of_mem _ he)
    refine ⟨v :: vs, M2, by simp only [loopC, h1, q1, lbdl_ok], by simp [q2], fun w hw => ?_, q4⟩
    rcases List.mem_cons.mp hw with e | e
    · rw [e]; exact h2
    · exact q3 w e
theorem comp_draw {I : Store → Prop} {P : D → Prop} {xs : List D} (hi : evL cf its ρ M = .ok ds M1) (hI : I M1) (hw : walkD k ds = some xs) (hx : ∀ d ∈ xs, ∃ ρ', bindT t d (wipeE ρ own) = some ρ' ∧ ∀ M, I M → ∃ v M', evE cf elt ρ' M = .ok v M' ∧ P v ∧ I M') (hl : xs.length ≤ LN) :
    ∃ vs M', evE cf (.comp elt t k its [] own) ρ M = .ok (.lst vs) M' ∧ vs.length = xs.length ∧ (∀ v ∈ vs, P v) ∧ I M' := by
  obtain ⟨vs, M', h1, h2, h3, h4⟩ := loopC_draw (P := P) (f := turnD cf elt t [] own ρ) xs M1 hI fun d hd M hM => by
    obtain ⟨ρ', q1, q2⟩ := hx d hd
    obtain ⟨v, M', q3, q4, q5⟩ := q2 M hM
    exact ⟨v, M', by simp only [turnD, q1, evC, q3], q4, q5⟩
  refine ⟨vs, M', ?_, h2, h3, h4⟩
  rw [comp_ev, hi, lbd_ok, hw]
  simp only
  rw [h1]
  have : vs.length ≤ LN := by rw [h2]; exact hl
  simp only [this, if_true]
/-- .. some are left out by a draw: an upward part of the items -/
theorem loopC_pick {I : Store → Prop} {g : D → D} {f : D → Store → Option (Option D × Store)} : ∀ (xs : List D) (M : Store), I M → (∀ d ∈ xs, ∀ M, I M → ∃ (b : Bool) (M' : Store), f d M = some (if b = true then some (g d) else none, M') ∧ I M') → ∃ (ys : List D) (M' : Store), loopC f xs M = .ok (ys.map g) M' ∧ ys.Sublist xs ∧ I M'
  | [], M, hI, _ => ⟨[], M, rfl, List.Sublist.refl _, hI⟩
  | d :: xs, M, hI, h => by
    obtain ⟨b, M1, h1, h3⟩ := h d List.mem_cons_self M hI
    obtain ⟨ys, M2, q1, q2, q4⟩ := loopC_pick xs M1 h3 fun e he => h e (List.mem_cons_of_mem _ he)
    cases b with
    | true =>
      rw [if_pos rfl] at h1
      exact ⟨d :: ys, M2, by simp only [loopC, h1, q1, lbdl_ok, List.map_cons], q2.cons_cons d, q4⟩
    | false =>
      rw [if_neg (by decide)] at h1
      exact ⟨ys, M2, by simp only [loopC, h1, q1], q2.cons d, q4⟩
theorem comp_pick {I : Store → Prop} {g : D → D} {c : E} {xs : List D} (hi : evL cf its ρ M = .ok ds M1) (hI : I M1) (hw : walkD k ds = some xs) (hx : ∀ d ∈ xs, ∃ ρ', bindT t d (wipeE ρ own) = some ρ' ∧ ∀ M, I M → ∃ (b : Bool) (M' : Store), evE cf c ρ' M = .ok (.bl b) M' ∧ I M' ∧ evE cf elt ρ' M' = .ok (g d) M') (hl : xs.length ≤ LN) :
    ∃ (ys : List D) (M' : Store), evE cf (.comp elt t k its [c] own) ρ M = .ok (.lst (ys.map g)) M' ∧ ys.Sublist xs ∧ I M' := by
  obtain ⟨ys, M', h1, h2, h4⟩ := loopC_pick (g := g) (f := turnD cf elt t [c] own ρ) xs M1 hI fun d hd M hM => by
    obtain ⟨ρ', q1, q2⟩ := hx d hd
    obtain ⟨b, M', q3, q4, q5⟩ := q2 M hM
    refine ⟨b, M', ?_, q4⟩
    cases b with
    | true => simp only [turnD, q1, evC, q3, q5, if_true]
    | false => simp only [turnD, q1, evC, q3, Bool.false_eq_true, if_false]
  refine ⟨ys, M', ?_, h2, h4⟩
  rw [comp_ev, hi, lbd_ok, hw]
  simp only
  rw [h1]
  have : (ys.map g).length ≤ LN := by rw [List.length_map]; exact Nat.le_trans h2.length_le hl
  simp only [this, if_true]
end
/-- a for loop with an invariant: no one leaves it -/
theorem loopF_inv {J : Nat → Env → Store → Prop} {f : D → Env → Store → RS} : ∀ (xs : List D) (i : Nat) (ρ : Env) (M : Store), J i ρ M → (∀ (k : Nat) d ρ M, xs[k]? = some d → J (i + k) ρ M → ∃ ρ' M', (f d ρ M = .nx ρ' M' ∨ f d ρ M = .ct ρ' M') ∧ J (i + k + 1) ρ' M') → ∃ ρ' M', loopF f xs ρ M = .nx ρ' M' ∧ J (i + xs.length) ρ' M'
  | [], i, ρ, M, hJ, _ => ⟨ρ, M, rfl, hJ⟩
  | d :: xs, i, ρ, M, hJ, h => by
    obtain ⟨ρ1, M1, h1, h2⟩ := h 0 d ρ M rfl hJ
    obtain ⟨ρ2, M2, q1, q2⟩ := loopF_inv (J := J) xs (i + 1) ρ1 M1 h2 fun k e ρ M hk hJ' => by
      have := h (k + 1) e ρ M (by simpa using hk) (by rwa [show i + (k + 1) = i + 1 + k by omega])
      rwa [show i + (k + 1) + 1 = i + 1 + k + 1 by omega] at this
    refine ⟨ρ2, M2, ?_, by rwa [List.length_cons, show i + (xs.length + 1) = i + 1 + xs.length by omega]⟩
    rcases h1 with h1 | h1 <;> simp only [loopF, h1, q1]
end Fx

/-! Fx23: rows in order; dicts of whole numbers. -/
namespace Fx
open PySem hiding Env
open L2

theorem ins_perm (i : Int) : ∀ l : List Int, (insI i l).Perm (i :: l)
  | [] => List.Perm.refl _
  | x :: l => by
    unfold insI
    split
    · exact List.Perm.refl _
    · exact ((ins_perm i l).cons x).trans (List.Perm.swap i x l)
theorem sort_perm : ∀ l : List Int, (sortI l).Perm l
  | [] => List.Perm.refl _
  | x :: l => (ins_perm x (sortI l)).trans ((sort_perm l).cons x)
theorem ins_asc (i : Int) : ∀ {l : List Int}, l.Pairwise (· ≤ ·) → (insI i l).Pairwise (· ≤ ·)
  | [], _ => by simp [insI]
  | x :: l, h => by
    have h' := List.pairwise_cons.mp h
    unfold insI
    split
    · rename_i hi
      refine List.pairwise_cons.mpr ⟨fun y hy => ?_, h⟩
      rcases List.mem_cons.mp hy with e | e
      · rw [e]; exact hi
      · exact Int.le_trans hi (h'.1 y e)
    · rename_i hi
      refine List.pairwise_cons.mpr ⟨fun y hy => ?_, ins_asc i h'.2⟩
      rcases List.mem_cons.mp ((ins_perm i l).mem_iff.mp hy) with e | e
      · rw [e]; omega
      · exact h'.1 y e
theorem sort_asc : ∀ l : List Int, (sortI l).Pairwise (· ≤ ·)
  | [] => List.Pairwise.nil
  | x :: l => ins_asc x (sort_asc l)
theorem sort_strict {l : List Int} (h : l.Nodup) : (sortI l).Pairwise (· < ·) := by
  have h1 := sort_asc l
  have h2 : (sortI l).Nodup := (sort_perm l).nodup_iff.mpr h
  have := h1.and h2
  exact this.imp fun ⟨a, b⟩ => by omega

/-! dicts -/
def dicD (l : List (Int × Int)) : D := .dic (l.map fun q => .int q.1) (l.map fun q => .int q.2)
def look : List (Int × Int) → Int → Option Int
  | [], _ => none
  | q :: l, w => if q.1 = w then some q.2 else look l w
def get0 (l : List (Int × Int)) (w : Int) : Int := (look l w).getD 0
def putL (l : List (Int × Int)) (w x : Int) : List (Int × Int) := if (l.any fun q => decide (q.1 = w)) = true then l.map fun q => if q.1 = w then (q.1, x) else q else l ++ [(w, x)]
theorem keys_int : ∀ l : List (Int × Int), keysOf (l.map fun q => D.int q.1) = some (l.map fun q => Sum.inl q.1)
  | [] => rfl
  | q :: l => by simp [keysOf, keyOf, keys_int l]
theorem dget_int (w : Int) : ∀ l : List (Int × Int), dGet (.inl w) (l.map fun q => Sum.inl q.1) (l.map fun q => D.int q.2) = (look l w).map .int
  | [] => rfl
  | q :: l => by
    simp only [List.map_cons, dGet, look]
    by_cases h : q.1 = w
    · simp [h]
    · have : ¬ (Sum.inl q.1 : Key) = .inl w := fun e => h (by cases e; rfl)
      simp [h, this, dget_int w l]
theorem dset_int (w x : Int) : ∀ l : List (Int × Int), dSet (.inl w) (.int x) (l.map fun q => Sum.inl q.1) (l.map fun q => D.int q.2) = (l.map fun q => if q.1 = w then (q.1, x) else q).map fun q => D.int q.2
  | [] => rfl
  | q :: l => by
    simp only [List.map_cons, dSet]
    by_cases h : q.1 = w
    · simp [h, dset_int w x l]
    · have : ¬ (Sum.inl q.1 : Key) = .inl w := fun e => h (by cases e; rfl)
      simp [h, this, dset_int w x l]
@[simp] theorem p_get2 {l : List (Int × Int)} {w z : Int} {M : Store} : prm .get2 [dicD l, .int w, .int z] M = .ok (.int ((look l w).getD z)) M := by
  simp only [prm, pGet2, dicD, keyOf, keys_int, dget_int]
  cases look l w <;> rfl
theorem p_dg {l : List (Int × Int)} {w x : Int} {M : Store} (h : look l w = some x) : prm .dg [dicD l, .int w] M = .ok (.int x) M := by
  simp [prm, pDg, dicD, keyOf, keys_int, dget_int, h]
theorem put_dic {l : List (Int × Int)} {w x : Int} (h : l.length < LN) : putD (dicD l) (.int w) (.int x) = some (dicD (putL l w x)) := by
  have ea : ((l.map fun q => (Sum.inl q.1 : Key)).any fun a => decide (a = .inl w)) = l.any fun q => decide (q.1 = w) := by
    rw [List.any_map]
    congr 1
    funext q
    simp
  simp only [putD, dicD, keyOf, keys_int, List.length_map, h, if_true, dPut, ea, putL]
  split
  · rename_i hb
    simp only [dset_int]
    congr 2
    rw [List.map_map]
    apply List.map_congr_left
    intro q _
    simp only [Function.comp]
    split <;> rfl
  · simp
theorem p_sortK {l : List (Int × Int)} {M : Store} (h : l.length < 64) : prm .sortK [dicD l] M = .ok (.lst ((sortI (l.map (·.1))).map .int)) M := by
  have e : allInt (l.map fun q => D.int q.1) = some (l.map (·.1)) := by
    induction l with
    | nil => rfl
    | cons a l ih => simp only [List.map_cons, allInt]; rw [ih (by simp at h; omega)]; rfl
  simp [prm, pSortK, dicD, h, e, RE.ofO]
theorem look_some {l : List (Int × Int)} : ∀ {w : Int}, w ∈ l.map (·.1) → ∃ x, look l w = some x ∧ (w, x) ∈ l := by
  induction l with
  | nil => intro w h; cases h
  | cons q l ih =>
    intro w h
    simp only [look]
    by_cases e : q.1 = w
    · exact ⟨q.2, by simp [e], by rw [← e]; exact List.mem_cons_self⟩
    · rcases List.mem_cons.mp h with z | z
      · exact (e z.symm).elim
      · obtain ⟨x, h1, h2⟩ := ih z
        exact ⟨x, by simp [e, h1], List.mem_cons_of_mem _ h2⟩
theorem look_mem {l : List (Int × Int)} (hn : (l.map (·.1)).Nodup) : ∀ {q}, q ∈ l → look l q.1 = some q.2 := by
  induction l with
  | nil => intro q h; cases h
  | cons a l ih =>
    intro q h
    simp only [List.map_cons, List.nodup_cons] at hn
    simp only [look]
    rcases List.mem_cons.mp h with e | e
    · simp [e]
    · have : ¬ a.1 = q.1 := fun z => hn.1 (by rw [z]; exact List.mem_map.mpr ⟨q, e, rfl⟩)
      simp [this, ih hn.2 e]
theorem putL_keys {l : List (Int × Int)} {w x : Int} (hn : (l.map (·.1)).Nodup) : ((putL l w x).map (·.1)).Nodup ∧ (∀ k ∈ (putL l w x).map (·.1), k = w ∨ k ∈ l.map (·.1)) ∧ (putL l w x).length ≤ l.length + 1 := by
  unfold putL
  split
  · rename_i hb
    have e : ((l.map fun q => if q.1 = w then (q.1, x) else q).map (·.1)) = l.map (·.1) := by
      rw [List.map_map]
      apply List.map_congr_left
      intro q _
      simp only [Function.comp]
      split <;> rfl
    rw [e]
    exact ⟨hn, fun k hk => .inr hk, by simp⟩
  · rename_i hb
    refine ⟨?_, fun k hk => ?_, by simp⟩
    · rw [List.map_append, List.nodup_append]
      refine ⟨hn, by simp, fun a ha b hb2 z => ?_⟩
      simp at hb2
      subst hb2
      subst z
      apply hb
      obtain ⟨q, hq, e⟩ := List.mem_map.mp ha
      exact List.any_eq_true.mpr ⟨q, hq, by simp [e]⟩
    · rw [List.map_append] at hk
      rcases List.mem_append.mp hk with h | h
      · exact .inr h
      · simp at h; exact .inl h
theorem putL_vals {l : List (Int × Int)} {w x : Int} {P : Int → Prop} (h : ∀ q ∈ l, P q.2) (hx : P x) : ∀ q ∈ putL l w x, P q.2 := by
  unfold putL
  split
  · intro q hq
    obtain ⟨r, hr, e⟩ := List.mem_map.mp hq
    subst e
    split
    · exact hx
    · exact h r hr
  · intro q hq
    rcases List.mem_append.mp hq with z | z
    · exact h q z
    · simp at z; subst z; exact hx
/-- the sum of value times weight, behind a put -/
theorem putL_sum (f : Int → Int) {l : List (Int × Int)} {w x : Int} (hn : (l.map (·.1)).Nodup) : ((putL l w x).map fun q => q.2 * f q.1).sum = (l.map fun q => q.2 * f q.1).sum + (x - get0 l w) * f w := by
  have none_ : ∀ l : List (Int × Int), w ∉ l.map (·.1) → look l w = none ∧ (l.map fun q => if q.1 = w then (q.1, x) else q) = l := by
    intro l
    induction l with
    | nil => intro _; exact ⟨rfl, rfl⟩
    | cons q l ih =>
      intro h
      simp only [List.map_cons, List.mem_cons, not_or] at h
      obtain ⟨h1, h2⟩ := ih h.2
      have : ¬ q.1 = w := fun e => h.1 e.symm
      simp only [look, this, if_false, List.map_cons, h1, h2]
      exact ⟨trivial, trivial⟩
  unfold putL
  split
  · rename_i hb
    clear none_
    have hm : w ∈ l.map (·.1) := by
      obtain ⟨q, hq, e⟩ := List.any_eq_true.mp hb
      exact List.mem_map.mpr ⟨q, hq, of_decide_eq_true e⟩
    clear hb
    induction l with
    | nil => cases hm
    | cons q l ih =>
      simp only [List.map_cons, List.nodup_cons] at hn
      by_cases e : q.1 = w
      · have hn1 : w ∉ l.map (·.1) := by rw [← e]; exact hn.1
        have e2 : (l.map fun q => if q.1 = w then (q.1, x) else q) = l := by
          clear ih hm hn
          induction l with
          | nil => rfl
          | cons r l ih2 =>
            simp only [List.map_cons, List.mem_cons, not_or] at hn1
            have : ¬ r.1 = w := fun z => hn1.1 z.symm
            simp only [List.map_cons, this, if_false, ih2 hn1.2]
        simp only [List.map_cons, e, if_true, e2, List.sum_cons, get0, look, Option.getD_some]
        rw [Int.sub_mul]
        omega
      · have hm2 : w ∈ l.map (·.1) := by
          rcases List.mem_cons.mp hm with z | z
          · exact (e z.symm).elim
          · exact z
        have := ih hn.2 hm2
        simp only [List.map_cons, e, if_false, List.sum_cons, this, get0, look]
        omega
  · rename_i hb
    have hm : w ∉ l.map (·.1) := fun hm => by
      apply hb
      obtain ⟨q, hq, e⟩ := List.mem_map.mp hm
      exact List.any_eq_true.mpr ⟨q, hq, by simp [e]⟩
    rw [List.map_append, List.sum_append]
    simp [get0, (none_ l hm).1]
theorem perm_sum {l m : List Int} (h : l.Perm m) : l.sum = m.sum := by
  induction h with
  | nil => rfl
  | cons x _ ih => simp [ih]
  | swap x y l => simp only [List.sum_cons]; omega
  | trans _ _ ih1 ih2 => exact ih1.trans ih2
end Fx

/-! Fx24: slices, pairs side by side, all. -/
namespace Fx
open PySem hiding Env
open L2
theorem cut_from {l : List D} {i : Nat} : cutD l (some (i : Int)) none = l.drop i := by
  unfold cutD
  have e1 : HT.sIx l.length 0 (some (i : Int)) = min i l.length := HT.sIx_nat _ _ _
  have e2 : HT.sIx l.length l.length none = l.length := HT.sIx_none _ _
  rw [e1, e2]
  by_cases h : i ≤ l.length
  · rw [Nat.min_eq_left h, List.take_of_length_le (by simp)]
  · rw [Nat.min_eq_right (by omega)]
    simp
    omega
theorem cut_to {l : List D} {i : Nat} : cutD l none (some (i : Int)) = l.take i := by
  unfold cutD
  have e1 : HT.sIx l.length l.length (some (i : Int)) = min i l.length := HT.sIx_nat _ _ _
  have e2 : HT.sIx l.length 0 none = 0 := HT.sIx_none _ _
  rw [e1, e2, List.drop_zero, Nat.sub_zero]
  by_cases h : i ≤ l.length
  · rw [Nat.min_eq_left h]
  · rw [Nat.min_eq_right (by omega), List.take_of_length_le (Nat.le_refl _), List.take_of_length_le (by omega)]
theorem p_from {l : List D} {i : Int} {M : Store} (h : 0 ≤ i) : prm (.sl true false) [.tup l, .int i] M = .ok (.tup (l.drop i.toNat)) M := by
  have e := cut_from (l := l) (i := i.toNat)
  rw [Int.toNat_of_nonneg h] at e
  rw [← e]; rfl
theorem p_to {l : List D} {i : Int} {M : Store} (h : 0 ≤ i) : prm (.sl false true) [.tup l, .int i] M = .ok (.tup (l.take i.toNat)) M := by
  have e := cut_to (l := l) (i := i.toNat)
  rw [Int.toNat_of_nonneg h] at e
  rw [← e]; rfl
theorem p_toL {l : List D} {i : Int} {M : Store} (h : 0 ≤ i) : prm (.sl false true) [.lst l, .int i] M = .ok (.lst (l.take i.toNat)) M := by
  have e := cut_to (l := l) (i := i.toNat)
  rw [Int.toNat_of_nonneg h] at e
  rw [← e]; rfl
theorem zip_map {α : Type} {inj : α → D} : ∀ (l m : List α), zipD (l.map inj) (m.map inj) = (l.zip m).map fun q => .tup [inj q.1, inj q.2]
  | [], _ => rfl
  | a :: l, [] => rfl
  | a :: l, b :: m => by simp only [List.map_cons, zipD, List.zip_cons_cons, zip_map l m]
theorem zip_next {α : Type} {R : α → α → Prop} : ∀ {l : List α}, l.Pairwise R → ∀ q ∈ l.zip (l.drop 1), R q.1 q.2
  | [], _, q, h => by cases h
  | [a], _, q, h => by simp at h
  | a :: b :: l, hp, q, h => by
    have hp' := List.pairwise_cons.mp hp
    simp only [List.drop_succ_cons, List.drop_zero, List.zip_cons_cons] at h
    rcases List.mem_cons.mp h with e | e
    · subst e; exact hp'.1 b List.mem_cons_self
    · exact zip_next hp'.2 q (by simpa using e)
theorem allBl_map {α : Type} (f : α → Bool) : ∀ l : List α, allBl (l.map fun a => D.bl (f a)) = some (l.map f)
  | [] => rfl
  | a :: l => by simp [allBl, allBl_map f l]
theorem p_all {α : Type} (f : α → Bool) (l : List α) (M : Store) : prm .all [.lst (l.map fun a => D.bl (f a))] M = .ok (.bl (l.all f)) M := by
  show pBls (fun bs => bs.all id) [.lst (l.map fun a => D.bl (f a))] M = _
  simp [pBls, allBl_map, RE.ofO]
theorem enum_map {α : Type} {inj : α → D} : ∀ (l : List α) (j : Nat), enumD j (l.map inj) = (l.zipIdx j).map fun q => .tup [.int (q.2 : Nat), inj q.1]
  | [], _ => rfl
  | a :: l, j => by simp only [List.map_cons, enumD, List.zipIdx_cons, enum_map l (j + 1)]
/-- a turn of a for loop -/
def turnF (cf : Cf) (t : Tg) (b : List S) : D → Env → Store → RS := fun d ρ M => match bindT t d ρ with | some ρ2 => evB cf b ρ2 M | none => .no
theorem st_forT {cf : Cf} {t : Tg} {k : IK} {its : List E} {b : List S} {ρ : Env} {M M1 : Store} {ds xs : List D} (h : evL cf its ρ M = .ok ds M1) (hw : walkD k ds = some xs) : evS cf (.for t k its b) ρ M = loopF (turnF cf t b) xs ρ M1 := by
  rw [st_for, h, lbds_ok, hw]
  rfl
theorem turn_eq {cf : Cf} {t : Tg} {b : List S} {d : D} {ρ ρ2 : Env} {M : Store} (h : bindT t d ρ = some ρ2) : turnF cf t b d ρ M = evB cf b ρ2 M := by
  unfold turnF
  rw [h]
theorem loop_nx {f : D → Env → Store → RS} {d : D} {ds : List D} {ρ ρ' : Env} {M M' : Store} (h : f d ρ M = .nx ρ' M') : loopF f (d :: ds) ρ M = loopF f ds ρ' M' := by simp only [loopF, h]
theorem loop_ct {f : D → Env → Store → RS} {d : D} {ds : List D} {ρ ρ' : Env} {M M' : Store} (h : f d ρ M = .ct ρ' M') : loopF f (d :: ds) ρ M = loopF f ds ρ' M' := by simp only [loopF, h]
theorem loop_rt {f : D → Env → Store → RS} {d e : D} {ds : List D} {ρ : Env} {M M' : Store} (h : f d ρ M = .rt e M') : loopF f (d :: ds) ρ M = .rt e M' := by simp only [loopF, h]
@[simp] theorem loop_nil {f : D → Env → Store → RS} {ρ : Env} {M : Store} : loopF f [] ρ M = .nx ρ M := rfl
end Fx

namespace K51
open PySem L2
def topS (i : Nat) : PySem.Stmt := PySem.Challenge.pw_fixwright_k51_fillings_that_meet_equatio.main.body.getD i (.Pass ⟨0, 0, 0, 0⟩)
def nm : Fx.Nm := { fn := [PySem.Str.ofString "is_number", PySem.Str.ofString "is_index", PySem.Str.ofString "is_sized", PySem.Str.ofString "is_tuple_of", PySem.Str.ofString "is_prime", PySem.Str.ofString "is_part", PySem.Str.ofString "is_sum", PySem.Str.ofString "is_equation", PySem.Str.ofString "is_system", PySem.Str.ofString "are_ascending", PySem.Str.ofString "is_sum_below", PySem.Str.ofString "checked_system", PySem.Str.ofString "is_residues", PySem.Str.ofString "is_filling", PySem.Str.ofString "check_filling", PySem.Str.ofString "reckoned", PySem.Str.ofString "is_met", PySem.Str.ofString "first_broken", PySem.Str.ofString "meets", PySem.Str.ofString "inputs_in", PySem.Str.ofString "told_in", PySem.Str.ofString "_law_bag", PySem.Str.ofString "_law_take", PySem.Str.ofString "_law_some", PySem.Str.ofString "_law_some_filling", PySem.Str.ofString "_law_sum", PySem.Str.ofString "_law_some_sum", PySem.Str.ofString "_law_wire", PySem.Str.ofString "_law_plus", PySem.Str.ofString "_law_value", PySem.Str.ofString "_law_system", PySem.Str.ofString "_law_met", PySem.Str.ofString "_law_alike", PySem.Str.ofString "_law_at", PySem.Str.ofString "law"], cls := [PySem.Str.ofString "Nothing"], blt := [PySem.Str.ofString "isinstance", PySem.Str.ofString "bool", PySem.Str.ofString "int", PySem.Str.ofString "len", PySem.Str.ofString "tuple", PySem.Str.ofString "all", PySem.Str.ofString "zip", PySem.Str.ofString "enumerate", PySem.Str.ofString "sum", PySem.Str.ofString "abs", PySem.Str.ofString "range", PySem.Str.ofString "sorted", PySem.Str.ofString "repr", PySem.Str.ofString "list"], cst := [(PySem.Str.ofString "MOST_PRIME", 9973), (PySem.Str.ofString "MOST_WIRES", 400), (PySem.Str.ofString "MOST_ROWS", 1000)], pl := [0] }
/-- 0: is_number(thing); slots 0 thing -/
def b_is_number : List Fx.S :=
    [.ret (.and (.pr (.isi .int) [(.v 0)]) (.not (.pr (.isi .bool) [(.v 0)])))]
def n_is_number : List PySem.Str := [PySem.Str.ofString "thing"]
/-- 1: is_index(thing); slots 0 thing -/
def b_is_index : List Fx.S :=
    [.ret (.and (.call 0 [(.v 0)]) (.pr .ge [(.v 0), (.c (.int 0))]))]
def n_is_index : List PySem.Str := [PySem.Str.ofString "thing"]
/-- 2: is_sized(thing, many); slots 0 thing, 1 many -/
def b_is_sized : List Fx.S :=
    [.ret (.and (.pr (.isi .tuple) [(.v 0)]) (.pr .eq [(.pr .len [(.v 0)]), (.v 1)]))]
def n_is_sized : List PySem.Str := [PySem.Str.ofString "thing", PySem.Str.ofString "many"]
/-- 3: is_tuple_of(thing, is_one); slots 0 thing, 1 is_one, 2 one -/
def b_is_tuple_of : List Fx.S :=
    [.ret (.and (.pr (.isi .tuple) [(.v 0)]) (.pr .all [(.comp (.callV 1 [(.v 2)]) (.n 2) .seq [(.v 0)] [] [2])]))]
def n_is_tuple_of : List PySem.Str := [PySem.Str.ofString "thing", PySem.Str.ofString "is_one", PySem.Str.ofString "one"]
/-- 4: is_prime(thing); slots 0 thing, 1 part -/
def b_is_prime : List Fx.S :=
    [.ite (.or (.not (.call 0 [(.v 0)])) (.not (.chn .le .le (.c (.int 3)) (.v 0) (.g (PySem.Str.ofString "MOST_PRIME") (.int 9973))))) [.ret (.c (.bl false))] [],
    .asg (.n 1) (.c (.int 3)),
    .whl (.pr .le [(.pr .mul [(.v 1), (.v 1)]), (.v 0)]) [.ite (.pr .eq [(.pr .mod [(.v 0), (.v 1)]), (.c (.int 0))]) [.ret (.c (.bl false))] [],
      .asg (.n 1) (.pr .add [(.v 1), (.c (.int 2))])],
    .ret (.pr .eq [(.pr .mod [(.v 0), (.c (.int 2))]), (.c (.int 1))])]
def n_is_prime : List PySem.Str := [PySem.Str.ofString "thing", PySem.Str.ofString "part"]
/-- 5: is_part(thing); slots 0 thing -/
def b_is_part : List Fx.S :=
    [.ret (.and (.call 2 [(.v 0), (.c (.int 2))]) (.and (.call 1 [(.pr .ix [(.v 0), (.c (.int 0))])]) (.and (.call 1 [(.pr .ix [(.v 0), (.c (.int 1))])]) (.pr .gt [(.pr .ix [(.v 0), (.c (.int 1))]), (.c (.int 0))]))))]
def n_is_part : List PySem.Str := [PySem.Str.ofString "thing"]
/-- 6: is_sum(thing); slots 0 thing, 1 one, 2 other -/
def b_is_sum : List Fx.S :=
    [.ite (.or (.not (.call 2 [(.v 0), (.c (.int 2))])) (.or (.not (.call 1 [(.pr .ix [(.v 0), (.c (.int 0))])])) (.not (.call 3 [(.pr .ix [(.v 0), (.c (.int 1))]), (.f 5)])))) [.ret (.c (.bl false))] [],
    .ret (.pr .all [(.comp (.pr .lt [(.pr .ix [(.v 1), (.c (.int 0))]), (.pr .ix [(.v 2), (.c (.int 0))])]) (.t [(.n 1), (.n 2)]) .zip [(.pr .ix [(.v 0), (.c (.int 1))]), (.pr (.sl true false) [(.pr .ix [(.v 0), (.c (.int 1))]), (.c (.int 1))])] [] [1, 2])])]
def n_is_sum : List PySem.Str := [PySem.Str.ofString "thing", PySem.Str.ofString "one", PySem.Str.ofString "other"]
/-- 7: is_equation(thing); slots 0 thing -/
def b_is_equation : List Fx.S :=
    [.ret (.and (.call 2 [(.v 0), (.c (.int 3))]) (.call 3 [(.v 0), (.f 6)]))]
def n_is_equation : List PySem.Str := [PySem.Str.ofString "thing"]
/-- 8: is_system(thing); slots 0 thing -/
def b_is_system : List Fx.S :=
    [.ite (.or (.not (.call 2 [(.v 0), (.c (.int 5))])) (.or (.not (.call 4 [(.pr .ix [(.v 0), (.c (.int 0))])])) (.not (.call 1 [(.pr .ix [(.v 0), (.c (.int 1))])])))) [.ret (.c (.bl false))] [],
    .ret (.and (.call 3 [(.pr .ix [(.v 0), (.c (.int 2))]), (.f 1)]) (.and (.call 3 [(.pr .ix [(.v 0), (.c (.int 3))]), (.f 1)]) (.call 3 [(.pr .ix [(.v 0), (.c (.int 4))]), (.f 7)])))]
def n_is_system : List PySem.Str := [PySem.Str.ofString "thing"]
/-- 9: are_ascending(some); slots 0 some, 1 one, 2 other -/
def b_are_ascending : List Fx.S :=
    [.ret (.pr .all [(.comp (.pr .lt [(.v 1), (.v 2)]) (.t [(.n 1), (.n 2)]) .zip [(.v 0), (.pr (.sl true false) [(.v 0), (.c (.int 1))])] [] [1, 2])])]
def n_are_ascending : List PySem.Str := [PySem.Str.ofString "some", PySem.Str.ofString "one", PySem.Str.ofString "other"]
/-- 10: is_sum_below(p, many, one); slots 0 p, 1 many, 2 one, 3 wire, 4 number -/
def b_is_sum_below : List Fx.S :=
    [.ret (.and (.pr .lt [(.pr .ix [(.v 2), (.c (.int 0))]), (.v 0)]) (.pr .all [(.comp (.and (.pr .lt [(.v 3), (.v 1)]) (.pr .lt [(.v 4), (.v 0)])) (.t [(.n 3), (.n 4)]) .seq [(.pr .ix [(.v 2), (.c (.int 1))])] [] [3, 4])]))]
def n_is_sum_below : List PySem.Str := [PySem.Str.ofString "p", PySem.Str.ofString "many", PySem.Str.ofString "one", PySem.Str.ofString "wire", PySem.Str.ofString "number"]
/-- 11: checked_system(thing); slots 0 thing, 1 p, 2 many, 3 inputs, 4 told, 5 rows, 6 number, 7 row, 8 at, 9 one, 10 wire -/
def b_checked_system : List Fx.S :=
    [.ite (.not (.call 8 [(.v 0)])) [.stop] [],
    .asg (.t [(.n 1), (.n 2), (.n 3), (.n 4), (.n 5)]) (.v 0),
    .ite (.pr .gt [(.v 2), (.g (PySem.Str.ofString "MOST_WIRES") (.int 400))]) [.stop] [],
    .ite (.pr .gt [(.pr .len [(.v 5)]), (.g (PySem.Str.ofString "MOST_ROWS") (.int 1000))]) [.stop] [],
    .ite (.or (.not (.call 9 [(.v 3)])) (.not (.pr .all [(.comp (.pr .lt [(.v 10), (.v 2)]) (.n 10) .seq [(.v 3)] [] [10])]))) [.stop] [],
    .ite (.not (.pr .all [(.comp (.pr .lt [(.v 10), (.v 2)]) (.n 10) .seq [(.v 4)] [] [10])])) [.stop] [],
    .for (.t [(.n 6), (.n 7)]) .enum [(.v 5)] [.for (.t [(.n 8), (.n 9)]) .enum [(.v 7)] [.ite (.not (.call 10 [(.v 1), (.v 2), (.v 9)])) [.stop] []]],
    .ret (.v 0)]
def n_checked_system : List PySem.Str := [PySem.Str.ofString "thing", PySem.Str.ofString "p", PySem.Str.ofString "many", PySem.Str.ofString "inputs", PySem.Str.ofString "told", PySem.Str.ofString "rows", PySem.Str.ofString "number", PySem.Str.ofString "row", PySem.Str.ofString "at", PySem.Str.ofString "one", PySem.Str.ofString "wire"]
/-- 12: is_residues(p, many, thing); slots 0 p, 1 many, 2 thing, 3 one -/
def b_is_residues : List Fx.S :=
    [.ret (.and (.call 2 [(.v 2), (.v 1)]) (.and (.call 3 [(.v 2), (.f 1)]) (.pr .all [(.comp (.pr .lt [(.v 3), (.v 0)]) (.n 3) .seq [(.v 2)] [] [3])])))]
def n_is_residues : List PySem.Str := [PySem.Str.ofString "p", PySem.Str.ofString "many", PySem.Str.ofString "thing", PySem.Str.ofString "one"]
/-- 13: is_filling(system, thing); slots 0 system, 1 thing -/
def b_is_filling : List Fx.S :=
    [.ex (.call 11 [(.v 0)]),
    .ret (.call 12 [(.pr .ix [(.v 0), (.c (.int 0))]), (.pr .ix [(.v 0), (.c (.int 1))]), (.v 1)])]
def n_is_filling : List PySem.Str := [PySem.Str.ofString "system", PySem.Str.ofString "thing"]
/-- 14: check_filling(system, thing); slots 0 system, 1 thing -/
def b_check_filling : List Fx.S :=
    [.ite (.not (.call 13 [(.v 0), (.v 1)])) [.raise 0 []] []]
def n_check_filling : List PySem.Str := [PySem.Str.ofString "system", PySem.Str.ofString "thing"]
/-- 15: reckoned(p, one, filling); slots 0 p, 1 one, 2 filling, 3 wire, 4 number -/
def b_reckoned : List Fx.S :=
    [.ret (.pr .mod [(.pr .add [(.pr .ix [(.v 1), (.c (.int 0))]), (.pr .sum [(.comp (.pr .mul [(.v 4), (.pr .ix [(.v 2), (.v 3)])]) (.t [(.n 3), (.n 4)]) .seq [(.pr .ix [(.v 1), (.c (.int 1))])] [] [3, 4])])]), (.v 0)])]
def n_reckoned : List PySem.Str := [PySem.Str.ofString "p", PySem.Str.ofString "one", PySem.Str.ofString "filling", PySem.Str.ofString "wire", PySem.Str.ofString "number"]
/-- 16: is_met(p, row, filling); slots 0 p, 1 row, 2 filling, 3 a, 4 b, 5 c, 6 one -/
def b_is_met : List Fx.S :=
    [.asg (.t [(.n 3), (.n 4), (.n 5)]) (.comp (.call 15 [(.v 0), (.v 6), (.v 2)]) (.n 6) .seq [(.v 1)] [] [6]),
    .ret (.pr .eq [(.pr .mod [(.pr .mul [(.v 3), (.v 4)]), (.v 0)]), (.v 5)])]
def n_is_met : List PySem.Str := [PySem.Str.ofString "p", PySem.Str.ofString "row", PySem.Str.ofString "filling", PySem.Str.ofString "a", PySem.Str.ofString "b", PySem.Str.ofString "c", PySem.Str.ofString "one"]
/-- 17: first_broken(system, filling); slots 0 system, 1 filling, 2 number, 3 row -/
def b_first_broken : List Fx.S :=
    [.ex (.call 14 [(.v 0), (.v 1)]),
    .for (.t [(.n 2), (.n 3)]) .enum [(.pr .ix [(.v 0), (.c (.int 4))])] [.ite (.not (.call 16 [(.pr .ix [(.v 0), (.c (.int 0))]), (.v 3), (.v 1)])) [.ret (.v 2)] []],
    .ret (.c .non)]
def n_first_broken : List PySem.Str := [PySem.Str.ofString "system", PySem.Str.ofString "filling", PySem.Str.ofString "number", PySem.Str.ofString "row"]
/-- 18: meets(system, filling); slots 0 system, 1 filling -/
def b_meets : List Fx.S :=
    [.ret (.pr .isN [(.call 17 [(.v 0), (.v 1)])])]
def n_meets : List PySem.Str := [PySem.Str.ofString "system", PySem.Str.ofString "filling"]
/-- 19: inputs_in(system, filling); slots 0 system, 1 filling, 2 wire -/
def b_inputs_in : List Fx.S :=
    [.ex (.call 14 [(.v 0), (.v 1)]),
    .ret (.pr .tuple [(.comp (.pr .ix [(.v 1), (.v 2)]) (.n 2) .seq [(.pr .ix [(.v 0), (.c (.int 2))])] [] [2])])]
def n_inputs_in : List PySem.Str := [PySem.Str.ofString "system", PySem.Str.ofString "filling", PySem.Str.ofString "wire"]
/-- 20: told_in(system, filling); slots 0 system, 1 filling, 2 wire -/
def b_told_in : List Fx.S :=
    [.ex (.call 14 [(.v 0), (.v 1)]),
    .ret (.pr .tuple [(.comp (.pr .ix [(.v 1), (.v 2)]) (.n 2) .seq [(.pr .ix [(.v 0), (.c (.int 3))])] [] [2])])]
def n_told_in : List PySem.Str := [PySem.Str.ofString "system", PySem.Str.ofString "filling", PySem.Str.ofString "wire"]
/-- 21: _law_bag(script); slots 0 script, 1 cell -/
def b__law_bag : List Fx.S :=
    [.ret (.pr .cel [(.c (.int 0)), (.c (.int 1234567891)), (.c (.int 0)), (.comp (.pr .abs [(.v 1)]) (.n 1) .seq [(.pr (.sl false true) [(.v 0), (.c (.int 63))])] [] [1])])]
def n__law_bag : List PySem.Str := [PySem.Str.ofString "script", PySem.Str.ofString "cell"]
/-- 22: _law_take(bag, many); slots 0 bag, 1 many, 2 begin, 3 second, 4 cell, 5 stirred, 6 value -/
def b__law_take : List Fx.S :=
    [.ite (.pr .eq [(.pr .ix [(.v 0), (.c (.int 0))]), (.c (.int 0))]) [.asg (.n 4) (.pr .ix [(.pr .add [(.pr (.sl true false) [(.pr .ix [(.v 0), (.c (.int 3))]), (.pr .ix [(.v 0), (.c (.int 2))])]), (.pr .lst [(.c (.int 0))])]), (.c (.int 0))]),
      .caug (.v 0) (.c (.int 2)) .add (.c (.int 1)),
      .ite (.pr .ge [(.v 4), (.pr .pow [(.c (.int 10)), (.c (.int 18))])]) [.cset (.v 0) (.c (.int 0)) (.v 4)] [],
      .asg (.n 5) (.pr .add [(.pr .add [(.pr .mul [(.pr .ix [(.v 0), (.c (.int 1))]), (.c (.int 48271))]), (.pr .mod [(.pr .int [(.v 4)]), (.c (.int 2147483647))])]), (.pr .mul [(.c (.int 7919)), (.pr .ix [(.v 0), (.c (.int 2))])])]),
      .cset (.v 0) (.c (.int 1)) (.pr .mod [(.pr .int [(.v 5)]), (.c (.int 2147483647))])] [],
    .ite (.pr .gt [(.pr .ix [(.v 0), (.c (.int 0))]), (.c (.int 0))]) [.asg (.n 6) (.pr .mod [(.pr .int [(.pr .ix [(.v 0), (.c (.int 0))])]), (.v 1)]),
      .cset (.v 0) (.c (.int 0)) (.pr .fdiv [(.pr .int [(.pr .ix [(.v 0), (.c (.int 0))])]), (.v 1)]),
      .ret (.v 6)] [],
    .asg (.n 2) (.pr .mod [(.pr .int [(.pr .mul [(.pr .add [(.pr .ix [(.v 0), (.c (.int 1))]), (.c (.int 1))]), (.c (.int 39373))])]), (.c (.int 1000000007))]),
    .asg (.n 3) (.pr .mod [(.pr .int [(.pr .mul [(.pr .mod [(.pr .int [(.pr .mul [(.v 2), (.v 2)])]), (.c (.int 998244353))]), (.c (.int 30011))])]), (.c (.int 998244353))]),
    .ret (.pr .mod [(.pr .int [(.pr .fdiv [(.v 3), (.c (.int 7))])]), (.v 1)])]
def n__law_take : List PySem.Str := [PySem.Str.ofString "bag", PySem.Str.ofString "many", PySem.Str.ofString "begin", PySem.Str.ofString "second", PySem.Str.ofString "cell", PySem.Str.ofString "stirred", PySem.Str.ofString "value"]
/-- 23: _law_some(bag, things); slots 0 bag, 1 things -/
def b__law_some : List Fx.S :=
    [.ret (.pr .ix [(.v 1), (.call 22 [(.v 0), (.pr .len [(.v 1)])])])]
def n__law_some : List PySem.Str := [PySem.Str.ofString "bag", PySem.Str.ofString "things"]
/-- 24: _law_some_filling(bag, p, many); slots 0 bag, 1 p, 2 many, 3 wire -/
def b__law_some_filling : List Fx.S :=
    [.ret (.pr .tuple [(.comp (.call 22 [(.v 0), (.v 1)]) (.n 3) .range1 [(.v 2)] [] [3])])]
def n__law_some_filling : List PySem.Str := [PySem.Str.ofString "bag", PySem.Str.ofString "p", PySem.Str.ofString "many", PySem.Str.ofString "wire"]
/-- 25: _law_sum(p, constant, parts); slots 0 p, 1 constant, 2 parts, 3 found, 4 wire, 5 number -/
def b__law_sum : List Fx.S :=
    [.par [3] [.nd],
    .for (.t [(.n 4), (.n 5)]) .seq [(.v 2)] [.oset 3 (.v 4) (.pr .mod [(.pr .add [(.pr .get2 [.ov 3, (.v 4), (.c (.int 0))]), (.v 5)]), (.v 0)])],
    .ret (.pr .tup [(.pr .mod [(.v 1), (.v 0)]), (.pr .tuple [(.comp (.pr .tup [(.v 4), (.pr .dg [.ov 3, (.v 4)])]) (.n 4) .seq [(.pr .sortK [.ov 3])] [(.pr .gt [(.pr .dg [.ov 3, (.v 4)]), (.c (.int 0))])] [4])])])]
def n__law_sum : List PySem.Str := [PySem.Str.ofString "p", PySem.Str.ofString "constant", PySem.Str.ofString "parts", PySem.Str.ofString "found", PySem.Str.ofString "wire", PySem.Str.ofString "number"]
/-- 26: _law_some_sum(bag, p, many); slots 0 bag, 1 p, 2 many, 3 parts, 4 turn -/
def b__law_some_sum : List Fx.S :=
    [.asg (.n 3) (.ite (.pr .gt [(.v 2), (.c (.int 0))]) (.comp (.pr .tup [(.call 22 [(.v 0), (.v 2)]), (.call 22 [(.v 0), (.v 1)])]) (.n 4) .range1 [(.call 22 [(.v 0), (.c (.int 4))])] [] [4]) (.pr .lst [])),
    .ret (.call 25 [(.v 1), (.ite (.pr .eq [(.call 22 [(.v 0), (.c (.int 2))]), (.c (.int 0))]) (.call 22 [(.v 0), (.v 1)]) (.c (.int 0))), (.pr .tuple [(.v 3)])])]
def n__law_some_sum : List PySem.Str := [PySem.Str.ofString "bag", PySem.Str.ofString "p", PySem.Str.ofString "many", PySem.Str.ofString "parts", PySem.Str.ofString "turn"]
/-- 27: _law_wire(wire); slots 0 wire -/
def b__law_wire : List Fx.S :=
    [.ret (.pr .tup [(.c (.int 0)), (.pr .tup [(.pr .tup [(.v 0), (.c (.int 1))])])])]
def n__law_wire : List PySem.Str := [PySem.Str.ofString "wire"]
/-- 28: _law_plus(p, one, often, other); slots 0 p, 1 one, 2 often, 3 other, 4 wire, 5 number -/
def b__law_plus : List Fx.S :=
    [.ret (.call 25 [(.v 0), (.pr .add [(.pr .ix [(.v 1), (.c (.int 0))]), (.pr .mul [(.v 2), (.pr .ix [(.v 3), (.c (.int 0))])])]), (.pr .add [(.pr .ix [(.v 1), (.c (.int 1))]), (.pr .tuple [(.comp (.pr .tup [(.v 4), (.pr .mul [(.v 2), (.v 5)])]) (.t [(.n 4), (.n 5)]) .seq [(.pr .ix [(.v 3), (.c (.int 1))])] [] [4, 5])])])])]
def n__law_plus : List PySem.Str := [PySem.Str.ofString "p", PySem.Str.ofString "one", PySem.Str.ofString "often", PySem.Str.ofString "other", PySem.Str.ofString "wire", PySem.Str.ofString "number"]
/-- 29: _law_value(p, its, filling); slots 0 p, 1 its, 2 filling, 3 wire, 4 number -/
def b__law_value : List Fx.S :=
    [.ret (.pr .mod [(.pr .add [(.pr .ix [(.v 1), (.c (.int 0))]), (.pr .sum [(.comp (.pr .mul [(.v 4), (.pr .ix [(.v 2), (.v 3)])]) (.t [(.n 3), (.n 4)]) .seq [(.pr .ix [(.v 1), (.c (.int 1))])] [] [3, 4])])]), (.v 0)])]
def n__law_value : List PySem.Str := [PySem.Str.ofString "p", PySem.Str.ofString "its", PySem.Str.ofString "filling", PySem.Str.ofString "wire", PySem.Str.ofString "number"]
/-- 30: _law_system(bag, p, many, most); slots 0 bag, 1 p, 2 many, 3 most, 4 turn, 5 inputs, 6 told, 7 filling, 8 rows, 9 lack, 10 a, 11 b, 12 c, 13 wire, 14 side -/
def b__law_system : List Fx.S :=
    [.par [7, 8] [.e (.call 24 [(.v 0), (.v 1), (.v 2)]), .nl []],
    .for (.n 4) .range1 [(.call 22 [(.v 0), (.pr .add [(.v 3), (.c (.int 1))])])] [.asg (.t [(.n 10), (.n 11), (.n 12)]) (.comp (.call 26 [(.v 0), (.v 1), (.v 2)]) (.n 14) .range1 [(.c (.int 3))] [] [14]),
      .ite (.and (.pr .eq [(.call 22 [(.v 0), (.c (.int 3))]), (.c (.int 0))]) (.pr .gt [(.v 2), (.c (.int 0))])) [.asg (.n 13) (.call 27 [(.call 22 [(.v 0), (.v 2)])]),
        .par [10, 11] [.e (.v 13), .e (.call 28 [(.v 1), (.v 13), (.pr .neg [(.c (.int 1))]), (.pr .tup [(.pr .ix [(.v 7), (.pr .ix [(.pr .ix [(.pr .ix [(.v 13), (.c (.int 1))]), (.c (.int 0))]), (.c (.int 0))])]), (.pr .tup [])])])]] [],
      .asg (.n 9) (.pr .sub [(.pr .mul [(.call 29 [(.v 1), (.v 10), (.v 7)]), (.call 29 [(.v 1), (.v 11), (.v 7)])]), (.call 29 [(.v 1), (.v 12), (.v 7)])]),
      .app 8 (.pr .tup [(.v 10), (.v 11), (.call 28 [(.v 1), (.v 12), (.c (.int 1)), (.pr .tup [(.pr .mod [(.v 9), (.v 1)]), (.pr .tup [])])])])],
    .asg (.n 5) (.pr .tuple [(.comp (.v 13) (.n 13) .range1 [(.v 2)] [(.pr .eq [(.call 22 [(.v 0), (.c (.int 3))]), (.c (.int 0))])] [13])]),
    .asg (.n 6) (.ite (.pr .gt [(.v 2), (.c (.int 0))]) (.pr .tuple [(.comp (.call 22 [(.v 0), (.v 2)]) (.n 4) .range1 [(.call 22 [(.v 0), (.c (.int 3))])] [] [4])]) (.pr .tup [])),
    .ret (.pr .tup [(.pr .tup [(.v 1), (.v 2), (.v 5), (.v 6), (.pr .tuple [.ov 8])]), (.v 7)])]
def n__law_system : List PySem.Str := [PySem.Str.ofString "bag", PySem.Str.ofString "p", PySem.Str.ofString "many", PySem.Str.ofString "most", PySem.Str.ofString "turn", PySem.Str.ofString "inputs", PySem.Str.ofString "told", PySem.Str.ofString "filling", PySem.Str.ofString "rows", PySem.Str.ofString "lack", PySem.Str.ofString "a", PySem.Str.ofString "b", PySem.Str.ofString "c", PySem.Str.ofString "wire", PySem.Str.ofString "side"]
/-- 31: _law_met(p, row, filling); slots 0 p, 1 row, 2 filling, 3 a, 4 b, 5 c, 6 one -/
def b__law_met : List Fx.S :=
    [.asg (.t [(.n 3), (.n 4), (.n 5)]) (.comp (.call 29 [(.v 0), (.v 6), (.v 2)]) (.n 6) .seq [(.v 1)] [] [6]),
    .ret (.pr .eq [(.pr .mod [(.pr .mul [(.v 3), (.v 4)]), (.v 0)]), (.v 5)])]
def n__law_met : List PySem.Str := [PySem.Str.ofString "p", PySem.Str.ofString "row", PySem.Str.ofString "filling", PySem.Str.ofString "a", PySem.Str.ofString "b", PySem.Str.ofString "c", PySem.Str.ofString "one"]
/-- 32: _law_alike(found, due); slots 0 found, 1 due -/
def b__law_alike : List Fx.S :=
    [.ret (.and (.pr .eq [(.pr .repr [(.v 0)]), (.pr .repr [(.v 1)])]) (.pr .eq [(.v 0), (.v 1)]))]
def n__law_alike : List PySem.Str := [PySem.Str.ofString "found", PySem.Str.ofString "due"]
/-- 33: _law_at(filling, wires); slots 0 filling, 1 wires, 2 wire -/
def b__law_at : List Fx.S :=
    [.ret (.pr .tuple [(.comp (.pr .ix [(.v 0), (.v 2)]) (.n 2) .seq [(.v 1)] [] [2])])]
def n__law_at : List PySem.Str := [PySem.Str.ofString "filling", PySem.Str.ofString "wires", PySem.Str.ofString "wire"]
/-- 34: law(script); slots 0 script, 1 bag, 2 turn, 3 again, 4 ask, 5 p, 6 many, 7 system, 8 filling, 9 at, 10 other, 11 broken, 12 due, 13 odd, 14 number, 15 row -/
def b_law : List Fx.S :=
    [.asg (.n 1) (.call 21 [(.v 0)]),
    .for (.n 2) .range1 [(.c (.int 6))] [.asg (.t [(.n 5), (.n 6)]) (.pr .tup [(.call 23 [(.v 1), (.pr .lst [(.c (.int 3)), (.c (.int 5)), (.c (.int 7)), (.c (.int 13)), (.c (.int 31)), (.c (.int 251)), (.c (.int 9973))])]), (.pr .add [(.c (.int 1)), (.call 22 [(.v 1), (.c (.int 9))])])]),
      .asg (.t [(.n 7), (.n 8)]) (.call 30 [(.v 1), (.v 5), (.v 6), (.c (.int 8))]),
      .ite (.or (.pr .notB [(.call 18 [(.v 7), (.v 8)]), (.c (.bl true))]) (.pr .notN [(.call 17 [(.v 7), (.v 8)])])) [.ret (.c (.bl false))] [],
      .for (.n 3) .range1 [(.c (.int 6))] [.asg (.n 9) (.call 22 [(.v 1), (.v 6)]),
        .asg (.n 10) (.pr .add [(.pr .add [(.pr (.sl false true) [(.v 8), (.v 9)]), (.pr .tup [(.pr .mod [(.pr .add [(.pr .add [(.pr .ix [(.v 8), (.v 9)]), (.c (.int 1))]), (.call 22 [(.v 1), (.pr .sub [(.v 5), (.c (.int 1))])])]), (.v 5)])])]), (.pr (.sl true false) [(.v 8), (.pr .add [(.v 9), (.c (.int 1))])])]),
        .asg (.n 11) (.comp (.v 14) (.t [(.n 14), (.n 15)]) .enum [(.pr .ix [(.v 7), (.c (.int 4))])] [(.not (.call 31 [(.v 5), (.v 15), (.v 10)]))] [14, 15]),
        .asg (.n 12) (.ite (.pr .ne [(.v 11), (.pr .lst [])]) (.pr .ix [(.v 11), (.c (.int 0))]) (.c .non)),
        .ite (.not (.call 32 [(.pr .lst [(.call 17 [(.v 7), (.v 10)]), (.call 18 [(.v 7), (.v 10)])]), (.pr .lst [(.v 12), (.pr .isN [(.v 12)])])])) [.ret (.c (.bl false))] [],
        .ite (.not (.call 32 [(.pr .lst [(.call 19 [(.v 7), (.v 10)]), (.call 20 [(.v 7), (.v 10)])]), (.pr .lst [(.call 33 [(.v 10), (.pr .ix [(.v 7), (.c (.int 2))])]), (.call 33 [(.v 10), (.pr .ix [(.v 7), (.c (.int 3))])])])])) [.ret (.c (.bl false))] []],
      .for (.n 4) .seq [(.pr .tup [(.f 17), (.f 18), (.f 19), (.f 20)])] [.for (.n 13) .seq [(.pr .tup [(.pr .add [(.v 8), (.pr .tup [(.c (.int 0))])]), (.pr .add [(.pr (.sl false true) [(.v 8), (.pr .neg [(.c (.int 1))])]), (.pr .tup [(.v 5)])]), (.pr .list [(.v 8)]), (.c .non)])] [.try [.ex (.callV 4 [(.v 7), (.v 13)]),
            .ret (.c (.bl false))] 0 none [.cont]]]],
    .ret (.c (.bl true))]
def n_law : List PySem.Str := [PySem.Str.ofString "script", PySem.Str.ofString "bag", PySem.Str.ofString "turn", PySem.Str.ofString "again", PySem.Str.ofString "ask", PySem.Str.ofString "p", PySem.Str.ofString "many", PySem.Str.ofString "system", PySem.Str.ofString "filling", PySem.Str.ofString "at", PySem.Str.ofString "other", PySem.Str.ofString "broken", PySem.Str.ofString "due", PySem.Str.ofString "odd", PySem.Str.ofString "number", PySem.Str.ofString "row"]
def tab : Fx.Tab := [⟨1, 1, b_is_number⟩,
  ⟨1, 1, b_is_index⟩,
  ⟨2, 2, b_is_sized⟩,
  ⟨3, 2, b_is_tuple_of⟩,
  ⟨2, 1, b_is_prime⟩,
  ⟨1, 1, b_is_part⟩,
  ⟨3, 1, b_is_sum⟩,
  ⟨1, 1, b_is_equation⟩,
  ⟨1, 1, b_is_system⟩,
  ⟨3, 1, b_are_ascending⟩,
  ⟨5, 3, b_is_sum_below⟩,
  ⟨11, 1, b_checked_system⟩,
  ⟨4, 3, b_is_residues⟩,
  ⟨2, 2, b_is_filling⟩,
  ⟨2, 2, b_check_filling⟩,
  ⟨5, 3, b_reckoned⟩,
  ⟨7, 3, b_is_met⟩,
  ⟨4, 2, b_first_broken⟩,
  ⟨2, 2, b_meets⟩,
  ⟨3, 2, b_inputs_in⟩,
  ⟨3, 2, b_told_in⟩,
  ⟨2, 1, b__law_bag⟩,
  ⟨7, 2, b__law_take⟩,
  ⟨2, 2, b__law_some⟩,
  ⟨4, 3, b__law_some_filling⟩,
  ⟨6, 3, b__law_sum⟩,
  ⟨5, 3, b__law_some_sum⟩,
  ⟨1, 1, b__law_wire⟩,
  ⟨6, 4, b__law_plus⟩,
  ⟨5, 3, b__law_value⟩,
  ⟨15, 4, b__law_system⟩,
  ⟨7, 3, b__law_met⟩,
  ⟨2, 2, b__law_alike⟩,
  ⟨3, 2, b__law_at⟩,
  ⟨16, 1, b_law⟩]

theorem c_is_number : Fx.chkB nm n_is_number (defScope (topS 8)) b_is_number (defBody (topS 8)) = true := by decide +kernel
theorem c_is_index : Fx.chkB nm n_is_index (defScope (topS 9)) b_is_index (defBody (topS 9)) = true := by decide +kernel
theorem c_is_sized : Fx.chkB nm n_is_sized (defScope (topS 10)) b_is_sized (defBody (topS 10)) = true := by decide +kernel
theorem c_is_tuple_of : Fx.chkB nm n_is_tuple_of (defScope (topS 11)) b_is_tuple_of (defBody (topS 11)) = true := by decide +kernel
theorem c_is_prime : Fx.chkB nm n_is_prime (defScope (topS 12)) b_is_prime (defBody (topS 12)) = true := by decide +kernel
theorem c_is_part : Fx.chkB nm n_is_part (defScope (topS 13)) b_is_part (defBody (topS 13)) = true := by decide +kernel
theorem c_is_sum : Fx.chkB nm n_is_sum (defScope (topS 14)) b_is_sum (defBody (topS 14)) = true := by decide +kernel
theorem c_is_equation : Fx.chkB nm n_is_equation (defScope (topS 15)) b_is_equation (defBody (topS 15)) = true := by decide +kernel
theorem c_is_system : Fx.chkB nm n_is_system (defScope (topS 16)) b_is_system (defBody (topS 16)) = true := by decide +kernel
theorem c_are_ascending : Fx.chkB nm n_are_ascending (defScope (topS 20)) b_are_ascending (defBody (topS 20)) = true := by decide +kernel
theorem c_is_sum_below : Fx.chkB nm n_is_sum_below (defScope (topS 21)) b_is_sum_below (defBody (topS 21)) = true := by decide +kernel
theorem c_checked_system : Fx.chkB nm n_checked_system (defScope (topS 22)) b_checked_system (defBody (topS 22)) = true := by decide +kernel
theorem c_is_residues : Fx.chkB nm n_is_residues (defScope (topS 23)) b_is_residues (defBody (topS 23)) = true := by decide +kernel
theorem c_is_filling : Fx.chkB nm n_is_filling (defScope (topS 24)) b_is_filling (defBody (topS 24)) = true := by decide +kernel
theorem c_check_filling : Fx.chkB nm n_check_filling (defScope (topS 25)) b_check_filling (defBody (topS 25)) = true := by decide +kernel
theorem c_reckoned : Fx.chkB nm n_reckoned (defScope (topS 26)) b_reckoned (defBody (topS 26)) = true := by decide +kernel
theorem c_is_met : Fx.chkB nm n_is_met (defScope (topS 27)) b_is_met (defBody (topS 27)) = true := by decide +kernel
theorem c_first_broken : Fx.chkB nm n_first_broken (defScope (topS 28)) b_first_broken (defBody (topS 28)) = true := by decide +kernel
theorem c_meets : Fx.chkB nm n_meets (defScope (topS 29)) b_meets (defBody (topS 29)) = true := by decide +kernel
theorem c_inputs_in : Fx.chkB nm n_inputs_in (defScope (topS 30)) b_inputs_in (defBody (topS 30)) = true := by decide +kernel
theorem c_told_in : Fx.chkB nm n_told_in (defScope (topS 31)) b_told_in (defBody (topS 31)) = true := by decide +kernel
theorem c__law_bag : Fx.chkB nm n__law_bag (defScope (topS 33)) b__law_bag (defBody (topS 33)) = true := by decide +kernel
theorem c__law_take : Fx.chkB nm n__law_take (defScope (topS 34)) b__law_take (defBody (topS 34)) = true := by decide +kernel
theorem c__law_some : Fx.chkB nm n__law_some (defScope (topS 35)) b__law_some (defBody (topS 35)) = true := by decide +kernel
theorem c__law_some_filling : Fx.chkB nm n__law_some_filling (defScope (topS 36)) b__law_some_filling (defBody (topS 36)) = true := by decide +kernel
theorem c__law_sum : Fx.chkB nm n__law_sum (defScope (topS 37)) b__law_sum (defBody (topS 37)) = true := by decide +kernel
theorem c__law_some_sum : Fx.chkB nm n__law_some_sum (defScope (topS 38)) b__law_some_sum (defBody (topS 38)) = true := by decide +kernel
theorem c__law_wire : Fx.chkB nm n__law_wire (defScope (topS 39)) b__law_wire (defBody (topS 39)) = true := by decide +kernel
theorem c__law_plus : Fx.chkB nm n__law_plus (defScope (topS 40)) b__law_plus (defBody (topS 40)) = true := by decide +kernel
theorem c__law_value : Fx.chkB nm n__law_value (defScope (topS 41)) b__law_value (defBody (topS 41)) = true := by decide +kernel
theorem c__law_system : Fx.chkB nm n__law_system (defScope (topS 42)) b__law_system (defBody (topS 42)) = true := by decide +kernel
theorem c__law_met : Fx.chkB nm n__law_met (defScope (topS 43)) b__law_met (defBody (topS 43)) = true := by decide +kernel
theorem c__law_alike : Fx.chkB nm n__law_alike (defScope (topS 44)) b__law_alike (defBody (topS 44)) = true := by decide +kernel
theorem c__law_at : Fx.chkB nm n__law_at (defScope (topS 45)) b__law_at (defBody (topS 45)) = true := by decide +kernel
theorem c_law : Fx.chkB nm n_law (defScope (topS 46)) b_law (defBody (topS 46)) = true := by decide +kernel
end K51

namespace K51
open PySem hiding Env
open L2 Fx
abbrev cN (n k : Nat) (ds : List D) (M : Store) : RE := callN tab 200 n k ds M

def plD : D → Bool | .dic _ _ => false | .obj _ => false | .fn _ => false | _ => true
def isNum : D → Bool | .int _ => true | _ => false
def isIdx : D → Bool | .int i => decide (0 ≤ i) | _ => false
theorem t_number {n : Nat} {d : D} {M : Store} (hn : 1 ≤ n) (hd : plD d = true) : cN n 0 [d] M = .ok (.bl (isNum d)) M := by
  obtain ⟨n, rfl⟩ : ∃ m, n = m + 1 := ⟨n - 1, by omega⟩
  show callN tab 200 (n + 1) 0 [d] M = _
  rw [callN_at rfl rfl]
  cases d <;> first | (cases hd; done) | simp [b_is_number, evB, evS, evE, evL, prm, pIsi, isTy, RE.ofO, isNum]
theorem t_index {n : Nat} {d : D} {M : Store} (hn : 2 ≤ n) (hd : plD d = true) : cN n 1 [d] M = .ok (.bl (isIdx d)) M := by
  obtain ⟨n, rfl⟩ : ∃ m, n = m + 1 := ⟨n - 1, by omega⟩
  show callN tab 200 (n + 1) 1 [d] M = _
  rw [callN_at rfl rfl]
  have h := fun M => t_number (n := n) (d := d) (M := M) (by omega) hd
  cases d <;> first | (cases hd; done) | simp [b_is_index, evB, evS, evE, evL, h, isNum, isIdx]

/-! the draws -/
def bagD (g s c : Int) (l : List Int) : D := .lst [.int g, .int s, .int c, .lst (l.map .int)]
/-- the bag -/
def Bag (M : Store) : Prop := ∃ (g s c : Int) (l : List Int), M = [bagD g s c l] ∧ 0 ≤ g ∧ 0 ≤ s ∧ s < 2147483647 ∧ 0 ≤ c ∧ l.length ≤ 63 ∧ ∀ i ∈ l, 0 ≤ i
@[simp] theorem ix40 : ixN 4 0 = some 0 := rfl
@[simp] theorem ix41 : ixN 4 1 = some 1 := rfl
@[simp] theorem ix42 : ixN 4 2 = some 2 := rfl
theorem p_big {M : Store} : prm .pow [.int 10, .int 18] M = .ok (.int 1000000000000000000) M := by
  have h : CPow 10 18 := by unfold CPow; decide
  simp [prm, pII, h]
theorem cell_of {l : List Int} {c : Int} {M : Store} (hl : l.length ≤ 63) (h : ∀ i ∈ l, 0 ≤ i) : ∃ x r, 0 ≤ x ∧ prm (.sl true false) [.lst (l.map .int), .int c] M = .ok (.lst (cutD (l.map .int) (some c) none)) M ∧
    prm .add [.lst (cutD (l.map .int) (some c) none), .lst [.int 0]] M = .ok (.lst (.int x :: r)) M := by
  have e : ∃ l2 : List Int, cutD (l.map D.int) (some c) none = l2.map .int ∧ (∀ i ∈ l2, 0 ≤ i) ∧ l2.length ≤ 63 := by
    unfold cutD
    rw [← List.map_drop, ← List.map_take]
    refine ⟨_, rfl, fun i hi => h i (List.mem_of_mem_drop (List.mem_of_mem_take hi)), ?_⟩
    rw [List.length_take, List.length_drop]
    omega
  obtain ⟨l2, e1, e2, e3⟩ := e
  have e4 : (l2.map D.int).length + [D.int 0].length ≤ LN := by
    rw [List.length_map]
    show l2.length + 1 ≤ 16777216
    omega
  cases l2 with
  | nil => exact ⟨0, [], Int.le_refl _, rfl, by rw [e1, p_catL e4]; rfl⟩
  | cons i r => exact ⟨i, _, e2 i List.mem_cons_self, rfl, by rw [e1, p_catL e4]; rfl⟩
theorem t_take {n : Nat} {m : Int} {M : Store} (hn : 1 ≤ n) (hb : Bag M) (h0 : 0 < m) (h1 : m < 1000000) : ∃ v M', cN n 22 [.obj 0, .int m] M = .ok (.int v) M' ∧ 0 ≤ v ∧ v < m ∧ Bag M' := by
  obtain ⟨n, rfl⟩ : ∃ m, n = m + 1 := ⟨n - 1, by omega⟩
  obtain ⟨g, s, c, l, rfl, g0, s0, s1, c0, ll, lp⟩ := hb
  have dv : ∀ i : Int, CDiv i m := fun i => ⟨h0, by omega⟩
  have d7 : ∀ i : Int, CDiv i 7 := fun i => ⟨by decide, by decide⟩
  have modM : ∀ (i : Int) (M : Store), prm .mod [.int i, .int m] M = .ok (.int (i % m)) M := fun i M => p_mod h0
  have mm : ∀ (i j : Int) (M : Store), 0 < j → prm .mod [.int i, .int j] M = .ok (.int (i % j)) M := fun i j M h => p_mod h
  show ∃ v M', callN tab 200 (n + 1) 22 _ _ = _ ∧ _
  rw [callN_at rfl rfl]
  have tail : ∀ (s c : Int) (ρ : Env), 0 ≤ s → s < 2147483647 → 0 ≤ c → ρ.length = 7 → ρ[0]? = some (.val (.obj 0)) → ρ[1]? = some (.val (.int m)) → ∀ g : Int, 0 ≤ g → ∃ v M', fin (evB ⟨callN tab 200 n, 200⟩ (b__law_take.drop 1) ρ [bagD g s c l]) = .ok (.int v) M' ∧ 0 ≤ v ∧ v < m ∧ Bag M' := by
    intro s c ρ s0 s1 c0 hl h2 h3 g g0
    by_cases hg : 0 < g
    · refine ⟨g % m, [bagD (g / m) s c l], ?_, Int.emod_nonneg _ (by omega), Int.emod_lt_of_pos _ h0, g / m, s, c, l, rfl, Int.ediv_nonneg g0 (by omega), s0, s1, c0, ll, lp⟩
      have e6 : (ρ.set 6 (Sl.val (.int (g % m))))[6]? = some (.val (.int (g % m))) := List.getElem?_set_self (by omega)
      simp [b__law_take, evB, evS, evE, evL, h2, h3, bagD, hg, h0, dv, bindT, putD, e6]
    · have e0 : g = 0 := by omega
      subst e0
      have q1 := Int.emod_nonneg ((s + 1) * 39373) (show (1000000007 : Int) ≠ 0 by decide)
      have q2 := Int.emod_lt_of_pos ((s + 1) * 39373) (show (0 : Int) < 1000000007 by decide)
      generalize hb : (s + 1) * 39373 % 1000000007 = b at q1 q2
      have q3 := Int.emod_nonneg (b * b) (show (998244353 : Int) ≠ 0 by decide)
      have q4 := Int.emod_lt_of_pos (b * b) (show (0 : Int) < 998244353 by decide)
      generalize hd : b * b % 998244353 = d at q3 q4
      refine ⟨d * 30011 % 998244353 / 7 % m, [bagD 0 s c l], ?_, Int.emod_nonneg _ (by omega), Int.emod_lt_of_pos _ h0, 0, s, c, l, rfl, Int.le_refl _, s0, s1, c0, ll, lp⟩
      have c1 : CMul (s + 1) 39373 := mul_l (by omega) (by omega)
      have c2 : CMul b b := mul_l (by omega) (by omega)
      have c3 : CMul d 30011 := mul_l (by omega) (by omega)
      have e2 : ∀ x : Sl, (ρ.set 2 x)[2]? = some x := fun x => List.getElem?_set_self (by omega)
      have e3 : ∀ x y : Sl, ((ρ.set 2 x).set 3 y)[3]? = some y := fun x y => List.getElem?_set_self (by rw [List.length_set]; omega)
      simp [b__law_take, evB, evS, evE, evL, h2, h3, bagD, h0, d7, bindT, putD, e2, e3, c1, hb, c2, hd, c3]
  by_cases hg : g = 0
  · subst hg
    obtain ⟨x, r, x0, e1, e2⟩ := cell_of (c := c) (M := [bagD 0 s c l]) ll lp
    have q1 := Int.emod_nonneg (s * 48271 + x % 2147483647 + 7919 * (c + 1)) (show (2147483647 : Int) ≠ 0 by decide)
    have q2 := Int.emod_lt_of_pos (s * 48271 + x % 2147483647 + 7919 * (c + 1)) (show (0 : Int) < 2147483647 by decide)
    have c1 : CMul s 48271 := mul_l (by omega) (by omega)
    have c2 : CMul 7919 (c + 1) := mul_l (by omega) (by omega)
    generalize hz : (s * 48271 + x % 2147483647 + 7919 * (c + 1)) % 2147483647 = z at q1 q2
    have st : evS ⟨callN tab 200 n, 200⟩ (b__law_take.getD 0 .pass) [.val (.obj 0), .val (.int m), .no, .no, .no, .no, .no] [bagD 0 s c l] =
        .nx [.val (.obj 0), .val (.int m), .no, .no, .val (.int x), .val (.int (s * 48271 + x % 2147483647 + 7919 * (c + 1))), .no] [bagD (if 1000000000000000000 ≤ x then x else 0) z (c + 1) l] := by
      by_cases hx : 1000000000000000000 ≤ x
      · simp [bagD] at e1 e2
        simp [b__law_take, evB, evS, evE, evL, bagD, bindT, putD, e1, e2, hx, p_big, augI, c1, c2, hz]
      · simp [bagD] at e1 e2
        simp [b__law_take, evB, evS, evE, evL, bagD, bindT, putD, e1, e2, hx, p_big, augI, c1, c2, hz]
    obtain ⟨v, M', h1, h2⟩ := tail z (c + 1) [.val (.obj 0), .val (.int m), .no, .no, .val (.int x), .val (.int (s * 48271 + x % 2147483647 + 7919 * (c + 1))), .no] q1 q2 (by omega) rfl rfl rfl (if 1000000000000000000 ≤ x then x else 0) (by split <;> omega)
    refine ⟨v, M', ?_, h2⟩
    rw [← h1]
    exact congrArg fin (evB_nx st)
  · have st : evS ⟨callN tab 200 n, 200⟩ (b__law_take.getD 0 .pass) [.val (.obj 0), .val (.int m), .no, .no, .no, .no, .no] [bagD g s c l] = .nx [.val (.obj 0), .val (.int m), .no, .no, .no, .no, .no] [bagD g s c l] := by
      simp [b__law_take, evB, evS, evE, evL, bagD, hg]
    obtain ⟨v, M', h1, h2⟩ := tail s c [.val (.obj 0), .val (.int m), .no, .no, .no, .no, .no] s0 s1 c0 rfl rfl rfl g g0
    refine ⟨v, M', ?_, h2⟩
    rw [← h1]
    exact congrArg fin (evB_nx st)
end K51

namespace K51
open PySem hiding Env
open L2 Fx
/-! sums and fillings -/
def partD (q : Int × Int) : D := .tup [.int q.1, .int q.2]
def sumD (c : Int) (ps : List (Int × Int)) : D := .tup [.int c, .tup (ps.map partD)]
def fillD (fl : List Int) : D := .tup (fl.map .int)
/-- what a wire holds -/
def at_ (fl : List Int) (w : Int) : Int := fl.getD w.toNat 0
def raw (ps : List (Int × Int)) (fl : List Int) : Int := (ps.map fun q => q.2 * at_ fl q.1).sum
def val (p c : Int) (ps : List (Int × Int)) (fl : List Int) : Int := (c + raw ps fl) % p
structure FillOk (p : Int) (many : Nat) (fl : List Int) : Prop where
  len : fl.length = many
  low : ∀ x ∈ fl, 0 ≤ x
  high : ∀ x ∈ fl, x < p
structure SumOk (p : Int) (many : Nat) (c : Int) (ps : List (Int × Int)) : Prop where
  c0 : 0 ≤ c
  c1 : c < p
  wire : ∀ q ∈ ps, 0 ≤ q.1 ∧ q.1 < many
  num : ∀ q ∈ ps, 0 < q.2 ∧ q.2 < p
  asc : ps.Pairwise fun q r => q.1 < r.1
theorem allInt_map {α : Type} (f : α → Int) : ∀ l : List α, allInt (l.map fun a => D.int (f a)) = some (l.map f)
  | [] => rfl
  | a :: l => by simp [allInt, allInt_map f l]
theorem p_sum {α : Type} (f : α → Int) (l : List α) (M : Store) : prm .sum [.lst (l.map fun a => D.int (f a))] M = .ok (.int (l.map f).sum) M := by
  show pSum [.lst (l.map fun a => D.int (f a))] M = _
  simp [pSum, allInt_map, RE.ofO]
theorem fill_at {fl : List Int} {w : Int} (h0 : 0 ≤ w) (h1 : w < fl.length) : atI (fl.map D.int) w = some (.int (at_ fl w)) := by
  refine atI_int h0 ?_
  have hl : w.toNat < fl.length := by omega
  rw [List.getElem?_map, List.getElem?_eq_getElem hl]
  unfold at_
  rw [List.getD_eq_getElem?_getD, List.getElem?_eq_getElem hl]
  rfl
@[simp] theorem sum_0 {c : Int} {ps : List (Int × Int)} {M : Store} : prm .ix [sumD c ps, .int 0] M = .ok (.int c) M := by simp [sumD]
@[simp] theorem sum_1 {c : Int} {ps : List (Int × Int)} {M : Store} : prm .ix [sumD c ps, .int 1] M = .ok (.tup (ps.map partD)) M := by simp [sumD]
@[simp] theorem part_0 {q : Int × Int} {M : Store} : prm .ix [partD q, .int 0] M = .ok (.int q.1) M := by simp [partD]
@[simp] theorem part_1 {q : Int × Int} {M : Store} : prm .ix [partD q, .int 1] M = .ok (.int q.2) M := by simp [partD]
theorem fill_ix {fl : List Int} {w : Int} {M : Store} (h0 : 0 ≤ w) (h1 : w < fl.length) : prm .ix [fillD fl, .int w] M = .ok (.int (at_ fl w)) M := by simp [fillD, fill_at h0 h1]
theorem val_body {cf : Cf} {p c : Int} {ps : List (Int × Int)} {fl : List Int} {M : Store} {x y : Sl} (hp : 0 < p) (hw : ∀ q ∈ ps, 0 ≤ q.1 ∧ q.1 < fl.length) (hn : ∀ q ∈ ps, -(2 ^ 64) < q.2 ∧ q.2 < 2 ^ 64) (hl : ps.length ≤ LN) :
    fin (evB cf b__law_value [.val (.int p), .val (sumD c ps), .val (fillD fl), x, y] M) = .ok (.int (val p c ps fl)) M := by
  have hc : evE cf (.comp (.pr .mul [(.v 4), (.pr .ix [(.v 2), (.v 3)])]) (.t [(.n 3), (.n 4)]) .seq [(.pr .ix [(.v 1), (.c (.int 1))])] [] [3, 4]) [.val (.int p), .val (sumD c ps), .val (fillD fl), x, y] M = .ok (.lst (ps.map fun q => D.int (q.2 * at_ fl q.1))) M := by
    refine comp_map (ds := [.tup (ps.map partD)]) ps partD (fun q => D.int (q.2 * at_ fl q.1)) ?_ rfl (fun q hq => ?_) hl
    · simp
    · refine ⟨[.val (.int p), .val (sumD c ps), .val (fillD fl), .val (.int q.1), .val (.int q.2)], rfl, ?_⟩
      have hm : CMul q.2 (at_ fl q.1) := .inl (hn q hq)
      simp [fill_ix (hw q hq).1 (hw q hq).2, hm]
  simp [b__law_value, hc, p_sum, hp, val, raw]
theorem t_value {n : Nat} {p c : Int} {ps : List (Int × Int)} {fl : List Int} {M : Store} (h : 1 ≤ n) (hp : 0 < p) (hw : ∀ q ∈ ps, 0 ≤ q.1 ∧ q.1 < fl.length) (hn : ∀ q ∈ ps, -(2 ^ 64) < q.2 ∧ q.2 < 2 ^ 64) (hl : ps.length ≤ LN) :
    cN n 29 [.int p, sumD c ps, fillD fl] M = .ok (.int (val p c ps fl)) M := by
  obtain ⟨n, rfl⟩ : ∃ m, n = m + 1 := ⟨n - 1, by omega⟩
  show callN tab 200 (n + 1) 29 _ _ = _
  rw [callN_at rfl rfl]
  exact val_body hp hw hn hl
theorem t_reckoned {n : Nat} {p c : Int} {ps : List (Int × Int)} {fl : List Int} {M : Store} (h : 1 ≤ n) (hp : 0 < p) (hw : ∀ q ∈ ps, 0 ≤ q.1 ∧ q.1 < fl.length) (hn : ∀ q ∈ ps, -(2 ^ 64) < q.2 ∧ q.2 < 2 ^ 64) (hl : ps.length ≤ LN) :
    cN n 15 [.int p, sumD c ps, fillD fl] M = .ok (.int (val p c ps fl)) M := by
  obtain ⟨n, rfl⟩ : ∃ m, n = m + 1 := ⟨n - 1, by omega⟩
  show callN tab 200 (n + 1) 15 _ _ = _
  rw [callN_at rfl rfl]
  exact val_body hp hw hn hl
end K51

namespace K51
open PySem hiding Env
open L2 Fx
/-! _law_sum -/
structure DInv (p : Int) (l pr : List (Int × Int)) : Prop where
  nd : (l.map (·.1)).Nodup
  keys : ∀ k ∈ l.map (·.1), k ∈ pr.map (·.1)
  low : ∀ q ∈ l, 0 ≤ q.2 ∧ q.2 < p
  len : l.length ≤ pr.length
  sum : ∀ fl, ∃ k, raw l fl = raw pr fl + k * p
theorem dinv_put {p w x : Int} {l pr : List (Int × Int)} (hp : 0 < p) (h : DInv p l pr) : DInv p (putL l w ((get0 l w + x) % p)) (pr ++ [(w, x)]) := by
  obtain ⟨k1, k2, k3⟩ := putL_keys (w := w) (x := (get0 l w + x) % p) h.nd
  have := h.len
  refine ⟨k1, fun k hk => ?_, fun q hq => putL_vals (P := fun y => 0 ≤ y ∧ y < p) h.low ⟨Int.emod_nonneg _ (by omega), Int.emod_lt_of_pos _ hp⟩ q hq, by simp; omega, fun fl => ?_⟩
  · rw [List.map_append]
    rcases k2 k hk with e | e
    · exact List.mem_append_right _ (by simp [e])
    · exact List.mem_append_left _ (h.keys k e)
  · obtain ⟨k, hk⟩ := h.sum fl
    have e := putL_sum (at_ fl) (w := w) (x := (get0 l w + x) % p) h.nd
    refine ⟨k - (get0 l w + x) / p * at_ fl w, ?_⟩
    have dm := Int.emod_add_mul_ediv (get0 l w + x) p
    unfold raw at hk ⊢
    rw [e, hk, List.map_append, List.sum_append]
    simp only [List.map_cons, List.map_nil, List.sum_cons, List.sum_nil, Int.add_zero]
    generalize (pr.map fun q => q.2 * at_ fl q.1).sum = R
    have e2 : (get0 l w + x) % p - get0 l w = x - p * ((get0 l w + x) / p) := by omega
    rw [e2, Int.sub_mul, Int.sub_mul, Int.mul_comm p, Int.mul_assoc, Int.mul_assoc, Int.mul_comm p]
    generalize (get0 l w + x) / p * (at_ fl w * p) = Z
    omega
theorem look_get {l : List (Int × Int)} {w : Int} (h : w ∈ l.map (·.1)) : look l w = some (get0 l w) := by
  obtain ⟨x, h1, _⟩ := look_some h
  simp [get0, h1]
/-- what _law_sum makes of the dict -/
def outP (l : List (Int × Int)) : List (Int × Int) := ((sortI (l.map (·.1))).filter fun w => decide (0 < get0 l w)).map fun w => (w, get0 l w)
theorem outP_sum {p : Int} {l pr : List (Int × Int)} (h : DInv p l pr) (fl : List Int) : raw (outP l) fl = raw l fl := by
  have e1 : ∀ ks : List Int, (∀ w ∈ ks, 0 ≤ get0 l w) → raw ((ks.filter fun w => decide (0 < get0 l w)).map fun w => (w, get0 l w)) fl = (ks.map fun w => get0 l w * at_ fl w).sum := by
    intro ks
    induction ks with
    | nil => intro _; rfl
    | cons w ks ih =>
      intro hk
      have ih := ih fun w' hw => hk w' (List.mem_cons_of_mem _ hw)
      have h0 := hk w List.mem_cons_self
      by_cases hw : 0 < get0 l w
      · rw [List.filter_cons_of_pos (by simpa using hw)]
        simp only [raw, List.map_cons, List.sum_cons] at ih ⊢
        rw [ih]
      · rw [List.filter_cons_of_neg (by simpa using hw), ih]
        have : get0 l w = 0 := by omega
        simp [this]
  have e2 : (l.map fun q => get0 l q.1 * at_ fl q.1) = l.map fun q => q.2 * at_ fl q.1 := by
    apply List.map_congr_left
    intro q hq
    simp [get0, look_mem h.nd hq]
  unfold outP
  rw [e1 _ fun w hw => ?_]
  · have pm : ((sortI (l.map (·.1))).map fun w => get0 l w * at_ fl w).Perm ((l.map (·.1)).map fun w => get0 l w * at_ fl w) := (sort_perm _).map _
    rw [perm_sum pm, List.map_map]
    unfold raw
    rw [← e2]
    rfl
  · have hw := (sort_perm _).mem_iff.mp hw
    obtain ⟨x, q1, q2⟩ := look_some hw
    have := h.low _ q2
    simp [get0, q1]
    exact this.1
theorem outP_ok {p : Int} {l pr : List (Int × Int)} (h : DInv p l pr) : (∀ q ∈ outP l, q.1 ∈ pr.map (·.1) ∧ 0 < q.2 ∧ q.2 < p) ∧ (outP l).Pairwise (fun q r => q.1 < r.1) ∧ (outP l).length ≤ pr.length := by
  refine ⟨fun q hq => ?_, ?_, ?_⟩
  · obtain ⟨w, hw, e⟩ := List.mem_map.mp hq
    subst e
    have h1 := List.mem_filter.mp hw
    have h2 := (sort_perm _).mem_iff.mp h1.1
    obtain ⟨x, q1, q2⟩ := look_some h2
    have := h.low _ q2
    refine ⟨h.keys w h2, of_decide_eq_true h1.2, ?_⟩
    simp [get0, q1]
    exact this.2
  · unfold outP
    rw [List.pairwise_map]
    exact ((sort_strict h.nd).filter _)
  · unfold outP
    rw [List.length_map]
    refine Nat.le_trans (List.length_filter_le _ _) ?_
    rw [(sort_perm _).length_eq, List.length_map]
    exact h.len
theorem t_lsum {n : Nat} {p c : Int} {ps : List (Int × Int)} {M : Store} (h : 1 ≤ n) (hp : 0 < p) (hl : ps.length < 64) : ∃ ps', cN n 25 [.int p, .int c, .tup (ps.map partD)] M = .ok (sumD (c % p) ps') M ∧
    (∀ q ∈ ps', q.1 ∈ ps.map (·.1) ∧ 0 < q.2 ∧ q.2 < p) ∧ ps'.Pairwise (fun q r => q.1 < r.1) ∧ ps'.length ≤ ps.length ∧ ∀ fl, ∃ k, raw ps' fl = raw ps fl + k * p := by
  obtain ⟨n, rfl⟩ : ∃ m, n = m + 1 := ⟨n - 1, by omega⟩
  let cf : Cf := ⟨callN tab 200 n, 200⟩
  obtain ⟨ρ', M', h1, h2⟩ := loopF_inv (J := fun i ρ M' => M' = M ∧ ∃ l x y, ρ = [.val (.int p), .val (.int c), .val (.tup (ps.map partD)), .own (dicD l), x, y] ∧ DInv p l (ps.take i))
    (f := fun d ρ' M' => match bindT (.t [(.n 4), (.n 5)]) d ρ' with | some ρ2 => evB cf [.oset 3 (.v 4) (.pr .mod [(.pr .add [(.pr .get2 [.ov 3, (.v 4), (.c (.int 0))]), (.v 5)]), (.v 0)])] ρ2 M' | none => .no)
    (ps.map partD) 0 [.val (.int p), .val (.int c), .val (.tup (ps.map partD)), .own (.dic [] []), .no, .no] M
    ⟨rfl, [], .no, .no, rfl, List.nodup_nil, (fun _ z => by cases z), (fun _ z => by cases z), Nat.zero_le _, fun fl => ⟨0, by simp [raw]⟩⟩ fun k d ρ M1 hk ⟨hM, l, x, y, hρ, hi⟩ => by
      subst hM hρ
      rw [Nat.zero_add] at hi ⊢
      rw [List.getElem?_map] at hk
      cases hq : ps[k]? with
      | none => rw [hq] at hk; cases hk
      | some q =>
        rw [hq] at hk
        cases hk
        have hlt := (List.getElem?_eq_some_iff.mp hq).1
        have hll : l.length < LN := by
          have := hi.len
          rw [List.length_take] at this
          show l.length < 16777216
          omega
        refine ⟨[.val (.int p), .val (.int c), .val (.tup (ps.map partD)), .own (dicD (putL l q.1 ((get0 l q.1 + q.2) % p))), .val (.int q.1), .val (.int q.2)], M1, .inl ?_, rfl, _, _, _, rfl, ?_⟩
        · have hb : bindT (.t [(.n 4), (.n 5)]) (partD q) [.val (.int p), .val (.int c), .val (.tup (ps.map partD)), .own (dicD l), x, y] = some [.val (.int p), .val (.int c), .val (.tup (ps.map partD)), .own (dicD l), .val (.int q.1), .val (.int q.2)] := rfl
          simp only [hb]
          have hpt := put_dic (l := l) (w := q.1) (x := ((look l q.1).getD 0 + q.2) % p) hll
          simp [hp, hpt, get0]
        · have e : ps.take (k + 1) = ps.take k ++ [q] := by rw [List.take_add_one, hq]; rfl
          rw [e]
          exact dinv_put hp hi
  obtain ⟨rfl, l, x, y, rfl, hi⟩ := h2
  rw [Nat.zero_add, List.length_map, List.take_length] at hi
  obtain ⟨o1, o2, o3⟩ := outP_ok hi
  refine ⟨outP l, ?_, o1, o2, o3, fun fl => by rw [outP_sum hi]; exact hi.sum fl⟩
  have hll : (sortI (l.map (·.1))).length ≤ LN := by
    have := hi.len
    rw [(sort_perm _).length_eq, List.length_map]
    show l.length ≤ 16777216
    omega
  have hc : ∀ x y, evE cf (.comp (.pr .tup [(.v 4), (.pr .dg [.ov 3, (.v 4)])]) (.n 4) .seq [(.pr .sortK [.ov 3])] [(.pr .gt [(.pr .dg [.ov 3, (.v 4)]), (.c (.int 0))])] [4]) [.val (.int p), .val (.int c), .val (.tup (ps.map partD)), .own (dicD l), x, y] M' = .ok (.lst ((outP l).map partD)) M' := fun x y => by
    have := comp_if (cf := cf) (elt := .pr .tup [(.v 4), (.pr .dg [.ov 3, (.v 4)])]) (t := .n 4) (k := .seq) (its := [(.pr .sortK [.ov 3])]) (own := [4]) (ρ := [.val (.int p), .val (.int c), .val (.tup (ps.map partD)), .own (dicD l), x, y]) (M := M') (M1 := M') (ds := [.lst ((sortI (l.map (·.1))).map .int)])
      (c := .pr .gt [(.pr .dg [.ov 3, (.v 4)]), (.c (.int 0))]) (sortI (l.map (·.1))) D.int (fun w => partD (w, get0 l w)) (fun w => decide (0 < get0 l w)) (by
        have : l.length < 64 := by have := hi.len; omega
        simp [p_sortK this]) rfl (fun w hw => by
        have lk := look_get ((sort_perm _).mem_iff.mp hw)
        refine ⟨[.val (.int p), .val (.int c), .val (.tup (ps.map partD)), .own (dicD l), .val (.int w), y], rfl, ?_, fun _ => ?_⟩
        · simp [p_dg lk]
        · simp [p_dg lk, partD]) hll
    rw [this]
    unfold outP
    rw [List.map_map]
    rfl
  show callN tab 200 (n + 1) 25 _ _ = _
  rw [callN_at rfl rfl]
  show fin (evB cf b__law_sum [.val (.int p), .val (.int c), .val (.tup (ps.map partD)), .no, .no, .no] M') = _
  unfold b__law_sum
  have hf : ∀ ρ, evS cf (.for (.t [(.n 4), (.n 5)]) .seq [(.v 2)] [.oset 3 (.v 4) (.pr .mod [(.pr .add [(.pr .get2 [.ov 3, (.v 4), (.c (.int 0))]), (.v 5)]), (.v 0)])]) [.val (.int p), .val (.int c), .val (.tup (ps.map partD)), .own (.dic [] []), .no, .no] M' = ρ → ρ = .nx [.val (.int p), .val (.int c), .val (.tup (ps.map partD)), .own (dicD l), x, y] M' := fun ρ e => by
    rw [← e, st_for, ← h1]
    rfl
  simp [hf _ rfl, hc, hp, sumD]
end K51

namespace K51
open PySem hiding Env
open L2 Fx
/-! what is drawn -/
theorem to_map {α : Type} {inj : α → D} {Q : α → Prop} : ∀ {vs : List D}, (∀ v ∈ vs, ∃ a, v = inj a ∧ Q a) → ∃ l : List α, vs = l.map inj ∧ l.length = vs.length ∧ ∀ a ∈ l, Q a
  | [], _ => ⟨[], rfl, rfl, fun _ h => by cases h⟩
  | v :: vs, h => by
    obtain ⟨a, e, q⟩ := h v List.mem_cons_self
    obtain ⟨l, e1, e2, e3⟩ := to_map fun w hw => h w (List.mem_cons_of_mem _ hw)
    refine ⟨a :: l, by rw [e, e1]; rfl, by simp [e2], fun b hb => ?_⟩
    rcases List.mem_cons.mp hb with z | z
    · rw [z]; exact q
    · exact e3 b z
theorem walk_r1 {j : Int} (h : -(2 ^ 62) ≤ j ∧ j < 2 ^ 62) : walkD .range1 [.int j] = some ((List.range j.toNat).map fun (i : Nat) => .int (i : Nat)) := by
  simp only [walkD]
  rw [if_pos h]
theorem t_some {n : Nat} {l : List Int} {M : Store} (hn : 2 ≤ n) (hb : Bag M) (h0 : 0 < l.length) (h1 : l.length < 1000000) : ∃ v M', cN n 23 [.obj 0, .lst (l.map .int)] M = .ok (.int v) M' ∧ v ∈ l ∧ Bag M' := by
  obtain ⟨n, rfl⟩ : ∃ m, n = m + 1 := ⟨n - 1, by omega⟩
  obtain ⟨i, M', h, i0, i1, hb'⟩ := t_take (n := n) (m := l.length) (by omega) hb (by omega) (by omega)
  have hi : i.toNat < l.length := by omega
  refine ⟨l[i.toNat], M', ?_, List.getElem_mem hi, hb'⟩
  have e : atI (l.map D.int) i = some (.int l[i.toNat]) := atI_int i0 (by rw [List.getElem?_map, List.getElem?_eq_getElem hi]; rfl)
  show callN tab 200 (n + 1) 23 _ _ = _
  rw [callN_at rfl rfl]
  simp [b__law_some, h, e]
theorem t_fill {n : Nat} {p : Int} {many : Nat} {M : Store} (hn : 2 ≤ n) (hb : Bag M) (h0 : 0 < p) (h1 : p < 1000000) (hm : many < 1000000) : ∃ fl M', cN n 24 [.obj 0, .int p, .int many] M = .ok (fillD fl) M' ∧ FillOk p many fl ∧ Bag M' := by
  obtain ⟨n, rfl⟩ : ∃ m, n = m + 1 := ⟨n - 1, by omega⟩
  obtain ⟨vs, M', q1, q2, q3, q4⟩ := comp_draw (cf := ⟨callN tab 200 n, 200⟩) (elt := .call 22 [(.v 0), (.v 1)]) (t := .n 3) (k := .range1) (its := [(.v 2)]) (own := [3]) (ρ := [.val (.obj 0), .val (.int p), .val (.int many), .no]) (M := M) (M1 := M) (ds := [.int many]) (I := Bag)
    (P := fun v => ∃ i, v = .int i ∧ 0 ≤ i ∧ i < p) (by simp) hb (walk_r1 (by omega)) (fun d hd => by
      refine ⟨[.val (.obj 0), .val (.int p), .val (.int many), .val d], rfl, fun M hM => ?_⟩
      obtain ⟨v, M', h, v0, v1, hb'⟩ := t_take (n := n) (m := p) (by omega) hM h0 h1
      exact ⟨.int v, M', by simp [h], ⟨v, rfl, v0, v1⟩, hb'⟩) (by rw [List.length_map, List.length_range]; show _ ≤ 16777216; omega)
  obtain ⟨fl, e1, e2, e3⟩ := to_map q3
  refine ⟨fl, M', ?_, ⟨by rw [e2, q2]; simp, fun x hx => (e3 x hx).1, fun x hx => (e3 x hx).2⟩, q4⟩
  show callN tab 200 (n + 1) 24 _ _ = _
  rw [callN_at rfl rfl]
  simp [b__law_some_filling, q1, e1, fillD]
theorem sumOk_of {p c : Int} {many : Nat} {ps ps' : List (Int × Int)} (hp : 0 < p) (h : ∀ q ∈ ps, 0 ≤ q.1 ∧ q.1 < many) (h1 : ∀ q ∈ ps', q.1 ∈ ps.map (·.1) ∧ 0 < q.2 ∧ q.2 < p) (h2 : ps'.Pairwise (fun q r => q.1 < r.1)) : SumOk p many (c % p) ps' :=
  ⟨Int.emod_nonneg _ (by omega), Int.emod_lt_of_pos _ hp, fun q hq => by
    obtain ⟨r, hr, e⟩ := List.mem_map.mp (h1 q hq).1
    rw [← e]; exact h r hr, fun q hq => (h1 q hq).2, h2⟩
theorem t_somesum {n : Nat} {p : Int} {many : Nat} {M : Store} (hn : 3 ≤ n) (hb : Bag M) (h0 : 0 < p) (h1 : p < 1000000) (hm : many < 1000000) : ∃ c ps M', cN n 26 [.obj 0, .int p, .int many] M = .ok (sumD c ps) M' ∧ SumOk p many c ps ∧ ps.length < 4 ∧ Bag M' := by
  obtain ⟨n, rfl⟩ : ∃ m, n = m + 1 := ⟨n - 1, by omega⟩
  -- the parts
  have parts : ∃ (ps : List (Int × Int)) (M1 : Store), evE ⟨callN tab 200 n, 200⟩ (.ite (.pr .gt [(.v 2), (.c (.int 0))]) (.comp (.pr .tup [(.call 22 [(.v 0), (.v 2)]), (.call 22 [(.v 0), (.v 1)])]) (.n 4) .range1 [(.call 22 [(.v 0), (.c (.int 4))])] [] [4]) (.pr .lst [])) [.val (.obj 0), .val (.int p), .val (.int many), .no, .no] M = .ok (.lst (ps.map partD)) M1 ∧
      (∀ q ∈ ps, 0 ≤ q.1 ∧ q.1 < many) ∧ ps.length < 4 ∧ Bag M1 := by
    by_cases hz : 0 < many
    · obtain ⟨t, M0, ht, t0, t1, hb0⟩ := t_take (n := n) (m := 4) (by omega) hb (by decide) (by decide)
      obtain ⟨vs, M', q1, q2, q3, q4⟩ := comp_draw (cf := ⟨callN tab 200 n, 200⟩) (elt := .pr .tup [(.call 22 [(.v 0), (.v 2)]), (.call 22 [(.v 0), (.v 1)])]) (t := .n 4) (k := .range1) (its := [(.call 22 [(.v 0), (.c (.int 4))])]) (own := [4]) (ρ := [.val (.obj 0), .val (.int p), .val (.int many), .no, .no]) (M := M) (M1 := M0) (ds := [.int t]) (I := Bag)
        (P := fun v => ∃ q : Int × Int, v = partD q ∧ 0 ≤ q.1 ∧ q.1 < many) (by simp [ht]) hb0 (walk_r1 (by omega)) (fun d hd => by
          refine ⟨[.val (.obj 0), .val (.int p), .val (.int many), .no, .val d], rfl, fun M hM => ?_⟩
          obtain ⟨v, M', h, v0, v1, hb'⟩ := t_take (n := n) (m := many) (by omega) hM (by omega) (by omega)
          obtain ⟨w, M'', h', w0, w1, hb''⟩ := t_take (n := n) (m := p) (by omega) hb' h0 h1
          exact ⟨partD (v, w), M'', by simp [h, h', partD], ⟨(v, w), rfl, v0, v1⟩, hb''⟩) (by rw [List.length_map, List.length_range]; show _ ≤ 16777216; omega)
      obtain ⟨ps, e1, e2, e3⟩ := to_map q3
      have : ps.length < 4 := by rw [e2, q2]; simp; omega
      exact ⟨ps, M', by simp [hz, q1, e1], e3, this, q4⟩
    · exact ⟨[], M, by simp [hz], (fun _ h => by cases h), by decide, hb⟩
  obtain ⟨ps, M1, hp, hps, hlen, hb1⟩ := parts
  obtain ⟨u, M2, hu, u0, u1, hb2⟩ := t_take (n := n) (m := 2) (by omega) hb1 (by decide) (by decide)
  have cst : ∃ c M3, evE ⟨callN tab 200 n, 200⟩ (.ite (.pr .eq [(.call 22 [(.v 0), (.c (.int 2))]), (.c (.int 0))]) (.call 22 [(.v 0), (.v 1)]) (.c (.int 0))) [.val (.obj 0), .val (.int p), .val (.int many), .val (.lst (ps.map partD)), .no] M1 = .ok (.int c) M3 ∧ Bag M3 := by
    by_cases hu0 : u = 0
    · obtain ⟨c, M3, hc, _, _, hb3⟩ := t_take (n := n) (m := p) (by omega) hb2 h0 h1
      exact ⟨c, M3, by simp [hu, hu0, hc], hb3⟩
    · exact ⟨0, M2, by simp [hu, hu0], hb2⟩
  obtain ⟨c, M3, hc, hb3⟩ := cst
  obtain ⟨ps', hs, o1, o2, o3, o4⟩ := t_lsum (n := n) (c := c) (M := M3) (by omega) h0 (ps := ps) (by omega)
  refine ⟨c % p, ps', M3, ?_, sumOk_of h0 hps o1 o2, by omega, hb3⟩
  show callN tab 200 (n + 1) 26 _ _ = _
  rw [callN_at rfl rfl]
  show fin (evB ⟨callN tab 200 n, 200⟩ b__law_some_sum [.val (.obj 0), .val (.int p), .val (.int many), .no, .no] M) = _
  unfold b__law_some_sum
  rw [sb_cons, st_asg, hp, bds_ok, bindT_n]
  show fin (evB ⟨callN tab 200 n, 200⟩ [_] [.val (.obj 0), .val (.int p), .val (.int many), .val (.lst (ps.map partD)), .no] M1) = _
  simp only [sb_cons, st_ret, ev_call, ev_cons, ev_v, List.getElem?_cons_succ, List.getElem?_cons_zero, bdl_ok, hc]
  simp [hs]
theorem t_wire {n : Nat} {w : Int} {M : Store} (hn : 1 ≤ n) : cN n 27 [.int w] M = .ok (sumD 0 [(w, 1)]) M := by
  obtain ⟨n, rfl⟩ : ∃ m, n = m + 1 := ⟨n - 1, by omega⟩
  show callN tab 200 (n + 1) 27 _ _ = _
  rw [callN_at rfl rfl]
  simp [b__law_wire, sumD, partD]
theorem raw_app (l m : List (Int × Int)) (fl : List Int) : raw (l ++ m) fl = raw l fl + raw m fl := by simp [raw]
theorem t_plus {n : Nat} {p c1 c2 o : Int} {ps1 ps2 : List (Int × Int)} {M : Store} (hn : 2 ≤ n) (hp : 0 < p) (ho : -(2 ^ 64) < o ∧ o < 2 ^ 64) (hl : ps1.length + ps2.length < 64) :
    ∃ ps', cN n 28 [.int p, sumD c1 ps1, .int o, sumD c2 ps2] M = .ok (sumD ((c1 + o * c2) % p) ps') M ∧ (∀ q ∈ ps', q.1 ∈ (ps1 ++ ps2.map fun q => (q.1, o * q.2)).map (·.1) ∧ 0 < q.2 ∧ q.2 < p) ∧ ps'.Pairwise (fun q r => q.1 < r.1) ∧ ps'.length ≤ ps1.length + ps2.length ∧
      ∀ fl, ∃ k, raw ps' fl = raw ps1 fl + raw (ps2.map fun q => (q.1, o * q.2)) fl + k * p := by
  obtain ⟨n, rfl⟩ : ∃ m, n = m + 1 := ⟨n - 1, by omega⟩
  obtain ⟨ps', hs, o1, o2, o3, o4⟩ := t_lsum (n := n) (c := c1 + o * c2) (M := M) (by omega) hp (ps := ps1 ++ ps2.map fun q => (q.1, o * q.2)) (by simp; omega)
  refine ⟨ps', ?_, o1, o2, by simpa using o3, fun fl => by
    obtain ⟨k, hk⟩ := o4 fl
    exact ⟨k, by rw [hk, raw_app]⟩⟩
  have cm : ∀ i : Int, CMul o i := fun i => .inl ho
  have hc : evE ⟨callN tab 200 n, 200⟩ (.comp (.pr .tup [(.v 4), (.pr .mul [(.v 2), (.v 5)])]) (.t [(.n 4), (.n 5)]) .seq [(.pr .ix [(.v 3), (.c (.int 1))])] [] [4, 5]) [.val (.int p), .val (sumD c1 ps1), .val (.int o), .val (sumD c2 ps2), .no, .no] M = .ok (.lst (ps2.map fun q => partD (q.1, o * q.2))) M := by
    refine comp_map (ds := [.tup (ps2.map partD)]) ps2 partD (fun q => partD (q.1, o * q.2)) (by simp) rfl (fun q hq => ?_) (by show ps2.length ≤ 16777216; omega)
    exact ⟨[.val (.int p), .val (sumD c1 ps1), .val (.int o), .val (sumD c2 ps2), .val (.int q.1), .val (.int q.2)], rfl, by simp [cm, partD]⟩
  have cat : prm .add [.tup (ps1.map partD), .tup (ps2.map fun q => partD (q.1, o * q.2))] M = .ok (.tup ((ps1 ++ ps2.map fun q => (q.1, o * q.2)).map partD)) M := by
    rw [p_catT (by rw [List.length_map, List.length_map]; show _ ≤ 16777216; omega), List.map_append, List.map_map]
    rfl
  generalize (ps1 ++ ps2.map fun q => (q.1, o * q.2)) = ps at hs cat
  show callN tab 200 (n + 1) 28 _ _ = _
  rw [callN_at rfl rfl]
  simp [b__law_plus, hc, cm, cat, hs]
end K51

namespace K51
open PySem hiding Env
open L2 Fx
/-! systems -/
structure Row where
  ca : Int
  pa : List (Int × Int)
  cb : Int
  pb : List (Int × Int)
  cc : Int
  pc : List (Int × Int)
def rowD (r : Row) : D := .tup [sumD r.ca r.pa, sumD r.cb r.pb, sumD r.cc r.pc]
structure RowOk (p : Int) (many : Nat) (r : Row) : Prop where
  a : SumOk p many r.ca r.pa
  b : SumOk p many r.cb r.pb
  c : SumOk p many r.cc r.pc
  la : r.pa.length < 4
  lb : r.pb.length < 4
  lc : r.pc.length < 4
def met (p : Int) (fl : List Int) (r : Row) : Bool := decide (val p r.ca r.pa fl * val p r.cb r.pb fl % p = val p r.cc r.pc fl)
theorem SumOk.ix {p c : Int} {many : Nat} {ps : List (Int × Int)} {fl : List Int} (h : SumOk p many c ps) (hf : fl.length = many) : ∀ q ∈ ps, 0 ≤ q.1 ∧ q.1 < fl.length := fun q hq => by
  have := h.wire q hq
  omega
theorem SumOk.nums {p c : Int} {many : Nat} {ps : List (Int × Int)} (h : SumOk p many c ps) (hp : p < 1000000) : ∀ q ∈ ps, -(2 ^ 64) < q.2 ∧ q.2 < 2 ^ 64 := fun q hq => by
  have := h.num q hq
  omega
theorem val_low {p c : Int} {ps : List (Int × Int)} {fl : List Int} (hp : 0 < p) : 0 ≤ val p c ps fl ∧ val p c ps fl < p := ⟨Int.emod_nonneg _ (by omega), Int.emod_lt_of_pos _ hp⟩
theorem tv {n : Nat} {p c : Int} {many : Nat} {ps : List (Int × Int)} {fl : List Int} {M : Store} (h : 1 ≤ n) (hp : 0 < p) (hp2 : p < 1000000) (ok : SumOk p many c ps) (hl : ps.length < 4) (hf : fl.length = many) :
    callN tab 200 n 29 [.int p, sumD c ps, fillD fl] M = .ok (.int (val p c ps fl)) M := t_value h hp (ok.ix hf) (ok.nums hp2) (by show ps.length ≤ 16777216; omega)
theorem sumD0 (c : Int) : sumD c [] = .tup [.int c, .tup []] := rfl
section
variable {n : Nat} {p : Int} {many : Nat} {fl : List Int} {M : Store} {x3 x4 x5 x6 x8 x9 x13 x14 : Sl} {ca cb cc : Int} {pa pb pc : List (Int × Int)}
abbrev envS (p : Int) (many : Nat) (fl : List Int) (x3 x4 x5 x6 x8 x9 : Sl) (a b c : D) (x13 x14 : Sl) : Env :=
  [.val (.obj 0), .val (.int p), .val (.int many), x3, x4, x5, x6, .val (fillD fl), x8, x9, .val a, .val b, .val c, x13, x14]
/-- a row whose first side is one wire, now and then -/
theorem s_bend (hn : 4 ≤ n) (h0 : 2 < p) (h1 : p < 1000000) (hm : many < 1000000) (hf : fl.length = many) (hb : Bag M) (oa : SumOk p many ca pa) (ob : SumOk p many cb pb) (la : pa.length < 4) (lb : pb.length < 4) (c : D) :
    ∃ ca' pa' cb' pb' x13' M', evS ⟨callN tab 200 n, 200⟩ (.ite (.and (.pr .eq [(.call 22 [(.v 0), (.c (.int 3))]), (.c (.int 0))]) (.pr .gt [(.v 2), (.c (.int 0))])) [.asg (.n 13) (.call 27 [(.call 22 [(.v 0), (.v 2)])]),
        .par [10, 11] [.e (.v 13), .e (.call 28 [(.v 1), (.v 13), (.pr .neg [(.c (.int 1))]), (.pr .tup [(.pr .ix [(.v 7), (.pr .ix [(.pr .ix [(.pr .ix [(.v 13), (.c (.int 1))]), (.c (.int 0))]), (.c (.int 0))])]), (.pr .tup [])])])]] [])
      (envS p many fl x3 x4 x5 x6 x8 x9 (sumD ca pa) (sumD cb pb) c x13 x14) M = .nx (envS p many fl x3 x4 x5 x6 x8 x9 (sumD ca' pa') (sumD cb' pb') c x13' x14) M' ∧ SumOk p many ca' pa' ∧ SumOk p many cb' pb' ∧ pa'.length < 4 ∧ pb'.length < 4 ∧ Bag M' := by
  obtain ⟨u, M1, hu, u0, u1, hb1⟩ := t_take (n := n) (m := 3) (by omega) hb (by decide) (by decide)
  by_cases hz : u = 0
  · by_cases hmz : 0 < many
    · obtain ⟨w, M2, hw, w0, w1, hb2⟩ := t_take (n := n) (m := many) (by omega) hb1 (by omega) (by omega)
      obtain ⟨ps', hs, o1, o2, o3, o4⟩ := t_plus (n := n) (p := p) (c1 := 0) (c2 := at_ fl w) (o := -1) (ps1 := [(w, 1)]) (ps2 := []) (M := M2) (by omega) (by omega) (by decide) (by simp)
      have fx : prm .ix [fillD fl, .int w] M2 = .ok (.int (at_ fl w)) M2 := fill_ix w0 (by omega)
      have ws : ∀ q ∈ [(w, (1 : Int))], 0 ≤ q.1 ∧ q.1 < many := fun q hq => by
        simp at hq; subst hq; exact ⟨w0, w1⟩
      have sw : SumOk p many 0 [(w, 1)] := ⟨Int.le_refl _, by omega, ws, fun q hq => by
        simp at hq; subst hq
        show (0 : Int) < 1 ∧ (1 : Int) < p
        omega, List.pairwise_singleton _ _⟩
      have hwi := t_wire (n := n) (w := w) (M := M2) (by omega)
      refine ⟨0, [(w, 1)], (0 + -1 * at_ fl w) % p, ps', .val (sumD 0 [(w, 1)]), M2, ?_, sw, sumOk_of (by omega) ws o1 o2, by simp, by simp at o3; omega, hb2⟩
      rw [sumD0] at hs
      simp [hu, hz, hmz, hw, hwi, fx, hs]
    · refine ⟨ca, pa, cb, pb, x13, M1, ?_, oa, ob, la, lb, hb1⟩
      simp [hu, hz, hmz]
  · refine ⟨ca, pa, cb, pb, x13, M1, ?_, oa, ob, la, lb, hb1⟩
    simp [hu, hz]
theorem s_row {rows : List D} (hn : 4 ≤ n) (h0 : 2 < p) (h1 : p < 1000000) (hf : fl.length = many) (oa : SumOk p many ca pa) (ob : SumOk p many cb pb) (oc : SumOk p many cc pc) (la : pa.length < 4) (lb : pb.length < 4) (lc : pc.length < 4) (hr : rows.length < LN) :
    ∃ (r : Row) (x : Sl), RowOk p many r ∧ met p fl r = true ∧ evB ⟨callN tab 200 n, 200⟩ [.asg (.n 9) (.pr .sub [(.pr .mul [(.call 29 [(.v 1), (.v 10), (.v 7)]), (.call 29 [(.v 1), (.v 11), (.v 7)])]), (.call 29 [(.v 1), (.v 12), (.v 7)])]),
      .app 8 (.pr .tup [(.v 10), (.v 11), (.call 28 [(.v 1), (.v 12), (.c (.int 1)), (.pr .tup [(.pr .mod [(.v 9), (.v 1)]), (.pr .tup [])])])])]
      (envS p many fl x3 x4 x5 x6 (.own (.lst rows)) x9 (sumD ca pa) (sumD cb pb) (sumD cc pc) x13 x14) M = .nx (envS p many fl x3 x4 x5 x6 (.own (.lst (rows ++ [rowD r]))) x (sumD ca pa) (sumD cb pb) (sumD cc pc) x13 x14) M := by
  have hp : 0 < p := by omega
  have va := tv (n := n) (fl := fl) (M := M) (by omega) hp h1 oa la hf
  have vb := tv (n := n) (fl := fl) (M := M) (by omega) hp h1 ob lb hf
  have vc := tv (n := n) (fl := fl) (M := M) (by omega) hp h1 oc lc hf
  have a1 := val_low (c := ca) (ps := pa) (fl := fl) hp
  have b1 := val_low (c := cb) (ps := pb) (fl := fl) hp
  have cm : CMul (val p ca pa fl) (val p cb pb fl) := mul_l (by omega) (by omega)
  obtain ⟨ps', hs, o1, o2, o3, o4⟩ := t_plus (n := n) (p := p) (c1 := cc) (c2 := (val p ca pa fl * val p cb pb fl - val p cc pc fl) % p) (o := 1) (ps1 := pc) (ps2 := []) (M := M) (by omega) hp (by decide) (by simp; omega)
  refine ⟨⟨ca, pa, cb, pb, (cc + 1 * ((val p ca pa fl * val p cb pb fl - val p cc pc fl) % p)) % p, ps'⟩, .val (.int (val p ca pa fl * val p cb pb fl - val p cc pc fl)), ⟨oa, ob, sumOk_of hp (ps := pc) oc.wire (by simpa using o1) o2, la, lb, (by simp at o3; show ps'.length < 4; omega)⟩, ?_, ?_⟩
  · unfold met
    apply decide_eq_true
    obtain ⟨k, hk⟩ := o4 fl
    show _ = val p _ ps' fl
    unfold val at *
    rw [hk]
    simp only [List.map_nil]
    have e0 : raw [] fl = 0 := rfl
    rw [e0]
    generalize (ca + raw pa fl) % p * ((cb + raw pb fl) % p) = X
    generalize raw pc fl = R
    rw [Int.one_mul, Int.emod_add_emod, Int.add_zero]
    have e : cc + (X - (cc + R) % p) % p + (R + k * p) = (X - (cc + R) % p) % p + (cc + R) + k * p := by omega
    rw [e, Int.add_mul_emod_self_right, Int.emod_add_emod]
    have dm := Int.emod_add_mul_ediv (cc + R) p
    have e2 : X - (cc + R) % p + (cc + R) = X + p * ((cc + R) / p) := by omega
    rw [e2, Int.add_mul_emod_self_left]
  · rw [sumD0] at hs
    simp [va, vb, vc, cm, hp, hs, hr, rowD]
end
def sysD (p : Int) (many : Nat) (ins told : List Int) (rows : List Row) : D := .tup [.int p, .int many, fillD ins, fillD told, .tup (rows.map rowD)]
structure SysOk (p : Int) (many : Nat) (ins told : List Int) (rows : List Row) : Prop where
  few : rows.length ≤ 8
  tf : told.length < 3
  inf : ins.length ≤ many
  asc : ins.Pairwise (· < ·)
  hi : ∀ i ∈ ins, 0 ≤ i ∧ i < many
  ht : ∀ i ∈ told, 0 ≤ i ∧ i < many
  hr : ∀ r ∈ rows, RowOk p many r
theorem range_asc (m : Nat) : ((List.range m).map fun (i : Nat) => (i : Int)).Pairwise (· < ·) := by
  rw [List.pairwise_map]
  exact List.pairwise_lt_range.imp fun h => by omega
theorem t_system {n : Nat} {p : Int} {many : Nat} {M : Store} (hn : 6 ≤ n) (h0 : 2 < p) (h1 : p < 1000000) (hm : many < 1000000) (hb : Bag M) :
    ∃ ins told rows fl M', cN n 30 [.obj 0, .int p, .int many, .int 8] M = .ok (.tup [sysD p many ins told rows, fillD fl]) M' ∧ FillOk p many fl ∧ SysOk p many ins told rows ∧ (∀ r ∈ rows, met p fl r = true) ∧ Bag M' := by
  obtain ⟨n, rfl⟩ : ∃ m, n = m + 1 := ⟨n - 1, by omega⟩
  let cf : Cf := ⟨callN tab 200 n, 200⟩
  obtain ⟨fl, M1, hfl, fo, hb1⟩ := t_fill (n := n) (p := p) (many := many) (by omega) hb (by omega) h1 hm
  obtain ⟨tt, M2, ht, t0, t1, hb2⟩ := t_take (n := n) (m := 9) (by omega) hb1 (by decide) (by decide)
  -- the rows
  let E : List Row → Sl → Sl → Sl → Sl → Sl → Sl → Sl → Env := fun rows x4 x9 x10 x11 x12 x13 x14 => [.val (.obj 0), .val (.int p), .val (.int many), .val (.int 8), x4, .no, .no, .val (fillD fl), .own (.lst (rows.map rowD)), x9, x10, x11, x12, x13, x14]
  let body : List S := (match b__law_system.getD 1 .pass with | .for _ _ _ b => b | _ => [])
  obtain ⟨ρ3, M3, h3, rows, y4, y9, y10, y11, y12, y13, y14, hρ, ro, rm, rl, hb3⟩ := loopF_inv (J := fun i ρ M' => ∃ rows x4 x9 x10 x11 x12 x13 x14, ρ = E rows x4 x9 x10 x11 x12 x13 x14 ∧ (∀ r ∈ rows, RowOk p many r) ∧ (∀ r ∈ rows, met p fl r = true) ∧ rows.length = i ∧ Bag M')
    (f := fun d ρ' M' => match bindT (.n 4) d ρ' with | some ρ2 => evB cf body ρ2 M' | none => .no)
    ((List.range tt.toNat).map fun (i : Nat) => D.int (i : Nat)) 0 (E [] .no .no .no .no .no .no .no) M2
    ⟨[], _, _, _, _, _, _, _, rfl, (fun _ h => by cases h), (fun _ h => by cases h), rfl, hb2⟩ fun k d ρ M hk ⟨rows, x4, x9, x10, x11, x12, x13, x14, hρ, ro, rm, rl, hb⟩ => by
      subst hρ
      have klt : k < tt.toNat := by
        have := (List.getElem?_eq_some_iff.mp hk).1
        simpa using this
      have hrl : (rows.map rowD).length < LN := by
        rw [List.length_map]
        show _ < 16777216
        omega
      obtain ⟨vs, M4, q1, q2, q3, hb4⟩ := comp_draw (cf := cf) (elt := .call 26 [(.v 0), (.v 1), (.v 2)]) (t := .n 14) (k := .range1) (its := [(.c (.int 3))]) (own := [14]) (ρ := E rows (.val d) x9 x10 x11 x12 x13 x14) (M := M) (M1 := M) (ds := [.int 3]) (I := Bag)
        (P := fun v => ∃ q : Int × List (Int × Int), v = sumD q.1 q.2 ∧ SumOk p many q.1 q.2 ∧ q.2.length < 4) (by simp) hb (walk_r1 (by decide)) (fun d' hd => by
          refine ⟨E rows (.val d) x9 x10 x11 x12 x13 (.val d'), rfl, fun M hM => ?_⟩
          obtain ⟨c, ps, M', h, ok, len, hb'⟩ := t_somesum (n := n) (p := p) (many := many) (by omega) hM (by omega) h1 hm
          exact ⟨sumD c ps, M', by simp [E, cf, h], ⟨(c, ps), rfl, ok, len⟩, hb'⟩) (by decide)
      obtain ⟨ss, e1, e2, e3⟩ := to_map q3
      have l3 : ss.length = 3 := by rw [e2, q2]; rfl
      obtain ⟨sa, sb, sc, rfl⟩ := len3 l3
      obtain ⟨oa, la⟩ := e3 sa (by simp)
      obtain ⟨ob, lb⟩ := e3 sb (by simp)
      obtain ⟨oc, lc⟩ := e3 sc (by simp)
      obtain ⟨ca', pa', cb', pb', z13, M5, hs2, oa', ob', la', lb', hb5⟩ := s_bend (n := n) (fl := fl) (x3 := .val (.int 8)) (x4 := .val d) (x5 := .no) (x6 := .no) (x8 := .own (.lst (rows.map rowD))) (x9 := x9) (x13 := x13) (x14 := x14) (by omega) h0 h1 hm fo.len hb4 oa ob la lb (sumD sc.1 sc.2)
      obtain ⟨r, z9, rok, rmet, hs3⟩ := s_row (n := n) (fl := fl) (M := M5) (x3 := .val (.int 8)) (x4 := .val d) (x5 := .no) (x6 := .no) (x9 := x9) (x13 := z13) (x14 := x14) (by omega) h0 h1 fo.len oa' ob' oc la' lb' lc hrl
      refine ⟨_, M5, .inl ?_, rows ++ [r], .val d, z9, .val (sumD ca' pa'), .val (sumD cb' pb'), .val (sumD sc.1 sc.2), z13, x14, rfl, fun r' hr' => ?_, fun r' hr' => ?_, by simp [rl], hb5⟩
      · show evB cf body (E rows (.val d) x9 x10 x11 x12 x13 x14) M = _
        have st1 : evS cf (.asg (.t [(.n 10), (.n 11), (.n 12)]) (.comp (.call 26 [(.v 0), (.v 1), (.v 2)]) (.n 14) .range1 [(.c (.int 3))] [] [14])) (E rows (.val d) x9 x10 x11 x12 x13 x14) M =
            .nx (envS p many fl (.val (.int 8)) (.val d) .no .no (.own (.lst (rows.map rowD))) x9 (sumD sa.1 sa.2) (sumD sb.1 sb.2) (sumD sc.1 sc.2) x13 x14) M4 := by
          rw [st_asg, q1, e1]
          rfl
        have bd : body = [.asg (.t [(.n 10), (.n 11), (.n 12)]) (.comp (.call 26 [(.v 0), (.v 1), (.v 2)]) (.n 14) .range1 [(.c (.int 3))] [] [14]), body.getD 1 .pass, body.getD 2 .pass, body.getD 3 .pass] := rfl
        rw [bd, evB_nx st1, evB_nx (show evS cf (body.getD 1 .pass) _ _ = _ from hs2)]
        rw [show evB cf [body.getD 2 .pass, body.getD 3 .pass] _ _ = _ from hs3]
        simp only [E, List.map_append, List.map_cons, List.map_nil]
      · rcases List.mem_append.mp hr' with z | z
        · exact ro r' z
        · simp at z; subst z; exact rok
      · rcases List.mem_append.mp hr' with z | z
        · exact rm r' z
        · simp at z; subst z; exact rmet
  subst hρ
  rw [Nat.zero_add, List.length_map, List.length_range] at rl
  -- the inputs
  obtain ⟨ys, M6, g1, g2, hb6⟩ := comp_pick (cf := cf) (elt := .v 13) (t := .n 13) (k := .range1) (its := [(.v 2)]) (own := [13]) (ρ := E rows y4 y9 y10 y11 y12 y13 y14) (M := M3) (M1 := M3) (ds := [.int many]) (I := Bag) (g := id) (c := .pr .eq [(.call 22 [(.v 0), (.c (.int 3))]), (.c (.int 0))])
    (by simp [E]) hb3 (walk_r1 (by omega)) (fun d hd => by
      refine ⟨E rows y4 y9 y10 y11 y12 (.val d) y14, rfl, fun M hM => ?_⟩
      obtain ⟨u, M', hu, _, _, hb'⟩ := t_take (n := n) (m := 3) (by omega) hM (by decide) (by decide)
      exact ⟨decide (u = 0), M', by simp [E, cf, hu], hb', by simp [E]⟩) (by rw [List.length_map, List.length_range]; show _ ≤ 16777216; omega)
  have ysI : ∃ ins : List Int, ys = ins.map .int ∧ ins.Sublist ((List.range many).map fun (i : Nat) => (i : Int)) := by
    have e : ((List.range (many : Int).toNat).map fun (i : Nat) => D.int (i : Nat)) = ((List.range many).map fun (i : Nat) => (i : Int)).map D.int := by
      rw [List.map_map, Int.toNat_natCast]
      rfl
    rw [e] at g2
    obtain ⟨l, h1, h2⟩ := List.sublist_map_iff.mp g2
    exact ⟨l, h2, h1⟩
  obtain ⟨ins, rfl, insS⟩ := ysI
  have insR : ∀ i ∈ ins, 0 ≤ i ∧ i < many := fun i hi => by
    obtain ⟨j, hj, e⟩ := List.mem_map.mp (insS.subset hi)
    have := List.mem_range.mp hj
    omega
  -- told
  have told : ∃ (td : List Int) (M7 : Store), evE cf (.ite (.pr .gt [(.v 2), (.c (.int 0))]) (.pr .tuple [(.comp (.call 22 [(.v 0), (.v 2)]) (.n 4) .range1 [(.call 22 [(.v 0), (.c (.int 3))])] [] [4])]) (.pr .tup [])) ((E rows y4 y9 y10 y11 y12 y13 y14).set 5 (.val (fillD ins))) M6 = .ok (fillD td) M7 ∧ (∀ i ∈ td, 0 ≤ i ∧ i < many) ∧ td.length < 3 ∧ Bag M7 := by
    by_cases hz : 0 < many
    · obtain ⟨t, M0, ht, t0, t1, hb0⟩ := t_take (n := n) (m := 3) (by omega) hb6 (by decide) (by decide)
      obtain ⟨vs, M', q1, q2, q3, q4⟩ := comp_draw (cf := cf) (elt := .call 22 [(.v 0), (.v 2)]) (t := .n 4) (k := .range1) (its := [(.call 22 [(.v 0), (.c (.int 3))])]) (own := [4]) (ρ := (E rows y4 y9 y10 y11 y12 y13 y14).set 5 (.val (fillD ins))) (M := M6) (M1 := M0) (ds := [.int t]) (I := Bag)
        (P := fun v => ∃ i : Int, v = .int i ∧ 0 ≤ i ∧ i < many) (by simp [E, cf, ht]) hb0 (walk_r1 (by omega)) (fun d hd => by
          refine ⟨((E rows (.val d) y9 y10 y11 y12 y13 y14).set 5 (.val (fillD ins))), rfl, fun M hM => ?_⟩
          obtain ⟨v, M', h, v0, v1, hb'⟩ := t_take (n := n) (m := many) (by omega) hM (by omega) (by omega)
          exact ⟨.int v, M', by simp [E, cf, h], ⟨v, rfl, v0, v1⟩, hb'⟩) (by rw [List.length_map, List.length_range]; show _ ≤ 16777216; omega)
      obtain ⟨td, e1, e2, e3⟩ := to_map q3
      have : td.length < 3 := by rw [e2, q2]; simp; omega
      refine ⟨td, M', ?_, e3, this, q4⟩
      have hc : evE cf (.pr .gt [(.v 2), (.c (.int 0))]) ((E rows y4 y9 y10 y11 y12 y13 y14).set 5 (.val (fillD ins))) M6 = .ok (.bl true) M6 := by simp [E, hz]
      rw [ev_ite, hc, bd_ok]
      simp only
      rw [ev_pr, ev_cons, q1, e1]
      simp [fillD]
    · refine ⟨[], M6, ?_, (fun _ h => by cases h), by decide, hb6⟩
      simp [E, hz, fillD]
  obtain ⟨td, M7, htd, tdR, tdl, hb7⟩ := told
  refine ⟨ins, td, rows, fl, M7, ?_, fo, ⟨by omega, tdl, by have := insS.length_le; simpa using this, (range_asc many).sublist insS, insR, tdR, ro⟩, rm, hb7⟩
  show callN tab 200 (n + 1) 30 _ _ = _
  rw [callN_at rfl rfl]
  show fin (evB cf b__law_system [.val (.obj 0), .val (.int p), .val (.int many), .val (.int 8), .no, .no, .no, .no, .no, .no, .no, .no, .no, .no, .no] M) = _
  have f0 : evS cf (b__law_system.getD 0 .pass) [.val (.obj 0), .val (.int p), .val (.int many), .val (.int 8), .no, .no, .no, .no, .no, .no, .no, .no, .no, .no, .no] M = .nx (E [] .no .no .no .no .no .no .no) M1 := by
    simp [b__law_system, cf, hfl, E]
  have f1 : evS cf (b__law_system.getD 1 .pass) (E [] .no .no .no .no .no .no .no) M1 = .nx (E rows y4 y9 y10 y11 y12 y13 y14) M3 := by
    rw [show b__law_system.getD 1 .pass = .for (.n 4) .range1 [(.call 22 [(.v 0), (.pr .add [(.v 3), (.c (.int 1))])])] body from rfl, st_for]
    have e : evL cf [(.call 22 [(.v 0), (.pr .add [(.v 3), (.c (.int 1))])])] (E [] .no .no .no .no .no .no .no) M1 = .ok [.int tt] M2 := by simp [E, cf, ht]
    rw [e, lbds_ok, walk_r1 (by omega)]
    exact h3
  have f2 : evS cf (b__law_system.getD 2 .pass) (E rows y4 y9 y10 y11 y12 y13 y14) M3 = .nx ((E rows y4 y9 y10 y11 y12 y13 y14).set 5 (.val (fillD ins))) M6 := by
    rw [show b__law_system.getD 2 .pass = .asg (.n 5) (.pr .tuple [(.comp (.v 13) (.n 13) .range1 [(.v 2)] [(.pr .eq [(.call 22 [(.v 0), (.c (.int 3))]), (.c (.int 0))])] [13])]) from rfl, st_asg, ev_pr, ev_cons, g1]
    simp [fillD]
  have f3 : evS cf (b__law_system.getD 3 .pass) ((E rows y4 y9 y10 y11 y12 y13 y14).set 5 (.val (fillD ins))) M6 = .nx (((E rows y4 y9 y10 y11 y12 y13 y14).set 5 (.val (fillD ins))).set 6 (.val (fillD td))) M7 := by
    rw [show b__law_system.getD 3 .pass = .asg (.n 6) _ from rfl, st_asg, htd]
    rfl
  have bd : b__law_system = [b__law_system.getD 0 .pass, b__law_system.getD 1 .pass, b__law_system.getD 2 .pass, b__law_system.getD 3 .pass, b__law_system.getD 4 .pass] := rfl
  rw [bd, evB_nx f0, evB_nx f1, evB_nx f2, evB_nx f3]
  simp [b__law_system, E, sysD]
end K51

namespace K51
open PySem hiding Env
open L2 Fx
/-! the checks of the program -/
theorem up {n d : Nat} (h : d + 1 ≤ n) : ∃ m, n = m + 1 ∧ d ≤ m := ⟨n - 1, by omega, by omega⟩
theorem t_sizedT {n : Nat} {l : List D} {m : Int} {M : Store} (h : 1 ≤ n) : cN n 2 [.tup l, .int m] M = .ok (.bl (decide ((l.length : Int) = m))) M := by
  obtain ⟨n, rfl, h⟩ := up h
  show callN tab 200 (n + 1) 2 _ _ = _
  rw [callN_at rfl rfl]
  simp [b_is_sized, prm, pIsi, isTy, pEq, eqD_int, pLen]
def noTup : D → Bool | .tup _ => false | .dic _ _ => false | .obj _ => false | .fn _ => false | _ => true
theorem t_sizedN {n : Nat} {d e : D} {M : Store} (h : 1 ≤ n) (hd : noTup d = true) : cN n 2 [d, e] M = .ok (.bl false) M := by
  obtain ⟨n, rfl, h⟩ := up h
  show callN tab 200 (n + 1) 2 _ _ = _
  rw [callN_at rfl rfl]
  cases d <;> first | (cases hd; done) | simp [b_is_sized, prm, pIsi, isTy, RE.ofO]
theorem t_tupOf {α : Type} {n k : Nat} {l : List α} {inj : α → D} {q : α → Bool} {M : Store} (h : 1 ≤ n) (hk : ∀ a ∈ l, callN tab 200 (n - 1) k [inj a] M = .ok (.bl (q a)) M) (hl : l.length ≤ LN) : cN n 3 [.tup (l.map inj), .fn k] M = .ok (.bl (l.all q)) M := by
  obtain ⟨n, rfl, h⟩ := up h
  have hc : evE ⟨callN tab 200 n, 200⟩ (.comp (.callV 1 [(.v 2)]) (.n 2) .seq [(.v 0)] [] [2]) [.val (.tup (l.map inj)), .val (.fn k), .no] M = .ok (.lst (l.map fun a => D.bl (q a))) M := by
    refine comp_map (ds := [.tup (l.map inj)]) l inj (fun a => D.bl (q a)) (by simp) rfl (fun a ha => ?_) hl
    exact ⟨[.val (.tup (l.map inj)), .val (.fn k), .val (inj a)], rfl, by simpa using hk a ha⟩
  show callN tab 200 (n + 1) 3 _ _ = _
  rw [callN_at rfl rfl]
  have e : prm (.isi .tuple) [.tup (l.map inj)] M = .ok (.bl true) M := rfl
  simp [b_is_tuple_of, hc, p_all, e]
def primes : List Int := [3, 5, 7, 13, 31, 251, 9973]
theorem t_prime {n : Nat} {p : Int} {M : Store} (h : 2 ≤ n) (hp : p ∈ primes) : cN n 4 [.int p] M = .ok (.bl true) M := by
  obtain ⟨n, rfl⟩ : ∃ m, n = m + 2 := ⟨n - 2, by omega⟩
  simp only [primes, List.mem_cons, List.not_mem_nil, or_false] at hp
  rcases hp with rfl | rfl | rfl | rfl | rfl | rfl | rfl <;> rfl
theorem t_part {n : Nat} {q : Int × Int} {M : Store} (h : 3 ≤ n) (h1 : 0 ≤ q.1) (h2 : 0 < q.2) : cN n 5 [partD q] M = .ok (.bl true) M := by
  obtain ⟨n, rfl, h⟩ := up h
  have i1 := t_index (n := n) (d := .int q.1) (M := M) (by omega) rfl
  have i2 := t_index (n := n) (d := .int q.2) (M := M) (by omega) rfl
  have sz : callN tab 200 n 2 [partD q, .int 2] M = _ := t_sizedT (n := n) (l := [.int q.1, .int q.2]) (m := 2) (M := M) (by omega)
  show callN tab 200 (n + 1) 5 _ _ = _
  rw [callN_at rfl rfl]
  have h2' : 0 ≤ q.2 := by omega
  simp [b_is_part, sz, i1, i2, isIdx, h1, h2, h2']
theorem t_sum {n : Nat} {p c : Int} {many : Nat} {ps : List (Int × Int)} {M : Store} (h : 5 ≤ n) (ok : SumOk p many c ps) (hl : ps.length < 4) : cN n 6 [sumD c ps] M = .ok (.bl true) M := by
  obtain ⟨n, rfl, h⟩ := up h
  have i1 := t_index (n := n) (d := .int c) (M := M) (by omega) rfl
  have sz : callN tab 200 n 2 [sumD c ps, .int 2] M = _ := t_sizedT (n := n) (l := [.int c, .tup (ps.map partD)]) (m := 2) (M := M) (by omega)
  have hl2 : ps.length ≤ LN := by show _ ≤ 16777216; omega
  have tp := t_tupOf (n := n) (k := 5) (l := ps) (inj := partD) (q := fun _ => true) (M := M) (by omega) (fun q hq => t_part (by omega) (ok.wire q hq).1 (ok.num q hq).1) hl2
  have hc : evE ⟨callN tab 200 n, 200⟩ (.comp (.pr .lt [(.pr .ix [(.v 1), (.c (.int 0))]), (.pr .ix [(.v 2), (.c (.int 0))])]) (.t [(.n 1), (.n 2)]) .zip [(.pr .ix [(.v 0), (.c (.int 1))]), (.pr (.sl true false) [(.pr .ix [(.v 0), (.c (.int 1))]), (.c (.int 1))])] [] [1, 2]) [.val (sumD c ps), .no, .no] M
      = .ok (.lst ((ps.zip (ps.drop 1)).map fun q => D.bl (decide (q.1.1 < q.2.1)))) M := by
    refine comp_map (ds := [.tup (ps.map partD), .tup ((ps.drop 1).map partD)]) (ps.zip (ps.drop 1)) (fun q => .tup [partD q.1, partD q.2]) (fun q => D.bl (decide (q.1.1 < q.2.1))) ?_ ?_ (fun q hq => ?_) ?_
    · have e := p_from (l := ps.map partD) (i := 1) (M := M) (by decide)
      simp at e
      simp [e]
    · simp only [walkD, zip_map]
    · exact ⟨[.val (sumD c ps), .val (partD q.1), .val (partD q.2)], rfl, by simp⟩
    · rw [List.length_zip]; show _ ≤ 16777216; omega
  have al : ((ps.zip (ps.drop 1)).all fun q => decide (q.1.1 < q.2.1)) = true := by
    rw [List.all_eq_true]
    exact fun q hq => decide_eq_true (zip_next ok.asc q hq)
  have hall : ps.all (fun _ => true) = true := by simp
  show callN tab 200 (n + 1) 6 _ _ = _
  rw [callN_at rfl rfl]
  have tp' : callN tab 200 n 3 [.tup (ps.map partD), .fn 5] M = .ok (.bl true) M := by
    rw [hall] at tp
    exact tp
  obtain ⟨L, hc, pa⟩ : ∃ L, evE ⟨callN tab 200 n, 200⟩ (.comp (.pr .lt [(.pr .ix [(.v 1), (.c (.int 0))]), (.pr .ix [(.v 2), (.c (.int 0))])]) (.t [(.n 1), (.n 2)]) .zip [(.pr .ix [(.v 0), (.c (.int 1))]), (.pr (.sl true false) [(.pr .ix [(.v 0), (.c (.int 1))]), (.c (.int 1))])] [] [1, 2]) [.val (sumD c ps), .no, .no] M = .ok (.lst L) M ∧ prm .all [.lst L] M = .ok (.bl true) M :=
    ⟨_, hc, by rw [p_all, al]⟩
  simp [b_is_sum, sz, i1, isIdx, ok.c0, tp', hc, pa]
theorem t_equation {n : Nat} {p : Int} {many : Nat} {r : Row} {M : Store} (h : 7 ≤ n) (ok : RowOk p many r) : cN n 7 [rowD r] M = .ok (.bl true) M := by
  obtain ⟨n, rfl, h⟩ := up h
  have sz : callN tab 200 n 2 [rowD r, .int 3] M = _ := t_sizedT (n := n) (l := [sumD r.ca r.pa, sumD r.cb r.pb, sumD r.cc r.pc]) (m := 3) (M := M) (by omega)
  have tp := t_tupOf (n := n) (k := 6) (l := [sumD r.ca r.pa, sumD r.cb r.pb, sumD r.cc r.pc]) (inj := id) (q := fun _ => true) (M := M) (by omega) (fun d hd => by
    simp only [List.mem_cons, List.not_mem_nil, or_false] at hd
    rcases hd with rfl | rfl | rfl
    · exact t_sum (by omega) ok.a ok.la
    · exact t_sum (by omega) ok.b ok.lb
    · exact t_sum (by omega) ok.c ok.lc) (by show 3 ≤ 16777216; decide)
  rw [List.map_id] at tp
  show callN tab 200 (n + 1) 7 _ _ = _
  rw [callN_at rfl rfl]
  have tp' : callN tab 200 n 3 [rowD r, .fn 6] M = .ok (.bl true) M := tp
  simp [b_is_equation, sz, tp']
theorem t_idxs {n : Nat} {l : List Int} {M : Store} (h : 3 ≤ n) (hl : l.length ≤ LN) : cN n 3 [fillD l, .fn 1] M = .ok (.bl (l.all fun i => decide (0 ≤ i))) M :=
  t_tupOf (k := 1) (l := l) (inj := D.int) (q := fun i => decide (0 ≤ i)) (by omega) (fun i hi => t_index (by omega) rfl) hl
section
variable {n : Nat} {p : Int} {many : Nat} {ins told : List Int} {rows : List Row} {M : Store}
@[simp] theorem sys_0 : prm .ix [sysD p many ins told rows, .int 0] M = .ok (.int p) M := by simp [sysD]
@[simp] theorem sys_1 : prm .ix [sysD p many ins told rows, .int 1] M = .ok (.int many) M := by simp [sysD]
@[simp] theorem sys_2 : prm .ix [sysD p many ins told rows, .int 2] M = .ok (fillD ins) M := by simp [sysD]
@[simp] theorem sys_3 : prm .ix [sysD p many ins told rows, .int 3] M = .ok (fillD told) M := by simp [sysD]
@[simp] theorem sys_4 : prm .ix [sysD p many ins told rows, .int 4] M = .ok (.tup (rows.map rowD)) M := by simp [sysD]
theorem t_isSystem (h : 9 ≤ n) (hp : p ∈ primes) (hm : many < 1000) (ok : SysOk p many ins told rows) : cN n 8 [sysD p many ins told rows] M = .ok (.bl true) M := by
  obtain ⟨n, rfl, h⟩ := up h
  have sz : callN tab 200 n 2 [sysD p many ins told rows, .int 5] M = _ := t_sizedT (n := n) (l := [.int p, .int many, fillD ins, fillD told, .tup (rows.map rowD)]) (m := 5) (M := M) (by omega)
  have pr := t_prime (n := n) (p := p) (M := M) (by omega) hp
  have ix := t_index (n := n) (d := .int many) (M := M) (by omega) rfl
  have i1 := ok.inf
  have i2 := ok.tf
  have i3 := ok.few
  have a1 : callN tab 200 n 3 [fillD ins, .fn 1] M = .ok (.bl true) M := by
    refine (t_idxs (n := n) (l := ins) (M := M) (by omega) (by show _ ≤ 16777216; omega)).trans ?_
    congr
    rw [List.all_eq_true]
    exact fun i hi => decide_eq_true (ok.hi i hi).1
  have a2 : callN tab 200 n 3 [fillD told, .fn 1] M = .ok (.bl true) M := by
    refine (t_idxs (n := n) (l := told) (M := M) (by omega) (by show _ ≤ 16777216; omega)).trans ?_
    congr
    rw [List.all_eq_true]
    exact fun i hi => decide_eq_true (ok.ht i hi).1
  have a3 : callN tab 200 n 3 [.tup (rows.map rowD), .fn 7] M = .ok (.bl true) M := by
    refine (t_tupOf (n := n) (k := 7) (l := rows) (inj := rowD) (q := fun _ => true) (M := M) (by omega) (fun r hr => t_equation (by omega) (ok.hr r hr)) (by show _ ≤ 16777216; omega)).trans ?_
    simp
  show callN tab 200 (n + 1) 8 _ _ = _
  rw [callN_at rfl rfl]
  simp [b_is_system, sz, pr, ix, isIdx, a1, a2, a3]
theorem t_asc {l : List Int} (h : 1 ≤ n) (hl : l.length ≤ LN) (ha : l.Pairwise (· < ·)) : cN n 9 [fillD l] M = .ok (.bl true) M := by
  obtain ⟨n, rfl, h⟩ := up h
  have hc : evE ⟨callN tab 200 n, 200⟩ (.comp (.pr .lt [(.v 1), (.v 2)]) (.t [(.n 1), (.n 2)]) .zip [(.v 0), (.pr (.sl true false) [(.v 0), (.c (.int 1))])] [] [1, 2]) [.val (fillD l), .no, .no] M = .ok (.lst ((l.zip (l.drop 1)).map fun q => D.bl (decide (q.1 < q.2)))) M := by
    refine comp_map (ds := [fillD l, fillD (l.drop 1)]) (l.zip (l.drop 1)) (fun q => .tup [.int q.1, .int q.2]) (fun q => D.bl (decide (q.1 < q.2))) ?_ ?_ (fun q hq => ?_) ?_
    · have e := p_from (l := l.map D.int) (i := 1) (M := M) (by decide)
      simp at e
      simp [fillD, e]
    · simp only [walkD, fillD, zip_map]
    · exact ⟨[.val (fillD l), .val (.int q.1), .val (.int q.2)], rfl, by simp⟩
    · rw [List.length_zip]; exact Nat.le_trans (Nat.min_le_left _ _) hl
  have al : ((l.zip (l.drop 1)).all fun q => decide (q.1 < q.2)) = true := by
    rw [List.all_eq_true]
    exact fun q hq => decide_eq_true (zip_next ha q hq)
  show callN tab 200 (n + 1) 9 _ _ = _
  rw [callN_at rfl rfl]
  obtain ⟨L, hc, pa⟩ : ∃ L, evE ⟨callN tab 200 n, 200⟩ (.comp (.pr .lt [(.v 1), (.v 2)]) (.t [(.n 1), (.n 2)]) .zip [(.v 0), (.pr (.sl true false) [(.v 0), (.c (.int 1))])] [] [1, 2]) [.val (fillD l), .no, .no] M = .ok (.lst L) M ∧ prm .all [.lst L] M = .ok (.bl true) M := ⟨_, hc, by rw [p_all, al]⟩
  simp [b_are_ascending, hc, pa]
theorem t_below {c : Int} {ps : List (Int × Int)} (h : 1 ≤ n) (ok : SumOk p many c ps) (hl : ps.length < 4) : cN n 10 [.int p, .int many, sumD c ps] M = .ok (.bl true) M := by
  obtain ⟨n, rfl, h⟩ := up h
  have hc : evE ⟨callN tab 200 n, 200⟩ (.comp (.and (.pr .lt [(.v 3), (.v 1)]) (.pr .lt [(.v 4), (.v 0)])) (.t [(.n 3), (.n 4)]) .seq [(.pr .ix [(.v 2), (.c (.int 1))])] [] [3, 4]) [.val (.int p), .val (.int many), .val (sumD c ps), .no, .no] M = .ok (.lst (ps.map fun _ => D.bl true)) M := by
    refine comp_map (ds := [.tup (ps.map partD)]) ps partD (fun _ => D.bl true) (by simp) rfl (fun q hq => ?_) (by show _ ≤ 16777216; omega)
    exact ⟨[.val (.int p), .val (.int many), .val (sumD c ps), .val (.int q.1), .val (.int q.2)], rfl, by simp [(ok.wire q hq).2, (ok.num q hq).2]⟩
  have pa := p_all (fun _ : Int × Int => true) ps M
  show callN tab 200 (n + 1) 10 _ _ = _
  rw [callN_at rfl rfl]
  simp [b_is_sum_below, hc, pa, ok.c1]
end
end K51

namespace K51
open PySem hiding Env
open L2 Fx
section
variable {n : Nat} {p : Int} {many : Nat} {ins told fl : List Int} {rows : List Row} {M : Store}
theorem lt_all {cf : Cf} {ρ : Env} {l : List Int} {i j : Nat} {m : Int} (hi : evE cf (.v i) ρ M = .ok (fillD l) M) (hb : ∀ d : D, evE cf (.v j) ((wipeE ρ [10]).set 10 (.val d)) M = .ok (.int m) M) (hw : ∀ d : D, evE cf (.v 10) ((wipeE ρ [10]).set 10 (.val d)) M = .ok d M) (hl : l.length ≤ LN) (h : ∀ w ∈ l, w < m) :
    ∃ L, evE cf (.comp (.pr .lt [(.v 10), (.v j)]) (.n 10) .seq [(.v i)] [] [10]) ρ M = .ok (.lst L) M ∧ prm .all [.lst L] M = .ok (.bl true) M := by
  refine ⟨l.map fun w => D.bl (decide (w < m)), comp_map (ds := [fillD l]) l D.int _ ?_ rfl (fun w hw' => ?_) hl, ?_⟩
  · rw [ev_cons, hi]; simp
  · refine ⟨_, rfl, ?_⟩
    rw [ev_pr, ev_cons, hw]
    simp only [bdl_ok]
    rw [ev_cons, hb]
    simp
  · rw [p_all]
    congr
    rw [List.all_eq_true]
    exact fun w hw' => decide_eq_true (h w hw')
theorem t_checked (h : 10 ≤ n) (hp : p ∈ primes) (hm : many < 400) (ok : SysOk p many ins told rows) : cN n 11 [sysD p many ins told rows] M = .ok (sysD p many ins told rows) M := by
  obtain ⟨n, rfl, h⟩ := up h
  let cf : Cf := ⟨callN tab 200 n, 200⟩
  have i1 := ok.inf
  have i2 := ok.tf
  have i3 := ok.few
  have c8 := t_isSystem (n := n) (M := M) (by omega) hp (by omega) ok
  have c9 := t_asc (n := n) (l := ins) (M := M) (by omega) (by show _ ≤ 16777216; omega) ok.asc
  let E : Sl → Sl → Sl → Sl → Env := fun a b c d => [.val (sysD p many ins told rows), .val (.int p), .val (.int many), .val (fillD ins), .val (fillD told), .val (.tup (rows.map rowD)), a, b, c, d, .no]
  obtain ⟨L1, hc1, pa1⟩ := lt_all (cf := cf) (ρ := E .no .no .no .no) (M := M) (l := ins) (i := 3) (j := 2) (m := many) (by simp [E]) (fun d => by simp [E, wipeE]) (fun d => by simp [E, wipeE]) (by show _ ≤ 16777216; omega) (fun w hw => (ok.hi w hw).2)
  obtain ⟨L2, hc2, pa2⟩ := lt_all (cf := cf) (ρ := E .no .no .no .no) (M := M) (l := told) (i := 4) (j := 2) (m := many) (by simp [E]) (fun d => by simp [E, wipeE]) (fun d => by simp [E, wipeE]) (by show _ ≤ 16777216; omega) (fun w hw => (ok.ht w hw).2)
  -- the rows
  let bi : List S := [.ite (.not (.call 10 [(.v 1), (.v 2), (.v 9)])) [.stop] []]
  let bo : List S := [.for (.t [(.n 8), (.n 9)]) .enum [(.v 7)] bi]
  have inner : ∀ (r : Row) (x y : Sl) (z : D), RowOk p many r → ∃ x' y', loopF (turnF cf (.t [(.n 8), (.n 9)]) bi) (enumD 0 [sumD r.ca r.pa, sumD r.cb r.pb, sumD r.cc r.pc]) (E (.val z) (.val (rowD r)) x y) M = .nx (E (.val z) (.val (rowD r)) x' y') M := by
    intro r x y z rok
    have ba := t_below (n := n) (M := M) (by omega) rok.a rok.la
    have bb := t_below (n := n) (M := M) (by omega) rok.b rok.lb
    have bc := t_below (n := n) (M := M) (by omega) rok.c rok.lc
    refine ⟨.val (.int 2), .val (sumD r.cc r.pc), ?_⟩
    simp [turnF, enumD, loopF, bindT, bindTs, seqOf, E, bi, ba, bb, bc, cf]
  have outer : ∀ (rs : List Row) (j : Nat) (a b c d : Sl), (∀ r ∈ rs, RowOk p many r) → ∃ a' b' c' d', loopF (turnF cf (.t [(.n 6), (.n 7)]) bo) (enumD j (rs.map rowD)) (E a b c d) M = .nx (E a' b' c' d') M := by
    intro rs
    induction rs with
    | nil => intro j a b c d _; exact ⟨a, b, c, d, rfl⟩
    | cons r rs ih =>
      intro j a b c d hr
      obtain ⟨x', y', h1⟩ := inner r c d (.int j) (hr r List.mem_cons_self)
      obtain ⟨a', b', c', d', h2⟩ := ih (j + 1) (.val (.int j)) (.val (rowD r)) x' y' fun r' h' => hr r' (List.mem_cons_of_mem _ h')
      refine ⟨a', b', c', d', ?_⟩
      rw [List.map_cons, enumD, loop_nx (ρ' := E (.val (.int j)) (.val (rowD r)) x' y') (M' := M)]
      · exact h2
      · rw [turn_eq (ρ2 := E (.val (.int j)) (.val (rowD r)) c d) rfl]
        exact evB_nx ((st_forT (ds := [rowD r]) (by simp [E]) rfl).trans h1)
  obtain ⟨a', b', c', d', hf⟩ := outer rows 0 .no .no .no .no ok.hr
  show callN tab 200 (n + 1) 11 _ _ = _
  rw [callN_at rfl rfl]
  show fin (evB cf b_checked_system [.val (sysD p many ins told rows), .no, .no, .no, .no, .no, .no, .no, .no, .no, .no] M) = _
  have e : E .no .no .no .no = [.val (sysD p many ins told rows), .val (.int p), .val (.int many), .val (fillD ins), .val (fillD told), .val (.tup (rows.map rowD)), .no, .no, .no, .no, .no] := rfl
  have f1 : evS cf (b_checked_system.getD 1 .pass) [.val (sysD p many ins told rows), .no, .no, .no, .no, .no, .no, .no, .no, .no, .no] M = .nx (E .no .no .no .no) M := by
    simp [b_checked_system]
    try rfl
  have f0 : ∀ ρ, evS cf (b_checked_system.getD 0 .pass) (.val (sysD p many ins told rows) :: ρ) M = .nx (.val (sysD p many ins told rows) :: ρ) M := fun ρ => by simp [b_checked_system, cf, c8]
  have f2 : evS cf (b_checked_system.getD 2 .pass) (E .no .no .no .no) M = .nx (E .no .no .no .no) M := by
    have : ¬ (400 : Int) < many := by omega
    simp [b_checked_system, E, this]
    try omega
  have f3 : evS cf (b_checked_system.getD 3 .pass) (E .no .no .no .no) M = .nx (E .no .no .no .no) M := by
    have hx : ¬ (1000 : Int) < rows.length := by omega
    simp [b_checked_system, E, hx]
  have f4 : evS cf (b_checked_system.getD 4 .pass) (E .no .no .no .no) M = .nx (E .no .no .no .no) M := by
    rw [show b_checked_system.getD 4 .pass = .ite (.or (.not (.call 9 [(.v 3)])) (.not (.pr .all [(.comp (.pr .lt [(.v 10), (.v 2)]) (.n 10) .seq [(.v 3)] [] [10])]))) [.stop] [] from rfl, st_ite, ev_or, ev_not, ev_call]
    have q1 : evL cf [(.v 3)] (E .no .no .no .no) M = .ok [fillD ins] M := by simp [E]
    rw [q1, lbd_ok, show cf.call 9 [fillD ins] M = _ from c9]
    simp only [bd_ok, Bool.not_true]
    rw [ev_not, ev_pr, ev_cons, hc1]
    simp [pa1]
  have f5 : evS cf (b_checked_system.getD 5 .pass) (E .no .no .no .no) M = .nx (E .no .no .no .no) M := by
    rw [show b_checked_system.getD 5 .pass = .ite (.not (.pr .all [(.comp (.pr .lt [(.v 10), (.v 2)]) (.n 10) .seq [(.v 4)] [] [10])])) [.stop] [] from rfl, st_ite, ev_not, ev_pr, ev_cons, hc2]
    simp [pa2]
  have f6 : evS cf (b_checked_system.getD 6 .pass) (E .no .no .no .no) M = .nx (E a' b' c' d') M := (st_forT (ds := [.tup (rows.map rowD)]) (by simp [E]) rfl).trans hf
  have bd : b_checked_system = [b_checked_system.getD 0 .pass, b_checked_system.getD 1 .pass, b_checked_system.getD 2 .pass, b_checked_system.getD 3 .pass, b_checked_system.getD 4 .pass, b_checked_system.getD 5 .pass, b_checked_system.getD 6 .pass, .ret (.v 0)] := rfl
  rw [bd, evB_nx (f0 _), evB_nx f1, evB_nx f2, evB_nx f3, evB_nx f4, evB_nx f5, evB_nx f6]
  simp [E]
end
end K51

namespace K51
open PySem hiding Env
open L2 Fx
section
variable {n : Nat} {p : Int} {many : Nat} {ins told fl : List Int} {rows : List Row} {M : Store}
/-- is it a filling -/
def fok (p : Int) (many : Nat) (fl : List Int) : Bool := decide (fl.length = many) && (fl.all (fun i => decide (0 ≤ i)) && fl.all fun i => decide (i < p))
theorem fok_of (h : FillOk p many fl) : fok p many fl = true := by
  unfold fok
  simp only [Bool.and_eq_true, decide_eq_true_eq, List.all_eq_true]
  exact ⟨h.len, h.low, h.high⟩
theorem t_resid (h : 4 ≤ n) (hl : fl.length ≤ LN) : cN n 12 [.int p, .int many, fillD fl] M = .ok (.bl (fok p many fl)) M := by
  obtain ⟨n, rfl, h⟩ := up h
  have sz : callN tab 200 n 2 [fillD fl, .int many] M = _ := t_sizedT (n := n) (l := fl.map D.int) (m := many) (M := M) (by omega)
  have ix : callN tab 200 n 3 [fillD fl, .fn 1] M = _ := t_idxs (n := n) (l := fl) (M := M) (by omega) hl
  have hc : evE ⟨callN tab 200 n, 200⟩ (.comp (.pr .lt [(.v 3), (.v 0)]) (.n 3) .seq [(.v 2)] [] [3]) [.val (.int p), .val (.int many), .val (fillD fl), .no] M = .ok (.lst (fl.map fun i => D.bl (decide (i < p)))) M := by
    refine comp_map (ds := [fillD fl]) fl D.int _ (by simp) rfl (fun i hi => ?_) hl
    exact ⟨[.val (.int p), .val (.int many), .val (fillD fl), .val (.int i)], rfl, by simp⟩
  obtain ⟨L, hc, pa⟩ : ∃ L, evE ⟨callN tab 200 n, 200⟩ (.comp (.pr .lt [(.v 3), (.v 0)]) (.n 3) .seq [(.v 2)] [] [3]) [.val (.int p), .val (.int many), .val (fillD fl), .no] M = .ok (.lst L) M ∧ prm .all [.lst L] M = .ok (.bl (fl.all fun i => decide (i < p))) M := ⟨_, hc, p_all _ _ _⟩
  have e1 : decide ((((fl.map D.int).length : Nat) : Int) = (many : Int)) = decide (fl.length = many) := by
    rw [List.length_map]
    exact decide_eq_decide.mpr (by omega)
  rw [e1] at sz
  show callN tab 200 (n + 1) 12 _ _ = _
  rw [callN_at rfl rfl]
  show fin (evB ⟨callN tab 200 n, 200⟩ b_is_residues [.val (.int p), .val (.int many), .val (fillD fl), .no] M) = _
  unfold fok
  generalize decide (fl.length = many) = u at sz ⊢
  generalize (fl.all fun i => decide (0 ≤ i)) = v at ix ⊢
  generalize (fl.all fun i => decide (i < p)) = w at pa ⊢
  cases u <;> cases v <;> simp [b_is_residues, sz, ix, hc, pa]
theorem t_residN {d : D} (h : 2 ≤ n) (hd : noTup d = true) : cN n 12 [.int p, .int many, d] M = .ok (.bl false) M := by
  obtain ⟨n, rfl, h⟩ := up h
  have sz : callN tab 200 n 2 [d, .int many] M = _ := t_sizedN (n := n) (M := M) (by omega) hd
  show callN tab 200 (n + 1) 12 _ _ = _
  rw [callN_at rfl rfl]
  simp [b_is_residues, sz]
theorem t_isFilling {d : D} {b : Bool} (h : 11 ≤ n) (hp : p ∈ primes) (hm : many < 400) (ok : SysOk p many ins told rows) (hd : callN tab 200 (n - 1) 12 [.int p, .int many, d] M = .ok (.bl b) M) : cN n 13 [sysD p many ins told rows, d] M = .ok (.bl b) M := by
  obtain ⟨n, rfl, h⟩ := up h
  have ck : callN tab 200 n 11 [sysD p many ins told rows] M = _ := t_checked (n := n) (M := M) (by omega) hp hm ok
  have hd : callN tab 200 n 12 [.int p, .int many, d] M = .ok (.bl b) M := hd
  show callN tab 200 (n + 1) 13 _ _ = _
  rw [callN_at rfl rfl]
  simp [b_is_filling, ck, hd]
theorem t_checkF {d : D} {b : Bool} (h : 12 ≤ n) (hp : p ∈ primes) (hm : many < 400) (ok : SysOk p many ins told rows) (hd : callN tab 200 (n - 2) 12 [.int p, .int many, d] M = .ok (.bl b) M) :
    cN n 14 [sysD p many ins told rows, d] M = if b = true then .ok .non M else .ex 0 [] M := by
  obtain ⟨n, rfl, h⟩ := up h
  have ck : callN tab 200 n 13 [sysD p many ins told rows, d] M = _ := t_isFilling (n := n) (M := M) (by omega) hp hm ok hd
  show callN tab 200 (n + 1) 14 _ _ = _
  rw [callN_at rfl rfl]
  cases b <;> simp [b_check_filling, ck]
/-- what the system's asks say of a thing that is no filling -/
theorem ask_odd {d : D} {k : Nat} (hk : k = 17 ∨ k = 18 ∨ k = 19 ∨ k = 20) (h : 14 ≤ n) (hp : p ∈ primes) (hm : many < 400) (ok : SysOk p many ins told rows) (hd : ∀ m, 4 ≤ m → callN tab 200 m 12 [.int p, .int many, d] M = .ok (.bl false) M) :
    cN n k [sysD p many ins told rows, d] M = .ex 0 [] M := by
  obtain ⟨n, rfl, h⟩ := up h
  have ck : ∀ m, 12 ≤ m → callN tab 200 m 14 [sysD p many ins told rows, d] M = .ex 0 [] M := fun m hm' => t_checkF (n := m) (M := M) hm' hp hm ok (hd _ (by omega))
  have c1 := ck n (by omega)
  show callN tab 200 (n + 1) k _ _ = _
  rcases hk with rfl | rfl | rfl | rfl
  · rw [callN_at rfl rfl]; simp [b_first_broken, c1]
  · obtain ⟨m, rfl⟩ : ∃ m, n = m + 1 := ⟨n - 1, by omega⟩
    have c2 := ck m (by omega)
    have c3 : callN tab 200 (m + 1) 17 [sysD p many ins told rows, d] M = .ex 0 [] M := by
      rw [callN_at rfl rfl]; simp [b_first_broken, c2]
    rw [callN_at rfl rfl]
    simp [b_meets, c3]
  · rw [callN_at rfl rfl]; simp [b_inputs_in, c1]
  · rw [callN_at rfl rfl]; simp [b_told_in, c1]
/-- a row met or not, both ways of reckoning -/
theorem met_body {cf : Cf} {k : Nat} {r : Row} (hk : ∀ c ps, ((c = r.ca ∧ ps = r.pa) ∨ (c = r.cb ∧ ps = r.pb) ∨ (c = r.cc ∧ ps = r.pc)) → cf.call k [.int p, sumD c ps, fillD fl] M = .ok (.int (val p c ps fl)) M) (hp : 0 < p) (hp2 : p < 1000000) :
    fin (evB cf [.asg (.t [(.n 3), (.n 4), (.n 5)]) (.comp (.call k [(.v 0), (.v 6), (.v 2)]) (.n 6) .seq [(.v 1)] [] [6]), .ret (.pr .eq [(.pr .mod [(.pr .mul [(.v 3), (.v 4)]), (.v 0)]), (.v 5)])]
      [.val (.int p), .val (rowD r), .val (fillD fl), .no, .no, .no, .no] M) = .ok (.bl (met p fl r)) M := by
  have ha := hk _ _ (.inl ⟨rfl, rfl⟩)
  have hb := hk _ _ (.inr (.inl ⟨rfl, rfl⟩))
  have hc := hk _ _ (.inr (.inr ⟨rfl, rfl⟩))
  have a1 := val_low (c := r.ca) (ps := r.pa) (fl := fl) hp
  have cm : ∀ j, CMul (val p r.ca r.pa fl) j := fun j => mul_l (by omega) (by omega)
  have hco : evE cf (.comp (.call k [(.v 0), (.v 6), (.v 2)]) (.n 6) .seq [(.v 1)] [] [6]) [.val (.int p), .val (rowD r), .val (fillD fl), .no, .no, .no, .no] M = .ok (.lst [.int (val p r.ca r.pa fl), .int (val p r.cb r.pb fl), .int (val p r.cc r.pc fl)]) M := by
    refine comp_map (ds := [rowD r]) [(r.ca, r.pa), (r.cb, r.pb), (r.cc, r.pc)] (fun q => sumD q.1 q.2) (fun q => D.int (val p q.1 q.2 fl)) (by simp) rfl (fun q hq => ?_) (by show 3 ≤ 16777216; decide)
    refine ⟨[.val (.int p), .val (rowD r), .val (fillD fl), .no, .no, .no, .val (sumD q.1 q.2)], rfl, ?_⟩
    simp only [List.mem_cons, List.not_mem_nil, or_false] at hq
    rcases hq with rfl | rfl | rfl <;> simp [ha, hb, hc]
  rw [sb_cons, st_asg, hco]
  simp [bindT, bindTs, seqOf, cm, hp, met]
theorem t_isMet {r : Row} (h : 2 ≤ n) (hp : 0 < p) (hp2 : p < 1000000) (ok : RowOk p many r) (hf : fl.length = many) : cN n 16 [.int p, rowD r, fillD fl] M = .ok (.bl (met p fl r)) M := by
  obtain ⟨n, rfl, h⟩ := up h
  show callN tab 200 (n + 1) 16 _ _ = _
  rw [callN_at rfl rfl]
  refine met_body (cf := ⟨callN tab 200 n, 200⟩) (fun c ps hc => ?_) hp hp2
  rcases hc with ⟨rfl, rfl⟩ | ⟨rfl, rfl⟩ | ⟨rfl, rfl⟩
  · exact t_reckoned (by omega) hp (ok.a.ix hf) (ok.a.nums hp2) (by have := ok.la; show _ ≤ 16777216; omega)
  · exact t_reckoned (by omega) hp (ok.b.ix hf) (ok.b.nums hp2) (by have := ok.lb; show _ ≤ 16777216; omega)
  · exact t_reckoned (by omega) hp (ok.c.ix hf) (ok.c.nums hp2) (by have := ok.lc; show _ ≤ 16777216; omega)
theorem t_lmet {r : Row} (h : 2 ≤ n) (hp : 0 < p) (hp2 : p < 1000000) (ok : RowOk p many r) (hf : fl.length = many) : cN n 31 [.int p, rowD r, fillD fl] M = .ok (.bl (met p fl r)) M := by
  obtain ⟨n, rfl, h⟩ := up h
  show callN tab 200 (n + 1) 31 _ _ = _
  rw [callN_at rfl rfl]
  refine met_body (cf := ⟨callN tab 200 n, 200⟩) (fun c ps hc => ?_) hp hp2
  rcases hc with ⟨rfl, rfl⟩ | ⟨rfl, rfl⟩ | ⟨rfl, rfl⟩
  · exact tv (by omega) hp hp2 ok.a ok.la hf
  · exact tv (by omega) hp hp2 ok.b ok.lb hf
  · exact tv (by omega) hp hp2 ok.c ok.lc hf
/-- the first row that is not met -/
def fb (p : Int) (fl : List Int) : Nat → List Row → D
  | _, [] => .non
  | j, r :: rs => if met p fl r = true then fb p fl (j + 1) rs else .int (j : Nat)
theorem t_first (h : 13 ≤ n) (hp : p ∈ primes) (hp0 : 0 < p) (hp2 : p < 1000000) (hm : many < 400) (ok : SysOk p many ins told rows) (fo : FillOk p many fl) : cN n 17 [sysD p many ins told rows, fillD fl] M = .ok (fb p fl 0 rows) M := by
  obtain ⟨n, rfl, h⟩ := up h
  let cf : Cf := ⟨callN tab 200 n, 200⟩
  have hr := t_resid (n := n - 2) (p := p) (many := many) (fl := fl) (M := M) (by omega) (by rw [fo.len]; show _ ≤ 16777216; omega)
  rw [fok_of fo] at hr
  have ck : callN tab 200 n 14 [sysD p many ins told rows, fillD fl] M = _ := t_checkF (n := n) (b := true) (M := M) (by omega) hp hm ok hr
  rw [if_pos rfl] at ck
  let b : List S := [.ite (.not (.call 16 [(.pr .ix [(.v 0), (.c (.int 0))]), (.v 3), (.v 1)])) [.ret (.v 2)] []]
  let E : Sl → Sl → Env := fun x y => [.val (sysD p many ins told rows), .val (fillD fl), x, y]
  have lp : ∀ (rs : List Row) (j : Nat) (x y : Sl), (∀ r ∈ rs, RowOk p many r) → ∃ x' y', loopF (turnF cf (.t [(.n 2), (.n 3)]) b) (enumD j (rs.map rowD)) (E x y) M = match fb p fl j rs with | .non => .nx (E x' y') M | d => .rt d M := by
    intro rs
    induction rs with
    | nil => intro j x y _; exact ⟨x, y, rfl⟩
    | cons r rs ih =>
      intro j x y hr
      have im := t_isMet (n := n) (M := M) (fl := fl) (by omega) hp0 hp2 (hr r List.mem_cons_self) fo.len
      obtain ⟨x', y', h2⟩ := ih (j + 1) (.val (.int j)) (.val (rowD r)) fun r' h' => hr r' (List.mem_cons_of_mem _ h')
      rw [List.map_cons, enumD]
      have te : turnF cf (.t [(.n 2), (.n 3)]) b (.tup [.int (j : Nat), rowD r]) (E x y) M = if met p fl r = true then .nx (E (.val (.int j)) (.val (rowD r))) M else .rt (.int (j : Nat)) M := by
        rw [turn_eq (ρ2 := E (.val (.int j)) (.val (rowD r))) rfl]
        simp only [b, E, cf]
        cases hmt : met p fl r with
        | true => rw [hmt] at im; simp [im]
        | false => rw [hmt] at im; simp [im]
      cases hmt : met p fl r with
      | true =>
        rw [hmt, if_pos rfl] at te
        refine ⟨x', y', ?_⟩
        rw [loop_nx te, h2]
        simp [fb, hmt]
      | false =>
        rw [hmt, if_neg (by decide)] at te
        refine ⟨x, y, ?_⟩
        rw [loop_rt te]
        simp [fb, hmt]
  obtain ⟨x', y', hl⟩ := lp rows 0 .no .no ok.hr
  have f0 : evS cf (b_first_broken.getD 0 .pass) (E .no .no) M = .nx (E .no .no) M := by simp [b_first_broken, E, cf, ck]
  have f1 : evS cf (b_first_broken.getD 1 .pass) (E .no .no) M = _ := (st_forT (ds := [.tup (rows.map rowD)]) (by simp [E]) rfl).trans hl
  show callN tab 200 (n + 1) 17 _ _ = _
  rw [callN_at rfl rfl]
  show fin (evB cf [b_first_broken.getD 0 .pass, b_first_broken.getD 1 .pass, .ret (.c .non)] (E .no .no) M) = _
  rw [evB_nx f0, sb_cons, f1]
  have cases_ : fb p fl 0 rows = .non ∨ ∃ i : Int, fb p fl 0 rows = .int i := by
    have : ∀ (rs : List Row) (j : Nat), fb p fl j rs = .non ∨ ∃ i : Int, fb p fl j rs = .int i := by
      intro rs
      induction rs with
      | nil => intro j; exact .inl rfl
      | cons r rs ih =>
        intro j
        unfold fb
        split
        · exact ih _
        · exact .inr ⟨_, rfl⟩
    exact this rows 0
  rcases cases_ with e | ⟨i, e⟩
  · rw [e]; simp
  · rw [e]; simp
theorem t_meets (h : 14 ≤ n) (hp : p ∈ primes) (hp0 : 0 < p) (hp2 : p < 1000000) (hm : many < 400) (ok : SysOk p many ins told rows) (fo : FillOk p many fl) : cN n 18 [sysD p many ins told rows, fillD fl] M = .ok (.bl (isNon (fb p fl 0 rows))) M := by
  obtain ⟨n, rfl, h⟩ := up h
  have ft := t_first (n := n) (M := M) (by omega) hp hp0 hp2 hm ok fo
  show callN tab 200 (n + 1) 18 _ _ = _
  rw [callN_at rfl rfl]
  simp [b_meets, ft]
theorem tup_fill {zs : List Int} : prm .tuple [.lst (zs.map D.int)] M = .ok (fillD zs) M := rfl
theorem at_comp {cf : Cf} {ρ : Env} {e : E} {ws : List Int} {i k : Nat} (hi : evL cf [e] ρ M = .ok [fillD ws] M) (h1 : ∀ w, evE cf (.v i) ((wipeE ρ [k]).set k (.val w)) M = .ok (fillD fl) M) (h2 : ∀ w, evE cf (.v k) ((wipeE ρ [k]).set k (.val w)) M = .ok w M) (hw : ∀ w ∈ ws, 0 ≤ w ∧ w < fl.length) (hl : ws.length ≤ LN) :
    evE cf (.comp (.pr .ix [(.v i), (.v k)]) (.n k) .seq [e] [] [k]) ρ M = .ok (.lst ((ws.map (at_ fl)).map D.int)) M := by
  rw [List.map_map]
  refine comp_map (ds := [fillD ws]) ws D.int (fun w => D.int (at_ fl w)) hi rfl (fun w hw' => ⟨_, rfl, ?_⟩) hl
  rw [ev_pr, ev_cons, h1]
  simp only [bdl_ok]
  rw [ev_cons, h2]
  simp [fill_ix (hw w hw').1 (hw w hw').2]
theorem t_ins (h : 13 ≤ n) (hp : p ∈ primes) (hm : many < 400) (ok : SysOk p many ins told rows) (fo : FillOk p many fl) : cN n 19 [sysD p many ins told rows, fillD fl] M = .ok (fillD (ins.map (at_ fl))) M ∧ cN n 20 [sysD p many ins told rows, fillD fl] M = .ok (fillD (told.map (at_ fl))) M := by
  obtain ⟨n, rfl, h⟩ := up h
  have hr := t_resid (n := n - 2) (p := p) (many := many) (fl := fl) (M := M) (by omega) (by rw [fo.len]; show _ ≤ 16777216; omega)
  rw [fok_of fo] at hr
  have ck : callN tab 200 n 14 [sysD p many ins told rows, fillD fl] M = _ := t_checkF (n := n) (b := true) (M := M) (by omega) hp hm ok hr
  rw [if_pos rfl] at ck
  have i1 := ok.inf
  have i2 := ok.tf
  have fl' := fo.len
  have c1 := at_comp (cf := ⟨callN tab 200 n, 200⟩) (ρ := [.val (sysD p many ins told rows), .val (fillD fl), .no]) (e := .pr .ix [(.v 0), (.c (.int 2))]) (M := M) (fl := fl) (ws := ins) (i := 1) (k := 2) (by simp) (fun w => by simp [wipeE]) (fun w => by simp [wipeE]) (fun w hw => by have := ok.hi w hw; omega) (by show _ ≤ 16777216; omega)
  have c2 := at_comp (cf := ⟨callN tab 200 n, 200⟩) (ρ := [.val (sysD p many ins told rows), .val (fillD fl), .no]) (e := .pr .ix [(.v 0), (.c (.int 3))]) (M := M) (fl := fl) (ws := told) (i := 1) (k := 2) (by simp) (fun w => by simp [wipeE]) (fun w => by simp [wipeE]) (fun w hw => by have := ok.ht w hw; omega) (by show _ ≤ 16777216; omega)
  generalize ins.map (at_ fl) = z1 at c1 ⊢
  generalize told.map (at_ fl) = z2 at c2 ⊢
  constructor
  · show callN tab 200 (n + 1) 19 _ _ = _
    rw [callN_at rfl rfl]
    simp [b_inputs_in, ck, c1, tup_fill]
    rfl
  · show callN tab 200 (n + 1) 20 _ _ = _
    rw [callN_at rfl rfl]
    simp [b_told_in, ck, c2, tup_fill]
    rfl
theorem t_at {ws : List Int} (h : 1 ≤ n) (hw : ∀ w ∈ ws, 0 ≤ w ∧ w < fl.length) (hl : ws.length ≤ LN) : cN n 33 [fillD fl, fillD ws] M = .ok (fillD (ws.map (at_ fl))) M := by
  obtain ⟨n, rfl, h⟩ := up h
  have c1 := at_comp (cf := ⟨callN tab 200 n, 200⟩) (ρ := [.val (fillD fl), .val (fillD ws), .no]) (e := .v 1) (M := M) (fl := fl) (ws := ws) (i := 0) (k := 2) (by simp) (fun w => by simp [wipeE]) (fun w => by simp [wipeE]) hw hl
  generalize ws.map (at_ fl) = z1 at c1 ⊢
  show callN tab 200 (n + 1) 33 _ _ = _
  rw [callN_at rfl rfl]
  simp [b__law_at, c1, tup_fill]
  rfl
theorem t_alike {d : D} (h : 1 ≤ n) (ok : okD d = true) (hd : dpD d ≤ 64) (hw : wtD d ≤ 2 ^ 20) : cN n 32 [d, d] M = .ok (.bl true) M := by
  obtain ⟨n, rfl, h⟩ := up h
  obtain ⟨x, hx⟩ := repr_of ok hd hw
  have e : prm .eq [d, d] M = .ok (.bl true) M := p_eq_self ok hd
  show callN tab 200 (n + 1) 32 _ _ = _
  rw [callN_at rfl rfl]
  simp [b__law_alike, hx, e]
end
end K51

namespace K51
open PySem hiding Env
open L2 Fx
theorem t_bag {n : Nat} {ns : List Int} (h : 1 ≤ n) (hl : ns.length ≤ 63) : ∃ M', cN n 21 [.lst (ns.map .int)] [] = .ok (.obj 0) M' ∧ Bag M' := by
  obtain ⟨n, rfl, h⟩ := up h
  refine ⟨[bagD 0 1234567891 0 (ns.map fun i => if i < 0 then -i else i)], ?_, 0, 1234567891, 0, _, rfl, Int.le_refl _, by decide, by decide, by decide, by simpa using hl, fun i hi => ?_⟩
  · have hc : evE ⟨callN tab 200 n, 200⟩ (.comp (.pr .abs [(.v 1)]) (.n 1) .seq [(.pr (.sl false true) [(.v 0), (.c (.int 63))])] [] [1]) [.val (.lst (ns.map .int)), .no] [] = .ok (.lst (ns.map fun i => D.int (if i < 0 then -i else i))) [] := by
      refine comp_map (ds := [.lst (ns.map D.int)]) ns D.int _ ?_ rfl (fun i hi => ⟨[.val (.lst (ns.map .int)), .val (.int i)], rfl, by simp⟩) (by show _ ≤ 16777216; omega)
      have e := p_toL (l := ns.map D.int) (i := 63) (M := []) (by decide)
      have e2 : (ns.map D.int).take (63 : Int).toNat = ns.map D.int := List.take_of_length_le (by simpa using hl)
      rw [e2] at e
      simp [e]
    show callN tab 200 (n + 1) 21 _ _ = _
    rw [callN_at rfl rfl]
    have hq : ∀ (x : D), prm .cel [.int 0, .int 1234567891, .int 0, x] [] = .ok (.obj 0) [.lst [.int 0, .int 1234567891, .int 0, x]] := fun x => rfl
    simp [b__law_bag, hc, hq, bagD]
  · obtain ⟨j, _, e⟩ := List.mem_map.mp hi
    subst e
    split <;> omega
section
variable {n : Nat} {p : Int} {many : Nat} {ins told fl : List Int} {rows : List Row} {M : Store}
theorem fb_met (h : ∀ r ∈ rows, met p fl r = true) : ∀ j, fb p fl j rows = .non := by
  induction rows with
  | nil => intro j; rfl
  | cons r rs ih =>
    intro j
    unfold fb
    rw [if_pos (h r List.mem_cons_self)]
    exact ih (fun r' h' => h r' (List.mem_cons_of_mem _ h')) _
theorem fb_small : ∀ (rs : List Row) (j : Nat), fb p fl j rs = .non ∨ ∃ i : Nat, fb p fl j rs = .int (i : Nat) ∧ i < j + rs.length := by
  intro rs
  induction rs with
  | nil => intro j; exact .inl rfl
  | cons r rs ih =>
    intro j
    unfold fb
    split
    · rcases ih (j + 1) with e | ⟨i, e, hi⟩
      · exact .inl e
      · exact .inr ⟨i, e, by simp; omega⟩
    · exact .inr ⟨j, rfl, by simp⟩
/-- the numbers of the rows that are not met -/
theorem broken_fb : ∀ (rs : List Row) (j : Nat), fb p fl j rs = match ((rs.zipIdx j).filter fun q => !met p fl q.1).map fun q => D.int (q.2 : Nat) with | [] => .non | d :: _ => d := by
  intro rs
  induction rs with
  | nil => intro j; rfl
  | cons r rs ih =>
    intro j
    unfold fb
    rw [List.zipIdx_cons]
    cases h : met p fl r with
    | true => rw [List.filter_cons_of_neg (by simp [h]), ih (j + 1)]; rfl
    | false => rw [List.filter_cons_of_pos (by simp [h])]; rfl
theorem at_take {w : Int} (h0 : 0 ≤ w) (h1 : w < fl.length) (h : ∀ x ∈ fl, 0 ≤ x) : 0 ≤ at_ fl w := by
  unfold at_
  have hl : w.toNat < fl.length := by omega
  rw [List.getD_eq_getElem?_getD, List.getElem?_eq_getElem hl]
  exact h _ (List.getElem_mem hl)
theorem ne_nil {l : List (Row × Nat)} (hl : ∀ q ∈ l, q.2 < 10 ^ 9) (hn : l.length < 1000) : prm .ne [.lst (l.map fun q => D.int (q.2 : Nat)), .lst []] M = .ok (.bl (!l.isEmpty)) M := by
  have ok : okL (l.map fun q => D.int (q.2 : Nat)) = true := by
    clear hn
    induction l with
    | nil => rfl
    | cons q l ih =>
      have h1 := hl q List.mem_cons_self
      have : ((q.2 : Nat) : Int).natAbs < 10 ^ 12 := by omega
      simp only [List.map_cons, okL, okD, Bool.and_eq_true, decide_eq_true_eq]
      exact ⟨this, ih fun q' h' => hl q' (List.mem_cons_of_mem _ h')⟩
  have dp : dpL (l.map fun q => D.int (q.2 : Nat)) = 0 := by
    clear hn ok hl
    induction l with
    | nil => rfl
    | cons q l ih => simp only [List.map_cons, dpL, dpD, ih]; rfl
  obtain ⟨ps, h1, h2, h3, h4, h5, h6⟩ := pys_of _ ok
  have sh : SeqAt.shaped (.list ps) = true := by
    unfold SeqAt.shaped
    have : (PyData.list ps).depth ≤ 64 := by simp only [PyData.depth]; omega
    rw [decide_eq_true this]
    simp only [PyData.canLay0, h2]
    rfl
  have sh0 : SeqAt.shaped (.list []) = true := rfl
  have ev : PyData.eqv (.list ps) (.list []) = l.isEmpty := by
    cases l with
    | nil => cases h1; rfl
    | cons q l =>
      simp only [List.map_cons, toPys, toPy] at h1
      split at h1
      · cases h1; rfl
      · cases h1
  show pEq not [_, _] M = _
  simp only [pEq, eqD, eqP, toPy, toPys, h1, Option.map_some, sh, sh0, and_self, if_true, ev, RE.ofO]
/-- the other filling -/
def bend (fl : List Int) (w x : Int) : List Int := fl.take w.toNat ++ [x] ++ fl.drop (w + 1).toNat
theorem bend_ok {w x : Int} (fo : FillOk p many fl) (h0 : 0 ≤ w) (h1 : w < many) (x0 : 0 ≤ x) (x1 : x < p) : FillOk p many (bend fl w x) := by
  have hl := fo.len
  have mem : ∀ y ∈ bend fl w x, y = x ∨ y ∈ fl := fun y hy => by
    unfold bend at hy
    rcases List.mem_append.mp hy with z | z
    · rcases List.mem_append.mp z with z | z
      · exact .inr (List.mem_of_mem_take z)
      · exact .inl (List.mem_singleton.mp z)
    · exact .inr (List.mem_of_mem_drop z)
  refine ⟨?_, fun y hy => (mem y hy).elim (fun e => by omega) (fo.low y), fun y hy => (mem y hy).elim (fun e => by omega) (fo.high y)⟩
  unfold bend
  simp only [List.length_append, List.length_take, List.length_drop, List.length_singleton]
  omega
abbrev EL (x0 : Sl) (p : Int) (many : Nat) (sys : D) (fl : List Int) (x2 x3 x4 x9 x10 x11 x12 x13 x14 x15 : Sl) : Env :=
  [x0, .val (.obj 0), x2, x3, x4, .val (.int p), .val (.int many), .val sys, .val (fillD fl), x9, x10, x11, x12, x13, x14, x15]
def okF (fl : List Int) (h : ∀ x ∈ fl, 0 ≤ x) (h1 : ∀ x ∈ fl, x < 1000000) : okL (fl.map D.int) = true ∧ dpL (fl.map D.int) = 0 ∧ wtL (fl.map D.int) = 42 * fl.length := by
  induction fl with
  | nil => exact ⟨rfl, rfl, rfl⟩
  | cons a l ih =>
    obtain ⟨i1, i2, i3⟩ := ih (fun x hx => h x (List.mem_cons_of_mem _ hx)) fun x hx => h1 x (List.mem_cons_of_mem _ hx)
    have a0 := h a List.mem_cons_self
    have a1 := h1 a List.mem_cons_self
    have : a.natAbs < 10 ^ 12 := by omega
    refine ⟨?_, ?_, ?_⟩
    · simp only [List.map_cons, okL, okD, i1, Bool.and_true]
      exact decide_eq_true this
    · simp only [List.map_cons, dpL, dpD, i2]; rfl
    · simp only [List.map_cons, wtL, wtD, i3, List.length_cons]; omega
end
end K51

namespace K51
open PySem hiding Env
open L2 Fx
def bTurn : List S := match b_law.getD 1 .pass with | .for _ _ _ b => b | _ => []
def bAgain : List S := match bTurn.getD 3 .pass with | .for _ _ _ b => b | _ => []
def bAsk : List S := match bTurn.getD 4 .pass with | .for _ _ _ b => b | _ => []
def bOdd : List S := match bAsk.getD 0 .pass with | .for _ _ _ b => b | _ => []
section
variable {n : Nat} {p : Int} {many : Nat} {ins told fl : List Int} {rows : List Row} {M : Store} {x0 x2 x3 x4 x9 x10 x11 x12 x13 x14 x15 : Sl}
theorem alike2 {a b : D} (h : 1 ≤ n) (ha : okD a = true) (hb : okD b = true) (da : dpD a ≤ 60) (db : dpD b ≤ 60) (wa : wtD a ≤ 500000) (wb : wtD b ≤ 500000) : callN tab 200 n 32 [.lst [a, b], .lst [a, b]] M = .ok (.bl true) M :=
  t_alike h (by simp [okD, okL, ha, hb]) (by simp only [dpD, dpL]; omega) (by simp only [wtD, wtL]; omega)
/-- one more filling is asked -/
theorem again_step (hn : 14 ≤ n) (hp : p ∈ primes) (hp0 : 2 < p) (hp2 : p < 1000000) (hm : many < 400) (hm0 : 0 < many) (ok : SysOk p many ins told rows) (fo : FillOk p many fl) (hb : Bag M) :
    ∃ y9 y10 y11 y12 M', evB ⟨callN tab 200 n, 200⟩ bAgain (EL x0 p many (sysD p many ins told rows) fl x2 x3 x4 x9 x10 x11 x12 x13 x14 x15) M = .nx (EL x0 p many (sysD p many ins told rows) fl x2 x3 x4 y9 y10 y11 y12 x13 x14 x15) M' ∧ Bag M' := by
  let cf : Cf := ⟨callN tab 200 n, 200⟩
  let sy := sysD p many ins told rows
  obtain ⟨w, M1, h1, w0, w1, hb1⟩ := t_take (n := n) (m := many) (by omega) hb (by omega) (by omega)
  obtain ⟨t, M2, h2, t0, t1, hb2⟩ := t_take (n := n) (m := p - 1) (by omega) hb1 (by omega) (by omega)
  have hl := fo.len
  have fx : prm .ix [fillD fl, .int w] M1 = .ok (.int (at_ fl w)) M1 := fill_ix w0 (by omega)
  have z0 := Int.emod_nonneg (at_ fl w + 1 + t) (show p ≠ 0 by omega)
  have z1 := Int.emod_lt_of_pos (at_ fl w + 1 + t) (show 0 < p by omega)
  generalize hz : (at_ fl w + 1 + t) % p = z at z0 z1
  have bo := bend_ok (w := w) (x := z) fo w0 (by omega) z0 z1
  have e1 : ∀ M, prm (.sl false true) [fillD fl, .int w] M = .ok (.tup ((fl.take w.toNat).map .int)) M := fun M => by
    rw [List.map_take]; exact p_to w0
  have e2 : ∀ M, prm (.sl true false) [fillD fl, .int (w + 1)] M = .ok (.tup ((fl.drop (w + 1).toNat).map .int)) M := fun M => by
    rw [List.map_drop]; exact p_from (by omega)
  have e3 : ∀ M, prm .add [.tup ((fl.take w.toNat).map .int), .tup [.int z]] M = .ok (.tup ((fl.take w.toNat ++ [z]).map .int)) M := fun M => by
    rw [p_catT (by simp only [List.length_map, List.length_take, List.length_singleton]; show _ ≤ 16777216; omega), List.map_append]; rfl
  have e4 : ∀ M, prm .add [.tup ((fl.take w.toNat ++ [z]).map .int), .tup ((fl.drop (w + 1).toNat).map .int)] M = .ok (fillD (bend fl w z)) M := fun M => by
    rw [p_catT (by simp only [List.length_map, List.length_append, List.length_take, List.length_drop, List.length_singleton]; show _ ≤ 16777216; omega), ← List.map_append]; rfl
  obtain ⟨A, B, AB, e1, e2, e3, e4⟩ : ∃ A B AB : D, (∀ M, prm (.sl false true) [fillD fl, .int w] M = .ok A M) ∧ (∀ M, prm (.sl true false) [fillD fl, .int (w + 1)] M = .ok B M) ∧ (∀ M, prm .add [A, .tup [.int z]] M = .ok AB M) ∧ ∀ M, prm .add [AB, B] M = .ok (fillD (bend fl w z)) M := ⟨_, _, _, e1, e2, e3, e4⟩
  -- 1, 2
  have s1 : evS cf (bAgain.getD 0 .pass) (EL x0 p many sy fl x2 x3 x4 x9 x10 x11 x12 x13 x14 x15) M = .nx (EL x0 p many sy fl x2 x3 x4 (.val (.int w)) x10 x11 x12 x13 x14 x15) M1 := by
    simp [bAgain, bTurn, b_law, cf, h1]
  have s2 : evS cf (bAgain.getD 1 .pass) (EL x0 p many sy fl x2 x3 x4 (.val (.int w)) x10 x11 x12 x13 x14 x15) M1 = .nx (EL x0 p many sy fl x2 x3 x4 (.val (.int w)) (.val (fillD (bend fl w z))) x11 x12 x13 x14 x15) M2 := by
    have hpp : 0 < p := by omega
    simp [bAgain, bTurn, b_law, cf, e1, fx, h2, hpp, hz, e3, e2, e4]
  -- 3
  have few := ok.few
  let br := (rows.zipIdx 0).filter fun q => !met p (bend fl w z) q.1
  have brl : br.length ≤ 8 := Nat.le_trans (List.length_filter_le _ _) (by rw [List.length_zipIdx]; exact few)
  have s3 : evS cf (bAgain.getD 2 .pass) (EL x0 p many sy fl x2 x3 x4 (.val (.int w)) (.val (fillD (bend fl w z))) x11 x12 x13 x14 x15) M2 = .nx (EL x0 p many sy fl x2 x3 x4 (.val (.int w)) (.val (fillD (bend fl w z))) (.val (.lst (br.map fun q => D.int (q.2 : Nat)))) x12 x13 x14 x15) M2 := by
    have hc : evE cf (.comp (.v 14) (.t [(.n 14), (.n 15)]) .enum [(.pr .ix [(.v 7), (.c (.int 4))])] [(.not (.call 31 [(.v 5), (.v 15), (.v 10)]))] [14, 15]) (EL x0 p many sy fl x2 x3 x4 (.val (.int w)) (.val (fillD (bend fl w z))) x11 x12 x13 x14 x15) M2 = .ok (.lst (br.map fun q => D.int (q.2 : Nat))) M2 := by
      refine comp_if (ds := [.tup (rows.map rowD)]) (rows.zipIdx 0) (fun q => .tup [.int (q.2 : Nat), rowD q.1]) (fun q => D.int (q.2 : Nat)) (fun q => !met p (bend fl w z) q.1) (by simp [sy]) (by simp only [walkD, enum_map]) (fun q hq => ?_) (by rw [List.length_zipIdx]; show _ ≤ 16777216; omega)
      have hr : q.1 ∈ rows := by
        have := List.mem_zipIdx hq
        rw [this.2.2]
        exact List.getElem_mem _
      have lm := t_lmet (n := n) (M := M2) (fl := bend fl w z) (by omega) (by omega) hp2 (ok.hr q.1 hr) bo.len
      refine ⟨EL x0 p many sy fl x2 x3 x4 (.val (.int w)) (.val (fillD (bend fl w z))) x11 x12 x13 (.val (.int (q.2 : Nat))) (.val (rowD q.1)), rfl, by simp [cf, lm], fun _ => by simp⟩
    rw [show bAgain.getD 2 .pass = .asg (.n 11) (.comp (.v 14) (.t [(.n 14), (.n 15)]) .enum [(.pr .ix [(.v 7), (.c (.int 4))])] [(.not (.call 31 [(.v 5), (.v 15), (.v 10)]))] [14, 15]) from rfl, st_asg, hc]
    rfl
  -- 4
  have nn := ne_nil (l := br) (M := M2) (fun q hq => by
    have h1 := (List.mem_filter.mp hq).1
    have := List.mem_zipIdx h1
    omega) (by omega)
  have dueE : fb p (bend fl w z) 0 rows = match br.map fun q => D.int (q.2 : Nat) with | [] => .non | d :: _ => d := broken_fb rows 0
  have s4 : evS cf (bAgain.getD 3 .pass) (EL x0 p many sy fl x2 x3 x4 (.val (.int w)) (.val (fillD (bend fl w z))) (.val (.lst (br.map fun q => D.int (q.2 : Nat)))) x12 x13 x14 x15) M2 = .nx (EL x0 p many sy fl x2 x3 x4 (.val (.int w)) (.val (fillD (bend fl w z))) (.val (.lst (br.map fun q => D.int (q.2 : Nat)))) (.val (fb p (bend fl w z) 0 rows)) x13 x14 x15) M2 := by
    rw [dueE]
    generalize br = b at nn ⊢
    cases b with
    | nil => simp [bAgain, bTurn, b_law, nn]; simp at nn; simp [nn]
    | cons q b => simp at nn; simp [bAgain, bTurn, b_law, nn]
  -- 5, 6
  have ft := t_first (n := n) (M := M2) (by omega) hp (by omega) hp2 hm ok bo
  have mt := t_meets (n := n) (M := M2) (by omega) hp (by omega) hp2 hm ok bo
  obtain ⟨ti, tt⟩ := t_ins (n := n) (M := M2) (by omega) hp hm ok bo
  have bl := bo.len
  have a1 := t_at (n := n) (M := M2) (fl := bend fl w z) (ws := ins) (by omega) (fun i hi => by have := ok.hi i hi; omega) (by have := ok.inf; show _ ≤ 16777216; omega)
  have a2 := t_at (n := n) (M := M2) (fl := bend fl w z) (ws := told) (by omega) (fun i hi => by have := ok.ht i hi; omega) (by have := ok.tf; show _ ≤ 16777216; omega)
  have k1 : callN tab 200 n 32 [.lst [fb p (bend fl w z) 0 rows, .bl (isNon (fb p (bend fl w z) 0 rows))], .lst [fb p (bend fl w z) 0 rows, .bl (isNon (fb p (bend fl w z) 0 rows))]] M2 = .ok (.bl true) M2 := by
    refine alike2 (by omega) ?_ rfl ?_ (Nat.zero_le _) ?_ (by simp only [wtD]; omega)
    · rcases fb_small (p := p) (fl := bend fl w z) rows 0 with e | ⟨i, e, hi⟩
      · rw [e]; rfl
      · rw [e]
        have : ((i : Nat) : Int).natAbs < 10 ^ 12 := by omega
        exact decide_eq_true this
    · rcases fb_small (p := p) (fl := bend fl w z) rows 0 with e | ⟨i, e, hi⟩ <;> rw [e] <;> exact Nat.zero_le _
    · rcases fb_small (p := p) (fl := bend fl w z) rows 0 with e | ⟨i, e, hi⟩ <;> rw [e] <;> (simp only [wtD]; omega)
  have small : ∀ ws : List Int, (∀ i ∈ ws, 0 ≤ i ∧ i < many) → ws.length ≤ 400 → okD (fillD (ws.map (at_ (bend fl w z)))) = true ∧ dpD (fillD (ws.map (at_ (bend fl w z)))) ≤ 60 ∧ wtD (fillD (ws.map (at_ (bend fl w z)))) ≤ 500000 := fun ws hw hwl => by
    have mem : ∀ x ∈ ws.map (at_ (bend fl w z)), x ∈ bend fl w z := fun x hx => by
      obtain ⟨i, hi, e⟩ := List.mem_map.mp hx
      subst e
      have := hw i hi
      unfold at_
      have hlt : i.toNat < (bend fl w z).length := by omega
      rw [List.getD_eq_getElem?_getD, List.getElem?_eq_getElem hlt]
      exact List.getElem_mem hlt
    obtain ⟨o1, o2, o3⟩ := okF (ws.map (at_ (bend fl w z))) (fun x hx => bo.low x (mem x hx)) fun x hx => by have := bo.high x (mem x hx); omega
    refine ⟨o1, ?_, ?_⟩
    · show dpL _ + 1 ≤ 60
      rw [o2]; decide
    · show wtL _ ≤ 500000
      rw [o3, List.length_map]; omega
  obtain ⟨u1, u2, u3⟩ := small ins ok.hi (by have := ok.inf; omega)
  obtain ⟨v1, v2, v3⟩ := small told ok.ht (by have := ok.tf; omega)
  have k2 := alike2 (n := n) (M := M2) (by omega) u1 v1 u2 v2 u3 v3
  have s5 : evS cf (bAgain.getD 4 .pass) (EL x0 p many sy fl x2 x3 x4 (.val (.int w)) (.val (fillD (bend fl w z))) (.val (.lst (br.map fun q => D.int (q.2 : Nat)))) (.val (fb p (bend fl w z) 0 rows)) x13 x14 x15) M2 = .nx (EL x0 p many sy fl x2 x3 x4 (.val (.int w)) (.val (fillD (bend fl w z))) (.val (.lst (br.map fun q => D.int (q.2 : Nat)))) (.val (fb p (bend fl w z) 0 rows)) x13 x14 x15) M2 := by
    simp [bAgain, bTurn, b_law, cf, sy, ft, mt, k1]
  have s6 : evS cf (bAgain.getD 5 .pass) (EL x0 p many sy fl x2 x3 x4 (.val (.int w)) (.val (fillD (bend fl w z))) (.val (.lst (br.map fun q => D.int (q.2 : Nat)))) (.val (fb p (bend fl w z) 0 rows)) x13 x14 x15) M2 = .nx (EL x0 p many sy fl x2 x3 x4 (.val (.int w)) (.val (fillD (bend fl w z))) (.val (.lst (br.map fun q => D.int (q.2 : Nat)))) (.val (fb p (bend fl w z) 0 rows)) x13 x14 x15) M2 := by
    simp [bAgain, bTurn, b_law, cf, sy, ti, tt, a1, a2, k2]
  refine ⟨.val (.int w), .val (fillD (bend fl w z)), .val (.lst (br.map fun q => D.int (q.2 : Nat))), .val (fb p (bend fl w z) 0 rows), M2, ?_, hb2⟩
  rw [show bAgain = [bAgain.getD 0 .pass, bAgain.getD 1 .pass, bAgain.getD 2 .pass, bAgain.getD 3 .pass, bAgain.getD 4 .pass, bAgain.getD 5 .pass] from rfl, evB_nx s1, evB_nx s2, evB_nx s3, evB_nx s4, evB_nx s5, evB_nx s6, sb_nil]
/-- things that are no fillings -/
theorem odd_lst (hm : 4 ≤ n) {d : D} (hd : noTup d = true) : callN tab 200 n 12 [.int p, .int many, d] M = .ok (.bl false) M := t_residN (by omega) hd
theorem fok_long (h : fl.length = many) : fok p many (fl ++ [0]) = false := by
  unfold fok
  have : ¬ (fl ++ [0]).length = many := by simp; omega
  rw [decide_eq_false this]
  rfl
theorem fok_high : fok p many (fl.dropLast ++ [p]) = false := by
  unfold fok
  have : (fl.dropLast ++ [p]).all (fun i => decide (i < p)) = false := by
    rw [List.all_eq_false]
    exact ⟨p, by simp, by simp⟩
  rw [this, Bool.and_false, Bool.and_false]
theorem cut_last (l : List D) : cutD l none (some (-1)) = l.dropLast := by
  unfold cutD
  have e2 : HT.sIx l.length 0 none = 0 := HT.sIx_none _ _
  have e1 : HT.sIx l.length l.length (some (-1)) = l.length - 1 := by
    show (if (-1 : Int) < 0 then ((-1 : Int) + (l.length : Int)).toNat else min (-1 : Int).toNat l.length) = _
    rw [if_pos (by decide)]
    omega
  rw [e1, e2, List.drop_zero, Nat.sub_zero, List.dropLast_eq_take]
/-- one ask of one odd thing -/
theorem odd_step {d : D} {k : Nat} (hk : k = 17 ∨ k = 18 ∨ k = 19 ∨ k = 20) (hn : 14 ≤ n) (hp : p ∈ primes) (hm : many < 400) (ok : SysOk p many ins told rows) (hd : ∀ m, 4 ≤ m → callN tab 200 m 12 [.int p, .int many, d] M = .ok (.bl false) M) :
    turnF ⟨callN tab 200 n, 200⟩ (.n 13) bOdd d (EL x0 p many (sysD p many ins told rows) fl x2 x3 (.val (.fn k)) x9 x10 x11 x12 x13 x14 x15) M = .ct (EL x0 p many (sysD p many ins told rows) fl x2 x3 (.val (.fn k)) x9 x10 x11 x12 (.val d) x14 x15) M := by
  have a := ask_odd (n := n) (M := M) hk hn hp hm ok hd
  rw [turn_eq (ρ2 := EL x0 p many (sysD p many ins told rows) fl x2 x3 (.val (.fn k)) x9 x10 x11 x12 (.val d) x14 x15) rfl]
  have e : evB ⟨callN tab 200 n, 200⟩ [.ex (.callV 4 [(.v 7), (.v 13)]), .ret (.c (.bl false))] (EL x0 p many (sysD p many ins told rows) fl x2 x3 (.val (.fn k)) x9 x10 x11 x12 (.val d) x14 x15) M = .ex 0 [] (EL x0 p many (sysD p many ins told rows) fl x2 x3 (.val (.fn k)) x9 x10 x11 x12 (.val d) x14 x15) M := by
    simp [a]
  rw [show bOdd = [.try [.ex (.callV 4 [(.v 7), (.v 13)]), .ret (.c (.bl false))] 0 none [.cont]] from rfl, sb_cons]
  rw [evS, e]
  simp
theorem ask_step {k : Nat} (hk : k = 17 ∨ k = 18 ∨ k = 19 ∨ k = 20) (hn : 14 ≤ n) (hp : p ∈ primes) (hm : many < 400) (ok : SysOk p many ins told rows) (hf : fl.length = many) :
    ∃ y13, turnF ⟨callN tab 200 n, 200⟩ (.n 4) bAsk (.fn k) (EL x0 p many (sysD p many ins told rows) fl x2 x3 x4 x9 x10 x11 x12 x13 x14 x15) M = .nx (EL x0 p many (sysD p many ins told rows) fl x2 x3 (.val (.fn k)) x9 x10 x11 x12 y13 x14 x15) M := by
  refine ⟨.val .non, ?_⟩
  rw [turn_eq (ρ2 := EL x0 p many (sysD p many ins told rows) fl x2 x3 (.val (.fn k)) x9 x10 x11 x12 x13 x14 x15) rfl]
  have hl : ∀ m : Nat, m ≤ 500 → m ≤ LN := fun m h => by show m ≤ 16777216; omega
  have e1 : prm .add [fillD fl, .tup [.int 0]] M = .ok (fillD (fl ++ [0])) M := by
    unfold fillD
    rw [p_catT (by simp only [List.length_map, List.length_singleton]; exact hl _ (by omega)), List.map_append]; rfl
  have e2 : prm (.sl false true) [fillD fl, .int (-1)] M = .ok (fillD fl.dropLast) M := by
    show RE.ok (.tup (cutD (fl.map D.int) none (some (-1)))) M = _
    rw [cut_last, ← List.map_dropLast]
    rfl
  have e3 : prm .add [fillD fl.dropLast, .tup [.int p]] M = .ok (fillD (fl.dropLast ++ [p])) M := by
    unfold fillD
    rw [p_catT (by simp only [List.length_map, List.length_singleton, List.length_dropLast]; exact hl _ (by omega)), List.map_append]; rfl
  have e4 : prm .list [fillD fl] M = .ok (.lst (fl.map .int)) M := rfl
  have its : evL ⟨callN tab 200 n, 200⟩ [(.pr .tup [(.pr .add [(.v 8), (.pr .tup [(.c (.int 0))])]), (.pr .add [(.pr (.sl false true) [(.v 8), (.pr .neg [(.c (.int 1))])]), (.pr .tup [(.v 5)])]), (.pr .list [(.v 8)]), (.c .non)])] (EL x0 p many (sysD p many ins told rows) fl x2 x3 (.val (.fn k)) x9 x10 x11 x12 x13 x14 x15) M =
      .ok [.tup [fillD (fl ++ [0]), fillD (fl.dropLast ++ [p]), .lst (fl.map .int), .non]] M := by
    simp [e1, e2, e3, e4]
  have o1 := fun m (h : 4 ≤ m) => (t_resid (n := m) (p := p) (many := many) (fl := fl ++ [0]) (M := M) h (hl _ (by simp; omega))).trans (by rw [fok_long hf])
  have o2 := fun m (h : 4 ≤ m) => (t_resid (n := m) (p := p) (many := many) (fl := fl.dropLast ++ [p]) (M := M) h (hl _ (by simp; omega))).trans (by rw [fok_high])
  rw [show bAsk = [.for (.n 13) .seq [(.pr .tup [(.pr .add [(.v 8), (.pr .tup [(.c (.int 0))])]), (.pr .add [(.pr (.sl false true) [(.v 8), (.pr .neg [(.c (.int 1))])]), (.pr .tup [(.v 5)])]), (.pr .list [(.v 8)]), (.c .non)])] bOdd] from rfl]
  refine evB_nx ((st_forT its rfl).trans ?_)
  rw [loop_ct (odd_step hk hn hp hm ok o1), loop_ct (odd_step hk hn hp hm ok o2), loop_ct (odd_step hk hn hp hm ok fun m h => odd_lst h rfl), loop_ct (odd_step hk hn hp hm ok fun m h => odd_lst h rfl), loop_nil]
end
/-- one turn of the law -/
theorem law_turn {n : Nat} {M : Store} {x0 x2 x3 x4 x5 x6 x7 x8 x9 x10 x11 x12 x13 x14 x15 : Sl} {d : D} (hn : 14 ≤ n) (hb : Bag M) :
    ∃ y2 y3 y4 y5 y6 y7 y8 y9 y10 y11 y12 y13 y14 y15 M', turnF ⟨callN tab 200 n, 200⟩ (.n 2) bTurn d [x0, .val (.obj 0), x2, x3, x4, x5, x6, x7, x8, x9, x10, x11, x12, x13, x14, x15] M = .nx [x0, .val (.obj 0), y2, y3, y4, y5, y6, y7, y8, y9, y10, y11, y12, y13, y14, y15] M' ∧ Bag M' := by
  let cf : Cf := ⟨callN tab 200 n, 200⟩
  obtain ⟨p, M1, h1, hp, hb1⟩ := t_some (n := n) (l := primes) (by omega) hb (by decide) (by decide)
  obtain ⟨t, M2, h2, t0, t1, hb2⟩ := t_take (n := n) (m := 9) (by omega) hb1 (by decide) (by decide)
  have pb : 2 < p ∧ p < 1000000 := by
    simp only [primes, List.mem_cons, List.not_mem_nil, or_false] at hp
    omega
  obtain ⟨many, hmany⟩ : ∃ many : Nat, (many : Int) = 1 + t := ⟨(1 + t).toNat, by omega⟩
  obtain ⟨ins, told, rows, fl, M3, h3, fo, ok, met_, hb3⟩ := t_system (n := n) (p := p) (many := many) (M := M2) (by omega) pb.1 pb.2 (by omega) hb2
  have hm : many < 400 := by omega
  have ft := t_first (n := n) (M := M3) (by omega) hp (by omega) pb.2 hm ok fo
  have mt := t_meets (n := n) (M := M3) (by omega) hp (by omega) pb.2 hm ok fo
  rw [fb_met met_] at ft mt
  rw [turn_eq (ρ2 := [x0, .val (.obj 0), .val d, x3, x4, x5, x6, x7, x8, x9, x10, x11, x12, x13, x14, x15]) rfl]
  have hlst : ∀ M, prm .lst [.int 3, .int 5, .int 7, .int 13, .int 31, .int 251, .int 9973] M = .ok (.lst (primes.map .int)) M := fun M => rfl
  have s1 : evS cf (bTurn.getD 0 .pass) [x0, .val (.obj 0), .val d, x3, x4, x5, x6, x7, x8, x9, x10, x11, x12, x13, x14, x15] M = .nx [x0, .val (.obj 0), .val d, x3, x4, .val (.int p), .val (.int many), x7, x8, x9, x10, x11, x12, x13, x14, x15] M2 := by
    rw [hmany]
    rw [show bTurn.getD 0 .pass = .asg (.t [(.n 5), (.n 6)]) (.pr .tup [(.call 23 [(.v 1), (.pr .lst [(.c (.int 3)), (.c (.int 5)), (.c (.int 7)), (.c (.int 13)), (.c (.int 31)), (.c (.int 251)), (.c (.int 9973))])]), (.pr .add [(.c (.int 1)), (.call 22 [(.v 1), (.c (.int 9))])])]) from rfl]
    generalize primes.map D.int = L at h1 hlst
    simp [cf, hlst, h1, h2, bindT, bindTs, seqOf]
  have s2 : evS cf (bTurn.getD 1 .pass) [x0, .val (.obj 0), .val d, x3, x4, .val (.int p), .val (.int many), x7, x8, x9, x10, x11, x12, x13, x14, x15] M2 = .nx (EL x0 p many (sysD p many ins told rows) fl (.val d) x3 x4 x9 x10 x11 x12 x13 x14 x15) M3 := by
    rw [show bTurn.getD 1 .pass = .asg (.t [(.n 7), (.n 8)]) (.call 30 [(.v 1), (.v 5), (.v 6), (.c (.int 8))]) from rfl]
    simp [cf, h3, bindT, bindTs, seqOf]
  have s3 : evS cf (bTurn.getD 2 .pass) (EL x0 p many (sysD p many ins told rows) fl (.val d) x3 x4 x9 x10 x11 x12 x13 x14 x15) M3 = .nx (EL x0 p many (sysD p many ins told rows) fl (.val d) x3 x4 x9 x10 x11 x12 x13 x14 x15) M3 := by
    rw [show bTurn.getD 2 .pass = .ite (.or (.pr .notB [(.call 18 [(.v 7), (.v 8)]), (.c (.bl true))]) (.pr .notN [(.call 17 [(.v 7), (.v 8)])])) [.ret (.c (.bl false))] [] from rfl]
    simp [cf, ft, mt]
  -- the other fillings
  obtain ⟨ρ4, M4, h4, y3, y9, y10, y11, y12, hρ4, hb4⟩ := loopF_inv (J := fun _ ρ M' => ∃ y3 y9 y10 y11 y12, ρ = EL x0 p many (sysD p many ins told rows) fl (.val d) y3 x4 y9 y10 y11 y12 x13 x14 x15 ∧ Bag M') (f := turnF cf (.n 3) bAgain)
    ((List.range (6 : Int).toNat).map fun (i : Nat) => D.int (i : Nat)) 0 _ M3 ⟨x3, x9, x10, x11, x12, rfl, hb3⟩ fun k e ρ M hk ⟨z3, z9, z10, z11, z12, hρ, hb⟩ => by
      subst hρ
      obtain ⟨w9, w10, w11, w12, M', hs, hb'⟩ := again_step (n := n) (x0 := x0) (x2 := .val d) (x3 := .val e) (x4 := x4) (x9 := z9) (x10 := z10) (x11 := z11) (x12 := z12) (x13 := x13) (x14 := x14) (x15 := x15) hn hp pb.1 pb.2 hm (by omega) ok fo hb
      refine ⟨_, M', .inl ?_, .val e, w9, w10, w11, w12, rfl, hb'⟩
      rw [turn_eq (ρ2 := EL x0 p many (sysD p many ins told rows) fl (.val d) (.val e) x4 z9 z10 z11 z12 x13 x14 x15) rfl]
      exact hs
  subst hρ4
  have s4 : evS cf (bTurn.getD 3 .pass) (EL x0 p many (sysD p many ins told rows) fl (.val d) x3 x4 x9 x10 x11 x12 x13 x14 x15) M3 = .nx (EL x0 p many (sysD p many ins told rows) fl (.val d) y3 x4 y9 y10 y11 y12 x13 x14 x15) M4 := by
    rw [show bTurn.getD 3 .pass = .for (.n 3) .range1 [(.c (.int 6))] bAgain from rfl]
    exact (st_forT (ds := [.int 6]) (by simp) (walk_r1 (by decide))).trans h4
  -- the asks
  obtain ⟨a1, q1⟩ := ask_step (n := n) (M := M4) (fl := fl) (x0 := x0) (x2 := .val d) (x3 := y3) (x4 := x4) (x9 := y9) (x10 := y10) (x11 := y11) (x12 := y12) (x13 := x13) (x14 := x14) (x15 := x15) (k := 17) (.inl rfl) hn hp hm ok fo.len
  obtain ⟨a2, q2⟩ := ask_step (n := n) (M := M4) (fl := fl) (x0 := x0) (x2 := .val d) (x3 := y3) (x4 := .val (.fn 17)) (x9 := y9) (x10 := y10) (x11 := y11) (x12 := y12) (x13 := a1) (x14 := x14) (x15 := x15) (k := 18) (.inr (.inl rfl)) hn hp hm ok fo.len
  obtain ⟨a3, q3⟩ := ask_step (n := n) (M := M4) (fl := fl) (x0 := x0) (x2 := .val d) (x3 := y3) (x4 := .val (.fn 18)) (x9 := y9) (x10 := y10) (x11 := y11) (x12 := y12) (x13 := a2) (x14 := x14) (x15 := x15) (k := 19) (.inr (.inr (.inl rfl))) hn hp hm ok fo.len
  obtain ⟨a4, q4⟩ := ask_step (n := n) (M := M4) (fl := fl) (x0 := x0) (x2 := .val d) (x3 := y3) (x4 := .val (.fn 19)) (x9 := y9) (x10 := y10) (x11 := y11) (x12 := y12) (x13 := a3) (x14 := x14) (x15 := x15) (k := 20) (.inr (.inr (.inr rfl))) hn hp hm ok fo.len
  have s5 : evS cf (bTurn.getD 4 .pass) (EL x0 p many (sysD p many ins told rows) fl (.val d) y3 x4 y9 y10 y11 y12 x13 x14 x15) M4 = .nx (EL x0 p many (sysD p many ins told rows) fl (.val d) y3 (.val (.fn 20)) y9 y10 y11 y12 a4 x14 x15) M4 := by
    rw [show bTurn.getD 4 .pass = .for (.n 4) .seq [(.pr .tup [(.f 17), (.f 18), (.f 19), (.f 20)])] bAsk from rfl]
    refine (st_forT (M1 := M4) (ds := [.tup [.fn 17, .fn 18, .fn 19, .fn 20]]) (by simp) rfl).trans ?_
    rw [loop_nx q1, loop_nx q2, loop_nx q3, loop_nx q4, loop_nil]
  refine ⟨.val d, y3, .val (.fn 20), .val (.int p), .val (.int many), .val (sysD p many ins told rows), .val (fillD fl), y9, y10, y11, y12, a4, x14, x15, M4, ?_, hb4⟩
  rw [show bTurn = [bTurn.getD 0 .pass, bTurn.getD 1 .pass, bTurn.getD 2 .pass, bTurn.getD 3 .pass, bTurn.getD 4 .pass] from rfl]
  exact (evB_nx s1).trans ((evB_nx s2).trans ((evB_nx s3).trans ((evB_nx s4).trans ((evB_nx s5).trans sb_nil))))
/-- the law -/
theorem plain (ns : List Int) (hl : ns.length ≤ 63) : ∃ M, Fx.callN tab 200 20 34 [.lst (ns.map .int)] [] = .ok (.bl true) M := by
  obtain ⟨M1, h1, hb1⟩ := t_bag (n := 19) (ns := ns) (by decide) hl
  let cf : Cf := ⟨callN tab 200 19, 200⟩
  let x0 : Sl := .val (.lst (ns.map .int))
  obtain ⟨ρ2, M2, h2, y2, y3, y4, y5, y6, y7, y8, y9, y10, y11, y12, y13, y14, y15, hρ, hb2⟩ := loopF_inv (J := fun _ ρ M' => ∃ y2 y3 y4 y5 y6 y7 y8 y9 y10 y11 y12 y13 y14 y15, ρ = [x0, .val (.obj 0), y2, y3, y4, y5, y6, y7, y8, y9, y10, y11, y12, y13, y14, y15] ∧ Bag M') (f := turnF cf (.n 2) bTurn)
    ((List.range (6 : Int).toNat).map fun (i : Nat) => D.int (i : Nat)) 0 [x0, .val (.obj 0), .no, .no, .no, .no, .no, .no, .no, .no, .no, .no, .no, .no, .no, .no] M1 ⟨_, _, _, _, _, _, _, _, _, _, _, _, _, _, rfl, hb1⟩ fun k e ρ M hk ⟨z2, z3, z4, z5, z6, z7, z8, z9, z10, z11, z12, z13, z14, z15, hρ, hb⟩ => by
      subst hρ
      obtain ⟨w2, w3, w4, w5, w6, w7, w8, w9, w10, w11, w12, w13, w14, w15, M', hs, hb'⟩ := law_turn (n := 19) (M := M) (x0 := x0) (x2 := z2) (x3 := z3) (x4 := z4) (x5 := z5) (x6 := z6) (x7 := z7) (x8 := z8) (x9 := z9) (x10 := z10) (x11 := z11) (x12 := z12) (x13 := z13) (x14 := z14) (x15 := z15) (d := e) (by decide) hb
      exact ⟨_, M', .inl hs, w2, w3, w4, w5, w6, w7, w8, w9, w10, w11, w12, w13, w14, w15, rfl, hb'⟩
  subst hρ
  refine ⟨M2, ?_⟩
  rw [callN_at rfl rfl]
  show fin (evB cf b_law [x0, .no, .no, .no, .no, .no, .no, .no, .no, .no, .no, .no, .no, .no, .no, .no] []) = _
  have s0 : evS cf (b_law.getD 0 .pass) [x0, .no, .no, .no, .no, .no, .no, .no, .no, .no, .no, .no, .no, .no, .no, .no] [] = .nx [x0, .val (.obj 0), .no, .no, .no, .no, .no, .no, .no, .no, .no, .no, .no, .no, .no, .no] M1 := by
    rw [show b_law.getD 0 .pass = .asg (.n 1) (.call 21 [(.v 0)]) from rfl]
    simp [cf, x0, h1]
  have s1 : evS cf (b_law.getD 1 .pass) [x0, .val (.obj 0), .no, .no, .no, .no, .no, .no, .no, .no, .no, .no, .no, .no, .no, .no] M1 = .nx [x0, .val (.obj 0), y2, y3, y4, y5, y6, y7, y8, y9, y10, y11, y12, y13, y14, y15] M2 := by
    rw [show b_law.getD 1 .pass = .for (.n 2) .range1 [(.c (.int 6))] bTurn from rfl]
    exact (st_forT (ds := [.int 6]) (by simp) (walk_r1 (by decide))).trans h2
  rw [show b_law = [b_law.getD 0 .pass, b_law.getD 1 .pass, .ret (.c (.bl true))] from rfl, evB_nx s0, evB_nx s1]
  simp
end K51

namespace K51
open PySem PySem.Spec PyProof.Rows L2
theorem s_is_number : FnScope n_is_number [PySem.Str.ofString "thing"] (defScope (topS 8)) := ⟨rfl, rfl, rfl, by decide +kernel, rfl, by decide +kernel, by decide +kernel⟩
theorem s_is_index : FnScope n_is_index [PySem.Str.ofString "thing"] (defScope (topS 9)) := ⟨rfl, rfl, rfl, by decide +kernel, rfl, by decide +kernel, by decide +kernel⟩
theorem s_is_sized : FnScope n_is_sized [PySem.Str.ofString "thing", PySem.Str.ofString "many"] (defScope (topS 10)) := ⟨rfl, rfl, rfl, by decide +kernel, rfl, by decide +kernel, by decide +kernel⟩
theorem s_is_tuple_of : FnScope n_is_tuple_of [PySem.Str.ofString "thing", PySem.Str.ofString "is_one"] (defScope (topS 11)) := ⟨rfl, rfl, rfl, by decide +kernel, rfl, by decide +kernel, by decide +kernel⟩
theorem s_is_prime : FnScope n_is_prime [PySem.Str.ofString "thing"] (defScope (topS 12)) := ⟨rfl, rfl, rfl, by decide +kernel, rfl, by decide +kernel, by decide +kernel⟩
theorem s_is_part : FnScope n_is_part [PySem.Str.ofString "thing"] (defScope (topS 13)) := ⟨rfl, rfl, rfl, by decide +kernel, rfl, by decide +kernel, by decide +kernel⟩
theorem s_is_sum : FnScope n_is_sum [PySem.Str.ofString "thing"] (defScope (topS 14)) := ⟨rfl, rfl, rfl, by decide +kernel, rfl, by decide +kernel, by decide +kernel⟩
theorem s_is_equation : FnScope n_is_equation [PySem.Str.ofString "thing"] (defScope (topS 15)) := ⟨rfl, rfl, rfl, by decide +kernel, rfl, by decide +kernel, by decide +kernel⟩
theorem s_is_system : FnScope n_is_system [PySem.Str.ofString "thing"] (defScope (topS 16)) := ⟨rfl, rfl, rfl, by decide +kernel, rfl, by decide +kernel, by decide +kernel⟩
theorem s_are_ascending : FnScope n_are_ascending [PySem.Str.ofString "some"] (defScope (topS 20)) := ⟨rfl, rfl, rfl, by decide +kernel, rfl, by decide +kernel, by decide +kernel⟩
theorem s_is_sum_below : FnScope n_is_sum_below [PySem.Str.ofString "p", PySem.Str.ofString "many", PySem.Str.ofString "one"] (defScope (topS 21)) := ⟨rfl, rfl, rfl, by decide +kernel, rfl, by decide +kernel, by decide +kernel⟩
theorem s_checked_system : FnScope n_checked_system [PySem.Str.ofString "thing"] (defScope (topS 22)) := ⟨rfl, rfl, rfl, by decide +kernel, rfl, by decide +kernel, by decide +kernel⟩
theorem s_is_residues : FnScope n_is_residues [PySem.Str.ofString "p", PySem.Str.ofString "many", PySem.Str.ofString "thing"] (defScope (topS 23)) := ⟨rfl, rfl, rfl, by decide +kernel, rfl, by decide +kernel, by decide +kernel⟩
theorem s_is_filling : FnScope n_is_filling [PySem.Str.ofString "system", PySem.Str.ofString "thing"] (defScope (topS 24)) := ⟨rfl, rfl, rfl, by decide +kernel, rfl, by decide +kernel, by decide +kernel⟩
theorem s_check_filling : FnScope n_check_filling [PySem.Str.ofString "system", PySem.Str.ofString "thing"] (defScope (topS 25)) := ⟨rfl, rfl, rfl, by decide +kernel, rfl, by decide +kernel, by decide +kernel⟩
theorem s_reckoned : FnScope n_reckoned [PySem.Str.ofString "p", PySem.Str.ofString "one", PySem.Str.ofString "filling"] (defScope (topS 26)) := ⟨rfl, rfl, rfl, by decide +kernel, rfl, by decide +kernel, by decide +kernel⟩
theorem s_is_met : FnScope n_is_met [PySem.Str.ofString "p", PySem.Str.ofString "row", PySem.Str.ofString "filling"] (defScope (topS 27)) := ⟨rfl, rfl, rfl, by decide +kernel, rfl, by decide +kernel, by decide +kernel⟩
theorem s_first_broken : FnScope n_first_broken [PySem.Str.ofString "system", PySem.Str.ofString "filling"] (defScope (topS 28)) := ⟨rfl, rfl, rfl, by decide +kernel, rfl, by decide +kernel, by decide +kernel⟩
theorem s_meets : FnScope n_meets [PySem.Str.ofString "system", PySem.Str.ofString "filling"] (defScope (topS 29)) := ⟨rfl, rfl, rfl, by decide +kernel, rfl, by decide +kernel, by decide +kernel⟩
theorem s_inputs_in : FnScope n_inputs_in [PySem.Str.ofString "system", PySem.Str.ofString "filling"] (defScope (topS 30)) := ⟨rfl, rfl, rfl, by decide +kernel, rfl, by decide +kernel, by decide +kernel⟩
theorem s_told_in : FnScope n_told_in [PySem.Str.ofString "system", PySem.Str.ofString "filling"] (defScope (topS 31)) := ⟨rfl, rfl, rfl, by decide +kernel, rfl, by decide +kernel, by decide +kernel⟩
theorem s__law_bag : FnScope n__law_bag [PySem.Str.ofString "script"] (defScope (topS 33)) := ⟨rfl, rfl, rfl, by decide +kernel, rfl, by decide +kernel, by decide +kernel⟩
theorem s__law_take : FnScope n__law_take [PySem.Str.ofString "bag", PySem.Str.ofString "many"] (defScope (topS 34)) := ⟨rfl, rfl, rfl, by decide +kernel, rfl, by decide +kernel, by decide +kernel⟩
theorem s__law_some : FnScope n__law_some [PySem.Str.ofString "bag", PySem.Str.ofString "things"] (defScope (topS 35)) := ⟨rfl, rfl, rfl, by decide +kernel, rfl, by decide +kernel, by decide +kernel⟩
theorem s__law_some_filling : FnScope n__law_some_filling [PySem.Str.ofString "bag", PySem.Str.ofString "p", PySem.Str.ofString "many"] (defScope (topS 36)) := ⟨rfl, rfl, rfl, by decide +kernel, rfl, by decide +kernel, by decide +kernel⟩
theorem s__law_sum : FnScope n__law_sum [PySem.Str.ofString "p", PySem.Str.ofString "constant", PySem.Str.ofString "parts"] (defScope (topS 37)) := ⟨rfl, rfl, rfl, by decide +kernel, rfl, by decide +kernel, by decide +kernel⟩
theorem s__law_some_sum : FnScope n__law_some_sum [PySem.Str.ofString "bag", PySem.Str.ofString "p", PySem.Str.ofString "many"] (defScope (topS 38)) := ⟨rfl, rfl, rfl, by decide +kernel, rfl, by decide +kernel, by decide +kernel⟩
theorem s__law_wire : FnScope n__law_wire [PySem.Str.ofString "wire"] (defScope (topS 39)) := ⟨rfl, rfl, rfl, by decide +kernel, rfl, by decide +kernel, by decide +kernel⟩
theorem s__law_plus : FnScope n__law_plus [PySem.Str.ofString "p", PySem.Str.ofString "one", PySem.Str.ofString "often", PySem.Str.ofString "other"] (defScope (topS 40)) := ⟨rfl, rfl, rfl, by decide +kernel, rfl, by decide +kernel, by decide +kernel⟩
theorem s__law_value : FnScope n__law_value [PySem.Str.ofString "p", PySem.Str.ofString "its", PySem.Str.ofString "filling"] (defScope (topS 41)) := ⟨rfl, rfl, rfl, by decide +kernel, rfl, by decide +kernel, by decide +kernel⟩
theorem s__law_system : FnScope n__law_system [PySem.Str.ofString "bag", PySem.Str.ofString "p", PySem.Str.ofString "many", PySem.Str.ofString "most"] (defScope (topS 42)) := ⟨rfl, rfl, rfl, by decide +kernel, rfl, by decide +kernel, by decide +kernel⟩
theorem s__law_met : FnScope n__law_met [PySem.Str.ofString "p", PySem.Str.ofString "row", PySem.Str.ofString "filling"] (defScope (topS 43)) := ⟨rfl, rfl, rfl, by decide +kernel, rfl, by decide +kernel, by decide +kernel⟩
theorem s__law_alike : FnScope n__law_alike [PySem.Str.ofString "found", PySem.Str.ofString "due"] (defScope (topS 44)) := ⟨rfl, rfl, rfl, by decide +kernel, rfl, by decide +kernel, by decide +kernel⟩
theorem s__law_at : FnScope n__law_at [PySem.Str.ofString "filling", PySem.Str.ofString "wires"] (defScope (topS 45)) := ⟨rfl, rfl, rfl, by decide +kernel, rfl, by decide +kernel, by decide +kernel⟩
theorem s_law : FnScope n_law [PySem.Str.ofString "script"] (defScope (topS 46)) := ⟨rfl, rfl, rfl, by decide +kernel, rfl, by decide +kernel, by decide +kernel⟩
set_option maxHeartbeats 0 in
theorem facts {K : PySem.W.Frag} {h : Heap} {mg : PySem.Str → Option Value} {fa : Addr} (X : K.In h) (G : h.Ns mainGlobals mg) (hfa : mg "law" = some (.ref fa))
    {f0 f1 f2 f3 f4 f5 f6 f7 f8 f9 f10 f11 f12 f13 f14 f15 f16 f17 f18 f19 f20 f21 f22 f23 f24 f25 f26 f27 f28 f29 f30 f31 f32 f33 f34 ec : Addr} {od0 an0 od1 an1 od2 an2 od3 an3 od4 an4 od5 an5 od6 an6 od7 an7 od8 an8 od9 an9 od10 an10 od11 an11 od12 an12 od13 an13 od14 an14 od15 an15 od16 an16 od17 an17 od18 an18 od19 an19 od20 an20 od21 an21 od22 an22 od23 an23 od24 an24 od25 an25 od26 an26 od27 an27 od28 an28 od29 an29 od30 an30 od31 an31 od32 an32 od33 an33 od34 an34 : Option Addr} {sl0 sl1 sl2 sl3 sl4 sl5 sl6 sl7 sl8 sl9 sl10 sl11 sl12 sl13 sl14 sl15 sl16 sl17 sl18 sl19 sl20 sl21 sl22 sl23 sl24 sl25 sl26 sl27 sl28 sl29 sl30 sl31 sl32 sl33 sl34 : Array (Option Value)} {oc0 kV0 dc0 pm0 cd0 ct0 oc1 kV1 dc1 pm1 cd1 ct1 oc2 kV2 dc2 pm2 cd2 ct2 oc3 kV3 dc3 pm3 cd3 ct3 oc4 kV4 dc4 pm4 cd4 ct4 oc5 kV5 dc5 pm5 cd5 ct5 oc6 kV6 dc6 pm6 cd6 ct6 oc7 kV7 dc7 pm7 cd7 ct7 oc8 kV8 dc8 pm8 cd8 ct8 oc9 kV9 dc9 pm9 cd9 ct9 oc10 kV10 dc10 pm10 cd10 ct10 oc11 kV11 dc11 pm11 cd11 ct11 oc12 kV12 dc12 pm12 cd12 ct12 oc13 kV13 dc13 pm13 cd13 ct13 oc14 kV14 dc14 pm14 cd14 ct14 oc15 kV15 dc15 pm15 cd15 ct15 oc16 kV16 dc16 pm16 cd16 ct16 oc17 kV17 dc17 pm17 cd17 ct17 oc18 kV18 dc18 pm18 cd18 ct18 oc19 kV19 dc19 pm19 cd19 ct19 oc20 kV20 dc20 pm20 cd20 ct20 oc21 kV21 dc21 pm21 cd21 ct21 oc22 kV22 dc22 pm22 cd22 ct22 oc23 kV23 dc23 pm23 cd23 ct23 oc24 kV24 dc24 pm24 cd24 ct24 oc25 kV25 dc25 pm25 cd25 ct25 oc26 kV26 dc26 pm26 cd26 ct26 oc27 kV27 dc27 pm27 cd27 ct27 oc28 kV28 dc28 pm28 cd28 ct28 oc29 kV29 dc29 pm29 cd29 ct29 oc30 kV30 dc30 pm30 cd30 ct30 oc31 kV31 dc31 pm31 cd31 ct31 oc32 kV32 dc32 pm32 cd32 ct32 oc33 kV33 dc33 pm33 cd33 ct33 oc34 kV34 dc34 pm34 cd34 ct34 : Value}
    (a0 : PySem.W.nsIn K mainGlobals "is_number" = some (some (.ref f0)))
    (l0 : K.lookup f0 = some ⟨oc0, od0, .func (PySem.W.fnOf "is_number" "is_number" (defArgs (topS 8)) (defBody (topS 8)) (defScope (topS 8)) .none kV0 dc0 pm0 an0 cd0 ct0), sl0⟩)
    (c0 : PySem.W.codeIn K cd0 "is_number" = true) (k0 : PySem.W.keepIn K (.ref f0) = true)
    (a1 : PySem.W.nsIn K mainGlobals "is_index" = some (some (.ref f1)))
    (l1 : K.lookup f1 = some ⟨oc1, od1, .func (PySem.W.fnOf "is_index" "is_index" (defArgs (topS 9)) (defBody (topS 9)) (defScope (topS 9)) .none kV1 dc1 pm1 an1 cd1 ct1), sl1⟩)
    (c1 : PySem.W.codeIn K cd1 "is_index" = true) (k1 : PySem.W.keepIn K (.ref f1) = true)
    (a2 : PySem.W.nsIn K mainGlobals "is_sized" = some (some (.ref f2)))
    (l2 : K.lookup f2 = some ⟨oc2, od2, .func (PySem.W.fnOf "is_sized" "is_sized" (defArgs (topS 10)) (defBody (topS 10)) (defScope (topS 10)) .none kV2 dc2 pm2 an2 cd2 ct2), sl2⟩)
    (c2 : PySem.W.codeIn K cd2 "is_sized" = true) (k2 : PySem.W.keepIn K (.ref f2) = true)
    (a3 : PySem.W.nsIn K mainGlobals "is_tuple_of" = some (some (.ref f3)))
    (l3 : K.lookup f3 = some ⟨oc3, od3, .func (PySem.W.fnOf "is_tuple_of" "is_tuple_of" (defArgs (topS 11)) (defBody (topS 11)) (defScope (topS 11)) .none kV3 dc3 pm3 an3 cd3 ct3), sl3⟩)
    (c3 : PySem.W.codeIn K cd3 "is_tuple_of" = true) (k3 : PySem.W.keepIn K (.ref f3) = true)
    (a4 : PySem.W.nsIn K mainGlobals "is_prime" = some (some (.ref f4)))
    (l4 : K.lookup f4 = some ⟨oc4, od4, .func (PySem.W.fnOf "is_prime" "is_prime" (defArgs (topS 12)) (defBody (topS 12)) (defScope (topS 12)) .none kV4 dc4 pm4 an4 cd4 ct4), sl4⟩)
    (c4 : PySem.W.codeIn K cd4 "is_prime" = true) (k4 : PySem.W.keepIn K (.ref f4) = true)
    (a5 : PySem.W.nsIn K mainGlobals "is_part" = some (some (.ref f5)))
    (l5 : K.lookup f5 = some ⟨oc5, od5, .func (PySem.W.fnOf "is_part" "is_part" (defArgs (topS 13)) (defBody (topS 13)) (defScope (topS 13)) .none kV5 dc5 pm5 an5 cd5 ct5), sl5⟩)
    (c5 : PySem.W.codeIn K cd5 "is_part" = true) (k5 : PySem.W.keepIn K (.ref f5) = true)
    (a6 : PySem.W.nsIn K mainGlobals "is_sum" = some (some (.ref f6)))
    (l6 : K.lookup f6 = some ⟨oc6, od6, .func (PySem.W.fnOf "is_sum" "is_sum" (defArgs (topS 14)) (defBody (topS 14)) (defScope (topS 14)) .none kV6 dc6 pm6 an6 cd6 ct6), sl6⟩)
    (c6 : PySem.W.codeIn K cd6 "is_sum" = true) (k6 : PySem.W.keepIn K (.ref f6) = true)
    (a7 : PySem.W.nsIn K mainGlobals "is_equation" = some (some (.ref f7)))
    (l7 : K.lookup f7 = some ⟨oc7, od7, .func (PySem.W.fnOf "is_equation" "is_equation" (defArgs (topS 15)) (defBody (topS 15)) (defScope (topS 15)) .none kV7 dc7 pm7 an7 cd7 ct7), sl7⟩)
    (c7 : PySem.W.codeIn K cd7 "is_equation" = true) (k7 : PySem.W.keepIn K (.ref f7) = true)
    (a8 : PySem.W.nsIn K mainGlobals "is_system" = some (some (.ref f8)))
    (l8 : K.lookup f8 = some ⟨oc8, od8, .func (PySem.W.fnOf "is_system" "is_system" (defArgs (topS 16)) (defBody (topS 16)) (defScope (topS 16)) .none kV8 dc8 pm8 an8 cd8 ct8), sl8⟩)
    (c8 : PySem.W.codeIn K cd8 "is_system" = true) (k8 : PySem.W.keepIn K (.ref f8) = true)
    (a9 : PySem.W.nsIn K mainGlobals "are_ascending" = some (some (.ref f9)))
    (l9 : K.lookup f9 = some ⟨oc9, od9, .func (PySem.W.fnOf "are_ascending" "are_ascending" (defArgs (topS 20)) (defBody (topS 20)) (defScope (topS 20)) .none kV9 dc9 pm9 an9 cd9 ct9), sl9⟩)
    (c9 : PySem.W.codeIn K cd9 "are_ascending" = true) (k9 : PySem.W.keepIn K (.ref f9) = true)
    (a10 : PySem.W.nsIn K mainGlobals "is_sum_below" = some (some (.ref f10)))
    (l10 : K.lookup f10 = some ⟨oc10, od10, .func (PySem.W.fnOf "is_sum_below" "is_sum_below" (defArgs (topS 21)) (defBody (topS 21)) (defScope (topS 21)) .none kV10 dc10 pm10 an10 cd10 ct10), sl10⟩)
    (c10 : PySem.W.codeIn K cd10 "is_sum_below" = true) (k10 : PySem.W.keepIn K (.ref f10) = true)
    (a11 : PySem.W.nsIn K mainGlobals "checked_system" = some (some (.ref f11)))
    (l11 : K.lookup f11 = some ⟨oc11, od11, .func (PySem.W.fnOf "checked_system" "checked_system" (defArgs (topS 22)) (defBody (topS 22)) (defScope (topS 22)) .none kV11 dc11 pm11 an11 cd11 ct11), sl11⟩)
    (c11 : PySem.W.codeIn K cd11 "checked_system" = true) (k11 : PySem.W.keepIn K (.ref f11) = true)
    (a12 : PySem.W.nsIn K mainGlobals "is_residues" = some (some (.ref f12)))
    (l12 : K.lookup f12 = some ⟨oc12, od12, .func (PySem.W.fnOf "is_residues" "is_residues" (defArgs (topS 23)) (defBody (topS 23)) (defScope (topS 23)) .none kV12 dc12 pm12 an12 cd12 ct12), sl12⟩)
    (c12 : PySem.W.codeIn K cd12 "is_residues" = true) (k12 : PySem.W.keepIn K (.ref f12) = true)
    (a13 : PySem.W.nsIn K mainGlobals "is_filling" = some (some (.ref f13)))
    (l13 : K.lookup f13 = some ⟨oc13, od13, .func (PySem.W.fnOf "is_filling" "is_filling" (defArgs (topS 24)) (defBody (topS 24)) (defScope (topS 24)) .none kV13 dc13 pm13 an13 cd13 ct13), sl13⟩)
    (c13 : PySem.W.codeIn K cd13 "is_filling" = true) (k13 : PySem.W.keepIn K (.ref f13) = true)
    (a14 : PySem.W.nsIn K mainGlobals "check_filling" = some (some (.ref f14)))
    (l14 : K.lookup f14 = some ⟨oc14, od14, .func (PySem.W.fnOf "check_filling" "check_filling" (defArgs (topS 25)) (defBody (topS 25)) (defScope (topS 25)) .none kV14 dc14 pm14 an14 cd14 ct14), sl14⟩)
    (c14 : PySem.W.codeIn K cd14 "check_filling" = true) (k14 : PySem.W.keepIn K (.ref f14) = true)
    (a15 : PySem.W.nsIn K mainGlobals "reckoned" = some (some (.ref f15)))
    (l15 : K.lookup f15 = some ⟨oc15, od15, .func (PySem.W.fnOf "reckoned" "reckoned" (defArgs (topS 26)) (defBody (topS 26)) (defScope (topS 26)) .none kV15 dc15 pm15 an15 cd15 ct15), sl15⟩)
    (c15 : PySem.W.codeIn K cd15 "reckoned" = true) (k15 : PySem.W.keepIn K (.ref f15) = true)
    (a16 : PySem.W.nsIn K mainGlobals "is_met" = some (some (.ref f16)))
    (l16 : K.lookup f16 = some ⟨oc16, od16, .func (PySem.W.fnOf "is_met" "is_met" (defArgs (topS 27)) (defBody (topS 27)) (defScope (topS 27)) .none kV16 dc16 pm16 an16 cd16 ct16), sl16⟩)
    (c16 : PySem.W.codeIn K cd16 "is_met" = true) (k16 : PySem.W.keepIn K (.ref f16) = true)
    (a17 : PySem.W.nsIn K mainGlobals "first_broken" = some (some (.ref f17)))
    (l17 : K.lookup f17 = some ⟨oc17, od17, .func (PySem.W.fnOf "first_broken" "first_broken" (defArgs (topS 28)) (defBody (topS 28)) (defScope (topS 28)) .none kV17 dc17 pm17 an17 cd17 ct17), sl17⟩)
    (c17 : PySem.W.codeIn K cd17 "first_broken" = true) (k17 : PySem.W.keepIn K (.ref f17) = true)
    (a18 : PySem.W.nsIn K mainGlobals "meets" = some (some (.ref f18)))
    (l18 : K.lookup f18 = some ⟨oc18, od18, .func (PySem.W.fnOf "meets" "meets" (defArgs (topS 29)) (defBody (topS 29)) (defScope (topS 29)) .none kV18 dc18 pm18 an18 cd18 ct18), sl18⟩)
    (c18 : PySem.W.codeIn K cd18 "meets" = true) (k18 : PySem.W.keepIn K (.ref f18) = true)
    (a19 : PySem.W.nsIn K mainGlobals "inputs_in" = some (some (.ref f19)))
    (l19 : K.lookup f19 = some ⟨oc19, od19, .func (PySem.W.fnOf "inputs_in" "inputs_in" (defArgs (topS 30)) (defBody (topS 30)) (defScope (topS 30)) .none kV19 dc19 pm19 an19 cd19 ct19), sl19⟩)
    (c19 : PySem.W.codeIn K cd19 "inputs_in" = true) (k19 : PySem.W.keepIn K (.ref f19) = true)
    (a20 : PySem.W.nsIn K mainGlobals "told_in" = some (some (.ref f20)))
    (l20 : K.lookup f20 = some ⟨oc20, od20, .func (PySem.W.fnOf "told_in" "told_in" (defArgs (topS 31)) (defBody (topS 31)) (defScope (topS 31)) .none kV20 dc20 pm20 an20 cd20 ct20), sl20⟩)
    (c20 : PySem.W.codeIn K cd20 "told_in" = true) (k20 : PySem.W.keepIn K (.ref f20) = true)
    (a21 : PySem.W.nsIn K mainGlobals "_law_bag" = some (some (.ref f21)))
    (l21 : K.lookup f21 = some ⟨oc21, od21, .func (PySem.W.fnOf "_law_bag" "_law_bag" (defArgs (topS 33)) (defBody (topS 33)) (defScope (topS 33)) .none kV21 dc21 pm21 an21 cd21 ct21), sl21⟩)
    (c21 : PySem.W.codeIn K cd21 "_law_bag" = true) (k21 : PySem.W.keepIn K (.ref f21) = true)
    (a22 : PySem.W.nsIn K mainGlobals "_law_take" = some (some (.ref f22)))
    (l22 : K.lookup f22 = some ⟨oc22, od22, .func (PySem.W.fnOf "_law_take" "_law_take" (defArgs (topS 34)) (defBody (topS 34)) (defScope (topS 34)) .none kV22 dc22 pm22 an22 cd22 ct22), sl22⟩)
    (c22 : PySem.W.codeIn K cd22 "_law_take" = true) (k22 : PySem.W.keepIn K (.ref f22) = true)
    (a23 : PySem.W.nsIn K mainGlobals "_law_some" = some (some (.ref f23)))
    (l23 : K.lookup f23 = some ⟨oc23, od23, .func (PySem.W.fnOf "_law_some" "_law_some" (defArgs (topS 35)) (defBody (topS 35)) (defScope (topS 35)) .none kV23 dc23 pm23 an23 cd23 ct23), sl23⟩)
    (c23 : PySem.W.codeIn K cd23 "_law_some" = true) (k23 : PySem.W.keepIn K (.ref f23) = true)
    (a24 : PySem.W.nsIn K mainGlobals "_law_some_filling" = some (some (.ref f24)))
    (l24 : K.lookup f24 = some ⟨oc24, od24, .func (PySem.W.fnOf "_law_some_filling" "_law_some_filling" (defArgs (topS 36)) (defBody (topS 36)) (defScope (topS 36)) .none kV24 dc24 pm24 an24 cd24 ct24), sl24⟩)
    (c24 : PySem.W.codeIn K cd24 "_law_some_filling" = true) (k24 : PySem.W.keepIn K (.ref f24) = true)
    (a25 : PySem.W.nsIn K mainGlobals "_law_sum" = some (some (.ref f25)))
    (l25 : K.lookup f25 = some ⟨oc25, od25, .func (PySem.W.fnOf "_law_sum" "_law_sum" (defArgs (topS 37)) (defBody (topS 37)) (defScope (topS 37)) .none kV25 dc25 pm25 an25 cd25 ct25), sl25⟩)
    (c25 : PySem.W.codeIn K cd25 "_law_sum" = true) (k25 : PySem.W.keepIn K (.ref f25) = true)
    (a26 : PySem.W.nsIn K mainGlobals "_law_some_sum" = some (some (.ref f26)))
    (l26 : K.lookup f26 = some ⟨oc26, od26, .func (PySem.W.fnOf "_law_some_sum" "_law_some_sum" (defArgs (topS 38)) (defBody (topS 38)) (defScope (topS 38)) .none kV26 dc26 pm26 an26 cd26 ct26), sl26⟩)
    (c26 : PySem.W.codeIn K cd26 "_law_some_sum" = true) (k26 : PySem.W.keepIn K (.ref f26) = true)
    (a27 : PySem.W.nsIn K mainGlobals "_law_wire" = some (some (.ref f27)))
    (l27 : K.lookup f27 = some ⟨oc27, od27, .func (PySem.W.fnOf "_law_wire" "_law_wire" (defArgs (topS 39)) (defBody (topS 39)) (defScope (topS 39)) .none kV27 dc27 pm27 an27 cd27 ct27), sl27⟩)
    (c27 : PySem.W.codeIn K cd27 "_law_wire" = true) (k27 : PySem.W.keepIn K (.ref f27) = true)
    (a28 : PySem.W.nsIn K mainGlobals "_law_plus" = some (some (.ref f28)))
    (l28 : K.lookup f28 = some ⟨oc28, od28, .func (PySem.W.fnOf "_law_plus" "_law_plus" (defArgs (topS 40)) (defBody (topS 40)) (defScope (topS 40)) .none kV28 dc28 pm28 an28 cd28 ct28), sl28⟩)
    (c28 : PySem.W.codeIn K cd28 "_law_plus" = true) (k28 : PySem.W.keepIn K (.ref f28) = true)
    (a29 : PySem.W.nsIn K mainGlobals "_law_value" = some (some (.ref f29)))
    (l29 : K.lookup f29 = some ⟨oc29, od29, .func (PySem.W.fnOf "_law_value" "_law_value" (defArgs (topS 41)) (defBody (topS 41)) (defScope (topS 41)) .none kV29 dc29 pm29 an29 cd29 ct29), sl29⟩)
    (c29 : PySem.W.codeIn K cd29 "_law_value" = true) (k29 : PySem.W.keepIn K (.ref f29) = true)
    (a30 : PySem.W.nsIn K mainGlobals "_law_system" = some (some (.ref f30)))
    (l30 : K.lookup f30 = some ⟨oc30, od30, .func (PySem.W.fnOf "_law_system" "_law_system" (defArgs (topS 42)) (defBody (topS 42)) (defScope (topS 42)) .none kV30 dc30 pm30 an30 cd30 ct30), sl30⟩)
    (c30 : PySem.W.codeIn K cd30 "_law_system" = true) (k30 : PySem.W.keepIn K (.ref f30) = true)
    (a31 : PySem.W.nsIn K mainGlobals "_law_met" = some (some (.ref f31)))
    (l31 : K.lookup f31 = some ⟨oc31, od31, .func (PySem.W.fnOf "_law_met" "_law_met" (defArgs (topS 43)) (defBody (topS 43)) (defScope (topS 43)) .none kV31 dc31 pm31 an31 cd31 ct31), sl31⟩)
    (c31 : PySem.W.codeIn K cd31 "_law_met" = true) (k31 : PySem.W.keepIn K (.ref f31) = true)
    (a32 : PySem.W.nsIn K mainGlobals "_law_alike" = some (some (.ref f32)))
    (l32 : K.lookup f32 = some ⟨oc32, od32, .func (PySem.W.fnOf "_law_alike" "_law_alike" (defArgs (topS 44)) (defBody (topS 44)) (defScope (topS 44)) .none kV32 dc32 pm32 an32 cd32 ct32), sl32⟩)
    (c32 : PySem.W.codeIn K cd32 "_law_alike" = true) (k32 : PySem.W.keepIn K (.ref f32) = true)
    (a33 : PySem.W.nsIn K mainGlobals "_law_at" = some (some (.ref f33)))
    (l33 : K.lookup f33 = some ⟨oc33, od33, .func (PySem.W.fnOf "_law_at" "_law_at" (defArgs (topS 45)) (defBody (topS 45)) (defScope (topS 45)) .none kV33 dc33 pm33 an33 cd33 ct33), sl33⟩)
    (c33 : PySem.W.codeIn K cd33 "_law_at" = true) (k33 : PySem.W.keepIn K (.ref f33) = true)
    (a34 : PySem.W.nsIn K mainGlobals "law" = some (some (.ref f34)))
    (l34 : K.lookup f34 = some ⟨oc34, od34, .func (PySem.W.fnOf "law" "law" (defArgs (topS 46)) (defBody (topS 46)) (defScope (topS 46)) .none kV34 dc34 pm34 an34 cd34 ct34), sl34⟩)
    (c34 : PySem.W.codeIn K cd34 "law" = true) (k34 : PySem.W.keepIn K (.ref f34) = true)
    (z0 : PySem.W.nsIn K mainGlobals "isinstance" = some none)
    (z1 : PySem.W.nsIn K mainGlobals "bool" = some none)
    (z2 : PySem.W.nsIn K mainGlobals "int" = some none)
    (z3 : PySem.W.nsIn K mainGlobals "len" = some none)
    (z4 : PySem.W.nsIn K mainGlobals "tuple" = some none)
    (z5 : PySem.W.nsIn K mainGlobals "all" = some none)
    (z6 : PySem.W.nsIn K mainGlobals "zip" = some none)
    (z7 : PySem.W.nsIn K mainGlobals "enumerate" = some none)
    (z8 : PySem.W.nsIn K mainGlobals "sum" = some none)
    (z9 : PySem.W.nsIn K mainGlobals "abs" = some none)
    (z10 : PySem.W.nsIn K mainGlobals "range" = some none)
    (z11 : PySem.W.nsIn K mainGlobals "sorted" = some none)
    (z12 : PySem.W.nsIn K mainGlobals "repr" = some none)
    (z13 : PySem.W.nsIn K mainGlobals "list" = some none)
    {tk0 : Tok} (i0 : PySem.W.nsIn K mainGlobals "MOST_PRIME" = some (some (.int 9973 tk0)))
    {tk1 : Tok} (i1 : PySem.W.nsIn K mainGlobals "MOST_WIRES" = some (some (.int 400 tk1)))
    {tk2 : Tok} (i2 : PySem.W.nsIn K mainGlobals "MOST_ROWS" = some (some (.int 1000 tk2)))
    (e1 : PySem.W.nsIn K mainGlobals "Nothing" = some (some (.ref ec))) (e2 : PySem.W.keepIn K (.ref ec) = true) (e3 : PySem.W.excIn K ec [.type "ValueError", .type "Exception", .type "BaseException", .type "object"] "ValueError.__new__" = true)
    (e4 : PySem.W.subIn K (.ref ec) (.type "BaseException") = some true) (e5 : PySem.W.typeIn K (.ref ec) = some (.type "type")) (e6 : PySem.W.isClsIn K ec = true) (e7 : PySem.W.subIn K (.ref ec) (.ref ec) = some true) :
    ∃ C : Fx.Ct, C.K = K ∧ Fx.ModF C nm tab mg ∧ C.fa 34 = some fa := by
  have e := hfa.symm.trans (PySem.W.mg_of X G a34)
  cases e
  have F0 := fun_mk (st := topS 8) l0 c0 k0
  have D0 : Fx.DefOk K nm tab 0 f0 := Fx.def_ok F0 (F0.binds (ps := [PySem.Str.ofString "thing"]) fun _ _ _ _ _ _ us hl => match us, hl with | [_], _ => rfl) s_is_number rfl rfl rfl c_is_number
  have F1 := fun_mk (st := topS 9) l1 c1 k1
  have D1 : Fx.DefOk K nm tab 1 f1 := Fx.def_ok F1 (F1.binds (ps := [PySem.Str.ofString "thing"]) fun _ _ _ _ _ _ us hl => match us, hl with | [_], _ => rfl) s_is_index rfl rfl rfl c_is_index
  have F2 := fun_mk (st := topS 10) l2 c2 k2
  have D2 : Fx.DefOk K nm tab 2 f2 := Fx.def_ok F2 (F2.binds (ps := [PySem.Str.ofString "thing", PySem.Str.ofString "many"]) fun _ _ _ _ _ _ us hl => match us, hl with | [_, _], _ => rfl) s_is_sized rfl rfl rfl c_is_sized
  have F3 := fun_mk (st := topS 11) l3 c3 k3
  have D3 : Fx.DefOk K nm tab 3 f3 := Fx.def_ok F3 (F3.binds (ps := [PySem.Str.ofString "thing", PySem.Str.ofString "is_one"]) fun _ _ _ _ _ _ us hl => match us, hl with | [_, _], _ => rfl) s_is_tuple_of rfl rfl rfl c_is_tuple_of
  have F4 := fun_mk (st := topS 12) l4 c4 k4
  have D4 : Fx.DefOk K nm tab 4 f4 := Fx.def_ok F4 (F4.binds (ps := [PySem.Str.ofString "thing"]) fun _ _ _ _ _ _ us hl => match us, hl with | [_], _ => rfl) s_is_prime rfl rfl rfl c_is_prime
  have F5 := fun_mk (st := topS 13) l5 c5 k5
  have D5 : Fx.DefOk K nm tab 5 f5 := Fx.def_ok F5 (F5.binds (ps := [PySem.Str.ofString "thing"]) fun _ _ _ _ _ _ us hl => match us, hl with | [_], _ => rfl) s_is_part rfl rfl rfl c_is_part
  have F6 := fun_mk (st := topS 14) l6 c6 k6
  have D6 : Fx.DefOk K nm tab 6 f6 := Fx.def_ok F6 (F6.binds (ps := [PySem.Str.ofString "thing"]) fun _ _ _ _ _ _ us hl => match us, hl with | [_], _ => rfl) s_is_sum rfl rfl rfl c_is_sum
  have F7 := fun_mk (st := topS 15) l7 c7 k7
  have D7 : Fx.DefOk K nm tab 7 f7 := Fx.def_ok F7 (F7.binds (ps := [PySem.Str.ofString "thing"]) fun _ _ _ _ _ _ us hl => match us, hl with | [_], _ => rfl) s_is_equation rfl rfl rfl c_is_equation
  have F8 := fun_mk (st := topS 16) l8 c8 k8
  have D8 : Fx.DefOk K nm tab 8 f8 := Fx.def_ok F8 (F8.binds (ps := [PySem.Str.ofString "thing"]) fun _ _ _ _ _ _ us hl => match us, hl with | [_], _ => rfl) s_is_system rfl rfl rfl c_is_system
  have F9 := fun_mk (st := topS 20) l9 c9 k9
  have D9 : Fx.DefOk K nm tab 9 f9 := Fx.def_ok F9 (F9.binds (ps := [PySem.Str.ofString "some"]) fun _ _ _ _ _ _ us hl => match us, hl with | [_], _ => rfl) s_are_ascending rfl rfl rfl c_are_ascending
  have F10 := fun_mk (st := topS 21) l10 c10 k10
  have D10 : Fx.DefOk K nm tab 10 f10 := Fx.def_ok F10 (F10.binds (ps := [PySem.Str.ofString "p", PySem.Str.ofString "many", PySem.Str.ofString "one"]) fun _ _ _ _ _ _ us hl => match us, hl with | [_, _, _], _ => rfl) s_is_sum_below rfl rfl rfl c_is_sum_below
  have F11 := fun_mk (st := topS 22) l11 c11 k11
  have D11 : Fx.DefOk K nm tab 11 f11 := Fx.def_ok F11 (F11.binds (ps := [PySem.Str.ofString "thing"]) fun _ _ _ _ _ _ us hl => match us, hl with | [_], _ => rfl) s_checked_system rfl rfl rfl c_checked_system
  have F12 := fun_mk (st := topS 23) l12 c12 k12
  have D12 : Fx.DefOk K nm tab 12 f12 := Fx.def_ok F12 (F12.binds (ps := [PySem.Str.ofString "p", PySem.Str.ofString "many", PySem.Str.ofString "thing"]) fun _ _ _ _ _ _ us hl => match us, hl with | [_, _, _], _ => rfl) s_is_residues rfl rfl rfl c_is_residues
  have F13 := fun_mk (st := topS 24) l13 c13 k13
  have D13 : Fx.DefOk K nm tab 13 f13 := Fx.def_ok F13 (F13.binds (ps := [PySem.Str.ofString "system", PySem.Str.ofString "thing"]) fun _ _ _ _ _ _ us hl => match us, hl with | [_, _], _ => rfl) s_is_filling rfl rfl rfl c_is_filling
  have F14 := fun_mk (st := topS 25) l14 c14 k14
  have D14 : Fx.DefOk K nm tab 14 f14 := Fx.def_ok F14 (F14.binds (ps := [PySem.Str.ofString "system", PySem.Str.ofString "thing"]) fun _ _ _ _ _ _ us hl => match us, hl with | [_, _], _ => rfl) s_check_filling rfl rfl rfl c_check_filling
  have F15 := fun_mk (st := topS 26) l15 c15 k15
  have D15 : Fx.DefOk K nm tab 15 f15 := Fx.def_ok F15 (F15.binds (ps := [PySem.Str.ofString "p", PySem.Str.ofString "one", PySem.Str.ofString "filling"]) fun _ _ _ _ _ _ us hl => match us, hl with | [_, _, _], _ => rfl) s_reckoned rfl rfl rfl c_reckoned
  have F16 := fun_mk (st := topS 27) l16 c16 k16
  have D16 : Fx.DefOk K nm tab 16 f16 := Fx.def_ok F16 (F16.binds (ps := [PySem.Str.ofString "p", PySem.Str.ofString "row", PySem.Str.ofString "filling"]) fun _ _ _ _ _ _ us hl => match us, hl with | [_, _, _], _ => rfl) s_is_met rfl rfl rfl c_is_met
  have F17 := fun_mk (st := topS 28) l17 c17 k17
  have D17 : Fx.DefOk K nm tab 17 f17 := Fx.def_ok F17 (F17.binds (ps := [PySem.Str.ofString "system", PySem.Str.ofString "filling"]) fun _ _ _ _ _ _ us hl => match us, hl with | [_, _], _ => rfl) s_first_broken rfl rfl rfl c_first_broken
  have F18 := fun_mk (st := topS 29) l18 c18 k18
  have D18 : Fx.DefOk K nm tab 18 f18 := Fx.def_ok F18 (F18.binds (ps := [PySem.Str.ofString "system", PySem.Str.ofString "filling"]) fun _ _ _ _ _ _ us hl => match us, hl with | [_, _], _ => rfl) s_meets rfl rfl rfl c_meets
  have F19 := fun_mk (st := topS 30) l19 c19 k19
  have D19 : Fx.DefOk K nm tab 19 f19 := Fx.def_ok F19 (F19.binds (ps := [PySem.Str.ofString "system", PySem.Str.ofString "filling"]) fun _ _ _ _ _ _ us hl => match us, hl with | [_, _], _ => rfl) s_inputs_in rfl rfl rfl c_inputs_in
  have F20 := fun_mk (st := topS 31) l20 c20 k20
  have D20 : Fx.DefOk K nm tab 20 f20 := Fx.def_ok F20 (F20.binds (ps := [PySem.Str.ofString "system", PySem.Str.ofString "filling"]) fun _ _ _ _ _ _ us hl => match us, hl with | [_, _], _ => rfl) s_told_in rfl rfl rfl c_told_in
  have F21 := fun_mk (st := topS 33) l21 c21 k21
  have D21 : Fx.DefOk K nm tab 21 f21 := Fx.def_ok F21 (F21.binds (ps := [PySem.Str.ofString "script"]) fun _ _ _ _ _ _ us hl => match us, hl with | [_], _ => rfl) s__law_bag rfl rfl rfl c__law_bag
  have F22 := fun_mk (st := topS 34) l22 c22 k22
  have D22 : Fx.DefOk K nm tab 22 f22 := Fx.def_ok F22 (F22.binds (ps := [PySem.Str.ofString "bag", PySem.Str.ofString "many"]) fun _ _ _ _ _ _ us hl => match us, hl with | [_, _], _ => rfl) s__law_take rfl rfl rfl c__law_take
  have F23 := fun_mk (st := topS 35) l23 c23 k23
  have D23 : Fx.DefOk K nm tab 23 f23 := Fx.def_ok F23 (F23.binds (ps := [PySem.Str.ofString "bag", PySem.Str.ofString "things"]) fun _ _ _ _ _ _ us hl => match us, hl with | [_, _], _ => rfl) s__law_some rfl rfl rfl c__law_some
  have F24 := fun_mk (st := topS 36) l24 c24 k24
  have D24 : Fx.DefOk K nm tab 24 f24 := Fx.def_ok F24 (F24.binds (ps := [PySem.Str.ofString "bag", PySem.Str.ofString "p", PySem.Str.ofString "many"]) fun _ _ _ _ _ _ us hl => match us, hl with | [_, _, _], _ => rfl) s__law_some_filling rfl rfl rfl c__law_some_filling
  have F25 := fun_mk (st := topS 37) l25 c25 k25
  have D25 : Fx.DefOk K nm tab 25 f25 := Fx.def_ok F25 (F25.binds (ps := [PySem.Str.ofString "p", PySem.Str.ofString "constant", PySem.Str.ofString "parts"]) fun _ _ _ _ _ _ us hl => match us, hl with | [_, _, _], _ => rfl) s__law_sum rfl rfl rfl c__law_sum
  have F26 := fun_mk (st := topS 38) l26 c26 k26
  have D26 : Fx.DefOk K nm tab 26 f26 := Fx.def_ok F26 (F26.binds (ps := [PySem.Str.ofString "bag", PySem.Str.ofString "p", PySem.Str.ofString "many"]) fun _ _ _ _ _ _ us hl => match us, hl with | [_, _, _], _ => rfl) s__law_some_sum rfl rfl rfl c__law_some_sum
  have F27 := fun_mk (st := topS 39) l27 c27 k27
  have D27 : Fx.DefOk K nm tab 27 f27 := Fx.def_ok F27 (F27.binds (ps := [PySem.Str.ofString "wire"]) fun _ _ _ _ _ _ us hl => match us, hl with | [_], _ => rfl) s__law_wire rfl rfl rfl c__law_wire
  have F28 := fun_mk (st := topS 40) l28 c28 k28
  have D28 : Fx.DefOk K nm tab 28 f28 := Fx.def_ok F28 (F28.binds (ps := [PySem.Str.ofString "p", PySem.Str.ofString "one", PySem.Str.ofString "often", PySem.Str.ofString "other"]) fun _ _ _ _ _ _ us hl => match us, hl with | [_, _, _, _], _ => rfl) s__law_plus rfl rfl rfl c__law_plus
  have F29 := fun_mk (st := topS 41) l29 c29 k29
  have D29 : Fx.DefOk K nm tab 29 f29 := Fx.def_ok F29 (F29.binds (ps := [PySem.Str.ofString "p", PySem.Str.ofString "its", PySem.Str.ofString "filling"]) fun _ _ _ _ _ _ us hl => match us, hl with | [_, _, _], _ => rfl) s__law_value rfl rfl rfl c__law_value
  have F30 := fun_mk (st := topS 42) l30 c30 k30
  have D30 : Fx.DefOk K nm tab 30 f30 := Fx.def_ok F30 (F30.binds (ps := [PySem.Str.ofString "bag", PySem.Str.ofString "p", PySem.Str.ofString "many", PySem.Str.ofString "most"]) fun _ _ _ _ _ _ us hl => match us, hl with | [_, _, _, _], _ => rfl) s__law_system rfl rfl rfl c__law_system
  have F31 := fun_mk (st := topS 43) l31 c31 k31
  have D31 : Fx.DefOk K nm tab 31 f31 := Fx.def_ok F31 (F31.binds (ps := [PySem.Str.ofString "p", PySem.Str.ofString "row", PySem.Str.ofString "filling"]) fun _ _ _ _ _ _ us hl => match us, hl with | [_, _, _], _ => rfl) s__law_met rfl rfl rfl c__law_met
  have F32 := fun_mk (st := topS 44) l32 c32 k32
  have D32 : Fx.DefOk K nm tab 32 f32 := Fx.def_ok F32 (F32.binds (ps := [PySem.Str.ofString "found", PySem.Str.ofString "due"]) fun _ _ _ _ _ _ us hl => match us, hl with | [_, _], _ => rfl) s__law_alike rfl rfl rfl c__law_alike
  have F33 := fun_mk (st := topS 45) l33 c33 k33
  have D33 : Fx.DefOk K nm tab 33 f33 := Fx.def_ok F33 (F33.binds (ps := [PySem.Str.ofString "filling", PySem.Str.ofString "wires"]) fun _ _ _ _ _ _ us hl => match us, hl with | [_, _], _ => rfl) s__law_at rfl rfl rfl c__law_at
  have F34 := fun_mk (st := topS 46) l34 c34 k34
  have D34 : Fx.DefOk K nm tab 34 fa := Fx.def_ok F34 (F34.binds (ps := [PySem.Str.ofString "script"]) fun _ _ _ _ _ _ us hl => match us, hl with | [_], _ => rfl) s_law rfl rfl rfl c_law
  refine ⟨_, rfl, Fx.mod1 (as := [f0, f1, f2, f3, f4, f5, f6, f7, f8, f9, f10, f11, f12, f13, f14, f15, f16, f17, f18, f19, f20, f21, f22, f23, f24, f25, f26, f27, f28, f29, f30, f31, f32, f33, fa]) (c := ec) (xc := PySem.Str.ofString "Nothing") ?_ ?_ ?_ ?_ rfl rfl (PySem.W.mg_of X G e1) ⟨e2, ⟨_, _, _, _, PySem.F.excBase_ValueError, e3⟩, e4, e5⟩ (Fx.exm_of e4 e6 e5 e7), rfl⟩
  · exact And.intro (PySem.W.mg_of X G a0) (And.intro (PySem.W.mg_of X G a1) (And.intro (PySem.W.mg_of X G a2) (And.intro (PySem.W.mg_of X G a3) (And.intro (PySem.W.mg_of X G a4) (And.intro (PySem.W.mg_of X G a5) (And.intro (PySem.W.mg_of X G a6) (And.intro (PySem.W.mg_of X G a7) (And.intro (PySem.W.mg_of X G a8) (And.intro (PySem.W.mg_of X G a9) (And.intro (PySem.W.mg_of X G a10) (And.intro (PySem.W.mg_of X G a11) (And.intro (PySem.W.mg_of X G a12) (And.intro (PySem.W.mg_of X G a13) (And.intro (PySem.W.mg_of X G a14) (And.intro (PySem.W.mg_of X G a15) (And.intro (PySem.W.mg_of X G a16) (And.intro (PySem.W.mg_of X G a17) (And.intro (PySem.W.mg_of X G a18) (And.intro (PySem.W.mg_of X G a19) (And.intro (PySem.W.mg_of X G a20) (And.intro (PySem.W.mg_of X G a21) (And.intro (PySem.W.mg_of X G a22) (And.intro (PySem.W.mg_of X G a23) (And.intro (PySem.W.mg_of X G a24) (And.intro (PySem.W.mg_of X G a25) (And.intro (PySem.W.mg_of X G a26) (And.intro (PySem.W.mg_of X G a27) (And.intro (PySem.W.mg_of X G a28) (And.intro (PySem.W.mg_of X G a29) (And.intro (PySem.W.mg_of X G a30) (And.intro (PySem.W.mg_of X G a31) (And.intro (PySem.W.mg_of X G a32) (And.intro (PySem.W.mg_of X G a33) (And.intro (PySem.W.mg_of X G a34) (trivial)))))))))))))))))))))))))))))))))))
  · exact And.intro (PySem.W.mg_none_of X G z0) (And.intro (PySem.W.mg_none_of X G z1) (And.intro (PySem.W.mg_none_of X G z2) (And.intro (PySem.W.mg_none_of X G z3) (And.intro (PySem.W.mg_none_of X G z4) (And.intro (PySem.W.mg_none_of X G z5) (And.intro (PySem.W.mg_none_of X G z6) (And.intro (PySem.W.mg_none_of X G z7) (And.intro (PySem.W.mg_none_of X G z8) (And.intro (PySem.W.mg_none_of X G z9) (And.intro (PySem.W.mg_none_of X G z10) (And.intro (PySem.W.mg_none_of X G z11) (And.intro (PySem.W.mg_none_of X G z12) (And.intro (PySem.W.mg_none_of X G z13) (trivial))))))))))))))
  · exact And.intro (⟨_, PySem.W.mg_of X G i0⟩) (And.intro (⟨_, PySem.W.mg_of X G i1⟩) (And.intro (⟨_, PySem.W.mg_of X G i2⟩) (trivial)))
  · exact And.intro (D0) (And.intro (D1) (And.intro (D2) (And.intro (D3) (And.intro (D4) (And.intro (D5) (And.intro (D6) (And.intro (D7) (And.intro (D8) (And.intro (D9) (And.intro (D10) (And.intro (D11) (And.intro (D12) (And.intro (D13) (And.intro (D14) (And.intro (D15) (And.intro (D16) (And.intro (D17) (And.intro (D18) (And.intro (D19) (And.intro (D20) (And.intro (D21) (And.intro (D22) (And.intro (D23) (And.intro (D24) (And.intro (D25) (And.intro (D26) (And.intro (D27) (And.intro (D28) (And.intro (D29) (And.intro (D30) (And.intro (D31) (And.intro (D32) (And.intro (D33) (And.intro (D34) (trivial)))))))))))))))))))))))))))))))))))
end K51
open PySem PySem.W PyProof.Rows in
set_option maxRecDepth 100000 in
set_option maxHeartbeats 0 in
theorem PySem.Challenge.cw_fixwright_k51_fillings_that_meet_equatio_holds : PySem.Challenge.rw_fixwright_k51_fillings_that_meet_equatio.Holds := by
  w_on; o_law; k_head; (case hw => w_witness2)
  k_fill
  refine Fx.law_end (l := PySem.Challenge.rw_fixwright_k51_fillings_that_meet_equatio) (nm := K51.nm) (T := K51.tab) (n := 63) (N := 20) (kl := 34) (fu := 200) rfl (by decide) rfl ⟨rfl, by decide, by decide⟩ (fun w h Y => PySem.W.kIn_of Y) ?F K51.plain
  case F =>
    intro w mg fa h KX G hmg
    refine' K51.facts KX G hmg ?a0 ?l0 ?c0 ?k0 ?a1 ?l1 ?c1 ?k1 ?a2 ?l2 ?c2 ?k2 ?a3 ?l3 ?c3 ?k3 ?a4 ?l4 ?c4 ?k4 ?a5 ?l5 ?c5 ?k5 ?a6 ?l6 ?c6 ?k6 ?a7 ?l7 ?c7 ?k7 ?a8 ?l8 ?c8 ?k8 ?a9 ?l9 ?c9 ?k9 ?a10 ?l10 ?c10 ?k10 ?a11 ?l11 ?c11 ?k11 ?a12 ?l12 ?c12 ?k12 ?a13 ?l13 ?c13 ?k13 ?a14 ?l14 ?c14 ?k14 ?a15 ?l15 ?c15 ?k15 ?a16 ?l16 ?c16 ?k16 ?a17 ?l17 ?c17 ?k17 ?a18 ?l18 ?c18 ?k18 ?a19 ?l19 ?c19 ?k19 ?a20 ?l20 ?c20 ?k20 ?a21 ?l21 ?c21 ?k21 ?a22 ?l22 ?c22 ?k22 ?a23 ?l23 ?c23 ?k23 ?a24 ?l24 ?c24 ?k24 ?a25 ?l25 ?c25 ?k25 ?a26 ?l26 ?c26 ?k26 ?a27 ?l27 ?c27 ?k27 ?a28 ?l28 ?c28 ?k28 ?a29 ?l29 ?c29 ?k29 ?a30 ?l30 ?c30 ?k30 ?a31 ?l31 ?c31 ?k31 ?a32 ?l32 ?c32 ?k32 ?a33 ?l33 ?c33 ?k33 ?a34 ?l34 ?c34 ?k34 ?z0 ?z1 ?z2 ?z3 ?z4 ?z5 ?z6 ?z7 ?z8 ?z9 ?z10 ?z11 ?z12 ?z13 ?i0 ?i1 ?i2 ?e1 ?e2 ?e3 ?e4 ?e5 ?e6 ?e7
    (case a0 => k_is)
    (case l0 => k_is)
    (case c0 => k_is)
    (case k0 => k_is)
    (case a1 => k_is)
    (case l1 => k_is)
    (case c1 => k_is)
    (case k1 => k_is)
    (case a2 => k_is)
    (case l2 => k_is)
    (case c2 => k_is)
    (case k2 => k_is)
    (case a3 => k_is)
    (case l3 => k_is)
    (case c3 => k_is)
    (case k3 => k_is)
    (case a4 => k_is)
    (case l4 => k_is)
    (case c4 => k_is)
    (case k4 => k_is)
    (case a5 => k_is)
    (case l5 => k_is)
    (case c5 => k_is)
    (case k5 => k_is)
    (case a6 => k_is)
    (case l6 => k_is)
    (case c6 => k_is)
    (case k6 => k_is)
    (case a7 => k_is)
    (case l7 => k_is)
    (case c7 => k_is)
    (case k7 => k_is)
    (case a8 => k_is)
    (case l8 => k_is)
    (case c8 => k_is)
    (case k8 => k_is)
    (case a9 => k_is)
    (case l9 => k_is)
    (case c9 => k_is)
    (case k9 => k_is)
    (case a10 => k_is)
    (case l10 => k_is)
    (case c10 => k_is)
    (case k10 => k_is)
    (case a11 => k_is)
    (case l11 => k_is)
    (case c11 => k_is)
    (case k11 => k_is)
    (case a12 => k_is)
    (case l12 => k_is)
    (case c12 => k_is)
    (case k12 => k_is)
    (case a13 => k_is)
    (case l13 => k_is)
    (case c13 => k_is)
    (case k13 => k_is)
    (case a14 => k_is)
    (case l14 => k_is)
    (case c14 => k_is)
    (case k14 => k_is)
    (case a15 => k_is)
    (case l15 => k_is)
    (case c15 => k_is)
    (case k15 => k_is)
    (case a16 => k_is)
    (case l16 => k_is)
    (case c16 => k_is)
    (case k16 => k_is)
    (case a17 => k_is)
    (case l17 => k_is)
    (case c17 => k_is)
    (case k17 => k_is)
    (case a18 => k_is)
    (case l18 => k_is)
    (case c18 => k_is)
    (case k18 => k_is)
    (case a19 => k_is)
    (case l19 => k_is)
    (case c19 => k_is)
    (case k19 => k_is)
    (case a20 => k_is)
    (case l20 => k_is)
    (case c20 => k_is)
    (case k20 => k_is)
    (case a21 => k_is)
    (case l21 => k_is)
    (case c21 => k_is)
    (case k21 => k_is)
    (case a22 => k_is)
    (case l22 => k_is)
    (case c22 => k_is)
    (case k22 => k_is)
    (case a23 => k_is)
    (case l23 => k_is)
    (case c23 => k_is)
    (case k23 => k_is)
    (case a24 => k_is)
    (case l24 => k_is)
    (case c24 => k_is)
    (case k24 => k_is)
    (case a25 => k_is)
    (case l25 => k_is)
    (case c25 => k_is)
    (case k25 => k_is)
    (case a26 => k_is)
    (case l26 => k_is)
    (case c26 => k_is)
    (case k26 => k_is)
    (case a27 => k_is)
    (case l27 => k_is)
    (case c27 => k_is)
    (case k27 => k_is)
    (case a28 => k_is)
    (case l28 => k_is)
    (case c28 => k_is)
    (case k28 => k_is)
    (case a29 => k_is)
    (case l29 => k_is)
    (case c29 => k_is)
    (case k29 => k_is)
    (case a30 => k_is)
    (case l30 => k_is)
    (case c30 => k_is)
    (case k30 => k_is)
    (case a31 => k_is)
    (case l31 => k_is)
    (case c31 => k_is)
    (case k31 => k_is)
    (case a32 => k_is)
    (case l32 => k_is)
    (case c32 => k_is)
    (case k32 => k_is)
    (case a33 => k_is)
    (case l33 => k_is)
    (case c33 => k_is)
    (case k33 => k_is)
    (case a34 => k_is)
    (case l34 => k_is)
    (case c34 => k_is)
    (case k34 => k_is)
    (case z0 => k_is)
    (case z1 => k_is)
    (case z2 => k_is)
    (case z3 => k_is)
    (case z4 => k_is)
    (case z5 => k_is)
    (case z6 => k_is)
    (case z7 => k_is)
    (case z8 => k_is)
    (case z9 => k_is)
    (case z10 => k_is)
    (case z11 => k_is)
    (case z12 => k_is)
    (case z13 => k_is)
    (case i0 => k_is)
    (case i1 => k_is)
    (case i2 => k_is)
    (case e1 => k_is)
    (case e2 => k_is)
    (case e3 => k_exc)
    (case e4 => k_is)
    (case e5 => k_is)
    (case e6 => k_is)
    (case e7 => first | rfl | k_is)

