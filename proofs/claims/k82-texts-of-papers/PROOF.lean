import PyProof.Rows.All
import Wide.All
import OpenK.AllK
import Wide.FinOn
import HandS.ForMost
import HandS.ForExc
import HandS.Flow
import HandS.Style
import HandS.IsInst
import HandS.Gcd
import HandS.FStr
import HandS.Wide
import HandS.TupAny
import HandS.TupMul
import HandS.ExcCtx
import HandS.TryMany
import HandS.SuiteRaise
import HandS.RaiseFrom
import HandS.ExcInit
import HandS.ExcInitHot
import HandS.Defaults
import HandS.Zip
import HandS.Walk
import HandS.Deep
import HandS.Evl
import KE.GoesRaise
import HandS.ExcField
import HandS.HeadHook2
import HandS.EndBits
import HandS.Head2
import HandS.HeadEnd
import HandS.HeadHook4
import HandS.Head3
import HandS.Head0
import HandS.Head1
import PySem.Challenge.RW_kinkatlas_k82_texts_of_papers
set_option Elab.async false
set_option linter.all false
set_option maxRecDepth 100000
/-! KA1: data, stores, outcomes, the syntax tree of the interpreter and its meaning. -/
namespace KA
open PySem

/-- a value without the heap: immutable data, or the number of a mutable object -/
inductive D where
  | non | bl (b : Bool) | int (i : Int) | str (x : Str) | tup (xs : List D) | lst (xs : List D) | loc (i : Nat)
  deriving Inhabited

mutual
def D.pure : D → Bool
  | .loc _ => false
  | .tup xs => D.pures xs
  | .lst xs => D.pures xs
  | _ => true
def D.pures : List D → Bool
  | [] => true
  | d :: ds => d.pure && D.pures ds
end
mutual
def D.py : D → PyData
  | .non => .none
  | .bl b => .bool b
  | .int i => .int i
  | .str x => .str x
  | .tup xs => .tuple (D.pys xs)
  | .lst xs => .list (D.pys xs)
  | .loc _ => .none
def D.pys : List D → List PyData
  | [] => []
  | d :: ds => d.py :: D.pys ds
end

mutual
/-- the same data -/
def D.same : D → D → Bool
  | .non, .non => true
  | .bl a, .bl b => a == b
  | .int a, .int b => a == b
  | .str a, .str b => a == b
  | .tup a, .tup b => D.sames a b
  | .lst a, .lst b => D.sames a b
  | .loc a, .loc b => a == b
  | _, _ => false
def D.sames : List D → List D → Bool
  | [], [] => true
  | a :: as, b :: bs => a.same b && D.sames as bs
  | _, _ => false
end
mutual
theorem D.same_eq : ∀ {a b : D}, a.same b = true → a = b
  | .non, b, h => by cases b <;> simp_all [D.same]
  | .bl a, b, h => by cases b <;> simp_all [D.same]
  | .int a, b, h => by cases b <;> simp_all [D.same]
  | .str a, b, h => by cases b <;> simp_all [D.same]
  | .loc a, b, h => by cases b <;> simp_all [D.same]
  | .tup a, b, h => by
    cases b with
    | tup b => simp only [D.same] at h; rw [D.sames_eq h]
    | _ => simp [D.same] at h
  | .lst a, b, h => by
    cases b with
    | lst b => simp only [D.same] at h; rw [D.sames_eq h]
    | _ => simp [D.same] at h
theorem D.sames_eq : ∀ {a b : List D}, D.sames a b = true → a = b
  | [], [], _ => rfl
  | [], _ :: _, h => by simp [D.sames] at h
  | _ :: _, [], h => by simp [D.sames] at h
  | a :: as, b :: bs, h => by
    simp only [D.sames, Bool.and_eq_true] at h
    rw [D.same_eq h.1, D.sames_eq h.2]
end
mutual
theorem D.same_refl : ∀ a : D, a.same a = true
  | .non => rfl
  | .bl a => by simp [D.same]
  | .int a => by simp [D.same]
  | .str a => by simp [D.same]
  | .loc a => by simp [D.same]
  | .tup a => by simp only [D.same]; exact D.sames_refl a
  | .lst a => by simp only [D.same]; exact D.sames_refl a
theorem D.sames_refl : ∀ a : List D, D.sames a a = true
  | [] => rfl
  | a :: as => by simp only [D.sames, Bool.and_eq_true]; exact ⟨D.same_refl a, D.sames_refl as⟩
end

/-- a mutable object -/
inductive MO where
  | lst (xs : List D)
  | ins (C : Str) (fs : List (Str × D))
  deriving Inhabited
abbrev Store := List MO
def MO.pure : MO → Bool
  | .lst xs => D.pures xs
  | .ins _ fs => fs.all fun p => p.2.pure
structure Exn where
  cls : Str
  fs : List (Str × D)
inductive Out where
  | ok (d : D) (μ : Store) | exc (x : Exn) (μ : Store) | stuck
abbrev Ro := List (Option D)
inductive SOut where
  | nx (ρ : Ro) (μ : Store) | rt (d : D) (μ : Store) | bk (ρ : Ro) (μ : Store) | ct (ρ : Ro) (μ : Store) | exc (x : Exn) (ρ : Ro) (μ : Store) | stuck
abbrev DE := Ro → Store → Out
abbrev DS := Ro → Store → SOut
def Out.bind (o : Out) (f : D → Store → Out) : Out := match o with
  | .ok d μ => f d μ
  | .exc x μ => .exc x μ
  | .stuck => .stuck
@[simp] theorem bind_ok {d μ f} : (Out.ok d μ).bind f = f d μ := rfl
@[simp] theorem bind_exc {x μ f} : (Out.exc x μ).bind f = .exc x μ := rfl
@[simp] theorem bind_stuck {f} : Out.stuck.bind f = .stuck := rfl
/-- an expression's outcome, then a statement's rest -/
def Out.sbind (o : Out) (ρ : Ro) (f : D → Store → SOut) : SOut := match o with
  | .ok d μ => f d μ
  | .exc x μ => .exc x ρ μ
  | .stuck => .stuck
@[simp] theorem sbind_ok {d μ f ρ} : (Out.ok d μ).sbind ρ f = f d μ := rfl
@[simp] theorem sbind_exc {x μ f ρ} : (Out.exc x μ).sbind ρ f = .exc x ρ μ := rfl
@[simp] theorem sbind_stuck {f ρ} : Out.stuck.sbind ρ f = .stuck := rfl
def SOut.seq (o : SOut) (f : Ro → Store → SOut) : SOut := match o with
  | .nx ρ μ => f ρ μ
  | o => o
@[simp] theorem seq_nx {ρ μ f} : (SOut.nx ρ μ).seq f = f ρ μ := rfl
@[simp] theorem seq_rt {d μ f} : (SOut.rt d μ).seq f = .rt d μ := rfl
@[simp] theorem seq_bk {ρ μ f} : (SOut.bk ρ μ).seq f = .bk ρ μ := rfl
@[simp] theorem seq_ct {ρ μ f} : (SOut.ct ρ μ).seq f = .ct ρ μ := rfl
@[simp] theorem seq_exc {x ρ μ f} : (SOut.exc x ρ μ).seq f = .exc x ρ μ := rfl
@[simp] theorem seq_stuck {f} : SOut.stuck.seq f = .stuck := rfl

/-! ### the tree -/
inductive BO where
  | add | sub | mul | fdiv | mod | pow
  deriving DecidableEq, Repr
inductive CO where
  | eq | ne | lt | le | gt | ge | is_ | isnot | in_ | notin
  deriving DecidableEq, Repr
/-- built-in functions -/
inductive BF where
  | len | abs | int | str | tuple | list | all | any | gcd
  deriving DecidableEq, Repr
/-- built-in types, for isinstance -/
inductive BT where
  | int | bool | str | tuple
  deriving DecidableEq, Repr
/-- methods of built-in types -/
inductive BM where
  | append | pop | extend | count | index | split | splitM | partition | join
  deriving DecidableEq, Repr
mutual
inductive E where
  | var (i : Nat) | non | bl (b : Bool) | int (i : Int) | str (x : Str) | glo (x : Str)
  | bin (o : BO) (a b : E) | neg (a : E)
  | cmp (o : CO) (a b : E) | not (a : E) | and (a b : E) | or (a b : E) | ite (c a b : E)
  | nil | cons (a as : E)
  | tup (as : E) | lst (m : Bool) (as : E)
  | ix (a i : E) | sl (a : E) (lo hi : E) | slf (a lo : E) | slt (a hi : E) | sla (a : E)
  | bi (f : BF) (a : E) | bi2 (f : BF) (a b : E) | isi (a : E) (t : BT)
  | mth0 (f : BM) (o : E) | mth1 (f : BM) (o a : E)
  | call (f : Str) (as : E)
  | fld (o : E) (f : Str) | one (a : E)
  | comp (x m : Bool) (own : List Nat) (t : T) (src : W) (c : E) (elt : E)
  | fmt (a : E) | fstr (as : E)
  deriving Repr
/-- a target -/
inductive T where
  | name (i : Nat) | tup (r : T) | nil | cons (t r : T)
  deriving Repr
/-- what is walked -/
inductive W where
  | it (a : E) | range1 (a : E) | range2 (a b : E)
  deriving Repr
end
/-- an item of what such a suite returns: a constant, or a field of the exception -/
inductive HI where
  | s (x : Str) | i (n : Int) | f (x : Str)
  deriving Repr
inductive S where
  | skip | seq (a b : S)
  | set (t : T) (e : E) | par2 (i j : Nat) (a b : E) | par3 (i j k : Nat) (a b c : E) | aug (i : Nat) (o : BO) (e : E)
  | sub (o i e : E)
  | ite (c : E) (a b : S) | for (t : T) (src : W) (b : S) | whil (c : E) (b : S)
  | ret (e : E) | ret0 | brk | cont | exp (e : E)
  | rais (C : Str) (as : E)
  /-- try: b / except C: return e / .. -/
  | trys (b : S) (hs : List (Str × E))
  /-- try: b / except C as n: return (.., n.f, ..) -/
  | tryas (b : S) (C : Str) (i : Nat) (es : List HI)
  /-- try: b / except C: raise C2(..) from None -/
  | tryr (b : S) (C C2 : Str) (as : E)
  deriving Repr

/-! ### what the operations do -/
def dscal : D → D → Bool
  | .non, .non => true | .non, .int _ => true | .int _, .non => true | .non, .bl _ => true | .bl _, .non => true | .non, .str _ => true | .str _, .non => true
  | .int _, .int _ => true | .bl _, .bl _ => true | .str _, .str _ => true
  | .int _, .str _ => true | .str _, .int _ => true | .bl _, .str _ => true | .str _, .bl _ => true
  | _, _ => false
/-- == of two scalars that dscal takes -/
def deq : D → D → Bool
  | .non, .non => true
  | .int i, .int j => decide (i = j)
  | .bl a, .bl b => decide (a = b)
  | .str x, .str y => decide (x = y)
  | _, _ => false
/-- a mutable list, read -/
def vw (μ : Store) : D → D
  | .loc i => match μ[i]? with
    | some (.lst xs) => .lst xs
    | _ => .loc i
  | d => d
/-- the items of a list or a tuple -/
def seqD (μ : Store) : D → Option (List D)
  | .tup xs => some xs
  | .lst xs => some xs
  | .loc i => match μ[i]? with
    | some (.lst xs) => some xs
    | _ => none
  | _ => none
def lstD (μ : Store) : D → Option (List D)
  | .lst xs => some xs
  | .loc i => match μ[i]? with
    | some (.lst xs) => some xs
    | _ => none
  | _ => none
def eqD (μ : Store) (x y : D) : Option Bool :=
  if dscal x y then some (deq x y)
  else if (vw μ x).pure && (vw μ y).pure && SeqAt.shaped (vw μ x).py && SeqAt.shaped (vw μ y).py then some (PyData.eqv (vw μ x).py (vw μ y).py)
  else none
def flatD : D → Bool
  | .non => true | .bl _ => true | .int _ => true | .str _ => true | _ => false
def eqF : D → D → Bool
  | .non, .non => true
  | .bl a, .bl b => a == b
  | .bl a, .int b => (if a then 1 else 0) == b
  | .int a, .bl b => a == (if b then 1 else 0)
  | .int a, .int b => a == b
  | .str a, .str b => a == b
  | _, _ => false
def inD (x : D) (xs : List D) : Bool := xs.any fun y => eqF y x
def truD (μ : Store) : D → Option Bool
  | .non => some false
  | .bl b => some b
  | .int i => some (i != 0)
  | .str x => if x.length ≤ sizeLine then some ((x.length : Int) != 0) else none
  | .tup xs => some (!xs.isEmpty)
  | .lst xs => some (!xs.isEmpty)
  | .loc i => match μ[i]? with
    | some (.lst xs) => some (!xs.isEmpty)
    | _ => none
def okB (o : Option Bool) (μ : Store) : Out := match o with
  | some b => .ok (.bl b) μ
  | none => .stuck
def bopI (o : BO) (i j : Int) : Option Int := match o with
  | .add => some (i + j)
  | .sub => some (i - j)
  | .mul => if i.natAbs.log2 + j.natAbs.log2 < 134000000 then some (i * j) else none
  | .fdiv => if (0 < j ∧ j.natAbs.log2 < 9000) ∨ (j ≠ 0 ∧ j.natAbs < 1073741824) then some (i.fdiv j) else none
  | .mod => if j ≠ 0 then some (i.fmod j) else none
  | .pow => if 0 ≤ j ∧ j ≤ 1000000 ∧ i.natAbs < 2 ^ 64 then some (i ^ j.toNat) else none
def bop (o : BO) (x y : D) (μ : Store) : Out := match x, y with
  | .int i, .int j => (match bopI o i j with
    | some k => .ok (.int k) μ
    | none => .stuck)
  | .str a, .str b => if o = .add ∧ a.length + b.length ≤ sizeLine then .ok (.str (a ++ b)) μ else .stuck
  | .tup xs, .tup ys => if o = .add ∧ xs.length + ys.length ≤ sizeLine then .ok (.tup (xs ++ ys)) μ else .stuck
  | x, y => (match lstD μ x, lstD μ y with
    | some xs, some ys => if o = .add ∧ xs.length + ys.length ≤ sizeLine then .ok (.lst (xs ++ ys)) μ else .stuck
    | _, _ => .stuck)
def inDeep (x : D) (ys : List D) : Bool := x.pure && SeqAt.shaped x.py && D.pures ys && SeqAt.shaped (.list (D.pys ys))
def inSeq (neg : Bool) (x y : D) (μ : Store) : Out := match seqD μ y with
  | some ys => if flatD x && ys.all flatD then .ok (.bl (if neg then !inD x ys else inD x ys)) μ
    else if (lstD μ y).isSome && inDeep x ys then .ok (.bl (if neg then !(D.pys ys).any (fun z => PyData.eqv z x.py) else (D.pys ys).any (fun z => PyData.eqv z x.py))) μ else .stuck
  | none => .stuck
def cop (o : CO) (x y : D) (μ : Store) : Out := match o with
  | .eq => okB (eqD μ x y) μ
  | .ne => okB ((eqD μ x y).map not) μ
  | .lt => (match x, y with
    | .int i, .int j => .ok (.bl (decide (i < j))) μ
    | _, _ => .stuck)
  | .le => (match x, y with
    | .int i, .int j => .ok (.bl (decide (i ≤ j))) μ
    | _, _ => .stuck)
  | .gt => (match x, y with
    | .int i, .int j => .ok (.bl (decide (j < i))) μ
    | _, _ => .stuck)
  | .ge => (match x, y with
    | .int i, .int j => .ok (.bl (decide (j ≤ i))) μ
    | _, _ => .stuck)
  | .is_ => (match x, y with
    | .loc _, _ => .stuck
    | .non, .non => .ok (.bl true) μ
    | _, .non => .ok (.bl false) μ
    | .bl a, .bl b => .ok (.bl (decide (a = b))) μ
    | _, _ => .stuck)
  | .isnot => (match x, y with
    | .loc _, _ => .stuck
    | .non, .non => .ok (.bl false) μ
    | _, .non => .ok (.bl true) μ
    | .bl a, .bl b => .ok (.bl (!decide (a = b))) μ
    | _, _ => .stuck)
  | .in_ => (match x, y with
    | .str w, .str z => (match w.cps.toList with
      | [c] => .ok (.bl (decide (c ∈ z.cps.toList))) μ
      | _ => .stuck)
    | x, y => inSeq false x y μ)
  | .notin => (match x, y with
    | .str w, .str z => (match w.cps.toList with
      | [c] => .ok (.bl (!decide (c ∈ z.cps.toList))) μ
      | _ => .stuck)
    | x, y => inSeq true x y μ)
def ixD (x y : D) (μ : Store) : Out := match x, y with
  | .str z, .int i => (match L2.atI z.cps.toList i with
    | some c => if z.length ≤ sizeLine then .ok (.str ⟨#[c]⟩) μ else .stuck
    | none => .stuck)
  | x, .int i => (match seqD μ x with
    | some xs => (match L2.atI xs i with
      | some d => .ok d μ
      | none => .stuck)
    | none => .stuck)
  | _, _ => .stuck
def cutD (xs : List D) (lo hi : Option Int) : List D := (xs.drop (HT.sIx xs.length 0 lo)).take (HT.sIx xs.length xs.length hi - HT.sIx xs.length 0 lo)
def slP (x : D) (lo hi : Option Int) (μ : Store) : Out := match x with
  | .str z => if z.length ≤ sizeLine then .ok (.str (L2.cutS z lo hi)) μ else .stuck
  | .tup xs => .ok (.tup (cutD xs lo hi)) μ
  | x => (match lstD μ x with
    | some xs => .ok (.lst (cutD xs lo hi)) μ
    | none => .stuck)
/-- an int, or nothing further -/
def isI (d : D) (f : Int → Out) : Out := match d with
  | .int i => f i
  | _ => .stuck
@[simp] theorem isI_int {i : Int} {f : Int → Out} : isI (.int i) f = f i := rfl
def blsD : List D → Option (List Bool)
  | [] => some []
  | .bl b :: r => (blsD r).map (b :: ·)
  | _ => none
def strsD : List D → Option (List Str)
  | [] => some []
  | .str b :: r => (strsD r).map (b :: ·)
  | _ => none
def biD (f : BF) (x : D) (μ : Store) : Out := match f with
  | .len => (match x with
    | .str z => if z.length ≤ sizeLine then .ok (.int z.length) μ else .stuck
    | x => (match seqD μ x with
      | some xs => .ok (.int xs.length) μ
      | none => .stuck))
  | .abs => (match x with
    | .int i => .ok (.int (if i < 0 then -i else i)) μ
    | _ => .stuck)
  | .int => (match x with
    | .int i => .ok (.int i) μ
    | .bl b => .ok (.int (if b then 1 else 0)) μ
    | .str a => (match intText? a with
      | some n => if a.length ≤ 640 then .ok (.int n) μ else .stuck
      | none => .stuck)
    | _ => .stuck)
  | .str => (match x with
    | .int i => if i.natAbs.log2 < 1920 then .ok (.str (toString i)) μ else .stuck
    | _ => .stuck)
  | .tuple => (match x with
    | .tup xs => .ok (.tup xs) μ
    | x => (match lstD μ x with
      | some xs => .ok (.tup xs) μ
      | none => .stuck))
  | .list => (match seqD μ x with
      | some xs => .ok (.lst xs) μ
      | none => .stuck)
  | .all => (match (lstD μ x).bind blsD with
    | some bs => .ok (.bl (bs.all id)) μ
    | none => .stuck)
  | .any => (match (lstD μ x).bind blsD with
    | some bs => .ok (.bl (bs.any id)) μ
    | none => .stuck)
  | .gcd => .stuck
def bi2D (f : BF) (x y : D) (μ : Store) : Out := match f, x, y with
  | .gcd, .int a, .int b => .ok (.int ((Nat.gcd a.natAbs b.natAbs : Nat) : Int)) μ
  | _, _, _ => .stuck
def isiD : D → BT → Option Bool
  | .non, _ => some false
  | .bl _, .int => some true
  | .bl _, .bool => some true
  | .bl _, _ => some false
  | .int _, .int => some true
  | .int _, _ => some false
  | .str _, .str => some true
  | .str _, _ => some false
  | .tup _, .tuple => some true
  | .tup _, _ => some false
  | .lst _, _ => some false
  | .loc _, _ => none
def mth0D (f : BM) (x : D) (μ : Store) : Out := match f, x with
  | .pop, .loc i => (match μ[i]? with
    | some (.lst xs) => (match xs[xs.length - 1]? with
      | some d => .ok d (μ.set i (.lst xs.dropLast))
      | none => .stuck)
    | _ => .stuck)
  | _, _ => .stuck
/-- may the method be asked of it -/
def rcvD (f : BM) (x : D) (μ : Store) : Bool := match f with
  | .append | .extend | .count | .index | .pop => (lstD μ x).isSome
  | .split | .splitM | .partition | .join => (match x with
    | .str _ => true
    | _ => false)
def mth1D (f : BM) (x y : D) (μ : Store) : Out := match f, x with
  | .append, .loc i => (match μ[i]? with
    | some (.lst xs) => if xs.length < sizeLine then .ok .non (μ.set i (.lst (xs ++ [y]))) else .stuck
    | _ => .stuck)
  | .extend, .loc i => (match μ[i]?, lstD μ y with
    | some (.lst xs), some ys => if xs.length + ys.length ≤ sizeLine then .ok .non (μ.set i (.lst (xs ++ ys))) else .stuck
    | _, _ => .stuck)
  | .count, x => (match lstD μ x, y with
    | some xs, .str c => (match strsD xs with
      | some zs => .ok (.int (zs.count c : Nat)) μ
      | none => .stuck)
    | _, _ => .stuck)
  | .index, x => (match lstD μ x with
    | some xs => if flatD y && xs.all flatD then (match xs.findIdx? (fun z => eqF z y) with
      | some j => .ok (.int (j : Nat)) μ
      | none => .stuck) else .stuck
    | none => .stuck)
  | .split, .str a => (match y with
    | .str b => if b.length ≠ 0 ∧ a.length + 2 ≤ sizeLine then .ok (.lst ((Txt.split a b).map .str)) μ else .stuck
    | _ => .stuck)
  | .splitM, .str a => (match y with
    | .str b => if b.length ≠ 0 ∧ a.length + 2 ≤ sizeLine then .ok (.loc μ.length) (μ ++ [.lst ((Txt.split a b).map .str)]) else .stuck
    | _ => .stuck)
  | .partition, .str a => (match y with
    | .str b => if b.length ≠ 0 ∧ a.length ≤ sizeLine then .ok (.tup [.str (Txt.partition a b).1, .str (Txt.partition a b).2.1, .str (Txt.partition a b).2.2]) μ else .stuck
    | _ => .stuck)
  | .join, .str a => (match (seqD μ y).bind strsD with
    | some ys => if (ys.map (·.length)).sum + ys.length * a.length ≤ 16777216 then .ok (.str (Txt.join a ys)) μ else .stuck
    | none => .stuck)
  | _, _ => .stuck
/-- o[i] = d -/
def setD (o i d : D) (μ : Store) : Option Store := match o, i with
  | .loc n, .int k => (match μ[n]? with
    | some (.lst xs) => (match L2.ixN xs.length k with
      | some j => some (μ.set n (.lst (xs.set j d)))
      | none => none)
    | _ => none)
  | _, _ => none
/-! ### calls -/
/-- behind a call the new objects are let go, if nothing of the elder ones can reach them -/
def gc (μ : Store) (o : Out) : Out := match o with
  | .ok d μ' => if d.pure && (μ'.take μ.length).all MO.pure then .ok d (μ'.take μ.length) else .ok d μ'
  | .exc x μ' => if x.fs.all (fun p => p.2.pure) && (μ'.take μ.length).all MO.pure then .exc x (μ'.take μ.length) else .exc x μ'
  | .stuck => .stuck
def callF (g : List D → Store → Out) (ds : List D) (μ : Store) : Out :=
  if D.pures ds then (match g ds [] with
    | .ok d _ => if d.pure then .ok d μ else gc μ (g ds μ)
    | .exc x _ => if x.fs.all (fun p => p.2.pure) then .exc x μ else .stuck
    | .stuck => .stuck)
  else gc μ (g ds μ)
/-- what the tree leans on: the defs of the next level, the module's constants, a bound for whiles -/
structure Gm where
  fn : Str → List D → Store → Out
  cst : Str → Option D
  fuel : Nat
  /-- the fields of an exception class, in the order of its __init__ -/
  exf : Str → Option (List Str)
  /-- is the one class the other or below it -/
  sub : Str → Str → Option Bool
mutual
/-- a target takes a value -/
def tgt : T → D → Ro → Store → Option Ro
  | .name i, d, ρ, _ => some (ρ.set i (some d))
  | .tup r, d, ρ, μ => match seqD μ d with
    | some ds => tgts r ds ρ μ
    | none => none
  | _, _, _, _ => none
def tgts : T → List D → Ro → Store → Option Ro
  | .nil, [], ρ, _ => some ρ
  | .cons t r, x :: xs, ρ, μ => match tgt t x ρ μ with
    | some ρ' => tgts r xs ρ' μ
    | none => none
  | _, _, _, _ => none
end
/-- slots forgotten -/
def wipeR (ρ : Ro) : List Nat → Ro
  | [] => ρ
  | v :: vs => (wipeR ρ vs).set v none
/-- the turns of a for -/
def forL (chk : Store → Bool) (t : T) (body : DS) : List D → DS
  | [], ρ, μ => if chk μ then .nx ρ μ else .stuck
  | d :: ds, ρ, μ => if chk μ then (match tgt t d ρ μ with
    | some ρ1 => (match body ρ1 μ with
      | .nx ρ2 μ2 => forL chk t body ds ρ2 μ2
      | .ct ρ2 μ2 => forL chk t body ds ρ2 μ2
      | .bk ρ2 μ2 => .nx ρ2 μ2
      | o => o)
    | none => .stuck) else .stuck
/-- the turns of a comprehension: ys is made so far -/
def compL (chk : Store → Bool) (t : T) (own : List Nat) (x m : Bool) (c elt : DE) : List D → List D → DE
  | [], ys, _, μ => if chk μ then (if m then .ok (.loc μ.length) (μ ++ [.lst ys]) else .ok (.lst ys) μ) else .stuck
  | d :: ds, ys, ρ, μ => if chk μ then (match tgt t d (wipeR ρ own) μ with
    | some ρ1 => (match c ρ1 μ with
      | .ok b μ1 => (match truD μ1 b with
        | some true => (match elt ρ1 μ1 with
          | .ok y μ2 => if ys.length < sizeLine then compL chk t own x m c elt ds (ys ++ [y]) ρ μ2 else .stuck
          | .exc e μ2 => if x then .exc e μ2 else .stuck
          | .stuck => .stuck)
        | some false => compL chk t own x m c elt ds ys ρ μ1
        | none => .stuck)
      | _ => .stuck)
    | none => .stuck) else .stuck
def whileL (c : DE) (body : DS) : Nat → DS
  | 0, _, _ => .stuck
  | n + 1, ρ, μ => (c ρ μ).sbind ρ fun d μ1 => match truD μ1 d with
    | some true => (match body ρ μ1 with
      | .nx ρ2 μ2 => whileL c body n ρ2 μ2
      | .ct ρ2 μ2 => whileL c body n ρ2 μ2
      | .bk ρ2 μ2 => .nx ρ2 μ2
      | o => o)
    | some false => .nx ρ μ1
    | none => .stuck
/-- what is walked, or how it fails -/
inductive WOut where
  | ok (ds : List D) (chk : Store → Bool) (μ : Store) | exc (x : Exn) (μ : Store) | stuck
/-- the items that are walked, and the test that a mutable source stands as it stood -/
def srcD (μ : Store) (d : D) : Option (List D × (Store → Bool)) := match d with
  | .loc i => (match μ[i]? with
    | some (.lst xs) => some (xs, fun μ' => match μ'[i]? with
      | some (.lst ys) => D.sames xs ys
      | _ => false)
    | _ => none)
  | .tup xs => some (xs, fun _ => true)
  | .lst xs => some (xs, fun _ => true)
  | .str z => some (z.cps.toList.map fun c => D.str ⟨#[c]⟩, fun _ => true)
  | _ => none

/-- a part of an f-string -/
def fmtD (x : D) (μ : Store) : Out := match x with
  | .str z => if z.length ≤ sizeLine then .ok (.str z) μ else .stuck
  | .int i => if i.natAbs.log2 < 1920 then .ok (.str (toString i)) μ else .stuck
  | _ => .stuck
def rangeD (a b : Int) : List D := (List.range (b - a).toNat).map fun i => D.int (a + (i : Nat))
def rgOk (a b : Int) : Bool := decide (-(2 ^ 62) ≤ a ∧ a < 2 ^ 62 ∧ -(2 ^ 62) ≤ b ∧ b < 2 ^ 62)
section
variable (Γ : Gm)
mutual
def ev : E → DE
  | .var i, ρ, μ => match ρ[i]? with
    | some (some d) => .ok d μ
    | _ => .stuck
  | .non, _, μ => .ok .non μ
  | .bl b, _, μ => .ok (.bl b) μ
  | .int i, _, μ => .ok (.int i) μ
  | .str x, _, μ => .ok (.str x) μ
  | .glo x, _, μ => match Γ.cst x with
    | some d => .ok d μ
    | none => .stuck
  | .bin o a b, ρ, μ => (ev a ρ μ).bind fun x μ => (ev b ρ μ).bind fun y μ => bop o x y μ
  | .neg a, ρ, μ => (ev a ρ μ).bind fun x μ => match x with
    | .int i => .ok (.int (-i)) μ
    | _ => .stuck
  | .cmp o a b, ρ, μ => (ev a ρ μ).bind fun x μ => (ev b ρ μ).bind fun y μ => cop o x y μ
  | .not a, ρ, μ => (ev a ρ μ).bind fun x μ => match truD μ x with
    | some b => .ok (.bl (!b)) μ
    | none => .stuck
  | .and a b, ρ, μ => (ev a ρ μ).bind fun x μ => match truD μ x with
    | some true => ev b ρ μ
    | some false => .ok x μ
    | none => .stuck
  | .or a b, ρ, μ => (ev a ρ μ).bind fun x μ => match truD μ x with
    | some true => .ok x μ
    | some false => ev b ρ μ
    | none => .stuck
  | .ite c a b, ρ, μ => (ev c ρ μ).bind fun x μ => match truD μ x with
    | some true => ev a ρ μ
    | some false => ev b ρ μ
    | none => .stuck
  | .nil, _, μ => .ok (.tup []) μ
  | .cons a as, ρ, μ => (ev a ρ μ).bind fun x μ => (ev as ρ μ).bind fun y μ => match y with
    | .tup xs => .ok (.tup (x :: xs)) μ
    | _ => .stuck
  | .tup as, ρ, μ => (ev as ρ μ).bind fun y μ => match y with
    | .tup xs => if xs.length ≤ sizeLine then .ok (.tup xs) μ else .stuck
    | _ => .stuck
  | .lst m as, ρ, μ => (ev as ρ μ).bind fun y μ => match y with
    | .tup xs => if xs.length ≤ sizeLine then (if m then .ok (.loc μ.length) (μ ++ [.lst xs]) else .ok (.lst xs) μ) else .stuck
    | _ => .stuck
  | .ix a i, ρ, μ => (ev a ρ μ).bind fun x μ => (ev i ρ μ).bind fun y μ => ixD x y μ
  | .sl a lo hi, ρ, μ => (ev a ρ μ).bind fun x μ => (ev lo ρ μ).bind fun l μ => isI l fun l => (ev hi ρ μ).bind fun h μ => isI h fun h => slP x (some l) (some h) μ
  | .slf a lo, ρ, μ => (ev a ρ μ).bind fun x μ => (ev lo ρ μ).bind fun l μ => isI l fun l => slP x (some l) none μ
  | .slt a hi, ρ, μ => (ev a ρ μ).bind fun x μ => (ev hi ρ μ).bind fun h μ => isI h fun h => slP x none (some h) μ
  | .sla a, ρ, μ => (ev a ρ μ).bind fun x μ => slP x none none μ
  | .bi f a, ρ, μ => (ev a ρ μ).bind fun x μ => biD f x μ
  | .bi2 f a b, ρ, μ => (ev a ρ μ).bind fun x μ => (ev b ρ μ).bind fun y μ => bi2D f x y μ
  | .isi a t, ρ, μ => (ev a ρ μ).bind fun x μ => okB (isiD x t) μ
  | .mth0 f o, ρ, μ => (ev o ρ μ).bind fun x μ => mth0D f x μ
  | .mth1 f o a, ρ, μ => (ev o ρ μ).bind fun x μ => if rcvD f x μ then (ev a ρ μ).bind fun y μ => mth1D f x y μ else .stuck
  | .call f as, ρ, μ => (ev as ρ μ).bind fun y μ => match y with
    | .tup xs => callF (Γ.fn f) xs μ
    | _ => .stuck
  | .fld o f, ρ, μ => (ev o ρ μ).bind fun x μ => match x with
    | .loc i => (match μ[i]? with
      | some (.ins _ fs) => (match fs.lookup f with
        | some d => .ok d μ
        | none => .stuck)
      | _ => .stuck)
    | _ => .stuck
  | .one a, ρ, μ => ev a ρ μ
  | .comp x m own t src c elt, ρ, μ => match evW src ρ μ with
    | .ok ds chk μ1 => compL chk t own x m (ev c) (ev elt) ds [] ρ μ1
    | .exc x μ1 => .exc x μ1
    | .stuck => .stuck
  | .fmt a, ρ, μ => (ev a ρ μ).bind fun x μ => fmtD x μ
  | .fstr as, ρ, μ => evF as Str.empty ρ μ
/-- the parts of an f-string, one behind the other -/
def evF : E → Str → DE
  | .nil, z, _, μ => .ok (.str z) μ
  | .cons a as, z, ρ, μ => (ev a ρ μ).bind fun x μ => match x with
    | .str y => if (z ++ y).length ≤ sizeLine then evF as (z ++ y) ρ μ else .stuck
    | _ => .stuck
  | _, _, _, _ => .stuck
/-- what is walked -/
def evW : W → Ro → Store → WOut
  | .it a, ρ, μ => match ev a ρ μ with
    | .ok d μ1 => (match srcD μ1 d with
      | some p => .ok p.1 p.2 μ1
      | none => .stuck)
    | .exc x μ1 => .exc x μ1
    | .stuck => .stuck
  | .range1 a, ρ, μ => match ev a ρ μ with
    | .ok (.int j) μ1 => if rgOk 0 j then .ok (rangeD 0 j) (fun _ => true) μ1 else .stuck
    | .exc x μ1 => .exc x μ1
    | _ => .stuck
  | .range2 a b, ρ, μ => match ev a ρ μ with
    | .ok (.int i) μ1 => (match ev b ρ μ1 with
      | .ok (.int j) μ2 => if rgOk i j then .ok (rangeD i j) (fun _ => true) μ2 else .stuck
      | .exc x μ1 => .exc x μ1
      | _ => .stuck)
    | .exc x μ1 => .exc x μ1
    | _ => .stuck
end
end
/-- raise C(..) -/
def raisD (Γ : Gm) (C : Str) (ρ : Ro) (d : D) (μ : Store) : SOut := match d with
  | .tup xs => (match Γ.exf C with
    | some fs => if fs.length = xs.length then .exc ⟨C, fs.zip xs⟩ ρ μ else .stuck
    | none => .stuck)
  | _ => .stuck
/-- the clauses of a try, one behind the other -/
def clauses (Γ : Gm) (x : Exn) (ρ : Ro) (μ : Store) : List (Str × E) → SOut
  | [] => .exc x ρ μ
  | (C, e) :: r => match Γ.sub x.cls C with
    | some true => (ev Γ e ρ μ).sbind ρ fun d μ => .rt d μ
    | some false => clauses Γ x ρ μ r
    | none => .stuck
/-- name op= y, ints -/
def augI (o : BO) (a : Int) (y : D) : Option Int := match o, y with
  | .add, .int b => some (a + b)
  | .sub, .int b => some (a - b)
  | _, _ => none
def hiD (fs : List (Str × D)) : List HI → Option (List D)
  | [] => some []
  | .s x :: r => (hiD fs r).map (.str x :: ·)
  | .i n :: r => (hiD fs r).map (.int n :: ·)
  | .f x :: r => match fs.lookup x with
    | some d => (hiD fs r).map (d :: ·)
    | none => none
def evS (Γ : Gm) : S → DS
  | .skip, ρ, μ => .nx ρ μ
  | .seq a b, ρ, μ => (evS Γ a ρ μ).seq fun ρ μ => evS Γ b ρ μ
  | .set t e, ρ, μ => (ev Γ e ρ μ).sbind ρ fun d μ => match tgt t d ρ μ with
    | some ρ' => .nx ρ' μ
    | none => .stuck
  | .par2 i j a b, ρ, μ => (ev Γ a ρ μ).sbind ρ fun x μ => (ev Γ b ρ μ).sbind ρ fun y μ => .nx ((ρ.set i (some x)).set j (some y)) μ
  | .par3 i j k a b c, ρ, μ => (ev Γ a ρ μ).sbind ρ fun x μ => (ev Γ b ρ μ).sbind ρ fun y μ => (ev Γ c ρ μ).sbind ρ fun z μ => .nx (((ρ.set i (some x)).set j (some y)).set k (some z)) μ
  | .aug i o e, ρ, μ => match ρ[i]? with
    | some (some (.int a)) => (ev Γ e ρ μ).sbind ρ fun y μ => match augI o a y with
      | some k => .nx (ρ.set i (some (.int k))) μ
      | none => .stuck
    | _ => .stuck
  | .sub o i e, ρ, μ => (ev Γ e ρ μ).sbind ρ fun d μ => (ev Γ o ρ μ).sbind ρ fun x μ => (ev Γ i ρ μ).sbind ρ fun y μ => match setD x y d μ with
    | some μ' => .nx ρ μ'
    | none => .stuck
  | .ite c a b, ρ, μ => (ev Γ c ρ μ).sbind ρ fun x μ => match truD μ x with
    | some true => evS Γ a ρ μ
    | some false => evS Γ b ρ μ
    | none => .stuck
  | .for t src b, ρ, μ => match evW Γ src ρ μ with
    | .ok ds chk μ1 => forL chk t (evS Γ b) ds ρ μ1
    | .exc x μ1 => .exc x ρ μ1
    | .stuck => .stuck
  | .whil c b, ρ, μ => whileL (ev Γ c) (evS Γ b) Γ.fuel ρ μ
  | .ret e, ρ, μ => (ev Γ e ρ μ).sbind ρ fun d μ => .rt d μ
  | .ret0, _, μ => .rt .non μ
  | .brk, ρ, μ => .bk ρ μ
  | .cont, ρ, μ => .ct ρ μ
  | .exp e, ρ, μ => (ev Γ e ρ μ).sbind ρ fun _ μ => .nx ρ μ
  | .rais C as, ρ, μ => (ev Γ as ρ μ).sbind ρ fun d μ => raisD Γ C ρ d μ
  | .trys b hs, ρ, μ => match evS Γ b ρ μ with
    | .exc x ρ1 μ1 => clauses Γ x ρ1 μ1 hs
    | o => o
  | .tryas b C i es, ρ, μ => match evS Γ b ρ μ with
    | .exc x ρ1 μ1 => (match Γ.sub x.cls C with
      | some true => if x.cls = C ∧ x.fs ≠ [] ∧ i < ρ1.length then (match hiD x.fs es with
        | some ds => .rt (.tup ds) μ1
        | none => .stuck) else .stuck
      | some false => .exc x ρ1 μ1
      | none => .stuck)
    | o => o
  | .tryr b C C2 as, ρ, μ => match evS Γ b ρ μ with
    | .exc x ρ1 μ1 => (match Γ.sub x.cls C with
      | some true => if x.fs.isEmpty then (ev Γ as ρ1 μ1).sbind ρ1 fun d μ => raisD Γ C2 ρ1 d μ else .stuck
      | some false => .exc x ρ1 μ1
      | none => .stuck)
    | o => o
end KA
set_option Elab.async false
set_option linter.all false
set_option maxRecDepth 100000
/-! KA2: how data lie in the abstract heap. -/
namespace KA
open PySem L2
section
variable (K : PySem.W.Frag) (F : Hp) (m : List Addr)
mutual
def RD : D → V → Prop
  | .non, v => v = .non
  | .bl b, v => v = .bl b
  | .int i, v => v = .int i
  | .str x, v => v = .str x
  | .tup xs, v => ∃ a vs, v = .ref a ∧ SqT K F a vs ∧ RDs xs vs
  | .lst xs, v => ∃ a vs, v = .ref a ∧ Rd F a (.lst vs) ∧ RDs xs vs
  | .loc i, v => ∃ a, v = .ref a ∧ m[i]? = some a
def RDs : List D → List V → Prop
  | [], vs => vs = []
  | d :: ds, vs => ∃ v r, vs = v :: r ∧ RD d v ∧ RDs ds r
end
end
section
variable {K : PySem.W.Frag} {F F' H : Hp} {m m' : List Addr}
theorem same_t {a : Addr} {vs : List V} (s : Same F F') (h : SqT K F a vs) : SqT K F' a vs := Evl.ex_t s h
theorem same_r {a : Addr} {u : HO} (s : Same F F') (h : Rd F a u) : Rd F' a u := Evl.ex_rd s h
mutual
theorem RD.mono (s : Same F F') (hm : ∀ (i : Nat) (a : Addr), m[i]? = some a → m'[i]? = some a) : ∀ {d : D} {v : V}, RD K F m d v → RD K F' m' d v
  | .non, _, h => h
  | .bl _, _, h => h
  | .int _, _, h => h
  | .str _, _, h => h
  | .tup xs, v, h => by
    simp only [RD] at h ⊢
    obtain ⟨a, vs, e, h1, h2⟩ := h
    exact ⟨a, vs, e, same_t s h1, RDs.mono s hm h2⟩
  | .lst xs, v, h => by
    simp only [RD] at h ⊢
    obtain ⟨a, vs, e, h1, h2⟩ := h
    exact ⟨a, vs, e, same_r s h1, RDs.mono s hm h2⟩
  | .loc i, v, h => by
    simp only [RD] at h ⊢
    obtain ⟨a, e, h1⟩ := h
    exact ⟨a, e, hm _ _ h1⟩
theorem RDs.mono (s : Same F F') (hm : ∀ (i : Nat) (a : Addr), m[i]? = some a → m'[i]? = some a) : ∀ {ds : List D} {vs : List V}, RDs K F m ds vs → RDs K F' m' ds vs
  | [], _, h => h
  | d :: ds, vs, h => by
    simp only [RDs] at h ⊢
    obtain ⟨v, r, e, h1, h2⟩ := h
    exact ⟨v, r, e, RD.mono s hm h1, RDs.mono s hm h2⟩
end
mutual
theorem RD.pure (m' : List Addr) : ∀ {d : D} {v : V}, d.pure = true → RD K F m d v → RD K F m' d v
  | .non, _, _, h => h
  | .bl _, _, _, h => h
  | .int _, _, _, h => h
  | .str _, _, _, h => h
  | .tup xs, v, p, h => by
    simp only [RD] at h ⊢
    obtain ⟨a, vs, e, h1, h2⟩ := h
    exact ⟨a, vs, e, h1, RDs.pure m' (by simpa [D.pure] using p) h2⟩
  | .lst xs, v, p, h => by
    simp only [RD] at h ⊢
    obtain ⟨a, vs, e, h1, h2⟩ := h
    exact ⟨a, vs, e, h1, RDs.pure m' (by simpa [D.pure] using p) h2⟩
  | .loc i, v, p, h => by simp [D.pure] at p
theorem RDs.pure (m' : List Addr) : ∀ {ds : List D} {vs : List V}, D.pures ds = true → RDs K F m ds vs → RDs K F m' ds vs
  | [], _, _, h => h
  | d :: ds, vs, p, h => by
    simp only [D.pures, Bool.and_eq_true] at p
    simp only [RDs] at h ⊢
    obtain ⟨v, r, e, h1, h2⟩ := h
    exact ⟨v, r, e, RD.pure m' p.1 h1, RDs.pure m' p.2 h2⟩
end
mutual
theorem RD.dp (s : Same F H) : ∀ {d : D} {v : V}, d.pure = true → RD K F m d v → Dp K H v d.py
  | .non, v, _, h => by simp only [RD] at h; subst h; exact .non
  | .bl b, v, _, h => by simp only [RD] at h; subst h; exact .bl b
  | .int i, v, _, h => by simp only [RD] at h; subst h; exact .int i
  | .str x, v, _, h => by simp only [RD] at h; subst h; exact .str x
  | .tup xs, v, p, h => by
    simp only [RD] at h
    obtain ⟨a, vs, e, h1, h2⟩ := h
    subst e
    exact .tup (same_t s h1) (RDs.dp s (by simpa [D.pure] using p) h2)
  | .lst xs, v, p, h => by
    simp only [RD] at h
    obtain ⟨a, vs, e, h1, h2⟩ := h
    subst e
    exact .lst (Or.inl (same_r s h1)) (RDs.dp s (by simpa [D.pure] using p) h2)
  | .loc i, v, p, h => by simp [D.pure] at p
theorem RDs.dp (s : Same F H) : ∀ {ds : List D} {vs : List V}, D.pures ds = true → RDs K F m ds vs → DpAll K H vs (D.pys ds)
  | [], vs, _, h => by simp only [RDs] at h; subst h; exact .nil
  | d :: ds, vs, p, h => by
    simp only [D.pures, Bool.and_eq_true] at p
    simp only [RDs] at h
    obtain ⟨v, r, e, h1, h2⟩ := h
    subst e
    exact .cons (RD.dp s p.1 h1) (RDs.dp s p.2 h2)
end
theorem RDs.length : ∀ {ds : List D} {vs : List V}, RDs K F m ds vs → vs.length = ds.length
  | [], vs, h => by simp only [RDs] at h; subst h; rfl
  | d :: ds, vs, h => by
    simp only [RDs] at h
    obtain ⟨v, r, e, _, h2⟩ := h
    subst e
    simp [RDs.length h2]
theorem RDs.get : ∀ {ds : List D} {vs : List V} {i : Nat} {d : D}, RDs K F m ds vs → ds[i]? = some d → ∃ v, vs[i]? = some v ∧ RD K F m d v
  | [], _, _, _, _, e => by simp at e
  | d :: ds, vs, 0, d', h, e => by
    simp only [RDs] at h
    obtain ⟨v, r, e2, h1, _⟩ := h
    subst e2
    simp at e
    subst e
    exact ⟨v, rfl, h1⟩
  | d :: ds, vs, i + 1, d', h, e => by
    simp only [RDs] at h
    obtain ⟨v, r, e2, _, h2⟩ := h
    subst e2
    obtain ⟨v', q1, q2⟩ := RDs.get (i := i) h2 (by simpa using e)
    exact ⟨v', by simpa using q1, q2⟩
theorem RDs.getV : ∀ {ds : List D} {vs : List V} {i : Nat} {v : V}, RDs K F m ds vs → vs[i]? = some v → ∃ d, ds[i]? = some d ∧ RD K F m d v
  | ds, vs, i, v, h, e => by
    have hl := h.length
    have hi : i < ds.length := by rw [← hl]; exact (List.getElem?_eq_some_iff.mp e).1
    obtain ⟨v', q1, q2⟩ := h.get (List.getElem?_eq_getElem hi)
    rw [e] at q1; cases q1
    exact ⟨_, List.getElem?_eq_getElem hi, q2⟩
theorem RDs.append : ∀ {ds es : List D} {vs ws : List V}, RDs K F m ds vs → RDs K F m es ws → RDs K F m (ds ++ es) (vs ++ ws)
  | [], _, vs, _, h, q => by simp only [RDs] at h; subst h; exact q
  | d :: ds, es, vs, ws, h, q => by
    simp only [RDs] at h
    obtain ⟨v, r, e, h1, h2⟩ := h
    subst e
    show RDs K F m (d :: (ds ++ es)) (v :: (r ++ ws))
    simp only [RDs]
    exact ⟨v, r ++ ws, rfl, h1, RDs.append h2 q⟩
theorem RDs.take (n : Nat) : ∀ {ds : List D} {vs : List V} {n : Nat}, RDs K F m ds vs → RDs K F m (ds.take n) (vs.take n)
  | [], vs, n, h => by simp only [RDs] at h; subst h; simp [RDs]
  | d :: ds, vs, 0, h => by simp [RDs]
  | d :: ds, vs, n + 1, h => by
    simp only [RDs] at h
    obtain ⟨v, r, e, h1, h2⟩ := h
    subst e
    simp only [List.take_succ_cons, RDs]
    exact ⟨v, _, rfl, h1, RDs.take n h2⟩
theorem RDs.drop (n : Nat) : ∀ {ds : List D} {vs : List V} {n : Nat}, RDs K F m ds vs → RDs K F m (ds.drop n) (vs.drop n)
  | [], vs, n, h => by simp only [RDs] at h; subst h; simp [RDs]
  | d :: ds, vs, 0, h => by simpa using h
  | d :: ds, vs, n + 1, h => by
    simp only [RDs] at h
    obtain ⟨v, r, e, h1, h2⟩ := h
    subst e
    simpa using RDs.drop n h2
theorem RDs.set : ∀ {ds : List D} {vs : List V} {d : D} {v : V} (i : Nat), RDs K F m ds vs → RD K F m d v → RDs K F m (ds.set i d) (vs.set i v)
  | [], vs, _, _, i, h, _ => by simp only [RDs] at h; subst h; simp [RDs]
  | d :: ds, vs, d', v', 0, h, q => by
    simp only [RDs] at h
    obtain ⟨v, r, e, h1, h2⟩ := h
    subst e
    simp only [List.set_cons_zero, RDs]
    exact ⟨v', r, rfl, q, h2⟩
  | d :: ds, vs, d', v', i + 1, h, q => by
    simp only [RDs] at h
    obtain ⟨v, r, e, h1, h2⟩ := h
    subst e
    simp only [List.set_cons_succ, RDs]
    exact ⟨v, _, rfl, h1, RDs.set i h2 q⟩
theorem RDs.dropLast : ∀ {ds : List D} {vs : List V}, RDs K F m ds vs → RDs K F m ds.dropLast vs.dropLast := fun {ds vs} h => by
  rw [List.dropLast_eq_take, List.dropLast_eq_take, h.length]
  exact h.take 0
theorem RDs.one {d : D} {v : V} (h : RD K F m d v) : RDs K F m [d] [v] := by
  simp only [RDs]; exact ⟨v, [], rfl, h, rfl⟩
theorem RDs.cut {ds : List D} {vs : List V} (h : RDs K F m ds vs) (lo hi : Option Int) : RDs K F m (cutD ds lo hi) (cutV vs lo hi) := by
  unfold cutD cutV
  rw [h.length]
  exact (h.drop 0).take 0
theorem RDs.strs {ds : List D} {vs : List V} {zs : List Str} (h : RDs K F m ds vs) (e : strsD ds = some zs) : vs = zs.map V.str := by
  induction ds generalizing vs zs with
  | nil => simp only [RDs] at h; subst h; simp [strsD] at e; subst e; rfl
  | cons d ds ih =>
    simp only [RDs] at h
    obtain ⟨v, r, e2, h1, h2⟩ := h
    subst e2
    cases d with
    | str x =>
      simp only [strsD, Option.map_eq_some_iff] at e
      obtain ⟨zs', e3, e4⟩ := e
      subst e4
      simp only [RD] at h1
      subst h1
      rw [ih h2 e3]
      rfl
    | _ => simp [strsD] at e
theorem RDs.bls {ds : List D} {vs : List V} {zs : List Bool} (h : RDs K F m ds vs) (e : blsD ds = some zs) : vs = zs.map V.bl := by
  induction ds generalizing vs zs with
  | nil => simp only [RDs] at h; subst h; simp [blsD] at e; subst e; rfl
  | cons d ds ih =>
    simp only [RDs] at h
    obtain ⟨v, r, e2, h1, h2⟩ := h
    subst e2
    cases d with
    | bl x =>
      simp only [blsD, Option.map_eq_some_iff] at e
      obtain ⟨zs', e3, e4⟩ := e
      subst e4
      simp only [RD] at h1
      subst h1
      rw [ih h2 e3]
      rfl
    | _ => simp [blsD] at e
theorem RDs.of_strs (zs : List Str) : RDs K F m (zs.map D.str) (zs.map V.str) := by
  induction zs with
  | nil => simp [RDs]
  | cons z zs ih => simp only [List.map_cons, RDs, RD]; exact ⟨_, _, rfl, rfl, ih⟩
theorem RDs.of_ints (zs : List Int) : RDs K F m (zs.map D.int) (zs.map V.int) := by
  induction zs with
  | nil => simp [RDs]
  | cons z zs ih => simp only [List.map_cons, RDs, RD]; exact ⟨_, _, rfl, rfl, ih⟩
/-- flat data -/
theorem RD.flat {d : D} {v : V} (f : flatD d = true) (h : RD K F m d v) : flatV v = true := by
  cases d <;> simp [flatD] at f <;> simp only [RD] at h <;> subst h <;> rfl
theorem RDs.flat {ds : List D} {vs : List V} (f : ds.all flatD = true) (h : RDs K F m ds vs) : vs.all flatV = true := by
  induction ds generalizing vs with
  | nil => simp only [RDs] at h; subst h; rfl
  | cons d ds ih =>
    simp only [RDs] at h
    obtain ⟨v, r, e2, h1, h2⟩ := h
    subst e2
    simp only [List.all_cons, Bool.and_eq_true] at f ⊢
    exact ⟨h1.flat f.1, ih f.2 h2⟩
theorem RD.eqF {d d' : D} {v v' : V} (f : flatD d = true) (f' : flatD d' = true) (h : RD K F m d v) (h' : RD K F m d' v') : eqV v v' = KA.eqF d d' := by
  cases d <;> simp [flatD] at f <;> simp only [RD] at h <;> subst h <;> cases d' <;> simp [flatD] at f' <;> simp only [RD] at h' <;> subst h' <;> rfl
theorem RDs.inD {d : D} {v : V} {ds : List D} {vs : List V} (f : flatD d = true) (fs : ds.all flatD = true) (h : RD K F m d v) (hs : RDs K F m ds vs) : inV v vs = KA.inD d ds := by
  unfold inV KA.inD
  induction ds generalizing vs with
  | nil => simp only [RDs] at hs; subst hs; rfl
  | cons e ds ih =>
    simp only [RDs] at hs
    obtain ⟨w, r, e2, h1, h2⟩ := hs
    subst e2
    simp only [List.all_cons, Bool.and_eq_true] at fs
    simp only [List.any_cons]
    rw [ih fs.2 h2, h1.eqF fs.1 f h]
end
end KA
set_option Elab.async false
set_option linter.all false
set_option maxRecDepth 100000
/-! KA3: stores in the abstract heap, the canonical readings. -/
namespace KA
open PySem L2
/-- where a class of the module stands -/
def clsAt (mg : Str → Option Value) (C : Str) : Option Addr := match mg C with
  | some (.ref a) => some a
  | _ => none
section
variable (cl : Str → Option Addr) (K : PySem.W.Frag)
def MOk (H F : Hp) (m : List Addr) (a : Addr) : MO → Prop
  | .lst xs => ∃ vs, H a = some (.lst vs) ∧ RDs K F m xs vs
  | .ins C fs => ∃ c dx vs, cl C = some c ∧ H a = some (.ins c dx vs) ∧ ∀ f, match fs.lookup f with
    | some d => ∃ v, vs.lookup f = some v ∧ RD K F m d v
    | none => vs.lookup f = none
structure Rp (H F : Hp) (m : List Addr) (μ : Store) : Prop where
  sub : Same F H
  len : m.length = μ.length
  nd : m.Nodup
  out : ∀ a ∈ m, F a = none
  obj : ∀ (i : Nat) (a : Addr) (o : MO), m[i]? = some a → μ[i]? = some o → MOk cl K H F m a o
def RS (F : Hp) (m : List Addr) (ρ : Ro) (σ : L2.St) : Prop :=
  ρ.length = σ.length ∧ ∀ (i : Nat) (d : D), ρ[i]? = some (some d) → ∃ v, σ[i]? = some (some v) ∧ RD K F m d v
end
/-- a step: what is frozen stays, what is new is new, the store's objects are more -/
structure Stp (H F : Hp) (m : List Addr) (H' F' : Hp) (m' : List Addr) : Prop where
  same : Same F F'
  new : ∀ a, F' a ≠ none → F a ≠ none ∨ H a = none
  pre : ∃ n, m' = m ++ n ∧ ∀ a ∈ n, H a = none
  keep : ∀ a o, a ∉ m → H a = some o → H' a = some o
  some_ : ∀ a, H a ≠ none → H' a ≠ none
section
variable {cl : Str → Option Addr} {K : PySem.W.Frag} {H H' H1 H2 F F' F1 F2 : Hp} {m m' m1 m2 : List Addr} {μ μ' μ1 : Store} {ρ : Ro} {σ : L2.St}
theorem Stp.refl : Stp H F m H F m := ⟨fun _ _ h => h, fun _ h => .inl h, ⟨[], by simp, by simp⟩, fun _ _ _ h => h, fun _ h => h⟩
theorem Stp.trans (a : Stp H F m H1 F1 m1) (b : Stp H1 F1 m1 H2 F2 m2) : Stp H F m H2 F2 m2 := by
  have back : ∀ x, H1 x = none → H x = none := fun x h => by
    cases e : H x with
    | none => rfl
    | some o => exact absurd h (a.some_ x (by rw [e]; exact fun q => nomatch q))
  obtain ⟨n1, e1, q1⟩ := a.pre
  obtain ⟨n2, e2, q2⟩ := b.pre
  refine ⟨fun x o h => b.same x o (a.same x o h), fun x h => ?_, ⟨n1 ++ n2, by rw [e2, e1, List.append_assoc], fun x hx => ?_⟩, fun x o hx h => ?_, fun x h => b.some_ x (a.some_ x h)⟩
  · rcases b.new x h with h | h
    · exact a.new x h
    · exact .inr (back x h)
  · rcases List.mem_append.mp hx with hx | hx
    · exact q1 x hx
    · exact back x (q2 x hx)
  · refine b.keep x o (fun z => ?_) (a.keep x o hx h)
    rw [e1] at z
    rcases List.mem_append.mp z with z | z
    · exact hx z
    · rw [q1 x z] at h; cases h
theorem Stp.at (a : Stp H F m H1 F1 m1) : ∀ (i : Nat) (x : Addr), m[i]? = some x → m1[i]? = some x := fun i x h => by
  obtain ⟨n, e, _⟩ := a.pre
  rw [e, List.getElem?_append_left (List.getElem?_eq_some_iff.mp h).1]
  exact h
theorem RD.step {d : D} {v : V} (r : RD K F m d v) (a : Stp H F m H1 F1 m1) : RD K F1 m1 d v := r.mono a.same a.at
theorem RDs.step {d : List D} {v : List V} (r : RDs K F m d v) (a : Stp H F m H1 F1 m1) : RDs K F1 m1 d v := r.mono a.same a.at
theorem RS.step (r : RS K F m ρ σ) (a : Stp H F m H1 F1 m1) : RS K F1 m1 ρ σ := ⟨r.1, fun i d h => let ⟨v, h1, h2⟩ := r.2 i d h; ⟨v, h1, h2.step a⟩⟩
/-- the rep of one state: slots and store -/
structure At (cl : Str → Option Addr) (K : PySem.W.Frag) (σ : L2.St) (H F : Hp) (m : List Addr) (ρ : Ro) (μ : Store) : Prop where
  rp : Rp cl K H F m μ
  rs : RS K F m ρ σ
/-- an exception lies so -/
def RX (cl : Str → Option Addr) (K : PySem.W.Frag) (H F : Hp) (m : List Addr) (x : Exn) (c : Value) (dct : Option Addr) : Prop :=
  ∃ C, cl x.cls = some C ∧ c = .ref C ∧ (x.fs = [] → dct = none) ∧ (x.fs ≠ [] → ∃ dd vs, dct = some dd ∧ H dd = some (.xd vs) ∧ ∀ f d, x.fs.lookup f = some d → ∃ v, vs.lookup f = some v ∧ RD K F m d v)
def PostE (cl : Str → Option Addr) (K : PySem.W.Frag) (W : WX) (σ : L2.St) (H F : Hp) (m : List Addr) (Q : VK) : Out → Prop
  | .stuck => False
  | .ok d μ' => ∀ v H' F' m', Rp cl K H' F' m' μ' → Stp H F m H' F' m' → RD K F' m' d v → Q v H'
  | .exc x μ' => ∀ c dct H' F' m', Rp cl K H' F' m' μ' → Stp H F m H' F' m' → RX cl K H' F' m' x c dct → W c dct σ H'
theorem PostE.step {W : WX} {Q : VK} {o : Out} (p : PostE cl K W σ H F m Q o) (a : Stp H F m H1 F1 m1) : PostE cl K W σ H1 F1 m1 Q o := by
  cases o with
  | stuck => exact p
  | ok d μ' => exact fun v H' F' m' rp s rd => p v H' F' m' rp (a.trans s) rd
  | exc x μ' => exact fun c dct H' F' m' rp s rx => p c dct H' F' m' rp (a.trans s) rx
theorem PostE.mono {W W' : WX} {Q Q' : VK} {o : Out} (p : PostE cl K W σ H F m Q o) (hq : ∀ v H, Q v H → Q' v H) (hw : ∀ c d σ H, W c d σ H → W' c d σ H) : PostE cl K W' σ H F m Q' o := by
  cases o with
  | stuck => exact p
  | ok d μ' => exact fun v H' F' m' rp s rd => hq _ _ (p v H' F' m' rp s rd)
  | exc x μ' => exact fun c dct H' F' m' rp s rx => hw _ _ _ _ (p c dct H' F' m' rp s rx)
/-- the value is there: here and now -/
theorem PostE.now {W : WX} {Q : VK} {d : D} {v : V} (p : PostE cl K W σ H F m Q (.ok d μ)) (rp : Rp cl K H F m μ) (r : RD K F m d v) : Q v H := p v H F m rp .refl r
/-- the canonical reading -/
def TD (cl : Str → Option Addr) (K : PySem.W.Frag) (W : WX) (f : DE) : TE := fun σ H Q => ∃ F m ρ μ, At cl K σ H F m ρ μ ∧ PostE cl K W σ H F m Q (f ρ μ)
def PostA (cl : Str → Option Addr) (K : PySem.W.Frag) (W : WX) (σ : L2.St) (H F : Hp) (m : List Addr) (Q : List V → Hp → Prop) : Out → Prop
  | .stuck => False
  | .ok d μ' => ∃ ds, d = .tup ds ∧ ∀ vs H' F' m', Rp cl K H' F' m' μ' → Stp H F m H' F' m' → RDs K F' m' ds vs → Q vs H'
  | .exc x μ' => ∀ c dct H' F' m', Rp cl K H' F' m' μ' → Stp H F m H' F' m' → RX cl K H' F' m' x c dct → W c dct σ H'
def PostT (cl : Str → Option Addr) (K : PySem.W.Frag) (W : WX) (σ : L2.St) (H F : Hp) (m : List Addr) (Q : Bool → Hp → Prop) : Out → Prop
  | .stuck => False
  | .ok d μ' => ∃ b, truD μ' d = some b ∧ ∀ H' F' m', Rp cl K H' F' m' μ' → Stp H F m H' F' m' → Q b H'
  | .exc x μ' => ∀ c dct H' F' m', Rp cl K H' F' m' μ' → Stp H F m H' F' m' → RX cl K H' F' m' x c dct → W c dct σ H'
theorem PostT.step {W : WX} {Q : Bool → Hp → Prop} {o : Out} (p : PostT cl K W σ H F m Q o) (a : Stp H F m H1 F1 m1) : PostT cl K W σ H1 F1 m1 Q o := by
  cases o with
  | stuck => exact p
  | ok d μ' => obtain ⟨b, hb, q⟩ := p; exact ⟨b, hb, fun H' F' m' rp s => q H' F' m' rp (a.trans s)⟩
  | exc x μ' => exact fun c dct H' F' m' rp s rx => p c dct H' F' m' rp (a.trans s) rx
theorem PostA.step {W : WX} {Q : List V → Hp → Prop} {o : Out} (p : PostA cl K W σ H F m Q o) (a : Stp H F m H1 F1 m1) : PostA cl K W σ H1 F1 m1 Q o := by
  cases o with
  | stuck => exact p
  | ok d μ' => obtain ⟨b, hb, q⟩ := p; exact ⟨b, hb, fun vs H' F' m' rp s => q vs H' F' m' rp (a.trans s)⟩
  | exc x μ' => exact fun c dct H' F' m' rp s rx => p c dct H' F' m' rp (a.trans s) rx
/-- of arguments: the outcome is a tuple -/
def TDA (cl : Str → Option Addr) (K : PySem.W.Frag) (W : WX) (f : DE) : TA := fun σ H Q => ∃ F m ρ μ, At cl K σ H F m ρ μ ∧ PostA cl K W σ H F m Q (f ρ μ)
/-- of a test: the truth of the outcome -/
def TDT (cl : Str → Option Addr) (K : PySem.W.Frag) (W : WX) (f : DE) : TT := fun σ H Q => ∃ F m ρ μ, At cl K σ H F m ρ μ ∧ PostT cl K W σ H F m Q (f ρ μ)
/-- an expression, then the rest -/
theorem run_bind {W : WX} {Q : VK} {R : VK} {f : DE} {g : D → Store → Out} (a : At cl K σ H F m ρ μ) (p : PostE cl K W σ H F m Q ((f ρ μ).bind g))
    (k : ∀ v H1 F1 m1 d μ1, At cl K σ H1 F1 m1 ρ μ1 → Stp H F m H1 F1 m1 → RD K F1 m1 d v → PostE cl K W σ H1 F1 m1 Q (g d μ1) → R v H1) : TD cl K W f σ H R := by
  refine ⟨F, m, ρ, μ, a, ?_⟩
  cases e : f ρ μ with
  | stuck => rw [e] at p; exact p
  | ok d μ1 =>
    rw [e] at p
    exact fun v H1 F1 m1 rp1 s1 rd1 => k v H1 F1 m1 d μ1 ⟨rp1, a.rs.step s1⟩ s1 rd1 (p.step s1)
  | exc x μ1 => rw [e] at p; exact p
/-- arguments, then the rest -/
theorem run_args {W : WX} {Q : VK} {R : List V → Hp → Prop} {f : DE} {g : D → Store → Out} (a : At cl K σ H F m ρ μ) (p : PostE cl K W σ H F m Q ((f ρ μ).bind g)) (ht : ∀ d μ1, f ρ μ = .ok d μ1 → g d μ1 ≠ .stuck → ∃ ds, d = .tup ds)
    (k : ∀ vs H1 F1 m1 ds μ1, At cl K σ H1 F1 m1 ρ μ1 → Stp H F m H1 F1 m1 → RDs K F1 m1 ds vs → PostE cl K W σ H1 F1 m1 Q (g (.tup ds) μ1) → R vs H1) : TDA cl K W f σ H R := by
  refine ⟨F, m, ρ, μ, a, ?_⟩
  cases e : f ρ μ with
  | stuck => rw [e] at p; exact p
  | ok d μ1 =>
    rw [e] at p
    have p' : PostE cl K W σ H F m Q (g d μ1) := p
    obtain ⟨ds, rfl⟩ := ht d μ1 e (fun z => by rw [z] at p'; exact p')
    exact ⟨ds, rfl, fun vs H1 F1 m1 rp1 s1 rd1 => k vs H1 F1 m1 ds μ1 ⟨rp1, a.rs.step s1⟩ s1 rd1 (p'.step s1)⟩
  | exc x μ1 => rw [e] at p; exact p
/-- a test, then the rest -/
theorem run_test {W : WX} {Q : VK} {R : Bool → Hp → Prop} {f : DE} {g : D → Store → Out} (a : At cl K σ H F m ρ μ) (p : PostE cl K W σ H F m Q ((f ρ μ).bind g)) (ht : ∀ d μ1, f ρ μ = .ok d μ1 → g d μ1 ≠ .stuck → ∃ b, truD μ1 d = some b)
    (k : ∀ b H1 F1 m1 d μ1, At cl K σ H1 F1 m1 ρ μ1 → Stp H F m H1 F1 m1 → truD μ1 d = some b → PostE cl K W σ H1 F1 m1 Q (g d μ1) → R b H1) : TDT cl K W f σ H R := by
  refine ⟨F, m, ρ, μ, a, ?_⟩
  cases e : f ρ μ with
  | stuck => rw [e] at p; exact p
  | ok d μ1 =>
    rw [e] at p
    have p' : PostE cl K W σ H F m Q (g d μ1) := p
    obtain ⟨b, hb⟩ := ht d μ1 e (fun z => by rw [z] at p'; exact p')
    exact ⟨b, hb, fun H1 F1 m1 rp1 s1 => k b H1 F1 m1 d μ1 ⟨rp1, a.rs.step s1⟩ s1 hb (p'.step s1)⟩
  | exc x μ1 => rw [e] at p; exact p
/-! ### reading the store -/
theorem Rp.at_some (r : Rp cl K H F m μ) {i : Nat} {a : Addr} (h : m[i]? = some a) : ∃ o, μ[i]? = some o := by
  have hi : i < μ.length := by rw [← r.len]; exact (List.getElem?_eq_some_iff.mp h).1
  exact ⟨_, List.getElem?_eq_getElem hi⟩
theorem Rp.some_at (r : Rp cl K H F m μ) {i : Nat} {o : MO} (h : μ[i]? = some o) : ∃ a, m[i]? = some a := by
  have hi : i < m.length := by rw [r.len]; exact (List.getElem?_eq_some_iff.mp h).1
  exact ⟨_, List.getElem?_eq_getElem hi⟩
theorem Rp.lst (r : Rp cl K H F m μ) {i : Nat} {xs : List D} {v : V} (h : μ[i]? = some (.lst xs)) (rv : RD K F m (.loc i) v) : ∃ a vs, v = .ref a ∧ m[i]? = some a ∧ H a = some (.lst vs) ∧ RDs K F m xs vs := by
  simp only [RD] at rv
  obtain ⟨a, e, ha⟩ := rv
  obtain ⟨vs, h1, h2⟩ := r.obj i a _ ha h
  exact ⟨a, vs, e, ha, h1, h2⟩
/-- a list of any kind, read -/
theorem Rp.lstD (r : Rp cl K H F m μ) {d : D} {xs : List D} {v : V} (h : KA.lstD μ d = some xs) (rv : RD K F m d v) : ∃ a vs, v = .ref a ∧ Rd H a (.lst vs) ∧ RDs K F m xs vs := by
  cases d with
  | lst ys =>
    simp only [KA.lstD, Option.some.injEq] at h
    subst h
    simp only [RD] at rv
    obtain ⟨a, vs, e, h1, h2⟩ := rv
    exact ⟨a, vs, e, same_r r.sub h1, h2⟩
  | loc i =>
    simp only [KA.lstD] at h
    split at h
    · rename_i ys e
      cases h
      obtain ⟨a, vs, e1, _, e2, e3⟩ := r.lst e rv
      exact ⟨a, vs, e1, .inl e2, e3⟩
    · cases h
  | _ => simp [KA.lstD] at h
/-- a list or a tuple -/
theorem Rp.seqD (r : Rp cl K H F m μ) {d : D} {xs : List D} {v : V} (h : KA.seqD μ d = some xs) (rv : RD K F m d v) : ∃ a vs, v = .ref a ∧ (SqL K H a vs ∨ SqT K H a vs) ∧ RDs K F m xs vs := by
  cases d with
  | tup ys =>
    simp only [KA.seqD, Option.some.injEq] at h
    subst h
    simp only [RD] at rv
    obtain ⟨a, vs, e, h1, h2⟩ := rv
    exact ⟨a, vs, e, .inr (same_t r.sub h1), h2⟩
  | lst ys =>
    obtain ⟨a, vs, e, h1, h2⟩ := r.lstD (d := .lst ys) (xs := xs) (by simpa [KA.seqD, KA.lstD] using h) rv
    exact ⟨a, vs, e, .inl (.inl h1), h2⟩
  | loc i =>
    obtain ⟨a, vs, e, h1, h2⟩ := r.lstD (d := .loc i) (xs := xs) (by simpa [KA.seqD, KA.lstD] using h) rv
    exact ⟨a, vs, e, .inl (.inl h1), h2⟩
  | _ => simp [KA.seqD] at h
theorem Rp.tru (r : Rp cl K H F m μ) {d : D} {b : Bool} {v : V} (h : truD μ d = some b) (rv : RD K F m d v) : TruV K v H b := by
  have em : ∀ {xs : List D} {vs : List V}, RDs K F m xs vs → xs.isEmpty = vs.isEmpty := fun {xs vs} q => by
    have := q.length
    cases xs <;> cases vs <;> simp_all
  cases d with
  | non => simp only [truD, Option.some.injEq] at h; subst h; simp only [RD] at rv; subst rv; rfl
  | bl x => simp only [truD, Option.some.injEq] at h; subst h; simp only [RD] at rv; subst rv; rfl
  | int x => simp only [truD, Option.some.injEq] at h; subst h; simp only [RD] at rv; subst rv; rfl
  | str x =>
    simp only [truD] at h
    split at h
    · rename_i hl
      cases h
      simp only [RD] at rv
      subst rv
      exact ⟨hl, rfl⟩
    · cases h
  | tup xs =>
    simp only [truD, Option.some.injEq] at h
    subst h
    simp only [RD] at rv
    obtain ⟨a, vs, e, h1, h2⟩ := rv
    subst e
    exact .inr (.inl ⟨vs, same_t r.sub h1, by rw [em h2]⟩)
  | lst xs =>
    simp only [truD, Option.some.injEq] at h
    subst h
    simp only [RD] at rv
    obtain ⟨a, vs, e, h1, h2⟩ := rv
    subst e
    exact .inl ⟨vs, .inl (same_r r.sub h1), by rw [em h2]⟩
  | loc i =>
    simp only [truD] at h
    split at h
    · rename_i xs e
      cases h
      obtain ⟨a, vs, e1, _, h1, h2⟩ := r.lst e rv
      subst e1
      exact .inl ⟨vs, .inl (.inl h1), by rw [em h2]⟩
    · cases h
/-! ### a new frozen object, a new mutable one, a store -/
theorem upd_self {H : Hp} {a : Addr} {o u : HO} (h : upd H a o a = some u) : u = o := by rw [upd_same] at h; exact (Option.some.inj h).symm
theorem MOk.step {a : Addr} {o : MO} (x : MOk cl K H F m a o) (s : Same F F1) (hm : ∀ (i : Nat) (x : Addr), m[i]? = some x → m1[i]? = some x) (h : H1 a = H a) : MOk cl K H1 F1 m1 a o := by
  cases o with
  | lst xs => obtain ⟨vs, h1, h2⟩ := x; exact ⟨vs, by rw [h]; exact h1, h2.mono s hm⟩
  | ins C fs =>
    obtain ⟨c, dx, vs, h1, h2, h3⟩ := x
    refine ⟨c, dx, vs, h1, by rw [h]; exact h2, fun f => ?_⟩
    have q := h3 f
    cases e : fs.lookup f with
    | none => rw [e] at q; exact q
    | some d => rw [e] at q; obtain ⟨v, q1, q2⟩ := q; exact ⟨v, q1, q2.mono s hm⟩
theorem Rp.there (r : Rp cl K H F m μ) {a : Addr} (h : a ∈ m) : H a ≠ none := by
  obtain ⟨i, hi, e⟩ := List.getElem_of_mem h
  obtain ⟨o, ho⟩ := r.at_some (i := i) (a := a) (by rw [List.getElem?_eq_getElem hi, e])
  have q := r.obj i a o (by rw [List.getElem?_eq_getElem hi, e]) ho
  cases o with
  | lst xs => obtain ⟨vs, h1, _⟩ := q; rw [h1]; exact fun z => nomatch z
  | ins C fs => obtain ⟨c, dx, vs, _, h1, _⟩ := q; rw [h1]; exact fun z => nomatch z
/-- the frozen part with a new object -/
theorem Rp.frozen (r : Rp cl K H F m μ) {p : Addr} (hp : H p = none) (o : HO) : Rp cl K (upd H p o) (upd F p o) m μ ∧ Stp H F m (upd H p o) (upd F p o) m := by
  have hF : F p = none := by
    cases e : F p with
    | none => rfl
    | some u => rw [r.sub p u e] at hp; cases hp
  have hm : p ∉ m := fun z => r.there z hp
  have sF : Same F (upd F p o) := fun b u q => by rw [upd_ne (ne_of_none q hF)]; exact q
  refine ⟨⟨fun b u q => ?_, r.len, r.nd, fun a ha => ?_, fun i a x h1 h2 => ?_⟩, ⟨sF, fun a h => ?_, ⟨[], by simp, by simp⟩, fun a u _ h => ?_, fun a h => ?_⟩⟩
  · by_cases hb : b = p
    · subst hb; rw [upd_self q, upd_same]
    · rw [upd_ne hb] at q ⊢; exact r.sub b u q
  · have ne : a ≠ p := fun z => hm (by rw [← z]; exact ha)
    rw [upd_ne ne]; exact r.out a ha
  · have ne : a ≠ p := fun z => hm (by rw [← z]; exact List.mem_of_getElem? h1)
    exact (r.obj i a x h1 h2).step sF (fun _ _ h => h) (upd_ne ne)
  · by_cases hb : a = p
    · subst hb; exact .inr hp
    · rw [upd_ne hb] at h; exact .inl h
  · rw [upd_ne (ne_of_none h hp)]; exact h
  · by_cases hb : a = p
    · subst hb; exact absurd hp h
    · rw [upd_ne hb]; exact h
/-- a new mutable list -/
theorem Rp.fresh (r : Rp cl K H F m μ) {p : Addr} (hp : H p = none) {xs : List D} {vs : List V} (rv : RDs K F m xs vs) : Rp cl K (upd H p (.lst vs)) F (m ++ [p]) (μ ++ [.lst xs]) ∧ Stp H F m (upd H p (.lst vs)) F (m ++ [p]) ∧ RD K F (m ++ [p]) (.loc μ.length) (.ref p) := by
  have hF : F p = none := by
    cases e : F p with
    | none => rfl
    | some u => rw [r.sub p u e] at hp; cases hp
  have hm : p ∉ m := fun z => r.there z hp
  have hat : ∀ (i : Nat) (x : Addr), m[i]? = some x → (m ++ [p])[i]? = some x := fun i x h => by
    rw [List.getElem?_append_left (List.getElem?_eq_some_iff.mp h).1]; exact h
  refine ⟨⟨fun b u q => ?_, by simp [r.len], ?_, fun a ha => ?_, fun i a x h1 h2 => ?_⟩, ⟨fun _ _ h => h, fun a h => .inl h, ⟨[p], rfl, by simpa using hp⟩, fun a u _ h => ?_, fun a h => ?_⟩, ?_⟩
  · rw [upd_ne (ne_of_none q hF)]; exact r.sub b u q
  · rw [List.nodup_append]
    exact ⟨r.nd, by simp, fun a ha b hb z => hm (by rw [← List.mem_singleton.mp hb, ← z]; exact ha)⟩
  · rcases List.mem_append.mp ha with ha | ha
    · exact r.out a ha
    · simp at ha; subst ha; exact hF
  · by_cases hi : i < μ.length
    · rw [List.getElem?_append_left (by rw [r.len]; exact hi)] at h1
      rw [List.getElem?_append_left hi] at h2
      have ne : a ≠ p := fun z => hm (by rw [← z]; exact List.mem_of_getElem? h1)
      exact (r.obj i a x h1 h2).step (fun _ _ h => h) hat (upd_ne ne)
    · have e : i = μ.length := by
        have := (List.getElem?_eq_some_iff.mp h2).1
        simp at this
        omega
      subst e
      rw [← r.len, List.getElem?_append_right (Nat.le_refl _)] at h1
      rw [List.getElem?_append_right (Nat.le_refl _)] at h2
      simp at h1 h2
      subst h1 h2
      exact ⟨vs, upd_same, rv.mono (fun _ _ h => h) hat⟩
  · rw [upd_ne (ne_of_none h hp)]; exact h
  · by_cases hb : a = p
    · subst hb; exact absurd hp h
    · rw [upd_ne hb]; exact h
  · simp only [RD]
    refine ⟨p, rfl, ?_⟩
    rw [← r.len, List.getElem?_append_right (Nat.le_refl _)]
    simp
/-- a mutable list rewritten -/
theorem Rp.write (r : Rp cl K H F m μ) {i : Nat} {a : Addr} {xs : List D} {vs : List V} (ha : m[i]? = some a) (rv : RDs K F m xs vs) : Rp cl K (upd H a (.lst vs)) F m (μ.set i (.lst xs)) ∧ Stp H F m (upd H a (.lst vs)) F m := by
  have hma : a ∈ m := List.mem_of_getElem? ha
  have hF : F a = none := r.out a hma
  refine ⟨⟨fun b u q => ?_, by simp [r.len], r.nd, r.out, fun j b x h1 h2 => ?_⟩, ⟨fun _ _ h => h, fun a h => .inl h, ⟨[], by simp, by simp⟩, fun b u hb h => ?_, fun b h => ?_⟩⟩
  · rw [upd_ne (ne_of_none q hF)]; exact r.sub b u q
  · by_cases hj : j = i
    · subst hj
      rw [ha] at h1; cases h1
      have hlt : j < μ.length := by rw [← r.len]; exact (List.getElem?_eq_some_iff.mp ha).1
      rw [List.getElem?_set_self hlt] at h2; cases h2
      exact ⟨vs, upd_same, rv⟩
    · rw [List.getElem?_set_ne (Ne.symm hj)] at h2
      have ne : b ≠ a := fun z => hj ((List.getElem?_inj (List.getElem?_eq_some_iff.mp h1).1 r.nd).mp (by rw [h1, ha, z]))
      exact (r.obj j b x h1 h2).step (fun _ _ h => h) (fun _ _ h => h) (upd_ne ne)
  · have ne : b ≠ a := fun z => hb (z ▸ hma)
    rw [upd_ne ne]; exact h
  · by_cases hb : b = a
    · subst hb; rw [upd_same]; exact fun z => nomatch z
    · rw [upd_ne hb]; exact h
end
end KA
set_option Elab.async false
set_option linter.all false
set_option maxRecDepth 100000
/-! KA4: the operations, by values. -/
namespace KA
open PySem PySem.Spec PyProof.Rows L2
theorem _root_.L2.PE.imp {X : Cx} {e : Expr} {t t' : TE} (h : PE X e t) (i : ∀ σ H Q, t' σ H Q → t σ H Q) : PE X e t' := ⟨fun pins s σ H Q I q => h.run pins s σ H Q I (i σ H Q q)⟩
theorem _root_.L2.PT.imp {X : Cx} {e : Expr} {t t' : TT} (h : PT X e t) (i : ∀ σ H Q, t' σ H Q → t σ H Q) : PT X e t' := ⟨fun pins s σ H Q I q => h.run pins s σ H Q I (i σ H Q q)⟩
theorem _root_.L2.PW.imp {X : Cx} {e : Expr} {t t' : TT} (h : PW X e t) (i : ∀ σ H Q, t' σ H Q → t σ H Q) : PW X e t' := ⟨fun wh pins s σ H Q I q => h.run wh pins s σ H Q I (i σ H Q q)⟩
theorem _root_.L2.PA.imp {X : Cx} {e : List Expr} {t t' : TA} (h : PA X e t) (i : ∀ σ H Q, t' σ H Q → t σ H Q) : PA X e t' := ⟨fun pos pins s σ H Q I q => h.run pos pins s σ H Q I (i σ H Q q)⟩
theorem _root_.L2.PS.imp {X : Cx} {e : Stmt} {t t' : TS} (h : PS X e t) (i : ∀ D σ H, t' D σ H → t D σ H) : PS X e t' := ⟨fun pins s σ H D I q => h.run pins s σ H D I (i D σ H q)⟩
theorem _root_.L2.PSs.imp {X : Cx} {e : List Stmt} {t t' : TS} (h : PSs X e t) (i : ∀ D σ H, t' D σ H → t D σ H) : PSs X e t' := ⟨fun pins s σ H D I q => h.run pins s σ H D I (i D σ H q)⟩
section
variable {cl : Str → Option Addr} {X : Cx} {H F : Hp} {m : List Addr} {μ : Store} {W : WX} {σ : L2.St} {Q : VK}
/-- an operation on data is served by a reading on values -/
def OpD (cl : Str → Option Addr) (K : PySem.W.Frag) (r : R2) (g : D → D → Store → Out) : Prop := ∀ {H F : Hp} {m : List Addr} {μ : Store} {W : WX} {σ : L2.St} {Q : VK} {x y : D} {v u : V},
  Rp cl K H F m μ → RD K F m x v → RD K F m y u → PostE cl K W σ H F m Q (g x y μ) → r v u H Q
def UnD (cl : Str → Option Addr) (K : PySem.W.Frag) (r : V → Hp → VK → Prop) (g : D → Store → Out) : Prop := ∀ {H F : Hp} {m : List Addr} {μ : Store} {W : WX} {σ : L2.St} {Q : VK} {x : D} {v : V},
  Rp cl K H F m μ → RD K F m x v → PostE cl K W σ H F m Q (g x μ) → r v H Q
theorem rd_int {K : PySem.W.Frag} {i : Int} : RD K F m (.int i) (.int i) := by simp only [RD]
theorem rd_bl {K : PySem.W.Frag} {i : Bool} : RD K F m (.bl i) (.bl i) := by simp only [RD]
theorem rd_str {K : PySem.W.Frag} {i : Str} : RD K F m (.str i) (.str i) := by simp only [RD]
theorem rd_non {K : PySem.W.Frag} : RD K F m .non .non := by simp only [RD]
/-- a new frozen list, tuple -/
theorem new_lst {K : PySem.W.Frag} (rp : Rp cl K H F m μ) {xs : List D} {vs : List V} (r : RDs K F m xs vs) (p : PostE cl K W σ H F m Q (.ok (.lst xs) μ)) : ∀ a, H a = none → Q (.ref a) (upd H a (.lst vs)) := fun a ha => by
  obtain ⟨r1, s1⟩ := rp.frozen ha (.lst vs)
  refine p _ _ _ _ r1 s1 ?_
  simp only [RD]
  exact ⟨a, vs, rfl, .inl upd_same, r.step s1⟩
theorem new_tup {K : PySem.W.Frag} (rp : Rp cl K H F m μ) {xs : List D} {vs : List V} (r : RDs K F m xs vs) (p : PostE cl K W σ H F m Q (.ok (.tup xs) μ)) : ∀ a, H a = none → Q (.ref a) (upd H a (.tup vs)) := fun a ha => by
  obtain ⟨r1, s1⟩ := rp.frozen ha (.tup vs)
  refine p _ _ _ _ r1 s1 ?_
  simp only [RD]
  exact ⟨a, vs, rfl, .inl (.inl upd_same), r.step s1⟩
/-! ### list + list, both read -/
def rCatR : R2 := fun x y H Q => ∃ l b xs zs, x = .ref l ∧ y = .ref b ∧ Rd H l (.lst xs) ∧ Rd H b (.lst zs) ∧ xs.length + zs.length ≤ sizeLine ∧ ∀ p, H p = none → Q (.ref p) (upd H p (.lst (xs ++ zs)))
theorem op_catR : OpR X (binaryOp .Add) rCatR := by
  intro pins s σ H x y v u Q I rx ry h
  obtain ⟨l, b, xs, zs, rfl, rfl, hH, hB, hz, q⟩ := h
  cases rx
  cases ry
  obtain ⟨z, its, n, r, e⟩ := hH.ok I.hok
  obtain ⟨z2, its2, n2, r2, e2⟩ := hB.ok I.hok
  have hl := r.length
  have hl2 := r2.length
  refine PySem.P.add_list e e2 ?_ (by rw [List.size_toArray, List.size_toArray]; omega)
  have ea : its.toArray ++ its2.toArray = (its ++ its2).toArray := by simp
  rw [ea]
  exact ⟨.ref _, _, I.lnew (t' := s.toks) (r.append r2) (by rw [List.length_append]; omega), rfl, q _ I.fresh⟩
theorem imp_op {f : Value → Value → Sem Value} {r r' : R2} (h : OpR X f r) (i : ∀ x y H Q, r' x y H Q → r x y H Q) : OpR X f r' := fun pins s σ H x y v u Q I rx ry q => h pins s σ H x y v u Q I rx ry (i _ _ _ _ q)
def rAddA (K : PySem.W.Frag) : R2 := fun x y H Q => rI0 (fun i j => .int (i + j)) x y H Q ∨ (fun x y H Q => ∃ i j, x = .str i ∧ y = .str j ∧ i.length + j.length ≤ sizeLine ∧ Q (.str (i ++ j)) H : R2) x y H Q ∨ rCatA K x y H Q ∨ rCatR x y H Q
theorem op_addA : OpR X (binaryOp .Add) (rAddA X.K) := op_add.or (op_add_str.or (op_catA.or op_catR))
theorem opd_add {K : PySem.W.Frag} : OpD cl K (rAddA K) (bop .add) := by
  intro H F m μ W σ Q x y v u rp rx ry p
  have lists : ∀ {x y : D} {v u : V}, RD K F m x v → RD K F m y u → PostE cl K W σ H F m Q (match lstD μ x, lstD μ y with
    | some xs, some ys => if BO.add = .add ∧ xs.length + ys.length ≤ sizeLine then .ok (.lst (xs ++ ys)) μ else .stuck
    | _, _ => .stuck) → rAddA K v u H Q := fun {x y v u} rx ry p => by
    cases ex : lstD μ x with
    | none => rw [ex] at p; exact p.elim
    | some xs =>
      cases ey : lstD μ y with
      | none => rw [ex, ey] at p; exact p.elim
      | some ys =>
        rw [ex, ey] at p
        simp only at p
        split at p
        · rename_i hz
          obtain ⟨a, vs, e1, h1, q1⟩ := rp.lstD ex rx
          obtain ⟨b, ws, e2, h2, q2⟩ := rp.lstD ey ry
          exact .inr (.inr (.inr ⟨a, b, vs, ws, e1, e2, h1, h2, by rw [q1.length, q2.length]; exact hz.2, new_lst rp (q1.append q2) p⟩))
        · exact p.elim
  cases x with
  | int i =>
    cases y with
    | int j =>
      simp only [RD] at rx ry
      exact .inl ⟨i, j, rx, ry, p.now rp rd_int⟩
    | _ => exact lists rx ry p
  | str a =>
    cases y with
    | str b =>
      simp only [bop] at p
      split at p
      · rename_i hz
        simp only [RD] at rx ry
        exact .inr (.inl ⟨a, b, rx, ry, hz.2, p.now rp rd_str⟩)
      · exact p.elim
    | _ => exact lists rx ry p
  | tup xs =>
    cases y with
    | tup ys =>
      simp only [bop] at p
      split at p
      · rename_i hz
        simp only [RD] at rx ry
        obtain ⟨a, vs, e1, h1, q1⟩ := rx
        obtain ⟨b, ws, e2, h2, q2⟩ := ry
        have l1 := q1.length
        have l2 := q2.length
        refine .inr (.inr (.inl ⟨a, b, vs, ws, e1, e2, same_t rp.sub h1, same_t rp.sub h2, by rw [l1, l2]; exact hz.2, fun e => ?_, fun _ e => ?_, fun _ _ => new_tup rp (q1.append q2) p⟩))
        · subst e
          have : xs = [] := by cases xs with | nil => rfl | cons _ _ => simp at l1
          subst this
          exact p.now rp (by simp only [RD]; exact ⟨b, ws, rfl, h2, by simpa using q2⟩)
        · subst e
          have : ys = [] := by cases ys with | nil => rfl | cons _ _ => simp at l2
          subst this
          exact p.now rp (by simp only [RD]; exact ⟨a, vs, rfl, h1, by simpa using q1⟩)
      · exact p.elim
    | _ => exact lists rx ry p
  | _ => exact lists rx ry p
/-! ### numbers -/
theorem opd_int {K : PySem.W.Frag} {o : BO} {r : R2} (ho : o ≠ .add) (h : ∀ {H : Hp} {Q : VK} {i j k : Int}, bopI o i j = some k → Q (.int k) H → r (.int i) (.int j) H Q) : OpD cl K r (bop o) := by
  intro H F m μ W σ Q x y v u rp rx ry p
  cases x with
  | int i =>
    cases y with
    | int j =>
      simp only [bop] at p
      simp only [RD] at rx ry
      subst rx ry
      cases e : bopI o i j with
      | none => rw [e] at p; exact p.elim
      | some k => rw [e] at p; exact h e (p.now rp rd_int)
    | _ => simp [bop, lstD, PostE] at p
  | str a => cases y <;> simp [bop, lstD, PostE, ho] at p
  | tup a => cases y <;> simp [bop, lstD, PostE, ho] at p
  | _ =>
    simp only [bop] at p
    split at p
    · rw [if_neg (fun z => ho z.1)] at p; exact p.elim
    · exact p.elim
def rSubA : R2 := rI0 fun i j => .int (i - j)
theorem opd_sub {K : PySem.W.Frag} : OpD cl K rSubA (bop .sub) := opd_int (by decide) fun {H Q i j k} e q => by simp only [bopI, Option.some.injEq] at e; subst e; exact ⟨i, j, rfl, rfl, q⟩
/-- * below 134 million bits -/
def CMulA (i j : Int) : Prop := i.natAbs.log2 + j.natAbs.log2 < 134000000
theorem CMulA.ok {i j : Int} (h : CMulA i j) : IntMulOk i j := by
  have b : ∀ x : Int, Builtin.Int.intBits x ≤ x.natAbs.log2 + 1 := fun x => by
    unfold Builtin.Int.intBits
    split <;> omega
  have h1 := b i
  have h2 := b j
  have h3 : i.natAbs.log2 + j.natAbs.log2 < 134000000 := h
  have e : bitsLine = 134217728 := by decide
  intro z
  rw [Bool.and_eq_true] at z
  have z2 := z.2
  unfold Builtin.Int.intTooBig at z2
  have z3 := of_decide_eq_true z2
  rw [e] at z3
  omega
theorem op_mulA : OpR X (binaryOp .Mult) (rI CMulA fun i j => .int (i * j)) := opI fun _ _ _ _ _ _ _ hc q => mul_int q hc.ok
def rMulA : R2 := rI CMulA fun i j => .int (i * j)
theorem opd_mul {K : PySem.W.Frag} : OpD cl K rMulA (bop .mul) := opd_int (by decide) fun {H Q i j k} e q => by
  simp only [bopI] at e
  split at e
  · rename_i h; cases e; exact ⟨i, j, rfl, rfl, h, q⟩
  · cases e
def rDivA : R2 := fun x y H Q => rI CDivW (fun i j => .int (i / j)) x y H Q ∨ rI CDivN (fun i j => .int (i.fdiv j)) x y H Q
theorem op_divA : OpR X (binaryOp .FloorDiv) rDivA := op_fdivW.or op_fdivN
theorem opd_div {K : PySem.W.Frag} : OpD cl K rDivA (bop .fdiv) := opd_int (by decide) fun {H Q i j k} e q => by
  simp only [bopI] at e
  split at e
  · rename_i h
    cases e
    rcases h with h | h
    · exact .inl ⟨i, j, rfl, rfl, h, by rw [Int.fdiv_eq_ediv_of_nonneg _ (Int.le_of_lt h.1)] at q; exact q⟩
    · exact .inr ⟨i, j, rfl, rfl, h, q⟩
  · cases e
def rModA : R2 := rI (fun _ j => j ≠ 0) fun i j => .int (i.fmod j)
theorem opd_mod {K : PySem.W.Frag} : OpD cl K rModA (bop .mod) := opd_int (by decide) fun {H Q i j k} e q => by
  simp only [bopI] at e
  split at e
  · rename_i h; cases e; exact ⟨i, j, rfl, rfl, h, q⟩
  · cases e
def rPowA : R2 := rI CPow fun i j => .int (i ^ j.toNat)
theorem opd_pow {K : PySem.W.Frag} : OpD cl K rPowA (bop .pow) := opd_int (by decide) fun {H Q i j k} e q => by
  simp only [bopI] at e
  split at e
  · rename_i h; cases e; exact ⟨i, j, rfl, rfl, h, q⟩
  · cases e
/-! ### comparisons -/
theorem opd_cmpI {K : PySem.W.Frag} {p : Int → Int → Bool} {o : CO} (h : ∀ x y μ, cop o x y μ = match x, y with
    | .int i, .int j => .ok (.bl (p i j)) μ
    | _, _ => .stuck) : OpD cl K (rI0 fun i j => .bl (p i j)) (cop o) := by
  intro H F m μ W σ Q x y v u rp rx ry q
  rw [h] at q
  cases x with
  | int i =>
    cases y with
    | int j =>
      simp only [RD] at rx ry
      exact ⟨i, j, rx, ry, q.now rp rd_bl⟩
    | _ => exact q.elim
  | _ => exact q.elim
theorem opd_lt {K : PySem.W.Frag} : OpD cl K (rI0 fun i j => .bl (decide (i < j))) (cop .lt) := opd_cmpI fun _ _ _ => rfl
theorem opd_le {K : PySem.W.Frag} : OpD cl K (rI0 fun i j => .bl (decide (i ≤ j))) (cop .le) := opd_cmpI fun _ _ _ => rfl
theorem opd_gt {K : PySem.W.Frag} : OpD cl K (rI0 fun i j => .bl (decide (j < i))) (cop .gt) := opd_cmpI fun _ _ _ => rfl
theorem opd_ge {K : PySem.W.Frag} : OpD cl K (rI0 fun i j => .bl (decide (j ≤ i))) (cop .ge) := opd_cmpI fun _ _ _ => rfl
/-- == of data -/
theorem rd_scal {K : PySem.W.Frag} {x y : D} {v u : V} (h : dscal x y = true) (rx : RD K F m x v) (ry : RD K F m y u) : scal v u = true ∧ decide (v = u) = deq x y := by
  cases x <;> cases y <;> simp [dscal] at h <;> simp only [RD] at rx ry <;> subst rx ry <;> simp [scal, deq]
theorem rd_view {K : PySem.W.Frag} (rp : Rp cl K H F m μ) {x : D} {v : V} (h : (vw μ x).pure = true) (rx : RD K F m x v) : Dp K H v (vw μ x).py := by
  cases x with
  | loc i =>
    simp only [vw] at h ⊢
    split at h
    · rename_i xs e
      obtain ⟨a, vs, e1, _, h1, h2⟩ := rp.lst e rx
      subst e1
      exact .lst (.inl (.inl h1)) (h2.dp rp.sub (by simpa [D.pure] using h))
    · simp [D.pure] at h
  | _ => exact rx.dp rp.sub (by simpa [vw] using h)
def rEqA (K : PySem.W.Frag) : R2 := fun x y H Q => rEq x y H Q ∨ rEqD K x y H Q
theorem op_eqA (hu : X.A.units + 64 < cLine) : OpR X (compareOp .Eq) (rEqA X.K) := op_eq.or (op_eqD hu)
def rNeA (K : PySem.W.Frag) : R2 := fun x y H Q => rNe x y H Q ∨ rNeD K x y H Q
theorem op_neA (hu : X.A.units + 64 < cLine) : OpR X (compareOp .NotEq) (rNeA X.K) := op_ne.or (op_neD hu)
theorem opd_eq {K : PySem.W.Frag} : OpD cl K (rEqA K) (cop .eq) := by
  intro H F m μ W σ Q x y v u rp rx ry q
  simp only [cop, eqD] at q
  split at q
  · rename_i h
    obtain ⟨h1, h2⟩ := rd_scal h rx ry
    refine .inl ⟨h1, ?_⟩
    rw [h2]
    exact q.now rp rd_bl
  · split at q
    · rename_i h
      simp only [Bool.and_eq_true] at h
      exact .inr ⟨_, _, rd_view rp h.1.1.1 rx, rd_view rp h.1.1.2 ry, h.1.2, h.2, q.now rp rd_bl⟩
    · exact q.elim
theorem opd_ne {K : PySem.W.Frag} : OpD cl K (rNeA K) (cop .ne) := by
  intro H F m μ W σ Q x y v u rp rx ry q
  simp only [cop, eqD] at q
  split at q
  · rename_i h
    obtain ⟨h1, h2⟩ := rd_scal h rx ry
    refine .inl ⟨h1, ?_⟩
    rw [h2]
    exact q.now rp rd_bl
  · split at q
    · rename_i h
      simp only [Bool.and_eq_true] at h
      exact .inr ⟨_, _, rd_view rp h.1.1.1 rx, rd_view rp h.1.1.2 ry, h.1.2, h.2, q.now rp rd_bl⟩
    · exact q.elim
def rIsA : R2 := fun x y H Q => (y = .non ∧ Q (.bl (decide (x = .non))) H) ∨ rIsB x y H Q
theorem op_isA : OpR X (compareOp .Is) rIsA := op_isN.or op_isBl
def rNotA : R2 := fun x y H Q => (y = .non ∧ Q (.bl (!decide (x = .non))) H) ∨ rNotB x y H Q
theorem op_notA : OpR X (compareOp .IsNot) rNotA := op_notN.or op_notBl
theorem rd_isnon {K : PySem.W.Frag} {x : D} {v : V} (rx : RD K F m x v) : decide (v = .non) = (match x with | .non => true | _ => false) := by
  cases x with
  | non => simp only [RD] at rx; subst rx; rfl
  | bl b => simp only [RD] at rx; subst rx; rfl
  | int b => simp only [RD] at rx; subst rx; rfl
  | str b => simp only [RD] at rx; subst rx; rfl
  | tup b => simp only [RD] at rx; obtain ⟨a, vs, e, _⟩ := rx; subst e; rfl
  | lst b => simp only [RD] at rx; obtain ⟨a, vs, e, _⟩ := rx; subst e; rfl
  | loc b => simp only [RD] at rx; obtain ⟨a, e, _⟩ := rx; subst e; rfl
theorem opd_is {K : PySem.W.Frag} : OpD cl K rIsA (cop .is_) := by
  intro H F m μ W σ Q x y v u rp rx ry q
  have hn := rd_isnon rx
  cases y with
  | non =>
    simp only [RD] at ry
    subst ry
    refine .inl ⟨rfl, ?_⟩
    rw [hn]
    cases x <;> first | exact q.now rp rd_bl | exact q.elim
  | bl b =>
    cases x with
    | bl a => simp only [RD] at rx ry; exact .inr ⟨a, b, rx, ry, q.now rp rd_bl⟩
    | _ => exact q.elim
  | _ => cases x <;> exact q.elim
theorem opd_isnot {K : PySem.W.Frag} : OpD cl K rNotA (cop .isnot) := by
  intro H F m μ W σ Q x y v u rp rx ry q
  have hn := rd_isnon rx
  cases y with
  | non =>
    simp only [RD] at ry
    subst ry
    refine .inl ⟨rfl, ?_⟩
    rw [hn]
    cases x <;> first | exact q.now rp rd_bl | exact q.elim
  | bl b =>
    cases x with
    | bl a => simp only [RD] at rx ry; exact .inr ⟨a, b, rx, ry, q.now rp rd_bl⟩
    | _ => exact q.elim
  | _ => cases x <;> exact q.elim
def rInDp (K : PySem.W.Frag) (neg : Bool) : R2 := fun x y H Q => ∃ d ds, Dp K H x d ∧ Dp K H y (.list ds) ∧ SeqAt.shaped d = true ∧ SeqAt.shaped (.list ds) = true ∧ Q (.bl (if neg then !ds.any fun z => PyData.eqv z d else ds.any fun z => PyData.eqv z d)) H
theorem op_inDp (hu : X.A.units + 65 < cLine) : OpR X (compareOp .In) (rInDp X.K false) := imp_op (op_inD hu) fun x y H Q ⟨d, ds, h1, h2, h3, h4, q⟩ => ⟨d, ds, h1, h2, h3, h4, by simpa using q⟩
theorem op_notInDp (hu : X.A.units + 65 < cLine) : OpR X (compareOp .NotIn) (rInDp X.K true) := imp_op (op_notInD hu) fun x y H Q ⟨d, ds, h1, h2, h3, h4, q⟩ => ⟨d, ds, h1, h2, h3, h4, by simpa using q⟩
def rSeqIn (K : PySem.W.Frag) (neg : Bool) : R2 := fun x y H Q => rIn K neg x y H Q ∨ rInDp K neg x y H Q
def rInA (K : PySem.W.Frag) : R2 := fun x y H Q => (∃ (c : Nat) (z : Str), x = .str ⟨#[c]⟩ ∧ y = .str z ∧ Q (.bl (decide (c ∈ z.cps.toList))) H) ∨ rSeqIn K false x y H Q
theorem op_inA (hu : X.A.units + 65 < cLine) : OpR X (compareOp .In) (rInA X.K) := op_in_sign.or (op_in_seq.or (op_inDp hu))
def rNotInA (K : PySem.W.Frag) : R2 := fun x y H Q => (∃ (c : Nat) (z : Str), x = .str ⟨#[c]⟩ ∧ y = .str z ∧ Q (.bl (!decide (c ∈ z.cps.toList))) H) ∨ rSeqIn K true x y H Q
theorem op_notInA (hu : X.A.units + 65 < cLine) : OpR X (compareOp .NotIn) (rNotInA X.K) := op_notIn_sign.or (op_notIn_seq.or (op_notInDp hu))
theorem in_seq {K : PySem.W.Frag} {x y : D} {v u : V} {neg : Bool} (rp : Rp cl K H F m μ) (rx : RD K F m x v) (ry : RD K F m y u) (q : PostE cl K W σ H F m Q (inSeq neg x y μ)) : rSeqIn K neg v u H Q := by
  unfold inSeq at q
  cases e : seqD μ y with
  | none => rw [e] at q; exact q.elim
  | some ys =>
    rw [e] at q
    simp only at q
    split at q
    · rename_i h
      simp only [Bool.and_eq_true] at h
      obtain ⟨a, vs, e1, h1, h2⟩ := rp.seqD e ry
      refine .inl ⟨a, vs, e1, h1, rx.flat h.1, h2.flat h.2, ?_⟩
      rw [h2.inD h.1 h.2 rx]
      exact q.now rp rd_bl
    · split at q
      · rename_i h
        simp only [Bool.and_eq_true, inDeep] at h
        obtain ⟨h0, ⟨⟨hp, hs⟩, hps⟩, hss⟩ := h
        have el : lstD μ y = some ys := by
          cases y with
          | tup zs => simp [lstD] at h0
          | lst zs => simpa [lstD, seqD] using e
          | loc i => simpa [lstD, seqD] using e
          | _ => simp [lstD] at h0
        obtain ⟨a, vs, e1, h1, h2⟩ := rp.lstD el ry
        subst e1
        exact .inr ⟨x.py, D.pys ys, rx.dp rp.sub hp, .lst (.inl h1) (h2.dp rp.sub hps), hs, hss, q.now rp rd_bl⟩
      · exact q.elim
theorem opd_in {K : PySem.W.Frag} : OpD cl K (rInA K) (cop .in_) := by
  intro H F m μ W σ Q x y v u rp rx ry q
  simp only [cop] at q
  split at q
  · rename_i w z
    split at q
    · rename_i c e
      simp only [RD] at rx ry
      have ew : w = ⟨#[c]⟩ := by
        cases w with
        | mk a => cases a; simp at e; subst e; rfl
      subst ew
      exact .inl ⟨_, _, rx, ry, q.now rp rd_bl⟩
    · exact q.elim
  · exact .inr (in_seq (neg := false) rp rx ry q)
theorem opd_notin {K : PySem.W.Frag} : OpD cl K (rNotInA K) (cop .notin) := by
  intro H F m μ W σ Q x y v u rp rx ry q
  simp only [cop] at q
  split at q
  · rename_i w z
    split at q
    · rename_i c e
      simp only [RD] at rx ry
      have ew : w = ⟨#[c]⟩ := by
        cases w with
        | mk a => cases a; simp at e; subst e; rfl
      subst ew
      exact .inl ⟨_, _, rx, ry, q.now rp rd_bl⟩
    · exact q.elim
  · exact .inr (in_seq (neg := true) rp rx ry q)
/-! ### items, slices -/
theorem atI_RDs {K : PySem.W.Frag} {xs : List D} {vs : List V} {i : Int} {d : D} (h : RDs K F m xs vs) (e : atI xs i = some d) : ∃ v, atI vs i = some v ∧ RD K F m d v := by
  unfold atI at e ⊢
  rw [h.length]
  cases hj : ixN xs.length i with
  | none => rw [hj] at e; cases e
  | some j =>
    rw [hj] at e
    obtain ⟨v, h1, h2⟩ := h.get (i := j) (by simpa using e)
    exact ⟨v, by simpa using h1, h2⟩
theorem opd_ix {K : PySem.W.Frag} : OpD cl K (rIx K) ixD := by
  intro H F m μ W σ Q x y v u rp rx ry q
  have seq : ∀ {x : D} {i : Int} {v : V}, RD K F m x v → PostE cl K W σ H F m Q (match seqD μ x with
    | some xs => (match L2.atI xs i with
      | some d => .ok d μ
      | none => .stuck)
    | none => .stuck) → rIx K v (.int i) H Q := fun {x i v} rx q => by
    cases e : seqD μ x with
    | none => rw [e] at q; exact q.elim
    | some xs =>
      rw [e] at q
      simp only at q
      cases e2 : atI xs i with
      | none => rw [e2] at q; exact q.elim
      | some d =>
        rw [e2] at q
        obtain ⟨a, vs, e1, h1, h2⟩ := rp.seqD e rx
        obtain ⟨w, h3, h4⟩ := atI_RDs h2 e2
        rcases h1 with h1 | h1
        · exact .inl ⟨a, vs, i, w, e1, rfl, h1, h3, q.now rp h4⟩
        · exact .inr (.inl ⟨a, vs, i, w, e1, rfl, h1, h3, q.now rp h4⟩)
  cases y with
  | int i =>
    simp only [RD] at ry
    subst ry
    cases x with
    | str z =>
      simp only [ixD] at q
      simp only [RD] at rx
      cases e : atI z.cps.toList i with
      | none => rw [e] at q; exact q.elim
      | some c =>
        rw [e] at q
        simp only at q
        split at q
        · rename_i h
          exact .inr (.inr ⟨z, i, c, rx, rfl, h, e, q.now rp rd_str⟩)
        · exact q.elim
    | _ => exact seq rx q
  | _ => cases x <;> exact q.elim
def rSlAll (K : PySem.W.Frag) : V → Option Int → Option Int → Hp → VK → Prop := fun x lo hi H Q => rSlS x lo hi H Q ∨ rSlA K x lo hi H Q ∨ rSlL K x lo hi H Q
theorem sl_all : SlR X (rSlAll X.K) := sl_str.or (sl_tupA.or sl_list)
theorem sIx_le' (n : Nat) (o : Option Int) : HT.sIx n 0 o ≤ n := HT.sIx_le n 0 (Nat.zero_le _) o
theorem cutD_whole {xs : List D} {lo hi : Option Int} (h : HT.sIx xs.length 0 lo = 0 ∧ HT.sIx xs.length xs.length hi = xs.length) : cutD xs lo hi = xs := by
  unfold cutD
  rw [h.1, h.2]
  simp
theorem sl_ok {K : PySem.W.Frag} {x : D} {v : V} {lo hi : Option Int} (rp : Rp cl K H F m μ) (rx : RD K F m x v) (q : PostE cl K W σ H F m Q (slP x lo hi μ)) : rSlAll K v lo hi H Q := by
  have lists : ∀ {x : D} {v : V}, RD K F m x v → PostE cl K W σ H F m Q (match lstD μ x with
      | some xs => .ok (.lst (cutD xs lo hi)) μ
      | none => .stuck) → rSlAll K v lo hi H Q := fun {x v} rx q => by
    cases e : lstD μ x with
    | none => rw [e] at q; exact q.elim
    | some xs =>
      rw [e] at q
      obtain ⟨a, vs, e1, h1, h2⟩ := rp.lstD e rx
      exact .inr (.inr ⟨a, vs, e1, .inl h1, new_lst rp (h2.cut lo hi) q⟩)
  cases x with
  | str z =>
    simp only [slP] at q
    split at q
    · rename_i h
      simp only [RD] at rx
      exact .inl ⟨z, rx, h, q.now rp rd_str⟩
    · exact q.elim
  | tup xs =>
    simp only [slP] at q
    simp only [RD] at rx
    obtain ⟨a, vs, e1, h1, h2⟩ := rx
    refine .inr (.inl ⟨a, vs, e1, same_t rp.sub h1, fun h => ?_, fun _ => new_tup rp (h2.cut lo hi) q⟩)
    rw [h2.length] at h
    rw [cutD_whole h] at q
    exact q.now rp (by simp only [RD]; exact ⟨a, vs, rfl, h1, h2⟩)
  | _ => exact lists rx q
end
end KA
set_option Elab.async false
set_option linter.all false
set_option maxRecDepth 100000
/-! KA5: expressions, one rule a form. -/
namespace KA
open PySem PySem.Spec PyProof.Rows L2
section
variable {cl : Str → Option Addr} {K : PySem.W.Frag}
/-- built-in functions of one argument -/
def CallD (cl : Str → Option Addr) (K : PySem.W.Frag) (r : List V → Hp → VK → Prop) (g : D → Store → Out) : Prop := ∀ {H F : Hp} {m : List Addr} {μ : Store} {W : WX} {σ : L2.St} {Q : VK} {x : D} {v : V},
  Rp cl K H F m μ → RD K F m x v → PostE cl K W σ H F m Q (g x μ) → r [v] H Q
abbrev RC := List V → Hp → VK → Prop
def rLenA (K : PySem.W.Frag) : RC := fun xs H Q => (∃ p ys, xs = [.ref p] ∧ (SqL K H p ys ∨ SqT K H p ys) ∧ Q (.int ys.length) H) ∨ (∃ z, xs = [.str z] ∧ z.length ≤ sizeLine ∧ Q (.int z.length) H)
theorem cr_lenA {X : Cx} : CallR X (.builtin "len") (rLenA X.K) := call_len_seq.or call_len_str
theorem cd_len : CallD cl K (rLenA K) (biD .len) := by
  intro H F m μ W σ Q x v rp rx q
  have seq : ∀ {x : D} {v : V}, RD K F m x v → PostE cl K W σ H F m Q (match seqD μ x with
      | some xs => .ok (.int xs.length) μ
      | none => .stuck) → rLenA K [v] H Q := fun {x v} rx q => by
    cases e : seqD μ x with
    | none => rw [e] at q; exact q.elim
    | some xs =>
      rw [e] at q
      obtain ⟨a, vs, e1, h1, h2⟩ := rp.seqD e rx
      refine .inl ⟨a, vs, by rw [e1], h1, ?_⟩
      rw [h2.length]
      exact q.now rp rd_int
  cases x with
  | str z =>
    simp only [biD] at q
    split at q
    · rename_i h
      simp only [RD] at rx
      exact .inr ⟨z, by rw [rx], h, q.now rp rd_int⟩
    · exact q.elim
  | _ => exact seq rx q
def rAbs : RC := fun xs H Q => ∃ i, xs = [.int i] ∧ Q (.int (if i < 0 then -i else i)) H
theorem cd_abs : CallD cl K rAbs (biD .abs) := by
  intro H F m μ W σ Q x v rp rx q
  cases x with
  | int i => simp only [RD] at rx; exact ⟨i, by rw [rx], q.now rp rd_int⟩
  | _ => exact q.elim
def rIntA : RC := fun xs H Q => ((∃ i, xs = [.int i] ∧ Q (.int i) H) ∨ ∃ k, xs = [.bl k] ∧ Q (.int (if k then 1 else 0)) H) ∨ (∃ a n, xs = [.str a] ∧ PySem.intText? a = some n ∧ a.length ≤ 640 ∧ Q (.int n) H)
theorem cr_intA {X : Cx} : CallR X (.type "int") rIntA := call_int1.or call_int_str
theorem cd_int : CallD cl K rIntA (biD .int) := by
  intro H F m μ W σ Q x v rp rx q
  cases x with
  | int i => simp only [RD] at rx; exact .inl (.inl ⟨i, by rw [rx], q.now rp rd_int⟩)
  | bl b => simp only [RD] at rx; exact .inl (.inr ⟨b, by rw [rx], q.now rp rd_int⟩)
  | str a =>
    simp only [biD] at q
    cases e : intText? a with
    | none => rw [e] at q; exact q.elim
    | some n =>
      rw [e] at q
      simp only at q
      split at q
      · rename_i h
        simp only [RD] at rx
        exact .inr ⟨a, n, by rw [rx], e, h, q.now rp rd_int⟩
      · exact q.elim
  | _ => exact q.elim
def rStrA : RC := fun xs H Q => ∃ i, xs = [.int i] ∧ i.natAbs.log2 < 1920 ∧ Q (.str (toString i)) H
theorem cd_str : CallD cl K rStrA (biD .str) := by
  intro H F m μ W σ Q x v rp rx q
  cases x with
  | int i =>
    simp only [biD] at q
    split at q
    · rename_i h
      simp only [RD] at rx
      exact ⟨i, by rw [rx], h, q.now rp rd_str⟩
    · exact q.elim
  | _ => exact q.elim
def rTupA (K : PySem.W.Frag) : RC := fun xs H Q => ∃ p ys, xs = [.ref p] ∧ ((SqL K H p ys ∧ ∀ l, H l = none → Q (.ref l) (upd H l (.tup ys))) ∨ (SqT K H p ys ∧ Q (.ref p) H))
theorem cd_tup : CallD cl K (rTupA K) (biD .tuple) := by
  intro H F m μ W σ Q x v rp rx q
  have lists : ∀ {x : D} {v : V}, RD K F m x v → PostE cl K W σ H F m Q (match lstD μ x with
      | some xs => .ok (.tup xs) μ
      | none => .stuck) → rTupA K [v] H Q := fun {x v} rx q => by
    cases e : lstD μ x with
    | none => rw [e] at q; exact q.elim
    | some xs =>
      rw [e] at q
      obtain ⟨a, vs, e1, h1, h2⟩ := rp.lstD e rx
      exact ⟨a, vs, by rw [e1], .inl ⟨.inl h1, new_tup rp h2 q⟩⟩
  cases x with
  | tup xs =>
    have rx' := rx
    simp only [RD] at rx
    obtain ⟨a, vs, e1, h1, h2⟩ := rx
    subst e1
    exact ⟨a, vs, rfl, .inr ⟨same_t rp.sub h1, q.now rp rx'⟩⟩
  | _ => exact lists rx q
def rLstA (K : PySem.W.Frag) : RC := fun xs H Q => ∃ p ys, xs = [.ref p] ∧ (SqL K H p ys ∨ SqT K H p ys) ∧ ∀ l, H l = none → Q (.ref l) (upd H l (.lst ys))
theorem cd_lst : CallD cl K (rLstA K) (biD .list) := by
  intro H F m μ W σ Q x v rp rx q
  simp only [biD] at q
  cases e : seqD μ x with
  | none => rw [e] at q; exact q.elim
  | some xs =>
    rw [e] at q
    obtain ⟨a, vs, e1, h1, h2⟩ := rp.seqD e rx
    exact ⟨a, vs, by rw [e1], h1, new_lst rp h2 q⟩
theorem cd_bls {f : List Bool → Bool} {x : D} {v : V} {H F : Hp} {m : List Addr} {μ : Store} {W : WX} {σ : L2.St} {Q : VK} (rp : Rp cl K H F m μ) (rx : RD K F m x v) (q : PostE cl K W σ H F m Q (match (lstD μ x).bind blsD with
    | some bs => .ok (.bl (f bs)) μ
    | none => .stuck)) : ∃ (a : Addr) (bs : List Bool), [v] = [V.ref a] ∧ SqL K H a (bs.map V.bl) ∧ Q (.bl (f bs)) H := by
  cases e : lstD μ x with
  | none => rw [e] at q; exact q.elim
  | some xs =>
    rw [e] at q
    simp only [Option.bind_some] at q
    cases e2 : blsD xs with
    | none => rw [e2] at q; exact q.elim
    | some bs =>
      rw [e2] at q
      obtain ⟨a, vs, e1, h1, h2⟩ := rp.lstD e rx
      have e3 := h2.bls e2
      subst e3
      exact ⟨a, bs, by rw [e1], .inl h1, q.now rp rd_bl⟩
theorem cd_all : CallD cl K (rAll K) (biD .all) := fun {H F m μ W σ Q x v} rp rx q => cd_bls (f := fun bs => bs.all id) rp rx q
theorem cd_any : CallD cl K (rAny K) (biD .any) := fun {H F m μ W σ Q x v} rp rx q => cd_bls (f := fun bs => bs.any id) rp rx q
/-! ### isinstance -/
def tyN : BT → String
  | .int => "int" | .bool => "bool" | .str => "str" | .tuple => "tuple"
theorem isi_ok {H F : Hp} {m : List Addr} {μ : Store} {W : WX} {σ : L2.St} {Q : VK} {x : D} {v : V} {t : BT} (rp : Rp cl K H F m μ) (rx : RD K F m x v) (q : PostE cl K W σ H F m Q (okB (isiD x t) μ)) : rIsi K [v, .ty (tyN t)] H Q := by
  have go : ∀ {b : Bool} {ty : String}, TyX K H v (.type ty) → kitB ty (tyN t) = some b → PostE cl K W σ H F m Q (.ok (.bl b) μ) → rIsi K [v, .ty (tyN t)] H Q :=
    fun {b ty} h1 h2 h3 => ⟨v, .ty (tyN t), _, _, b, rfl, .ty _, h1, kit_ty h2, h3.now rp rd_bl⟩
  cases x with
  | non => simp only [RD] at rx; subst rx; cases t <;> exact go (.base .non) (by decide +kernel) q
  | bl b => simp only [RD] at rx; subst rx; cases t <;> exact go (.base (.bl b)) (by decide +kernel) q
  | int b => simp only [RD] at rx; subst rx; cases t <;> exact go (.base (.int b)) (by decide +kernel) q
  | str b => simp only [RD] at rx; subst rx; cases t <;> exact go (.base (.str b)) (by decide +kernel) q
  | tup xs =>
    simp only [RD] at rx
    obtain ⟨a, vs, e, h1, _⟩ := rx
    subst e
    have ty : TyX K H (.ref a) (.type "tuple") := by
      rcases same_t rp.sub h1 with (h | ⟨o, h⟩) | ⟨o, its, n, h, hc, _⟩
      · exact .base (.tup h)
      · exact .fTuple h
      · exact .kTuple h hc
    cases t <;> exact go ty (by decide +kernel) q
  | lst xs =>
    simp only [RD] at rx
    obtain ⟨a, vs, e, h1, _⟩ := rx
    subst e
    have ty : TyX K H (.ref a) (.type "list") := by
      rcases same_r rp.sub h1 with h | ⟨o, h⟩
      · exact .base (.lst h)
      · exact .base (.frz h)
    cases t <;> exact go ty (by decide +kernel) q
  | loc i => exact q.elim
end
/-! ### the forms -/
section
variable {cl : Str → Option Addr} {X : Cx} {W : WX} {a b c o : Expr} {es : List Expr} {fa fb fc : DE} {pos p apos : Pos}
abbrev P1 (cl : Str → Option Addr) (X : Cx) (W : WX) (e : Expr) (f : DE) : Prop := PE X e (TD cl X.K W f)
theorem x_bin {op : Operator} {r : R2} {g : D → D → Store → Out} (ho : OpR X (binaryOp op) r) (od : OpD cl X.K r g) (ha : P1 cl X W a fa) (hb : P1 cl X W b fb) :
    P1 cl X W (.BinOp a op b pos) (fun ρ μ => (fa ρ μ).bind fun x μ => (fb ρ μ).bind fun y μ => g x y μ) :=
  (pe_op ho ha hb).imp fun σ H Q ⟨F, m, ρ, μ, a0, p⟩ => run_bind a0 p fun v H1 F1 m1 d μ1 a1 s1 r1 p1 => run_bind a1 p1 fun u H2 F2 m2 d2 μ2 a2 s2 r2 p2 => od a2.rp (r1.step s2) r2 p2
theorem x_cmp {op : CmpOp} {r : R2} {g : D → D → Store → Out} (ho : OpR X (compareOp op) r) (od : OpD cl X.K r g) (ha : P1 cl X W a fa) (hb : P1 cl X W b fb) (hm : behindInMarks op b = false) :
    P1 cl X W (.Compare a [op] [b] pos) (fun ρ μ => (fa ρ μ).bind fun x μ => (fb ρ μ).bind fun y μ => g x y μ) :=
  (pe_cmpR ho ha hb hm).imp fun σ H Q ⟨F, m, ρ, μ, a0, p⟩ => run_bind a0 p fun v H1 F1 m1 d μ1 a1 s1 r1 p1 => run_bind a1 p1 fun u H2 F2 m2 d2 μ2 a2 s2 r2 p2 => od a2.rp (r1.step s2) r2 p2
theorem x_var {i : Nat} {x : Str} (hN : X.N[i]? = some x) (hv : Vis X.env.scope x) (hd : (x == ("__debug__" : Str)) = false) (hcd : (x == ("__classdict__" : Str)) = false) :
    P1 cl X W (.Name x pos) (fun ρ μ => match ρ[i]? with
      | some (some d) => .ok d μ
      | _ => .stuck) :=
  (pe_var hN hv hd hcd).imp fun σ H Q ⟨F, m, ρ, μ, a0, p⟩ => by
    cases e : ρ[i]? with
    | none => simp only [e] at p; exact p.elim
    | some o =>
      cases o with
      | none => simp only [e] at p; exact p.elim
      | some d =>
        simp only [e] at p
        obtain ⟨v, h1, h2⟩ := a0.rs.2 i d e
        exact ⟨v, h1, p.now a0.rp h2⟩
theorem x_const {e : Expr} {v : V} {d : D} (h : PE X e (tC v)) (hd : ∀ F m, RD X.K F m d v) : P1 cl X W e (fun _ μ => .ok d μ) := h.imp fun σ H Q ⟨F, m, ρ, μ, a0, p⟩ => p.now a0.rp (hd F m)
theorem x_int {i : Int} {j : Nat} : P1 cl X W (.Constant (.int i) j pos) (fun _ μ => .ok (.int i) μ) := x_const pe_int fun _ _ => rd_int
theorem x_bl {i : Bool} {j : Nat} : P1 cl X W (.Constant (.bool i) j pos) (fun _ μ => .ok (.bl i) μ) := x_const pe_bl fun _ _ => rd_bl
theorem x_str {i : Str} {j : Nat} : P1 cl X W (.Constant (.str i) j pos) (fun _ μ => .ok (.str i) μ) := x_const pe_str fun _ _ => rd_str
theorem x_non {j : Nat} : P1 cl X W (.Constant .none j pos) (fun _ μ => .ok .non μ) := x_const pe_non fun _ _ => rd_non
theorem x_neg (ha : P1 cl X W a fa) : P1 cl X W (.UnaryOp .USub a pos) (fun ρ μ => (fa ρ μ).bind fun x μ => match x with
    | .int i => .ok (.int (-i)) μ
    | _ => .stuck) :=
  (pe_un un_neg ha).imp fun σ H Q ⟨F, m, ρ, μ, a0, p⟩ => run_bind a0 p fun v H1 F1 m1 d μ1 a1 s1 r1 p1 => by
    cases d with
    | int i => simp only [RD] at r1; exact ⟨i, r1, p1.now a1.rp rd_int⟩
    | _ => exact p1.elim
theorem x_not (ha : P1 cl X W a fa) : P1 cl X W (.UnaryOp .Not a pos) (fun ρ μ => (fa ρ μ).bind fun x μ => match truD μ x with
    | some b => .ok (.bl (!b)) μ
    | none => .stuck) :=
  (pe_notT ha).imp fun σ H Q ⟨F, m, ρ, μ, a0, p⟩ => run_bind a0 p fun v H1 F1 m1 d μ1 a1 s1 r1 p1 => by
    cases e : truD μ1 d with
    | none => rw [e] at p1; exact p1.elim
    | some b => rw [e] at p1; exact ⟨b, a1.rp.tru e r1, p1.now a1.rp rd_bl⟩
theorem x_and {b : Expr} {rest : List Expr} (ha : P1 cl X W a fa) (hb : P1 cl X W (.BoolOp .And (b :: rest) pos) fb) : P1 cl X W (.BoolOp .And (a :: b :: rest) pos) (fun ρ μ => (fa ρ μ).bind fun x μ => match truD μ x with
    | some true => fb ρ μ
    | some false => .ok x μ
    | none => .stuck) :=
  (pe_andT ha hb).imp fun σ H Q ⟨F, m, ρ, μ, a0, p⟩ => run_bind a0 p fun v H1 F1 m1 d μ1 a1 s1 r1 p1 => by
    cases e : truD μ1 d with
    | none => rw [e] at p1; exact p1.elim
    | some k =>
      rw [e] at p1
      refine ⟨k, a1.rp.tru e r1, ?_⟩
      cases k with
      | true => exact ⟨F1, m1, ρ, μ1, a1, p1⟩
      | false => exact p1.now a1.rp r1
theorem x_or {b : Expr} {rest : List Expr} (ha : P1 cl X W a fa) (hb : P1 cl X W (.BoolOp .Or (b :: rest) pos) fb) : P1 cl X W (.BoolOp .Or (a :: b :: rest) pos) (fun ρ μ => (fa ρ μ).bind fun x μ => match truD μ x with
    | some true => .ok x μ
    | some false => fb ρ μ
    | none => .stuck) :=
  (pe_orT ha hb).imp fun σ H Q ⟨F, m, ρ, μ, a0, p⟩ => run_bind a0 p fun v H1 F1 m1 d μ1 a1 s1 r1 p1 => by
    cases e : truD μ1 d with
    | none => rw [e] at p1; exact p1.elim
    | some k =>
      rw [e] at p1
      refine ⟨k, a1.rp.tru e r1, ?_⟩
      cases k with
      | true => exact p1.now a1.rp r1
      | false => exact ⟨F1, m1, ρ, μ1, a1, p1⟩
theorem x_one {op : BoolOp} (ha : P1 cl X W a fa) : P1 cl X W (.BoolOp op [a] pos) fa := pe_one ha
/-! ### tests -/
abbrev P2 (cl : Str → Option Addr) (X : Cx) (W : WX) (e : Expr) (f : DE) : Prop := PT X e (TDT cl X.K W f)
theorem tdt_e {f : DE} {σ : L2.St} {H : Hp} {R : Bool → Hp → Prop} {Q : VK} (hq : ∀ F m d μ b H (v : V), Rp cl X.K H F m μ → RD X.K F m d v → truD μ d = some b → R b H → Q v H) (h : TDT cl X.K W f σ H R) : TD cl X.K W f σ H Q := by
  obtain ⟨F, m, ρ, μ, a0, p⟩ := h
  refine ⟨F, m, ρ, μ, a0, ?_⟩
  cases e : f ρ μ with
  | stuck => rw [e] at p; exact p
  | ok d μ1 =>
    rw [e] at p
    obtain ⟨b, hb, q⟩ := p
    exact fun v H' F' m' rp s rd => hq F' m' d μ1 b H' v rp rd hb (q H' F' m' rp s)
  | exc x μ1 => rw [e] at p; exact p
theorem y_truth (ha : P1 cl X W a fa) (he : ∀ whole, isTrue a X.env whole = (do let v ← whole; standAt a.pos; holding [v] (truthy v))) : P2 cl X W a fa :=
  (pt_truth ha he).imp fun σ H Q h => tdt_e (fun F m d μ b H v rp rd hb r => ⟨b, rp.tru hb rd, r⟩) h
theorem y_cmp {op : CmpOp} {r : R2} {g : D → D → Store → Out} (ho : OpR X (compareOp op) r) (od : OpD cl X.K r g) (hg : ∀ x y μ d μ', g x y μ = .ok d μ' → ∃ k, d = .bl k) (ha : P1 cl X W a fa) (hb : P1 cl X W b fb) (hm : behindInMarks op b = false) :
    P2 cl X W (.Compare a [op] [b] pos) (fun ρ μ => (fa ρ μ).bind fun x μ => (fb ρ μ).bind fun y μ => g x y μ) :=
  (pt_cmpR ho ha hb hm).imp fun σ H Q h => by
    obtain ⟨F, m, ρ, μ, a0, p⟩ := h
    have h2 : PostE cl X.K W σ H F m (fun v H' => ∃ k, v = .bl k ∧ Q k H') ((fa ρ μ).bind fun x μ => (fb ρ μ).bind fun y μ => g x y μ) := by
      have p' : PostT cl X.K W σ H F m Q ((fa ρ μ).bind fun x μ => (fb ρ μ).bind fun y μ => g x y μ) := p
      generalize e : ((fa ρ μ).bind fun x μ => (fb ρ μ).bind fun y μ => g x y μ) = o at p'
      cases o with
      | stuck => exact p'
      | exc x μ1 => exact p'
      | ok d μ1 =>
        obtain ⟨k, hk, q⟩ := p'
        have : ∃ k, d = .bl k := by
          cases e1 : fa ρ μ with
          | stuck => rw [e1] at e; cases e
          | exc x μ' => rw [e1] at e; cases e
          | ok x μ' =>
            rw [e1] at e
            simp only [bind_ok] at e
            cases e2 : fb ρ μ' with
            | stuck => rw [e2] at e; cases e
            | exc x μ' => rw [e2] at e; cases e
            | ok y μ2 => rw [e2] at e; exact hg _ _ _ _ _ e
        obtain ⟨k', rfl⟩ := this
        simp only [truD, Option.some.injEq] at hk
        subst hk
        exact fun v H' F' m' rp s rd => ⟨k', by simpa only [RD] using rd, q H' F' m' rp s⟩
    exact run_bind a0 h2 fun v H1 F1 m1 d μ1 a1 s1 r1 p1 => run_bind a1 p1 fun u H2 F2 m2 d2 μ2 a2 s2 r2 p2 => od a2.rp (r1.step s2) r2 p2
/-- a test, then a test -/
theorem run_tt {f : DE} {g : D → Store → Out} {σ : L2.St} {H F : Hp} {m : List Addr} {ρ : Ro} {μ : Store} {R Q : Bool → Hp → Prop} (a0 : At cl X.K σ H F m ρ μ) (p : PostT cl X.K W σ H F m Q ((f ρ μ).bind g))
    (ht : ∀ d μ1, g d μ1 ≠ .stuck → ∃ b, truD μ1 d = some b)
    (k : ∀ b H1 F1 m1 d μ1, At cl X.K σ H1 F1 m1 ρ μ1 → Stp H F m H1 F1 m1 → truD μ1 d = some b → PostT cl X.K W σ H1 F1 m1 Q (g d μ1) → R b H1) : TDT cl X.K W f σ H R := by
  refine ⟨F, m, ρ, μ, a0, ?_⟩
  cases e : f ρ μ with
  | stuck => rw [e] at p; exact p
  | exc x μ1 => rw [e] at p; exact p
  | ok d μ1 =>
    rw [e] at p
    have p' : PostT cl X.K W σ H F m Q (g d μ1) := p
    obtain ⟨b, hb⟩ := ht d μ1 (fun z => by rw [z] at p'; exact p')
    exact ⟨b, hb, fun H1 F1 m1 rp1 s1 => k b H1 F1 m1 d μ1 ⟨rp1, a0.rs.step s1⟩ s1 hb (p'.step s1)⟩
theorem y_not (ha : P2 cl X W a fa) : P2 cl X W (.UnaryOp .Not a pos) (fun ρ μ => (fa ρ μ).bind fun x μ => match truD μ x with
    | some b => .ok (.bl (!b)) μ
    | none => .stuck) :=
  (pt_not ha).imp fun σ H Q ⟨F, m, ρ, μ, a0, p⟩ => by
    refine run_tt a0 p (fun d μ1 h => ?_) fun b H1 F1 m1 d μ1 a1 s1 hb q => ?_
    · cases e : truD μ1 d with
      | none => rw [e] at h; exact absurd rfl h
      | some b => exact ⟨b, rfl⟩
    · rw [hb] at q
      obtain ⟨k, hk, q⟩ := q
      simp only [truD, Option.some.injEq] at hk
      subst hk
      exact q _ _ _ a1.rp .refl
theorem y_and {b : Expr} {rest : List Expr} (ha : P2 cl X W a fa) (hb : PW X (.BoolOp .And (b :: rest) pos) (TDT cl X.K W fb)) : PW X (.BoolOp .And (a :: b :: rest) pos) (TDT cl X.K W fun ρ μ => (fa ρ μ).bind fun x μ => match truD μ x with
    | some true => fb ρ μ
    | some false => .ok x μ
    | none => .stuck) :=
  (pw_and ha hb).imp fun σ H Q ⟨F, m, ρ, μ, a0, p⟩ => by
    refine run_tt a0 p (fun d μ1 h => ?_) fun b H1 F1 m1 d μ1 a1 s1 hb q => ?_
    · cases e : truD μ1 d with
      | none => rw [e] at h; exact absurd rfl h
      | some b => exact ⟨b, rfl⟩
    · rw [hb] at q
      cases b with
      | true => exact ⟨F1, m1, ρ, μ1, a1, q⟩
      | false =>
        obtain ⟨b2, h2, q⟩ := q
        rw [hb] at h2; cases h2
        exact q _ _ _ a1.rp .refl
theorem y_or {b : Expr} {rest : List Expr} (ha : P2 cl X W a fa) (hb : PW X (.BoolOp .Or (b :: rest) pos) (TDT cl X.K W fb)) : PW X (.BoolOp .Or (a :: b :: rest) pos) (TDT cl X.K W fun ρ μ => (fa ρ μ).bind fun x μ => match truD μ x with
    | some true => .ok x μ
    | some false => fb ρ μ
    | none => .stuck) :=
  (pw_or ha hb).imp fun σ H Q ⟨F, m, ρ, μ, a0, p⟩ => by
    refine run_tt a0 p (fun d μ1 h => ?_) fun b H1 F1 m1 d μ1 a1 s1 hb q => ?_
    · cases e : truD μ1 d with
      | none => rw [e] at h; exact absurd rfl h
      | some b => exact ⟨b, rfl⟩
    · rw [hb] at q
      cases b with
      | false => exact ⟨F1, m1, ρ, μ1, a1, q⟩
      | true =>
        obtain ⟨b2, h2, q⟩ := q
        rw [hb] at h2; cases h2
        exact q _ _ _ a1.rp .refl
theorem x_ite (hc : P2 cl X W c fc) (ha : P1 cl X W a fa) (hb : P1 cl X W b fb) : P1 cl X W (.IfExp c a b pos) (fun ρ μ => (fc ρ μ).bind fun x μ => match truD μ x with
    | some true => fa ρ μ
    | some false => fb ρ μ
    | none => .stuck) :=
  (pe_ifExp hc ha hb).imp fun σ H Q ⟨F, m, ρ, μ, a0, p⟩ => by
    refine run_test a0 p (fun d μ1 _ h => ?_) fun b H1 F1 m1 d μ1 a1 s1 hb q => ?_
    · cases e : truD μ1 d with
      | none => rw [e] at h; exact absurd rfl h
      | some b => exact ⟨b, rfl⟩
    · rw [hb] at q
      cases b with
      | true => exact ⟨F1, m1, ρ, μ1, a1, q⟩
      | false => exact ⟨F1, m1, ρ, μ1, a1, q⟩
/-! ### arguments, displays -/
abbrev P3 (cl : Str → Option Addr) (X : Cx) (W : WX) (es : List Expr) (f : DE) : Prop := PA X es (TDA cl X.K W f)
theorem z_nil : P3 cl X W [] (fun _ μ => .ok (.tup []) μ) := PA.imp pa_nil fun σ H Q ⟨F, m, ρ, μ, a0, ds, e, p⟩ => by
  cases e
  exact p [] H F m a0.rp .refl (by simp [RDs])
theorem z_cons {e : Expr} (he : P1 cl X W e fa) (hr : P3 cl X W es fb) (hs : starEach (e :: es) X.env = (false, eval e X.env) :: starEach es X.env) :
    P3 cl X W (e :: es) (fun ρ μ => (fa ρ μ).bind fun x μ => (fb ρ μ).bind fun y μ => match y with
      | .tup xs => .ok (.tup (x :: xs)) μ
      | _ => .stuck) :=
  (pa_cons he hr hs).imp fun σ H Q ⟨F, m, ρ, μ, a0, p⟩ => by
    refine ⟨F, m, ρ, μ, a0, ?_⟩
    dsimp only at p
    cases e1 : fa ρ μ with
    | stuck => rw [e1] at p; exact p
    | exc x μ1 => rw [e1] at p; exact p
    | ok d μ1 =>
      rw [e1] at p
      intro v H1 F1 m1 rp1 s1 rd1
      refine ⟨F1, m1, ρ, μ1, ⟨rp1, a0.rs.step s1⟩, ?_⟩
      have p' := PostA.step (F1 := F1) p s1
      simp only [bind_ok] at p'
      cases e2 : fb ρ μ1 with
      | stuck => rw [e2] at p'; exact p'
      | exc x μ2 => rw [e2] at p'; exact p'
      | ok y μ2 =>
        rw [e2] at p'
        cases y with
        | tup xs =>
          obtain ⟨ds, e3, q⟩ := p'
          cases e3
          refine ⟨xs, rfl, fun vs H2 F2 m2 rp2 s2 rd2 => q (v :: vs) H2 F2 m2 rp2 s2 ?_⟩
          simp only [RDs]
          exact ⟨v, vs, rfl, rd1.step s2, rd2⟩
        | _ => exact p'.elim
theorem tup_of {o : Out} {g : List D → Store → Out} {d : D} {μ1 : Store} (h : (match d with
    | .tup xs => g xs μ1
    | _ => .stuck) ≠ Out.stuck) : ∃ ds, d = .tup ds := by
  cases d with
  | tup xs => exact ⟨xs, rfl⟩
  | _ => exact absurd rfl h
theorem x_tup {k : Nat} (h : P3 cl X W es fa) : P1 cl X W (.Tuple es k pos) (fun ρ μ => (fa ρ μ).bind fun y μ => match y with
    | .tup xs => if xs.length ≤ sizeLine then .ok (.tup xs) μ else .stuck
    | _ => .stuck) :=
  (pe_tup h).imp fun σ H Q ⟨F, m, ρ, μ, a0, p⟩ => by
    refine run_args a0 p (fun d μ1 _ h => tup_of (o := .stuck) (g := fun xs μ => if xs.length ≤ sizeLine then .ok (.tup xs) μ else .stuck) h) fun vs H1 F1 m1 ds μ1 a1 s1 r1 p1 => ?_
    simp only at p1
    split at p1
    · rename_i hz
      exact ⟨by rw [r1.length]; exact hz, new_tup a1.rp r1 p1⟩
    · exact p1.elim
theorem x_lst {k : Bool} (h : P3 cl X W es fa) : P1 cl X W (.List es pos) (fun ρ μ => (fa ρ μ).bind fun y μ => match y with
    | .tup xs => if xs.length ≤ sizeLine then (if k then .ok (.loc μ.length) (μ ++ [.lst xs]) else .ok (.lst xs) μ) else .stuck
    | _ => .stuck) :=
  (pe_lst h).imp fun σ H Q ⟨F, m, ρ, μ, a0, p⟩ => by
    refine run_args a0 p (fun d μ1 _ h => tup_of (o := .stuck) (g := fun xs μ => if xs.length ≤ sizeLine then (if k then .ok (.loc μ.length) (μ ++ [.lst xs]) else .ok (.lst xs) μ) else .stuck) h) fun vs H1 F1 m1 ds μ1 a1 s1 r1 p1 => ?_
    simp only at p1
    split at p1
    · rename_i hz
      refine ⟨by rw [r1.length]; exact hz, fun a ha => ?_⟩
      cases k with
      | true =>
        obtain ⟨r2, s2, r3⟩ := a1.rp.fresh ha r1
        exact p1 _ _ _ _ r2 s2 r3
      | false => exact new_lst a1.rp r1 p1 a ha
    · exact p1.elim
/-! ### items, slices -/
theorem x_ix (ha : P1 cl X W a fa) (hb : P1 cl X W b fb) (hs : PlainIx b) : P1 cl X W (.Subscript a b pos) (fun ρ μ => (fa ρ μ).bind fun x μ => (fb ρ μ).bind fun y μ => ixD x y μ) :=
  (pe_ix ix_seq ha hb hs).imp fun σ H Q ⟨F, m, ρ, μ, a0, p⟩ => run_bind a0 p fun v H1 F1 m1 d μ1 a1 s1 r1 p1 => run_bind a1 p1 fun u H2 F2 m2 d2 μ2 a2 s2 r2 p2 => opd_ix a2.rp (r1.step s2) r2 p2
/-- an int, then the rest -/
theorem run_int {W : WX} {σ : L2.St} {H F : Hp} {m : List Addr} {ρ : Ro} {μ : Store} {Q : VK} {R : Option Int → Hp → Prop} {f : DE} {g : Int → Store → Out} (a : At cl X.K σ H F m ρ μ) (p : PostE cl X.K W σ H F m Q ((f ρ μ).bind fun l μ => isI l fun l => g l μ))
    (k : ∀ i H1 F1 m1 μ1, At cl X.K σ H1 F1 m1 ρ μ1 → Stp H F m H1 F1 m1 → PostE cl X.K W σ H1 F1 m1 Q (g i μ1) → R (some i) H1) : tPart (TD cl X.K W f) σ H R := by
  refine run_bind a p fun v H1 F1 m1 d μ1 a1 s1 r1 p1 => ?_
  cases d with
  | int i => simp only [RD] at r1; exact ⟨i, r1, k i H1 F1 m1 μ1 a1 s1 p1⟩
  | _ => exact p1.elim
theorem x_sl {lo hi : Expr} {fl fh : DE} {p2 : Pos} (ha : P1 cl X W a fa) (hl : P1 cl X W lo fl) (hh : P1 cl X W hi fh) :
    P1 cl X W (.Subscript a (.Slice (some lo) (some hi) none p2) pos) (fun ρ μ => (fa ρ μ).bind fun x μ => (fl ρ μ).bind fun l μ => isI l fun l => (fh ρ μ).bind fun h μ => isI h fun h => slP x (some l) (some h) μ) :=
  (pe_slice sl_all ha (po_some hl) (po_some hh)).imp fun σ H Q ⟨F, m, ρ, μ, a0, p⟩ => run_bind a0 p fun v H1 F1 m1 d μ1 a1 s1 r1 p1 => run_int a1 p1 fun i H2 F2 m2 μ2 a2 s2 p2 => run_int a2 p2 fun j H3 F3 m3 μ3 a3 s3 p3 =>
    sl_ok a3.rp ((r1.step s2).step s3) p3
theorem x_slf {lo : Expr} {fl : DE} {p2 : Pos} (ha : P1 cl X W a fa) (hl : P1 cl X W lo fl) :
    P1 cl X W (.Subscript a (.Slice (some lo) none none p2) pos) (fun ρ μ => (fa ρ μ).bind fun x μ => (fl ρ μ).bind fun l μ => isI l fun l => slP x (some l) none μ) :=
  (pe_slice sl_all ha (po_some hl) po_none).imp fun σ H Q ⟨F, m, ρ, μ, a0, p⟩ => run_bind a0 p fun v H1 F1 m1 d μ1 a1 s1 r1 p1 => run_int (R := fun o H2 => tNoPart σ H2 fun u H3 => rSlAll X.K v o u H3 Q) a1 p1 fun i H2 F2 m2 μ2 a2 s2 p2 =>
    sl_ok a2.rp (r1.step s2) p2
theorem x_slt {hi : Expr} {fh : DE} {p2 : Pos} (ha : P1 cl X W a fa) (hh : P1 cl X W hi fh) :
    P1 cl X W (.Subscript a (.Slice none (some hi) none p2) pos) (fun ρ μ => (fa ρ μ).bind fun x μ => (fh ρ μ).bind fun h μ => isI h fun h => slP x none (some h) μ) :=
  (pe_slice sl_all ha po_none (po_some hh)).imp fun σ H Q ⟨F, m, ρ, μ, a0, p⟩ => run_bind a0 p fun v H1 F1 m1 d μ1 a1 s1 r1 p1 => show tPart (TD cl X.K W fh) σ H1 (fun u H3 => rSlAll X.K v none u H3 Q) from run_int a1 p1 fun i H2 F2 m2 μ2 a2 s2 p2 =>
    sl_ok a2.rp (r1.step s2) p2
theorem x_sla {p2 : Pos} (ha : P1 cl X W a fa) :
    P1 cl X W (.Subscript a (.Slice none none none p2) pos) (fun ρ μ => (fa ρ μ).bind fun x μ => slP x none none μ) :=
  (pe_slice sl_all ha po_none po_none).imp fun σ H Q ⟨F, m, ρ, μ, a0, p⟩ => run_bind a0 p fun v H1 F1 m1 d μ1 a1 s1 r1 p1 => sl_ok a1.rp r1 p1
/-! ### built-in functions -/
theorem x_callB {x : Str} {id' : String} {r : List V → Hp → VK → Prop} {g : D → Store → Out} (hc : CallR X (.builtin id') r) (cd : CallD cl X.K r g) (hg : Gl X x) (hm : X.mg x = none) (hv : bootBuiltins x = some (.builtin id')) (ha : P1 cl X W a fa)
    (hn : x ≠ "__name__") (hdb : (x == ("__debug__" : Str)) = false) (hs : starEach [a] X.env = (false, eval a X.env) :: starEach [] X.env) :
    P1 cl X W (.Call (.Name x p) [a] [] pos) (fun ρ μ => (fa ρ μ).bind fun x μ => g x μ) :=
  (pe_callB hc hg hm hv (pa_cons ha pa_nil hs) hn hdb hs rfl).imp fun σ H Q ⟨F, m, ρ, μ, a0, p⟩ => run_bind a0 p fun v H1 F1 m1 d μ1 a1 s1 r1 p1 => cd a1.rp r1 p1
theorem x_callTy {x : Str} {T : String} {r : List V → Hp → VK → Prop} {g : D → Store → Out} (hc : CallR X (.type T) r) (cd : CallD cl X.K r g) (hg : Gl X x) (hm : X.mg x = none) (hv : bootBuiltins x = some (.type T)) (ha : P1 cl X W a fa)
    (hn : x ≠ "__name__") (hdb : (x == ("__debug__" : Str)) = false) (hs : starEach [a] X.env = (false, eval a X.env) :: starEach [] X.env) :
    P1 cl X W (.Call (.Name x p) [a] [] pos) (fun ρ μ => (fa ρ μ).bind fun x μ => g x μ) :=
  (pe_callTy hc hg hm hv (pa_cons ha pa_nil hs) hn hdb hs rfl).imp fun σ H Q ⟨F, m, ρ, μ, a0, p⟩ => run_bind a0 p fun v H1 F1 m1 d μ1 a1 s1 r1 p1 => cd a1.rp r1 p1
theorem x_gcd {x : Str} (hg : Gl X x) (hm : X.mg x = some (.builtin "math.gcd")) (ha : P1 cl X W a fa) (hb : P1 cl X W b fb) (hdb : (x == ("__debug__" : Str)) = false)
    (hs : starEach [a, b] X.env = (false, eval a X.env) :: starEach [b] X.env) (hs2 : starEach [b] X.env = (false, eval b X.env) :: starEach [] X.env) (hpl : (backTo pos (starEach [b] X.env)).any (·.1) = false) :
    P1 cl X W (.Call (.Name x p) [a, b] [] pos) (fun ρ μ => (fa ρ μ).bind fun x μ => (fb ρ μ).bind fun y μ => bi2D .gcd x y μ) :=
  (pe_callBfun cr_gcd hg hm (pa_cons ha (pa_cons hb pa_nil hs2) hs) hdb hs hpl).imp fun σ H Q ⟨F, m, ρ, μ, a0, p⟩ => run_bind a0 p fun v H1 F1 m1 d μ1 a1 s1 r1 p1 => run_bind a1 p1 fun u H2 F2 m2 d2 μ2 a2 s2 r2 p2 => by
    cases d with
    | int i =>
      cases d2 with
      | int j => simp only [RD] at r1 r2; subst r1 r2; exact ⟨i, j, rfl, p2.now a2.rp rd_int⟩
      | _ => exact p2.elim
    | _ => cases d2 <;> exact p2.elim
theorem x_isi {x ty : Str} {t : BT} {p3 : Pos} (hg : Gl X x) (hm : X.mg x = none) (hv : bootBuiltins x = some (.builtin "isinstance")) (ha : P1 cl X W a fa)
    (hn : x ≠ "__name__") (hdb : (x == ("__debug__" : Str)) = false) (hs : starEach [a, .Name ty p3] X.env = (false, eval a X.env) :: starEach [.Name ty p3] X.env)
    (hg2 : Gl X ty) (hm2 : X.mg ty = none) (hv2 : bootBuiltins ty = some (.type (tyN t))) (hn2 : ty ≠ "__name__") (hdb2 : (ty == ("__debug__" : Str)) = false) :
    P1 cl X W (.Call (.Name x p) [a, .Name ty p3] [] pos) (fun ρ μ => (fa ρ μ).bind fun x μ => okB (isiD x t) μ) :=
  (pe_callB call_isi hg hm hv (pa_cons ha (pa_cons (pe_bltn (v := .ty (tyN t)) hg2 hm2 hv2 rfl hn2 hdb2) pa_nil rfl) hs) hn hdb hs rfl).imp fun σ H Q ⟨F, m, ρ, μ, a0, p⟩ => run_bind a0 p fun v H1 F1 m1 d μ1 a1 s1 r1 p1 => isi_ok a1.rp r1 p1
end
end KA
set_option Elab.async false
set_option linter.all false
set_option maxRecDepth 100000
set_option maxHeartbeats 2000000
/-! KA6: exceptions of both kinds (with a dict of fields, or without and then of an empty context); a comprehension out of which an exception may come. -/
namespace KA
open PySem PySem.Spec PyProof.Rows L2
/-- what a call lets out: without fields the context is None -/
def CXM (P : Program) (w : World) : CXT := fun outer H s E u s' =>
  L2N.CX P w outer H s (fun c d h => E c d h ∧ d = none) u s' ∨ L2.CX P w outer H s (fun c d h => E c d h ∧ d ≠ none) u s'
/-- what a place takes -/
structure TakesM (X : Cx) (W : WX) : Prop where
  n : L2N.Takes X (fun c d σ H => W c d σ H ∧ d = none)
  f : L2.Takes X (fun c d σ H => W c d σ H ∧ d ≠ none)
theorem passM {X : Cx} {W : WX} (tk : TakesM X W) (σ : L2.St) : PassesAt (CXM X.prog X.w) X σ (WE W σ) := fun pins H s e s' I c => by
  rcases c with c | c
  · exact tk.n _ _ (L2N.XE.of_call I (fun cls d H' h => h) c)
  · exact tk.f _ _ (L2.XE.of_call I (fun cls d H' h => h) c)
/-- a def's own wish -/
theorem takesM_of {X : Cx} {E : XK} (hs : X.stack = X.env :: X.outer) (hf : X.env.frame = some X.env.locals) (hex : X.ex = []) {E₁ : Value → Shared → Prop}
    (hx : X.xe = fun e s' => wpAny (model X.prog X.w) X.A (leaving X.env e) (fun _ s'' => CXM X.prog X.w X.outer X.H_0 X.s_0 E e s'') E₁ s') : TakesM X (fun cls d _ H => E cls d H) := by
  refine ⟨fun u s' x => ?_, fun u s' x => ?_⟩
  · rw [hx]
    exact thn (L2N.XE.leave hs hf hex (E := fun c d h => E c d h ∧ d = none) (fun c d σ H h => h) x) fun _ s'' h => .inl h
  · rw [hx]
    exact thn (L2.XE.leave hs hf hex (E := fun c d h => E c d h ∧ d ≠ none) (fun c d σ H h => h) x) fun _ s'' h => .inr h
theorem takesM0 {X : Cx} : TakesM X (fun _ _ _ _ => False) := ⟨fun u s' ⟨_, _, _, _, _, _, _, _, _, _, _, _, _, _, _, _, w⟩ => w.1.elim, fun u s' ⟨_, _, _, _, _, _, _, _, _, _, _, _, _, _, _, _, w⟩ => w.1.elim⟩
/-! ### out of a comprehension -/
/-- the context of a block out of which an exception may come -/
abbrev blkX (X : Cx) (s : Shared) (H : Hp) (scope : Scope) (cenv : Env) (fp : List Addr) : Cx := (X.blk s H scope cenv fp).wish (notedBy (model X.prog X.w) X.A cenv (CompFails (model X.prog X.w) X.A X.xe cenv))
section
variable {X : Cx} {pins pins5 : List (Addr × Obj)} {σ σ5 : L2.St} {H3 H5 : Hp} {s3 s5 s' : Shared}
theorem upToSlots_get {h h' : Heap} {b : Addr} {o : Obj} (u : h.UpToSlots h') (e : h.get? b = some o) (n : ∀ vs, o.data ≠ .fields vs) : ∃ sl, h'.get? b = some { o with slots := sl } := u b o e n
/-- an exception of a call in the block leaves the comprehension -/
theorem blk_out {scope : Scope} {ce : Env} {fp : List Addr} {a : Addr} {B : Heap} {Hx : Hp} {Z : Obj → Prop}
    (look : ∀ {s : Shared} {Q : Unit → Shared → Prop} {E : Value → Shared → Prop}, HandSPX.FlyingZ B (X.env :: X.outer) a Z s.heap → (∀ h', HandSPX.HeldZ B (X.env :: X.outer) a Z X.env.locals h' → s.heap.UpToSlots h' → Q () { s with heap := h' }) → wpAny (model X.prog X.w) X.A (noteFrame (.ref a) X.env) Q E s)
    (I3 : Inv X pins σ H3 s3) (hfp : ∀ b ∈ fp, FpOk X pins H3 b ∧ b < s3.heap.objs.size) (cL : ce.locals = s3.heap.objs.size) (cF : ce.frame = X.env.frame) (hs : X.stack = X.env :: X.outer) (hf : X.env.frame = some X.env.locals)
    (I5 : Inv (blkX X s3 H3 scope ce fp) pins5 σ5 H5 s5) (fl : HandSPX.FlyingZ B X.stack a Z s'.heap) (hok : HOk X.prog X.w Hx B) (ub : UB (frs X.stack) H5 Hx s5.heap B s'.heap) (na : Hx a = none) (os : s'.os = s5.os) (ag : AllBare s'.gens)
    (out : ∀ (B' : Heap) (sI : Shared) (s'' : Shared), Inv X pins σ Hx sI → (∀ b o, sI.heap.get? b = some o → b ∉ frs X.stack → B'.get? b = some o) → sI.heap.UpToSlots s''.heap → HandSPX.HeldZ B' X.stack a Z X.env.locals s''.heap → s''.os = sI.os → AllBare s''.gens → X.xe (.ref a) s'') :
    (blkX X s3 H3 scope ce fp).xe (.ref a) s' := by
  show notedBy (model X.prog X.w) X.A ce (CompFails (model X.prog X.w) X.A X.xe ce) (.ref a) s'
  show wpAny (model X.prog X.w) X.A (noteFrame (.ref a) ce) _ _ s'
  rw [noteFrame_env _ cF]
  rw [hs] at fl
  refine look fl fun h1 hH up1 => ?_
  -- the block's names
  obtain ⟨m, hn5, _⟩ := I5.loc
  have hn5 : s5.heap.Ns ce.locals m := hn5
  have freeC : H5 ce.locals = none := I5.free
  have nfs : ce.locals ∉ frs X.stack := fun z => I3.nofs (a := ce.locals) (by rw [cL]; exact Nat.le_refl _) (by
    rcases List.mem_cons.mp (I3.stkSub _ z) with e | e
    · exact absurd (by rw [← e, cL]; exact Nat.le_refl _ : s3.heap.objs.size ≤ X.env.locals) (Nat.not_le_of_lt I3.lt)
    · exact e)
  obtain ⟨oC, es, ep, hoC, hdC, rC⟩ := hn5
  have hBC : B.get? ce.locals = some oC := ub.keep _ _ hoC freeC nfs
  have hHC : Hx ce.locals = none := ub.free _ _ hoC freeC
  have h1C : h1.get? ce.locals = some oC := hH.1 _ _ hBC
  refine ⟨m, ⟨oC, es, ep, h1C, hdC, rC⟩, fun h2 m2 hn2 hs2 => ?_⟩
  -- the ground without the block's names
  obtain ⟨B', b1, b2⟩ := restrict B fun b => decide (b ≠ ce.locals)
  have b1 : ∀ b, b ≠ ce.locals → B'.get? b = B.get? b := fun b hb => b1 b (decide_eq_true hb)
  have b2 : B'.get? ce.locals = none := b2 _ (by simp)
  have bo : ∀ b o, B'.get? b = some o → b ≠ ce.locals ∧ B.get? b = some o := fun b o e => by
    by_cases hb : b = ce.locals
    · rw [hb, b2] at e; cases e
    · exact ⟨hb, by rw [← b1 b hb]; exact e⟩
  have isub : ∀ b o, B.get? b = none → B'.get? b = some o → False := fun b o e q => by rw [(bo b o q).2] at e; cases e
  have none_ : ∀ b, B.get? b = none → B'.get? b = none := fun b e => by
    cases q : B'.get? b with
    | none => rfl
    | some o => exact (isub b o e q).elim
  obtain ⟨k1, k2, k3, oe, vs, T, oT, ts, ha, hz, hda, hv1, hT, hTe, hoT, hdT, hts⟩ := hH
  have aC : a ≠ ce.locals := fun z => by rw [z, h1C] at ha; cases ha; rw [hdC] at hda; cases hda
  have TC : T ≠ ce.locals := fun z => by rw [z, h1C] at hoT; cases hoT; rw [hdC] at hdT; cases hdT
  have fr3 : h2.FunFrames B' (X.env :: X.outer) := funFrames_none (Heap.FunFrames.sameBut hs2 hn2 k3) fun L hL => by
    have hL' : L ∈ frs X.stack := by rw [hs]; exact hL
    cases q : B'.get? L with
    | none => rfl
    | some o =>
      obtain ⟨_, o', e1, _⟩ := Heap.FunFrames.mem (base := B) k3 hL
      exact absurd ((bo L o q).2) (by rw [(Heap.FunFrames.mem (base := B) k3 hL).1]; exact fun z => nomatch z)
  have held2 : HandSPX.HeldZ B' (X.env :: X.outer) a Z X.env.locals h2 :=
    ⟨fun b o e => (hs2.2 b (bo b o e).1).trans (k1 b o (bo b o e).2), none_ _ k2, fr3, oe, vs, T, oT, ts, (hs2.2 a aC).trans ha, hz, hda, hv1, none_ _ hT, hTe, (hs2.2 T TC).trans hoT, hdT, hts⟩
  unfold PySem.passOn
  refine wpAny_bind (wpAny_field ((hs2.2 a aC).trans ha) hda hv1 ?_)
  rw [if_neg (show ¬ ((Value.ref T == Value.none) = true) from by simp)]
  rw [cF, hf]
  refine wpAny_bind (HandSPX.setFlight_onZ (s := { s' with heap := h2 }) held2 fun h3 held3 up3 => ?_)
  refine wpAny_throw ?_
  -- the state without the exception
  obtain ⟨G, g1, g2⟩ := restrict s'.heap fun b => ((B'.get? b).isSome || decide (b ∈ frs X.stack)) && decide (b ≠ ce.locals)
  have st : B.StaysIn s'.heap := fl.1
  have gB : ∀ b o, B'.get? b = some o → G.get? b = some o := fun b o e => by
    rw [g1 b (by simp [e, (bo b o e).1])]
    exact st b o (bo b o e).2
  have gF : ∀ b, b ∈ frs X.stack → G.get? b = s'.heap.get? b := fun b hb => g1 b (by
    have : b ≠ ce.locals := fun z => nfs (z ▸ hb)
    simp [hb, this])
  have og : ∀ b o, G.get? b = some o → b ≠ ce.locals ∧ s'.heap.get? b = some o ∧ ((B'.get? b).isSome = true ∨ b ∈ frs X.stack) := fun b o e => by
    cases q : (((B'.get? b).isSome || decide (b ∈ frs X.stack)) && decide (b ≠ ce.locals)) with
    | false => rw [g2 b q] at e; cases e
    | true =>
      rw [g1 b q] at e
      simp only [Bool.and_eq_true, Bool.or_eq_true, decide_eq_true_eq] at q
      exact ⟨q.2, e, q.1⟩
  have old : ∀ b o, s3.heap.get? b = some o → b ≠ ce.locals := fun b o e z => by
    have := Heap.lt_size e
    rw [z, cL] at this
    exact Nat.lt_irrefl _ this
  have U : Un (frs X.stack) fp H3 H5 s3.heap s5.heap := I5.base
  refine out B' { s' with heap := G } { s' with heap := h3 } ?_ (fun b o e hb => ?_) ?_ (by rw [hs]; exact held3) rfl ag
  · have J := I3.call' (s' := { s' with heap := G }) (ch := fp) (H' := Hx) (os.trans I5.os)
      ⟨fun b o e n hb hc => ?_, fun b o e n hb hc => ?_, fun b o e n hc => ?_, fun b o e hc => ?_, fun b xs e => ub.tups b xs (U.tups b xs e), fun b o u e => ub.frzs b o u (U.frzs b o u e), fun b ps e => ?_⟩ ?_ ag
      fun b hb => ⟨(hfp b hb).1.2.2.2.1, (hfp b hb).1.2.1, (hfp b hb).1.2.2.2.2.1, (hfp b hb).1.2.2.2.2.2⟩
    · exact J
    · have e5 := U.keep b o e n hb hc
      have eB := ub.keep b o e5 (U.free b o e n hc) hb
      exact gB b o (by rw [b1 b (old b o e)]; exact eB)
    · obtain ⟨sl, e5⟩ := U.slot b o e n hb hc
      obtain ⟨sl2, e6⟩ := ub.slot b _ e5 hb
      exact ⟨sl2, by rw [gF b hb]; exact e6⟩
    · by_cases hb : b ∈ frs X.stack
      · obtain ⟨sl, e5⟩ := U.slot b o e n hb hc
        exact ub.free b _ e5 (U.free b o e n hc)
      · exact ub.free b o (U.keep b o e n hb hc) (U.free b o e n hc)
    · by_cases hb : b ∈ frs X.stack
      · obtain ⟨o5, e5⟩ := U.there b o e hc
        obtain ⟨sl2, e6⟩ := ub.slot b _ e5 hb
        exact ⟨_, by rw [gF b hb]; exact e6⟩
      · obtain ⟨o5, e5⟩ := U.there b o e hc
        obtain ⟨o6, e6⟩ := ub.there b o5 e5 hb
        exact ⟨o6, gB b o6 (by rw [b1 b (old b o e)]; exact e6)⟩
    · obtain ⟨m1, q1⟩ := U.tbls b ps e
      obtain ⟨m2, q2⟩ := ub.tbls b _ q1
      exact ⟨m1 ++ m2, by rw [q2, Array.append_assoc]⟩
    · exact fun b u e => (hok b u e).stay (fun c v hc q => gB c v (by
        rw [b1 c (fun z => by
          rcases hc with hc | hc
          · rw [← hc, z, hHC] at e; cases e
          · rw [z, hHC] at hc; cases hc)]
        exact q)) (fun _ q => q) fun _ _ q => q
  · obtain ⟨hC, e', h⟩ := og b o e
    rcases h with h | h
    · obtain ⟨o', q⟩ := Option.isSome_iff_exists.mp h
      have z := st b o' (bo b o' q).2
      rw [e'] at z; cases z
      exact q
    · exact absurd h hb
  · intro b o e hd
    obtain ⟨hC, e', _⟩ := og b o e
    obtain ⟨sl1, q1⟩ := up1 b o e' hd
    have q2 : h2.get? b = some { o with slots := sl1 } := (hs2.2 b hC).trans q1
    obtain ⟨sl3, q3⟩ := up3 b _ q2 hd
    exact ⟨sl3, q3⟩
theorem blk_passes {scope : Scope} {ce : Env} {fp : List Addr} {W : WX} (tk : TakesM X W) (I3 : Inv X pins σ H3 s3) (hfp : ∀ b ∈ fp, FpOk X pins H3 b ∧ b < s3.heap.objs.size) (cL : ce.locals = s3.heap.objs.size) (cF : ce.frame = X.env.frame)
    (hs : X.stack = X.env :: X.outer) (hf : X.env.frame = some X.env.locals) (σ' : L2.St) : PassesAt (CXM X.prog X.w) (blkX X s3 H3 scope ce fp) σ' (WE (fun c d _ H => W c d σ H) σ') := by
  intro pins5 H5 s5 e s' I5 c
  have hfr : X.A.frames = some (X.env :: X.outer) := by rw [I3.ok.frames, hs]
  rcases c with ⟨a, B, Hx, cls, d, rfl, fl, hok, ub, na, os, ag, w⟩ | ⟨a, B, Hx, cls, d, rfl, fl, hok, ub, na, os, ag, w⟩
  · exact blk_out (fun fl hQ => PXN.looks_onZ L2N.Zn.steady hfr hf fl hQ) I3 hfp cL cF hs hf I5 fl hok ub na os ag fun B' sI s'' J nb up held os' ag' =>
      tk.n _ _ ⟨a, B', sI, pins, σ, Hx, cls, d, rfl, J, nb, up, .inr (.inr held), na, os', ag', w⟩
  · exact blk_out (fun fl hQ => HandSPX.looks_onZ L2.Zc.steady hfr hf fl hQ) I3 hfp cL cF hs hf I5 fl hok ub na os ag fun B' sI s'' J nb up held os' ag' =>
      tk.f _ _ ⟨a, B', sI, pins, σ, Hx, cls, d, rfl, J, nb, up, .inr (.inr held), na, os', ag', w⟩
end
end KA
set_option Elab.async false
set_option linter.all false
set_option maxRecDepth 100000
/-! KA7: methods of lists and texts, f-strings, constants. -/
namespace KA
open PySem PySem.Spec PyProof.Rows L2
section
variable {cl : Str → Option Addr} {X : Cx} {W : WX} {H F : Hp} {m : List Addr} {μ : Store} {σ : L2.St} {Q : VK}
/-- l.count(x): texts -/
def rCntS (K : PySem.W.Frag) : V → List V → Hp → VK → Prop := fun x xs H Q => ∃ (p : Addr) (ns : List Str) (k : Str), x = .ref p ∧ xs = [.str k] ∧ SqL K H p (ns.map V.str) ∧ Q (.int (ns.count k : Nat)) H
theorem strsAre_of : ∀ {ns : List Str} {its : List Value}, Vals (ns.map V.str) its → StrsAre its ns
  | [], _, h => by cases h; exact .nil
  | n :: ns, _, h => by
    cases h with
    | cons r t => obtain ⟨u, rfl⟩ := r; exact .cons _ _ (strsAre_of t)
theorem countIn_strs (k : Str) : ∀ ns : List Str, countIn (.str k) (ns.map PyData.str) = ((ns.count k : Nat) : Int)
  | [] => rfl
  | n :: ns => by
    rw [List.map_cons, countIn, countIn_strs k ns, List.count_cons]
    simp only [same]
    rcases Bool.eq_false_or_eq_true (n == k) with hb | hb <;> simp only [hb, Bool.false_eq_true, if_true, if_false] <;> push_cast <;> omega
theorem mt_cntS : MtR X "list.count" (rCntS X.K) := by
  intro pins s σ H x xs v us Q I rx rxs h
  obtain ⟨p, ns, k, rfl, rfl, hs, q⟩ := h
  cases rx
  obtain ⟨u, rfl, ru⟩ := rxs.one
  obtain ⟨t, rfl⟩ := ru
  obtain ⟨its, rv, pl, hlen⟩ := I.list hs
  refine count_list_strs pl.isList (strsAre_of rv) ?_
  rw [countIn_strs]
  exact ⟨.int _, H, I.tok _, ⟨_, rfl⟩, q⟩
/-- l.extend(x): x any list -/
def rExtR : V → List V → Hp → VK → Prop := fun x vs H Q => ∃ l b xs zs, x = .ref l ∧ vs = [.ref b] ∧ H l = some (.lst xs) ∧ Rd H b (.lst zs) ∧ xs.length + zs.length ≤ sizeLine ∧ Q .non (upd H l (.lst (xs ++ zs)))
theorem mt_extR : MtR X "list.extend" rExtR := by
  intro pins s σ H x vs v us Q I rx rv h
  obtain ⟨l, b, xs, zs, rfl, rfl, hH, hB, hz, q⟩ := h
  cases rx
  obtain ⟨u, rfl, ru⟩ := rv.one
  cases ru
  obtain ⟨z, its, n, r, hl, e⟩ := I.lstM hH
  obtain ⟨z2, its2, n2, r2, e2⟩ := hB.ok I.hok
  have hl2 := r2.length
  have hsz : its.toArray.size + its2.toArray.size ≤ sizeLine := by rw [List.size_toArray, List.size_toArray]; omega
  have hlong : ¬ (!its.toArray.isEmpty && Builtin.List.listTooLong (its.toArray.size + its2.toArray.size)) = true := by
    rw [notLongL hsz, Bool.and_false]; exact Bool.false_ne_true
  refine call_meets F.slot_list_extend ⟨_, e, rfl⟩ F.entry_list_extend (F.args_list_extend_2 _ _)
    (AutoSeq1.list_extend_list_list_0 l its.toArray n b its2.toArray n2 hlong (by simp only [List.size_toArray]; omega) (by simp only [List.size_toArray]; omega)) ⟨e, e2, ?_⟩
  refine ⟨.non, _, I.lset (its' := its ++ its2) hH e (by simp) (r.append r2) ?_, rfl, q⟩
  rw [List.length_append]; omega
/-- the method's rule serves the operation -/
def MthD (cl : Str → Option Addr) (K : PySem.W.Frag) (r : V → List V → Hp → VK → Prop) (g : D → D → Store → Out) : Prop := ∀ {H F : Hp} {m : List Addr} {μ : Store} {W : WX} {σ : L2.St} {Q : VK} {x y : D} {v u : V},
  Rp cl K H F m μ → RD K F m x v → RD K F m y u → PostE cl K W σ H F m Q (g x y μ) → r v [u] H Q
theorem md_append {K : PySem.W.Frag} : MthD cl K rAppend (mth1D .append) := by
  intro H F m μ W σ Q x y v u rp rx ry q
  cases x with
  | loc i =>
    simp only [mth1D] at q
    split at q
    · rename_i xs e
      split at q
      · rename_i hz
        obtain ⟨a, vs, e1, ha, h1, h2⟩ := rp.lst e rx
        have hl := h2.length
        obtain ⟨r1, s1⟩ := rp.write (xs := xs ++ [y]) (vs := vs ++ [u]) ha (h2.append (by simp only [RDs]; exact ⟨u, [], rfl, ry, rfl⟩))
        exact ⟨a, vs, u, e1, rfl, h1, by omega, q _ _ _ _ r1 s1 rd_non⟩
      · exact q.elim
    · exact q.elim
  | _ => exact q.elim
theorem md_extend {K : PySem.W.Frag} : MthD cl K rExtR (mth1D .extend) := by
  intro H F m μ W σ Q x y v u rp rx ry q
  cases x with
  | loc i =>
    simp only [mth1D] at q
    split at q
    · rename_i xs ys e e'
      split at q
      · rename_i hz
        obtain ⟨a, vs, e1, ha, h1, h2⟩ := rp.lst e rx
        obtain ⟨b, ws, e2, h3, h4⟩ := rp.lstD e' ry
        have hl := h2.length
        have hl' := h4.length
        obtain ⟨r1, s1⟩ := rp.write (xs := xs ++ ys) (vs := vs ++ ws) ha (h2.append h4)
        exact ⟨a, b, vs, ws, e1, by rw [e2], h1, h3, by omega, q _ _ _ _ r1 s1 rd_non⟩
      · exact q.elim
    · exact q.elim
  | _ => exact q.elim
theorem md_count {K : PySem.W.Frag} : MthD cl K (rCntS K) (mth1D .count) := by
  intro H F m μ W σ Q x y v u rp rx ry q
  simp only [mth1D] at q
  split at q
  · rename_i xs c e
    split at q
    · rename_i zs e2
      obtain ⟨a, vs, e1, h1, h2⟩ := rp.lstD e rx
      simp only [RD] at ry
      have e3 := h2.strs e2
      subst e3
      exact ⟨a, zs, c, e1, by rw [ry], .inl h1, q.now rp rd_int⟩
    · exact q.elim
  · exact q.elim
theorem md_index {K : PySem.W.Frag} : MthD cl K (rIndex K) (mth1D .index) := by
  intro H F m μ W σ Q x y v u rp rx ry q
  simp only [mth1D] at q
  split at q
  · rename_i xs e
    split at q
    · rename_i hf
      simp only [Bool.and_eq_true] at hf
      split at q
      · rename_i j hj
        obtain ⟨a, vs, e1, h1, h2⟩ := rp.lstD e rx
        have hall := List.all_eq_true.mp hf.2
        rw [List.findIdx?_eq_some_iff_getElem] at hj
        obtain ⟨hlt, hjt, hno⟩ := hj
        obtain ⟨z, hz, rz⟩ := h2.get (List.getElem?_eq_getElem hlt)
        refine ⟨a, vs, u, j, z, e1, rfl, .inl h1, ry.flat hf.1, h2.flat hf.2, hz, ?_, fun n z' hn hz' => ?_, q.now rp rd_int⟩
        · rw [rz.eqF (hall _ (List.getElem_mem hlt)) hf.1 ry]; exact hjt
        · obtain ⟨d, hd, rd⟩ := h2.getV hz'
          obtain ⟨hnl, e3⟩ := List.getElem?_eq_some_iff.mp hd
          rw [rd.eqF (hall _ (by rw [← e3]; exact List.getElem_mem hnl)) hf.1 ry, ← e3]
          simpa using hno n hn
      · exact q.elim
    · exact q.elim
  · exact q.elim
def rSplA : V → List V → Hp → VK → Prop := fun x xs H Q => ∃ a b, x = .str a ∧ xs = [.str b] ∧ (b.length == 0) = false ∧ a.length + 2 ≤ sizeLine ∧ rNewStrs (Txt.split a b) H Q
theorem md_split {K : PySem.W.Frag} : MthD cl K rSplA (mth1D .split) := by
  intro H F m μ W σ Q x y v u rp rx ry q
  cases x with
  | str a =>
    cases y with
    | str b =>
      simp only [mth1D] at q
      split at q
      · rename_i h
        simp only [RD] at rx ry
        refine ⟨a, b, rx, by rw [ry], by simpa using h.1, h.2, new_lst rp (RDs.of_strs _) q⟩
      · exact q.elim
    | _ => exact q.elim
  | _ => exact q.elim
theorem md_splitM {K : PySem.W.Frag} : MthD cl K rSplA (mth1D .splitM) := by
  intro H F m μ W σ Q x y v u rp rx ry q
  cases x with
  | str a =>
    cases y with
    | str b =>
      simp only [mth1D] at q
      split at q
      · rename_i h
        simp only [RD] at rx ry
        refine ⟨a, b, rx, by rw [ry], by simpa using h.1, h.2, fun p hp => ?_⟩
        obtain ⟨r2, s2, r3⟩ := rp.fresh hp (RDs.of_strs (Txt.split a b))
        exact q _ _ _ _ r2 s2 r3
      · exact q.elim
    | _ => exact q.elim
  | _ => exact q.elim
def rParA : V → List V → Hp → VK → Prop := fun x xs H Q => ∃ a b, x = .str a ∧ xs = [.str b] ∧ (b.length == 0) = false ∧ a.length ≤ sizeLine ∧
    ∀ p, H p = none → Q (.ref p) (upd H p (.tup [.str (Txt.partition a b).1, .str (Txt.partition a b).2.1, .str (Txt.partition a b).2.2]))
theorem md_part {K : PySem.W.Frag} : MthD cl K rParA (mth1D .partition) := by
  intro H F m μ W σ Q x y v u rp rx ry q
  cases x with
  | str a =>
    cases y with
    | str b =>
      simp only [mth1D] at q
      split at q
      · rename_i h
        simp only [RD] at rx ry
        refine ⟨a, b, rx, by rw [ry], by simpa using h.1, h.2, new_tup rp (RDs.of_strs [_, _, _]) q⟩
      · exact q.elim
    | _ => exact q.elim
  | _ => exact q.elim
def rJoinA (K : PySem.W.Frag) : V → List V → Hp → VK → Prop := fun x xs H Q => ∃ a p, ∃ ys : List Str, x = .str a ∧ xs = [.ref p] ∧ (SqL K H p (ys.map V.str) ∨ SqT K H p (ys.map V.str)) ∧
      (ys.map (·.length)).sum + ys.length * a.length ≤ 16777216 ∧ Q (.str (Txt.join a ys)) H
theorem md_join {K : PySem.W.Frag} : MthD cl K (rJoinA K) (mth1D .join) := by
  intro H F m μ W σ Q x y v u rp rx ry q
  cases x with
  | str a =>
    simp only [mth1D] at q
    cases e : seqD μ y with
    | none => rw [e] at q; exact q.elim
    | some xs =>
      rw [e] at q
      simp only [Option.bind_some] at q
      split at q
      · rename_i ys e2
        split at q
        · rename_i h
          obtain ⟨p, vs, e1, h1, h2⟩ := rp.seqD e ry
          have e3 := h2.strs e2
          subst e3
          simp only [RD] at rx
          exact ⟨a, p, ys, rx, by rw [e1], h1, h, q.now rp rd_str⟩
        · exact q.elim
      · exact q.elim
  | _ => exact q.elim
theorem md_pop {K : PySem.W.Frag} {x : D} {v : V} (rp : Rp cl K H F m μ) (rx : RD K F m x v) (q : PostE cl K W σ H F m Q (mth0D .pop x μ)) : rPop v [] H Q := by
  cases x with
  | loc i =>
    simp only [mth0D] at q
    split at q
    · rename_i xs e
      split at q
      · rename_i d hd
        obtain ⟨a, vs, e1, ha, h1, h2⟩ := rp.lst e rx
        have hl := h2.length
        obtain ⟨y, hy, ry⟩ := h2.get hd
        obtain ⟨r1, s1⟩ := rp.write (xs := xs.dropLast) (vs := vs.dropLast) ha h2.dropLast
        exact ⟨a, vs, y, e1, rfl, h1, by rw [hl]; exact hy, q _ _ _ _ r1 s1 ry⟩
      · exact q.elim
    · exact q.elim
  | _ => exact q.elim
/-! ### the forms -/
variable {o e : Expr} {fo fa : DE} {es : List Expr} {pos p apos : Pos}
theorem rcv_lst {f : BM} (hf : f = .append ∨ f = .extend ∨ f = .count ∨ f = .index) {K : PySem.W.Frag} {x : D} {v : V} (rp : Rp cl K H F m μ) (rx : RD K F m x v) (h : rcvD f x μ = true) : tyV K "list" v H := by
  have : ∃ xs, lstD μ x = some xs := by
    rcases hf with rfl | rfl | rfl | rfl <;> exact Option.isSome_iff_exists.mp h
  obtain ⟨xs, e⟩ := this
  obtain ⟨a, vs, e1, h1, _⟩ := rp.lstD e rx
  subst e1
  exact .inl ⟨rfl, vs, .inl h1⟩
theorem x_lm {name : Str} {id : String} {r : V → List V → Hp → VK → Prop} {f : BM} (hf : f = .append ∨ f = .extend ∨ f = .count ∨ f = .index) (slot : Slot "list" name id) (ty : typeOf (.builtin id) = pure (.type "method_descriptor")) (hm : MtR X id r) (md : MthD cl X.K r (mth1D f))
    (ho : P1 cl X W o fo) (he : P1 cl X W e fa) (hbase : attributeBase o name X.env (eval o X.env) = eval o X.env)
    (hfew : ((backTo pos (starEach [e] X.env)).all (fun x => !x.1) && (backToKw pos (keywordEach [] X.env)).all (fun x => x.1.isSome)
      && decide ([e].length + ([] : List Keyword).length + (if ([] : List Keyword).isEmpty then 0 else 1) < 30)) = true)
    (hline : (apos.endLine == pos.line) = true) (hs : starEach [e] X.env = (false, eval e X.env) :: starEach [] X.env) :
    P1 cl X W (.Call (.Attribute o name apos) [e] [] pos) (fun ρ μ => (fo ρ μ).bind fun x μ => if rcvD f x μ then (fa ρ μ).bind fun y μ => mth1D f x y μ else .stuck) :=
  (pe_bm F.plainAttrs_list slot ty hm ho (pa_cons he pa_nil hs) hbase hfew hline hs rfl).imp fun σ H Q ⟨F, m, ρ, μ, a0, p⟩ => run_bind a0 p fun v H1 F1 m1 d μ1 a1 s1 r1 p1 => by
    split at p1
    · rename_i hr
      exact ⟨rcv_lst hf a1.rp r1 hr, run_bind a1 p1 fun u H2 F2 m2 d2 μ2 a2 s2 r2 p2 => md a2.rp (r1.step s2) r2 p2⟩
    · exact p1.elim
theorem x_lpop (ho : P1 cl X W o fo) (hbase : attributeBase o "pop" X.env (eval o X.env) = eval o X.env) (hline : (apos.endLine == pos.line) = true) :
    P1 cl X W (.Call (.Attribute o "pop" apos) [] [] pos) (fun ρ μ => (fo ρ μ).bind fun x μ => mth0D .pop x μ) :=
  (pe_bm0 F.plainAttrs_list F.slot_list_pop F.type_list_pop mt_pop ho hbase hline).imp fun σ H Q ⟨F, m, ρ, μ, a0, p⟩ => run_bind a0 p fun v H1 F1 m1 d μ1 a1 s1 r1 p1 => by
    have q := md_pop a1.rp r1 p1
    refine ⟨?_, q⟩
    obtain ⟨l, xs, y, e, _, h, _⟩ := q
    subst e
    exact .inl ⟨rfl, xs, .inl (.inl h)⟩
theorem x_sm {name : Str} {id : String} {r : V → List V → Hp → VK → Prop} {f : BM} (hf : f = .split ∨ f = .splitM ∨ f = .partition ∨ f = .join) (slot : Slot "str" name id) (ty : typeOf (.builtin id) = pure (.type "method_descriptor")) (hm : MtR X id r) (md : MthD cl X.K r (mth1D f))
    (ho : P1 cl X W o fo) (he : P1 cl X W e fa) (hs : starEach [e] X.env = [(false, eval e X.env)]) (hbase : attributeBase o name X.env (eval o X.env) = eval o X.env) (hline : (apos.endLine == pos.line) = true) :
    P1 cl X W (.Call (.Attribute o name apos) [e] [] pos) (fun ρ μ => (fo ρ μ).bind fun x μ => if rcvD f x μ then (fa ρ μ).bind fun y μ => mth1D f x y μ else .stuck) :=
  (pe_m1 slot ty hm ho he hs hbase hline).imp fun σ H Q ⟨F, m, ρ, μ, a0, p⟩ => run_bind a0 p fun v H1 F1 m1 d μ1 a1 s1 r1 p1 => by
    split at p1
    · rename_i hr
      have : ∃ a, d = .str a := by
        rcases hf with rfl | rfl | rfl | rfl <;> cases d <;> simp [rcvD] at hr <;> exact ⟨_, rfl⟩
      obtain ⟨a, rfl⟩ := this
      refine ⟨⟨a, by simpa only [RD] using r1⟩, run_bind a1 p1 fun u H2 F2 m2 d2 μ2 a2 s2 r2 p2 => md a2.rp (r1.step s2) r2 p2⟩
    · exact p1.elim
/-! ### f-strings -/
theorem x_fmt (ha : P1 cl X W e fa) : P1 cl X W (.FormattedValue e (-1) none pos) (fun ρ μ => (fa ρ μ).bind fun x μ => fmtD x μ) :=
  (pe_fmt ha).imp fun σ H Q ⟨F, m, ρ, μ, a0, p⟩ => run_bind a0 p fun v H1 F1 m1 d μ1 a1 s1 r1 p1 => by
    cases d with
    | str z =>
      simp only [fmtD] at p1
      split at p1
      · rename_i h; simp only [RD] at r1; exact .inl ⟨z, r1, h, p1.now a1.rp rd_str⟩
      · exact p1.elim
    | int i =>
      simp only [fmtD] at p1
      split at p1
      · rename_i h; simp only [RD] at r1; exact .inr ⟨i, r1, h, p1.now a1.rp rd_str⟩
      · exact p1.elim
    | _ => exact p1.elim
/-- the parts, one behind the other -/
def fJ : List DE → Str → DE
  | [], z, _, μ => .ok (.str z) μ
  | f :: fs, z, ρ, μ => (f ρ μ).bind fun x μ => match x with
    | .str y => if (z ++ y).length ≤ sizeLine then fJ fs (z ++ y) ρ μ else .stuck
    | _ => .stuck
theorem tJ_of {Q : VK} : ∀ (fs : List DE) (z : Str) {σ : L2.St} {H F : Hp} {m : List Addr} {ρ : Ro} {μ : Store}, At cl X.K σ H F m ρ μ → PostE cl X.K W σ H F m Q (fJ fs z ρ μ) → tJs (fs.map fun f => TD cl X.K W f) z σ H fun out H1 => Q (.str out) H1
  | [], z, σ, H, F, m, ρ, μ, a0, p => p.now a0.rp rd_str
  | f :: fs, z, σ, H, F, m, ρ, μ, a0, p => by
    refine run_bind a0 p fun v H1 F1 m1 d μ1 a1 s1 r1 p1 => ?_
    cases d with
    | str y =>
      simp only at p1
      split at p1
      · rename_i h
        simp only [RD] at r1
        exact ⟨y, r1, h, tJ_of fs (z ++ y) a1 p1⟩
      · exact p1.elim
    | _ => exact p1.elim
inductive P4 (cl : Str → Option Addr) (X : Cx) (W : WX) : List Expr → List DE → Prop where
  | nil : P4 cl X W [] []
  | cons {e : Expr} {f : DE} {es : List Expr} {fs : List DE} (h : P1 cl X W e f) (r : P4 cl X W es fs) : P4 cl X W (e :: es) (f :: fs)
theorem P4.pj {es : List Expr} {fs : List DE} (h : P4 cl X W es fs) : PJ X es (fs.map fun f => TD cl X.K W f) := by
  induction h with
  | nil => exact .nil
  | cons h r ih => exact .cons h ih
theorem x_fstr {v1 v2 : Expr} {rest : List Expr} {fs : List DE} (h : P4 cl X W (v1 :: v2 :: rest) fs) : P1 cl X W (.JoinedStr (v1 :: v2 :: rest) pos) (fJ fs Str.empty) :=
  (pe_joined h.pj).imp fun σ H Q ⟨F, m, ρ, μ, a0, p⟩ => tJ_of fs Str.empty a0 p
theorem x_fstr1 (ha : P1 cl X W e fa) : P1 cl X W (.JoinedStr [e] pos) fa := pe_joined1 ha
/-! ### the module's constants -/
theorem x_glo {x : Str} {v : V} {u : Value} {d : D} (hg : Gl X x) (hm : X.mg x = some u) (r : RelV v u) (hd : ∀ F m, RD X.K F m d v) (hdb : (x == ("__debug__" : Str)) = false) : P1 cl X W (.Name x pos) (fun _ μ => .ok d μ) := x_const (pe_glob hg hm r hdb) hd
end
end KA
set_option Elab.async false
set_option linter.all false
set_option maxRecDepth 100000
set_option maxHeartbeats 1000000
/-! KA8: targets, what is walked. -/
namespace KA
open PySem PySem.Spec PyProof.Rows L2
section
variable {cl : Str → Option Addr} {X : Cx} {W : WX} {K : PySem.W.Frag}
theorem RS.set {F : Hp} {m : List Addr} {ρ : Ro} {σ : L2.St} (r : RS K F m ρ σ) {d : D} {v : V} (rd : RD K F m d v) (i : Nat) : RS K F m (ρ.set i (some d)) (σ.set i (some v)) := by
  refine ⟨by simp [r.1], fun j e h => ?_⟩
  by_cases hj : i = j
  · subst hj
    have hlt : i < ρ.length := by
      have := (List.getElem?_eq_some_iff.mp h).1
      simpa using this
    rw [List.getElem?_set_self hlt] at h
    simp only [Option.some.injEq] at h
    subst h
    exact ⟨v, by rw [List.getElem?_set_self (by rw [← r.1]; exact hlt)], rd⟩
  · rw [List.getElem?_set_ne hj] at h ⊢
    exact r.2 j e h
mutual
/-- the slots that a target fills -/
def tsl : T → List Nat
  | .name i => [i]
  | .tup r => tsls r
  | _ => []
def tsls : T → List Nat
  | .cons t r => tsl t ++ tsls r
  | _ => []
end
/-- the slots of vs alone are other -/
def But (vs : List Nat) (σ σ' : L2.St) : Prop := ∀ ws : List Nat, (∀ i ∈ vs, i ∈ ws) → wipe σ' ws = wipe σ ws
theorem wipe_get (σ : L2.St) : ∀ (vs : List Nat) (i : Nat), (wipe σ vs)[i]? = if i ∈ vs then (if i < σ.length then some none else none) else σ[i]?
  | [], i => by simp [wipe]
  | v :: vs, i => by
    unfold wipe
    have ih := wipe_get σ vs i
    by_cases h : v = i
    · subst h
      rw [List.getElem?_set]
      simp [wipe_length]
    · rw [List.getElem?_set_ne h, ih]
      by_cases h2 : i ∈ vs
      · simp [h2]
      · have h3 : ¬ i ∈ v :: vs := fun z => (List.mem_cons.mp z).elim (fun e => h e.symm) h2
        rw [if_neg h2, if_neg h3]
theorem wipe_wipe (σ : L2.St) (vs : List Nat) : wipe (wipe σ vs) vs = wipe σ vs := by
  refine List.ext_getElem? fun i => ?_
  rw [wipe_get (wipe σ vs), wipe_get σ, wipe_length]
  by_cases h : i ∈ vs <;> simp [h]
theorem But.set (σ : L2.St) (i : Nat) (x : Option V) : But [i] σ (σ.set i x) := fun ws h => by
  refine List.ext_getElem? fun j => ?_
  rw [wipe_get, wipe_get, List.length_set]
  by_cases hj : j ∈ ws
  · simp [hj]
  · have ne : i ≠ j := fun z => hj (by rw [← z]; exact h i (by simp))
    rw [if_neg hj, if_neg hj, List.getElem?_set_ne ne]
theorem But.trans {vs ws : List Nat} {σ σ1 σ2 : L2.St} (a : But vs σ σ1) (b : But ws σ1 σ2) : But (vs ++ ws) σ σ2 := fun us h => (b us fun i hi => h i (List.mem_append_right _ hi)).trans (a us fun i hi => h i (List.mem_append_left _ hi))
/-- a target's canonical reading -/
def TGD (cl : Str → Option Addr) (K : PySem.W.Frag) (t : T) : TG := fun v σ H Q => ∃ F m ρ μ d ρ', At cl K σ H F m ρ μ ∧ RD K F m d v ∧ tgt t d ρ μ = some ρ' ∧ ∀ σ', But (tsl t) σ σ' → At cl K σ' H F m ρ' μ → Q σ' H
def TGsD (cl : Str → Option Addr) (K : PySem.W.Frag) (t : T) : TGs := fun vs σ H Q => ∃ F m ρ μ ds ρ', At cl K σ H F m ρ μ ∧ RDs K F m ds vs ∧ tgts t ds ρ μ = some ρ' ∧ ∀ σ', But (tsls t) σ σ' → At cl K σ' H F m ρ' μ → Q σ' H
theorem _root_.L2.PG.imp {tg : Expr} {t t' : TG} (h : PG X tg t) (i : ∀ v σ H Q, t' v σ H Q → t v σ H Q) : PG X tg t' := ⟨fun pins s σ H v u Q I r q => h.run pins s σ H v u Q I r (i _ _ _ _ q)⟩
theorem _root_.L2.PGs.imp {tg : List Expr} {t t' : TGs} (h : PGs X tg t) (i : ∀ v σ H Q, t' v σ H Q → t v σ H Q) : PGs X tg t' := ⟨fun pins s σ H v u Q I r q => h.run pins s σ H v u Q I r (i _ _ _ _ q)⟩
theorem _root_.L2.PG.or' {tg : Expr} {t t' : TG} (h : PG X tg t) (h' : PG X tg t') : PG X tg (fun v σ H Q => t v σ H Q ∨ t' v σ H Q) := ⟨fun pins s σ H v u Q I r q => q.elim (h.run pins s σ H v u Q I r) (h'.run pins s σ H v u Q I r)⟩
abbrev PGd (cl : Str → Option Addr) (X : Cx) (tg : Expr) (t : T) : Prop := PG X tg (TGD cl X.K t)
abbrev PGsd (cl : Str → Option Addr) (X : Cx) (tg : List Expr) (t : T) : Prop := PGs X tg (TGsD cl X.K t)
theorem g_name {i : Nat} {x : Str} {pos : Pos} (hN : X.N.Nodup) (hi : X.N[i]? = some x) (hx : Loc X.env.scope x) (hf : X.fn x = true ∨ X.env.scope.names.lookup x = some .local) : PGd cl X (.Name x pos) (.name i) :=
  (pg_name hN hi hx hf).imp fun v σ H Q ⟨F, m, ρ, μ, d, ρ', a, rd, e, k⟩ => by
    simp only [tgt, Option.some.injEq] at e
    subst e
    exact k _ (But.set _ _ _) ⟨a.rp, a.rs.set rd i⟩
theorem g_nil : PGsd cl X [] .nil :=
  PGs.imp pgs_nil fun v σ H Q ⟨F, m, ρ, μ, ds, ρ', a, rd, e, k⟩ => by
    cases ds with
    | nil => simp only [tgts, Option.some.injEq] at e; subst e; simp only [RDs] at rd; exact ⟨rd, k _ (fun _ _ => rfl) a⟩
    | cons _ _ => simp [tgts] at e
theorem g_cons {t : Expr} {ts : List Expr} {g r : T} (h : PGd cl X t g) (hr : PGsd cl X ts r) (hs : (assignEach (t :: ts) X.env).map (·.2) = assign t X.env :: (assignEach ts X.env).map (·.2)) : PGsd cl X (t :: ts) (.cons g r) :=
  (pgs_cons h hr hs).imp fun v σ H Q ⟨F, m, ρ, μ, ds, ρ', a, rd, e, k⟩ => by
    cases ds with
    | nil => simp [tgts] at e
    | cons d ds =>
      simp only [tgts] at e
      simp only [RDs] at rd
      obtain ⟨v1, r1, e1, h1, h2⟩ := rd
      cases e2 : tgt g d ρ μ with
      | none => rw [e2] at e; cases e
      | some ρ1 =>
        rw [e2] at e
        exact ⟨v1, r1, e1, F, m, ρ, μ, d, ρ1, a, h1, e2, fun σ' b' a' => ⟨F, m, ρ1, μ, ds, ρ', a', h2, e, fun σ2 b2 => k σ2 (b'.trans b2)⟩⟩
theorem g_tup {ts : List Expr} {n k : Nat} {r : T} {pos : Pos} (hc : X.calm = true) (h : PGsd cl X ts r) (hn : (assignEach ts X.env).length = n) (hst : (assignEach ts X.env).findIdx? (·.1) = none)
    (hl : ∀ ds ρ μ ρ', tgts r ds ρ μ = some ρ' → ds.length = n) : PGd cl X (.Tuple ts k pos) (.tup r) :=
  ((pg_tup hc h hn hst).or' (pg_lst hc h hn hst)).imp fun v σ H Q ⟨F, m, ρ, μ, d, ρ', a, rd, e, k⟩ => by
    simp only [tgt] at e
    cases e2 : seqD μ d with
    | none => rw [e2] at e; cases e
    | some ds =>
      rw [e2] at e
      obtain ⟨p, vs, e1, h1, h2⟩ := a.rp.seqD e2 rd
      have hlen : vs.length = n := by rw [h2.length]; exact hl _ _ _ _ e
      rcases h1 with h1 | h1
      · exact .inr ⟨p, vs, e1, h1, hlen, F, m, ρ, μ, ds, ρ', a, h2, e, k⟩
      · exact .inl ⟨p, vs, e1, h1, hlen, F, m, ρ, μ, ds, ρ', a, h2, e, k⟩
/-! ### what is walked -/
/-- the walk gives these items, as long as the source stands -/
structure Serves (cl : Str → Option Addr) (K : PySem.W.Frag) (J : It) (H F : Hp) (m : List Addr) (ds : List D) (chk : Store → Bool) : Prop where
  stop : ∀ H' F' m' μ', Rp cl K H' F' m' μ' → Stp H F m H' F' m' → chk μ' = true → J.stop ds.length H'
  go : ∀ i d H' F' m' μ', ds[i]? = some d → Rp cl K H' F' m' μ' → Stp H F m H' F' m' → chk μ' = true → J.go i H' ∧ ∀ x H'', J.yld i H' x H'' → H'' = H' ∧ RD K F' m' d x
def PostW (cl : Str → Option Addr) (K : PySem.W.Frag) (W : WX) (σ : L2.St) (H F : Hp) (m : List Addr) (R : It → Hp → Prop) : WOut → Prop
  | .stuck => False
  | .ok ds chk μ' => ∀ J H' F' m', Rp cl K H' F' m' μ' → Stp H F m H' F' m' → Serves cl K J H' F' m' ds chk → R J H'
  | .exc x μ' => ∀ c dct H' F' m', Rp cl K H' F' m' μ' → Stp H F m H' F' m' → RX cl K H' F' m' x c dct → W c dct σ H'
def TDW (cl : Str → Option Addr) (K : PySem.W.Frag) (W : WX) (f : Ro → Store → WOut) : TI := fun σ H R => ∃ F m ρ μ, At cl K σ H F m ρ μ ∧ PostW cl K W σ H F m R (f ρ μ)
theorem _root_.L2.PI.imp {tg e : Expr} {t t' : TI} (h : PI X tg e t) (i : ∀ σ H R, t' σ H R → t σ H R) : PI X tg e t' := ⟨fun pins s σ H R I q => h.run pins s σ H R I (i _ _ _ q)⟩
theorem _root_.L2.PI.or' {tg e : Expr} {t t' : TI} (h : PI X tg e t) (h' : PI X tg e t') : PI X tg e (fun σ H R => t σ H R ∨ t' σ H R) := ⟨fun pins s σ H R I q => q.elim (h.run pins s σ H R I) (h'.run pins s σ H R I)⟩
abbrev P5 (cl : Str → Option Addr) (X : Cx) (W : WX) (tg e : Expr) (f : Ro → Store → WOut) : Prop := PI X tg e (TDW cl X.K W f)
theorem sv_list {H F : Hp} {m : List Addr} {a : Addr} {ds : List D} {vs : List V} (h1 : Rd F a (.lst vs)) (h2 : RDs K F m ds vs) : Serves cl K (Itl K a) H F m ds fun _ => true := by
  refine ⟨fun H' F' m' μ' rp s _ => ⟨vs, .inl (same_r rp.sub (same_r s.same h1)), by rw [h2.length]; exact Nat.le_refl _⟩, fun i d H' F' m' μ' e rp s _ => ?_⟩
  obtain ⟨v, hv, rv⟩ := h2.get e
  have q : SqL K H' a vs := .inl (same_r rp.sub (same_r s.same h1))
  exact ⟨⟨vs, v, q, hv⟩, fun x H'' ⟨e1, e2⟩ => ⟨e1, by have := e2 vs q; rw [hv] at this; cases this; exact rv.step s⟩⟩
theorem sv_tup {H F : Hp} {m : List Addr} {a : Addr} {ds : List D} {vs : List V} (h1 : SqT K F a vs) (h2 : RDs K F m ds vs) : Serves cl K (Itt K a) H F m ds fun _ => true := by
  refine ⟨fun H' F' m' μ' rp s _ => ⟨vs, same_t rp.sub (same_t s.same h1), by rw [h2.length]; exact Nat.le_refl _⟩, fun i d H' F' m' μ' e rp s _ => ?_⟩
  obtain ⟨v, hv, rv⟩ := h2.get e
  have q : SqT K H' a vs := same_t rp.sub (same_t s.same h1)
  exact ⟨⟨vs, v, q, hv⟩, fun x H'' ⟨e1, e2⟩ => ⟨e1, by have := e2 vs q; rw [hv] at this; cases this; exact rv.step s⟩⟩
theorem sv_loc {H F : Hp} {m : List Addr} {a : Addr} {k : Nat} {ds : List D} (ha : m[k]? = some a) : Serves cl K (Itl K a) H F m ds (fun μ' => match μ'[k]? with
      | some (.lst ys) => D.sames ds ys
      | _ => false) := by
  have key : ∀ {H' F' : Hp} {m' : List Addr} {μ' : Store}, Rp cl K H' F' m' μ' → Stp H F m H' F' m' → (match μ'[k]? with
      | some (.lst ys) => D.sames ds ys
      | _ => false) = true → ∃ vs, SqL K H' a vs ∧ RDs K F' m' ds vs := fun {H' F' m' μ'} rp s h => by
    split at h
    · rename_i ys e
      have := D.sames_eq h
      subst this
      obtain ⟨vs, q1, q2⟩ := rp.obj k a _ (s.at _ _ ha) e
      exact ⟨vs, .inl (.inl q1), q2⟩
    · cases h
  refine ⟨fun H' F' m' μ' rp s h => ?_, fun i d H' F' m' μ' e rp s h => ?_⟩
  · obtain ⟨vs, q1, q2⟩ := key rp s h
    exact ⟨vs, q1, by rw [q2.length]; exact Nat.le_refl _⟩
  · obtain ⟨vs, q1, q2⟩ := key rp s h
    obtain ⟨v, hv, rv⟩ := q2.get e
    exact ⟨⟨vs, v, q1, hv⟩, fun x H'' ⟨e1, e2⟩ => ⟨e1, by have := e2 vs q1; rw [hv] at this; cases this; exact rv⟩⟩
theorem sv_str {H F : Hp} {m : List Addr} {z : Str} : Serves cl K (Its z) H F m (z.cps.toList.map fun c => D.str ⟨#[c]⟩) fun _ => true := by
  refine ⟨fun H' F' m' μ' rp s _ => ?_, fun i d H' F' m' μ' e rp s _ => ?_⟩
  · show z.cps.size ≤ _
    simp
  · rw [List.getElem?_map] at e
    cases e1 : z.cps.toList[i]? with
    | none => rw [e1] at e; cases e
    | some c =>
      rw [e1] at e
      simp only [Option.map_some, Option.some.injEq] at e
      subst e
      refine ⟨?_, fun x H'' ⟨e2, c', e3, e4⟩ => ⟨e2, ?_⟩⟩
      · show i < z.cps.size
        have := (List.getElem?_eq_some_iff.mp e1).1
        simpa using this
      · rw [e4]
        rw [← Array.getElem?_toList] at e3
        rw [e1] at e3
        cases e3
        exact rd_str
theorem sv_rng {H F : Hp} {m : List Addr} {a b : Int} : Serves cl K (Itr a (b - a).toNat) H F m (rangeD a b) fun _ => true := by
  refine ⟨fun H' F' m' μ' rp s _ => ?_, fun i d H' F' m' μ' e rp s _ => ?_⟩
  · show (b - a).toNat ≤ _
    simp [rangeD]
  · simp only [rangeD, List.getElem?_map] at e
    cases e1 : (List.range (b - a).toNat)[i]? with
    | none => rw [e1] at e; cases e
    | some c =>
      rw [e1] at e
      simp only [Option.map_some, Option.some.injEq] at e
      subst e
      obtain ⟨h1, h2⟩ := List.getElem?_eq_some_iff.mp e1
      simp at h2
      subst h2
      refine ⟨?_, fun x H'' ⟨e2, e3⟩ => ⟨e2, by rw [e3]; exact rd_int⟩⟩
      simp only [List.length_range] at h1
      exact h1
variable {tg e a b : Expr} {fa fb : DE} {p pos : Pos}
theorem w_it (he : P1 cl X W e fa) : P5 cl X W tg e (fun ρ μ => match fa ρ μ with
    | .ok d μ1 => (match srcD μ1 d with
      | some p => .ok p.1 p.2 μ1
      | none => .stuck)
    | .exc x μ1 => .exc x μ1
    | .stuck => .stuck) :=
  ((pi_list he).or' ((pi_tup he).or' (pi_str he))).imp fun σ H R ⟨F, m, ρ, μ, a0, p⟩ => by
    dsimp only at p
    cases ef : fa ρ μ with
    | stuck => rw [ef] at p; exact p.elim
    | exc x μ1 => rw [ef] at p; exact .inl ⟨F, m, ρ, μ, a0, by rw [ef]; exact p⟩
    | ok d μ1 =>
      rw [ef] at p
      cases d with
      | tup xs =>
        refine .inr (.inl ⟨F, m, ρ, μ, a0, ?_⟩)
        rw [ef]
        intro v H1 F1 m1 rp s rd
        simp only [RD] at rd
        obtain ⟨a, vs, e1, h1, h2⟩ := rd
        exact ⟨a, e1, ⟨vs, same_t rp.sub h1⟩, p (Itt X.K a) H1 F1 m1 rp s (sv_tup h1 h2)⟩
      | lst xs =>
        refine .inl ⟨F, m, ρ, μ, a0, ?_⟩
        rw [ef]
        intro v H1 F1 m1 rp s rd
        simp only [RD] at rd
        obtain ⟨a, vs, e1, h1, h2⟩ := rd
        exact ⟨a, e1, ⟨vs, .inl (same_r rp.sub h1)⟩, p (Itl X.K a) H1 F1 m1 rp s (sv_list h1 h2)⟩
      | str z =>
        refine .inr (.inr ⟨F, m, ρ, μ, a0, ?_⟩)
        rw [ef]
        intro v H1 F1 m1 rp s rd
        simp only [RD] at rd
        exact ⟨z, rd, p (Its z) H1 F1 m1 rp s sv_str⟩
      | loc k =>
        refine .inl ⟨F, m, ρ, μ, a0, ?_⟩
        rw [ef]
        intro v H1 F1 m1 rp s rd
        simp only [srcD] at p
        cases e2 : μ1[k]? with
        | none => rw [e2] at p; exact p.elim
        | some o =>
          cases o with
          | ins C fs => rw [e2] at p; exact p.elim
          | lst xs =>
            rw [e2] at p
            obtain ⟨a, vs, e1, ha, h1, h2⟩ := rp.lst e2 rd
            exact ⟨a, e1, ⟨vs, .inl (.inl h1)⟩, p (Itl X.K a) H1 F1 m1 rp s (sv_loc ha)⟩
      | _ => exact p.elim
theorem w_range1 (hg : Gl X "range") (hm : X.mg "range" = none) (ha : P1 cl X W a fa) (hs : starEach [a] X.env = (false, eval a X.env) :: starEach [] X.env) : P5 cl X W tg (.Call (.Name "range" p) [a] [] pos) (fun ρ μ => match fa ρ μ with
    | .ok (.int j) μ1 => if rgOk 0 j then .ok (rangeD 0 j) (fun _ => true) μ1 else .stuck
    | .exc x μ1 => .exc x μ1
    | _ => .stuck) :=
  (pi_range1 hg hm (pa_cons ha pa_nil hs) hs).imp fun σ H R ⟨F, m, ρ, μ, a0, p⟩ => by
    refine ⟨F, m, ρ, μ, a0, ?_⟩
    dsimp only at p
    cases ef : fa ρ μ with
    | stuck => rw [ef] at p; exact p.elim
    | exc x μ1 => rw [ef] at p; exact p
    | ok d μ1 =>
      rw [ef] at p
      cases d with
      | int j =>
        simp only at p
        split at p
        · rename_i h
          intro v H1 F1 m1 rp s rd
          simp only [RD] at rd
          simp only [rgOk, decide_eq_true_eq] at h
          refine ⟨j, by rw [rd], h.2.2.1, h.2.2.2, ?_⟩
          have := p (Itr 0 (j - 0).toNat) H1 F1 m1 rp s sv_rng
          simpa using this
        · exact p.elim
      | _ => exact p.elim
theorem w_range2 (hg : Gl X "range") (hm : X.mg "range" = none) (ha : P1 cl X W a fa) (hb : P1 cl X W b fb) (hs : starEach [a, b] X.env = (false, eval a X.env) :: starEach [b] X.env) (hs2 : starEach [b] X.env = (false, eval b X.env) :: starEach [] X.env) :
    P5 cl X W tg (.Call (.Name "range" p) [a, b] [] pos) (fun ρ μ => match fa ρ μ with
    | .ok (.int i) μ1 => (match fb ρ μ1 with
      | .ok (.int j) μ2 => if rgOk i j then .ok (rangeD i j) (fun _ => true) μ2 else .stuck
      | .exc x μ1 => .exc x μ1
      | _ => .stuck)
    | .exc x μ1 => .exc x μ1
    | _ => .stuck) :=
  (pi_range2 hg hm (pa_cons ha (pa_cons hb pa_nil hs2) hs) (by rw [hs, hs2]; rfl) hs2).imp fun σ H R ⟨F, m, ρ, μ, a0, p⟩ => by
    refine ⟨F, m, ρ, μ, a0, ?_⟩
    dsimp only at p
    cases ef : fa ρ μ with
    | stuck => rw [ef] at p; exact p.elim
    | exc x μ1 => rw [ef] at p; exact p
    | ok d μ1 =>
      rw [ef] at p
      cases d with
      | int i =>
        simp only at p
        intro v H1 F1 m1 rp s rd
        simp only [RD] at rd
        subst rd
        refine ⟨F1, m1, ρ, μ1, ⟨rp, a0.rs.step s⟩, ?_⟩
        cases ef2 : fb ρ μ1 with
        | stuck => rw [ef2] at p; exact p.elim
        | exc x μ2 => rw [ef2] at p; exact fun c dct H2 F2 m2 rp2 s2 rx2 => p c dct H2 F2 m2 rp2 (s.trans s2) rx2
        | ok d2 μ2 =>
          rw [ef2] at p
          cases d2 with
          | int j =>
            simp only at p
            split at p
            · rename_i h
              intro v2 H2 F2 m2 rp2 s2 rd2
              simp only [RD] at rd2
              subst rd2
              simp only [rgOk, decide_eq_true_eq] at h
              exact ⟨i, j, rfl, h, p _ H2 F2 m2 rp2 (s.trans s2) sv_rng⟩
            · exact p.elim
          | _ => exact p.elim
      | _ => exact p.elim
end
end KA
set_option Elab.async false
set_option linter.all false
set_option maxRecDepth 100000
set_option maxHeartbeats 2000000
/-! KA9: list comprehensions. -/
namespace KA
open PySem PySem.Spec PyProof.Rows L2
section
variable {cl : Str → Option Addr} {X : Cx} {W : WX} {K : PySem.W.Frag} {H H' F F' : Hp} {m m' : List Addr} {μ μ' : Store}
theorem RS.wipe {ρ : Ro} {σ : L2.St} (r : RS K F m ρ σ) : ∀ vs : List Nat, RS K F m (wipeR ρ vs) (L2.wipe σ vs)
  | [] => r
  | v :: vs => by
    have ih := RS.wipe r vs
    refine ⟨by simp [wipeR, L2.wipe, ih.1], fun i d h => ?_⟩
    simp only [wipeR] at h
    simp only [L2.wipe]
    by_cases hv : v = i
    · subst hv
      rw [List.getElem?_set] at h
      simp at h
    · rw [List.getElem?_set_ne hv] at h ⊢
      exact ih.2 i d h
/-- an object aside -/
theorem Rp.aside (r : Rp cl K H F m μ) {p : Addr} (hp : p ∉ m) (hF : F p = none) (o : HO) : Rp cl K (upd H p o) F m μ := by
  refine ⟨fun b u q => by rw [upd_ne (ne_of_none q hF)]; exact r.sub b u q, r.len, r.nd, r.out, fun i a x h1 h2 => ?_⟩
  have ne : a ≠ p := fun z => hp (by rw [← z]; exact List.mem_of_getElem? h1)
  exact (r.obj i a x h1 h2).step (fun _ _ h => h) (fun _ _ h => h) (upd_ne ne)
/-- the object aside is frozen -/
theorem Rp.freeze (r : Rp cl K H F m μ) {p : Addr} {o : HO} (hp : p ∉ m) (hF : F p = none) (hH : H p = some o) : Rp cl K H (upd F p o) m μ := by
  refine ⟨fun b u q => ?_, r.len, r.nd, fun a ha => ?_, fun i a x h1 h2 => ?_⟩
  · by_cases hb : b = p
    · subst hb; rw [upd_self q]; exact hH
    · rw [upd_ne hb] at q; exact r.sub b u q
  · have ne : a ≠ p := fun z => hp (by rw [← z]; exact ha)
    rw [upd_ne ne]; exact r.out a ha
  · exact (r.obj i a x h1 h2).step (fun b u q => by rw [upd_ne (ne_of_none q hF)]; exact q) (fun _ _ h => h) rfl
/-- the list aside is a mutable one of the store -/
theorem Rp.adopt (r : Rp cl K H F m μ) {p : Addr} {xs : List D} {vs : List V} (hp : p ∉ m) (hF : F p = none) (hH : H p = some (.lst vs)) (rv : RDs K F m xs vs) : Rp cl K H F (m ++ [p]) (μ ++ [.lst xs]) ∧ RD K F (m ++ [p]) (.loc μ.length) (.ref p) := by
  have hat : ∀ (i : Nat) (x : Addr), m[i]? = some x → (m ++ [p])[i]? = some x := fun i x h => by
    rw [List.getElem?_append_left (List.getElem?_eq_some_iff.mp h).1]; exact h
  refine ⟨⟨r.sub, by simp [r.len], ?_, fun a ha => ?_, fun i a x h1 h2 => ?_⟩, ?_⟩
  · rw [List.nodup_append]
    exact ⟨r.nd, by simp, fun a ha b hb z => hp (by rw [← List.mem_singleton.mp hb, ← z]; exact ha)⟩
  · rcases List.mem_append.mp ha with ha | ha
    · exact r.out a ha
    · simp at ha; subst ha; exact hF
  · by_cases hi : i < μ.length
    · rw [List.getElem?_append_left (by rw [r.len]; exact hi)] at h1
      rw [List.getElem?_append_left hi] at h2
      exact (r.obj i a x h1 h2).step (fun _ _ h => h) hat rfl
    · have e : i = μ.length := by
        have := (List.getElem?_eq_some_iff.mp h2).1
        simp at this
        omega
      subst e
      rw [← r.len, List.getElem?_append_right (Nat.le_refl _)] at h1
      rw [List.getElem?_append_right (Nat.le_refl _)] at h2
      simp at h1 h2
      subst h1 h2
      exact ⟨vs, hH, rv.mono (fun _ _ h => h) hat⟩
  · simp only [RD]
    refine ⟨p, rfl, ?_⟩
    rw [← r.len, List.getElem?_append_right (Nat.le_refl _)]
    simp
/-- an object aside stays aside -/
theorem Stp.aside (s : Stp H F m H' F' m') {p : Addr} {o : HO} (hp : p ∉ m) (hF : F p = none) (hH : H p = some o) : H' p = some o ∧ F' p = none ∧ p ∉ m' := by
  refine ⟨s.keep p o hp hH, ?_, fun z => ?_⟩
  · cases e : F' p with
    | none => rfl
    | some u =>
      rcases s.new p (by rw [e]; exact fun z => nomatch z) with h | h
      · exact absurd hF h
      · rw [hH] at h; cases h
  · obtain ⟨n, e, q⟩ := s.pre
    rw [e] at z
    rcases List.mem_append.mp z with z | z
    · exact hp z
    · rw [q p z] at hH; cases hH
/-- the new list is written -/
theorem Stp.poke {H0 F0 : Hp} {m0 : List Addr} (s : Stp H0 F0 m0 H F m) {p : Addr} (hp : H0 p = none) (o : HO) : Stp H0 F0 m0 (upd H p o) F m :=
  ⟨s.same, s.new, s.pre, fun a u ha h => by rw [upd_ne (ne_of_none h hp)]; exact s.keep a u ha h, fun a h => by
    by_cases hb : a = p
    · subst hb; rw [upd_same]; exact fun z => nomatch z
    · rw [upd_ne hb]; exact s.some_ a h⟩
theorem Stp.froze {H0 F0 : Hp} {m0 : List Addr} (s : Stp H0 F0 m0 H F m) {p : Addr} (hp : H0 p = none) (hF : F p = none) (o : HO) : Stp H0 F0 m0 H (upd F p o) m :=
  ⟨fun b u h => by
    have := s.same b u h
    rw [upd_ne (ne_of_none this hF)]; exact this, fun a h => by
    by_cases hb : a = p
    · subst hb; exact .inr hp
    · rw [upd_ne hb] at h; exact s.new a h, s.pre, s.keep, s.some_⟩
theorem Stp.adopted {H0 F0 : Hp} {m0 : List Addr} (s : Stp H0 F0 m0 H F m) {p : Addr} (hp : H0 p = none) : Stp H0 F0 m0 H F (m ++ [p]) := by
  obtain ⟨n, e, q⟩ := s.pre
  exact ⟨s.same, s.new, ⟨n ++ [p], by rw [e, List.append_assoc], fun a ha => (List.mem_append.mp ha).elim (q a) fun h => by simp at h; subst h; exact hp⟩, s.keep, s.some_⟩
/-- what is walked, then the turns -/
def compF (f : Ro → Store → WOut) (t : T) (own : List Nat) (x mm : Bool) (fc fe : DE) : DE := fun ρ μ => match f ρ μ with
  | .ok ds chk μ1 => compL chk t own x mm fc fe ds [] ρ μ1
  | .exc x μ1 => .exc x μ1
  | .stuck => .stuck
theorem tlc_of {W' : WX} {σ : L2.St} {ρ : Ro} {Q : VK} {f : Ro → Store → WOut} {t : T} {own : List Nat} {x mm : Bool} {fc fe : DE} (hown : ∀ i ∈ tsl t, i ∈ own) (hW : x = true → ∀ c d σ' H, W c d σ H → W' c d σ' H) (a0 : At cl K σ H F m ρ μ)
    (p : PostE cl K W σ H F m Q (compF f t own x mm fc fe ρ μ)) : tLc (TDW cl K W f) (TGD cl K t) (TDT cl K W' fc) (TD cl K W' fe) own σ H Q := by
  refine ⟨F, m, ρ, μ, a0, ?_⟩
  unfold compF at p
  cases ef : f ρ μ with
  | stuck => rw [ef] at p; exact p.elim
  | exc e μ1 => rw [ef] at p; exact p
  | ok ds chk μ1 =>
    rw [ef] at p
    intro J H1 F1 m1 rp1 s1 sv D hD
    have p1 : PostE cl K W σ H1 F1 m1 Q (compL chk t own x mm fc fe ds [] ρ μ1) := PostE.step p s1
    have rs1 := a0.rs.step s1
    have hDF : F1 D = none := by
      cases e : F1 D with
      | none => rfl
      | some u => rw [rp1.sub D u e] at hD; cases hD
    have hDm : D ∉ m1 := fun z => rp1.there z hD
    refine ⟨fun i n H' => ∃ F' m' ys vs μ', Rp cl K H' F' m' μ' ∧ Stp H1 F1 m1 H' F' m' ∧ H' D = some (.lst vs) ∧ F' D = none ∧ D ∉ m' ∧ RDs K F' m' ys vs ∧ i ≤ ds.length ∧ n = ds.length - i ∧ PostE cl K W σ H1 F1 m1 Q (compL chk t own x mm fc fe (ds.drop i) ys ρ μ'),
      ⟨ds.length, F1, m1, [], [], μ1, rp1.aside hDm hDF _, (Stp.refl).poke hD _, upd_same, hDF, hDm, by simp [RDs], Nat.zero_le _, by simp, by simpa using p1⟩, ?_⟩
    rintro i n H2 ⟨F2, m2, ys, vs, μ2, rp2, s2, hD2, hF2, hm2, ry, hi, hn, p2⟩
    cases hd : ds.drop i with
    | nil =>
      have hi' : i = ds.length := by
        have := congrArg List.length hd
        simp at this
        omega
      rw [hd] at p2
      simp only [compL] at p2
      split at p2
      · rename_i hc
        refine .inl ⟨by rw [hi']; exact sv.stop _ _ _ _ rp2 s2 hc, ?_⟩
        cases mm with
        | true =>
          obtain ⟨r3, rd3⟩ := rp2.adopt hm2 hF2 hD2 ry
          exact p2 _ _ _ _ r3 (s2.adopted hD) rd3
        | false =>
          refine p2 _ _ _ _ (rp2.freeze hm2 hF2 hD2) (s2.froze hD hF2 _) ?_
          simp only [RD]
          exact ⟨D, vs, rfl, .inl upd_same, ry.mono (fun b u q => by rw [upd_ne (ne_of_none q hF2)]; exact q) (fun _ _ h => h)⟩
      · exact p2.elim
    | cons d rest =>
      have hget : ds[i]? = some d := by
        have := List.getElem?_drop (xs := ds) (i := i) (j := 0)
        rw [hd] at this
        simpa using this.symm
      have hlt : i < ds.length := (List.getElem?_eq_some_iff.mp hget).1
      have hrest : ds.drop (i + 1) = rest := by
        have := List.drop_drop (l := ds) (i := 1) (j := i)
        rw [hd] at this
        simpa using this.symm
      rw [hd] at p2
      simp only [compL] at p2
      split at p2
      · rename_i hc
        obtain ⟨hgo, hy⟩ := sv.go i d _ _ _ _ hget rp2 s2 hc
        refine .inr ⟨hgo, fun H' => ∃ F' m' ys vs μ', Rp cl K H' F' m' μ' ∧ Stp H1 F1 m1 H' F' m' ∧ H' D = some (.lst vs) ∧ F' D = none ∧ D ∉ m' ∧ RDs K F' m' ys vs ∧ PostE cl K W σ H1 F1 m1 Q (compL chk t own x mm fc fe rest ys ρ μ'), fun H' ⟨F', m', ys, vs, μ', q1, q2, q3, q4, q5, q6, q7⟩ => ⟨n - 1, by omega, F', m', ys, vs, μ', q1, q2, q3, q4, q5, q6, hlt, by omega, by rw [hrest]; exact q7⟩, fun xv H3 hyl => ?_⟩
        obtain ⟨e3, rx⟩ := hy xv H3 hyl
        subst e3
        cases ht : tgt t d (wipeR ρ own) μ2 with
        | none => rw [ht] at p2; exact p2.elim
        | some ρ1 =>
          rw [ht] at p2
          refine ⟨F2, m2, wipeR ρ own, μ2, d, ρ1, ⟨rp2, (rs1.step s2).wipe own⟩, rx, ht, fun σ2 hbut a2 => ⟨(hbut own hown).trans (wipe_wipe σ own), F2, m2, ρ1, μ2, a2, ?_⟩⟩
          simp only at p2
          cases ec : fc ρ1 μ2 with
          | stuck => rw [ec] at p2; exact p2.elim
          | exc e μ3 => rw [ec] at p2; exact p2.elim
          | ok b μ3 =>
            rw [ec] at p2
            simp only at p2
            cases et : truD μ3 b with
            | none => rw [et] at p2; exact p2.elim
            | some bb =>
              rw [et] at p2
              refine ⟨bb, et, fun H3 F3 m3 rp3 s3 => ?_⟩
              obtain ⟨hD3, hF3, hm3⟩ := s3.aside hm2 hF2 hD2
              cases bb with
              | false =>
                rw [if_neg (by simp)]
                exact ⟨F3, m3, ys, vs, μ3, rp3, s2.trans s3, hD3, hF3, hm3, ry.step s3, p2⟩
              | true =>
                rw [if_pos rfl]
                refine ⟨F3, m3, ρ1, μ3, ⟨rp3, a2.rs.step s3⟩, ?_⟩
                simp only at p2
                cases ee : fe ρ1 μ3 with
                | stuck => rw [ee] at p2; exact p2.elim
                | exc e μ4 =>
                  rw [ee] at p2
                  simp only at p2
                  cases x with
                  | false => exact p2.elim
                  | true => exact fun c dct H4 F4 m4 rp4 s4 rx4 => hW rfl _ _ _ _ (p2 c dct H4 F4 m4 rp4 ((s2.trans s3).trans s4) rx4)
                | ok y μ4 =>
                  rw [ee] at p2
                  simp only at p2
                  intro yv H4 F4 m4 rp4 s4 rd4
                  obtain ⟨hD4, hF4, hm4⟩ := s4.aside hm3 hF3 hD3
                  split at p2
                  · rename_i hz
                    have hl := ry.length
                    refine ⟨vs, hD4, by omega, F4, m4, ys ++ [y], vs ++ [yv], μ4, rp4.aside hm4 hF4 _, ((s2.trans s3).trans s4).poke hD _, upd_same, hF4, hm4, ((ry.step s3).step s4).append ?_, p2⟩
                    simp only [RDs]
                    exact ⟨yv, [], rfl, rd4, rfl⟩
                  · exact p2.elim
      · exact p2.elim
end
end KA
set_option Elab.async false
set_option linter.all false
set_option maxRecDepth 100000
set_option maxHeartbeats 2000000
/-! KA10: a list comprehension out of which an exception may come; the form. -/
namespace KA
open PySem PySem.Spec PyProof.Rows L2
/-- a block's context -/
def Blk (X : Cx) (scope : Scope) (X' : Cx) : Prop := ∃ s H C cs fp xe, X' = (X.blk s H scope (compEnvC scope cs C X.env) fp).wish xe
abbrev PassM (X : Cx) (W : WX) : Prop := ∀ σ, PassesAt (CXM X.prog X.w) X σ (WE W σ)
section
variable {cl : Str → Option Addr} {X : Cx} {W : WX}
theorem lc_coreX {pins : List (Addr × Obj)} {s : Shared} {σ : L2.St} {H : Hp} {Q : VK} {elt tg iter : Expr} {ifs : List Expr} {scope : Scope} {own : List (Str × Nat)} {pos pos' : Pos} {wi : TI} {g : TG} {tt : TT} {te : TE} {use : Option (Value → Sem Unit)} {Qf : Value → Shared → Prop}
    (tk : TakesM X W) (hst : X.stack = X.env :: X.outer) (hf : X.env.frame = some X.env.locals)
    (hc : X.calm = true) (hN : X.N.Nodup) (I : Inv X pins σ H s) (hi : PI X tg iter wi) (ok : BlkOk X.N X.env.scope scope own)
    (hb : ∀ X', Blk X scope X' → PassM X' (fun c d _ H => W c d σ H) → PG X' tg g ∧ PTs X' ifs tt ∧ PE X' elt te) (hs : ∀ x, foldedSetIterable iter X.env x = pure x)
    (h : tLc wi g tt te (own.map (·.2)) σ H Q)
    (hRR : ∀ D ce s' m H', Inv X pins σ H' s' → Q (.ref D) H' → s'.heap.Ns ce.locals m → FpOk X pins H' ce.locals → compEnds (model X.prog X.w) X.A X.xe use Qf (.ref D) ce (.ok .next) s') :
    wpAny (model X.prog X.w) X.A (comprehension (.ListComp elt [⟨tg, iter, ifs, 0⟩] scope pos) scope X.env pos' (newList []) false (eval iter X.env) use) Qf X.xe s := by
  have hfree : ∀ y ∈ scope.names, y.2 = .free → ∃ c, X.env.cells.lookup y.1 = some c := fun y hy e => by
    rcases ok.free y hy e with k | k
    · exact I.ok.has _ (.inl k)
    · exact I.ok.has _ (.inr k)
  refine comprehension_at (use := use) rfl hs (closure_ok hfree) ok.kind (fun y hy e => by rw [ok.uniq y hy, e])
    (thn (hi.run pins s σ H _ I h) fun xv s1 hx => thn hx fun itv s2 h2 => ?_)
  obtain ⟨it, fp, tn, J, H2, e, I2, T, st2, f2, q⟩ := h2
  subst e
  refine wpAny_newObj_type (newEnv_comp ?_) (by show 0 ≤ sizeLine; decide)
  generalize hD : s2.heap.objs.size = D
  have hDn : H2 D = none := I2.hok.fresh (Nat.le_of_eq hD)
  obtain ⟨W0, ⟨m0, w0⟩, turn⟩ := q D hDn
  generalize hs3 : ({ s2 with heap := s2.heap.push { cls := .type "list", data := .seq ([] : List Value).toArray } } : Shared) = s3
  have h3 : s3.heap = s2.heap.push { cls := .type "list", data := .seq ([] : List Value).toArray } := by rw [← hs3]
  have I3 : Inv X pins σ (upd H2 D (.lst [])) s3 := by
    rw [← hs3]
    refine I2.laid (t' := s2.toks) (fun b o e => Heap.get?_push_of_some _ e) (Nat.le_of_eq hD) ⟨Nat.zero_le _, [], 0, .nil, ?_⟩
    rw [← hD]; exact Heap.get?_push_size _ rfl
  have sz : ∀ b ∈ fp, b < s2.heap.objs.size := fun b hb => (T.obj _ _ st2 b hb).elim fun o e => Heap.lt_size e.1
  have f3 : ∀ b ∈ fp, FpOk X pins (upd H2 D (.lst [])) b ∧ b < s3.heap.objs.size := fun b hb => by
    have hlt := sz b hb
    refine ⟨⟨?_, (f2 b hb).2⟩, by rw [h3, Heap.size_push]; exact Nat.lt_succ_of_lt hlt⟩
    rw [upd_ne (by rw [← hD]; exact Nat.ne_of_lt hlt)]; exact (f2 b hb).1
  have st3 : tn 0 s3.heap := T.keep _ _ _ st2 fun b _ o e => by rw [h3]; exact Heap.get?_push_of_some _ e
  have I4 := block_start I3 ok hN f3
  generalize hcs : cellsFrom (s3.heap.objs.size + 1) scope.names (cloFrom X.env.cells scope.names []) = cs at I4
  show codeAny _ _ (.compStart (.ListComp elt [⟨tg, iter, ifs, 0⟩] scope pos) 0 (.ref it) (.ref D) (compEnvC scope cs s3.heap.objs.size X.env))
    (compEnds (model X.prog X.w) X.A X.xe use Qf (.ref D) (compEnvC scope cs s3.heap.objs.size X.env)) { s3 with heap := pushCells (s3.heap.push { cls := .type "dict", data := .dict #[] }) scope.names }
  have pass : PassM (blkX X s3 (upd H2 D (.lst [])) scope (compEnvC scope cs s3.heap.objs.size X.env) fp) (fun c d _ H => W c d σ H) := fun σ' =>
    blk_passes (ce := compEnvC scope cs s3.heap.objs.size X.env) (scope := scope) tk I3 f3 rfl rfl hst hf σ'
  obtain ⟨pg, pt, pe⟩ := hb (blkX X s3 (upd H2 D (.lst [])) scope (compEnvC scope cs s3.heap.objs.size X.env) fp) ⟨s3, upd H2 D (.lst []), s3.heap.objs.size, cs, fp, _, rfl⟩ pass
  have nfp : ∀ b ∈ fp, (upd H2 D (.lst [])) b = none := fun b hb => (f3 b hb).1.1
  have cL : (compEnvC scope cs s3.heap.objs.size X.env).locals = s3.heap.objs.size := rfl
  generalize hce : compEnvC scope cs s3.heap.objs.size X.env = ce at I4 pg pt pe cL ⊢
  have hE : (fun (e : Value) (s' : Shared) => compEnds (model X.prog X.w) X.A X.xe use Qf (.ref D) ce (.error e) s') = CompFails (model X.prog X.w) X.A X.xe ce := by
    funext e s'; cases use <;> rfl
  generalize hH3 : upd H2 D (.lst []) = H3 at I3 I4 pg pt pe w0 nfp f3
  have I4 : Inv (blkX X s3 H3 scope ce fp) [] (wipe σ (own.map (·.2))) H3 { s3 with heap := pushCells (s3.heap.push { cls := .type "dict", data := .dict #[] }) scope.names } :=
    ⟨⟨I4.ok.mod, I4.ok.kind, I4.ok.glob, I4.ok.blt, I4.ok.above, I4.ok.inj, I4.ok.has, I4.ok.cab, I4.ok.hd, I4.ok.frames, I4.ok.stk, I4.ok.exf, I4.ok.bs, I4.ok.bsz, I4.ok.noex, I4.ok.exfs, I4.ok.funs, I4.ok.frf⟩, I4.os, I4.bare, I4.base, I4.loc, I4.cell, I4.free, I4.freeC, I4.pin, I4.hok, I4.len⟩
  generalize hs4 : ({ s3 with heap := pushCells (s3.heap.push { cls := .type "dict", data := .dict #[] }) scope.names } : Shared) = s4 at I4 ⊢
  have st4 : tn 0 s4.heap := T.keep _ _ _ st3 fun b _ o e => by rw [← hs4]; exact pushCells_keeps _ _ _ _ (Heap.get?_push_of_some _ e)
  have stat : ∀ {σ' : L2.St} {H' : Hp} {s' : Shared}, Inv (blkX X s3 H3 scope ce fp) [] σ' H' s' → (∀ b ∈ fp, H' b = none) → ∀ b ∈ fp, FpOk (blkX X s3 H3 scope ce fp) [] H' b := fun {σ' H' s'} I' hn b hb =>
    ⟨hn b hb, (I'.ok.exf b hb).1, I'.ok.exfs b hb, .inl hb, fun x c e => (I'.ok.exf b hb).2 x c e, fun p hp => absurd (show p ∈ ([] : List (Addr × Obj)) ++ [] from hp) (by simp)⟩
  have loop : codeAny (model X.prog X.w) X.A (.compLoop (.ListComp elt [⟨tg, iter, ifs, 0⟩] scope pos) 0 (.ref it) (.ref D) ce) (compEnds (model X.prog X.w) X.A X.xe use Qf (.ref D) ce) s4 := by
    refine compLoop_any (fun n s' => ∃ i H', Inv (blkX X s3 H3 scope ce fp) [] (wipe σ (own.map (·.2))) H' s' ∧ tn i s'.heap ∧ (∀ b ∈ fp, H' b = none) ∧ W0 i n H') ?_ m0 ⟨0, H3, I4, st4, nfp, w0⟩
    rw [hE]
    rintro n s5 ⟨i, H5, I5, st5, n5, w5⟩
    rcases turn i n H5 w5 with ⟨stop, qq⟩ | ⟨go, Nx, hNx, step⟩
    · refine thnF (T.done (blkX X s3 H3 scope ce fp) rfl rfl rfl hc i [] s5 _ H5 (fun _ _ => False) I5 (stat I5 n5) st5 stop) fun r s6 ⟨hr, I6⟩ => ?_
      subst hr
      have I7 : Inv X pins σ H5 s6 := I3.call' (ch := fp) I6.os I6.base I6.hok I6.bare fun b hb => ⟨(f3 b hb).1.2.2.2.1, (f3 b hb).1.2.1, (f3 b hb).1.2.2.2.2.1, (f3 b hb).1.2.2.2.2.2⟩
      have nC : H5 ce.locals = none := I6.free
      obtain ⟨m, hn, _⟩ := I6.loc
      exact hRR D ce s6 m H5 I7 qq hn (I3.fpOk (by rw [cL]; exact Nat.le_refl _) nC)
    · refine thnF (T.item (blkX X s3 H3 scope ce fp) rfl rfl rfl hc i [] s5 _ H5 (fun _ _ => False) I5 (stat I5 n5) st5 go) fun r s6 ⟨u, hr, h6⟩ => ?_
      subst hr
      refine thnF h6 fun _ s7 ⟨x, H7, I7, r7, y7, st7, n7⟩ => ?_
      have I7' := I7.pinned (stat I7 n7) (T.obj _ _ st7)
      refine thn (pg.run _ s7 _ H7 x u _ I7' r7 (step x H7 y7)) fun _ s8 ⟨σ8, H8, I8, hw8, q8⟩ => ?_
      refine thn (pt.run _ s8 σ8 H8 _ I8 q8) fun b s9 ⟨H9, I9, q9⟩ => ?_
      have fin : ∀ {s' : Shared} {H' : Hp}, Inv (blkX X s3 H3 scope ce fp) ([] ++ pinsAt fp s7.heap) σ8 H' s' → Nx H' → ∃ m, m < n ∧ ∃ i H', Inv (blkX X s3 H3 scope ce fp) [] (wipe σ (own.map (·.2))) H' s' ∧ tn i s'.heap ∧ (∀ b ∈ fp, H' b = none) ∧ W0 i m H' := fun {s' H'} I' nx => by
        obtain ⟨m', hm, w'⟩ := hNx H' nx
        have pin' : ∀ b ∈ fp, ∀ o, s7.heap.get? b = some o → s'.heap.get? b = some o ∧ H' b = none := fun b hb o e =>
          let z := I'.pin (b, o) (List.mem_append_right _ (List.mem_append_right _ (mem_pinsAt hb e)))
          ⟨z.1, z.2.1⟩
        refine ⟨m', hm, i + 1, H', (I'.unpinned (pins := [])).weak (by rw [← hw8, wipe_length]) (fun j v e => by rw [← hw8] at e; exact (wipe_some e).1), T.keep _ _ _ st7 fun b hb o e => (pin' b hb o e).1, fun b hb => ?_, w'⟩
        obtain ⟨o, e, _⟩ := T.obj _ _ st7 b hb
        exact (pin' b hb o e).2
      cases b with
      | false =>
        simp only [Bool.false_eq_true, if_false] at q9 ⊢
        exact fin I9 q9
      | true =>
        simp only [if_true] at q9 ⊢
        refine thn (pe.run _ s9 σ8 H9 _ I9 q9) fun z s10 ⟨yv, H10, I10, r10, acc, hD10, hz10, nx⟩ => ?_
        exact app_ok (X := blkX X s3 H3 scope ce fp) I10 hD10 hz10 r10 fun s11 I11 => fin I11 nx
  exact codeAny_compStart_list loop (T.self X.A 0 _ _ _ st4 loop)
variable {elt tg iter : Expr} {ifs : List Expr} {scope : Scope} {own : List (Str × Nat)} {pos : Pos} {t : T} {x mm : Bool} {f : Ro → Store → WOut} {fc fe : DE}
theorem PTs.imp {t t' : TT} (h : PTs X ifs t) (i : ∀ σ H Q, t' σ H Q → t σ H Q) : PTs X ifs t' := ⟨fun pins s σ H Q I q => h.run pins s σ H Q I (i _ _ _ q)⟩
theorem ts_nil {W' : WX} : PTs X [] (TDT cl X.K W' fun _ μ => .ok (.bl true) μ) := PTs.imp pts_nil fun σ H Q ⟨F, m, ρ, μ, a, b, hb, q⟩ => by
  simp only [truD, Option.some.injEq] at hb
  subst hb
  exact q H F m a.rp .refl
/-- the form's parts, in the block -/
structure CompIn (cl : Str → Option Addr) (X : Cx) (W W' : WX) (scope : Scope) (elt tg : Expr) (ifs : List Expr) (t : T) (fc fe : DE) : Prop where
  run : ∀ X', Blk X scope X' → PassM X' W' → PG X' tg (TGD cl X.K t) ∧ PTs X' ifs (TDT cl X.K W' fc) ∧ PE X' elt (TD cl X.K W' fe)
theorem x_comp (hc : X.calm = true) (hN : X.N.Nodup) (hi : P5 cl X W tg iter f) (ok : BlkOk X.N X.env.scope scope own) (hown : ∀ i ∈ tsl t, i ∈ own.map (·.2))
    (hx : x = true → TakesM X W ∧ X.stack = X.env :: X.outer ∧ X.env.frame = some X.env.locals ∧ ∀ σ, CompIn cl X W (fun c d _ H => W c d σ H) scope elt tg ifs t fc fe)
    (hx' : x = false → CompIn cl X W (fun _ _ _ _ => False) scope elt tg ifs t fc fe) (hs : ∀ x, foldedSetIterable iter X.env x = pure x) :
    P1 cl X W (.ListComp elt [⟨tg, iter, ifs, 0⟩] scope pos) (compF f t (own.map (·.2)) x mm fc fe) := by
  cases x with
  | false =>
    have hb := (hx' rfl).run
    have z : ∀ (s : Shared) (H : Hp) (C : Addr) (cs : List (Str × Addr)) (fp : List Addr), _ := fun s H C cs fp => hb (X.blk s H scope (compEnvC scope cs C X.env) fp) ⟨s, H, C, cs, fp, _, rfl⟩ (passM takesM0)
    exact (pe_lc hc hN hi ok (fun s H C cs fp => (z s H C cs fp).1) (fun s H C cs fp => (z s H C cs fp).2.1) (fun s H C cs fp => (z s H C cs fp).2.2) hs).imp fun σ H Q ⟨F, m, ρ, μ, a0, p⟩ =>
      tlc_of (x := false) hown (fun q => absurd q (by decide)) a0 p
  | true =>
    obtain ⟨tk, hst, hf, hb⟩ := hx rfl
    refine ⟨fun pins s σ H Q I ⟨F, m, ρ, μ, a0, p⟩ => ?_⟩
    rw [eval_ListComp]
    refine lc_coreX tk hst hf hc hN I hi ok (hb σ).run hs (tlc_of (x := true) hown (fun _ c d σ' H h => h) a0 p) fun D ce s' m H' I' q hn f => ⟨m, hn, fun h'' sb => ?_⟩
    obtain ⟨f0, f1, f2, f3, f4, f5⟩ := f
    exact ⟨.ref D, H', I'.turned (t' := s'.toks) (fun b o hb e => (sb.2 b hb).trans e) f0 f1 f3 f4 f5, rfl, q⟩
/-- name = [..] on one line -/
theorem s_comp {i : Nat} {y : Str} {py spos : Pos} (hc : X.calm = true) (hN : X.N.Nodup) (hy : X.N[i]? = some y) (hyl : X.env.scope.names.lookup y = some .local) (hsw : swapsWith (.ListComp elt [⟨tg, iter, ifs, 0⟩] scope pos) (some (.Name y py)) spos.line X.env = pure true)
    (hi : P5 cl X W tg iter f) (ok : BlkOk X.N X.env.scope scope own) (hown : ∀ i ∈ tsl t, i ∈ own.map (·.2))
    (hx : x = true → TakesM X W ∧ X.stack = X.env :: X.outer ∧ X.env.frame = some X.env.locals ∧ ∀ σ, CompIn cl X W (fun c d _ H => W c d σ H) scope elt tg ifs t fc fe)
    (hx' : x = false → CompIn cl X W (fun _ _ _ _ => False) scope elt tg ifs t fc fe) (hs : ∀ x, foldedSetIterable iter X.env x = pure x) :
    PS X (.Assign [.Name y py] (.ListComp elt [⟨tg, iter, ifs, 0⟩] scope pos) spos) (tAsg (TD cl X.K W (compF f t (own.map (·.2)) x mm fc fe)) (gName i)) := by
  cases x with
  | false =>
    have hb := (hx' rfl).run
    have z : ∀ (s : Shared) (H : Hp) (C : Addr) (cs : List (Str × Addr)) (fp : List Addr), _ := fun s H C cs fp => hb (X.blk s H scope (compEnvC scope cs C X.env) fp) ⟨s, H, C, cs, fp, _, rfl⟩ (passM takesM0)
    exact (ps_setLc hc hN hy hyl hsw hi ok (fun s H C cs fp => (z s H C cs fp).1) (fun s H C cs fp => (z s H C cs fp).2.1) (fun s H C cs fp => (z s H C cs fp).2.2) hs).imp fun Dn σ H ⟨F, m, ρ, μ, a0, p⟩ =>
      tlc_of (x := false) (Q := fun x H1 => gName i x σ H1 Dn.nx) hown (fun q => absurd q (by decide)) a0 p
  | true =>
    obtain ⟨tk, hst, hf, hb⟩ := hx rfl
    refine ⟨fun pins s σ H Dn I ⟨F, m, ρ, μ, a0, p⟩ => ?_⟩
    rw [exec_Assign_Name_used _ _ _ _ hsw]
    refine wpAny_bind (wpAny_standAt (wpAny_bind ?_))
    show wpAny _ X.A (do let _ ← comprehension (.ListComp elt [⟨tg, iter, ifs, 0⟩] scope pos) scope X.env (firstIterPos [⟨tg, iter, ifs, 0⟩] pos) (newList []) false (eval iter X.env) (some (assign (.Name y py) X.env))) _ _ s
    refine wpAny_bind (thn (lc_coreX (Q := fun x H1 => gName i x σ H1 Dn.nx) (Qf := fun _ s' => SP X pins Dn .next s') tk hst hf hc hN I hi ok (hb σ).run hs (tlc_of (x := true) hown (fun _ c d σ' H h => h) a0 p) fun L ce s' m H' I' q hn f => ?_) fun _ s' hq => wpAny_pure (wpAny_pure hq))
    show wpAny _ _ (assign (.Name y py) X.env (.ref L)) _ _ _
    refine wpAny_assign_Name (store_ok2 (v := V.ref L) I' hN hy (.inl hyl) rfl (fun s2 I2 ⟨a, sb, ha⟩ => ?_) (.inr hyl))
    obtain ⟨f0, f1, f2, f3, f4, f5⟩ := f
    have haC : ce.locals ≠ a := by
      rcases ha with z | z
      · rw [z]; exact f1
      · exact fun e => f4 y a z e.symm
    refine ⟨m, hn.sameBut sb haC, fun h3 sb3 => ?_⟩
    exact ⟨_, H', I2.turned (t' := s2.toks) (fun b o hb e => (sb3.2 b hb).trans e) f0 f1 f3 f4 f5, q⟩
end
end KA
set_option Elab.async false
set_option linter.all false
set_option maxRecDepth 100000
set_option maxHeartbeats 1000000
/-! KA11: calls of defs; statements without exceptions' own forms. -/
namespace KA
open PySem PySem.Spec PyProof.Rows L2
section
variable {cl : Str → Option Addr} {K : PySem.W.Frag} {H H' F F' : Hp} {m m' : List Addr} {μ μ' : Store} {W : WX} {σ : L2.St} {Q : VK}
/-- a def's promise -/
def spD (cl : Str → Option Addr) (K : PySem.W.Frag) (g : List D → Store → Out) : Sp := fun vs H Q E => ∃ F m ds μ, Rp cl K H F m μ ∧ RDs K F m ds vs ∧ PostE cl K (fun c d _ H => E c d H) [] H F m Q (g ds μ)
theorem Rp.empty (r : Rp cl K H F m μ) : Rp cl K H F [] [] := ⟨r.sub, rfl, List.nodup_nil, fun _ h => by simp at h, fun i a o h => by simp at h⟩
theorem Stp.unmut (s : Stp H F [] H' F' m') (r : Rp cl K H F m μ) : Stp H F m H' F' m := ⟨s.same, s.new, ⟨[], by simp, by simp⟩, fun a o _ h => s.keep a o (by simp) h, s.some_⟩
theorem Rp.back (r : Rp cl K H F m μ) (r' : Rp cl K H' F' m' μ') (s : Stp H F [] H' F' m') : Rp cl K H' F' m μ := by
  refine ⟨r'.sub, r.len, r.nd, fun a ha => ?_, fun i a o h1 h2 => ?_⟩
  · cases e : F' a with
    | none => rfl
    | some u =>
      rcases s.new a (by rw [e]; exact fun z => nomatch z) with h | h
      · exact absurd (r.out a ha) h
      · exact absurd h (r.there ha)
  · have hH : H' a = H a := by
      cases e : H a with
      | none => exact absurd e (r.there (List.mem_of_getElem? h1))
      | some u => exact s.keep a u (by simp) e
    exact (r.obj i a o h1 h2).step s.same (fun _ _ h => h) hH
theorem pures_mem {ds : List D} {d : D} (h : D.pures ds = true) (hd : d ∈ ds) : d.pure = true := by
  induction ds with
  | nil => cases hd
  | cons x xs ih =>
    simp only [D.pures, Bool.and_eq_true] at h
    rcases List.mem_cons.mp hd with e | e
    · rw [e]; exact h.1
    · exact ih h.2 e
theorem RX.pure {x : Exn} {c : Value} {dct : Option Addr} (m' : List Addr) (p : x.fs.all (fun p => p.2.pure) = true) (r : RX cl K H F m x c dct) : RX cl K H F m' x c dct := by
  obtain ⟨C, h1, h2, h3, h4⟩ := r
  refine ⟨C, h1, h2, h3, fun hne => ?_⟩
  obtain ⟨dd, vs, e1, e2, h5⟩ := h4 hne
  refine ⟨dd, vs, e1, e2, fun f d hf => ?_⟩
  obtain ⟨v, h6, h7⟩ := h5 f d hf
  refine ⟨v, h6, h7.pure m' ?_⟩
  have mem : ∀ {l : List (Str × D)}, l.lookup f = some d → (f, d) ∈ l := fun {l} h => by
    induction l with
    | nil => cases h
    | cons p l ih =>
      obtain ⟨g, y⟩ := p
      simp only [List.lookup] at h
      split at h
      · rename_i hb
        cases h
        rw [eq_of_beq hb]
        exact List.mem_cons_self
      · exact List.mem_cons_of_mem _ (ih h)
  exact List.all_eq_true.mp p _ (mem hf)
theorem MOk.pure {a : Addr} {o : MO} (m' : List Addr) (p : o.pure = true) (h : MOk cl K H F m a o) : MOk cl K H F m' a o := by
  cases o with
  | lst xs => obtain ⟨vs, h1, h2⟩ := h; exact ⟨vs, h1, h2.pure m' p⟩
  | ins C fs =>
    obtain ⟨c, dx, vs, h1, h2, h3⟩ := h
    refine ⟨c, dx, vs, h1, h2, fun f => ?_⟩
    have q := h3 f
    cases e : fs.lookup f with
    | none => rw [e] at q; exact q
    | some d =>
      rw [e] at q
      obtain ⟨v, q1, q2⟩ := q
      refine ⟨v, q1, q2.pure m' ?_⟩
      have mem : ∀ {l : List (Str × D)}, l.lookup f = some d → (f, d) ∈ l := fun {l} h => by
        induction l with
        | nil => cases h
        | cons p l ih =>
          obtain ⟨g, y⟩ := p
          simp only [List.lookup] at h
          split at h
          · rename_i hb
            cases h
            rw [eq_of_beq hb]
            exact List.mem_cons_self
          · exact List.mem_cons_of_mem _ (ih h)
      exact List.all_eq_true.mp p _ (mem e)
/-- the new objects let go -/
theorem Rp.trunc (r : Rp cl K H F m μ) (r' : Rp cl K H' F' m' μ') (s : Stp H F m H' F' m') (p : (μ'.take μ.length).all MO.pure = true) : Rp cl K H' F' m (μ'.take μ.length) ∧ Stp H F m H' F' m := by
  obtain ⟨n, e, hn⟩ := s.pre
  have hl : μ.length ≤ μ'.length := by rw [← r.len, ← r'.len, e]; simp
  refine ⟨⟨r'.sub, by rw [List.length_take, Nat.min_eq_left hl, r.len], r.nd, fun a ha => r'.out a (by rw [e]; exact List.mem_append_left _ ha), fun i a o h1 h2 => ?_⟩, ⟨s.same, s.new, ⟨[], by simp, by simp⟩, s.keep, s.some_⟩⟩
  have hi : i < μ.length := by rw [← r.len]; exact (List.getElem?_eq_some_iff.mp h1).1
  have h3 : μ'[i]? = some o := by rw [List.getElem?_take] at h2; simpa [hi] using h2
  exact (r'.obj i a o (s.at _ _ h1) h3).pure m (List.all_eq_true.mp p o (List.mem_of_getElem? h2))
theorem post_gc {o : Out} (rp : Rp cl K H F m μ) (p : PostE cl K W σ H F m Q (gc μ o)) : PostE cl K W σ H F m Q o := by
  cases o with
  | stuck => exact p
  | ok d μ' =>
    simp only [gc] at p
    split at p
    · rename_i h
      simp only [Bool.and_eq_true] at h
      intro v H' F' m' rp' s rd
      obtain ⟨r2, s2⟩ := rp.trunc rp' s h.2
      exact p v H' F' m r2 s2 (rd.pure m h.1)
    · exact p
  | exc x μ' =>
    simp only [gc] at p
    split at p
    · rename_i h
      simp only [Bool.and_eq_true] at h
      intro c dct H' F' m' rp' s rx
      obtain ⟨r2, s2⟩ := rp.trunc rp' s h.2
      exact p c dct H' F' m r2 s2 (rx.pure m h.1)
    · exact p
/-- a call's outcome is the promise -/
theorem callF_ok {g : List D → Store → Out} {ds : List D} {vs : List V} (rp : Rp cl K H F m μ) (rd : RDs K F m ds vs) (p : PostE cl K W σ H F m Q (callF g ds μ)) : spD cl K g vs H Q (WE W σ) := by
  have plain : ∀ {o : Out}, PostE cl K W σ H F m Q o → PostE cl K (fun c d _ H => WE W σ c d H) [] H F m Q o := fun {o} q => by
    cases o with
    | stuck => exact q
    | ok d μ' => exact q
    | exc x μ' => exact q
  unfold callF at p
  split at p
  · rename_i hp
    cases e : g ds [] with
    | stuck => rw [e] at p; exact p.elim
    | ok d μ' =>
      rw [e] at p
      simp only at p
      split at p
      · rename_i hd
        refine ⟨F, [], ds, [], rp.empty, rd.pure [] hp, ?_⟩
        rw [e]
        intro v H' F' m' rp' s rv
        exact p v H' F' m (rp.back rp' s) (s.unmut rp) (rv.pure m hd)
      · exact ⟨F, m, ds, μ, rp, rd, plain (post_gc rp p)⟩
    | exc x μ' =>
      rw [e] at p
      simp only at p
      split at p
      · rename_i hx
        refine ⟨F, [], ds, [], rp.empty, rd.pure [] hp, ?_⟩
        rw [e]
        intro c dct H' F' m' rp' s rx
        exact p c dct H' F' m (rp.back rp' s) (s.unmut rp) (rx.pure m hx)
      · exact p.elim
  · exact ⟨F, m, ds, μ, rp, rd, plain (post_gc rp p)⟩
end
section
variable {cl : Str → Option Addr} {X : Cx} {W : WX} {e : Expr} {es : List Expr} {fas : DE} {p pos : Pos}
theorem x_call {x : Str} {f : Addr} {k : Nat} {fd : FuncData} {ps : List Str} {g : List D → Store → Out} (Fn : FnOk X.prog X.w X.K X.mg X.base (CXM X.prog X.w) k f fd ps (spD cl X.K g)) (hr : Room k X.A) (hg : Gl X x) (hm : X.mg x = some (.ref f))
    (hk : PySem.W.keepIn X.K (.ref f) = true) (hb : Binds X.K fd ps []) (pm : PassM X W) (ha : P3 cl X W (e :: es) fas) (hdb : (x == ("__debug__" : Str)) = false) (he : starEach (e :: es) X.env = (false, eval e X.env) :: starEach es X.env)
    (hpl : (backTo pos (starEach es X.env)).any (·.1) = false) : P1 cl X W (.Call (.Name x p) (e :: es) [] pos) (fun ρ μ => (fas ρ μ).bind fun y μ => match y with
      | .tup xs => callF g xs μ
      | _ => .stuck) :=
  (pe_callS Fn hr hg hm hk hb (E := WE W) (fun σ => pm σ) ha hdb he hpl).imp fun σ H Q ⟨F, m, ρ, μ, a0, p⟩ => run_args a0 p (fun d μ1 _ h => tup_of (o := .stuck) (g := fun xs μ => callF g xs μ) h) fun vs H1 F1 m1 ds μ1 a1 s1 r1 p1 => callF_ok a1.rp r1 p1
/-! ### statements -/
def PostS (cl : Str → Option Addr) (K : PySem.W.Frag) (W : WX) (Dn : Ends) (H F : Hp) (m : List Addr) : SOut → Prop
  | .stuck => False
  | .nx ρ μ => ∀ σ' H' F' m', At cl K σ' H' F' m' ρ μ → Stp H F m H' F' m' → Dn.nx σ' H'
  | .bk ρ μ => ∀ σ' H' F' m', At cl K σ' H' F' m' ρ μ → Stp H F m H' F' m' → Dn.bk σ' H'
  | .ct ρ μ => ∀ σ' H' F' m', At cl K σ' H' F' m' ρ μ → Stp H F m H' F' m' → Dn.ct σ' H'
  | .rt d μ => ∀ v H' F' m', Rp cl K H' F' m' μ → Stp H F m H' F' m' → RD K F' m' d v → Dn.rt v H'
  | .exc x ρ μ => ∀ c dct σ' H' F' m', At cl K σ' H' F' m' ρ μ → Stp H F m H' F' m' → RX cl K H' F' m' x c dct → W c dct σ' H'
theorem PostS.step {K : PySem.W.Frag} {Dn : Ends} {H F H1 F1 : Hp} {m m1 : List Addr} {o : SOut} (p : PostS cl K W Dn H F m o) (a : Stp H F m H1 F1 m1) : PostS cl K W Dn H1 F1 m1 o := by
  cases o with
  | stuck => exact p
  | nx ρ μ => exact fun σ' H' F' m' x s => p σ' H' F' m' x (a.trans s)
  | bk ρ μ => exact fun σ' H' F' m' x s => p σ' H' F' m' x (a.trans s)
  | ct ρ μ => exact fun σ' H' F' m' x s => p σ' H' F' m' x (a.trans s)
  | rt d μ => exact fun v H' F' m' x s => p v H' F' m' x (a.trans s)
  | exc x ρ μ => exact fun c dct σ' H' F' m' x s => p c dct σ' H' F' m' x (a.trans s)
def TDS (cl : Str → Option Addr) (K : PySem.W.Frag) (W : WX) (f : DS) : TS := fun Dn σ H => ∃ F m ρ μ, At cl K σ H F m ρ μ ∧ PostS cl K W Dn H F m (f ρ μ)
abbrev PSd (cl : Str → Option Addr) (X : Cx) (W : WX) (s : Stmt) (f : DS) : Prop := PS X s (TDS cl X.K W f)
abbrev PSsd (cl : Str → Option Addr) (X : Cx) (W : WX) (s : List Stmt) (f : DS) : Prop := PSs X s (TDS cl X.K W f)
/-- an expression, then a statement's rest -/
theorem run_sbind {K : PySem.W.Frag} {Dn : Ends} {σ : L2.St} {H F : Hp} {m : List Addr} {ρ : Ro} {μ : Store} {R : VK} {f : DE} {g : D → Store → SOut} (a : At cl K σ H F m ρ μ) (p : PostS cl K W Dn H F m ((f ρ μ).sbind ρ g))
    (k : ∀ v H1 F1 m1 d μ1, At cl K σ H1 F1 m1 ρ μ1 → Stp H F m H1 F1 m1 → RD K F1 m1 d v → PostS cl K W Dn H1 F1 m1 (g d μ1) → R v H1) : TD cl K W f σ H R := by
  refine ⟨F, m, ρ, μ, a, ?_⟩
  cases e : f ρ μ with
  | stuck => rw [e] at p; exact p
  | ok d μ1 =>
    rw [e] at p
    have p' : PostS cl K W Dn H F m (g d μ1) := p
    exact fun v H1 F1 m1 rp1 s1 rd1 => k v H1 F1 m1 d μ1 ⟨rp1, a.rs.step s1⟩ s1 rd1 (p'.step s1)
  | exc x μ1 =>
    rw [e] at p
    exact fun c dct H1 F1 m1 rp1 s1 rx1 => p c dct σ H1 F1 m1 ⟨rp1, a.rs.step s1⟩ s1 rx1
theorem run_stest {K : PySem.W.Frag} {Dn : Ends} {σ : L2.St} {H F : Hp} {m : List Addr} {ρ : Ro} {μ : Store} {R : Bool → Hp → Prop} {f : DE} {g : D → Store → SOut} (a : At cl K σ H F m ρ μ) (p : PostS cl K W Dn H F m ((f ρ μ).sbind ρ g)) (ht : ∀ d μ1, g d μ1 ≠ .stuck → ∃ b, truD μ1 d = some b)
    (k : ∀ b H1 F1 m1 d μ1, At cl K σ H1 F1 m1 ρ μ1 → Stp H F m H1 F1 m1 → truD μ1 d = some b → PostS cl K W Dn H1 F1 m1 (g d μ1) → R b H1) : TDT cl K W f σ H R := by
  refine ⟨F, m, ρ, μ, a, ?_⟩
  cases e : f ρ μ with
  | stuck => rw [e] at p; exact p
  | ok d μ1 =>
    rw [e] at p
    have p' : PostS cl K W Dn H F m (g d μ1) := p
    obtain ⟨b, hb⟩ := ht d μ1 (fun z => by rw [z] at p'; exact p')
    exact ⟨b, hb, fun H1 F1 m1 rp1 s1 => k b H1 F1 m1 d μ1 ⟨rp1, a.rs.step s1⟩ s1 hb (p'.step s1)⟩
  | exc x μ1 =>
    rw [e] at p
    exact fun c dct H1 F1 m1 rp1 s1 rx1 => p c dct σ H1 F1 m1 ⟨rp1, a.rs.step s1⟩ s1 rx1
variable {st : Stmt} {sts : List Stmt} {f g : DS} {fa fb fc : DE} {a b c : Expr}
theorem now_nx {K : PySem.W.Frag} {Dn : Ends} {σ : L2.St} {H F : Hp} {m : List Addr} {ρ : Ro} {μ : Store} (a : At cl K σ H F m ρ μ) (p : PostS cl K W Dn H F m (.nx ρ μ)) : Dn.nx σ H := p σ H F m a .refl
theorem ss_nil : PSsd cl X W [] (fun ρ μ => .nx ρ μ) := PSs.imp pss_nil fun Dn σ H ⟨F, m, ρ, μ, a, p⟩ => now_nx a p
theorem ss_cons (h1 : PSd cl X W st f) (h2 : PSsd cl X W sts g) : PSsd cl X W (st :: sts) (fun ρ μ => (f ρ μ).seq g) :=
  (pss_cons h1 h2).imp fun Dn σ H ⟨F, m, ρ, μ, a, p⟩ => by
    refine ⟨F, m, ρ, μ, a, ?_⟩
    dsimp only at p
    cases e : f ρ μ with
    | nx ρ1 μ1 =>
      rw [e] at p
      exact fun σ' H' F' m' x s => ⟨F', m', ρ1, μ1, x, PostS.step p s⟩
    | _ => rw [e] at p; exact p
theorem s_pass : PSd cl X W (.Pass pos) (fun ρ μ => .nx ρ μ) := PS.imp ps_pass fun Dn σ H ⟨F, m, ρ, μ, a, p⟩ => now_nx a p
theorem s_doc {x : Str} {j : Nat} {pos' : Pos} : PSd cl X W (.Expr (.Constant (.str x) j pos) pos') (fun ρ μ => .nx ρ μ) := PS.imp ps_doc fun Dn σ H ⟨F, m, ρ, μ, a, p⟩ => now_nx a p
theorem s_brk : PSd cl X W (.Break pos) (fun ρ μ => .bk ρ μ) := PS.imp ps_break fun Dn σ H ⟨F, m, ρ, μ, a, p⟩ => p σ H F m a .refl
theorem s_cont : PSd cl X W (.Continue pos) (fun ρ μ => .ct ρ μ) := PS.imp ps_continue fun Dn σ H ⟨F, m, ρ, μ, a, p⟩ => p σ H F m a .refl
theorem s_exp (he : P1 cl X W a fa) (hs : swapsWith a none pos.line X.env = pure false) : PSd cl X W (.Expr a pos) (fun ρ μ => (fa ρ μ).sbind ρ fun _ μ => .nx ρ μ) :=
  (ps_expr he hs).imp fun Dn σ H ⟨F, m, ρ, μ, a, p⟩ => run_sbind a p fun v H1 F1 m1 d μ1 a1 s1 r1 p1 => now_nx a1 p1
theorem s_ret (he : P1 cl X W a fa) : PSd cl X W (.Return (some a) pos) (fun ρ μ => (fa ρ μ).sbind ρ fun d μ => .rt d μ) :=
  (ps_ret he).imp fun Dn σ H ⟨F, m, ρ, μ, a, p⟩ => run_sbind a p fun v H1 F1 m1 d μ1 a1 s1 r1 p1 => p1 v H1 F1 m1 a1.rp .refl r1
theorem s_ret0 : PSd cl X W (.Return none pos) (fun _ μ => .rt .non μ) := PS.imp ps_retN fun Dn σ H ⟨F, m, ρ, μ, a, p⟩ => p .non H F m a.rp .refl rd_non
theorem tru_of {μ1 : Store} {d : D} {x y : SOut} (h : (match truD μ1 d with
    | some true => x
    | some false => y
    | none => .stuck) ≠ SOut.stuck) : ∃ b, truD μ1 d = some b := by
  cases e : truD μ1 d with
  | none => rw [e] at h; exact absurd rfl h
  | some b => exact ⟨b, rfl⟩
theorem s_ite {as bs : List Stmt} (hc : P2 cl X W c fc) (ha : PSsd cl X W as f) (hb : PSsd cl X W bs g) : PSd cl X W (.If c as bs pos) (fun ρ μ => (fc ρ μ).sbind ρ fun x μ => match truD μ x with
    | some true => f ρ μ
    | some false => g ρ μ
    | none => .stuck) :=
  (ps_if hc ha hb).imp fun Dn σ H ⟨F, m, ρ, μ, a, p⟩ => by
    refine run_stest a p (fun d μ1 h => tru_of h) fun b H1 F1 m1 d μ1 a1 s1 hb p1 => ?_
    rw [hb] at p1
    cases b with
    | true => exact ⟨F1, m1, ρ, μ1, a1, p1⟩
    | false => exact ⟨F1, m1, ρ, μ1, a1, p1⟩
theorem s_set {tg : Expr} {t : T} (he : P1 cl X W a fa) (hg : PGd cl X tg t) (hs : swapsWithSole [tg] a pos.line X.env = pure false) (hw : swappedStores [tg] a X.env = pure none) (h1 : (assignEach [tg] X.env).map (·.2) = [assign tg X.env]) :
    PSd cl X W (.Assign [tg] a pos) (fun ρ μ => (fa ρ μ).sbind ρ fun d μ => match tgt t d ρ μ with
    | some ρ' => .nx ρ' μ
    | none => .stuck) :=
  (ps_asg he hg hs hw h1).imp fun Dn σ H ⟨F, m, ρ, μ, a, p⟩ => run_sbind a p fun v H1 F1 m1 d μ1 a1 s1 r1 p1 => by
    cases e : tgt t d ρ μ1 with
    | none => rw [e] at p1; exact p1.elim
    | some ρ' => rw [e] at p1; exact ⟨F1, m1, ρ, μ1, d, ρ', a1, r1, e, fun σ' _ a' => p1 σ' H1 F1 m1 a' .refl⟩
/-- name = [..] on one line -/
theorem s_setc {i : Nat} (h : PS X st (tAsg (TD cl X.K W fa) (gName i))) : PSd cl X W st (fun ρ μ => (fa ρ μ).sbind ρ fun d μ => match tgt (.name i) d ρ μ with
    | some ρ' => .nx ρ' μ
    | none => .stuck) :=
  h.imp fun Dn σ H ⟨F, m, ρ, μ, a, p⟩ => run_sbind a p fun v H1 F1 m1 d μ1 a1 s1 r1 p1 => by
    simp only [tgt] at p1
    exact p1 _ H1 F1 m1 ⟨a1.rp, a1.rs.set r1 i⟩ .refl
theorem s_par2 {i j : Nat} {x y : Str} {px py pt : Pos} {kt k2 : Nat} {pt2 : Pos} (hc : X.calm = true) (hN : X.N.Nodup) (hi : X.N[i]? = some x) (hj : X.N[j]? = some y) (hij : i ≠ j)
    (hx : X.env.scope.names.lookup x = some .local) (hy : X.env.scope.names.lookup y = some .local) (ha : P1 cl X W a fa) (hb : P1 cl X W b fb) (hsa : starEach [a, b] X.env = (false, eval a X.env) :: starEach [b] X.env) (hsb : starEach [b] X.env = (false, eval b X.env) :: starEach [] X.env)
    (hw : swappedStores [.Tuple [.Name x px, .Name y py] kt pt] (.Tuple [a, b] k2 pt2) X.env = pure (some [x, y]))
    (hs : swapsWithSole [.Tuple [.Name x px, .Name y py] kt pt] (.Tuple [a, b] k2 pt2) pos.line X.env = pure false) :
    PSd cl X W (.Assign [.Tuple [.Name x px, .Name y py] kt pt] (.Tuple [a, b] k2 pt2) pos) (fun ρ μ => (fa ρ μ).sbind ρ fun x μ => (fb ρ μ).sbind ρ fun y μ => .nx ((ρ.set i (some x)).set j (some y)) μ) :=
  (ps_par hc hN hi hj hij hx hy (pa_cons ha (pa_cons hb pa_nil hsb) hsa) hw hs).imp fun Dn σ H ⟨F, m, ρ, μ, a, p⟩ => run_sbind a p fun v H1 F1 m1 d μ1 a1 s1 r1 p1 => run_sbind a1 p1 fun w H2 F2 m2 d2 μ2 a2 s2 r2 p2 =>
    ⟨v, w, rfl, p2 _ H2 F2 m2 ⟨a2.rp, (a2.rs.set (r1.step s2) i).set r2 j⟩ .refl⟩
theorem s_aug {i : Nat} {x : Str} {pos' : Pos} {o : BO} {op : Operator} {fi : Int → Int → Int} (hop : PIp X op (ipI fi)) (hN : X.N.Nodup) (hi : X.N[i]? = some x) (hx : L2.Loc X.env.scope x) (hf : X.fn x = true ∨ X.env.scope.names.lookup x = some .local) (he : P1 cl X W a fa)
    (ho : ∀ k j : Int, augI o k (.int j) = some (fi k j)) :
    PSd cl X W (.AugAssign (.Name x pos') op a pos) (fun ρ μ => match ρ[i]? with
    | some (some (.int a)) => (fa ρ μ).sbind ρ fun y μ => match augI o a y with
      | some k => .nx (ρ.set i (some (.int k))) μ
      | none => .stuck
    | _ => .stuck) :=
  (ps_aug hN hi hx he hop hf).imp fun Dn σ H ⟨F, m, ρ, μ, a, p⟩ => by
    dsimp only at p
    split at p
    · rename_i k e
      obtain ⟨v, hv, rv⟩ := a.rs.2 i _ e
      simp only [RD] at rv
      subst rv
      refine ⟨.int k, hv, run_sbind a p fun v H1 F1 m1 d μ1 a1 s1 r1 p1 => ?_⟩
      cases d with
      | int j =>
        rw [ho] at p1
        simp only [RD] at r1
        exact ⟨k, j, rfl, r1, p1 _ H1 F1 m1 ⟨a1.rp, a1.rs.set rd_int i⟩ .refl⟩
      | _ => cases o <;> exact p1.elim
    · exact p.elim
/-- o[i] = e -/
def rSetL : TSet := fun o i v H Q => ∃ (a : Addr) (xs : List V) (k : Int) (j : Nat), o = .ref a ∧ i = .int k ∧ H a = some (.lst xs) ∧ ixN xs.length k = some j ∧ Q (upd H a (.lst (xs.set j v)))
theorem s_sub {o i : Expr} {fo fi : DE} {tp : Pos} (hps : PSet X rSetL) (he : P1 cl X W a fa) (ho : P1 cl X W o fo) (hi : P1 cl X W i fi) (hs : swapsWithSole [.Subscript o i tp] a pos.line X.env = pure false) (hw : swappedStores [.Subscript o i tp] a X.env = pure none)
    (h1 : (assignEach [.Subscript o i tp] X.env).map (·.2) = [assign (.Subscript o i tp) X.env])
    (ha : ∀ v, assign (.Subscript o i tp) X.env v = (do
      let ov ← holding [v] (eval o X.env)
      let iv ← holding [v, ov] (eval i X.env)
      standAt tp
      holding [v, ov, iv] (setItem ov iv v)
      release [v, ov, iv] [])) :
    PSd cl X W (.Assign [.Subscript o i tp] a pos) (fun ρ μ => (fa ρ μ).sbind ρ fun d μ => (fo ρ μ).sbind ρ fun x μ => (fi ρ μ).sbind ρ fun y μ => match setD x y d μ with
    | some μ' => .nx ρ μ'
    | none => .stuck) :=
  (ps_asg he (pg_sub ho hi hps ha) hs hw h1).imp fun Dn σ H ⟨F, m, ρ, μ, a, p⟩ => run_sbind a p fun v H1 F1 m1 d μ1 a1 s1 r1 p1 => run_sbind a1 p1 fun ov H2 F2 m2 x μ2 a2 s2 r2 p2 => run_sbind a2 p2 fun iv H3 F3 m3 y μ3 a3 s3 r3 p3 => by
    cases x with
    | loc n =>
      cases y with
      | int k =>
        simp only [setD] at p3
        cases e : μ3[n]? with
        | none => rw [e] at p3; exact p3.elim
        | some mo =>
          cases mo with
          | ins C fs => rw [e] at p3; exact p3.elim
          | lst xs =>
            rw [e] at p3
            simp only at p3
            cases e2 : ixN xs.length k with
            | none => rw [e2] at p3; exact p3.elim
            | some j =>
              rw [e2] at p3
              obtain ⟨b, vs, e3, hb, h3, h4⟩ := a3.rp.lst e (r2.step s3)
              simp only [RD] at r3
              obtain ⟨r4, s4⟩ := a3.rp.write (xs := xs.set j d) (vs := vs.set j v) hb (h4.set j ((r1.step s2).step s3))
              refine ⟨b, vs, k, j, e3, r3, h3, by rw [h4.length]; exact e2, ?_⟩
              exact p3 _ _ _ _ ⟨r4, a3.rs.step s4⟩ s4
      | _ => exact p3.elim
    | _ => cases y <;> exact p3.elim
end
end KA
set_option Elab.async false
set_option linter.all false
set_option maxRecDepth 100000
set_option maxHeartbeats 1000000
/-! KA12: for, while. -/
namespace KA
open PySem PySem.Spec PyProof.Rows L2
section
variable {cl : Str → Option Addr} {X : Cx} {W : WX} {pos : Pos} {tg iter c : Expr} {body : List Stmt} {fw : Ro → Store → WOut} {fc : DE} {fb : DS} {t : T}
theorem s_for (hp : PassesOwn (model X.prog X.w) X.A X.env X.xe) (hc : X.calm = true) (hi : P5 cl X W tg iter fw) (hg : PGd cl X tg t) (hb : PSsd cl X W body fb) (hs : ∀ x, foldedSetIterable iter X.env x = pure x) :
    PSd cl X W (.For tg iter body [] pos) (fun ρ μ => match fw ρ μ with
    | .ok ds chk μ1 => forL chk t fb ds ρ μ1
    | .exc x μ1 => .exc x ρ μ1
    | .stuck => .stuck) :=
  (ps_for hp hc hi hg hb hs).imp fun Dn σ H ⟨F, m, ρ, μ, a0, p⟩ => by
    refine ⟨F, m, ρ, μ, a0, ?_⟩
    dsimp only at p
    cases ef : fw ρ μ with
    | stuck => rw [ef] at p; exact p.elim
    | exc e μ1 => rw [ef] at p; exact fun c dct H1 F1 m1 rp1 s1 rx1 => p c dct σ H1 F1 m1 ⟨rp1, a0.rs.step s1⟩ s1 rx1
    | ok ds chk μ1 =>
      rw [ef] at p
      intro J H1 F1 m1 rp1 s1 sv
      have p1 : PostS cl X.K W Dn H1 F1 m1 (forL chk t fb ds ρ μ1) := PostS.step p s1
      refine ⟨fun i n σ' H' => ∃ F' m' ρ' μ', At cl X.K σ' H' F' m' ρ' μ' ∧ Stp H1 F1 m1 H' F' m' ∧ i ≤ ds.length ∧ n = ds.length - i ∧ PostS cl X.K W Dn H1 F1 m1 (forL chk t fb (ds.drop i) ρ' μ'),
        ⟨ds.length, F1, m1, ρ, μ1, ⟨rp1, a0.rs.step s1⟩, .refl, Nat.zero_le _, by simp, by simpa using p1⟩, ?_⟩
      rintro i n σ2 H2 ⟨F2, m2, ρ2, μ2, a2, s2, hi, hn, p2⟩
      cases hd : ds.drop i with
      | nil =>
        have hi' : i = ds.length := by
          have := congrArg List.length hd
          simp at this
          omega
        rw [hd] at p2
        simp only [forL] at p2
        split at p2
        · rename_i hc
          exact .inl ⟨by rw [hi']; exact sv.stop _ _ _ _ a2.rp s2 hc, p2 σ2 H2 F2 m2 a2 s2⟩
        · exact p2.elim
      | cons d rest =>
        have hget : ds[i]? = some d := by
          have := List.getElem?_drop (xs := ds) (i := i) (j := 0)
          rw [hd] at this
          simpa using this.symm
        have hlt : i < ds.length := (List.getElem?_eq_some_iff.mp hget).1
        have hrest : ds.drop (i + 1) = rest := by
          have := List.drop_drop (l := ds) (i := 1) (j := i)
          rw [hd] at this
          simpa using this.symm
        rw [hd] at p2
        simp only [forL] at p2
        split at p2
        · rename_i hc
          obtain ⟨hgo, hy⟩ := sv.go i d _ _ _ _ hget a2.rp s2 hc
          refine .inr ⟨hgo, fun σ' H' => ∃ F' m' ρ' μ', At cl X.K σ' H' F' m' ρ' μ' ∧ Stp H1 F1 m1 H' F' m' ∧ PostS cl X.K W Dn H1 F1 m1 (forL chk t fb rest ρ' μ'), fun σ' H' ⟨F', m', ρ', μ', q1, q2, q3⟩ => ⟨n - 1, by omega, F', m', ρ', μ', q1, q2, hlt, by omega, by rw [hrest]; exact q3⟩, fun xv H3 hyl => ?_⟩
          obtain ⟨e3, rx⟩ := hy xv H3 hyl
          subst e3
          cases ht : tgt t d ρ2 μ2 with
          | none => rw [ht] at p2; exact p2.elim
          | some ρ3 =>
            rw [ht] at p2
            refine ⟨F2, m2, ρ2, μ2, d, ρ3, a2, rx, ht, fun σ3 _ a3 => ⟨F2, m2, ρ3, μ2, a3, ?_⟩⟩
            simp only at p2
            cases eb : fb ρ3 μ2 with
            | stuck => rw [eb] at p2; exact p2.elim
            | nx ρ4 μ4 => rw [eb] at p2; exact fun σ' H' F' m' a' s' => ⟨F', m', ρ4, μ4, a', s2.trans s', p2⟩
            | ct ρ4 μ4 => rw [eb] at p2; exact fun σ' H' F' m' a' s' => ⟨F', m', ρ4, μ4, a', s2.trans s', p2⟩
            | bk ρ4 μ4 => rw [eb] at p2; exact fun σ' H' F' m' a' s' => p2 σ' H' F' m' a' (s2.trans s')
            | rt d4 μ4 => rw [eb] at p2; exact fun v H' F' m' a' s' rd => p2 v H' F' m' a' (s2.trans s') rd
            | exc x4 ρ4 μ4 => rw [eb] at p2; exact fun c dct σ' H' F' m' a' s' rx => p2 c dct σ' H' F' m' a' (s2.trans s') rx
        · exact p2.elim
theorem s_while {n0 : Nat} (hp : PassesOwn (model X.prog X.w) X.A X.env X.xe) (hc : P2 cl X W c fc) (hb : PSsd cl X W body fb) : PSd cl X W (.While c body [] pos) (whileL fc fb n0) :=
  (ps_while hp hc hb).imp fun Dn σ H ⟨F, m, ρ, μ, a0, p⟩ => by
    refine ⟨fun n σ' H' => ∃ F' m' ρ' μ', At cl X.K σ' H' F' m' ρ' μ' ∧ PostS cl X.K W Dn H' F' m' (whileL fc fb n ρ' μ'), ⟨n0, F, m, ρ, μ, a0, p⟩, ?_⟩
    rintro n σ2 H2 ⟨F2, m2, ρ2, μ2, a2, p2⟩
    cases n with
    | zero => exact p2.elim
    | succ n =>
      simp only [whileL] at p2
      refine run_stest a2 p2 (fun d μ1 h => tru_of h) fun b H3 F3 m3 d μ3 a3 s3 hb p3 => ?_
      rw [hb] at p3
      cases b with
      | false => exact p3 σ2 H3 F3 m3 a3 .refl
      | true =>
        refine ⟨fun σ' H' => ∃ F' m' ρ' μ', At cl X.K σ' H' F' m' ρ' μ' ∧ PostS cl X.K W Dn H' F' m' (whileL fc fb n ρ' μ'), fun σ' H' q => ⟨n, Nat.lt_succ_self _, q⟩, F3, m3, ρ2, μ3, a3, ?_⟩
        simp only at p3
        cases eb : fb ρ2 μ3 with
        | stuck => rw [eb] at p3; exact p3.elim
        | nx ρ4 μ4 => rw [eb] at p3; exact fun σ' H' F' m' a' s' => ⟨F', m', ρ4, μ4, a', PostS.step p3 s'⟩
        | ct ρ4 μ4 => rw [eb] at p3; exact fun σ' H' F' m' a' s' => ⟨F', m', ρ4, μ4, a', PostS.step p3 s'⟩
        | bk ρ4 μ4 => rw [eb] at p3; exact p3
        | rt d4 μ4 => rw [eb] at p3; exact p3
        | exc x4 ρ4 μ4 => rw [eb] at p3; exact p3
end
end KA
set_option Elab.async false
set_option linter.all false
set_option maxRecDepth 100000
set_option maxHeartbeats 2000000
/-! KA13: own error classes: one with a field that its __init__ stores, one without. -/
namespace KA
open PySem PySem.W PySem.Calls PyProof.Rows PySem.HandSPX
/-! ### __init__(self, f): self.f = f -/
def erA (f : Str) (p1 p2 : Pos) : Arguments := { posonlyargs := [], args := [{ arg := "self", annotation := none, pos := p1 }, { arg := f, annotation := none, pos := p2 }], vararg := none, kwonlyargs := [], kw_defaults := [], kwarg := none, defaults := [] }
def erB (f : Str) (q1 q2 q3 q4 : Pos) : List Stmt := [.Assign [.Attribute (.Name "self" q1) f q2] (.Name f q3) q4]
def erS (f : Str) : Scope := { kind := .function, names := [(PySem.Str.ofString "self", .local), (f, .local)], isGenerator := false, isCoroutine := false, more := [] }
/-- what the written part says of the class at C, and of its __init__, at fI -/
structure ErrTxt (K : Frag) (f : Str) (C fI : Addr) : Prop where
  cls : ∃ nm q N bs bm sn sub ab col dd k0 k1 k2 k3 k5, K.lookup C = some (excClassObj nm q C N bs bm true sn sub ab col dd k0 k1 k2 k3 k5 "ValueError.__new__") ∧ refsVE bm = true
  sa : findIn K (.ref C) "__setattr__" = some (some (.builtin "object.__setattr__"))
  ga : findIn K (.ref C) "__getattribute__" = some (some (.builtin "BaseException.__getattribute__"))
  gg : findIn K (.ref C) "__getattr__" = some none
  noN : findIn K (.ref C) f = some none
  iC : findIn K (.ref C) "__init__" = some (some (.ref fI))
  tC : typeIn K (.ref fI) = some (.type "function")
  kC : keepIn K (.ref C) = true
  exC : subIn K (.ref C) (.type "BaseException") = some true
  tyC : typeIn K (.ref C) = some (.type "type")
  hdC : hasDictIn K C = true
  ne : (f == ("self" : Str)) = false
  nd : (f == ("__debug__" : Str)) = false
  bd : ∀ (qn : Str) (body : List Stmt) (sc : Scope) (doc pm : Value) (an : Option Addr) (cdv ct : Value) (p1 p2 : Pos) (a b : Value), bindArgs (fnOf "__init__" qn (erA f p1 p2) body sc .none .none doc pm an cdv ct) ⟨[a, b], []⟩ = pure [(("self" : Str), a), (f, b)]
  fn : ∃ (oc : Value) (od : Option Addr) (doc pm : Value) (an : Option Addr) (cdv ct : Value) (osl : Array (Option Value)) (p1 p2 q1 q2 q3 q4 : Pos) (qn : Str),
    K.lookup fI = some ⟨oc, od, .func (fnOf "__init__" qn (erA f p1 p2) (erB f q1 q2 q3 q4) (erS f) .none .none doc pm an cdv ct), osl⟩ ∧ codeIn K cdv qn = true
theorem one_size (v : Value) : [v].length ≤ sizeLine := by
  rw [sizeLine_eq]
  exact (by decide : 1 ≤ 16777216)
theorem ld_loc {M : Model} {s : Shared} {name : Str} {scope : Scope} {L a : Addr} {cd : Value} {m : Str → Option Value} {x : Str} {pos : Pos} {v : Value} {Q : Value → Shared → Prop} {A : Around} {E : Value → Shared → Prop} (hn : s.heap.Ns L m) (hv : m x = some v) (h : Q v s)
    (hk : scope.kind = .function) (hl : scope.names.lookup x = some .local) (hd : (x == ("__debug__" : Str)) = false) :
    wpAny M A (eval (.Name x pos) (envOfC name scope L a cd)) Q E s := wpAny_Name (wpAny_loadName_local hk hl hn hv h) hd
/-- what __init__ leaves of a fresh exception at x -/
structure InitEnd (h h' : Heap) (x C dx t1 : Addr) (f : Str) (v : Value) : Prop where
  keep : ∀ b o, b ≠ x → h.get? b = some o → h'.get? b = some o
  obj : h'.get? x = some { cls := .ref C, dict := some dx, data := .fields #[.ref t1, .none, .none, .none, .bool false, .none] }
  dbig : h.objs.size ≤ dx
  dne : dx ≠ x
  ns : h'.Ns1 dx (fun y => if y = f then some v else none)
/-- a made exception -/
structure OwnMade (h h' : Heap) (e C d : Addr) (f : Str) (v : Value) : Prop where
  keep : ∀ b o, h.get? b = some o → h'.get? b = some o
  new : h.objs.size ≤ e
  obj : ∃ oe vs, h'.get? e = some oe ∧ oe.cls = .ref C ∧ oe.dict = some d ∧ oe.data = .fields vs ∧ vs[1]? = some .none ∧ 4 < vs.size ∧ vs[2]? = some .none
  dbig : h.objs.size ≤ d
  dne : d ≠ e
  ns : h'.Ns1 d (fun y => if y = f then some v else none)
section
variable {prog : Program} {w : World} {A : Around} {E : Value → Shared → Prop} {R : Result → Shared → Prop} {s : Shared} {K : Frag} {mg : Str → Option Value} {C fI : Addr} {f : Str}
theorem er_init (T : ErrTxt K f C fI) {x t0 : Addr} {v : Value} (X : K.In s.heap) (hlim : s.heap.NoLimit) (hx : s.heap.get? x = some (excO C t0)) (hroom : A.depth < recursionLimit)
    (hq : ∀ h' tk dx, InitEnd s.heap h' x C dx t0 f v → R (.ok (.ret .none)) { s with heap := h', toks := tk }) :
    codeAny (model prog w) A (.call (.ref fI) ⟨[.ref x, v], []⟩) R s := by
  obtain ⟨oc, od, doc, pm, an, cdv, ct, osl, p1, p2, q1, q2, q3, q4, qn, ho, hcd⟩ := T.fn
  obtain ⟨nm, q, N, bs, bm, sn, sub, ab, col, dd, k0, k1, k2, k3, k5, hC, hbm⟩ := T.cls
  have hcl : clsIn K C = some { name := nm, bases := bs, mro := .ref C :: bm, ns := N, qualname := q, hasDict := true, slotNames := sn, subclasses := sub, abstract := ab, collection := col, hasDel := false } := by unfold clsIn; rw [hC] <;> rfl
  have hS : (PySem.Str.ofString "self") = ("self" : Str) := rfl
  have ne : ¬ f = ("self" : Str) := by simpa using T.ne
  have ls : (erS f).names.lookup ("self" : Str) = some .local := by simp [erS, List.lookup, hS]
  have lf : (erS f).names.lookup f = some .local := by simp [erS, List.lookup, hS, T.ne]
  refine Att.call_fn (binds := [("self", .ref x), (f, v)]) X hlim ho hcd hroom (BindsTo.of_eq ?_) ?_ (fun s₁ IC => ?_) rfl rfl rfl
  · exact T.bd ..
  · simp [ls, lf]
  obtain ⟨h₁, tk₁, rfl⟩ := IC.toInCall.same
  have k : ∀ b o, s.heap.get? b = some o → h₁.get? b = some o := IC.toInCall.keep
  have hn := IC.toInCall.ns
  have hxL : s.heap.objs.size ≠ x := Nat.ne_of_gt (Heap.lt_size hx)
  have X₁ : K.In h₁ := X.keeps k
  have hx₁ := k _ _ hx
  show wpAny _ _ (execs _ _) _ _ _
  refine wpAny_execs_cons (plainObj_wpAny_Assign_Attribute ?_)
  refine ld_loc (v := v) hn ?_ (ld_loc (v := .ref x) hn ?_ ?_ rfl ls (by decide)) rfl lf T.nd
  · simp [bindL, Env.kindOf, envOfC, lf, ls]
  · have ne' : ¬ ("self" : Str) = f := fun z => ne z.symm
    simp [bindL, Env.kindOf, envOfC, lf, ls, ne']
  refine set_plain X₁ (ox := excO C t0) (od := none) ⟨hx₁, rfl, rfl, trivial⟩ T.sa ?_
  refine exc_osa X₁ hx₁ hcl (show refsVE (.ref C :: bm) = true from hbm) rfl T.noN (fun h₃ tk₃ dx k₃ dn dne hx₃ hn₃ => ?_)
  show wpAny _ _ (execs _ _) _ _ _
  have z : s.heap.objs.size < h₁.objs.size := hn.lt
  exact wpAny_execs_nil (hq h₃ tk₃ dx ⟨fun b o hb e => k₃ b o hb (k b o e), hx₃, Nat.le_of_lt (Nat.lt_of_lt_of_le z dn), dne, hn₃⟩)
theorem er_made (T : ErrTxt K f C fI) {v : Value} (X : K.In s.heap) (hlim : s.heap.NoLimit) (hroom : A.depth + 1 < recursionLimit)
    (hq : ∀ h' tk e d, OwnMade s.heap h' e C d f v → R (.ok (.ret (.ref e))) { s with heap := h', toks := tk }) :
    codeAny (model prog w) A (.call (.ref C) ⟨[v], []⟩) R s := by
  obtain ⟨nm, q, N, bs, bm, sn, sub, ab, col, dd, k0, k1, k2, k3, k5, hC, hbm⟩ := T.cls
  obtain ⟨hp, g, dr, tk, os⟩ := s
  have k : ∀ b o, hp.get? b = some o → ((hp.push (kdv_tup [v])).push (excO C hp.objs.size)).get? b = some o := fun b o e => Heap.get?_push_of_some _ (Heap.get?_push_of_some _ e)
  have hget : ((hp.push (kdv_tup [v])).push (excO C hp.objs.size)).get? (hp.objs.size + 1) = some (excO C hp.objs.size) := by heap_get
  refine call_own F.excBase_ValueError (fun X => refsVE_contains X bm hbm) (X _ _ hC) (looks_findIn X T.iC) (fun self => bind_fn X self T.tC) (one_size v) ?_
  refine er_init (s := ⟨(hp.push (kdv_tup [v])).push (excO C hp.objs.size), g, dr, tk, os⟩) T (X.keeps k) (hlim.keeps k) hget ?_ fun h' tk' dx ⟨k', hx, dn, dne, hns⟩ => ?_
  · show A.depth + 1 < recursionLimit
    exact hroom
  · have old : ∀ b o, hp.get? b = some o → h'.get? b = some o := fun b o e => k' b o (Nat.ne_of_lt (Nat.lt_succ_of_lt (Heap.lt_size e))) (k b o e)
    have z : hp.objs.size + 1 + 1 ≤ dx := by
      first
        | (simpa only [Heap.size_push] using dn)
        | exact dn
    exact ⟨rfl, hq h' tk' (hp.objs.size + 1) dx ⟨old, Nat.le_succ _, ⟨_, _, hx, rfl, rfl, rfl, rfl, by show (4 : Nat) < 6; decide, rfl⟩, Nat.le_trans (Nat.le_trans (Nat.le_succ _) (Nat.le_succ _)) z, dne, hns⟩⟩
end
end KA
namespace KA
open PySem PySem.Spec PyProof.Rows L2
/-- what the making of an exception leaves: its record has six fields; without a dict its context is None -/
def MkM (X : Cx) (pins : List (Addr × Obj)) (Q : XK) (σ : L2.St) (u : Value) (s' : Shared) : Prop :=
  ∃ (a : Addr) (oe : Obj) (vs : Array Value) (sI : Shared) (H' : Hp) (cls : Value) (d : Option Addr), u = .ref a ∧ Inv X pins σ H' sI ∧ (∀ b o, sI.heap.get? b = some o → s'.heap.get? b = some o) ∧ sI.heap.get? a = none ∧ s'.heap.get? a = some oe ∧
    L2N.Zn cls d oe ∧ oe.data = .fields vs ∧ vs[1]? = some .none ∧ 4 < vs.size ∧ H' a = none ∧ s'.os = sI.os ∧ AllBare s'.gens ∧ Raises X cls ∧ Q cls d H'
def PMkM (X : Cx) (e : Expr) (t : L2.St → Hp → XK → Prop) : Prop :=
  ∀ (pins : List (Addr × Obj)) (s : Shared) (σ : L2.St) (H : Hp) (Q : XK), Inv X pins σ H s → t σ H Q → wpAny (model X.prog X.w) X.A (eval e X.env) (MkM X pins Q σ) X.xe s
section
variable {X : Cx} {C fI : Addr} {f : Str}
theorem relO_one {v : V} {v' : Value} (r : RelV v v') (g : Str) : RelO (List.lookup g [(f, v)]) (if g = f then some v' else none) := by
  by_cases hw : g = f
  · subst hw
    rw [if_pos rfl]
    have q : List.lookup g [(g, v)] = some v := by simp [List.lookup]
    rw [q]; exact r
  · rw [if_neg hw]
    have qw : (g == f) = false := by simpa using hw
    have q2 : List.lookup g [(f, v)] = none := by simp [List.lookup, qw]
    rw [q2]; trivial
/-- C(e), C with a field -/
def tMk1 (C : Addr) (f : Str) (ta : TA) : L2.St → Hp → XK → Prop := fun σ H Q => ta σ H fun vs H1 => ∃ v, vs = [v] ∧ ∀ d, H1 d = none → Q (.ref C) (some d) (upd H1 d (.xd [(f, v)]))
theorem pmk_one {x : Str} {a : Expr} {ta : TA} {p pos : Pos} (T : ErrTxt X.K f C fI) (gC : X.mg x = some (.ref C)) (hr : X.A.depth + 1 < recursionLimit) (ha : PA X [a] ta) (hg : Gl X x) (hdb : (x == ("__debug__" : Str)) = false)
    (he : starEach (a :: []) X.env = (false, eval a X.env) :: starEach [] X.env) : PMkM X (.Call (.Name x p) [a] [] pos) (tMk1 C f ta) := by
  intro pins s σ H Q I h
  refine wpAny_Call_Name_kw (ld_glob I hg gC ?_ hdb)
  refine PySem.W.callWith_K (h₀ := X.base) I.ok.mod.kin T.kC (thn (ha.run pos pins s σ H _ I h) fun us s1 hh => ?_) he rfl
  obtain ⟨vs, H1, I1, r1, v, ev, q1⟩ := hh
  subst ev
  refine ⟨I1.kIn, ?_⟩
  cases r1 with
  | cons rv rn =>
    rename_i v' us'
    cases rn
    show wpAny _ _ (call (.ref C) [v']) _ _ _
    have hlim := I1.nolimit
    obtain ⟨hp, g, dr, tk, os⟩ := s1
    refine wpAny_call (er_made T I1.kIn hlim hr fun h' tk' e d M => ?_)
    show MkM X pins Q σ (.ref e) ⟨h', g, dr, tk', os⟩
    obtain ⟨oe, fv, hoe, hc, hd, hdat, h1, h4, h2⟩ := M.obj
    have hns := M.ns
    obtain ⟨G', g1, g2⟩ := restrict h' fun b => decide (b ≠ e)
    have gk : ∀ b, b ≠ e → G'.get? b = h'.get? b := fun b hb => g1 b (decide_eq_true hb)
    have ge : G'.get? e = none := g2 e (by simp)
    have old : ∀ b o, hp.get? b = some o → G'.get? b = some o := fun b o q => (gk b (Nat.ne_of_lt (Nat.lt_of_lt_of_le (Heap.lt_size q) M.new))).trans (M.keep b o q)
    have ob : ObjOk X.prog X.w (upd H1 d (.xd [(f, v)])) G' d (.xd [(f, v)]) := ⟨_, hns.at (fun o q => (gk d M.dne).trans q), fun g => relO_one rv g⟩
    have J : Inv X pins σ (upd H1 d (.xd [(f, v)])) ⟨G', g, dr, tk', os⟩ := I1.laid (t' := tk') old M.dbig ob
    refine ⟨e, oe, fv, ⟨G', g, dr, tk', os⟩, _, .ref C, some d, rfl, J, fun b o q => ?_, ge, hoe, ⟨hc, hd, fun vs e => by rw [hdat] at e; cases e; exact h2⟩, hdat, h1, h4, ?_, rfl, I1.bare, raises_own T.exC T.tyC, q1 d (I1.hok.fresh M.dbig)⟩
    · by_cases hb : b = e
      · have q' : G'.get? b = some o := q
        rw [hb, ge] at q'; cases q'
      · exact (gk b hb).symm.trans q
    · rw [upd_ne (Ne.symm M.dne)]
      exact I1.hok.fresh M.new
/-- C(), C without an __init__ of its own -/
theorem pmk_zero {x : Str} {bmB : List Value} {B newId initId : String} {p pos : Pos} (F : ExcBaseFacts B newId initId bmB) (q : PySem.W.excIn X.K C bmB newId = true) (gC : X.mg x = some (.ref C)) (kC : PySem.W.keepIn X.K (.ref C) = true) (r : Raises X (.ref C)) (hg : Gl X x)
    (hdb : (x == ("__debug__" : Str)) = false) : PMkM X (.Call (.Name x p) [] [] pos) (fun _ H Q => Q (.ref C) none H) := by
  intro pins s σ H Q I h
  refine wpAny_Call_Name_kw (ld_glob I hg gC ?_ hdb)
  refine PySem.W.callWith_K0 I.kIn kC ?_
  show wpAny _ _ (call (.ref C) []) _ _ _
  obtain ⟨bm, N, nm, qn, bs, hdct, sn, sub, ab, col, dd, k0, k1, k2, k3, k5, mN, hC, hN, hni, T⟩ := exc_obj I.kIn q
  refine wpAny_call_exc_subT F T hC hN hni (fun h' e hm => ?_) (by show 0 ≤ sizeLine; rw [sizeLine_eq]; omega)
  obtain ⟨t, he, _, _⟩ := hm.there
  exact ⟨e, _, _, s, H, .ref C, none, rfl, I, hm.keeps, hm.new, he, ⟨rfl, rfl, fun vs e => by cases e; rfl⟩, rfl, rfl, by show (4 : Nat) < 6; decide, I.hok.gone hm.new, rfl, I.bare, r, h⟩
/-! ### raise -/
theorem ps_raiseM {W : WX} {e : Expr} {t : L2.St → Hp → XK → Prop} {pos : Pos} (hc : X.calm = true) (tk : TakesM X W) (he : PMkM X e t) : PS X (.Raise (some e) none pos) (fun _ σ H => t σ H fun cls d H' => W cls d σ H') := by
  refine ⟨fun pins s σ H D I h => ?_⟩
  show wpAny _ _ (do standAt pos; raiseStmt X.env (some (do let v ← eval e X.env; standAt pos; pure v)) none) _ _ _
  refine wpAny_bind (wpAny_standAt (raise_made (I.ok.hd hc) (wpAny_bind (wpAny_mono (he pins s σ H _ I h) (fun u s1 hu => wpAny_bind (wpAny_standAt (wpAny_pure ?_))) fun _ _ x => x))))
  obtain ⟨a, oe, vs, sI, H', cls, d, rfl, J, k, hne, ha, hz, hd, h1, _, na, os, ag, r, q⟩ := hu
  obtain ⟨r1, r2⟩ := r (model X.prog X.w) s1.heap (J.kIn.keeps k)
  refine ⟨a, oe, vs, cls, rfl, ha, hz.1, hd, h1, r1, r2, ?_⟩
  cases d with
  | none => exact tk.n _ _ (L2N.XE.new J k hne ha hz hd h1 na os ag ⟨q, rfl⟩)
  | some d => exact tk.f _ _ (L2.XE.new J k hne ha hz.zc hd h1 na os ag ⟨q, fun z => nomatch z⟩)
/-- for raise .. from None, in an except suite -/
theorem pmk5_of {e : Expr} {t : L2.St → Hp → XK → Prop} (he : PMkM X e t) : L2H.PMk5 X e t := fun pins s σ H Q I h => thn (he pins s σ H Q I h) fun u s' ⟨a, oe, vs, sI, H', cls, d, e1, J, k, hne, ha, hz, hd, h1, h4, na, os, ag, r, q⟩ =>
  ⟨⟨a, oe, vs, sI, H', cls, d, e1, J, k, hne, ha, hz, hd, h1, na, os, ag, r, q⟩, fun a2 oe2 vs2 e2 ha2 hd2 => by
    rw [e1] at e2; cases e2
    rw [ha] at ha2; cases ha2
    rw [hd] at hd2; cases hd2
    exact h4⟩
end
end KA
set_option Elab.async false
set_option linter.all false
set_option maxRecDepth 100000
set_option maxHeartbeats 2000000
/-! KA14: try, for exceptions of both kinds. -/
namespace KA
open PySem PySem.Spec PyProof.Rows L2 L2H
/-- an exception in the air of X, its object as Z says -/
def XEz (Z : Value → Option Addr → Obj → Prop) (X : Cx) (W : WX) (u : Value) (s' : Shared) : Prop :=
  ∃ (a : Addr) (B : Heap) (sI : Shared) (pins : List (Addr × Obj)) (σ : L2.St) (H : Hp) (cls : Value) (d : Option Addr),
    u = .ref a ∧ Inv X pins σ H sI ∧ (∀ b o, sI.heap.get? b = some o → b ∉ frs X.stack → B.get? b = some o) ∧ sI.heap.UpToSlots s'.heap ∧
      Sky B X.stack a (Z cls d) X.env.locals s'.heap ∧ H a = none ∧ s'.os = sI.os ∧ AllBare s'.gens ∧ W cls d σ H
theorem xez_n {X : Cx} {W : WX} {u : Value} {s' : Shared} (h : XEz L2N.Zn X W u s') : L2N.XE X W u s' := h
theorem xez_c {X : Cx} {W : WX} {u : Value} {s' : Shared} (h : XEz Zc X W u s') : L2.XE X W u s' := h
theorem xen_z {X : Cx} {W : WX} {u : Value} {s' : Shared} (h : L2N.XE X W u s') : XEz L2N.Zn X W u s' := h
theorem xec_z {X : Cx} {W : WX} {u : Value} {s' : Shared} (h : L2.XE X W u s') : XEz Zc X W u s' := h
theorem zc_steady (cls : Value) (d : Option Addr) : PXN.Steady1 (Zc cls d) := fun o v h => ⟨PXN.steady_cls o v h.1, PXN.steady_dict o v h.2⟩
abbrev WF (W : WX) : WX := fun c d σ H => W c d σ H ∧ d ≠ none
abbrev WN (W : WX) : WX := fun c d σ H => W c d σ H ∧ d = none
/-- the clauses -/
inductive HdsM (X : Cx) (W : WX) : List ExceptHandler → List (Value × (Addr → Value → Option Addr → TS)) → Prop
  | nil : HdsM X W [] []
  | cons {x : Str} {c : Value} {ts : Addr → Value → Option Addr → TS} {b₀ : Stmt} {suite : List Stmt} {np pos' : Pos} {hds : List ExceptHandler} {l : List (Value × (Addr → Value → Option Addr → TS))} (hc : Names X x c)
      (hsu : ∀ (a : Addr) (oe : Obj) (cls : Value) (d : Option Addr) (pn : List (Addr × Obj)), Zc cls d oe → (d = none → HotC (suiteX X a ((a, oe) :: pn))) → (∃ vs, oe.data = .fields vs) → L2.Takes (suiteX X a ((a, oe) :: pn)) (WF W) → PSs (suiteX X a ((a, oe) :: pn)) (b₀ :: suite) (ts a cls d)) (r : HdsM X W hds l) :
      HdsM X W (.ExceptHandler (some (.Name x np)) none (b₀ :: suite) pos' :: hds) ((c, ts) :: l)
section
variable {X : Cx} {body : List Stmt} {h₀ : ExceptHandler} {hds : List ExceptHandler} {l : List (Value × (Addr → Value → Option Addr → TS))} {pos : Pos} {tb : WX → TS} {W : WX}
theorem catch_many {Z : Value → Option Addr → Obj → Prop} {κ : Option Addr → Prop} {pins : List (Addr × Obj)} {D : Ends} (hZ : ∀ c d, PXN.Steady1 (Z c d)) (hz : ∀ {c d o}, Z c d o → Zc c d o) (hκ : ∀ {c d o}, κ d → Z c d o → d = none → PXN.CtxN o)
    (tkz : ∀ u s', XEz Z X (fun c d σ H => W c d σ H ∧ κ d) u s' → X.xe u s') (tkf : L2.Takes X (WF W)) (hs : X.stack = X.env :: X.outer) (hf : X.env.frame = some X.env.locals) (hpa : ∀ hd : Option Value, PassesOwnAt (model X.prog X.w) (X.A.mark hd) X.A X.env X.xe) (ok : X.Ok)
    (hh : HdsM X W hds l) {u : Value} {s' : Shared} {xe' : Value → Shared → Prop} (xx : XEz Z (X.tr (X.pn ++ pins) xe') (fun c d σ H => wMany X.K W D l c d σ H ∧ κ d) u s') :
    wpAny (model X.prog X.w) X.A (noteFrame u X.env) (fun _ s₂ => wpAny (model X.prog X.w) X.A (setFlight u none) (fun _ s₃ =>
    wpAny (model X.prog X.w) X.A (handleBy u X.env hds) (SP X pins D) X.xe s₃) X.xe s₂) X.xe s' := by
  have hfr : X.A.frames = some (X.env :: X.outer) := by rw [ok.frames, hs]
  obtain ⟨a, B, sI, pins', σ', H', cls, d, rfl, J', nb, up, sky, na, os, ag, w, kd⟩ := xx
  have J : Inv X pins σ' H' sI := J'.ofTry ok
  have sky' : Sky B (X.env :: X.outer) a (Z cls d) X.env.locals s'.heap := by rw [← hs]; exact sky
  refine L2N.Sky.land (hZ cls d) hfr hf sky' fun h3 fl3 up3 => ?_
  have J3 : Inv X pins σ' H' { s' with heap := h3 } := J.landed nb fl3.1 (up.trans up3) os ag
  obtain ⟨oe3, vs3, he3, hz3, hd3⟩ := fl3.there
  have notFr : ∀ {h : Heap} {o : Obj} {vs : Array Value}, h.FunFrames B (X.env :: X.outer) → h.get? a = some o → o.data = .fields vs → a ∉ frs (X.env :: X.outer) := fun {h o vs} ff e dd hm => by
    obtain ⟨_, o', e', hnf⟩ := ff.mem hm
    rw [e] at e'; cases e'
    exact hnf _ dd
  have nfr := notFr fl3.2.2.1 he3 hd3
  have nL : a ≠ X.env.locals := fun z => nfr (List.mem_filterMap.mpr ⟨X.env, List.mem_cons_self, by rw [hf, z]⟩)
  have nF : a ∉ X.fs := fun hm => by
    obtain ⟨e, he, q⟩ := List.mem_filterMap.mp hm
    exact nfr (List.mem_filterMap.mpr ⟨e, List.mem_cons_of_mem _ he, q⟩)
  have S3 := J3.suite he3 hd3 na nL nF
  have go : ∀ {hds' : List ExceptHandler} {l' : List (Value × (Addr → Value → Option Addr → TS))}, HdsM X W hds' l' → wMany X.K W D l' cls d σ' H' →
      wpAny (model X.prog X.w) X.A (handleBy (.ref a) X.env hds') (SP X pins D) X.xe { s' with heap := h3 } := by
    intro hds' l' hk
    induction hk with
    | nil =>
      intro w
      refine wpAny_handleBy_nil ?_
      obtain ⟨k1, k2, k3, oe, vs, T, oT, ts', he, hz, hd, h1, hr⟩ := id fl3
      unfold PySem.passOn
      refine wpAny_bind (wpAny_field he hd h1 ?_)
      rw [if_neg (show ¬ ((Value.ref T == Value.none) = true) from by simp)]
      have fin : wpAny (model X.prog X.w) X.A (setFlight (.ref a) X.env.frame) (fun _ s4 => wpAny (model X.prog X.w) X.A (throw (.ref a) : Sem Flow) (SP X pins D) X.xe s4) X.xe { s' with heap := h3 } := by
        rw [hf]
        refine HandSPX.setFlight_upZ fl3 fun h4 hh4 up4 => wpAny_throw (tkz _ _ ?_)
        exact ⟨a, B, sI, pins, σ', H', cls, d, rfl, J, nb, (up.trans up3).trans up4, .inr (.inr (by rw [hs]; exact hh4)), na, os, ag, w, kd⟩
      first
        | exact wpAny_bind (wpAny_pure (wpAny_bind fin))
        | exact wpAny_bind fin
    | @cons x c ts b₀ suite np pos' hds2 l2 hc hsu r ih =>
      intro w
      obtain ⟨b, hb1, hyes, hno⟩ := w
      refine wpAny_handleBy_cons (codeAny_handlers_test ?_) (by intro q; cases q)
      have LT : PySem.W.Looks (model X.prog X.w) h3 (typeOf (.ref a)) cls := fun A Q E s k q => wpAny_typeOf_ref (k _ _ he3) (by rw [(hz hz3).1]; exact q)
      have LM := PySem.W.exm_one (M := model X.prog X.w) (J3.kIn) LT hb1
      have test : ∀ {Q : Value → Shared → Prop} {E : Value → Shared → Prop}, Q c { s' with heap := h3 } → wpAny (model X.prog X.w) (X.A.mark (some (.ref a))) (eval (.Name x np) X.env) Q E { s' with heap := h3 } := fun {Q E} q => by
        obtain ⟨hg, hdbg, hm | ⟨hm, hv, hnn⟩⟩ := hc
        · exact ld_glob (X := X.suite a ((a, oe3) :: (X.pn ++ pins))) S3 hg hm q hdbg
        · exact ld_blt (X := X.suite a ((a, oe3) :: (X.pn ++ pins))) S3 hg hm hv q hnn hdbg
      refine test (LM.here ?_)
      cases b with
      | true =>
        refine codeAny_handlers_suite ?_
        refine HandSPX.lands_againZ fl3 fun h4 fl4 up4 => ?_
        have J4 : Inv X pins σ' H' { s' with heap := h4 } := J.landed nb fl4.1 ((up.trans up3).trans up4) os ag
        obtain ⟨oe4, vs4, he4, hz4, hd4⟩ := fl4.there
        have S4 := J4.suite he4 hd4 na nL nF
        have tkS : L2.Takes (suiteX X a ((a, oe4) :: (X.pn ++ pins))) (WF W) := fun u2 s2 x2 => by
          obtain ⟨a2, B2, sI2, pn2, σ2, H2, cls2, d2, e2, I2, nb2, up2, sky2, na2, os2, ag2, w2⟩ := x2
          exact tkf u2 s2 ⟨a2, B2, sI2, pins, σ2, H2, cls2, d2, e2, unsuiteX I2 ok, nb2, up2, sky2, na2, os2, ag2, w2⟩
        have hot : d = none → HotC (suiteX X a ((a, oe4) :: (X.pn ++ pins))) := fun z => ⟨(a, oe4), ⟨rfl, vs4, hd4, hκ kd hz4 z vs4 hd4⟩, List.mem_cons_self⟩
        refine wpAny_mono ((hsu a oe4 cls d (X.pn ++ pins) (hz hz4) hot ⟨_, hd4⟩ tkS).run [] _ _ H' _ (suiteX_of S4) (hyes rfl a na)) (fun f s6 hsp => ?_) (fun e6 s6 z => hpa (some (.ref a)) e6 s6 z)
        cases f with
        | next =>
          obtain ⟨σ6, H6, S6, q6⟩ := hsp
          exact ⟨_, _, unsuiteX S6 ok, q6⟩
        | brk =>
          obtain ⟨σ6, H6, S6, q6⟩ := hsp
          exact ⟨_, _, unsuiteX S6 ok, q6⟩
        | cont =>
          obtain ⟨σ6, H6, S6, q6⟩ := hsp
          exact ⟨_, _, unsuiteX S6 ok, q6⟩
        | ret u =>
          obtain ⟨v6, σ6, H6, S6, r6, q6⟩ := hsp
          exact ⟨_, _, _, unsuiteX S6 ok, r6, q6⟩
      | false =>
        show wpAny _ X.A (handleBy (.ref a) X.env hds2) _ _ _
        exact ih (hno rfl)
  exact go hh w
theorem ps_tryM (hs : X.stack = X.env :: X.outer) (hf : X.env.frame = some X.env.locals) (hpa : ∀ hd : Option Value, PassesOwnAt (model X.prog X.w) (X.A.mark hd) X.A X.env X.xe) (tk : TakesM X W)
    (hb : ∀ (W' : WX) (pn : List (Addr × Obj)) (xe : Value → Shared → Prop), TakesM (X.tr pn xe) W' → PassesOwn (model X.prog X.w) X.A X.env xe → (∀ hd : Option Value, PassesOwnAt (model X.prog X.w) (X.A.mark hd) X.A X.env xe) → PSs (X.tr pn xe) body (tb W'))
    (hh : HdsM X W (h₀ :: hds) l) : PS X (.Try body (h₀ :: hds) [] [] pos) (fun D σ H => tb (wMany X.K W D l) D σ H) := by
  refine ⟨fun pins s σ H D I h => ?_⟩
  have ok := I.ok
  refine wpAny_Try_except ?_
  refine wpAny_mono ((hb (wMany X.K W D l) (X.pn ++ pins) (fun e s₁ => wpAny (model X.prog X.w) X.A (noteFrame e X.env) (fun _ s₂ => wpAny (model X.prog X.w) X.A (setFlight e none) (fun _ s₃ =>
    wpAny (model X.prog X.w) X.A (handleBy e X.env (h₀ :: hds)) (SP X pins D) X.xe s₃) X.xe s₂) X.xe s₁) ⟨fun u s' xx => ?_, fun u s' xx => ?_⟩ PassesOwn.looking (fun hd => PassesOwnAt.looking)).run [] s σ H D (I.toTry _) h) (fun f s1 hsp => ?_) (fun e s1 he => he)
  · exact catch_many (κ := fun d => d = none) (fun c d => L2N.Zn.steady) (fun z => z.zc) (fun _ z _ => z.2.2) (fun u s' x => tk.n u s' (xez_n x)) tk.f hs hf hpa ok hh (xen_z xx)
  · exact catch_many (κ := fun d => d ≠ none) zc_steady (fun z => z) (fun k _ z => absurd z k) (fun u s' x => tk.f u s' (xez_c x)) tk.f hs hf hpa ok hh (xec_z xx)
  · cases f with
    | next =>
      obtain ⟨σ', H', J', q⟩ := hsp
      exact wpAny_execs_nil ⟨σ', H', J'.ofTry ok, q⟩
    | brk =>
      obtain ⟨σ', H', J', q⟩ := hsp
      exact ⟨σ', H', J'.ofTry ok, q⟩
    | cont =>
      obtain ⟨σ', H', J', q⟩ := hsp
      exact ⟨σ', H', J'.ofTry ok, q⟩
    | ret u =>
      obtain ⟨v, σ', H', J', r, q⟩ := hsp
      exact ⟨v, σ', H', J'.ofTry ok, r, q⟩
end
end KA
set_option Elab.async false
set_option linter.all false
set_option maxRecDepth 100000
set_option maxHeartbeats 2000000
/-! KA15: try with a named clause. -/
namespace KA
open PySem PySem.Spec PyProof.Rows L2 L2H
section
variable {X : Cx} {x n : Str} {c : Value} {i : Nat} {body suite : List Stmt} {b₀ : Stmt} {np pos pos' : Pos} {tb : WX → TS} {ts : Addr → Value → Option Addr → TS} {W : WX}
theorem catch_as {Z : Value → Option Addr → Obj → Prop} {κ : Option Addr → Prop} {pins : List (Addr × Obj)} {D : Ends} (hZ : ∀ c d, PXN.Steady1 (Z c d)) (hz : ∀ {c d o}, Z c d o → Zc c d o)
    (tkz : ∀ u s', XEz Z X (fun c d σ H => W c d σ H ∧ κ d) u s' → X.xe u s') (hs : X.stack = X.env :: X.outer) (hf : X.env.frame = some X.env.locals) (ok : X.Ok) (hN : X.N.Nodup) (hi : X.N[i]? = some n) (hln : X.env.kindOf n = some .local) (hc : Names X x c)
    (hsu : ∀ (a : Addr) (oe : Obj) (cls : Value) (d : Option Addr) (pn : List (Addr × Obj)), Zc cls d oe → (∃ vs, oe.data = .fields vs) → PSs (X.suite a ((a, oe) :: pn)) (b₀ :: suite) (ts a cls d))
    {u : Value} {s' : Shared} {xe' : Value → Shared → Prop} (xx : XEz Z (X.tr (X.pn ++ pins) xe') (fun cls d σ H => wAs X.K c i ts W D cls d σ H ∧ κ d) u s') :
    wpAny (model X.prog X.w) X.A (noteFrame u X.env) (fun _ s₂ => wpAny (model X.prog X.w) X.A (setFlight u none) (fun _ s₃ =>
    wpAny (model X.prog X.w) X.A (handleBy u X.env [.ExceptHandler (some (.Name x np)) (some n) (b₀ :: suite) pos']) (SP X pins D) X.xe s₃) X.xe s₂) X.xe s' := by
  have hfr : X.A.frames = some (X.env :: X.outer) := by rw [ok.frames, hs]
  have hloc : L2.Loc X.env.scope n := .inl hln
  obtain ⟨a, B, sI, pins', σ', H', cls, d, rfl, J', nb, up, sky, na, os, ag, ⟨b, hb1, hyes, hno⟩, kd⟩ := xx
  have J : Inv X pins σ' H' sI := J'.ofTry ok
  have sky' : Sky B (X.env :: X.outer) a (Z cls d) X.env.locals s'.heap := by rw [← hs]; exact sky
  refine L2N.Sky.land (hZ cls d) hfr hf sky' fun h3 fl3 up3 => ?_
  have J3 : Inv X pins σ' H' { s' with heap := h3 } := J.landed nb fl3.1 (up.trans up3) os ag
  obtain ⟨oe3, vs3, he3, hz3, hd3⟩ := fl3.there
  have notFr : ∀ {h : Heap} {o : Obj} {vs : Array Value}, h.FunFrames B (X.env :: X.outer) → h.get? a = some o → o.data = .fields vs → a ∉ frs (X.env :: X.outer) := fun {h o vs} ff e dd hm => by
    obtain ⟨_, o', e', hnf⟩ := ff.mem hm
    rw [e] at e'; cases e'
    exact hnf _ dd
  have nfr := notFr fl3.2.2.1 he3 hd3
  have nL : a ≠ X.env.locals := fun z => nfr (List.mem_filterMap.mpr ⟨X.env, List.mem_cons_self, by rw [hf, z]⟩)
  have nF : a ∉ X.fs := fun hm => by
    obtain ⟨e, he, q⟩ := List.mem_filterMap.mp hm
    exact nfr (List.mem_filterMap.mpr ⟨e, List.mem_cons_of_mem _ he, q⟩)
  have S3 := J3.suite he3 hd3 na nL nF
  refine wpAny_handleBy_cons (codeAny_handlers_test ?_) (by intro q; cases q)
  have LT : PySem.W.Looks (model X.prog X.w) h3 (typeOf (.ref a)) cls := fun A Q E s k q => wpAny_typeOf_ref (k _ _ he3) (by rw [(hz hz3).1]; exact q)
  have LM := PySem.W.exm_one (M := model X.prog X.w) (J3.kIn) LT hb1
  have test : ∀ {Q : Value → Shared → Prop} {E : Value → Shared → Prop}, Q c { s' with heap := h3 } → wpAny (model X.prog X.w) (X.A.mark (some (.ref a))) (eval (.Name x np) X.env) Q E { s' with heap := h3 } := fun {Q E} q => by
    obtain ⟨hg, hdbg, hm | ⟨hm, hv, hnn⟩⟩ := hc
    · exact ld_glob (X := X.suite a ((a, oe3) :: (X.pn ++ pins))) S3 hg hm q hdbg
    · exact ld_blt (X := X.suite a ((a, oe3) :: (X.pn ++ pins))) S3 hg hm hv q hnn hdbg
  refine test (LM.here ?_)
  cases b with
  | true =>
    refine codeAny_handlers_suite_as ?_
    refine HandSPX.lands_againZ fl3 fun h4 fl4 up4 => ?_
    have J4 : Inv X pins σ' H' { s' with heap := h4 } := J.landed nb fl4.1 ((up.trans up3).trans up4) os ag
    obtain ⟨oe4, vs4, he4, hz4, hd4⟩ := fl4.there
    have S4 := J4.suite he4 hd4 na nL nF
    refine store_ok (X := X.suite a ((a, oe4) :: (X.pn ++ pins))) (v := .ref a) S4 hN hi hloc rfl (fun s5 S5 => ?_) (.inr hln)
    refine wpAny_mono ((hsu a oe4 cls d (X.pn ++ pins) (hz hz4) ⟨_, hd4⟩).run [] s5 _ H' _ S5 (hyes rfl a na)) (fun f s6 hsp => ?_) (fun _ _ z => False.elim z)
    have end_ : ∀ {σ6 : L2.St} {H6 : Hp} {Q : Shared → Prop}, Inv (X.suite a ((a, oe4) :: (X.pn ++ pins))) [] σ6 H6 s6 → (∀ s7, Inv X pins (σ6.set i none) H6 s7 → Q s7) →
        wpAny (model X.prog X.w) X.A (do bindName X.env n .none; unbindBehindTheSuite X.env n pos') (fun _ s7 => Q s7) X.xe s6 := fun {σ6 H6 Q} S6 hq => gone_ok (S6.unsuite ok) hN hi hln hq
    cases f with
    | next =>
      obtain ⟨σ6, H6, S6, q6⟩ := hsp
      exact end_ S6 fun s7 J7 => ⟨_, _, J7, q6⟩
    | brk =>
      obtain ⟨σ6, H6, S6, q6⟩ := hsp
      exact end_ S6 fun s7 J7 => ⟨_, _, J7, q6⟩
    | cont =>
      obtain ⟨σ6, H6, S6, q6⟩ := hsp
      exact end_ S6 fun s7 J7 => ⟨_, _, J7, q6⟩
    | ret u =>
      obtain ⟨v6, σ6, H6, S6, r6, q6⟩ := hsp
      exact end_ S6 fun s7 J7 => ⟨_, _, _, J7, r6, q6⟩
  | false =>
    show wpAny _ X.A (handleBy (.ref a) X.env []) _ _ _
    refine wpAny_handleBy_nil ?_
    obtain ⟨k1, k2, k3, oe, vs, T, oT, ts', he, hz0, hd, h1, hr⟩ := id fl3
    unfold PySem.passOn
    refine wpAny_bind (wpAny_field he hd h1 ?_)
    rw [if_neg (show ¬ ((Value.ref T == Value.none) = true) from by simp)]
    have fin : wpAny (model X.prog X.w) X.A (setFlight (.ref a) X.env.frame) (fun _ s4 => wpAny (model X.prog X.w) X.A (throw (.ref a) : Sem Flow) (SP X pins D) X.xe s4) X.xe { s' with heap := h3 } := by
      rw [hf]
      refine HandSPX.setFlight_upZ fl3 fun h4 hh4 up4 => wpAny_throw (tkz _ _ ?_)
      exact ⟨a, B, sI, pins, σ', H', cls, d, rfl, J, nb, (up.trans up3).trans up4, .inr (.inr (by rw [hs]; exact hh4)), na, os, ag, hno rfl, kd⟩
    first
      | exact wpAny_bind (wpAny_pure (wpAny_bind fin))
      | exact wpAny_bind fin
theorem ps_try_asM (hs : X.stack = X.env :: X.outer) (hf : X.env.frame = some X.env.locals) (hN : X.N.Nodup) (hi : X.N[i]? = some n) (hln : X.env.kindOf n = some .local) (hc : Names X x c) (tk : TakesM X W)
    (hb : ∀ (W' : WX) (pn : List (Addr × Obj)) (xe : Value → Shared → Prop), TakesM (X.tr pn xe) W' → PassesOwn (model X.prog X.w) X.A X.env xe → (∀ hd : Option Value, PassesOwnAt (model X.prog X.w) (X.A.mark hd) X.A X.env xe) → PSs (X.tr pn xe) body (tb W'))
    (hsu : ∀ (a : Addr) (oe : Obj) (cls : Value) (d : Option Addr) (pn : List (Addr × Obj)), Zc cls d oe → (∃ vs, oe.data = .fields vs) → PSs (X.suite a ((a, oe) :: pn)) (b₀ :: suite) (ts a cls d)) :
    PS X (.Try body [.ExceptHandler (some (.Name x np)) (some n) (b₀ :: suite) pos'] [] [] pos) (fun D σ H => tb (wAs X.K c i ts W D) D σ H) := by
  refine ⟨fun pins s σ H D I h => ?_⟩
  have ok := I.ok
  refine wpAny_Try_except ?_
  refine wpAny_mono ((hb (wAs X.K c i ts W D) (X.pn ++ pins) (fun e s₁ => wpAny (model X.prog X.w) X.A (noteFrame e X.env) (fun _ s₂ => wpAny (model X.prog X.w) X.A (setFlight e none) (fun _ s₃ =>
    wpAny (model X.prog X.w) X.A (handleBy e X.env [.ExceptHandler (some (.Name x np)) (some n) (b₀ :: suite) pos']) (SP X pins D) X.xe s₃) X.xe s₂) X.xe s₁) ⟨fun u s' xx => ?_, fun u s' xx => ?_⟩ PassesOwn.looking (fun hd => PassesOwnAt.looking)).run [] s σ H D (I.toTry _) h) (fun f s1 hsp => ?_) (fun e s1 he => he)
  · exact catch_as (κ := fun d => d = none) (fun c d => L2N.Zn.steady) (fun z => z.zc) (fun u s' x => tk.n u s' (xez_n x)) hs hf ok hN hi hln hc hsu (xen_z xx)
  · exact catch_as (κ := fun d => d ≠ none) zc_steady (fun z => z) (fun u s' x => tk.f u s' (xez_c x)) hs hf ok hN hi hln hc hsu (xec_z xx)
  · cases f with
    | next =>
      obtain ⟨σ', H', J', q⟩ := hsp
      exact wpAny_execs_nil ⟨σ', H', J'.ofTry ok, q⟩
    | brk =>
      obtain ⟨σ', H', J', q⟩ := hsp
      exact ⟨σ', H', J'.ofTry ok, q⟩
    | cont =>
      obtain ⟨σ', H', J', q⟩ := hsp
      exact ⟨σ', H', J'.ofTry ok, q⟩
    | ret u =>
      obtain ⟨v, σ', H', J', r, q⟩ := hsp
      exact ⟨v, σ', H', J'.ofTry ok, r, q⟩
end
end KA
set_option Elab.async false
set_option linter.all false
set_option maxRecDepth 100000
/-! KA16: is the tree the text's? -/
namespace KA
open PySem PySem.Spec PyProof.Rows L2
/-- what the module binds -/
structure Mo where
  fns : List (Str × Nat)
  csts : List (Str × D)
  errs : List (Str × List Str)
  /-- names that it doesn't bind -/
  blts : List Str
  /-- is gcd that of math -/
  gcd : Bool
/-- the scope that runs -/
structure Sc where
  N : List Str
  names : List (Str × NameKind)
  calm : Bool
  top : Bool
def plainN (x : Str) : Bool := !(x == ("__debug__" : Str)) && !(x == ("__classdict__" : Str)) && !(x == ("__name__" : Str))
def Sc.vis (sc : Sc) (x : Str) : Bool := match sc.names.lookup x with
  | some .local => true
  | some .cell => true
  | some .free => true
  | _ => false
def Sc.loc (sc : Sc) (x : Str) : Bool := match sc.names.lookup x with
  | some .local => true
  | some .cell => true
  | _ => false
def Sc.gl (sc : Sc) (x : Str) : Bool := match sc.names.lookup x with
  | some .globalImplicit => true
  | _ => false
/-- the name of a built-in thing -/
def Mo.blt (M : Mo) (sc : Sc) (x y : Str) : Bool := x == y && sc.gl x && M.blts.contains x
def opB : BO → Operator → Bool
  | .add, .Add => true | .sub, .Sub => true | .mul, .Mult => true | .fdiv, .FloorDiv => true | .mod, .Mod => true | .pow, .Pow => true
  | _, _ => false
def opC : CO → CmpOp → Bool
  | .eq, .Eq => true | .ne, .NotEq => true | .lt, .Lt => true | .le, .LtE => true | .gt, .Gt => true | .ge, .GtE => true
  | .is_, .Is => true | .isnot, .IsNot => true | .in_, .In => true | .notin, .NotIn => true
  | _, _ => false
def notStar : Expr → Bool
  | .Starred .. => false
  | _ => true
def notSlice : Expr → Bool
  | .Slice .. => false
  | _ => true
def notSet : Expr → Bool
  | .Set .. => false
  | _ => true
def notComp : Expr → Bool
  | .ListComp .. => false | .SetComp .. => false | .DictComp .. => false
  | _ => true
/-- the receiver of a method -/
def recv : Expr → Bool
  | .Call _ [] [] _ => false
  | _ => true
def bfN : BF → Str
  | .len => "len" | .abs => "abs" | .int => "int" | .str => "str" | .tuple => "tuple" | .list => "list" | .all => "all" | .any => "any" | .gcd => "gcd"
def btN : BT → Str
  | .int => "int" | .bool => "bool" | .str => "str" | .tuple => "tuple"
def bmN : BM → Str
  | .append => "append" | .pop => "pop" | .extend => "extend" | .count => "count" | .index => "index" | .split => "split" | .splitM => "split" | .partition => "partition" | .join => "join"
/-- may it be asked as a test -/
def tst : E → Bool
  | .ite .. => false
  | .not a => tst a
  | .and a b => tst a && tst b
  | .or a b => tst a && tst b
  | .one a => tst a
  | _ => true
/-- the names that a block owns, with their slots -/
def ownP (N : List Str) (own : List Nat) : List (Str × Nat) := own.map fun i => (N[i]?.getD "", i)
def blkOkB (N : List Str) (names : List (Str × NameKind)) (scope : Scope) (own : List Nat) : Bool :=
  decide (scope.kind = .function) && scope.names.all (fun y => decide (scope.names.lookup y.1 = some y.2)) && own.all (fun i => (N[i]?).isSome)
    && scope.names.all (fun y => match y.2 with
      | .free => decide (names.lookup y.1 = some .cell ∨ names.lookup y.1 = some .free)
      | .local => (ownP N own).any (fun p => p.1 == y.1) || !N.contains y.1
      | .cell => (ownP N own).any (fun p => p.1 == y.1) || !N.contains y.1
      | _ => true)
mutual
def lenT : T → Nat
  | .cons _ r => lenT r + 1
  | _ => 0
end
mutual
def okT (sc : Sc) : T → Expr → Bool
  | .name i, e => match e with
    | .Name x _ => sc.N[i]? == some x && sc.loc x
    | _ => false
  | .tup r, e => match e with
    | .Tuple ts _ _ => sc.calm && okTs sc r ts
    | _ => false
  | _, _ => false
def okTs (sc : Sc) : T → List Expr → Bool
  | .nil, ts => ts.isEmpty
  | .cons t r, ts => match ts with
    | e :: es => notStar e && okT sc t e && okTs sc r es
    | [] => false
  | _, _ => false
end
section
variable (M : Mo)
mutual
def okE : Sc → E → Expr → Bool
  | sc, .var i, e => match e with
    | .Name x _ => sc.N[i]? == some x && sc.vis x && plainN x
    | _ => false
  | _, .non, e => match e with
    | .Constant .none _ _ => true
    | _ => false
  | _, .bl b, e => match e with
    | .Constant (.bool c) _ _ => b == c
    | _ => false
  | _, .int b, e => match e with
    | .Constant (.int c) _ _ => b == c
    | _ => false
  | _, .str b, e => match e with
    | .Constant (.str c) _ _ => b == c
    | _ => false
  | sc, .glo y, e => match e with
    | .Name x _ => x == y && sc.gl x && (M.csts.lookup x).isSome && plainN x
    | _ => false
  | sc, .bin o a b, e => match e with
    | .BinOp l op r _ => opB o op && okE sc a l && okE sc b r
    | _ => false
  | sc, .neg a, e => match e with
    | .UnaryOp .USub x _ => okE sc a x
    | _ => false
  | sc, .cmp o a b, e => match e with
    | .Compare l [op] [r] _ => opC o op && okE sc a l && okE sc b r && notSet r
    | _ => false
  | sc, .not a, e => match e with
    | .UnaryOp .Not x _ => okE sc a x
    | _ => false
  | sc, .and a b, e => match e with
    | .BoolOp .And (x :: y :: r) p => okE sc a x && okE sc b (.BoolOp .And (y :: r) p)
    | _ => false
  | sc, .or a b, e => match e with
    | .BoolOp .Or (x :: y :: r) p => okE sc a x && okE sc b (.BoolOp .Or (y :: r) p)
    | _ => false
  | sc, .one a, e => match e with
    | .BoolOp _ [x] _ => okE sc a x
    | _ => false
  | sc, .ite c a b, e => match e with
    | .IfExp t x y _ => tst c && okE sc c t && okE sc a x && okE sc b y
    | _ => false
  | sc, .tup as, e => match e with
    | .Tuple es _ _ => okA sc as es
    | _ => false
  | sc, .lst _ as, e => match e with
    | .List es _ => okA sc as es
    | _ => false
  | sc, .ix a i, e => match e with
    | .Subscript v s _ => notSlice s && okE sc a v && okE sc i s
    | _ => false
  | sc, .sl a lo hi, e => match e with
    | .Subscript v (.Slice (some l) (some h) none _) _ => okE sc a v && okE sc lo l && okE sc hi h
    | _ => false
  | sc, .slf a lo, e => match e with
    | .Subscript v (.Slice (some l) none none _) _ => okE sc a v && okE sc lo l
    | _ => false
  | sc, .slt a hi, e => match e with
    | .Subscript v (.Slice none (some h) none _) _ => okE sc a v && okE sc hi h
    | _ => false
  | sc, .sla a, e => match e with
    | .Subscript v (.Slice none none none _) _ => okE sc a v
    | _ => false
  | sc, .bi f a, e => match e with
    | .Call (.Name x _) [y] [] _ => M.blt sc x (bfN f) && decide (f ≠ .gcd) && (sc.calm || (decide (f ≠ .all) && decide (f ≠ .any))) && notStar y && okE sc a y
    | _ => false
  | sc, .bi2 f a b, e => match e with
    | .Call (.Name x _) [y, z] [] _ => decide (f = .gcd) && x == ("gcd" : Str) && sc.gl x && M.gcd && notStar y && notStar z && okE sc a y && okE sc b z
    | _ => false
  | sc, .isi a t, e => match e with
    | .Call (.Name x _) [y, .Name ty _] [] _ => M.blt sc x "isinstance" && M.blt sc ty (btN t) && notStar y && okE sc a y
    | _ => false
  | sc, .mth0 f o, e => match e with
    | .Call (.Attribute ov m ap) [] [] p => decide (f = .pop) && m == ("pop" : Str) && (ap.endLine == p.line) && recv ov && okE sc o ov
    | _ => false
  | sc, .mth1 f o a, e => match e with
    | .Call (.Attribute ov m ap) [y] [] p => decide (f ≠ .pop) && m == bmN f && (ap.endLine == p.line) && recv ov && notStar y && okE sc o ov && okE sc a y
    | _ => false
  | sc, .call f as, e => match e with
    | .Call (.Name x _) (y :: ys) [] _ => sc.calm && x == f && sc.gl x && plainN x && decide (M.fns.lookup x = some (ys.length + 1)) && okA sc as (y :: ys)
    | _ => false
  | sc, .comp x _ own t src c elt, e => match e with
    | .ListComp el [⟨tg, it, ifs, as⟩] scope _ => sc.calm && (!x || sc.top) && decide (as = 0) && notSet it && blkOkB sc.N sc.names scope own && (tsl t).all (fun i => own.contains i) && okW sc src it
        && okT { sc with names := scope.names, top := false } t tg && okE { sc with names := scope.names, top := false } elt el
        && (match ifs with
          | [] => (match c with
            | .bl true => true
            | _ => false)
          | [i] => tst c && okE { sc with names := scope.names, top := false } c i
          | _ => false)
    | _ => false
  | sc, .fmt a, e => match e with
    | .FormattedValue x k none _ => k == -1 && okE sc a x
    | _ => false
  | sc, .fstr as, e => match e with
    | .JoinedStr (v1 :: v2 :: rest) _ => okA sc as (v1 :: v2 :: rest)
    | _ => false
  | _, _, _ => false
def okA : Sc → E → List Expr → Bool
  | _, .nil, es => es.isEmpty
  | sc, .cons a r, es => match es with
    | e :: es => notStar e && okE sc a e && okA sc r es
    | [] => false
  | _, _, _ => false
def okW : Sc → W → Expr → Bool
  | sc, .it a, e => okE sc a e
  | sc, .range1 a, e => match e with
    | .Call (.Name x _) [y] [] _ => M.blt sc x "range" && notStar y && okE sc a y
    | _ => false
  | sc, .range2 a b, e => match e with
    | .Call (.Name x _) [y, z] [] _ => M.blt sc x "range" && notStar y && notStar z && okE sc a y && okE sc b z
    | _ => false
end
def notRange : Expr → Bool
  | .Call (.Name x _) _ _ _ => !(x == ("range" : Str))
  | _ => true
/-- the suite of 'except C as n' -/
def okHi (n : Str) : HI → Expr → Bool
  | .s x, e => match e with
    | .Constant (.str y) _ _ => x == y
    | _ => false
  | .i x, e => match e with
    | .Constant (.int y) _ _ => x == y
    | _ => false
  | .f x, e => match e with
    | .Attribute (.Name m _) y _ => m == n && x == y
    | _ => false
def okHis (n : Str) : List HI → List Expr → Bool
  | [], es => es.isEmpty
  | h :: hs, es => match es with
    | e :: es => okHi n h e && okHis n hs es
    | [] => false
/-- clauses that return -/
def okHs (sc : Sc) : List (Str × E) → List ExceptHandler → Bool
  | [], hs => hs.isEmpty
  | (C, e) :: r, hs => match hs with
    | .ExceptHandler (some (.Name x _)) none [.Return (some y) _] _ :: hs => x == C && sc.gl x && plainN x && (M.errs.lookup x).isSome && okE M { sc with calm := false, top := false } e y && okHs sc r hs
    | _ => false
/-- name = [..] on one line -/
def setcB (sc : Sc) (i : Nat) (tg e : Expr) : Bool := match tg, e with
  | .Name y py, .ListComp _ _ scope pos => sc.N[i]? == some y && decide (sc.names.lookup y = some .local) && (py.line == pos.line) && !(scope.names.any fun (n, k) => n == y && (k == .local || k == .cell))
  | _, _ => false
/-- no swapped stores: not a tuple of names from a tuple of two or three -/
def noSwap (tg e : Expr) : Bool := match tg, e with
  | .Name .., _ => true
  | .Subscript .., _ => true
  | .Tuple .., .Tuple vs _ _ => vs.all (foldedForSure 8)
  | .Tuple .., _ => true
  | _, _ => false
mutual
def okS : Sc → S → Stmt → Bool
  | sc, .skip, st => match st with
    | .Pass _ => true
    | .Expr (.Constant (.str _) _ _) _ => true
    | _ => false
  | sc, .set t a, st => match st with
    | .Assign [tg] e _ => notStar tg && okT sc t tg && okE M sc a e && ((notComp e && noSwap tg e) || (match t with
        | .name i => setcB sc i tg e
        | _ => false))
    | _ => false
  | sc, .par2 i j a b, st => match st with
    | .Assign [.Tuple [.Name x px, .Name y py] _ _] (.Tuple [v, w] _ _) _ => sc.calm && decide (i ≠ j) && sc.N[i]? == some x && sc.N[j]? == some y && decide (sc.names.lookup x = some .local) && decide (sc.names.lookup y = some .local) && (py.line == px.line)
        && !(x == y) && notStar v && notStar w && !(foldedForSure 8 v && foldedForSure 8 w) && !(constantsAlone 8 v && constantsAlone 8 w) && okE M sc a v && okE M sc b w
    | _ => false
  | sc, .aug i o a, st => match st with
    | .AugAssign (.Name x _) op e _ => sc.N[i]? == some x && sc.loc x && (match o, op with
        | .add, .Add => true
        | .sub, .Sub => true
        | _, _ => false) && okE M sc a e
    | _ => false
  | sc, .sub o i a, st => match st with
    | .Assign [.Subscript ov iv _] e _ => notComp e && notSlice iv && okE M sc o ov && okE M sc i iv && okE M sc a e
    | _ => false
  | sc, .ite c a b, st => match st with
    | .If e as bs _ => tst c && okE M sc c e && okSs sc a as && okSs sc b bs
    | _ => false
  | sc, .for t src b, st => match st with
    | .For tg it body [] _ => sc.calm && sc.top && notSet it && okT sc t tg && okW M sc src it && okSs sc b body
    | _ => false
  | sc, .whil c b, st => match st with
    | .While e body [] _ => sc.top && tst c && okE M sc c e && okSs sc b body
    | _ => false
  | sc, .ret a, st => match st with
    | .Return (some e) _ => okE M sc a e
    | _ => false
  | _, .ret0, st => match st with
    | .Return none _ => true
    | _ => false
  | _, .brk, st => match st with
    | .Break _ => true
    | _ => false
  | _, .cont, st => match st with
    | .Continue _ => true
    | _ => false
  | sc, .exp a, st => match st with
    | .Expr e _ => notComp e && okE M sc a e
    | _ => false
  | sc, .rais C as, st => match st with
    | .Raise (some (.Call (.Name x _) es [] _)) none _ => sc.top && sc.calm && x == C && sc.gl x && plainN x && (match M.errs.lookup x with
        | some [] => es.isEmpty && okA M sc as es
        | some [_] => decide (es.length = 1) && okA M sc as es
        | _ => false)
    | _ => false
  | sc, .trys b hs, st => match st with
    | .Try body (h :: hds) [] [] _ => sc.top && sc.calm && okSs sc b body && okHs M sc hs (h :: hds)
    | _ => false
  | sc, .tryas b C i es, st => match st with
    | .Try body [.ExceptHandler (some (.Name x _)) (some n) [.Return (some (.Tuple xs _ _)) _] _] [] [] _ => sc.top && sc.calm && okSs sc b body && x == C && sc.gl x && plainN x && plainN n && sc.N[i]? == some n && decide (sc.names.lookup n = some .local)
        && (match M.errs.lookup x with
          | some [f] => es.all (fun h => match h with
            | .f y => y == f
            | _ => true)
          | _ => false) && decide (es.length ≤ 1000) && okHis n es xs
    | _ => false
  | sc, .tryr b C C2 as, st => match st with
    | .Try body [.ExceptHandler (some (.Name x _)) none [.Raise (some (.Call (.Name y _) [v] [] _)) (some (.Constant .none _ _)) _] _] [] [] _ => sc.top && sc.calm && okSs sc b body && x == C && sc.gl x && plainN x && (M.errs.lookup x).isSome && y == C2 && sc.gl y && plainN y
        && (match M.errs.lookup y with
          | some [_] => okA M { sc with calm := false, top := false } as [v]
          | _ => false)
    | _ => false
  | _, _, _ => false
def okSs : Sc → S → List Stmt → Bool
  | _, .skip, sts => sts.isEmpty
  | sc, .seq a b, sts => match sts with
    | st :: r => okS sc a st && okSs sc b r
    | [] => false
  | _, _, _ => false
end
end
end KA
set_option Elab.async false
set_option linter.all false
set_option maxRecDepth 100000
set_option maxHeartbeats 4000000
/-! KA17: a tree that is the text's is sound: expressions. -/
namespace KA
open PySem PySem.Spec PyProof.Rows L2 L2H
/-- an error class of the module -/
def Er0 (X : Cx) (C : Str) : Prop := ∃ (A : Addr) (B newId initId : String) (bmB : List Value), X.mg C = some (.ref A) ∧ ExcBaseFacts B newId initId bmB ∧ PySem.W.excIn X.K A bmB newId = true ∧ PySem.W.keepIn X.K (.ref A) = true ∧ Raises X (.ref A)
def Er1 (X : Cx) (C f : Str) : Prop := ∃ (A fI : Addr), X.mg C = some (.ref A) ∧ ErrTxt X.K f A fI
/-- what the module has, as the tables say; k: the level -/
structure MoOk (M : Mo) (Γ : Gm) (k : Nat) (X : Cx) : Prop where
  fns : ∀ x n, M.fns.lookup x = some n → ∃ (f : Addr) (fd : FuncData) (ps : List Str), X.mg x = some (.ref f) ∧ PySem.W.keepIn X.K (.ref f) = true ∧ Binds X.K fd ps [] ∧ FnOk X.prog X.w X.K X.mg X.base (CXM X.prog X.w) k f fd ps (spD (clsAt X.mg) X.K (Γ.fn x))
  csts : ∀ x d, M.csts.lookup x = some d → Γ.cst x = some d ∧ ∃ v u, X.mg x = some u ∧ RelV v u ∧ ∀ F m, RD X.K F m d v
  blts : ∀ x, x ∈ M.blts → X.mg x = none
  gcd : M.gcd = true → X.mg "gcd" = some (.builtin "math.gcd")
  err : ∀ C fs, M.errs.lookup C = some fs → Γ.exf C = some fs ∧ match fs with
    | [] => Er0 X C
    | [f] => Er1 X C f
    | _ => False
  sub : ∀ C D b, Γ.sub C D = some b → ∃ a c, clsAt X.mg C = some a ∧ clsAt X.mg D = some c ∧ PySem.W.exmOne X.K (.ref a) (.ref c) = some b
/-- what runs -/
structure XOk (M : Mo) (Γ : Gm) (k : Nat) (sc : Sc) (X : Cx) (W : WX) : Prop where
  mo : MoOk M Γ k X
  N : X.N = sc.N
  nd : sc.N.Nodup
  kind : X.env.scope.kind = .function
  loc : ∀ x, sc.names.lookup x = some .local → X.env.scope.names.lookup x = some .local
  cell : ∀ x, sc.names.lookup x = some .cell → X.env.scope.names.lookup x = some .cell ∧ X.fn x = true
  free : ∀ x, sc.names.lookup x = some .free → X.env.scope.names.lookup x = some .free ∨ X.env.scope.names.lookup x = some .cell
  glob : ∀ x, sc.names.lookup x = some .globalImplicit → X.env.scope.names.lookup x = some .globalImplicit
  calm : sc.calm = true → X.calm = true ∧ Room k X.A ∧ PassM X W
  top : sc.top = true → TakesM X W ∧ X.stack = X.env :: X.outer ∧ X.env.frame = some X.env.locals ∧ PassesOwn (model X.prog X.w) X.A X.env X.xe ∧ ∀ hd : Option Value, PassesOwnAt (model X.prog X.w) (X.A.mark hd) X.A X.env X.xe
  un : X.A.units + 65 < cLine
  dp : X.A.depth + 1 < recursionLimit
section
variable {M : Mo} {Γ : Gm} {k : Nat} {sc : Sc} {X : Cx} {W : WX}
theorem XOk.vis (o : XOk M Γ k sc X W) {x : Str} (h : sc.vis x = true) : Vis X.env.scope x := by
  unfold Sc.vis at h
  split at h
  · rename_i e; exact .inl (o.loc x e)
  · rename_i e; exact .inr (.inl (o.cell x e).1)
  · rename_i e; exact (o.free x e).elim (fun z => .inr (.inr z)) fun z => .inr (.inl z)
  · cases h
theorem XOk.lc (o : XOk M Γ k sc X W) {x : Str} (h : sc.loc x = true) : L2.Loc X.env.scope x ∧ (X.fn x = true ∨ X.env.scope.names.lookup x = some .local) := by
  unfold Sc.loc at h
  split at h
  · rename_i e; exact ⟨.inl (o.loc x e), .inr (o.loc x e)⟩
  · rename_i e; exact ⟨.inr (o.cell x e).1, .inl (o.cell x e).2⟩
  · cases h
theorem XOk.gl (o : XOk M Γ k sc X W) {x : Str} (h : sc.gl x = true) : Gl X x := by
  unfold Sc.gl at h
  split at h
  · rename_i e; exact o.glob x e
  · cases h
theorem XOk.ix (o : XOk M Γ k sc X W) {i : Nat} {x : Str} (h : (sc.N[i]? == some x) = true) : X.N[i]? = some x := by rw [o.N]; exact eq_of_beq h
theorem XOk.nod (o : XOk M Γ k sc X W) : X.N.Nodup := by rw [o.N]; exact o.nd
theorem XOk.blt (o : XOk M Γ k sc X W) {x y : Str} (h : M.blt sc x y = true) : x = y ∧ Gl X x ∧ X.mg x = none := by
  unfold Mo.blt at h
  simp only [Bool.and_eq_true] at h
  obtain ⟨⟨h1, h2⟩, h3⟩ := h
  exact ⟨eq_of_beq h1, o.gl h2, o.mo.blts x (List.elem_iff.mp h3)⟩
theorem star_each {e : Expr} {es : List Expr} {env : Env} (h : notStar e = true) : starEach (e :: es) env = (false, eval e env) :: starEach es env := by
  cases e <;> first | rfl | cases h
theorem asg_each {e : Expr} {es : List Expr} {env : Env} (h : notStar e = true) : assignEach (e :: es) env = (false, assign e env) :: assignEach es env := by
  cases e <;> first | rfl | cases h
theorem plain_ix {e : Expr} (h : notSlice e = true) : PlainIx e := by
  intro o i
  cases e <;> first | rfl | cases h
theorem marks_no {op : CmpOp} {e : Expr} (h : notSet e = true) : behindInMarks op e = false := by
  cases e <;> first | rfl | cases h
theorem no_set {e : Expr} {env : Env} (h : notSet e = true) : ∀ x, foldedSetIterable e env x = pure x := by
  intro x
  cases e <;> first | rfl | cases h
theorem recv_ok {o : Expr} {n : Str} {env : Env} (h : recv o = true) : attributeBase o n env (eval o env) = eval o env := by
  cases o with
  | Call f as ks p =>
    cases as with
    | cons a r => cases f <;> rfl
    | nil =>
      cases ks with
      | cons a r => cases f <;> rfl
      | nil => cases h
  | _ => rfl
theorem plain_dbg {x : Str} (h : plainN x = true) : (x == ("__debug__" : Str)) = false ∧ (x == ("__classdict__" : Str)) = false ∧ x ≠ "__name__" := by
  unfold plainN at h
  simp only [Bool.and_eq_true, Bool.not_eq_true'] at h
  exact ⟨h.1.1, h.1.2, by simpa using h.2⟩
theorem backTo_plain {p : Pos} : ∀ {es : List Expr} {env : Env}, es.all notStar = true → (backTo p (starEach es env)).any (·.1) = false
  | [], _, _ => rfl
  | e :: es, env, h => by
    simp only [List.all_cons, Bool.and_eq_true] at h
    rw [star_each h.1]
    have ih := backTo_plain (p := p) (env := env) h.2
    simpa [backTo] using ih
theorem okA_star : ∀ {a : E} {es : List Expr}, okA M sc a es = true → es.all notStar = true
  | .nil, es, h => by simp only [okA] at h; cases es <;> simp_all
  | .cons a r, es, h => by
    cases es with
    | nil => simp [okA] at h
    | cons e es =>
      simp only [okA, Bool.and_eq_true] at h
      simp only [List.all_cons, Bool.and_eq_true]
      exact ⟨h.1.1, okA_star h.2⟩
  | .var _, es, h => by simp [okA] at h
  | .non, es, h => by simp [okA] at h
  | .bl _, es, h => by simp [okA] at h
  | .int _, es, h => by simp [okA] at h
  | .str _, es, h => by simp [okA] at h
  | .glo _, es, h => by simp [okA] at h
  | .bin .., es, h => by simp [okA] at h
  | .neg _, es, h => by simp [okA] at h
  | .cmp .., es, h => by simp [okA] at h
  | .not _, es, h => by simp [okA] at h
  | .and .., es, h => by simp [okA] at h
  | .or .., es, h => by simp [okA] at h
  | .ite .., es, h => by simp [okA] at h
  | .tup _, es, h => by simp [okA] at h
  | .lst .., es, h => by simp [okA] at h
  | .ix .., es, h => by simp [okA] at h
  | .sl .., es, h => by simp [okA] at h
  | .slf .., es, h => by simp [okA] at h
  | .slt .., es, h => by simp [okA] at h
  | .sla _, es, h => by simp [okA] at h
  | .bi .., es, h => by simp [okA] at h
  | .bi2 .., es, h => by simp [okA] at h
  | .isi .., es, h => by simp [okA] at h
  | .mth0 .., es, h => by simp [okA] at h
  | .mth1 .., es, h => by simp [okA] at h
  | .call .., es, h => by simp [okA] at h
  | .fld .., es, h => by simp [okA] at h
  | .one _, es, h => by simp [okA] at h
  | .comp .., es, h => by simp [okA] at h
  | .fmt _, es, h => by simp [okA] at h
  | .fstr _, es, h => by simp [okA] at h
/-- the block's context -/
theorem XOk.blk (o : XOk M Γ k sc X W) {scope : Scope} {own : List Nat} (hb : blkOkB sc.N sc.names scope own = true) : BlkOk X.N X.env.scope scope (ownP sc.N own) ∧ (ownP sc.N own).map (·.2) = own := by
  unfold blkOkB at hb
  simp only [Bool.and_eq_true, List.all_eq_true, decide_eq_true_eq] at hb
  obtain ⟨⟨⟨h1, h2⟩, h3⟩, h4⟩ := hb
  refine ⟨⟨h1, fun y hy => h2 y hy, fun p hp => ?_, fun y hy e => ?_, fun y hy e => ?_⟩, ?_⟩
  · obtain ⟨i, hi, rfl⟩ := List.mem_map.mp hp
    have := h3 i hi
    rw [o.N]
    obtain ⟨x, hx⟩ := Option.isSome_iff_exists.mp this
    simp only [hx, Option.getD_some]
  · have := h4 y hy
    rw [e] at this
    simp only [decide_eq_true_eq] at this
    rcases this with z | z
    · exact .inl (o.cell _ z).1
    · exact (o.free _ z).symm
  · have q : ((ownP sc.N own).any (fun p => p.1 == y.1) || !sc.N.contains y.1) = true := by
      have := h4 y hy
      rcases e with e | e <;> (rw [e] at this; exact this)
    rw [Bool.or_eq_true] at q
    rcases q with q | q
    · obtain ⟨p, hp, e2⟩ := List.any_eq_true.mp q
      exact .inl (List.mem_map.mpr ⟨p, hp, eq_of_beq e2⟩)
    · refine .inr fun z => ?_
      rw [o.N] at z
      rw [Bool.not_eq_true'] at q
      have z2 : sc.N.contains y.1 = true := by simpa using z
      rw [z2] at q
      cases q
  · simp [ownP, List.map_map, Function.comp_def]
theorem lookup_rel_free {env : Env} : ∀ {names : List (Str × NameKind)} {x : Str}, names.lookup x = some .free →
    (names.map fun (n, k) => if (k == NameKind.free && env.scope.kind == .function && env.kindOf n == some .cell) then (n, NameKind.cell) else (n, k)).lookup x = some .free ∨
    (names.map fun (n, k) => if (k == NameKind.free && env.scope.kind == .function && env.kindOf n == some .cell) then (n, NameKind.cell) else (n, k)).lookup x = some .cell
  | [], _, h => by simp at h
  | (n, k) :: r, x, h => by
    have ih := @lookup_rel_free env r x
    simp only [List.map_cons]
    by_cases hx : x == n
    · simp only [List.lookup_cons, hx, Option.some.injEq] at h
      subst h
      split <;> simp [List.lookup_cons, hx]
    · have hx' : (x == n) = false := by simpa using hx
      simp only [List.lookup_cons, hx'] at h
      have := ih h
      split <;> simpa [List.lookup_cons, hx'] using this
theorem XOk.inner (o : XOk M Γ k sc X W) {scope : Scope} {X' : Cx} {W' : WX} (hc : sc.calm = true) (hk : scope.kind = .function) (hB : Blk X scope X') (pm : PassM X' W') : XOk M Γ k { sc with names := scope.names, top := false } X' W' ∧ X'.K = X.K := by
  obtain ⟨s, H, C, cs, fp, xe, rfl⟩ := hB
  obtain ⟨c1, c2, c3⟩ := o.calm hc
  refine ⟨⟨⟨o.mo.fns, o.mo.csts, o.mo.blts, o.mo.gcd, o.mo.err, o.mo.sub⟩, o.N, o.nd, hk, fun x h => lookup_relabel_local h, fun x h => ⟨lookup_relS_keep (by decide) h, ?_⟩, fun x h => lookup_rel_free h, fun x h => lookup_relS_keep (by decide) h, fun _ => ⟨c1, c2, pm⟩, fun h => (by cases h), o.un, o.dp⟩, rfl⟩
  show (scope.names.lookup x == some .cell) = true
  have h : scope.names.lookup x = some .cell := h
  rw [h]; rfl
end
end KA
set_option Elab.async false
set_option linter.all false
set_option maxRecDepth 100000
set_option maxHeartbeats 4000000
/-! KA18: expressions are sound. -/
namespace KA
open PySem PySem.Spec PyProof.Rows L2 L2H
structure Snd (X : Cx) (W : WX) (e : Expr) (t : E) (f : DE) : Prop where
  p1 : P1 (clsAt X.mg) X W e f
  p2 : tst t = true → P2 (clsAt X.mg) X W e f
  pw : tst t = true → (∃ op es p, e = .BoolOp op es p) → PW X e (TDT (clsAt X.mg) X.K W f)
section
variable {M : Mo} {Γ : Gm} {k : Nat} {sc : Sc} {X : Cx} {W : WX} {e : Expr} {t : E} {f : DE}
theorem Snd.of (p : P1 (clsAt X.mg) X W e f) (he : ∀ whole, isTrue e X.env whole = (do let v ← whole; standAt e.pos; holding [v] (truthy v))) (hn : ∀ op es p, e ≠ .BoolOp op es p) : Snd X W e t f :=
  ⟨p, fun _ => y_truth p he, fun _ ⟨op, es, q, z⟩ => absurd z (hn op es q)⟩
theorem cop_bl {o : CO} {x y : D} {μ : Store} {d : D} {μ' : Store} (h : cop o x y μ = .ok d μ') : ∃ k, d = .bl k := by
  have okb : ∀ {b : Option Bool} {d : D} {μ μ' : Store}, okB b μ = .ok d μ' → ∃ k, d = .bl k := fun {b d μ μ'} h => by
    cases b with
    | none => cases h
    | some b => cases h; exact ⟨b, rfl⟩
  have ins : ∀ {n : Bool} {x y : D}, inSeq n x y μ = .ok d μ' → ∃ k, d = .bl k := fun {n x y} h => by
    unfold inSeq at h
    split at h
    · split at h
      · cases h; exact ⟨_, rfl⟩
      · split at h
        · cases h; exact ⟨_, rfl⟩
        · cases h
    · cases h
  cases o <;> simp only [cop] at h
  all_goals first
    | exact okb h
    | (split at h
       all_goals first
         | exact ins h
         | (split at h
            all_goals first
              | (injection h with h1 h2; exact ⟨_, h1.symm⟩)
              | exact absurd h (by intro z; cases z))
         | (injection h with h1 h2; exact ⟨_, h1.symm⟩)
         | exact absurd h (by intro z; cases z))
theorem asg_len {env : Env} : ∀ {es : List Expr}, es.all notStar = true → (assignEach es env).length = es.length ∧ (assignEach es env).findIdx? (·.1) = none
  | [], _ => ⟨rfl, rfl⟩
  | a :: r, h => by
    simp only [List.all_cons, Bool.and_eq_true] at h
    obtain ⟨q1, q2⟩ := asg_len (env := env) h.2
    rw [asg_each h.1]
    refine ⟨by simp [q1], ?_⟩
    simp only [List.findIdx?_cons, q2]
    rfl
mutual
theorem okT_sound : ∀ (t : T) {sc : Sc} {X : Cx} {W : WX} {e : Expr}, XOk M Γ k sc X W → okT sc t e = true → PGd (clsAt X.mg) X e t
  | .name i, sc, X, W, e, o, h => by
    simp only [okT] at h
    split at h
    · simp only [Bool.and_eq_true] at h
      obtain ⟨h1, h2⟩ := o.lc h.2
      exact g_name o.nod (o.ix h.1) h1 h2
    · cases h
  | .tup r, sc, X, W, e, o, h => by
    simp only [okT] at h
    split at h
    · simp only [Bool.and_eq_true] at h
      obtain ⟨h1, h2, h3⟩ := okTs_sound r o h.2
      exact g_tup (o.calm h.1).1 h1 (asg_len h3).1 (asg_len h3).2 h2
    · cases h
  | .nil, sc, X, W, e, o, h => by simp [okT] at h
  | .cons t r, sc, X, W, e, o, h => by simp [okT] at h
theorem okTs_sound : ∀ (t : T) {sc : Sc} {X : Cx} {W : WX} {es : List Expr}, XOk M Γ k sc X W → okTs sc t es = true → PGsd (clsAt X.mg) X es t ∧ (∀ ds ρ μ ρ', tgts t ds ρ μ = some ρ' → ds.length = es.length) ∧ es.all notStar = true
  | .name i, sc, X, W, es, o, h => by simp [okTs] at h
  | .tup r, sc, X, W, es, o, h => by simp [okTs] at h
  | .nil, sc, X, W, es, o, h => by
    simp only [okTs] at h
    cases es with
    | nil => exact ⟨g_nil, fun ds ρ μ ρ' q => by cases ds <;> simp [tgts] at q ⊢, rfl⟩
    | cons a r => simp at h
  | .cons t r, sc, X, W, es, o, h => by
    cases es with
    | nil => simp [okTs] at h
    | cons a es =>
      simp only [okTs, Bool.and_eq_true] at h
      obtain ⟨h1, h2, h3⟩ := okTs_sound r o h.2
      refine ⟨g_cons (okT_sound t o h.1.2) h1 (by rw [asg_each h.1.1]; rfl), fun ds ρ μ ρ' q => ?_, by simp [h.1.1, h3]⟩
      cases ds with
      | nil => simp [tgts] at q
      | cons d ds =>
        simp only [tgts] at q
        cases e2 : tgt t d ρ μ with
        | none => rw [e2] at q; cases q
        | some ρ1 => rw [e2] at q; simp [h2 _ _ _ _ q]
end
end
end KA
set_option Elab.async false
set_option linter.all false
set_option maxRecDepth 100000
set_option maxHeartbeats 8000000
/-! KA19: expressions are sound, all forms. -/
namespace KA
open PySem PySem.Spec PyProof.Rows L2 L2H
section
variable {M : Mo} {Γ : Gm} {k : Nat}
theorem bin_ok {X : Cx} {W : WX} {a b : Expr} {fa fb : DE} {pos : Pos} {o : BO} {op : Operator} (h : opB o op = true) (ha : P1 (clsAt X.mg) X W a fa) (hb : P1 (clsAt X.mg) X W b fb) :
    P1 (clsAt X.mg) X W (.BinOp a op b pos) (fun ρ μ => (fa ρ μ).bind fun x μ => (fb ρ μ).bind fun y μ => bop o x y μ) := by
  cases o <;> cases op <;> first | cases h | skip
  · exact x_bin op_addA opd_add ha hb
  · exact x_bin op_sub opd_sub ha hb
  · exact x_bin op_mulA opd_mul ha hb
  · exact x_bin op_divA opd_div ha hb
  · exact x_bin op_modN opd_mod ha hb
  · exact x_bin op_pow opd_pow ha hb
theorem cmp_ok {X : Cx} {W : WX} {a b : Expr} {fa fb : DE} {pos : Pos} {o : CO} {op : CmpOp} {t : E} (hu : X.A.units + 65 < cLine) (h : opC o op = true) (ha : P1 (clsAt X.mg) X W a fa) (hb : P1 (clsAt X.mg) X W b fb) (hm : behindInMarks op b = false) :
    Snd X W (.Compare a [op] [b] pos) t (fun ρ μ => (fa ρ μ).bind fun x μ => (fb ρ μ).bind fun y μ => cop o x y μ) := by
  have go : ∀ {r : R2}, OpR X (compareOp op) r → OpD (clsAt X.mg) X.K r (cop o) → Snd X W (.Compare a [op] [b] pos) t (fun ρ μ => (fa ρ μ).bind fun x μ => (fb ρ μ).bind fun y μ => cop o x y μ) := fun {r} h1 h2 =>
    ⟨x_cmp h1 h2 ha hb hm, fun _ => y_cmp h1 h2 (fun _ _ _ _ _ => cop_bl) ha hb hm, fun _ ⟨_, _, _, z⟩ => nomatch z⟩
  have hu' : X.A.units + 64 < cLine := by omega
  cases o <;> cases op <;> first | cases h | skip
  · exact go (op_eqA hu') opd_eq
  · exact go (op_neA hu') opd_ne
  · exact go op_lt opd_lt
  · exact go op_le opd_le
  · exact go op_gt opd_gt
  · exact go op_ge opd_ge
  · exact go op_isA opd_is
  · exact go op_notA opd_isnot
  · exact go (op_inA hu) opd_in
  · exact go (op_notInA hu) opd_notin
theorem bi_ok {X : Cx} {W : WX} {a : Expr} {fa : DE} {p pos : Pos} {f : BF} (hc : f = .all ∨ f = .any → X.calm = true) (hf : f ≠ .gcd) (hg : Gl X (bfN f)) (hm : X.mg (bfN f) = none) (ha : P1 (clsAt X.mg) X W a fa) (hs : notStar a = true) :
    P1 (clsAt X.mg) X W (.Call (.Name (bfN f) p) [a] [] pos) (fun ρ μ => (fa ρ μ).bind fun x μ => biD f x μ) := by
  cases f with
  | len => exact x_callB cr_lenA cd_len hg hm (by decide +kernel) ha (by decide) (by decide) (star_each hs)
  | abs => exact x_callB call_abs cd_abs hg hm (by decide +kernel) ha (by decide) (by decide) (star_each hs)
  | int => exact x_callTy cr_intA cd_int hg hm (by decide +kernel) ha (by decide) (by decide) (star_each hs)
  | str => exact x_callTy call_str_int cd_str hg hm (by decide +kernel) ha (by decide) (by decide) (star_each hs)
  | tuple => exact x_callTy call_tuple_of cd_tup hg hm (by decide +kernel) ha (by decide) (by decide) (star_each hs)
  | list => exact x_callTy call_list_of cd_lst hg hm (by decide +kernel) ha (by decide) (by decide) (star_each hs)
  | all => exact x_callB (cr_all (hc (.inl rfl))) cd_all hg hm (by decide +kernel) ha (by decide) (by decide) (star_each hs)
  | any => exact x_callB (cr_any (hc (.inr rfl))) cd_any hg hm (by decide +kernel) ha (by decide) (by decide) (star_each hs)
  | gcd => exact absurd rfl hf
theorem isi_okE {X : Cx} {W : WX} {a : Expr} {fa : DE} {p p3 pos : Pos} {t : BT} (hg : Gl X "isinstance") (hm : X.mg "isinstance" = none) (hg2 : Gl X (btN t)) (hm2 : X.mg (btN t) = none) (ha : P1 (clsAt X.mg) X W a fa) (hs : notStar a = true) :
    P1 (clsAt X.mg) X W (.Call (.Name "isinstance" p) [a, .Name (btN t) p3] [] pos) (fun ρ μ => (fa ρ μ).bind fun x μ => okB (isiD x t) μ) := by
  cases t with
  | int => exact x_isi (t := .int) hg hm (by decide +kernel) ha (by decide) (by decide) (star_each hs) hg2 hm2 (by decide +kernel) (by decide) (by decide)
  | bool => exact x_isi (t := .bool) hg hm (by decide +kernel) ha (by decide) (by decide) (star_each hs) hg2 hm2 (by decide +kernel) (by decide) (by decide)
  | str => exact x_isi (t := .str) hg hm (by decide +kernel) ha (by decide) (by decide) (star_each hs) hg2 hm2 (by decide +kernel) (by decide) (by decide)
  | tuple => exact x_isi (t := .tuple) hg hm (by decide +kernel) ha (by decide) (by decide) (star_each hs) hg2 hm2 (by decide +kernel) (by decide) (by decide)
theorem m1_ok {X : Cx} {W : WX} {o a : Expr} {fo fa : DE} {apos pos : Pos} {f : BM} (hf : f ≠ .pop) (ho : P1 (clsAt X.mg) X W o fo) (ha : P1 (clsAt X.mg) X W a fa) (hr : recv o = true) (hl : (apos.endLine == pos.line) = true) (hs : notStar a = true) :
    P1 (clsAt X.mg) X W (.Call (.Attribute o (bmN f) apos) [a] [] pos) (fun ρ μ => (fo ρ μ).bind fun x μ => if rcvD f x μ then (fa ρ μ).bind fun y μ => mth1D f x y μ else .stuck) := by
  have few : ((backTo pos (starEach [a] X.env)).all (fun x => !x.1) && (backToKw pos (keywordEach [] X.env)).all (fun x => x.1.isSome) && decide ([a].length + ([] : List Keyword).length + (if ([] : List Keyword).isEmpty then 0 else 1) < 30)) = true := by
    rw [star_each hs]; rfl
  have hs1 : starEach [a] X.env = [(false, eval a X.env)] := star_each hs
  cases f with
  | append => exact x_lm (.inl rfl) F.slot_list_append F.type_list_append mt_append md_append ho ha (recv_ok hr) few hl (star_each hs)
  | pop => exact absurd rfl hf
  | extend => exact x_lm (.inr (.inl rfl)) F.slot_list_extend F.type_list_extend mt_extR md_extend ho ha (recv_ok hr) few hl (star_each hs)
  | count => exact x_lm (.inr (.inr (.inl rfl))) F.slot_list_count F.type_list_count mt_cntS md_count ho ha (recv_ok hr) few hl (star_each hs)
  | index => exact x_lm (.inr (.inr (.inr rfl))) F.slot_list_index F.type_list_index mt_index md_index ho ha (recv_ok hr) few hl (star_each hs)
  | split => exact x_sm (.inl rfl) F.slot_str_split F.type_str_split mt_split md_split ho ha hs1 (recv_ok hr) hl
  | splitM => exact x_sm (.inr (.inl rfl)) F.slot_str_split F.type_str_split mt_split md_splitM ho ha hs1 (recv_ok hr) hl
  | partition => exact x_sm (.inr (.inr (.inl rfl))) F.slot_str_partition F.type_str_partition mt_partition md_part ho ha hs1 (recv_ok hr) hl
  | join => exact x_sm (.inr (.inr (.inr rfl))) F.slot_str_join F.type_str_join mt_join md_join ho ha hs1 (recv_ok hr) hl
end
end KA
set_option Elab.async false
set_option linter.all false
set_option maxRecDepth 100000
set_option maxHeartbeats 16000000
/-! KA20: expressions are sound: the induction. -/
namespace KA
open PySem PySem.Spec PyProof.Rows L2 L2H
section
variable {M : Mo} {Γ : Gm} {k : Nat}
theorem bin_tup {X : Cx} {W : WX} {es : List Expr} {fa : DE} {j : Nat} {pos : Pos} (h : P3 (clsAt X.mg) X W es fa) : P1 (clsAt X.mg) X W (.Tuple es j pos) (fun ρ μ => (fa ρ μ).bind fun y μ => match y with
    | .tup xs => if xs.length ≤ sizeLine then .ok (.tup xs) μ else .stuck
    | _ => .stuck) := x_tup h
mutual
theorem snd_E : ∀ (t : E) {sc : Sc} {X : Cx} {W : WX} {e : Expr}, XOk M Γ k sc X W → okE M sc t e = true → Snd X W e t (ev Γ t)
  | .var i, sc, X, W, e, o, h => by
    simp only [okE] at h
    split at h
    · simp only [Bool.and_eq_true] at h
      obtain ⟨⟨h1, h2⟩, h3⟩ := h
      obtain ⟨d1, d2, _⟩ := plain_dbg h3
      exact Snd.of (x_var (o.ix h1) (o.vis h2) d1 d2) (fun _ => rfl) (fun _ _ _ z => nomatch z)
    · cases h
  | .non, sc, X, W, e, o, h => by
    simp only [okE] at h
    split at h
    · exact Snd.of x_non (fun _ => rfl) (fun _ _ _ z => nomatch z)
    · cases h
  | .bl b, sc, X, W, e, o, h => by
    simp only [okE] at h
    split at h
    · rw [eq_of_beq h]; exact Snd.of x_bl (fun _ => rfl) (fun _ _ _ z => nomatch z)
    · cases h
  | .int b, sc, X, W, e, o, h => by
    simp only [okE] at h
    split at h
    · rw [eq_of_beq h]; exact Snd.of x_int (fun _ => rfl) (fun _ _ _ z => nomatch z)
    · cases h
  | .str b, sc, X, W, e, o, h => by
    simp only [okE] at h
    split at h
    · rw [eq_of_beq h]; exact Snd.of x_str (fun _ => rfl) (fun _ _ _ z => nomatch z)
    · cases h
  | .glo y, sc, X, W, e, o, h => by
    simp only [okE] at h
    split at h
    · rename_i x p
      simp only [Bool.and_eq_true] at h
      obtain ⟨⟨⟨h1, h2⟩, h3⟩, h4⟩ := h
      obtain ⟨d1, d2, _⟩ := plain_dbg h4
      obtain ⟨d, hd⟩ := Option.isSome_iff_exists.mp h3
      obtain ⟨e1, v, u, hm, r, rd⟩ := o.mo.csts x d hd
      have hx : x = y := eq_of_beq h1
      subst hx
      have q := x_glo (cl := clsAt X.mg) (W := W) (pos := p) (o.gl h2) hm r rd d1
      have q2 : P1 (clsAt X.mg) X W (.Name x p) (ev Γ (.glo x)) := by
        have e2 : ev Γ (.glo x) = fun _ μ => .ok d μ := by
          funext ρ μ; simp only [ev, e1]
        rw [e2]; exact q
      exact Snd.of q2 (fun _ => rfl) (fun _ _ _ z => nomatch z)
    · cases h
  | .bin op a b, sc, X, W, e, o, h => by
    simp only [okE] at h
    split at h
    · simp only [Bool.and_eq_true] at h
      exact Snd.of (bin_ok h.1.1 (snd_E a o h.1.2).p1 (snd_E b o h.2).p1) (fun _ => rfl) (fun _ _ _ z => nomatch z)
    · cases h
  | .neg a, sc, X, W, e, o, h => by
    simp only [okE] at h
    split at h
    · exact Snd.of (x_neg (snd_E a o h).p1) (fun _ => rfl) (fun _ _ _ z => nomatch z)
    · cases h
  | .cmp op a b, sc, X, W, e, o, h => by
    simp only [okE] at h
    split at h
    · simp only [Bool.and_eq_true] at h
      exact cmp_ok o.un h.1.1.1 (snd_E a o h.1.1.2).p1 (snd_E b o h.1.2).p1 (marks_no h.2)
    · cases h
  | .not a, sc, X, W, e, o, h => by
    simp only [okE] at h
    split at h
    · have s := snd_E a o h
      exact ⟨x_not s.p1, fun ht => y_not (s.p2 ht), fun _ ⟨_, _, _, z⟩ => nomatch z⟩
    · cases h
  | .and a b, sc, X, W, e, o, h => by
    simp only [okE] at h
    split at h
    · simp only [Bool.and_eq_true] at h
      have sa := snd_E a o h.1
      have sb := snd_E b o h.2
      have pw : tst (.and a b) = true → PW X _ (TDT (clsAt X.mg) X.K W (ev Γ (.and a b))) := fun ht => by
        simp only [tst, Bool.and_eq_true] at ht
        exact y_and (sa.p2 ht.1) (sb.pw ht.2 ⟨_, _, _, rfl⟩)
      exact ⟨x_and sa.p1 sb.p1, fun ht => (pw ht).pt, fun ht _ => pw ht⟩
    · cases h
  | .or a b, sc, X, W, e, o, h => by
    simp only [okE] at h
    split at h
    · simp only [Bool.and_eq_true] at h
      have sa := snd_E a o h.1
      have sb := snd_E b o h.2
      have pw : tst (.or a b) = true → PW X _ (TDT (clsAt X.mg) X.K W (ev Γ (.or a b))) := fun ht => by
        simp only [tst, Bool.and_eq_true] at ht
        exact y_or (sa.p2 ht.1) (sb.pw ht.2 ⟨_, _, _, rfl⟩)
      exact ⟨x_or sa.p1 sb.p1, fun ht => (pw ht).pt, fun ht _ => pw ht⟩
    · cases h
  | .one a, sc, X, W, e, o, h => by
    simp only [okE] at h
    split at h
    · rename_i op x p
      have s := snd_E a o h
      have pw : tst (.one a) = true → PW X (.BoolOp op [x] p) (TDT (clsAt X.mg) X.K W (ev Γ (.one a))) := fun ht => by
        have p2 := s.p2 (by simpa [tst] using ht)
        cases op with
        | And => exact pw_and1 p2
        | Or => exact pw_or1 p2
      exact ⟨x_one s.p1, fun ht => (pw ht).pt, fun ht _ => pw ht⟩
    · cases h
  | .ite c a b, sc, X, W, e, o, h => by
    simp only [okE] at h
    split at h
    · simp only [Bool.and_eq_true] at h
      exact ⟨x_ite ((snd_E c o h.1.1.2).p2 h.1.1.1) (snd_E a o h.1.2).p1 (snd_E b o h.2).p1, fun z => by simp [tst] at z, fun z => by simp [tst] at z⟩
    · cases h
  | .nil, sc, X, W, e, o, h => by simp [okE] at h
  | .cons a r, sc, X, W, e, o, h => by simp [okE] at h
  | .tup as, sc, X, W, e, o, h => by
    simp only [okE] at h
    split at h
    · exact Snd.of (x_tup (snd_A as o h)) (fun _ => rfl) (fun _ _ _ z => nomatch z)
    · cases h
  | .lst m as, sc, X, W, e, o, h => by
    simp only [okE] at h
    split at h
    · exact Snd.of (x_lst (snd_A as o h)) (fun _ => rfl) (fun _ _ _ z => nomatch z)
    · cases h
  | .ix a i, sc, X, W, e, o, h => by
    simp only [okE] at h
    split at h
    · simp only [Bool.and_eq_true] at h
      exact Snd.of (x_ix (snd_E a o h.1.2).p1 (snd_E i o h.2).p1 (plain_ix h.1.1)) (fun _ => rfl) (fun _ _ _ z => nomatch z)
    · cases h
  | .sl a lo hi, sc, X, W, e, o, h => by
    simp only [okE] at h
    split at h
    · simp only [Bool.and_eq_true] at h
      exact Snd.of (x_sl (snd_E a o h.1.1).p1 (snd_E lo o h.1.2).p1 (snd_E hi o h.2).p1) (fun _ => rfl) (fun _ _ _ z => nomatch z)
    · cases h
  | .slf a lo, sc, X, W, e, o, h => by
    simp only [okE] at h
    split at h
    · simp only [Bool.and_eq_true] at h
      exact Snd.of (x_slf (snd_E a o h.1).p1 (snd_E lo o h.2).p1) (fun _ => rfl) (fun _ _ _ z => nomatch z)
    · cases h
  | .slt a hi, sc, X, W, e, o, h => by
    simp only [okE] at h
    split at h
    · simp only [Bool.and_eq_true] at h
      exact Snd.of (x_slt (snd_E a o h.1).p1 (snd_E hi o h.2).p1) (fun _ => rfl) (fun _ _ _ z => nomatch z)
    · cases h
  | .sla a, sc, X, W, e, o, h => by
    simp only [okE] at h
    split at h
    · exact Snd.of (x_sla (snd_E a o h).p1) (fun _ => rfl) (fun _ _ _ z => nomatch z)
    · cases h
  | .bi f a, sc, X, W, e, o, h => by
    simp only [okE] at h
    split at h
    · simp only [Bool.and_eq_true, decide_eq_true_eq] at h
      obtain ⟨⟨⟨⟨h1, h2⟩, h3⟩, h4⟩, h5⟩ := h
      obtain ⟨hx, hg, hm⟩ := o.blt h1
      subst hx
      exact Snd.of (bi_ok (fun z => by
        rw [Bool.or_eq_true] at h3
        rcases h3 with h3 | h3
        · exact (o.calm h3).1
        · simp only [Bool.and_eq_true, decide_eq_true_eq] at h3
          rcases z with z | z
          · exact absurd z h3.1
          · exact absurd z h3.2) h2 hg hm (snd_E a o h5).p1 h4) (fun _ => rfl) (fun _ _ _ z => nomatch z)
    · cases h
  | .bi2 f a b, sc, X, W, e, o, h => by
    simp only [okE] at h
    split at h
    · simp only [Bool.and_eq_true, decide_eq_true_eq] at h
      obtain ⟨⟨⟨⟨⟨⟨⟨h1, h2⟩, h3⟩, h4⟩, h5⟩, h6⟩, h7⟩, h8⟩ := h
      have hx := eq_of_beq h2
      subst hx
      subst h1
      exact Snd.of (x_gcd (o.gl h3) (o.mo.gcd h4) (snd_E a o h7).p1 (snd_E b o h8).p1 (by decide) (star_each h5) (star_each h6) (backTo_plain (by simp [h6]))) (fun _ => rfl) (fun _ _ _ z => nomatch z)
    · cases h
  | .isi a t, sc, X, W, e, o, h => by
    simp only [okE] at h
    split at h
    · simp only [Bool.and_eq_true] at h
      obtain ⟨⟨⟨h1, h2⟩, h3⟩, h4⟩ := h
      obtain ⟨hx, hg, hm⟩ := o.blt h1
      obtain ⟨hy, hg2, hm2⟩ := o.blt h2
      subst hx
      subst hy
      exact Snd.of (isi_okE hg hm hg2 hm2 (snd_E a o h4).p1 h3) (fun _ => rfl) (fun _ _ _ z => nomatch z)
    · cases h
  | .mth0 f ov, sc, X, W, e, o, h => by
    simp only [okE] at h
    split at h
    · simp only [Bool.and_eq_true, decide_eq_true_eq] at h
      obtain ⟨⟨⟨⟨h1, h2⟩, h3⟩, h4⟩, h5⟩ := h
      have hx := eq_of_beq h2
      subst hx
      subst h1
      exact Snd.of (x_lpop (snd_E ov o h5).p1 (recv_ok h4) h3) (fun _ => rfl) (fun _ _ _ z => nomatch z)
    · cases h
  | .mth1 f ov a, sc, X, W, e, o, h => by
    simp only [okE] at h
    split at h
    · simp only [Bool.and_eq_true, decide_eq_true_eq] at h
      obtain ⟨⟨⟨⟨⟨⟨h1, h2⟩, h3⟩, h4⟩, h5⟩, h6⟩, h7⟩ := h
      have hx := eq_of_beq h2
      subst hx
      exact Snd.of (m1_ok h1 (snd_E ov o h6).p1 (snd_E a o h7).p1 h4 h3 h5) (fun _ => rfl) (fun _ _ _ z => nomatch z)
    · cases h
  | .call f as, sc, X, W, e, o, h => by
    simp only [okE] at h
    split at h
    · simp only [Bool.and_eq_true, decide_eq_true_eq] at h
      obtain ⟨⟨⟨⟨⟨h1, h2⟩, h3⟩, h4⟩, h5⟩, h6⟩ := h
      have hx := eq_of_beq h2
      subst hx
      obtain ⟨fa, fd, ps, hm, hk, hb, Fn⟩ := o.mo.fns _ _ h5
      obtain ⟨c1, c2, c3⟩ := o.calm h1
      have hst := okA_star h6
      simp only [List.all_cons, Bool.and_eq_true] at hst
      exact Snd.of (x_call Fn c2 (o.gl h3) hm hk hb c3 (snd_A as o h6) (plain_dbg h4).1 (star_each hst.1) (backTo_plain hst.2)) (fun _ => rfl) (fun _ _ _ z => nomatch z)
    · cases h
  | .fld .., sc, X, W, e, o, h => by simp [okE] at h
  | .comp x m own t src c elt, sc, X, W, e, o, h => by
    simp only [okE] at h
    split at h
    · rename_i el tg it ifs as scope p
      simp only [Bool.and_eq_true, decide_eq_true_eq] at h
      obtain ⟨⟨⟨⟨⟨⟨⟨⟨⟨h1, h2⟩, h3⟩, h4⟩, h5⟩, h6⟩, h7⟩, h8⟩, h9⟩, h10⟩ := h
      subst h3
      obtain ⟨bk, bo⟩ := o.blk h5
      have inn : ∀ W' : WX, CompIn (clsAt X.mg) X W W' scope el tg ifs t (ev Γ c) (ev Γ elt) := fun W' => ⟨fun X' hB pm => by
        obtain ⟨o', _⟩ := o.inner h1 bk.kind hB pm
        have q1 := okT_sound t o' h8
        have q3 := (snd_E elt o' h9).p1
        have q2 : PTs X' ifs (TDT (clsAt X'.mg) X'.K W' (ev Γ c)) := by
          cases ifs with
          | nil =>
            cases c with
            | bl b =>
              cases b with
              | true => exact ts_nil
              | false => cases h10
            | _ => cases h10
          | cons i r =>
            cases r with
            | nil =>
              simp only [Bool.and_eq_true] at h10
              exact pts_one ((snd_E c o' h10.2).p2 h10.1)
            | cons _ _ => cases h10
        obtain ⟨s, H, C, cs, fp, xe, rfl⟩ := hB
        exact ⟨q1, q2, q3⟩⟩
      have q := x_comp (x := x) (mm := m) (pos := p) (o.calm h1).1 o.nod (snd_W src (tg := tg) o h7) bk (fun i hi => by rw [bo]; exact List.elem_iff.mp (List.all_eq_true.mp h6 i hi))
        (fun hx => by
          rw [hx] at h2
          have ht := o.top (by simpa using h2)
          exact ⟨ht.1, ht.2.1, ht.2.2.1, fun σ => inn _⟩) (fun _ => inn _) (no_set h4)
      rw [bo] at q
      exact Snd.of q (fun _ => rfl) (fun _ _ _ z => nomatch z)
    · cases h
  | .fmt a, sc, X, W, e, o, h => by
    simp only [okE] at h
    split at h
    · simp only [Bool.and_eq_true] at h
      have hx := eq_of_beq h.1
      subst hx
      exact Snd.of (x_fmt (snd_E a o h.2).p1) (fun _ => rfl) (fun _ _ _ z => nomatch z)
    · cases h
  | .fstr as, sc, X, W, e, o, h => by
    simp only [okE] at h
    split at h
    · obtain ⟨fs, h1, h2⟩ := snd_F as o h
      have q := x_fstr (pos := by assumption) h1
      have e2 : ev Γ (.fstr as) = fJ fs Str.empty := by
        funext ρ μ; simp only [ev]; rw [h2]
      refine Snd.of ?_ (fun _ => rfl) (fun _ _ _ z => nomatch z)
      rw [e2]; exact q
    · cases h
theorem snd_A : ∀ (t : E) {sc : Sc} {X : Cx} {W : WX} {es : List Expr}, XOk M Γ k sc X W → okA M sc t es = true → P3 (clsAt X.mg) X W es (ev Γ t)
  | .nil, sc, X, W, es, o, h => by
    simp only [okA] at h
    cases es with
    | nil => exact z_nil
    | cons _ _ => cases h
  | .cons a r, sc, X, W, es, o, h => by
    cases es with
    | nil => simp [okA] at h
    | cons e es =>
      simp only [okA, Bool.and_eq_true] at h
      exact z_cons (snd_E a o h.1.2).p1 (snd_A r o h.2) (star_each h.1.1)
  | .var _, _, _, _, _, _, h => by simp [okA] at h
  | .non, _, _, _, _, _, h => by simp [okA] at h
  | .bl _, _, _, _, _, _, h => by simp [okA] at h
  | .int _, _, _, _, _, _, h => by simp [okA] at h
  | .str _, _, _, _, _, _, h => by simp [okA] at h
  | .glo _, _, _, _, _, _, h => by simp [okA] at h
  | .bin .., _, _, _, _, _, h => by simp [okA] at h
  | .neg _, _, _, _, _, _, h => by simp [okA] at h
  | .cmp .., _, _, _, _, _, h => by simp [okA] at h
  | .not _, _, _, _, _, _, h => by simp [okA] at h
  | .and .., _, _, _, _, _, h => by simp [okA] at h
  | .or .., _, _, _, _, _, h => by simp [okA] at h
  | .ite .., _, _, _, _, _, h => by simp [okA] at h
  | .tup _, _, _, _, _, _, h => by simp [okA] at h
  | .lst .., _, _, _, _, _, h => by simp [okA] at h
  | .ix .., _, _, _, _, _, h => by simp [okA] at h
  | .sl .., _, _, _, _, _, h => by simp [okA] at h
  | .slf .., _, _, _, _, _, h => by simp [okA] at h
  | .slt .., _, _, _, _, _, h => by simp [okA] at h
  | .sla _, _, _, _, _, _, h => by simp [okA] at h
  | .bi .., _, _, _, _, _, h => by simp [okA] at h
  | .bi2 .., _, _, _, _, _, h => by simp [okA] at h
  | .isi .., _, _, _, _, _, h => by simp [okA] at h
  | .mth0 .., _, _, _, _, _, h => by simp [okA] at h
  | .mth1 .., _, _, _, _, _, h => by simp [okA] at h
  | .call .., _, _, _, _, _, h => by simp [okA] at h
  | .fld .., _, _, _, _, _, h => by simp [okA] at h
  | .one _, _, _, _, _, _, h => by simp [okA] at h
  | .comp .., _, _, _, _, _, h => by simp [okA] at h
  | .fmt _, _, _, _, _, _, h => by simp [okA] at h
  | .fstr _, _, _, _, _, _, h => by simp [okA] at h
theorem snd_F : ∀ (t : E) {sc : Sc} {X : Cx} {W : WX} {es : List Expr}, XOk M Γ k sc X W → okA M sc t es = true → ∃ fs, P4 (clsAt X.mg) X W es fs ∧ ∀ z, evF Γ t z = fJ fs z
  | .nil, sc, X, W, es, o, h => by
    simp only [okA] at h
    cases es with
    | nil => exact ⟨[], .nil, fun z => rfl⟩
    | cons _ _ => cases h
  | .cons a r, sc, X, W, es, o, h => by
    cases es with
    | nil => simp [okA] at h
    | cons e es =>
      simp only [okA, Bool.and_eq_true] at h
      obtain ⟨fs, h1, h2⟩ := snd_F r o h.2
      refine ⟨ev Γ a :: fs, .cons (snd_E a o h.1.2).p1 h1, fun z => ?_⟩
      funext ρ μ
      simp only [evF, fJ]
      congr 1
      funext x μ1
      cases x <;> simp only [h2]
  | .var _, _, _, _, _, _, h => by simp [okA] at h
  | .non, _, _, _, _, _, h => by simp [okA] at h
  | .bl _, _, _, _, _, _, h => by simp [okA] at h
  | .int _, _, _, _, _, _, h => by simp [okA] at h
  | .str _, _, _, _, _, _, h => by simp [okA] at h
  | .glo _, _, _, _, _, _, h => by simp [okA] at h
  | .bin .., _, _, _, _, _, h => by simp [okA] at h
  | .neg _, _, _, _, _, _, h => by simp [okA] at h
  | .cmp .., _, _, _, _, _, h => by simp [okA] at h
  | .not _, _, _, _, _, _, h => by simp [okA] at h
  | .and .., _, _, _, _, _, h => by simp [okA] at h
  | .or .., _, _, _, _, _, h => by simp [okA] at h
  | .ite .., _, _, _, _, _, h => by simp [okA] at h
  | .tup _, _, _, _, _, _, h => by simp [okA] at h
  | .lst .., _, _, _, _, _, h => by simp [okA] at h
  | .ix .., _, _, _, _, _, h => by simp [okA] at h
  | .sl .., _, _, _, _, _, h => by simp [okA] at h
  | .slf .., _, _, _, _, _, h => by simp [okA] at h
  | .slt .., _, _, _, _, _, h => by simp [okA] at h
  | .sla _, _, _, _, _, _, h => by simp [okA] at h
  | .bi .., _, _, _, _, _, h => by simp [okA] at h
  | .bi2 .., _, _, _, _, _, h => by simp [okA] at h
  | .isi .., _, _, _, _, _, h => by simp [okA] at h
  | .mth0 .., _, _, _, _, _, h => by simp [okA] at h
  | .mth1 .., _, _, _, _, _, h => by simp [okA] at h
  | .call .., _, _, _, _, _, h => by simp [okA] at h
  | .fld .., _, _, _, _, _, h => by simp [okA] at h
  | .one _, _, _, _, _, _, h => by simp [okA] at h
  | .comp .., _, _, _, _, _, h => by simp [okA] at h
  | .fmt _, _, _, _, _, _, h => by simp [okA] at h
  | .fstr _, _, _, _, _, _, h => by simp [okA] at h
theorem snd_W : ∀ (t : KA.W) {sc : Sc} {X : Cx} {W : WX} {tg e : Expr}, XOk M Γ k sc X W → okW M sc t e = true → P5 (clsAt X.mg) X W tg e (evW Γ t)
  | .it a, sc, X, W, tg, e, o, h => by
    simp only [okW] at h
    exact w_it (snd_E a o h).p1
  | .range1 a, sc, X, W, tg, e, o, h => by
    simp only [okW] at h
    split at h
    · simp only [Bool.and_eq_true] at h
      obtain ⟨hx, hg, hm⟩ := o.blt h.1.1
      subst hx
      exact w_range1 hg hm (snd_E a o h.2).p1 (star_each h.1.2)
    · cases h
  | .range2 a b, sc, X, W, tg, e, o, h => by
    simp only [okW] at h
    split at h
    · simp only [Bool.and_eq_true] at h
      obtain ⟨hx, hg, hm⟩ := o.blt h.1.1.1.1
      subst hx
      exact w_range2 hg hm (snd_E a o h.1.2).p1 (snd_E b o h.2).p1 (star_each h.1.1.1.2) (star_each h.1.1.2)
    · cases h
end
end
end KA
set_option Elab.async false
set_option linter.all false
set_option maxRecDepth 100000
set_option maxHeartbeats 8000000
/-! KA21: raise and try, canonical. -/
namespace KA
open PySem PySem.Spec PyProof.Rows L2 L2H
section
variable {M : Mo} {Γ : Gm} {k : Nat} {sc : Sc} {X : Cx} {W : WX}
theorem cls_at {C : Str} {A : Addr} (h : X.mg C = some (.ref A)) : clsAt X.mg C = some A := by unfold clsAt; rw [h]
theorem s_rais0 {C : Str} {p pos pos2 : Pos} (hc : X.calm = true) (tk : TakesM X W) (e : Er0 X C) (hx : Γ.exf C = some []) (hg : Gl X C) (hdb : (C == ("__debug__" : Str)) = false) :
    PSd (clsAt X.mg) X W (.Raise (some (.Call (.Name C p) [] [] pos)) none pos2) (fun ρ μ => (ev Γ .nil ρ μ).sbind ρ fun d μ => raisD Γ C ρ d μ) := by
  obtain ⟨A, B, ni, ii, bmB, hm, F, q, kC, r⟩ := e
  refine (ps_raiseM hc tk (pmk_zero F q hm kC r hg hdb)).imp fun Dn σ H ⟨F, m, ρ, μ, a, p⟩ => ?_
  simp only [ev, sbind_ok, raisD, hx] at p
  exact p (.ref A) none σ H F m a .refl ⟨A, cls_at hm, rfl, fun _ => rfl, fun z => absurd rfl z⟩
/-- a raise's reading, one field -/
theorem post_one {C f : Str} {A : Addr} {Dn : Ends} {σ : L2.St} {H F : Hp} {m : List Addr} {ρ : Ro} {μ : Store} {d : D} {v : V} {K : PySem.W.Frag} {cl : Str → Option Addr} (hC : cl C = some A) (a : At cl K σ H F m ρ μ) (rd : RD K F m d v) (p : PostS cl K W Dn H F m (.exc ⟨C, [(f, d)]⟩ ρ μ)) :
    ∀ dd, H dd = none → W (.ref A) (some dd) σ (upd H dd (.xd [(f, v)])) := fun dd hd => by
  have hm : dd ∉ m := fun z => a.rp.there z hd
  have hF : F dd = none := by
    cases e : F dd with
    | none => rfl
    | some u => rw [a.rp.sub dd u e] at hd; cases hd
  refine p (.ref A) (some dd) σ _ F m ⟨a.rp.aside hm hF _, a.rs⟩ ((Stp.refl).poke hd _) ⟨A, hC, rfl, fun z => (by cases z), fun _ => ⟨dd, [(f, v)], rfl, upd_same, fun g d' hg => ?_⟩⟩
  simp only [List.lookup] at hg
  split at hg
  · rename_i hb
    cases hg
    exact ⟨v, by simp [List.lookup, hb], rd⟩
  · cases hg
theorem run_one {C f : Str} {A : Addr} {fa : DE} {Dn : Ends} {σ : L2.St} {H F : Hp} {m : List Addr} {ρ : Ro} {μ : Store} {K : PySem.W.Frag} {cl : Str → Option Addr} {W' : WX} (hW : ∀ c dd σ H, W c (some dd) σ H → W' c (some dd) σ H) (hC : cl C = some A) (hx : Γ.exf C = some [f]) (a : At cl K σ H F m ρ μ)
    (p : PostS cl K W Dn H F m ((fa ρ μ).sbind ρ fun d μ => raisD Γ C ρ d μ)) : tMk1 A f (TDA cl K W fa) σ H fun c d H' => W' c d σ H' := by
  refine ⟨F, m, ρ, μ, a, ?_⟩
  cases e : fa ρ μ with
  | stuck => rw [e] at p; exact p
  | exc x μ1 => rw [e] at p; exact fun c dct H1 F1 m1 rp1 s1 rx1 => p c dct σ H1 F1 m1 ⟨rp1, a.rs.step s1⟩ s1 rx1
  | ok d μ1 =>
    rw [e] at p
    have p' : PostS cl K W Dn H F m (raisD Γ C ρ d μ1) := p
    cases d with
    | tup xs =>
      simp only [raisD, hx] at p'
      split at p'
      · rename_i hl
        cases xs with
        | nil => cases hl
        | cons d r =>
          cases r with
          | cons _ _ => simp at hl
          | nil =>
            refine ⟨[d], rfl, fun vs H1 F1 m1 rp1 s1 rd1 => ?_⟩
            simp only [RDs] at rd1
            obtain ⟨v, r1, e1, q1, e2⟩ := rd1
            subst e2
            exact ⟨v, e1, fun dd hd => hW _ _ _ _ (post_one hC ⟨rp1, a.rs.step s1⟩ q1 (PostS.step p' s1) dd hd)⟩
      · exact p'.elim
    | _ => exact p'.elim
theorem s_rais1 {C f : Str} {e : Expr} {fa : DE} {p pos pos2 : Pos} (hc : X.calm = true) (tk : TakesM X W) (hdp : X.A.depth + 1 < recursionLimit) (er : Er1 X C f) (hx : Γ.exf C = some [f]) (hg : Gl X C) (hdb : (C == ("__debug__" : Str)) = false) (ha : P3 (clsAt X.mg) X W [e] fa) (hs : notStar e = true) :
    PSd (clsAt X.mg) X W (.Raise (some (.Call (.Name C p) [e] [] pos)) none pos2) (fun ρ μ => (fa ρ μ).sbind ρ fun d μ => raisD Γ C ρ d μ) := by
  obtain ⟨A, fI, hm, T⟩ := er
  exact (ps_raiseM hc tk (pmk_one T hm hdp ha hg hdb (star_each hs))).imp fun Dn σ H ⟨F, m, ρ, μ, a, p⟩ => run_one (fun _ _ _ _ h => h) (cls_at hm) hx a p
/-! ### try -/
/-- the suite's context -/
theorem XOk.suite (o : XOk M Γ k sc X W) (a : Addr) (pn : List (Addr × Obj)) : XOk M Γ k { sc with calm := false, top := false } (suiteX X a pn) W :=
  ⟨⟨o.mo.fns, o.mo.csts, o.mo.blts, o.mo.gcd, o.mo.err, o.mo.sub⟩, o.N, o.nd, o.kind, o.loc, o.cell, o.free, o.glob, fun h => (by cases h), fun h => (by cases h), o.un, o.dp⟩
/-- the body's context -/
theorem XOk.body (o : XOk M Γ k sc X W) (ht : sc.top = true) (hc : sc.calm = true) {W' : WX} {pn : List (Addr × Obj)} {xe : Value → Shared → Prop} (tk : TakesM (X.tr pn xe) W') (h1 : PassesOwn (model X.prog X.w) X.A X.env xe) (h2 : ∀ hd : Option Value, PassesOwnAt (model X.prog X.w) (X.A.mark hd) X.A X.env xe) :
    XOk M Γ k sc (X.tr pn xe) W' :=
  ⟨⟨o.mo.fns, o.mo.csts, o.mo.blts, o.mo.gcd, o.mo.err, o.mo.sub⟩, o.N, o.nd, o.kind, o.loc, o.cell, o.free, o.glob, fun h => ⟨(o.calm h).1, (o.calm h).2.1, passM tk⟩, fun h => ⟨tk, (o.top h).2.1, (o.top h).2.2.1, h1, h2⟩, o.un, o.dp⟩
/-- clauses that return: their readings -/
inductive HsM (M : Mo) (Γ : Gm) (X : Cx) (W : WX) : List (Str × E) → List ExceptHandler → List (Value × (Addr → Value → Option Addr → TS)) → Prop
  | nil : HsM M Γ X W [] [] []
  | cons {C : Str} {e : E} {A : Addr} {r : List (Str × E)} {h : ExceptHandler} {hs : List ExceptHandler} {l : List (Value × (Addr → Value → Option Addr → TS))} (hC : clsAt X.mg C = some A) (t : HsM M Γ X W r hs l) :
      HsM M Γ X W ((C, e) :: r) (h :: hs) ((.ref A, fun _ _ _ => TDS (clsAt X.mg) X.K W fun ρ μ => (ev Γ e ρ μ).sbind ρ fun d μ => .rt d μ) :: l)
theorem err_cls (o : XOk M Γ k sc X W) {C : Str} (h : (M.errs.lookup C).isSome = true) : ∃ A, X.mg C = some (.ref A) := by
  obtain ⟨fs, hf⟩ := Option.isSome_iff_exists.mp h
  obtain ⟨_, q⟩ := o.mo.err C fs hf
  cases fs with
  | nil => obtain ⟨A, _, _, _, _, hm, _⟩ := q; exact ⟨A, hm⟩
  | cons f r =>
    cases r with
    | nil => obtain ⟨A, _, hm, _⟩ := q; exact ⟨A, hm⟩
    | cons _ _ => exact q.elim
theorem hs_ok : ∀ {hs : List (Str × E)} {hds : List ExceptHandler}, XOk M Γ k sc X W → okHs M sc hs hds = true → ∃ l, HdsM X W hds l ∧ HsM M Γ X W hs hds l
  | [], hds, o, h => by
    simp only [okHs] at h
    cases hds with
    | nil => exact ⟨[], .nil, .nil⟩
    | cons _ _ => cases h
  | (C, e) :: r, hds, o, h => by
    simp only [okHs] at h
    split at h
    · simp only [Bool.and_eq_true] at h
      obtain ⟨⟨⟨⟨⟨h1, h2⟩, h3⟩, h4⟩, h5⟩, h6⟩ := h
      have hx := eq_of_beq h1
      subst hx
      obtain ⟨A, hm⟩ := err_cls o h4
      obtain ⟨l, q1, q2⟩ := hs_ok o h6
      refine ⟨_, .cons (c := .ref A) ⟨o.gl h2, (plain_dbg h3).1, .inl hm⟩ (fun a oe cls d pn hz hot hf tk => ?_) q1, .cons (cls_at hm) q2⟩
      exact pss_one (s_ret (snd_E e (o.suite a ((a, oe) :: pn)) h5).p1)
    · cases h
theorem clauses_ok {Dn : Ends} {x : Exn} {ρ : Ro} {μ : Store} {σ : L2.St} {H F : Hp} {m : List Addr} {c : Value} {d : Option Addr} (o : MoOk M Γ k X) {hs : List (Str × E)} {hds : List ExceptHandler} {l : List (Value × (Addr → Value → Option Addr → TS))} (hh : HsM M Γ X W hs hds l)
    (a : At (clsAt X.mg) X.K σ H F m ρ μ) (rx : RX (clsAt X.mg) X.K H F m x c d) (p : PostS (clsAt X.mg) X.K W Dn H F m (clauses Γ x ρ μ hs)) : wMany X.K W Dn l c d σ H := by
  induction hh with
  | nil => exact p c d σ H F m a .refl rx
  | @cons C e A r h hs l hC t ih =>
    simp only [clauses] at p
    cases es : Γ.sub x.cls C with
    | none => rw [es] at p; exact p.elim
    | some b =>
      rw [es] at p
      obtain ⟨a1, c1, h1, h2, h3⟩ := o.sub _ _ _ es
      rw [hC] at h2; cases h2
      obtain ⟨A', e1, e2, _⟩ := id rx
      rw [h1] at e1; cases e1
      subst e2
      refine ⟨b, h3, fun hb a' na => ?_, fun hb => ?_⟩
      · subst hb; exact ⟨F, m, ρ, μ, a, p⟩
      · subst hb; exact ih p
theorem s_trys {body : List Stmt} {h₀ : ExceptHandler} {hds : List ExceptHandler} {hs : List (Str × E)} {fb : DS} {pos : Pos} (o : XOk M Γ k sc X W) (ht : sc.top = true) (hc : sc.calm = true) (hh : okHs M sc hs (h₀ :: hds) = true)
    (hb : ∀ (W' : WX) (pn : List (Addr × Obj)) (xe : Value → Shared → Prop), XOk M Γ k sc (X.tr pn xe) W' → PSsd (clsAt X.mg) (X.tr pn xe) W' body fb) :
    PSd (clsAt X.mg) X W (.Try body (h₀ :: hds) [] [] pos) (fun ρ μ => match fb ρ μ with
    | .exc x ρ1 μ1 => clauses Γ x ρ1 μ1 hs
    | o => o) := by
  obtain ⟨l, q1, q2⟩ := hs_ok o hh
  obtain ⟨t1, t2, t3, t4, t5⟩ := o.top ht
  refine (ps_tryM t2 t3 t5 t1 (tb := fun W' => TDS (clsAt X.mg) X.K W' fb) (fun W' pn xe tk h1 h2 => hb W' pn xe (o.body ht hc tk h1 h2)) q1).imp fun Dn σ H ⟨F, m, ρ, μ, a, p⟩ => ⟨F, m, ρ, μ, a, ?_⟩
  dsimp only at p
  cases e : fb ρ μ with
  | exc x ρ1 μ1 => rw [e] at p; exact fun c dct σ' H' F' m' a' s' rx => clauses_ok o.mo q2 a' rx (PostS.step p s')
  | stuck => rw [e] at p; exact p
  | nx ρ1 μ1 => rw [e] at p; exact p
  | bk ρ1 μ1 => rw [e] at p; exact p
  | ct ρ1 μ1 => rw [e] at p; exact p
  | rt d1 μ1 => rw [e] at p; exact p
/-! ### except C: raise C2(e) from None -/
theorem s_tryr {body : List Stmt} {C C2 f : Str} {v : Expr} {as : E} {fb : DS} {np p2 p3 p4 p5 pos' pos : Pos} {j : Nat} (o : XOk M Γ k sc X W) (ht : sc.top = true) (hc : sc.calm = true) (hg : Gl X C) (hd : plainN C = true) (he : (M.errs.lookup C).isSome = true)
    (hg2 : Gl X C2) (hd2 : plainN C2 = true) (he2 : M.errs.lookup C2 = some [f]) (ha : okA M { sc with calm := false, top := false } as [v] = true)
    (hb : ∀ (W' : WX) (pn : List (Addr × Obj)) (xe : Value → Shared → Prop), XOk M Γ k sc (X.tr pn xe) W' → PSsd (clsAt X.mg) (X.tr pn xe) W' body fb) :
    PSd (clsAt X.mg) X W (.Try body [.ExceptHandler (some (.Name C np)) none [.Raise (some (.Call (.Name C2 p2) [v] [] p3)) (some (.Constant .none j p4)) p5] pos'] [] [] pos) (fun ρ μ => match fb ρ μ with
    | .exc x ρ1 μ1 => (match Γ.sub x.cls C with
      | some true => if x.fs.isEmpty then (ev Γ as ρ1 μ1).sbind ρ1 fun d μ => raisD Γ C2 ρ1 d μ else .stuck
      | some false => .exc x ρ1 μ1
      | none => .stuck)
    | o => o) := by
  obtain ⟨t1, t2, t3, t4, t5⟩ := o.top ht
  obtain ⟨A, hm⟩ := err_cls o he
  obtain ⟨hx2, A2, fI, hm2, T⟩ := o.mo.err C2 [f] he2
  have hst : notStar v = true := by
    have := okA_star ha
    simpa using this
  have hsu : ∀ (a : Addr) (oe : Obj) (cls : Value) (d : Option Addr) (pn : List (Addr × Obj)), Zc cls d oe → (d = none → HotC (suiteX X a ((a, oe) :: pn))) → (∃ vs, oe.data = .fields vs) → L2.Takes (suiteX X a ((a, oe) :: pn)) (WF W) →
      PSs (suiteX X a ((a, oe) :: pn)) [.Raise (some (.Call (.Name C2 p2) [v] [] p3)) (some (.Constant .none j p4)) p5] (fun D σ H => d = none ∧ TDS (clsAt X.mg) X.K W (fun ρ μ => (ev Γ as ρ μ).sbind ρ fun d μ => raisD Γ C2 ρ d μ) D σ H) := fun a oe cls d pn hz hot hf tk => by
    cases d with
    | some d => exact (pss_never).imp fun D σ H q => nomatch q.1
    | none =>
      have o' := o.suite a ((a, oe) :: pn)
      have q := pmk_one (X := suiteX X a ((a, oe) :: pn)) (p := p2) (pos := p3) T hm2 o'.dp (snd_A as o' ha) hg2 (plain_dbg hd2).1 (star_each hst)
      exact pss_one ((ps_raiseHN (hot rfl) tk (pmk5_of q)).imp fun D σ H ⟨_, F, m, ρ, μ, a, p⟩ => run_one (fun c dd σ H h => ⟨h, fun z => nomatch z⟩) (cls_at hm2) hx2 a p)
  refine (ps_tryM t2 t3 t5 t1 (tb := fun W' => TDS (clsAt X.mg) X.K W' fb) (fun W' pn xe tk h1 h2 => hb W' pn xe (o.body ht hc tk h1 h2)) (.cons (c := .ref A) ⟨hg, (plain_dbg hd).1, .inl hm⟩ hsu .nil)).imp fun Dn σ H ⟨F, m, ρ, μ, a, p⟩ => ⟨F, m, ρ, μ, a, ?_⟩
  dsimp only at p
  cases e : fb ρ μ with
  | exc x ρ1 μ1 =>
    rw [e] at p
    intro c dct σ' H' F' m' a' s' rx
    simp only at p
    cases es : Γ.sub x.cls C with
    | none => rw [es] at p; exact p.elim
    | some b =>
      rw [es] at p
      obtain ⟨a1, c1, h1, h2, h3⟩ := o.mo.sub _ _ _ es
      rw [cls_at hm] at h2; cases h2
      obtain ⟨A', e1, e2, e3, _⟩ := id rx
      rw [h1] at e1; cases e1
      subst e2
      refine ⟨b, h3, fun hb a'' na => ?_, fun hb => ?_⟩
      · subst hb
        simp only at p
        split at p
        · rename_i hfs
          exact ⟨e3 (by simpa using hfs), F', m', ρ1, μ1, a', PostS.step p s'⟩
        · exact p.elim
      · subst hb; exact p _ _ _ _ _ _ a' s' rx
  | stuck => rw [e] at p; exact p
  | nx ρ1 μ1 => rw [e] at p; exact p
  | bk ρ1 μ1 => rw [e] at p; exact p
  | ct ρ1 μ1 => rw [e] at p; exact p
  | rt d1 μ1 => rw [e] at p; exact p
/-! ### except C as n: return (..) -/
/-- the items by values -/
def HiV (vs : List (Str × V)) : List HI → List V → Prop
  | [], ws => ws = []
  | .s x :: r, ws => ∃ ws', ws = .str x :: ws' ∧ HiV vs r ws'
  | .i n :: r, ws => ∃ ws', ws = .int n :: ws' ∧ HiV vs r ws'
  | .f y :: r, ws => ∃ v ws', ws = v :: ws' ∧ vs.lookup y = some v ∧ HiV vs r ws'
def tHi (a A : Addr) (cls : Value) (d : Option Addr) (i : Nat) (es : List HI) : TA := fun σ H Q => σ[i]? = some (some (.ref a)) ∧ cls = .ref A ∧ ∃ dd vs ws, d = some dd ∧ H dd = some (.xd vs) ∧ HiV vs es ws ∧ Q ws H
theorem pa_hi {A fI : Addr} {f n : Str} {i : Nat} {a : Addr} {oe : Obj} {cls : Value} {d : Option Addr} {pn : List (Addr × Obj)} (T : ErrTxt X.K f A fI) (hN : X.N[i]? = some n) (hv : Vis X.env.scope n) (hp : plainN n = true) (hz : Zc cls d oe) (hf : ∃ vs, oe.data = .fields vs) :
    ∀ {es : List HI} {xs : List Expr}, okHis n es xs = true → es.all (fun h => match h with
            | .f y => y == f
            | _ => true) = true → PA (X.suite a ((a, oe) :: pn)) xs (tHi a A cls d i es)
  | [], xs, h, _ => by
    simp only [okHis] at h
    cases xs with
    | nil => exact PA.imp pa_nil fun σ H Q ⟨_, _, dd, vs, ws, _, _, e, q⟩ => by simp only [HiV] at e; subst e; exact q
    | cons _ _ => cases h
  | hi :: es, xs, h, hall => by
    cases xs with
    | nil => simp [okHis] at h
    | cons x xs =>
      simp only [okHis, Bool.and_eq_true] at h
      simp only [List.all_cons, Bool.and_eq_true] at hall
      have ih := pa_hi (a := a) (pn := pn) T hN hv hp hz hf h.2 hall.2
      cases hi with
      | s z =>
        have h1 := h.1
        simp only [okHi] at h1
        split at h1
        · have e := eq_of_beq h1; subst e
          exact (pa_cons pe_str ih (star_each rfl)).imp fun σ H Q ⟨q1, q2, dd, vs, ws, q3, q4, e, q⟩ => by
            simp only [HiV] at e
            obtain ⟨ws', e, e'⟩ := e
            subst e
            exact ⟨q1, q2, dd, vs, ws', q3, q4, e', q⟩
        · cases h1
      | i z =>
        have h1 := h.1
        simp only [okHi] at h1
        split at h1
        · have e := eq_of_beq h1; subst e
          exact (pa_cons pe_int ih (star_each rfl)).imp fun σ H Q ⟨q1, q2, dd, vs, ws, q3, q4, e, q⟩ => by
            simp only [HiV] at e
            obtain ⟨ws', e, e'⟩ := e
            subst e
            exact ⟨q1, q2, dd, vs, ws', q3, q4, e', q⟩
        · cases h1
      | f y =>
        have h1 := h.1
        simp only [okHi] at h1
        split at h1
        · rename_i m' pm y' p'
          simp only [Bool.and_eq_true] at h1
          have e := eq_of_beq h1.1; subst e
          have e := eq_of_beq h1.2; subst e
          have e := eq_of_beq hall.1
          obtain ⟨d1, d2, _⟩ := plain_dbg hp
          have pv : PE (X.suite a ((a, oe) :: pn)) (.Name m' pm) (tVar i) := pe_var (X := X.suite a ((a, oe) :: pn)) hN hv d1 d2
          exact (pa_cons (pe_xf (pos := p') ⟨T.ga, T.gg, T.exC, T.hdC⟩ (by rw [e]; exact T.noN) hz hf pv (recv_ok rfl)) ih (star_each rfl)).imp fun σ H Q ⟨q1, q2, dd, vs, ws, q3, q4, e, q⟩ => by
            simp only [HiV] at e
            obtain ⟨v, ws', e, hl, e'⟩ := e
            subst e
            exact ⟨.ref a, q1, rfl, q2, dd, vs, v, q3, q4, hl, q1, q2, dd, vs, ws', q3, q4, e', q⟩
        · cases h1
theorem hi_len : ∀ {es : List HI} {vs : List (Str × V)} {ws : List V}, HiV vs es ws → ws.length = es.length
  | [], _, _, h => by simp only [HiV] at h; subst h; rfl
  | .s _ :: r, _, _, h => by simp only [HiV] at h; obtain ⟨_, e, h⟩ := h; subst e; simp [hi_len h]
  | .i _ :: r, _, _, h => by simp only [HiV] at h; obtain ⟨_, e, h⟩ := h; subst e; simp [hi_len h]
  | .f _ :: r, _, _, h => by simp only [HiV] at h; obtain ⟨_, _, e, _, h⟩ := h; subst e; simp [hi_len h]
theorem hi_rd {K : PySem.W.Frag} {F : Hp} {m : List Addr} {fs : List (Str × D)} {vs : List (Str × V)} (hl : ∀ f d, fs.lookup f = some d → ∃ v, vs.lookup f = some v ∧ RD K F m d v) : ∀ {es : List HI} {ds : List D}, hiD fs es = some ds → ∃ ws, HiV vs es ws ∧ RDs K F m ds ws
  | [], ds, h => by simp only [hiD, Option.some.injEq] at h; subst h; exact ⟨[], rfl, by simp [RDs]⟩
  | .s x :: r, ds, h => by
    simp only [hiD, Option.map_eq_some_iff] at h
    obtain ⟨ds', h1, rfl⟩ := h
    obtain ⟨ws, q1, q2⟩ := hi_rd hl h1
    exact ⟨.str x :: ws, ⟨ws, rfl, q1⟩, by simp only [RDs]; exact ⟨_, _, rfl, rd_str, q2⟩⟩
  | .i x :: r, ds, h => by
    simp only [hiD, Option.map_eq_some_iff] at h
    obtain ⟨ds', h1, rfl⟩ := h
    obtain ⟨ws, q1, q2⟩ := hi_rd hl h1
    exact ⟨.int x :: ws, ⟨ws, rfl, q1⟩, by simp only [RDs]; exact ⟨_, _, rfl, rd_int, q2⟩⟩
  | .f y :: r, ds, h => by
    simp only [hiD] at h
    cases e : fs.lookup y with
    | none => rw [e] at h; cases h
    | some d =>
      rw [e] at h
      simp only [Option.map_eq_some_iff] at h
      obtain ⟨ds', h1, rfl⟩ := h
      obtain ⟨ws, q1, q2⟩ := hi_rd hl h1
      obtain ⟨v, q3, q4⟩ := hl y d e
      exact ⟨v :: ws, ⟨v, ws, rfl, q3, q1⟩, by simp only [RDs]; exact ⟨_, _, rfl, q4, q2⟩⟩
theorem s_tryas {body : List Stmt} {C f n : Str} {i j : Nat} {es : List HI} {xs : List Expr} {fb : DS} {np p2 p3 pos' pos : Pos} (o : XOk M Γ k sc X W) (ht : sc.top = true) (hc : sc.calm = true) (hg : Gl X C) (hd : plainN C = true) (he : M.errs.lookup C = some [f])
    (hn : plainN n = true) (hN : sc.N[i]? = some n) (hln : sc.names.lookup n = some .local) (hes : es.all (fun h => match h with
            | .f y => y == f
            | _ => true) = true) (hlen : es.length ≤ 1000) (hh : okHis n es xs = true)
    (hb : ∀ (W' : WX) (pn : List (Addr × Obj)) (xe : Value → Shared → Prop), XOk M Γ k sc (X.tr pn xe) W' → PSsd (clsAt X.mg) (X.tr pn xe) W' body fb) :
    PSd (clsAt X.mg) X W (.Try body [.ExceptHandler (some (.Name C np)) (some n) [.Return (some (.Tuple xs j p2)) p3] pos'] [] [] pos) (fun ρ μ => match fb ρ μ with
    | .exc x ρ1 μ1 => (match Γ.sub x.cls C with
      | some true => if x.cls = C ∧ x.fs ≠ [] ∧ i < ρ1.length then (match hiD x.fs es with
        | some ds => .rt (.tup ds) μ1
        | none => .stuck) else .stuck
      | some false => .exc x ρ1 μ1
      | none => .stuck)
    | o => o) := by
  obtain ⟨t1, t2, t3, t4, t5⟩ := o.top ht
  obtain ⟨hx, A, fI, hm, T⟩ := o.mo.err C [f] he
  have hN' : X.N[i]? = some n := by rw [o.N]; exact hN
  have hloc := o.loc n hln
  have hsl := sizeLine_eq
  have hsu : ∀ (a : Addr) (oe : Obj) (cls : Value) (d : Option Addr) (pn : List (Addr × Obj)), Zc cls d oe → (∃ vs, oe.data = .fields vs) → PSs (X.suite a ((a, oe) :: pn)) [.Return (some (.Tuple xs j p2)) p3] (tRet (tTup (tHi a A cls d i es))) := fun a oe cls d pn hz hf =>
    pss_one (ps_ret (pe_tup (pa_hi T hN' (.inl hloc) hn hz hf hh hes)))
  refine (ps_try_asM t2 t3 o.nod hN' hloc ⟨hg, (plain_dbg hd).1, .inl hm⟩ t1 (tb := fun W' => TDS (clsAt X.mg) X.K W' fb) (fun W' pn xe tk h1 h2 => hb W' pn xe (o.body ht hc tk h1 h2)) hsu).imp fun Dn σ H ⟨F, m, ρ, μ, a, p⟩ => ⟨F, m, ρ, μ, a, ?_⟩
  dsimp only at p
  cases e : fb ρ μ with
  | exc x ρ1 μ1 =>
    rw [e] at p
    intro c dct σ' H' F' m' a' s' rx
    simp only at p
    cases es2 : Γ.sub x.cls C with
    | none => rw [es2] at p; exact p.elim
    | some b =>
      rw [es2] at p
      obtain ⟨a1, c1, h1, h2, h3⟩ := o.mo.sub _ _ _ es2
      rw [cls_at hm] at h2; cases h2
      obtain ⟨A', e1, e2, e3, e4⟩ := id rx
      rw [h1] at e1; cases e1
      subst e2
      refine ⟨b, h3, fun hb a'' na => ?_, fun hb => ?_⟩
      · subst hb
        simp only at p
        split at p
        · rename_i hcs
          obtain ⟨hcs, hfs, hlt⟩ := hcs
          split at p
          · rename_i ds hds
            obtain ⟨dd, vs, q1, q2, q3⟩ := e4 hfs
            obtain ⟨ws, q4, q5⟩ := hi_rd q3 hds
            rw [hcs, cls_at hm] at h1; cases h1
            refine ⟨?_, rfl, dd, vs, ws, q1, q2, q4, by rw [hi_len q4, hsl]; omega, fun l hl => ?_⟩
            · rw [List.getElem?_set_self (by rw [← a'.rs.1]; exact hlt)]
            · exact new_tup (Q := Dn.rt) (W := W) (σ := σ') a'.rp q5 (by
                have p' := PostS.step p s'
                exact fun v H1 F1 m1 rp1 s1 rd1 => p' v H1 F1 m1 rp1 s1 rd1) l hl
          · exact p.elim
        · exact p.elim
      · subst hb; exact p _ _ _ _ _ _ a' s' rx
  | stuck => rw [e] at p; exact p
  | nx ρ1 μ1 => rw [e] at p; exact p
  | bk ρ1 μ1 => rw [e] at p; exact p
  | ct ρ1 μ1 => rw [e] at p; exact p
  | rt d1 μ1 => rw [e] at p; exact p
end
end KA
set_option Elab.async false
set_option linter.all false
set_option maxRecDepth 100000
set_option maxHeartbeats 16000000
/-! KA22: statements are sound. -/
namespace KA
open PySem PySem.Spec PyProof.Rows L2 L2H
section
variable {M : Mo} {Γ : Gm} {k : Nat}
theorem no_swapsole {tg e : Expr} {l : Nat} {env : Env} (h : notComp e = true) : swapsWithSole [tg] e l env = pure false := by
  cases e <;> first | rfl | cases h
theorem no_swaps {o : Option Expr} {e : Expr} {l : Nat} {env : Env} (h : notComp e = true) : swapsWith e o l env = pure false := by
  cases e <;> first | rfl | cases h
theorem no_stores {tg e : Expr} {env : Env} (h : noSwap tg e = true) : swappedStores [tg] e env = pure none := by
  unfold noSwap at h
  split at h
  · cases e <;> rfl
  · cases e <;> rfl
  · rename_i ts _ _ vs _ _
    unfold swappedStores
    simp only [h]
    split
    · rfl
    · split
      · rfl
      · split
        · rfl
        · simp only [if_true]
  · cases e <;> first | rfl | (exfalso; rename_i hne; exact hne _ _ _ rfl)
  · cases h
theorem par_stores {X : Cx} {x y : Str} {px py pt : Pos} {kt k2 : Nat} {v w : Expr} {p2 : Pos} (hk : X.env.scope.kind = .function) (hx : X.env.scope.names.lookup x = some .local) (hy : X.env.scope.names.lookup y = some .local) (hl : (py.line == px.line) = true) (hxy : (x == y) = false)
    (hv : notStar v = true) (hw : notStar w = true) (hf : (foldedForSure 8 v && foldedForSure 8 w) = false) (hc : (constantsAlone 8 v && constantsAlone 8 w) = false) :
    swappedStores [.Tuple [.Name x px, .Name y py] kt pt] (.Tuple [v, w] k2 p2) X.env = pure (some [x, y]) := by
  have bk : X.env.blockKind = .function := by unfold Env.blockKind; rw [hk]; rfl
  have kx : X.env.kindOf x = some .local := hx
  have ky : X.env.kindOf y = some .local := hy
  have nv : (match v with | .Starred .. => true | _ => false) = false := by cases v <;> first | rfl | cases hv
  have nw : (match w with | .Starred .. => true | _ => false) = false := by cases w <;> first | rfl | cases hw
  have yx : (y == x) = false := by
    have : ¬ x = y := by simpa using hxy
    simpa using fun z : y = x => this z.symm
  unfold swappedStores
  simp only [List.length_cons, List.length_nil, bk, List.any_cons, List.any_nil, nv, nw, List.head?_cons, Option.map_some, Option.getD_some, Expr.pos, List.filterMap_cons, List.filterMap_nil, kx, ky, hl, List.all_cons, List.all_nil, Bool.and_true, hf, hc]
  simp only [beq_self_eq_true, Bool.and_true, Bool.true_and, Bool.or_false, Bool.true_or, if_true, Bool.not_true, Bool.false_eq_true, if_false, bne_self_eq_false, Bool.or_self, List.length_cons, List.length_nil]
  simp [List.eraseDups, List.eraseDupsBy, List.eraseDupsBy.loop, yx, hxy]
  intro h
  rcases h with h | h
  · cases v <;> first | exact Bool.noConfusion h | exact Bool.noConfusion hv
  · cases w <;> first | exact Bool.noConfusion h | exact Bool.noConfusion hw
theorem seq_nx' {o : SOut} : o.seq (fun ρ μ => SOut.nx ρ μ) = o := by cases o <;> rfl
mutual
theorem snd_S : ∀ (t : S) {sc : Sc} {X : Cx} {W : WX} {st : Stmt}, XOk M Γ k sc X W → okS M sc t st = true → PSd (clsAt X.mg) X W st (evS Γ t)
  | .skip, sc, X, W, st, o, h => by
    simp only [okS] at h
    split at h
    · exact s_pass
    · exact s_doc
    · cases h
  | .seq a b, sc, X, W, st, o, h => by simp [okS] at h
  | .set t a, sc, X, W, st, o, h => by
    simp only [okS] at h
    split at h
    · rename_i tg e p
      simp only [Bool.and_eq_true] at h
      obtain ⟨⟨⟨h1, h2⟩, h3⟩, h4⟩ := h
      rw [Bool.or_eq_true] at h4
      rcases h4 with h4 | h4
      · rw [Bool.and_eq_true] at h4
        exact s_set (snd_E a o h3).p1 (okT_sound t o h2) (no_swapsole h4.1) (no_stores h4.2) (by rw [asg_each h1]; rfl)
      · cases t with
        | name i =>
          simp only at h4
          unfold setcB at h4
          split at h4
          · rename_i y py el gs scope pos
            simp only [Bool.and_eq_true, decide_eq_true_eq] at h4
            obtain ⟨⟨⟨q1, q2⟩, q3⟩, q4⟩ := h4
            have q4' : (scope.names.any fun (n, k) => n == y && (k == .local || k == .cell)) = false := by simpa using q4
            cases a with
            | comp x m own t src c elt =>
              simp only [okE] at h3
              split at h3
              · rename_i el' tg' it ifs as scope' p' heq
                injection heq with e1 e2 e3 e4
                subst e1 e2 e3 e4
                simp only [Bool.and_eq_true, decide_eq_true_eq] at h3
                obtain ⟨⟨⟨⟨⟨⟨⟨⟨⟨h1, h2⟩, h3⟩, h4⟩, h5⟩, h6⟩, h7⟩, h8⟩, h9⟩, h10⟩ := h3
                subst h3
                obtain ⟨bk, bo⟩ := o.blk h5
                have inn : ∀ W' : WX, CompIn (clsAt X.mg) X W W' scope el tg' ifs t (ev Γ c) (ev Γ elt) := fun W' => ⟨fun X' hB pm => by
                  obtain ⟨o', _⟩ := o.inner h1 bk.kind hB pm
                  have q1 := okT_sound t o' h8
                  have q3 := (snd_E elt o' h9).p1
                  have q2 : PTs X' ifs (TDT (clsAt X'.mg) X'.K W' (ev Γ c)) := by
                    cases ifs with
                    | nil =>
                      cases c with
                      | bl b =>
                        cases b with
                        | true => exact ts_nil
                        | false => cases h10
                      | _ => cases h10
                    | cons i r =>
                      cases r with
                      | nil =>
                        simp only [Bool.and_eq_true] at h10
                        exact pts_one ((snd_E c o' h10.2).p2 h10.1)
                      | cons _ _ => cases h10
                  obtain ⟨s, H, C, cs, fp, xe, rfl⟩ := hB
                  exact ⟨q1, q2, q3⟩⟩
                have q := s_comp (x := x) (mm := m) (pos := pos) (spos := p) (py := py) (o.calm h1).1 o.nod (o.ix q1) (o.loc y q2) (sw_true o.kind (o.loc y q2) q3 q4') (snd_W src (tg := tg') o h7) bk (fun i hi => by rw [bo]; exact List.elem_iff.mp (List.all_eq_true.mp h6 i hi))
                  (fun hx => by
                    rw [hx] at h2
                    have ht := o.top (by simpa using h2)
                    exact ⟨ht.1, ht.2.1, ht.2.2.1, fun σ => inn _⟩) (fun _ => inn _) (no_set h4)
                rw [bo] at q
                exact s_setc q
              · cases h3
            | _ => simp [okE] at h3
          · cases h4
        | _ => cases h4
    · cases h
  | .par2 i j a b, sc, X, W, st, o, h => by
    simp only [okS] at h
    split at h
    · simp only [Bool.and_eq_true, decide_eq_true_eq] at h
      obtain ⟨⟨⟨⟨⟨⟨⟨⟨⟨⟨⟨⟨⟨h1, h2⟩, h3⟩, h4⟩, h5⟩, h6⟩, h7⟩, h8⟩, h9⟩, h10⟩, h11⟩, h12⟩, h13⟩, h14⟩ := h
      have h8' : _ := Bool.not_eq_true' _ ▸ h8
      exact s_par2 (o.calm h1).1 o.nod (o.ix h3) (o.ix h4) h2 (o.loc _ h5) (o.loc _ h6) (snd_E a o h13).p1 (snd_E b o h14).p1 (star_each h9) (star_each h10)
        (par_stores o.kind (o.loc _ h5) (o.loc _ h6) h7 (by simpa using h8) h9 h10 (by have := h11; rwa [Bool.not_eq_true'] at this) (by have := h12; rwa [Bool.not_eq_true'] at this)) (no_swapsole rfl)
    · cases h
  | .par3 .., sc, X, W, st, o, h => by simp [okS] at h
  | .aug i b a, sc, X, W, st, o, h => by
    simp only [okS] at h
    split at h
    · rename_i x p op e p2
      simp only [Bool.and_eq_true] at h
      obtain ⟨⟨⟨h1, h2⟩, h3⟩, h4⟩ := h
      obtain ⟨l1, l2⟩ := o.lc h2
      have s := (snd_E a o h4).p1
      cases b <;> cases op <;> first | cases h3 | skip
      · exact s_aug ip_add o.nod (o.ix h1) l1 l2 s fun _ _ => rfl
      · exact s_aug ip_sub o.nod (o.ix h1) l1 l2 s fun _ _ => rfl
    · cases h
  | .sub ov iv a, sc, X, W, st, o, h => by
    cases st with
    | Assign tgs e p =>
      cases tgs with
      | nil => simp [okS] at h
      | cons tg r =>
        cases r with
        | cons _ _ => cases tg <;> simp [okS] at h
        | nil =>
          cases tg with
          | Subscript ox ix p2 =>
            simp only [okS, Bool.and_eq_true] at h
            obtain ⟨⟨⟨⟨h1, h2⟩, h3⟩, h4⟩, h5⟩ := h
            exact s_sub set_list (snd_E a o h5).p1 (snd_E ov o h3).p1 (snd_E iv o h4).p1 (no_swapsole h1) (by cases e <;> rfl) rfl (fun v => by cases ix <;> first | rfl | exact Bool.noConfusion h2)
          | _ => simp [okS] at h
    | _ => simp [okS] at h
  | .ite c a b, sc, X, W, st, o, h => by
    simp only [okS] at h
    split at h
    · simp only [Bool.and_eq_true] at h
      obtain ⟨⟨⟨h1, h2⟩, h3⟩, h4⟩ := h
      exact s_ite ((snd_E c o h2).p2 h1) (snd_Ss a o h3) (snd_Ss b o h4)
    · cases h
  | .for t src b, sc, X, W, st, o, h => by
    simp only [okS] at h
    split at h
    · simp only [Bool.and_eq_true] at h
      obtain ⟨⟨⟨⟨⟨h1, h2⟩, h3⟩, h4⟩, h5⟩, h6⟩ := h
      exact s_for (o.top h2).2.2.2.1 (o.calm h1).1 (snd_W src o h5) (okT_sound t o h4) (snd_Ss b o h6) (no_set h3)
    · cases h
  | .whil c b, sc, X, W, st, o, h => by
    simp only [okS] at h
    split at h
    · simp only [Bool.and_eq_true] at h
      obtain ⟨⟨⟨h1, h2⟩, h3⟩, h4⟩ := h
      exact s_while (o.top h1).2.2.2.1 ((snd_E c o h3).p2 h2) (snd_Ss b o h4)
    · cases h
  | .ret a, sc, X, W, st, o, h => by
    simp only [okS] at h
    split at h
    · exact s_ret (snd_E a o h).p1
    · cases h
  | .ret0, sc, X, W, st, o, h => by
    simp only [okS] at h
    split at h
    · exact s_ret0
    · cases h
  | .brk, sc, X, W, st, o, h => by
    simp only [okS] at h
    split at h
    · exact s_brk
    · cases h
  | .cont, sc, X, W, st, o, h => by
    simp only [okS] at h
    split at h
    · exact s_cont
    · cases h
  | .exp a, sc, X, W, st, o, h => by
    simp only [okS] at h
    split at h
    · simp only [Bool.and_eq_true] at h
      exact s_exp (snd_E a o h.2).p1 (no_swaps h.1)
    · cases h
  | .rais C as, sc, X, W, st, o, h => by
    simp only [okS] at h
    split at h
    · rename_i x p es p2 p3
      simp only [Bool.and_eq_true] at h
      obtain ⟨⟨⟨⟨⟨h1, h2⟩, h3⟩, h4⟩, h5⟩, h6⟩ := h
      have e := eq_of_beq h3
      subst e
      cases he : M.errs.lookup x with
      | none => rw [he] at h6; cases h6
      | some fs =>
        rw [he] at h6
        obtain ⟨q1, q2⟩ := o.mo.err x fs he
        cases fs with
        | nil =>
          simp only [Bool.and_eq_true] at h6
          have hes : es = [] := by cases es with | nil => rfl | cons _ _ => simp at h6
          subst hes
          have has : as = .nil := by cases as <;> simp [okA] at h6 ⊢
          subst has
          exact s_rais0 (o.calm h2).1 (o.top h1).1 q2 q1 (o.gl h4) (plain_dbg h5).1
        | cons f r =>
          cases r with
          | cons _ _ => cases h6
          | nil =>
            simp only [Bool.and_eq_true, decide_eq_true_eq] at h6
            cases es with
            | nil => simp at h6
            | cons e es =>
              cases es with
              | cons _ _ => simp at h6
              | nil =>
                have hst := okA_star h6.2
                simp only [List.all_cons, Bool.and_eq_true] at hst
                exact s_rais1 (o.calm h2).1 (o.top h1).1 o.dp q2 q1 (o.gl h4) (plain_dbg h5).1 (snd_A as o h6.2) hst.1
    · cases h
  | .trys b hs, sc, X, W, st, o, h => by
    simp only [okS] at h
    split at h
    · simp only [Bool.and_eq_true] at h
      obtain ⟨⟨⟨h1, h2⟩, h3⟩, h4⟩ := h
      exact s_trys o h1 h2 h4 fun W' pn xe o' => snd_Ss b o' h3
    · cases h
  | .tryas b C i es, sc, X, W, st, o, h => by
    simp only [okS] at h
    split at h
    · rename_i x _ n xs _ _ _ _ _ 
      simp only [Bool.and_eq_true, decide_eq_true_eq] at h
      obtain ⟨⟨⟨⟨⟨⟨⟨⟨⟨⟨⟨h1, h2⟩, h3⟩, h4⟩, h5⟩, h6⟩, h7⟩, h8⟩, h9⟩, h10⟩, h11⟩, h12⟩ := h
      have e := eq_of_beq h4
      subst e
      cases he : M.errs.lookup x with
      | none => rw [he] at h10; cases h10
      | some fs =>
        rw [he] at h10
        cases fs with
        | nil => cases h10
        | cons f r =>
          cases r with
          | cons _ _ => cases h10
          | nil => exact s_tryas o h1 h2 (o.gl h5) h6 he h7 (eq_of_beq h8) h9 h10 h11 h12 fun W' pn xe o' => snd_Ss b o' h3
    · cases h
  | .tryr b C C2 as, sc, X, W, st, o, h => by
    simp only [okS] at h
    split at h
    · rename_i x _ y _ v _ _ _ _ _ _
      simp only [Bool.and_eq_true, decide_eq_true_eq] at h
      obtain ⟨⟨⟨⟨⟨⟨⟨⟨⟨⟨h1, h2⟩, h3⟩, h4⟩, h5⟩, h6⟩, h7⟩, h8⟩, h9⟩, h10⟩, h11⟩ := h
      have e := eq_of_beq h4
      subst e
      have e := eq_of_beq h8
      subst e
      cases he : M.errs.lookup y with
      | none => rw [he] at h11; cases h11
      | some fs =>
        rw [he] at h11
        cases fs with
        | nil => cases h11
        | cons f r =>
          cases r with
          | cons _ _ => cases h11
          | nil => exact s_tryr o h1 h2 (o.gl h5) h6 h7 (o.gl h9) h10 he h11 fun W' pn xe o' => snd_Ss b o' h3
    · cases h
theorem snd_Ss : ∀ (t : S) {sc : Sc} {X : Cx} {W : WX} {sts : List Stmt}, XOk M Γ k sc X W → okSs M sc t sts = true → PSsd (clsAt X.mg) X W sts (evS Γ t)
  | .skip, sc, X, W, sts, o, h => by
    simp only [okSs] at h
    cases sts with
    | nil => exact ss_nil
    | cons _ _ => cases h
  | .seq a b, sc, X, W, sts, o, h => by
    cases sts with
    | nil => simp [okSs] at h
    | cons st r =>
      simp only [okSs, Bool.and_eq_true] at h
      exact ss_cons (snd_S a o h.1) (snd_Ss b o h.2)
  | .set .., sc, X, W, sts, o, h => by simp [okSs] at h
  | .par2 .., sc, X, W, sts, o, h => by simp [okSs] at h
  | .par3 .., sc, X, W, sts, o, h => by simp [okSs] at h
  | .aug .., sc, X, W, sts, o, h => by simp [okSs] at h
  | .sub .., sc, X, W, sts, o, h => by simp [okSs] at h
  | .ite .., sc, X, W, sts, o, h => by simp [okSs] at h
  | .for .., sc, X, W, sts, o, h => by simp [okSs] at h
  | .whil .., sc, X, W, sts, o, h => by simp [okSs] at h
  | .ret _, sc, X, W, sts, o, h => by simp [okSs] at h
  | .ret0, sc, X, W, sts, o, h => by simp [okSs] at h
  | .brk, sc, X, W, sts, o, h => by simp [okSs] at h
  | .cont, sc, X, W, sts, o, h => by simp [okSs] at h
  | .exp _, sc, X, W, sts, o, h => by simp [okSs] at h
  | .rais .., sc, X, W, sts, o, h => by simp [okSs] at h
  | .trys .., sc, X, W, sts, o, h => by simp [okSs] at h
  | .tryas .., sc, X, W, sts, o, h => by simp [okSs] at h
  | .tryr .., sc, X, W, sts, o, h => by simp [okSs] at h
end
end
end KA
set_option Elab.async false
set_option linter.all false
set_option maxRecDepth 100000
set_option maxHeartbeats 4000000
/-! KA23: the defs, level by level. -/
namespace KA
open PySem PySem.Spec PyProof.Rows L2 L2H
/-- a def: its parameters, its slots, its tree -/
structure FnT where
  ps : List Str
  N : List Str
  code : S
/-- what the module has beside its defs -/
structure Bs where
  cst : Str → Option D
  fuel : Nat
  exf : Str → Option (List Str)
  sub : Str → Str → Option Bool
def outS : SOut → Out
  | .rt d μ => .ok d μ
  | .nx _ μ => .ok .non μ
  | .exc x _ μ => .exc x μ
  | _ => .stuck
def runFn (Γ : Gm) (d : FnT) (ds : List D) (μ : Store) : Out :=
  if ds.length = d.ps.length then outS (evS Γ d.code (ds.map some ++ List.replicate (d.N.length - ds.length) none) μ) else .stuck
/-- the defs at a level -/
def fnL (tab : List (Str × FnT)) (B : Bs) : Nat → Str → List D → Store → Out
  | 0, _, _, _ => .stuck
  | n + 1, f, ds, μ => match tab.lookup f with
    | some d => runFn ⟨fnL tab B n, B.cst, B.fuel, B.exf, B.sub⟩ d ds μ
    | none => .stuck
abbrev gmL (tab : List (Str × FnT)) (B : Bs) (n : Nat) : Gm := ⟨fnL tab B n, B.cst, B.fuel, B.exf, B.sub⟩
abbrev cxM (P : Program) (w : World) (K : PySem.W.Frag) (mg : Str → Option Value) (base : Heap) (N : List Str) (qual : Str) (scope : Scope) (f : Addr) (cd : Value) (A : Around) (outer : List Env) (s : Shared) (H : Hp) (E : XK) : Cx := cxOf (CXM P w) P w K mg base N qual scope f cd A outer s H E
/-- what the written part says of the module, besides its defs -/
structure HdOk (M : Mo) (B : Bs) (K : PySem.W.Frag) (mg : Str → Option Value) : Prop where
  csts : ∀ x d, M.csts.lookup x = some d → B.cst x = some d ∧ ∃ v u, mg x = some u ∧ RelV v u ∧ ∀ F m, RD K F m d v
  blts : ∀ x, x ∈ M.blts → mg x = none
  gcd : M.gcd = true → mg "gcd" = some (.builtin "math.gcd")
  err : ∀ C fs, M.errs.lookup C = some fs → B.exf C = some fs ∧ match fs with
    | [] => ∃ (A : Addr), mg C = some (.ref A) ∧ PySem.W.excIn K A He.veBase "ValueError.__new__" = true ∧ PySem.W.keepIn K (.ref A) = true ∧ PySem.W.subIn K (.ref A) (.type "BaseException") = some true ∧ PySem.W.typeIn K (.ref A) = some (.type "type")
    | [f] => ∃ (A fI : Addr), mg C = some (.ref A) ∧ ErrTxt K f A fI
    | _ => False
  sub : ∀ C D b, B.sub C D = some b → ∃ a c, clsAt mg C = some a ∧ clsAt mg D = some c ∧ PySem.W.exmOne K (.ref a) (.ref c) = some b
/-- the defs as the written part has them -/
def FnsOk (M : Mo) (tab : List (Str × FnT)) (K : PySem.W.Frag) (mg : Str → Option Value) : Prop := ∀ x n, M.fns.lookup x = some n → ∃ (d : FnT) (f : Addr) (fd : FuncData) (name qual : Str) (params : Arguments) (body : List Stmt) (scope : Scope),
  tab.lookup x = some d ∧ mg x = some (.ref f) ∧ FunD K name qual params body scope [] [] f fd ∧ FnScope d.N d.ps scope ∧ Binds K fd d.ps [] ∧ okSs M ⟨d.N, scope.names, true, true⟩ d.code body = true
section
variable {M : Mo} {B : Bs} {tab : List (Str × FnT)} {K : PySem.W.Frag} {mg : Str → Option Value} {P : Program} {w : World} {base : Heap}
theorem spD_stuck {cl : Str → Option Addr} {vs : List V} {H : Hp} {Q : VK} {E : XK} (h : spD cl K (fun _ _ => .stuck) vs H Q E) : False := by
  obtain ⟨_, _, _, _, _, _, p⟩ := h
  exact p
theorem fns_ok (hd : HdOk M B K mg) (hf : FnsOk M tab K mg) : ∀ (n : Nat) (x : Str) (ar : Nat), M.fns.lookup x = some ar → ∃ (d : FnT) (f : Addr) (fd : FuncData), tab.lookup x = some d ∧ mg x = some (.ref f) ∧ PySem.W.keepIn K (.ref f) = true ∧ Binds K fd d.ps [] ∧ (∃ oc od osl, K.lookup f = some ⟨oc, od, .func fd, osl⟩) ∧
    FnOk P w K mg base (CXM P w) n f fd d.ps (spD (clsAt mg) K (fnL tab B n x)) := by
  intro n
  induction n with
  | zero =>
    intro x ar hx
    obtain ⟨d, f, fd, name, qual, params, body, scope, h1, h2, h3, h4, h5, h6⟩ := hf x ar hx
    have lk : ∃ oc od osl, K.lookup f = some ⟨oc, od, .func fd, osl⟩ := by
      obtain ⟨oc, od, _, _, _, _, _, _, _, osl, _, lk, _⟩ := h3.ex
      exact ⟨oc, od, osl, lk⟩
    exact ⟨d, f, fd, h1, h2, h3.kp, h5, lk, ⟨fun vs H Q E h => (spD_stuck h).elim, fun A outer s H args us vs Q E _ _ _ _ h => (spD_stuck h).elim⟩⟩
  | succ n ih =>
    intro x ar hx
    obtain ⟨d, f, fd, name, qual, params, body, scope, h1, h2, h3, h4, h5, h6⟩ := hf x ar hx
    have lk : ∃ oc od osl, K.lookup f = some ⟨oc, od, .func fd, osl⟩ := by
      obtain ⟨oc, od, _, _, _, _, _, _, _, osl, _, lk, _⟩ := h3.ex
      exact ⟨oc, od, osl, lk⟩
    refine ⟨d, f, fd, h1, h2, h3.kp, h5, lk, h3.ok h4 (fun vs H Q E ⟨F, m, ds, μ, rp, rd, p⟩ => ?_) (fun cdv A outer s H vs Q E hr ⟨F, m, ds, μ, rp, rd, p⟩ => ?_)⟩
    · rw [rd.length]
      simp only [fnL, h1, runFn] at p
      split at p
      · assumption
      · exact p.elim
    · simp only [fnL, h1, runFn] at p
      split at p
      · rename_i hlen
        have tk : TakesM (cxM P w K mg base d.N qual scope f cdv A outer s H E) (fun c dd _ H => E c dd H) := takesM_of (E := E) rfl rfl rfl rfl
        have o : XOk M (gmL tab B n) n ⟨d.N, scope.names, true, true⟩ (cxM P w K mg base d.N qual scope f cdv A outer s H E) (fun c dd _ H => E c dd H) := by
          refine ⟨⟨fun y k hy => (ih y k hy).elim fun d' ⟨f', fd', _, q2, q3, q4, _, q6⟩ => ⟨f', fd', d'.ps, q2, q3, q4, q6⟩, hd.csts, hd.blts, hd.gcd, fun C fs hC => ?_, hd.sub⟩, rfl, h4.nd, h4.kind, fun _ h => h, fun _ h => ⟨h, rfl⟩, fun _ h => .inl h, fun _ h => h, fun _ => ⟨rfl, hr, passM tk⟩, fun _ => ⟨tk, rfl, rfl, passes_of rfl, passesAt_of rfl⟩, ?_, ?_⟩
          · obtain ⟨e1, e2⟩ := hd.err C fs hC
            refine ⟨e1, ?_⟩
            cases fs with
            | nil =>
              obtain ⟨Ad, q1, q2, q3, q4, q5⟩ := e2
              exact ⟨Ad, _, _, _, _, q1, PySem.F.excBase_ValueError, q2, q3, raises_own q4 q5⟩
            | cons g r =>
              cases r with
              | nil => exact e2
              | cons _ _ => exact e2
          · have := hr.un
            show (A.deeper (envOfC qual scope s.heap.objs.size f cdv)).units + 65 < cLine
            omega
          · have := hr.dp
            show (A.deeper (envOfC qual scope s.heap.objs.size f cdv)).depth + 1 < recursionLimit
            omega
        refine ⟨_, snd_Ss d.code o h6, F, m, ds.map some ++ List.replicate (d.N.length - ds.length) none, μ, ⟨rp, ?_⟩, ?_⟩
        · have hv := rd.length
          refine ⟨by simp [L2.start, hv], fun i dd hi => ?_⟩
          by_cases hlt : i < ds.length
          · rw [List.getElem?_append_left (by simpa using hlt), List.getElem?_map, List.getElem?_eq_getElem hlt] at hi
            simp only [Option.map_some, Option.some.injEq] at hi
            obtain ⟨v, q1, q2⟩ := rd.get (List.getElem?_eq_getElem hlt)
            refine ⟨v, ?_, by rw [← hi]; exact q2⟩
            unfold L2.start
            rw [List.getElem?_append_left (by rw [List.length_map, hv]; exact hlt), List.getElem?_map, q1]
            rfl
          · rw [List.getElem?_append_right (by simpa using hlt), List.getElem?_replicate] at hi
            split at hi <;> simp at hi
        · show PostS _ _ _ _ _ _ _ (evS (gmL tab B n) d.code (ds.map some ++ List.replicate (d.N.length - ds.length) none) μ)
          cases e : evS (gmL tab B n) d.code (ds.map some ++ List.replicate (d.N.length - ds.length) none) μ with
          | stuck => rw [e] at p; exact p.elim
          | bk ρ μ' => rw [e] at p; exact p.elim
          | ct ρ μ' => rw [e] at p; exact p.elim
          | nx ρ μ' => rw [e] at p; exact fun σ' H' F' m' a' s' => p .non H' F' m' a'.rp s' rd_non
          | rt dd μ' => rw [e] at p; exact fun v H' F' m' a' s' rv => p v H' F' m' a' s' rv
          | exc x ρ μ' => rw [e] at p; exact fun c dct σ' H' F' m' a' s' rx => p c dct H' F' m' a'.rp s' rx
      · exact p.elim
end
end KA
set_option Elab.async false
set_option linter.all false
set_option maxRecDepth 100000
set_option maxHeartbeats 4000000
/-! KA24: the head's facts. -/
namespace KA
open PySem PySem.Spec PyProof.Rows L2 He
def erAB (f : Str) : Arguments → Bool
  | ⟨[], [⟨s, none, _⟩, ⟨g, none, _⟩], none, [], [], none, []⟩ => s == ("self" : Str) && g == f
  | _ => false
def erBB (f : Str) : FuncBody → Bool
  | .stmts [.Assign [.Attribute (.Name s _) g _] (.Name h _) _] => s == ("self" : Str) && g == f && h == f
  | _ => false
theorem erAB_ok {f : Str} {a : Arguments} (h : erAB f a = true) : ∃ p1 p2, a = erA f p1 p2 := by
  unfold erAB at h
  split at h
  · simp only [Bool.and_eq_true] at h
    have e1 := eq_of_beq h.1
    have e2 := eq_of_beq h.2
    subst e1 e2
    exact ⟨_, _, rfl⟩
  · cases h
theorem erBB_ok {f : Str} {b : FuncBody} (h : erBB f b = true) : ∃ q1 q2 q3 q4, b = .stmts (erB f q1 q2 q3 q4) := by
  unfold erBB at h
  split at h
  · simp only [Bool.and_eq_true] at h
    have e1 := eq_of_beq h.1.1
    have e2 := eq_of_beq h.1.2
    have e3 := eq_of_beq h.2
    subst e1 e2
    subst e3
    exact ⟨_, _, _, _, rfl⟩
  · cases h
def clsVE (K : PySem.W.Frag) (C : Addr) : Bool := match K.lookup C with
  | some ⟨.type "type", _, .cls cd, sl⟩ => (match cd.mro, sl.toList with
    | .ref C' :: bm, [_, _, _, _, some (.builtin n), _] => C' == C && n == "ValueError.__new__" && !cd.hasDel && cd.hasDict && PySem.HandSPX.refsVE bm
    | _, _ => false)
  | _ => false
theorem clsVE_ok {K : PySem.W.Frag} {C : Addr} (q : clsVE K C = true) : ∃ nm qn N bs bm sn sub ab col dd k0 k1 k2 k3 k5, K.lookup C = some (excClassObj nm qn C N bs bm true sn sub ab col dd k0 k1 k2 k3 k5 "ValueError.__new__") ∧ PySem.HandSPX.refsVE bm = true := by
  unfold clsVE at q
  split at q
  · rename_i dd cd sl ho
    split at q
    · rename_i C' bm k0 k1 k2 k3 n k5 hm hs
      simp only [Bool.and_eq_true, beq_iff_eq, Bool.not_eq_true'] at q
      obtain ⟨⟨⟨⟨rfl, rfl⟩, hdel⟩, hdct⟩, hok⟩ := q
      obtain ⟨nm, bs, mro, ns, qn, hd, sn, sub, ab, col, del⟩ := cd
      dsimp only at hm hdel hok hdct
      subst hm hdel hdct
      have hsl : sl = #[k0, k1, k2, k3, some (.builtin "ValueError.__new__"), k5] := by
        obtain ⟨l⟩ := sl
        simp only at hs
        rw [hs]
      subst hsl
      exact ⟨nm, qn, ns, bs, bm, sn, sub, ab, col, dd, k0, k1, k2, k3, k5, ho, hok⟩
    · cases q
  · cases q
def initB (K : PySem.W.Frag) (f : Str) (a : Addr) : Bool := match K.lookup a with
  | some ⟨_, _, .func ⟨n1, n2, n3, n4, n5, n6, n7, n8, n9, n10, n11, n12, n13, n14, n15⟩, _⟩ =>
    n1 == ("__init__" : Str) && erAB f n3 && erBB f n4 && decide (n5 = erS f) && decide (n6 = mainGlobals) && n7.isEmpty && (match n8 with
      | .none => true
      | _ => false) && (match n9 with
      | .none => true
      | _ => false) && decide (n15 = builtinsNs) && PySem.W.codeIn K n13 n2
  | _ => false
theorem initB_ok {K : PySem.W.Frag} {f : Str} {a : Addr} (h : initB K f a = true) : ∃ (oc : Value) (od : Option Addr) (doc pm : Value) (an : Option Addr) (cdv ct : Value) (osl : Array (Option Value)) (p1 p2 q1 q2 q3 q4 : Pos) (qn : Str),
    K.lookup a = some ⟨oc, od, .func (PySem.W.fnOf "__init__" qn (erA f p1 p2) (erB f q1 q2 q3 q4) (erS f) .none .none doc pm an cdv ct), osl⟩ ∧ PySem.W.codeIn K cdv qn = true := by
  unfold initB at h
  split at h
  · rename_i oc od n1 n2 n3 n4 n5 n6 n7 n8 n9 n10 n11 n12 n13 n14 n15 osl ho
    simp only [Bool.and_eq_true, decide_eq_true_eq] at h
    obtain ⟨⟨⟨⟨⟨⟨⟨⟨⟨h1, h2⟩, h3⟩, h4⟩, h5⟩, h6⟩, h7⟩, h8⟩, h9⟩, h10⟩ := h
    have e1 := eq_of_beq h1
    obtain ⟨p1, p2, e2⟩ := erAB_ok h2
    obtain ⟨q1, q2, q3, q4, e3⟩ := erBB_ok h3
    have e6 : n7 = [] := by cases n7 with | nil => rfl | cons _ _ => cases h6
    have e7 : n8 = .none := by cases n8 <;> first | rfl | cases h7
    have e8 : n9 = .none := by cases n9 <;> first | rfl | cases h8
    subst e1 e2 e3 h4 h5 e6 e7 e8 h9
    exact ⟨oc, od, n10, n11, n12, n13, n14, osl, p1, p2, q1, q2, q3, q4, n2, ho, h10⟩
  · cases h
/-- an error class C with the field f -/
def erKB (K : PySem.W.Frag) (C f : Str) : Bool := clsVE K (ga K C) && eqO (PySem.W.findIn K (.ref (ga K C)) "__setattr__") (some (some (.builtin "object.__setattr__"))) && eqO (PySem.W.findIn K (.ref (ga K C)) "__getattribute__") (some (some (.builtin "BaseException.__getattribute__")))
  && eqO (PySem.W.findIn K (.ref (ga K C)) "__getattr__") (some none) && eqO (PySem.W.findIn K (.ref (ga K C)) f) (some none) && eqO (PySem.W.findIn K (.ref (ga K C)) "__init__") (some (some (.ref (ma K (ga K C) "__init__"))))
  && decide (PySem.W.typeIn K (.ref (ma K (ga K C) "__init__")) = some (.type "function")) && PySem.W.keepIn K (.ref (ga K C)) && decide (PySem.W.subIn K (.ref (ga K C)) (.type "BaseException") = some true) && decide (PySem.W.typeIn K (.ref (ga K C)) = some (.type "type")) && PySem.W.hasDictIn K (ga K C)
  && initB K f (ma K (ga K C) "__init__")
theorem erKB_ok {K : PySem.W.Frag} {C f : Str} (ne : (f == ("self" : Str)) = false) (nd : (f == ("__debug__" : Str)) = false)
    (bd : ∀ (qn : Str) (body : List Stmt) (sc : Scope) (doc pm : Value) (an : Option Addr) (cdv ct : Value) (p1 p2 : Pos) (a b : Value), bindArgs (PySem.W.fnOf "__init__" qn (erA f p1 p2) body sc .none .none doc pm an cdv ct) ⟨[a, b], []⟩ = pure [(("self" : Str), a), (f, b)])
    (h : erKB K C f = true) : ErrTxt K f (ga K C) (ma K (ga K C) "__init__") := by
  unfold erKB at h
  simp only [Bool.and_eq_true, decide_eq_true_eq] at h
  obtain ⟨⟨⟨⟨⟨⟨⟨⟨⟨⟨⟨h1, h2⟩, h3⟩, h4⟩, h5⟩, h6⟩, h7⟩, h8⟩, h9⟩, h10⟩, h11⟩, h12⟩ := h
  exact ⟨clsVE_ok h1, eqO_ok h2, eqO_ok h3, eqO_ok h4, eqO_ok h5, eqO_ok h6, h7, h8, h9, h10, h11, ne, nd, bd, initB_ok h12⟩
/-! ### the Hook -/
abbrev AlK : Type := AlD × Bool
def obsK (n : Nat) (fa : List Fa) (fn : List DefD) (ex : PySem.W.Frag → Bool) (g : Addr → Option Obj) : AlK := (obsD fa fn (frG g (asD g n)), ex (frG g (asD g n)))
def hookK (n : Nat) (fa : List Fa) (fn : List DefD) (ex : PySem.W.Frag → Bool) : PySem.W.Hook where
  α := AlK
  obs := fun s => obsK n fa fn ex s.heap.get?
  val := fun _ => (valD fn, true)
  says := fun _ h => ∃ K : PySem.W.Frag, K.In h ∧ SaysD fa fn K ∧ ex K = true
  of := fun _ _ e => ⟨_, frG_in, congrArg (fun z : AlK => z.1) e, congrArg (fun z : AlK => z.2) e⟩
  keeps := fun _ _ _ ⟨K, hK, c⟩ k => ⟨K, PySem.W.Frag.In.keeps hK k, c⟩
theorem obsK_eq {n : Nat} {fa : List Fa} {fn : List DefD} {ex : PySem.W.Frag → Bool} {g : Addr → Option Obj} {s : Shared} (h : ∀ a, g a = s.heap.get? a) : obsK n fa fn ex g = (hookK n fa fn ex).obs s := by
  have e : g = s.heap.get? := funext h
  rw [e] <;> rfl
/-- math.gcd -/
def gcdB (K : PySem.W.Frag) : Bool := eqO (PySem.W.nsIn K mainGlobals "gcd") (some (some (.builtin "math.gcd")))
theorem gcdB_ok {K : PySem.W.Frag} {h : Heap} {mg : Str → Option Value} (X : K.In h) (G : h.Ns mainGlobals mg) (c : gcdB K = true) : mg "gcd" = some (.builtin "math.gcd") := PySem.W.mg_of X G (eqO_ok c)
/-! ### the law -/
/-- no exception leaves -/
theorem cxm_none {P : Program} {w : World} {H : Hp} {s : Shared} {e : Value} {s' : Shared} (h : CXM P w [] H s (fun _ _ _ => False) e s') : False := by
  rcases h with ⟨_, _, _, _, _, _, _, _, _, _, _, _, q⟩ | ⟨_, _, _, _, _, _, _, _, _, _, _, _, q⟩
  · exact q.1.elim
  · exact q.1.elim
theorem rds_ints {K : PySem.W.Frag} {F : Hp} {m : List Addr} : ∀ ns : List Int, RDs K F m (ns.map D.int) (ns.map V.int)
  | [] => by simp [RDs]
  | n :: ns => by simp only [List.map_cons, RDs]; exact ⟨_, _, rfl, rd_int, rds_ints ns⟩
/-- the written part has no list -/
def noLst (K : PySem.W.Frag) : Bool := K.all fun p => match p.2.cls with
  | .type c => !(c == "list")
  | _ => true
theorem noLst_ok {K : PySem.W.Frag} (h : noLst K = true) {a : Addr} {o : Obj} (e : K.lookup a = some o) : o.cls ≠ .type "list" := by
  have mem : ∀ {l : PySem.W.Frag}, l.lookup a = some o → (a, o) ∈ l := fun {l} h => by
    induction l with
    | nil => cases h
    | cons p l ih =>
      obtain ⟨g, y⟩ := p
      simp only [List.lookup] at h
      split at h
      · rename_i hb
        cases h
        rw [eq_of_beq hb]
        exact List.mem_cons_self
      · exact List.mem_cons_of_mem _ (ih h)
  intro z
  have q := List.all_eq_true.mp h _ (mem e)
  simp only [z] at q
  cases q
/-- the promise holds of the script, if the interpreter says True -/
theorem law_spD {K : PySem.W.Frag} {cl : Str → Option Addr} {g : List D → Store → Out} {H : Hp} {a : Addr} {ns : List Int} (hK : noLst K = true) (hs : SqL K H a (ns.map V.int)) (h : ∃ μ, g [.lst (ns.map D.int)] [] = .ok (.bl true) μ) :
    spD cl K g [.ref a] H (fun v _ => v = .bl true) fun _ _ _ => False := by
  obtain ⟨μ, h⟩ := h
  rcases hs with hs | ⟨o, its, n, q1, q2, _⟩
  · refine ⟨H, [], [.lst (ns.map D.int)], [], ⟨fun _ _ h => h, rfl, List.nodup_nil, (fun _ h => by cases h), (fun i a o h => by simp at h)⟩, ?_, ?_⟩
    · simp only [RDs, RD]
      exact ⟨_, _, rfl, ⟨a, _, rfl, hs, rds_ints ns⟩, rfl⟩
    · rw [h]
      intro v H' F' m' _ _ rd
      simpa only [RD] using rd
  · exact absurd q2 (noLst_ok hK q1)
end KA
set_option Elab.async false
set_option linter.all false
set_option maxRecDepth 100000
set_option maxHeartbeats 4000000
/-! KA25: from the head's facts to the defs; a law's end. -/
namespace KA
open PySem PySem.Spec PyProof.Rows L2 He
def scopeB (N ps : List Str) (sc : Scope) : Bool := decide (sc.kind = .function) && !sc.isCoroutine && !sc.isGenerator && decide N.Nodup && decide (N.take ps.length = ps) && ps.all (fun x => decide (sc.names.lookup x = some .local ∨ sc.names.lookup x = some .cell)) && sc.names.all fun y => decide (y.2 ≠ .free)
theorem scopeB_ok {N ps : List Str} {sc : Scope} (h : scopeB N ps sc = true) : FnScope N ps sc := by
  unfold scopeB at h
  simp only [Bool.and_eq_true, decide_eq_true_eq, Bool.not_eq_true', List.all_eq_true] at h
  obtain ⟨⟨⟨⟨⟨⟨h1, h2⟩, h3⟩, h4⟩, h5⟩, h6⟩, h7⟩ := h
  exact ⟨h1, h2, h3, h4, h5, h6, h7⟩
/-- a def as the written part has it -/
def Ent (M : Mo) (K : PySem.W.Frag) (mg : Str → Option Value) (x : Str) (d : FnT) : Prop := ∃ (f : Addr) (fd : FuncData) (name qual : Str) (params : Arguments) (body : List Stmt) (scope : Scope),
  mg x = some (.ref f) ∧ FunD K name qual params body scope [] [] f fd ∧ FnScope d.N d.ps scope ∧ Binds K fd d.ps [] ∧ okSs M ⟨d.N, scope.names, true, true⟩ d.code body = true
theorem lookup_map_fns : ∀ {tab : List (Str × FnT)} {x : Str} {n : Nat}, (tab.map fun p => (p.1, p.2.ps.length)).lookup x = some n → ∃ d, tab.lookup x = some d ∧ (x, d) ∈ tab
  | [], _, _, h => by cases h
  | (y, d) :: tab, x, n, h => by
    simp only [List.map_cons, List.lookup_cons] at h
    by_cases e : x == y
    · have e' := eq_of_beq e
      subst e'
      exact ⟨d, by simp [List.lookup_cons], List.mem_cons_self⟩
    · have e' : (x == y) = false := by simpa using e
      rw [e'] at h
      obtain ⟨d', h1, h2⟩ := lookup_map_fns (tab := tab) h
      exact ⟨d', by simp [List.lookup_cons, e', h1], List.mem_cons_of_mem _ h2⟩
theorem fnsOk_of {M : Mo} {tab : List (Str × FnT)} {K : PySem.W.Frag} {mg : Str → Option Value} (hM : M.fns = tab.map fun p => (p.1, p.2.ps.length)) (h : ∀ p ∈ tab, Ent M K mg p.1 p.2) : FnsOk M tab K mg := fun x n hx => by
  rw [hM] at hx
  obtain ⟨d, h1, h2⟩ := lookup_map_fns hx
  obtain ⟨f, fd, name, qual, params, body, scope, q⟩ := h _ h2
  exact ⟨d, f, fd, name, qual, params, body, scope, h1, q⟩
def defName (s : Stmt) : Str := match s with
  | .FunctionDef n .. => n
  | _ => ""
/-- a def of the top, at its name -/
def dOf (x : Str) (st : Stmt) : DefD := ⟨(x, none), defName st, defName st, defArgs st, defBody st, defScope st, [], []⟩
abbrev Bd (st : Stmt) (ps : List Str) : Prop := ∀ (kV doc pm : Value) (an : Option Addr) (cdv ct : Value) (us : List Value), us.length = ps.length → bindArgs (PySem.W.fnOf (defName st) (defName st) (defArgs st) (defBody st) (defScope st) .none kV doc pm an cdv ct) ⟨us, []⟩ = pure (ps.zip us)
theorem ent_of {M : Mo} {K : PySem.W.Frag} {h : Heap} {mg : Str → Option Value} {fas : List Fa} {dfs : List DefD} {x : Str} {d : FnT} {st : Stmt} (X : K.In h) (G : h.Ns mainGlobals mg) (c : SaysD fas dfs K) (hg : Fa.glo x ∈ fas) (hd : dOf x st ∈ dfs)
    (sc : scopeB d.N d.ps (defScope st) = true) (ok : okSs M ⟨d.N, (defScope st).names, true, true⟩ d.code (defBody st) = true)
    (bd : ∀ (kV doc pm : Value) (an : Option Addr) (cdv ct : Value) (us : List Value), us.length = d.ps.length → bindArgs (PySem.W.fnOf (defName st) (defName st) (defArgs st) (defBody st) (defScope st) .none kV doc pm an cdv ct) ⟨us, []⟩ = pure (d.ps.zip us)) : Ent M K mg x d := by
  obtain ⟨fd, F⟩ := c.defs hd
  exact ⟨ga K x, fd, _, _, _, _, _, glo_ok X G (c.facts hg), F, scopeB_ok sc, FunD.bindsN F bd, ok⟩
theorem mem_lookup' {α β : Type} [BEq α] [LawfulBEq α] {a : α} {b : β} : ∀ {l : List (α × β)}, l.lookup a = some b → (a, b) ∈ l
  | [], h => by cases h
  | (x, y) :: l, h => by
    simp only [List.lookup_cons] at h
    by_cases e : a == x
    · rw [e] at h
      cases h
      rw [eq_of_beq e]
      exact List.mem_cons_self
    · have e' : (a == x) = false := by simpa using e
      rw [e'] at h
      exact List.mem_cons_of_mem _ (mem_lookup' h)
/-- the same fact -/
def faB : Fa → Fa → Bool
  | .glo x, .glo y => x == y
  | .free x, .free y => x == y
  | .int x i, .int y j => x == y && i == j
  | .str x i, .str y j => x == y && i == j
  | .exc x, .exc y => x == y
  | .exm x y b, .exm x' y' b' => x == x' && y == y' && b == b'
  | _, _ => false
theorem faB_eq {a b : Fa} (h : faB a b = true) : a = b := by
  unfold faB at h
  split at h
  · rw [eq_of_beq h]
  · rw [eq_of_beq h]
  · simp only [Bool.and_eq_true] at h; rw [eq_of_beq h.1, eq_of_beq h.2]
  · simp only [Bool.and_eq_true] at h; rw [eq_of_beq h.1, eq_of_beq h.2]
  · rw [eq_of_beq h]
  · simp only [Bool.and_eq_true] at h; rw [eq_of_beq h.1.1, eq_of_beq h.1.2, eq_of_beq h.2]
  · cases h
def inFa (fas : List Fa) (f : Fa) : Bool := fas.any fun g => faB f g
theorem inFa_ok {fas : List Fa} {f : Fa} (h : inFa fas f = true) : f ∈ fas := by
  obtain ⟨g, hg, e⟩ := List.any_eq_true.mp h
  rw [faB_eq e]; exact hg
/-- the tables as a module's rest -/
def bsOf (M : Mo) (subs : List ((Str × Str) × Bool)) (fuel : Nat) : Bs := ⟨fun x => M.csts.lookup x, fuel, fun C => M.errs.lookup C, fun C D => subs.lookup (C, D)⟩
/-- a constant's fact -/
def cstFa : Str × D → Option Fa
  | (x, .int i) => some (.int x i)
  | (x, .str z) => some (.str x z)
  | _ => none
theorem clsAt_of {mg : Str → Option Value} {C : Str} {A : Addr} (h : mg C = some (.ref A)) : clsAt mg C = some A := by unfold clsAt; rw [h]
theorem hdOk_of {M : Mo} {K : PySem.W.Frag} {h : Heap} {mg : Str → Option Value} {fas : List Fa} {dfs : List DefD} {subs : List ((Str × Str) × Bool)} {fuel : Nat} (X : K.In h) (G : h.Ns mainGlobals mg) (c : SaysD fas dfs K)
    (hc : ∀ p ∈ M.csts, ∃ f ∈ fas, cstFa p = some f) (hb : ∀ x ∈ M.blts, Fa.free x ∈ fas) (hg : M.gcd = true → gcdB K = true)
    (he : ∀ p ∈ M.errs, (p.2 = [] ∧ Fa.exc p.1 ∈ fas ∧ Fa.glo p.1 ∈ fas) ∨ ∃ f fI, p.2 = [f] ∧ Fa.glo p.1 ∈ fas ∧ ErrTxt K f (ga K p.1) fI)
    (hs : ∀ p ∈ subs, Fa.exm p.1.1 p.1.2 p.2 ∈ fas ∧ Fa.glo p.1.1 ∈ fas ∧ Fa.glo p.1.2 ∈ fas) : HdOk M (bsOf M subs fuel) K mg := by
  refine ⟨fun x d hx => ⟨hx, ?_⟩, fun x hx => free_ok X G (c.facts (hb x hx)), fun z => gcdB_ok X G (hg z), fun C fs hC => ⟨hC, ?_⟩, fun C D b hs' => ?_⟩
  · obtain ⟨f, hf, e⟩ := hc _ (mem_lookup' hx)
    cases d with
    | int i =>
      simp only [cstFa, Option.some.injEq] at e
      subst e
      obtain ⟨t, ht⟩ := int_ok X G (c.facts hf)
      exact ⟨.int i, _, ht, ⟨t, rfl⟩, fun _ _ => rd_int⟩
    | str i =>
      simp only [cstFa, Option.some.injEq] at e
      subst e
      obtain ⟨t, ht⟩ := str_ok X G (c.facts hf)
      exact ⟨.str i, _, ht, ⟨t, rfl⟩, fun _ _ => rd_str⟩
    | _ => simp [cstFa] at e
  · rcases he _ (mem_lookup' hC) with ⟨e, h1, h2⟩ | ⟨f, fI, e, h1, h2⟩
    · simp only at e
      subst e
      obtain ⟨q1, q2, q3, q4⟩ := exc_ok (c.facts h1)
      exact ⟨ga K C, glo_ok X G (c.facts h2), q1, q2, q3, q4⟩
    · simp only at e
      subst e
      exact ⟨ga K C, fI, glo_ok X G (c.facts h1), h2⟩
  · obtain ⟨h1, h2, h3⟩ := hs _ (mem_lookup' hs')
    exact ⟨ga K C, ga K D, clsAt_of (glo_ok X G (c.facts h2)), clsAt_of (glo_ok X G (c.facts h3)), exm_ok (c.facts h1)⟩
/-- a law's end over such a head -/
theorem walk_KA {l : PySem.W.OpenLaw} {n k : Nat} {q : Program} {loose : List Str} {XP : (Str → Option Value) → Heap → Prop} {fas : List Fa} {dfs : List DefD} {ex : PySem.W.Frag → Bool} {m : Nat} {dr : DefRec} {M : Mo} {B : Bs} {tab : List (Str × FnT)} {st : Stmt} {d : FnT} {x : Str}
    (hn : l.most = some n) (hn2 : n ≤ sizeLine) (hdf : dr.params.defaults = []) (hr : Room k callerA)
    (hM : M.fns = tab.map fun p => (p.1, p.2.ps.length)) (hname : dr.name = x)
    (hx : M.fns.lookup x = some 1) (hps : ∃ y, d.ps = [y]) (hd : tab.lookup x = some d) (hst : dOf x st ∈ dfs) (hgl : Fa.glo x ∈ fas)
    (bd : ∀ (kV doc pm : Value) (an : Option Addr) (cdv ct : Value) (us : List Value), us.length = d.ps.length → bindArgs (PySem.W.fnOf (defName st) (defName st) (defArgs st) (defBody st) (defScope st) .none kV doc pm an cdv ct) ⟨us, []⟩ = pure (d.ps.zip us))
    (hex : ∀ K, ex K = true → noLst K = true)
    (facts : ∀ (K : PySem.W.Frag) (h : Heap) (mg : Str → Option Value), K.In h → h.Ns mainGlobals mg → SaysD fas dfs K → ex K = true → HdOk M B K mg ∧ ∀ p ∈ tab, Ent M K mg p.1 p.2)
    (law : ∀ ns : List Int, ns.length ≤ n → (∀ z ∈ ns, Builtin.Int.intBits z ≤ 1048576) → ∃ μ, fnL tab B k x [.lst (ns.map D.int)] [] = .ok (.bl true) μ) :
    PySem.W.WalkO q loose XP (hookK m fas dfs ex).says l.row.toRowW dr [] (fun f vs => PySem.call f vs) := by
  refine Att.attach_callB hn hdf fun w s₀ s₁ mg mb fa o pm cd doc a vs ns G Y ho hd' hcd hmg hobj hints hlen hbits hg => ?_
  obtain ⟨K, KX, c, hK⟩ := Y
  obtain ⟨hO, hE⟩ := facts K _ mg KX G.T.g c hK
  have hF := fnsOk_of (M := M) hM hE
  obtain ⟨y, hy⟩ := hps
  obtain ⟨fd, F⟩ := c.defs hst
  have e1 := glo_ok KX G.T.g (c.facts hgl)
  rw [hname] at hmg
  rw [hmg] at e1
  have e2 : fa = ga K x := by cases e1; rfl
  subst e2
  refine law_call (K := K) (fd := fd) (x := y) (sp := spD (clsAt mg) K (fnL tab B k x)) (CX := CXM l.prog w) (k := k) KX G.T.g G.T.b G.T.builtins G.T.nolimit hg hobj hints (Nat.le_trans hlen hn2) hr (fun base _ _ => ?_) (fun s u => ?_) (fun H hO hS => law_spD (hex K hK) hS (law ns hlen hbits)) fun H e s' => cxm_none
  · obtain ⟨d', f, fd2, q0, q1, q2, q3, ⟨oc, od, osl, q4⟩, q5⟩ := fns_ok (P := l.prog) (w := w) (base := base) hO hF k x 1 hx
    rw [hd] at q0; cases q0
    rw [hmg] at q1; cases q1
    obtain ⟨oc', od', _, _, _, _, _, _, _, osl', _, lk, _⟩ := F.ex
    have lk : K.lookup (ga K x) = some ⟨oc', od', .func fd, osl'⟩ := lk
    rw [q4] at lk
    have e3 : fd2 = fd := by
      have := Option.some.inj lk
      simp only [Obj.mk.injEq, Data.func.injEq] at this
      exact this.2.2.1
    subst e3
    rw [hy] at q5
    exact q5
  · have := FunD.bindsA F bd s [u] (by rw [hy]; rfl)
    rw [hy] at this
    exact this
end KA
set_option Elab.async false
set_option linter.all false
set_option maxRecDepth 100000
set_option maxHeartbeats 4000000
/-! KA26: what a level says, every higher one says. -/
namespace KA
open PySem L2
/-- stuck, or the same -/
def Le {α : Type} (st : α) (o o' : α) : Prop := o = st ∨ o' = o
theorem Le.rfl' {α : Type} {st o : α} : Le st o o := .inr rfl
abbrev LeO : Out → Out → Prop := Le .stuck
abbrev LeS : SOut → SOut → Prop := Le .stuck
abbrev LeW : WOut → WOut → Prop := Le .stuck
theorem LeO.bind {o o' : Out} {f f' : D → Store → Out} (h : LeO o o') (hf : ∀ d μ, LeO (f d μ) (f' d μ)) : LeO (o.bind f) (o'.bind f') := by
  rcases h with h | h
  · subst h; exact .inl rfl
  · subst h
    cases o' with
    | ok d μ => exact hf d μ
    | exc x μ => exact .inr rfl
    | stuck => exact .inl rfl
theorem LeO.sbind {o o' : Out} {ρ : Ro} {f f' : D → Store → SOut} (h : LeO o o') (hf : ∀ d μ, LeS (f d μ) (f' d μ)) : LeS (o.sbind ρ f) (o'.sbind ρ f') := by
  rcases h with h | h
  · subst h; exact .inl rfl
  · subst h
    cases o' with
    | ok d μ => exact hf d μ
    | exc x μ => exact .inr rfl
    | stuck => exact .inl rfl
theorem LeS.seq {o o' : SOut} {f f' : Ro → Store → SOut} (h : LeS o o') (hf : ∀ ρ μ, LeS (f ρ μ) (f' ρ μ)) : LeS (o.seq f) (o'.seq f') := by
  rcases h with h | h
  · subst h; exact .inl rfl
  · subst h
    cases o' with
    | nx ρ μ => exact hf ρ μ
    | stuck => exact .inl rfl
    | _ => exact .inr rfl
theorem LeO.tru {o : Option Bool} {a a' b b' : Out} (ha : LeO a a') (hb : LeO b b') : LeO (match o with
    | some true => a
    | some false => b
    | none => .stuck) (match o with
    | some true => a'
    | some false => b'
    | none => .stuck) := by
  cases o with
  | none => exact .inl rfl
  | some b => cases b <;> assumption
theorem LeS.tru {o : Option Bool} {a a' b b' : SOut} (ha : LeS a a') (hb : LeS b b') : LeS (match o with
    | some true => a
    | some false => b
    | none => .stuck) (match o with
    | some true => a'
    | some false => b'
    | none => .stuck) := by
  cases o with
  | none => exact .inl rfl
  | some b => cases b <;> assumption
abbrev LeF (g g' : List D → Store → Out) : Prop := ∀ ds μ, LeO (g ds μ) (g' ds μ)
theorem gc_le {μ : Store} {o o' : Out} (h : LeO o o') : LeO (gc μ o) (gc μ o') := by
  rcases h with h | h
  · subst h; exact .inl rfl
  · subst h; exact .inr rfl
theorem callF_le {g g' : List D → Store → Out} (h : LeF g g') (ds : List D) (μ : Store) : LeO (callF g ds μ) (callF g' ds μ) := by
  unfold callF
  by_cases hp : D.pures ds = true
  · rw [if_pos hp, if_pos hp]
    rcases h ds [] with e | e
    · rw [e]; exact .inl rfl
    · rw [e]
      cases g ds [] with
      | stuck => exact .inl rfl
      | exc x μ' => exact .inr rfl
      | ok d μ' =>
        simp only
        by_cases hd : d.pure = true
        · rw [if_pos hd, if_pos hd]; exact .inr rfl
        · rw [if_neg hd, if_neg hd]; exact gc_le (h ds μ)
  · rw [if_neg hp, if_neg hp]; exact gc_le (h ds μ)
theorem forL_le {chk : Store → Bool} {t : T} {b b' : DS} (h : ∀ ρ μ, LeS (b ρ μ) (b' ρ μ)) : ∀ (ds : List D) (ρ : Ro) (μ : Store), LeS (forL chk t b ds ρ μ) (forL chk t b' ds ρ μ)
  | [], ρ, μ => .inr rfl
  | d :: ds, ρ, μ => by
    simp only [forL]
    split
    · split
      · rename_i ρ1 _
        rcases h ρ1 μ with e | e
        · rw [e]; exact .inl rfl
        · rw [e]
          cases b ρ1 μ with
          | nx ρ2 μ2 => exact forL_le h ds ρ2 μ2
          | ct ρ2 μ2 => exact forL_le h ds ρ2 μ2
          | stuck => exact .inl rfl
          | _ => exact .inr rfl
      · exact .inl rfl
    · exact .inl rfl
theorem whileL_le {c c' : DE} {b b' : DS} (hc : ∀ ρ μ, LeO (c ρ μ) (c' ρ μ)) (h : ∀ ρ μ, LeS (b ρ μ) (b' ρ μ)) : ∀ (n : Nat) (ρ : Ro) (μ : Store), LeS (whileL c b n ρ μ) (whileL c' b' n ρ μ)
  | 0, ρ, μ => .inl rfl
  | n + 1, ρ, μ => by
    simp only [whileL]
    refine LeO.sbind (hc ρ μ) fun d μ1 => LeS.tru ?_ (.inr rfl)
    rcases h ρ μ1 with e | e
    · rw [e]; exact .inl rfl
    · rw [e]
      cases b ρ μ1 with
      | nx ρ2 μ2 => exact whileL_le hc h n ρ2 μ2
      | ct ρ2 μ2 => exact whileL_le hc h n ρ2 μ2
      | stuck => exact .inl rfl
      | _ => exact .inr rfl
theorem compL_le {chk : Store → Bool} {t : T} {own : List Nat} {x m : Bool} {c c' e e' : DE} (hc : ∀ ρ μ, LeO (c ρ μ) (c' ρ μ)) (he : ∀ ρ μ, LeO (e ρ μ) (e' ρ μ)) : ∀ (ds ys : List D) (ρ : Ro) (μ : Store), LeO (compL chk t own x m c e ds ys ρ μ) (compL chk t own x m c' e' ds ys ρ μ)
  | [], ys, ρ, μ => .inr rfl
  | d :: ds, ys, ρ, μ => by
    simp only [compL]
    split
    · split
      · rename_i ρ1 _
        rcases hc ρ1 μ with h | h
        · rw [h]; exact .inl rfl
        · rw [h]
          cases c ρ1 μ with
          | ok b μ1 =>
            simp only
            refine LeO.tru ?_ (compL_le hc he ds ys ρ μ1)
            rcases he ρ1 μ1 with h | h
            · rw [h]; exact .inl rfl
            · rw [h]
              cases e ρ1 μ1 with
              | ok y μ2 =>
                simp only
                split
                · exact compL_le hc he ds (ys ++ [y]) ρ μ2
                · exact .inl rfl
              | exc z μ2 => exact .inr rfl
              | stuck => exact .inl rfl
          | _ => exact .inl rfl
      · exact .inl rfl
    · exact .inl rfl
section
variable {Γ Γ' : Gm}
mutual
theorem ev_le (hf : ∀ f, LeF (Γ.fn f) (Γ'.fn f)) (hc : Γ'.cst = Γ.cst) : ∀ (e : E) (ρ : Ro) (μ : Store), LeO (ev Γ e ρ μ) (ev Γ' e ρ μ)
  | .var i, ρ, μ => .inr rfl
  | .non, _, _ => .inr rfl
  | .bl _, _, _ => .inr rfl
  | .int _, _, _ => .inr rfl
  | .str _, _, _ => .inr rfl
  | .glo x, ρ, μ => by simp only [ev, hc]; exact .inr rfl
  | .bin o a b, ρ, μ => by simp only [ev]; exact (ev_le hf hc a ρ μ).bind fun d μ => (ev_le hf hc b ρ μ).bind fun _ _ => .inr rfl
  | .neg a, ρ, μ => by simp only [ev]; exact (ev_le hf hc a ρ μ).bind fun _ _ => .inr rfl
  | .cmp o a b, ρ, μ => by simp only [ev]; exact (ev_le hf hc a ρ μ).bind fun d μ => (ev_le hf hc b ρ μ).bind fun _ _ => .inr rfl
  | .not a, ρ, μ => by simp only [ev]; exact (ev_le hf hc a ρ μ).bind fun _ _ => .inr rfl
  | .and a b, ρ, μ => by simp only [ev]; exact (ev_le hf hc a ρ μ).bind fun d μ => LeO.tru (ev_le hf hc b ρ μ) (.inr rfl)
  | .or a b, ρ, μ => by simp only [ev]; exact (ev_le hf hc a ρ μ).bind fun d μ => LeO.tru (.inr rfl) (ev_le hf hc b ρ μ)
  | .ite c a b, ρ, μ => by simp only [ev]; exact (ev_le hf hc c ρ μ).bind fun d μ => LeO.tru (ev_le hf hc a ρ μ) (ev_le hf hc b ρ μ)
  | .nil, _, _ => .inr rfl
  | .cons a as, ρ, μ => by simp only [ev]; exact (ev_le hf hc a ρ μ).bind fun d μ => (ev_le hf hc as ρ μ).bind fun _ _ => .inr rfl
  | .tup as, ρ, μ => by simp only [ev]; exact (ev_le hf hc as ρ μ).bind fun _ _ => .inr rfl
  | .lst m as, ρ, μ => by simp only [ev]; exact (ev_le hf hc as ρ μ).bind fun _ _ => .inr rfl
  | .ix a i, ρ, μ => by simp only [ev]; exact (ev_le hf hc a ρ μ).bind fun d μ => (ev_le hf hc i ρ μ).bind fun _ _ => .inr rfl
  | .sl a lo hi, ρ, μ => by
    simp only [ev]
    refine (ev_le hf hc a ρ μ).bind fun d μ => (ev_le hf hc lo ρ μ).bind fun l μ => ?_
    cases l <;> first | exact .inl rfl | exact (ev_le hf hc hi ρ μ).bind fun _ _ => .inr rfl
  | .slf a lo, ρ, μ => by simp only [ev]; exact (ev_le hf hc a ρ μ).bind fun d μ => (ev_le hf hc lo ρ μ).bind fun _ _ => .inr rfl
  | .slt a hi, ρ, μ => by simp only [ev]; exact (ev_le hf hc a ρ μ).bind fun d μ => (ev_le hf hc hi ρ μ).bind fun _ _ => .inr rfl
  | .sla a, ρ, μ => by simp only [ev]; exact (ev_le hf hc a ρ μ).bind fun _ _ => .inr rfl
  | .bi f a, ρ, μ => by simp only [ev]; exact (ev_le hf hc a ρ μ).bind fun _ _ => .inr rfl
  | .bi2 f a b, ρ, μ => by simp only [ev]; exact (ev_le hf hc a ρ μ).bind fun d μ => (ev_le hf hc b ρ μ).bind fun _ _ => .inr rfl
  | .isi a t, ρ, μ => by simp only [ev]; exact (ev_le hf hc a ρ μ).bind fun _ _ => .inr rfl
  | .mth0 f o, ρ, μ => by simp only [ev]; exact (ev_le hf hc o ρ μ).bind fun _ _ => .inr rfl
  | .mth1 f o a, ρ, μ => by
    simp only [ev]
    refine (ev_le hf hc o ρ μ).bind fun d μ => ?_
    split
    · exact (ev_le hf hc a ρ μ).bind fun _ _ => .inr rfl
    · exact .inl rfl
  | .call f as, ρ, μ => by
    simp only [ev]
    refine (ev_le hf hc as ρ μ).bind fun d μ => ?_
    cases d <;> first | exact .inl rfl | exact callF_le (hf f) _ _
  | .fld o f, ρ, μ => by simp only [ev]; exact (ev_le hf hc o ρ μ).bind fun _ _ => .inr rfl
  | .one a, ρ, μ => by simp only [ev]; exact ev_le hf hc a ρ μ
  | .comp x m own t src c elt, ρ, μ => by
    simp only [ev]
    rcases evW_le hf hc src ρ μ with h | h
    · rw [h]; exact .inl rfl
    · rw [h]
      cases evW Γ src ρ μ with
      | ok ds chk μ1 => exact compL_le (ev_le hf hc c) (ev_le hf hc elt) ds [] ρ μ1
      | exc z μ1 => exact .inr rfl
      | stuck => exact .inl rfl
  | .fmt a, ρ, μ => by simp only [ev]; exact (ev_le hf hc a ρ μ).bind fun _ _ => .inr rfl
  | .fstr as, ρ, μ => by simp only [ev]; exact evF_le hf hc as _ ρ μ
theorem evF_le (hf : ∀ f, LeF (Γ.fn f) (Γ'.fn f)) (hc : Γ'.cst = Γ.cst) : ∀ (e : E) (z : Str) (ρ : Ro) (μ : Store), LeO (evF Γ e z ρ μ) (evF Γ' e z ρ μ)
  | .nil, z, ρ, μ => .inr rfl
  | .cons a as, z, ρ, μ => by
    simp only [evF]
    refine (ev_le hf hc a ρ μ).bind fun d μ => ?_
    cases d <;> first | exact .inl rfl | (simp only; split; exact evF_le hf hc as _ ρ μ; exact .inl rfl)
  | .var _, _, _, _ => .inr rfl
  | .non, _, _, _ => .inr rfl
  | .bl _, _, _, _ => .inr rfl
  | .int _, _, _, _ => .inr rfl
  | .str _, _, _, _ => .inr rfl
  | .glo _, _, _, _ => .inr rfl
  | .bin .., _, _, _ => .inr rfl
  | .neg _, _, _, _ => .inr rfl
  | .cmp .., _, _, _ => .inr rfl
  | .not _, _, _, _ => .inr rfl
  | .and .., _, _, _ => .inr rfl
  | .or .., _, _, _ => .inr rfl
  | .ite .., _, _, _ => .inr rfl
  | .tup _, _, _, _ => .inr rfl
  | .lst .., _, _, _ => .inr rfl
  | .ix .., _, _, _ => .inr rfl
  | .sl .., _, _, _ => .inr rfl
  | .slf .., _, _, _ => .inr rfl
  | .slt .., _, _, _ => .inr rfl
  | .sla _, _, _, _ => .inr rfl
  | .bi .., _, _, _ => .inr rfl
  | .bi2 .., _, _, _ => .inr rfl
  | .isi .., _, _, _ => .inr rfl
  | .mth0 .., _, _, _ => .inr rfl
  | .mth1 .., _, _, _ => .inr rfl
  | .call .., _, _, _ => .inr rfl
  | .fld .., _, _, _ => .inr rfl
  | .one _, _, _, _ => .inr rfl
  | .comp .., _, _, _ => .inr rfl
  | .fmt _, _, _, _ => .inr rfl
  | .fstr _, _, _, _ => .inr rfl
theorem evW_le (hf : ∀ f, LeF (Γ.fn f) (Γ'.fn f)) (hc : Γ'.cst = Γ.cst) : ∀ (e : W) (ρ : Ro) (μ : Store), LeW (evW Γ e ρ μ) (evW Γ' e ρ μ)
  | .it a, ρ, μ => by
    simp only [evW]
    rcases ev_le hf hc a ρ μ with h | h
    · rw [h]; exact .inl rfl
    · rw [h]; exact .inr rfl
  | .range1 a, ρ, μ => by
    simp only [evW]
    rcases ev_le hf hc a ρ μ with h | h
    · rw [h]; exact .inl rfl
    · rw [h]; exact .inr rfl
  | .range2 a b, ρ, μ => by
    simp only [evW]
    rcases ev_le hf hc a ρ μ with h | h
    · rw [h]; exact .inl rfl
    · rw [h]
      cases ev Γ a ρ μ with
      | ok d μ1 =>
        cases d with
        | int i =>
          simp only
          rcases ev_le hf hc b ρ μ1 with h | h
          · rw [h]; exact .inl rfl
          · rw [h]; exact .inr rfl
        | _ => exact .inl rfl
      | exc x μ1 => exact .inr rfl
      | stuck => exact .inl rfl
end
theorem clauses_le (hf : ∀ f, LeF (Γ.fn f) (Γ'.fn f)) (hc : Γ'.cst = Γ.cst) (hs : Γ'.sub = Γ.sub) (x : Exn) (ρ : Ro) (μ : Store) : ∀ hs : List (Str × E), LeS (clauses Γ x ρ μ hs) (clauses Γ' x ρ μ hs)
  | [] => .inr rfl
  | (C, e) :: r => by
    simp only [clauses, hs]
    exact LeS.tru ((ev_le hf hc e ρ μ).sbind fun _ _ => .inr rfl) (clauses_le hf hc hs x ρ μ r)
theorem evS_le (hf : ∀ f, LeF (Γ.fn f) (Γ'.fn f)) (hc : Γ'.cst = Γ.cst) (hs : Γ'.sub = Γ.sub) (hx : Γ'.exf = Γ.exf) (hu : Γ'.fuel = Γ.fuel) : ∀ (e : S) (ρ : Ro) (μ : Store), LeS (evS Γ e ρ μ) (evS Γ' e ρ μ)
  | .skip, _, _ => .inr rfl
  | .seq a b, ρ, μ => by simp only [evS]; exact (evS_le hf hc hs hx hu a ρ μ).seq fun ρ μ => evS_le hf hc hs hx hu b ρ μ
  | .set t e, ρ, μ => by simp only [evS]; exact (ev_le hf hc e ρ μ).sbind fun _ _ => .inr rfl
  | .par2 i j a b, ρ, μ => by simp only [evS]; exact (ev_le hf hc a ρ μ).sbind fun _ μ => (ev_le hf hc b ρ μ).sbind fun _ _ => .inr rfl
  | .par3 i j k a b c, ρ, μ => by simp only [evS]; exact (ev_le hf hc a ρ μ).sbind fun _ μ => (ev_le hf hc b ρ μ).sbind fun _ μ => (ev_le hf hc c ρ μ).sbind fun _ _ => .inr rfl
  | .aug i o e, ρ, μ => by
    simp only [evS]
    split
    · exact (ev_le hf hc e ρ μ).sbind fun _ _ => .inr rfl
    · exact .inl rfl
  | .sub o i e, ρ, μ => by simp only [evS]; exact (ev_le hf hc e ρ μ).sbind fun _ μ => (ev_le hf hc o ρ μ).sbind fun _ μ => (ev_le hf hc i ρ μ).sbind fun _ _ => .inr rfl
  | .ite c a b, ρ, μ => by simp only [evS]; exact (ev_le hf hc c ρ μ).sbind fun _ μ => LeS.tru (evS_le hf hc hs hx hu a ρ μ) (evS_le hf hc hs hx hu b ρ μ)
  | .for t src b, ρ, μ => by
    simp only [evS]
    rcases evW_le hf hc src ρ μ with h | h
    · rw [h]; exact .inl rfl
    · rw [h]
      cases evW Γ src ρ μ with
      | ok ds chk μ1 => exact forL_le (evS_le hf hc hs hx hu b) ds ρ μ1
      | exc z μ1 => exact .inr rfl
      | stuck => exact .inl rfl
  | .whil c b, ρ, μ => by simp only [evS, hu]; exact whileL_le (ev_le hf hc c) (evS_le hf hc hs hx hu b) _ ρ μ
  | .ret e, ρ, μ => by simp only [evS]; exact (ev_le hf hc e ρ μ).sbind fun _ _ => .inr rfl
  | .ret0, _, _ => .inr rfl
  | .brk, _, _ => .inr rfl
  | .cont, _, _ => .inr rfl
  | .exp e, ρ, μ => by simp only [evS]; exact (ev_le hf hc e ρ μ).sbind fun _ _ => .inr rfl
  | .rais C as, ρ, μ => by
    simp only [evS]
    refine (ev_le hf hc as ρ μ).sbind fun d _ => ?_
    unfold raisD
    rw [hx]
    exact .inr rfl
  | .trys b l, ρ, μ => by
    simp only [evS]
    rcases evS_le hf hc hs hx hu b ρ μ with h | h
    · rw [h]; exact .inl rfl
    · rw [h]
      cases evS Γ b ρ μ with
      | exc x ρ1 μ1 => exact clauses_le hf hc hs x ρ1 μ1 l
      | stuck => exact .inl rfl
      | _ => exact .inr rfl
  | .tryas b C i es, ρ, μ => by
    simp only [evS, hs]
    rcases evS_le hf hc hs hx hu b ρ μ with h | h
    · rw [h]; exact .inl rfl
    · rw [h]; exact .inr rfl
  | .tryr b C C2 as, ρ, μ => by
    simp only [evS, hs]
    rcases evS_le hf hc hs hx hu b ρ μ with h | h
    · rw [h]; exact .inl rfl
    · rw [h]
      cases evS Γ b ρ μ with
      | exc x ρ1 μ1 =>
        simp only
        refine LeS.tru ?_ (.inr rfl)
        split
        · refine (ev_le hf hc as ρ1 μ1).sbind fun d _ => ?_
          unfold raisD
          rw [hx]
          exact .inr rfl
        · exact .inl rfl
      | stuck => exact .inl rfl
      | _ => exact .inr rfl
end
theorem fnL_succ {tab : List (Str × FnT)} {B : Bs} : ∀ (n : Nat) (f : Str), LeF (fnL tab B n f) (fnL tab B (n + 1) f)
  | 0, f, ds, μ => .inl rfl
  | n + 1, f, ds, μ => by
    simp only [fnL]
    split
    · rename_i d _
      unfold runFn
      split
      · rcases evS_le (Γ := gmL tab B n) (Γ' := gmL tab B (n + 1)) (fun f => fnL_succ n f) rfl rfl rfl rfl d.code (ds.map some ++ List.replicate (d.N.length - ds.length) none) μ with h | h
        · left; show outS (evS (gmL tab B n) _ _ _) = _; rw [h]; rfl
        · right; show outS (evS (gmL tab B (n + 1)) _ _ _) = outS (evS (gmL tab B n) _ _ _); rw [h]
      · exact .inl rfl
    · exact .inl rfl
theorem fnL_le {tab : List (Str × FnT)} {B : Bs} {m n : Nat} (h : m ≤ n) (f : Str) (ds : List D) (μ : Store) : LeO (fnL tab B m f ds μ) (fnL tab B n f ds μ) := by
  induction h with
  | refl => exact .inr rfl
  | @step n h ih =>
    rcases ih with e | e
    · exact .inl e
    · rcases fnL_succ n f ds μ with e2 | e2
      · left; rw [← e]; exact e2
      · right; rw [e2, e]
/-- what is known at a level -/
theorem fnL_up {tab : List (Str × FnT)} {B : Bs} {m n : Nat} (h : m ≤ n) {f : Str} {ds : List D} {μ : Store} {o : Out} (e : fnL tab B m f ds μ = o) (ho : o ≠ .stuck) : fnL tab B n f ds μ = o := by
  rcases fnL_le (tab := tab) (B := B) h f ds μ with z | z
  · exact absurd (e.symm.trans z) ho
  · rw [z, e]
end KA
set_option Elab.async false
set_option linter.all false
set_option maxRecDepth 100000
set_option maxHeartbeats 4000000
/-! KA27: == of data. -/
namespace KA
open PySem L2
/-- data whose texts are all of code points -/
abbrev D.lay (d : D) : Prop := d.py.canLay0 = true
theorem lay_int (i : Int) : (D.int i).lay := rfl
theorem lay_bl (b : Bool) : (D.bl b).lay := rfl
theorem lay_str {x : Str} (h : x.cps.all (· < 0x110000) = true) : (D.str x).lay := h
theorem lay_pys : ∀ {ds : List D}, (∀ d ∈ ds, d.lay) → PyData.canLayAll0 (D.pys ds) = true
  | [], _ => rfl
  | d :: ds, h => by
    simp only [D.pys, PyData.canLayAll0, Bool.and_eq_true]
    exact ⟨h d (by simp), lay_pys fun e he => h e (by simp [he])⟩
theorem lay_tup {ds : List D} (h : ∀ d ∈ ds, d.lay) : (D.tup ds).lay := by
  show PyData.canLay0 (D.tup ds).py = true
  simp only [D.py, PyData.canLay0]; exact lay_pys h
theorem lay_lst {ds : List D} (h : ∀ d ∈ ds, d.lay) : (D.lst ds).lay := by
  show PyData.canLay0 (D.lst ds).py = true
  simp only [D.py, PyData.canLay0]; exact lay_pys h
mutual
theorem eqv_refl : ∀ d : D, PyData.eqv d.py d.py = true
  | .non => rfl
  | .bl b => by simp [D.py, PyData.eqv]
  | .int _ => by simp [D.py, PyData.eqv]
  | .str _ => by simp [D.py, PyData.eqv]
  | .loc _ => rfl
  | .tup xs => by simp only [D.py, PyData.eqv]; exact eqvs_refl xs
  | .lst xs => by simp only [D.py, PyData.eqv]; exact eqvs_refl xs
theorem eqvs_refl : ∀ ds : List D, PyData.eqvAll (D.pys ds) (D.pys ds) = true
  | [] => rfl
  | d :: ds => by simp only [D.pys, PyData.eqvAll, Bool.and_eq_true]; exact ⟨eqv_refl d, eqvs_refl ds⟩
end
theorem shaped_of {d : D} (hl : d.lay) (h : d.py.depth ≤ 64) : SeqAt.shaped d.py = true := by
  unfold SeqAt.shaped
  rw [hl, decide_eq_true h]; rfl
theorem dep_tup {xs : List D} {k : Nat} (h : ∀ d ∈ xs, d.py.depth ≤ k) : (D.tup xs).py.depth ≤ k + 1 := by
  have : ∀ {xs : List D}, (∀ d ∈ xs, d.py.depth ≤ k) → PyData.depthAll (D.pys xs) ≤ k := fun {xs} h => by
    induction xs with
    | nil => simp [D.pys, PyData.depthAll]
    | cons x xs ih =>
      have h1 := h x (by simp)
      have h2 := ih fun d hd => h d (by simp [hd])
      simp only [D.pys, PyData.depthAll]
      omega
  simp only [D.py, PyData.depth]
  have := this h
  omega
theorem dep_lst {xs : List D} {k : Nat} (h : ∀ d ∈ xs, d.py.depth ≤ k) : (D.lst xs).py.depth ≤ k + 1 := by
  have := dep_tup h
  simpa only [D.py, PyData.depth] using this
/-- a list against a list, read -/
theorem eqD_list {μ : Store} {x y : D} {xs ys : List D} (hx : vw μ x = .lst xs) (hy : vw μ y = .lst ys) (nx : dscal x y = false) (px : D.pures xs = true) (py : D.pures ys = true) (lx : (D.lst xs).lay) (ly : (D.lst ys).lay) (dx : (D.lst xs).py.depth ≤ 64) (dy : (D.lst ys).py.depth ≤ 64) : eqD μ x y = some (PyData.eqv (D.lst xs).py (D.lst ys).py) := by
  unfold eqD
  rw [nx, hx, hy]
  simp only [D.pure, px, py, shaped_of lx dx, shaped_of ly dy, Bool.and_self, if_true, Bool.false_eq_true, if_false]
theorem eqD_refl {μ : Store} {x : D} (hs : dscal x x = false) (hx : vw μ x = x) (hp : x.pure = true) (lx : x.lay) (dx : x.py.depth ≤ 64) : eqD μ x x = some true := by
  unfold eqD
  rw [hs, hx]
  simp only [hp, shaped_of lx dx, eqv_refl, Bool.and_self, if_true, Bool.false_eq_true, if_false]
theorem eqv_nil : ∀ {xs : List D}, PyData.eqv (D.lst xs).py (D.lst []).py = xs.isEmpty
  | [] => rfl
  | x :: xs => rfl
end KA
set_option Elab.async false
set_option linter.all false
set_option maxRecDepth 100000
set_option maxHeartbeats 4000000
/-! K82a: the law's trees. -/
namespace K82
open PySem L2 KA
abbrev P0 : Program := PySem.Challenge.pw_kinkatlas_k82_texts_of_papers
def top (i : Nat) : Stmt := P0.main.body.getD i (.Pass ⟨0, 0, 0, 0⟩)
def c_is_integer_10 : S := (.seq (.ret (.and (.isi (.var 0) .int) (.one (.not (.isi (.var 0) .bool)))))
  .skip)
def c_is_ratio_11 : S := (.seq (.ite (.or (.not (.isi (.var 0) .tuple)) (.one (.cmp .ne (.bi .len (.var 0)) (.int 2)))) (.seq (.ret (.bl false))
  .skip) .skip)
  (.seq (.ite (.or (.not (.call "is_integer" (.cons (.ix (.var 0) (.int 0)) .nil))) (.one (.not (.call "is_integer" (.cons (.ix (.var 0) (.int 1)) .nil))))) (.seq (.ret (.bl false))
  .skip) .skip)
  (.seq (.ret (.and (.cmp .gt (.ix (.var 0) (.int 1)) (.int 0)) (.one (.cmp .eq (.bi2 .gcd (.ix (.var 0) (.int 0)) (.ix (.var 0) (.int 1))) (.int 1)))))
  .skip)))
def c_text_12 : S := (.seq (.ite (.or (.cmp .ge (.bi .abs (.ix (.var 0) (.int 0))) (.glo "TOO_GREAT")) (.one (.cmp .ge (.ix (.var 0) (.int 1)) (.glo "TOO_GREAT")))) (.seq (.rais "BadRatio" .nil)
  .skip) .skip)
  (.seq (.ite (.cmp .eq (.ix (.var 0) (.int 1)) (.int 1)) (.seq (.ret (.bi .str (.ix (.var 0) (.int 0))))
  .skip) .skip)
  (.seq (.ret (.bin .add (.bin .add (.bi .str (.ix (.var 0) (.int 0))) (.str "/")) (.bi .str (.ix (.var 0) (.int 1)))))
  .skip)))
def b_13_0 : S := (.seq (.ite (.cmp .notin (.var 1) (.glo "DIGITS")) (.seq (.rais "BadRatio" .nil)
  .skip) .skip)
  .skip)
def l_13_1 : S := (.for (.name 1) (.it (.var 0)) b_13_0)
def c_digits_value_13 : S := (.seq (.ite (.or (.cmp .eq (.var 0) (.str "")) (.or (.cmp .gt (.bi .len (.var 0)) (.glo "MOST_FIGURES")) (.one (.and (.cmp .eq (.ix (.var 0) (.int 0)) (.str "0")) (.one (.cmp .ne (.var 0) (.str "0"))))))) (.seq (.rais "BadRatio" .nil)
  .skip) .skip)
  (.seq l_13_1
  (.seq (.ret (.bi .int (.var 0)))
  .skip)))
def c_parse_ratios_14 : S := (.seq (.set (.tup (.cons (.name 1) (.cons (.name 2) (.cons (.name 3) .nil)))) (.mth1 .partition (.var 0) (.str "/")))
  (.seq (.set (.name 4) (.cmp .eq (.slt (.var 1) (.int 1)) (.str "-")))
  (.seq (.set (.name 5) (.tup (.cons (.call "digits_value" (.cons (.ite (.var 4) (.slf (.var 1) (.int 1)) (.var 1)) .nil)) (.cons (.ite (.var 2) (.call "digits_value" (.cons (.var 3) .nil)) (.int 1)) .nil))))
  (.seq (.ite (.var 4) (.seq (.set (.name 5) (.tup (.cons (.neg (.ix (.var 5) (.int 0))) (.cons (.ix (.var 5) (.int 1)) .nil))))
  .skip) .skip)
  (.seq (.ite (.or (.not (.call "is_ratio" (.cons (.var 5) .nil))) (.or (.and (.var 4) (.one (.cmp .eq (.ix (.var 5) (.int 0)) (.int 0)))) (.one (.and (.var 2) (.one (.cmp .eq (.ix (.var 5) (.int 1)) (.int 1))))))) (.seq (.rais "BadRatio" .nil)
  .skip) .skip)
  (.seq (.ret (.var 5))
  .skip))))))
def c_count_of_17 : S := (.seq (.ite (.cmp .gt (.bi .len (.var 0)) (.glo "MOST_COUNT_FIGURES")) (.seq (.rais "BadRatio" .nil)
  .skip) .skip)
  (.seq (.ret (.call "digits_value" (.cons (.var 0) .nil)))
  .skip))
def e_19_0 : E := (.call "text" (.cons (.var 5) .nil))
def x_19_1 : E := (.comp true false [5] (.name 5) (.it (.ix (.var 3) (.int 1))) (.bl true) e_19_0)
def e_19_2 : E := (.call "text" (.cons (.var 5) .nil))
def x_19_3 : E := (.comp true false [5] (.name 5) (.it (.ix (.var 3) (.int 2))) (.bl true) e_19_2)
def b_19_4 : S := (.seq (.set (.name 3) (.mth0 .pop (.var 2)))
  (.seq (.ite (.cmp .eq (.ix (.var 3) (.int 0)) (.str "leaf")) (.seq (.set (.name 4) (.bin .add (.bin .add (.bin .add (.lst false (.cons (.str "leaf") .nil)) x_19_1) (.lst false (.cons (.str ":") .nil))) x_19_3))
  (.seq (.exp (.mth1 .append (.var 1) (.mth1 .join (.str " ") (.var 4))))
  .skip)) (.seq (.exp (.mth1 .append (.var 1) (.fstr (.cons (.str "unit ") (.cons (.fmt (.ix (.var 3) (.int 1))) .nil)))))
  (.seq (.exp (.mth1 .extend (.var 2) (.lst false (.cons (.ix (.var 3) (.int 3)) (.cons (.ix (.var 3) (.int 2)) .nil)))))
  .skip)))
  .skip))
def w_19_5 : E := (.cmp .ne (.var 2) (.lst false .nil))
def l_19_6 : S := (.whil w_19_5 b_19_4)
def c_rows_of_19 : S := (.seq (.set (.name 1) (.lst true .nil))
  (.seq (.set (.name 2) (.lst true (.cons (.var 0) .nil)))
  (.seq l_19_6
  (.seq (.ret (.var 1))
  .skip))))
def e_20_0 : E := (.bin .add (.var 1) (.str "\n"))
def x_20_1 : E := (.comp false false [1] (.name 1) (.it (.call "rows_of" (.cons (.var 0) .nil))) (.bl true) e_20_0)
def c_text_of_20 : S := (.seq (.ret (.mth1 .join (.str "") x_20_1))
  .skip)
def e_21_0 : E := (.call "parse_ratios" (.cons (.var 3) .nil))
def x_21_1 : E := (.comp true false [3] (.name 3) (.it (.slf (.var 0) (.bin .add (.var 1) (.int 1)))) (.bl true) e_21_0)
def e_21_2 : E := (.call "parse_ratios" (.cons (.var 3) .nil))
def x_21_3 : E := (.comp true false [3] (.name 3) (.it (.slt (.var 0) (.var 1))) (.bl true) e_21_2)
def c_leaf_of_21 : S := (.seq (.ite (.cmp .ne (.mth1 .count (.var 0) (.str ":")) (.int 1)) (.seq (.rais "BadRatio" .nil)
  .skip) .skip)
  (.seq (.set (.name 1) (.mth1 .index (.var 0) (.str ":")))
  (.seq (.set (.name 2) (.bi .tuple x_21_3))
  (.seq (.ret (.tup (.cons (.str "leaf") (.cons (.var 2) (.cons (.bi .tuple x_21_1) .nil)))))
  .skip))))
def c_row_of_22 : S := (.seq (.set (.name 2) (.mth1 .split (.var 0) (.str " ")))
  (.seq (.tryr (.seq (.ite (.cmp .eq (.ix (.var 2) (.int 0)) (.str "leaf")) (.seq (.ret (.call "leaf_of" (.cons (.slf (.var 2) (.int 1)) .nil)))
  .skip) .skip)
  (.seq (.ite (.or (.cmp .ne (.ix (.var 2) (.int 0)) (.str "unit")) (.one (.cmp .ne (.bi .len (.var 2)) (.int 2)))) (.seq (.rais "BadRatio" .nil)
  .skip) .skip)
  (.seq (.ret (.call "count_of" (.cons (.ix (.var 2) (.int 1)) .nil)))
  .skip))) "BadRatio" "BadText" (.cons (.bin .add (.var 1) (.int 1)) .nil))
  .skip))
def b_23_0 : S := (.seq (.set (.tup (.cons (.name 6) (.cons (.name 7) .nil))) (.mth0 .pop (.var 2)))
  (.seq (.set (.name 5) (.tup (.cons (.str "unit") (.cons (.var 6) (.cons (.var 7) (.cons (.var 5) .nil))))))
  .skip))
def w_23_1 : E := (.and (.cmp .ne (.var 2) (.lst false .nil)) (.one (.cmp .isnot (.ix (.ix (.var 2) (.neg (.int 1))) (.int 1)) .non)))
def l_23_2 : S := (.whil w_23_1 b_23_0)
def b_23_3 : S := (.seq (.ite (.cmp .ge (.var 3) (.bin .sub (.bi .len (.var 1)) (.int 1))) (.seq (.rais "BadText" (.cons (.bin .add (.var 3) (.int 1)) .nil))
  .skip) .skip)
  (.seq (.set (.name 5) (.call "row_of" (.cons (.ix (.var 1) (.var 3)) (.cons (.var 3) .nil))))
  (.seq (.aug 3 .add (.int 1))
  (.seq (.ite (.not (.isi (.var 5) .tuple)) (.seq (.exp (.mth1 .append (.var 2) (.tup (.cons (.var 5) (.cons .non .nil)))))
  (.seq .cont
  .skip)) .skip)
  (.seq l_23_2
  (.seq (.ite (.cmp .eq (.var 2) (.lst false .nil)) (.seq (.set (.name 4) (.var 5))
  .skip) (.seq (.exp (.mth1 .append (.var 2) (.tup (.cons (.ix (.mth0 .pop (.var 2)) (.int 0)) (.cons (.var 5) .nil)))))
  .skip))
  .skip))))))
def w_23_4 : E := (.cmp .is_ (.var 4) .non)
def l_23_5 : S := (.whil w_23_4 b_23_3)
def c_parse_23 : S := (.seq (.set (.name 1) (.mth1 .split (.var 0) (.str "\n")))
  (.seq (.set (.name 2) (.lst true .nil))
  (.seq (.set (.name 3) (.int 0))
  (.seq (.set (.name 4) .non)
  (.seq l_23_5
  (.seq (.ite (.or (.cmp .ne (.var 3) (.bin .sub (.bi .len (.var 1)) (.int 1))) (.one (.cmp .ne (.ix (.var 1) (.neg (.int 1))) (.str "")))) (.seq (.rais "BadText" (.cons (.bin .add (.var 3) (.int 1)) .nil))
  .skip) .skip)
  (.seq (.ret (.var 4))
  .skip)))))))
def c__law_cell_26 : S := (.seq (.ite (.cmp .lt (.var 1) (.bi .len (.var 0))) (.seq (.ret (.bi .int (.ix (.var 0) (.var 1))))
  .skip) .skip)
  (.seq (.ret (.int 0))
  .skip))
def c__law_rich_27 : S := (.seq (.ite (.cmp .ge (.var 0) (.bin .pow (.int 10) (.int 18))) (.seq (.ret (.bi .int (.var 0)))
  .skip) .skip)
  (.seq (.set (.name 2) (.bin .mod (.bi .int (.bin .add (.bin .add (.bin .mul (.var 0) (.int 48271)) (.bin .mul (.var 1) (.int 69621))) (.int 11))) (.int 2147483647)))
  (.seq (.ret (.bin .add (.bin .mul (.var 2) (.int 2147483629)) (.bin .mod (.bi .int (.bin .add (.bin .mul (.var 2) (.int 16807)) (.var 0))) (.int 2147483629))))
  .skip)))
def b_28_0 : S := (.seq (.par2 2 3 (.var 3) (.bin .sub (.var 2) (.bin .mul (.bin .fdiv (.var 2) (.var 3)) (.var 3))))
  .skip)
def w_28_1 : E := (.cmp .gt (.var 3) (.int 0))
def l_28_2 : S := (.whil w_28_1 b_28_0)
def c__law_make_28 : S := (.seq (.par2 2 3 (.bi .abs (.var 0)) (.bi .abs (.var 1)))
  (.seq l_28_2
  (.seq (.ite (.cmp .lt (.var 1) (.int 0)) (.seq (.set (.name 2) (.neg (.var 2)))
  .skip) .skip)
  (.seq (.ret (.tup (.cons (.bin .fdiv (.var 0) (.var 2)) (.cons (.bin .fdiv (.var 1) (.var 2)) .nil))))
  .skip))))
def c__law_add_29 : S := (.seq (.ret (.call "_law_make" (.cons (.bin .add (.bin .mul (.ix (.var 0) (.int 0)) (.ix (.var 1) (.int 1))) (.bin .mul (.ix (.var 1) (.int 0)) (.ix (.var 0) (.int 1)))) (.cons (.bin .mul (.ix (.var 0) (.int 1)) (.ix (.var 1) (.int 1))) .nil))))
  .skip)
def c__law_mul_30 : S := (.seq (.ret (.call "_law_make" (.cons (.bin .mul (.ix (.var 0) (.int 0)) (.ix (.var 1) (.int 0))) (.cons (.bin .mul (.ix (.var 0) (.int 1)) (.ix (.var 1) (.int 1))) .nil))))
  .skip)
def c__law_less_31 : S := (.seq (.ret (.cmp .lt (.bin .mul (.ix (.var 0) (.int 0)) (.ix (.var 1) (.int 1))) (.bin .mul (.ix (.var 1) (.int 0)) (.ix (.var 0) (.int 1)))))
  .skip)
def c__law_ratio_32 : S := (.seq (.set (.name 1) (.bin .sub (.bin .mod (.var 0) (.int 13)) (.int 6)))
  (.seq (.ite (.cmp .eq (.bin .mod (.bin .fdiv (.var 0) (.int 13)) (.int 5)) (.int 0)) (.seq (.set (.name 1) (.bin .sub (.bin .mod (.bin .fdiv (.var 0) (.int 65)) (.int 201)) (.int 100)))
  .skip) .skip)
  (.seq (.ret (.call "_law_make" (.cons (.var 1) (.cons (.ix (.lst false (.cons (.int 1) (.cons (.int 1) (.cons (.int 1) (.cons (.int 2) (.cons (.int 3) (.cons (.int 4) (.cons (.int 7) .nil)))))))) (.bin .mod (.bin .fdiv (.var 0) (.int 13065)) (.int 7))) .nil))))
  .skip)))
def b_33_0 : S := (.seq (.set (.name 2) (.call "_law_add" (.cons (.var 2) (.cons (.call "_law_mul" (.cons (.ix (.var 0) (.var 3)) (.cons (.ix (.var 1) (.var 3)) .nil))) .nil))))
  .skip)
def l_33_1 : S := (.for (.name 3) (.range1 (.bi .len (.var 0))) b_33_0)
def c__law_dot_33 : S := (.seq (.set (.name 2) (.tup (.cons (.int 0) (.cons (.int 1) .nil))))
  (.seq l_33_1
  (.seq (.ret (.var 2))
  .skip)))
def e_34_0 : E := (.call "_law_ratio" (.cons (.bin .fdiv (.var 0) (.bin .add (.int 5) (.bin .mul (.int 2) (.var 3)))) .nil))
def x_34_1 : E := (.comp false false [3] (.name 3) (.range1 (.bin .mod (.bin .fdiv (.var 0) (.int 18)) (.int 4))) (.bl true) e_34_0)
def e_34_2 : E := (.call "_law_ratio" (.cons (.bin .fdiv (.var 0) (.bin .add (.int 7) (.bin .mul (.int 3) (.var 3)))) .nil))
def x_34_3 : E := (.comp false false [3] (.name 3) (.range1 (.bin .mod (.bin .fdiv (.var 0) (.int 3)) (.int 6))) (.bl true) e_34_2)
def c__law_paper_34 : S := (.seq (.ite (.or (.cmp .eq (.var 1) (.int 0)) (.one (.cmp .eq (.bin .mod (.var 0) (.int 3)) (.int 0)))) (.seq (.set (.name 2) (.bi .tuple x_34_3))
  (.seq (.ret (.tup (.cons (.str "leaf") (.cons (.var 2) (.cons (.bi .tuple x_34_1) .nil)))))
  .skip)) .skip)
  (.seq (.ret (.tup (.cons (.str "unit") (.cons (.ix (.lst false (.cons (.int 0) (.cons (.int 1) (.cons (.int 2) (.cons (.int 7) (.cons (.int 999999999) .nil)))))) (.bin .mod (.bin .fdiv (.var 0) (.int 3)) (.int 5))) (.cons (.call "_law_paper" (.cons (.bin .fdiv (.var 0) (.int 31)) (.cons (.bin .sub (.var 1) (.int 1)) .nil))) (.cons (.call "_law_paper" (.cons (.bin .add (.bin .fdiv (.var 0) (.int 17)) (.int 1)) (.cons (.bin .sub (.var 1) (.int 1)) .nil))) .nil))))))
  .skip))
def c__law_text_35 : S := (.seq (.ret (.ite (.cmp .eq (.ix (.var 0) (.int 1)) (.int 1)) (.bi .str (.ix (.var 0) (.int 0))) (.bin .add (.bin .add (.bi .str (.ix (.var 0) (.int 0))) (.str "/")) (.bi .str (.ix (.var 0) (.int 1))))))
  .skip)
def e_36_0 : E := (.call "_law_text" (.cons (.var 1) .nil))
def x_36_1 : E := (.comp false false [1] (.name 1) (.it (.ix (.var 0) (.int 1))) (.bl true) e_36_0)
def e_36_2 : E := (.call "_law_text" (.cons (.var 1) .nil))
def x_36_3 : E := (.comp false false [1] (.name 1) (.it (.ix (.var 0) (.int 2))) (.bl true) e_36_2)
def c__law_rows_36 : S := (.seq (.ite (.cmp .eq (.ix (.var 0) (.int 0)) (.str "leaf")) (.seq (.ret (.lst false (.cons (.mth1 .join (.str " ") (.bin .add (.bin .add (.bin .add (.lst false (.cons (.str "leaf") .nil)) x_36_1) (.lst false (.cons (.str ":") .nil))) x_36_3)) .nil)))
  .skip) .skip)
  (.seq (.ret (.bin .add (.bin .add (.lst false (.cons (.bin .add (.str "unit ") (.bi .str (.ix (.var 0) (.int 1)))) .nil)) (.call "_law_rows" (.cons (.ix (.var 0) (.int 2)) .nil))) (.call "_law_rows" (.cons (.ix (.var 0) (.int 3)) .nil))))
  .skip))
def e_37_0 : E := (.cmp .in_ (.var 1) (.str "0123456789"))
def x_37_1 : E := (.comp false false [1] (.name 1) (.it (.var 0)) (.bl true) e_37_0)
def c__law_number_37 : S := (.seq (.ite (.or (.cmp .eq (.var 0) (.str "")) (.or (.not (.bi .all x_37_1)) (.one (.and (.cmp .eq (.ix (.var 0) (.int 0)) (.str "0")) (.one (.cmp .ne (.var 0) (.str "0"))))))) (.seq (.ret (.neg (.int 1)))
  .skip) .skip)
  (.seq (.ret (.bi .int (.var 0)))
  .skip))
def c__law_read_38 : S := (.seq (.set (.tup (.cons (.name 1) (.cons (.name 2) (.cons (.name 3) .nil)))) (.mth1 .partition (.var 0) (.str "/")))
  (.seq (.set (.name 4) (.cmp .eq (.slt (.var 1) (.int 1)) (.str "-")))
  (.seq (.set (.name 5) (.call "_law_number" (.cons (.ite (.var 4) (.slf (.var 1) (.int 1)) (.var 1)) .nil)))
  (.seq (.set (.name 6) (.ite (.var 2) (.call "_law_number" (.cons (.var 3) .nil)) (.int 1)))
  (.seq (.ite (.or (.cmp .lt (.var 5) (.int 0)) (.or (.cmp .lt (.var 6) (.int 1)) (.or (.and (.var 2) (.one (.cmp .eq (.var 6) (.int 1)))) (.one (.and (.var 4) (.one (.cmp .eq (.var 5) (.int 0)))))))) (.seq (.ret .non)
  .skip) .skip)
  (.seq (.ite (.cmp .ne (.call "_law_make" (.cons (.var 5) (.cons (.var 6) .nil))) (.tup (.cons (.var 5) (.cons (.var 6) .nil)))) (.seq (.ret .non)
  .skip) .skip)
  (.seq (.ret (.tup (.cons (.ite (.var 4) (.neg (.var 5)) (.var 5)) (.cons (.var 6) .nil))))
  .skip)))))))
def e_39_0 : E := (.call "_law_read" (.cons (.var 4) .nil))
def x_39_1 : E := (.comp false false [4] (.name 4) (.it (.slf (.var 0) (.bin .add (.var 1) (.int 1)))) (.bl true) e_39_0)
def e_39_2 : E := (.call "_law_read" (.cons (.var 4) .nil))
def x_39_3 : E := (.comp false false [4] (.name 4) (.it (.slt (.var 0) (.var 1))) (.bl true) e_39_2)
def c__law_leaf_39 : S := (.seq (.ite (.cmp .ne (.mth1 .count (.var 0) (.str ":")) (.int 1)) (.seq (.ret .non)
  .skip) .skip)
  (.seq (.set (.name 1) (.mth1 .index (.var 0) (.str ":")))
  (.seq (.set (.name 2) x_39_3)
  (.seq (.set (.name 3) x_39_1)
  (.seq (.ite (.cmp .in_ .non (.bin .add (.var 2) (.var 3))) (.seq (.ret .non)
  .skip) .skip)
  (.seq (.ret (.tup (.cons (.str "leaf") (.cons (.bi .tuple (.var 2)) (.cons (.bi .tuple (.var 3)) .nil)))))
  .skip))))))
def c__law_paper_at_40 : S := (.seq (.ite (.cmp .ge (.var 1) (.bi .len (.var 0))) (.seq (.ret (.tup (.cons .non (.cons (.var 1) .nil))))
  .skip) .skip)
  (.seq (.set (.name 2) (.mth1 .split (.ix (.var 0) (.var 1)) (.str " ")))
  (.seq (.ite (.cmp .eq (.ix (.var 2) (.int 0)) (.str "leaf")) (.seq (.ret (.tup (.cons (.call "_law_leaf" (.cons (.slf (.var 2) (.int 1)) .nil)) (.cons (.ite (.cmp .isnot (.call "_law_leaf" (.cons (.slf (.var 2) (.int 1)) .nil)) .non) (.bin .add (.var 1) (.int 1)) (.var 1)) .nil))))
  .skip) .skip)
  (.seq (.ite (.or (.cmp .ne (.ix (.var 2) (.int 0)) (.str "unit")) (.or (.cmp .ne (.bi .len (.var 2)) (.int 2)) (.or (.cmp .gt (.bi .len (.ix (.var 2) (.int 1))) (.int 9)) (.one (.cmp .lt (.call "_law_number" (.cons (.ix (.var 2) (.int 1)) .nil)) (.int 0)))))) (.seq (.ret (.tup (.cons .non (.cons (.var 1) .nil))))
  .skip) .skip)
  (.seq (.set (.tup (.cons (.name 3) (.cons (.name 4) .nil))) (.call "_law_paper_at" (.cons (.var 0) (.cons (.bin .add (.var 1) (.int 1)) .nil))))
  (.seq (.ite (.cmp .is_ (.var 3) .non) (.seq (.ret (.tup (.cons .non (.cons (.var 4) .nil))))
  .skip) .skip)
  (.seq (.set (.tup (.cons (.name 5) (.cons (.name 6) .nil))) (.call "_law_paper_at" (.cons (.var 0) (.cons (.var 4) .nil))))
  (.seq (.ret (.tup (.cons (.ite (.cmp .is_ (.var 5) .non) .non (.tup (.cons (.str "unit") (.cons (.call "_law_number" (.cons (.ix (.var 2) (.int 1)) .nil)) (.cons (.var 3) (.cons (.var 5) .nil)))))) (.cons (.var 6) .nil))))
  .skip))))))))
def c__law_changed_41 : S := (.seq (.set (.name 2) (.bin .mod (.var 1) (.bi .len (.var 0))))
  (.seq (.set (.name 3) (.mth1 .splitM (.ix (.var 0) (.var 2)) (.str " ")))
  (.seq (.set (.name 4) (.bin .mod (.bin .fdiv (.var 1) (.int 40)) (.bi .len (.var 3))))
  (.seq (.set (.name 5) (.bin .mod (.bin .fdiv (.var 1) (.int 400)) (.int 6)))
  (.seq (.ite (.cmp .eq (.var 5) (.int 0)) (.seq (.ret (.bin .add (.slt (.var 0) (.var 2)) (.slf (.var 0) (.bin .add (.var 2) (.int 1)))))
  .skip) .skip)
  (.seq (.ite (.cmp .eq (.var 5) (.int 1)) (.seq (.ret (.bin .add (.slt (.var 0) (.bin .add (.var 2) (.int 1))) (.slf (.var 0) (.var 2))))
  .skip) .skip)
  (.seq (.ite (.cmp .eq (.var 5) (.int 2)) (.seq (.set (.name 3) (.bin .add (.slt (.var 3) (.var 4)) (.slf (.var 3) (.bin .add (.var 4) (.int 1)))))
  .skip) (.seq (.ite (.cmp .eq (.var 5) (.int 3)) (.seq (.set (.name 3) (.bin .add (.slt (.var 3) (.bin .add (.var 4) (.int 1))) (.slf (.var 3) (.var 4))))
  .skip) (.seq (.ite (.cmp .eq (.var 5) (.int 4)) (.seq (.sub (.var 3) (.var 4) (.ix (.lst false (.cons (.str "") (.cons (.str ":") (.cons (.str "leaf") (.cons (.str "unit") (.cons (.str "0") (.cons (.str "-0") (.cons (.str "4/2") (.cons (.str "1/2") (.cons (.str "01") (.cons (.str "x") (.cons (.str "1234567890") (.cons (.str "3/1") .nil))))))))))))) (.bin .mod (.bin .fdiv (.var 1) (.int 2400)) (.int 12))))
  .skip) .skip)
  .skip))
  .skip))
  (.seq (.ret (.bin .add (.bin .add (.slt (.var 0) (.var 2)) (.lst false (.cons (.mth1 .join (.str " ") (.var 3)) .nil))) (.slf (.var 0) (.bin .add (.var 2) (.int 1)))))
  .skip))))))))
def c__law_told_42 : S := (.seq (.tryas (.seq (.ret (.tup (.cons (.str "paper") (.cons (.call "parse_papertexts" (.cons (.var 0) .nil)) .nil))))
  .skip) "BadText" 1 [.s "row", .f "row"])
  .skip)
def b_43_0 : S := (.seq (.ite (.cmp .gt (.bi .len (.var 2)) (.int 0)) (.seq (.set (.name 2) (.call "_law_changed" (.cons (.var 2) (.cons (.call "_law_rich" (.cons (.call "_law_cell" (.cons (.var 0) (.cons (.bin .add (.int 2) (.var 5)) .nil))) (.cons (.var 5) .nil))) .nil))))
  .skip) .skip)
  .skip)
def l_43_1 : S := (.for (.name 5) (.range1 (.bin .mod (.var 4) (.int 3))) b_43_0)
def e_43_2 : E := (.bin .add (.var 10) (.str "\n"))
def x_43_3 : E := (.comp false false [10] (.name 10) (.it (.var 2)) (.bl true) e_43_2)
def c_law_43 : S := (.seq (.set (.name 1) (.call "_law_paper" (.cons (.call "_law_rich" (.cons (.call "_law_cell" (.cons (.var 0) (.cons (.int 0) .nil))) (.cons (.int 1) .nil))) (.cons (.int 5) .nil))))
  (.seq (.set (.name 2) (.call "_law_rows" (.cons (.var 1) .nil)))
  (.seq (.set (.name 3) (.mth1 .join (.str "") x_43_3))
  (.seq (.ite (.or (.cmp .ne (.call "rows_of" (.cons (.var 1) .nil)) (.var 2)) (.or (.cmp .ne (.call "text_of" (.cons (.var 1) .nil)) (.var 3)) (.one (.cmp .ne (.call "parse_papertexts" (.cons (.var 3) .nil)) (.var 1))))) (.seq (.ret (.bl false))
  .skip) .skip)
  (.seq (.set (.name 4) (.call "_law_rich" (.cons (.call "_law_cell" (.cons (.var 0) (.cons (.int 1) .nil))) (.cons (.int 2) .nil))))
  (.seq l_43_1
  (.seq (.set (.name 6) (.cmp .gt (.bin .mod (.bin .fdiv (.var 4) (.int 3)) (.int 5)) (.int 0)))
  (.seq (.set (.name 3) (.bin .add (.mth1 .join (.str "\n") (.var 2)) (.ite (.and (.var 6) (.one (.cmp .gt (.bi .len (.var 2)) (.int 0)))) (.str "\n") (.str ""))))
  (.seq (.ite (.and (.not (.var 6)) (.one (.cmp .gt (.bi .len (.var 2)) (.int 0)))) (.seq (.set (.name 2) (.slt (.var 2) (.neg (.int 1))))
  (.seq (.set (.name 6) (.cmp .eq (.slf (.var 3) (.neg (.int 1))) (.str "\n")))
  .skip)) .skip)
  (.seq (.set (.tup (.cons (.name 7) (.cons (.name 8) .nil))) (.call "_law_paper_at" (.cons (.var 2) (.cons (.int 0) .nil))))
  (.seq (.set (.name 9) (.tup (.cons (.str "paper") (.cons (.var 7) .nil))))
  (.seq (.ite (.or (.cmp .is_ (.var 7) .non) (.or (.cmp .ne (.var 8) (.bi .len (.var 2))) (.one (.and (.not (.var 6)) (.one (.cmp .ne (.var 3) (.str ""))))))) (.seq (.set (.name 9) (.tup (.cons (.str "row") (.cons (.bin .add (.var 8) (.int 1)) .nil))))
  .skip) .skip)
  (.seq (.ret (.cmp .eq (.call "_law_told" (.cons (.var 3) .nil)) (.var 9)))
  .skip)))))))))))))
def tab : List (Str × FnT) := [("is_integer", ⟨["value"], ["value"], c_is_integer_10⟩),
  ("is_ratio", ⟨["value"], ["value"], c_is_ratio_11⟩),
  ("text", ⟨["ratio"], ["ratio"], c_text_12⟩),
  ("digits_value", ⟨["word"], ["word", "char"], c_digits_value_13⟩),
  ("parse_ratios", ⟨["word"], ["word", "above", "sign", "below", "minus", "ratio"], c_parse_ratios_14⟩),
  ("count_of", ⟨["word"], ["word"], c_count_of_17⟩),
  ("rows_of", ⟨["paper"], ["paper", "found", "left", "one", "words", "item"], c_rows_of_19⟩),
  ("text_of", ⟨["paper"], ["paper", "row"], c_text_of_20⟩),
  ("leaf_of", ⟨["words"], ["words", "at", "multipliers", "word"], c_leaf_of_21⟩),
  ("row_of", ⟨["row", "index"], ["row", "index", "words"], c_row_of_22⟩),
  ("parse_papertexts", ⟨["written"], ["written", "rows", "cases", "index", "paper", "read", "unit", "positive"], c_parse_23⟩),
  ("_law_cell", ⟨["script", "k"], ["script", "k"], c__law_cell_26⟩),
  ("_law_rich", ⟨["cell", "k"], ["cell", "k", "mixed"], c__law_rich_27⟩),
  ("_law_make", ⟨["above", "below"], ["above", "below", "one", "other"], c__law_make_28⟩),
  ("_law_add", ⟨["one", "other"], ["one", "other"], c__law_add_29⟩),
  ("_law_mul", ⟨["one", "other"], ["one", "other"], c__law_mul_30⟩),
  ("_law_less", ⟨["one", "other"], ["one", "other"], c__law_less_31⟩),
  ("_law_ratio", ⟨["rich"], ["rich", "above"], c__law_ratio_32⟩),
  ("_law_dot", ⟨["one", "other"], ["one", "other", "found", "k"], c__law_dot_33⟩),
  ("_law_paper", ⟨["rich", "depth"], ["rich", "depth", "multipliers", "k"], c__law_paper_34⟩),
  ("_law_text", ⟨["ratio"], ["ratio"], c__law_text_35⟩),
  ("_law_rows", ⟨["paper"], ["paper", "item"], c__law_rows_36⟩),
  ("_law_number", ⟨["word"], ["word", "char"], c__law_number_37⟩),
  ("_law_read", ⟨["word"], ["word", "above", "slash", "below", "minus", "number", "other"], c__law_read_38⟩),
  ("_law_leaf", ⟨["words"], ["words", "at", "left", "right", "word"], c__law_leaf_39⟩),
  ("_law_paper_at", ⟨["rows", "at"], ["rows", "at", "words", "one", "behind", "other", "last"], c__law_paper_at_40⟩),
  ("_law_changed", ⟨["rows", "rich"], ["rows", "rich", "at", "words", "spot", "choice"], c__law_changed_41⟩),
  ("_law_told", ⟨["written"], ["written", "e"], c__law_told_42⟩),
  ("law", ⟨["script"], ["script", "paper", "rows", "written", "rich", "k", "ended", "found", "behind", "due", "row"], c_law_43⟩)]
def idx : List (Str × Nat) := [("is_integer", 10), ("is_ratio", 11), ("text", 12), ("digits_value", 13), ("parse_ratios", 14), ("count_of", 17), ("rows_of", 19), ("text_of", 20), ("leaf_of", 21), ("row_of", 22), ("parse_papertexts", 23), ("_law_cell", 26), ("_law_rich", 27), ("_law_make", 28), ("_law_add", 29), ("_law_mul", 30), ("_law_less", 31), ("_law_ratio", 32), ("_law_dot", 33), ("_law_paper", 34), ("_law_text", 35), ("_law_rows", 36), ("_law_number", 37), ("_law_read", 38), ("_law_leaf", 39), ("_law_paper_at", 40), ("_law_changed", 41), ("_law_told", 42), ("law", 43)]

def M : Mo := ⟨tab.map fun p => (p.1, p.2.ps.length), [("DIGITS", .str "0123456789"), ("MOST_COUNT_FIGURES", .int 9), ("MOST_FIGURES", .int 600), ("TOO_GREAT", .int (10 ^ 600))], [("BadRatio", []), ("BadText", ["row"])],
  ["abs", "all", "bool", "int", "isinstance", "len", "range", "str", "tuple"], true⟩
def subs : List ((Str × Str) × Bool) := [(("BadRatio", "BadRatio"), true), (("BadRatio", "BadText"), false), (("BadText", "BadRatio"), false), (("BadText", "BadText"), true)]
def B : Bs := bsOf M subs 1000
def chk (x : Str) (d : FnT) : Bool := match idx.lookup x with
  | some i => okSs M ⟨d.N, (defScope (top i)).names, true, true⟩ d.code (defBody (top i))
  | none => false
set_option maxHeartbeats 0
theorem all_ok : (tab.map fun p => (p.1, chk p.1 p.2)).filter (fun p => !p.2) = [] := by decide +kernel
end K82
set_option Elab.async false
set_option linter.all false
set_option maxRecDepth 100000
set_option maxHeartbeats 0
/-! K82b: the head's run. -/
namespace K82
open PySem PySem.Spec PyProof.Rows L2 KA
def dfs : List He.DefD := idx.map fun p => dOf p.1 (top p.2)
def fas : List He.Fa := ([.glo "is_integer", .glo "is_ratio", .glo "text", .glo "digits_value", .glo "parse_ratios", .glo "count_of", .glo "rows_of", .glo "text_of", .glo "leaf_of", .glo "row_of", .glo "parse_papertexts", .glo "_law_cell", .glo "_law_rich", .glo "_law_make", .glo "_law_add", .glo "_law_mul", .glo "_law_less", .glo "_law_ratio", .glo "_law_dot", .glo "_law_paper", .glo "_law_text", .glo "_law_rows", .glo "_law_number", .glo "_law_read", .glo "_law_leaf", .glo "_law_paper_at", .glo "_law_changed", .glo "_law_told", .glo "law", .free "abs"] : List He.Fa) ++ ([.free "all", .free "bool", .free "int", .free "isinstance", .free "len", .free "range", .free "str", .free "tuple", .str "DIGITS" "0123456789", .int "MOST_COUNT_FIGURES" 9, .int "MOST_FIGURES" 600, .int "TOO_GREAT" (10 ^ 600), .glo "BadRatio", .glo "BadText", .exc "BadRatio", .exm "BadRatio" "BadRatio" true, .exm "BadRatio" "BadText" false, .exm "BadText" "BadRatio" false, .exm "BadText" "BadText" true] : List He.Fa)
def ex (K : PySem.W.Frag) : Bool := erKB K "BadText" "row" && gcdB K && noLst K
def loose : List Str := (["__name__", "KinkError", "BadRatio", "BadText", "MOST_FIGURES", "TOO_GREAT", "MOST_COUNT_FIGURES", "DIGITS", "is_integer", "is_ratio", "text", "digits_value", "parse", "parse_ratios", "count_of", "rows_of", "text_of", "leaf_of", "row_of", "parse_papertexts", "_law_cell", "_law_rich", "_law_make", "_law_add", "_law_mul", "_law_less", "_law_ratio", "_law_dot", "_law_paper"] : List Str) ++ (["_law_text", "_law_rows", "_law_number", "_law_read", "_law_leaf", "_law_paper_at", "_law_changed", "_law_told"] : List Str)
abbrev R : PySem.W.OpenRow := PySem.W.OpenLaw.row PySem.Challenge.rw_kinkatlas_k82_texts_of_papers
abbrev hk : PySem.W.Hook := hookK 4 fas dfs ex
def ob (s : PySem.W.SharedT) : AlK := obsK 4 fas dfs ex (HandSHeadRun.getT s)
theorem ob_eq (s : PySem.W.SharedT) : ob s = hk.obs s.abs := obsK_eq (HandSHeadRun.getT_eq s)
theorem run (w : World) : HandSHeadRun.RunEqI R (PySem.W.view R.prog [0, 43]) hk ob 6000 loose w := by
  unfold HandSHeadRun.RunEqI
  kernel_rfl
end K82
set_option Elab.async false
set_option linter.all false
set_option maxRecDepth 100000
set_option maxHeartbeats 4000000
/-! K82d: the defs on data. -/
namespace K82
open PySem L2 KA
/-- the def gives this, whatever the store -/
def Ret (m : Nat) (f : Str) (ds : List D) (d : D) : Prop := D.pures ds = true ∧ d.pure = true ∧ ∃ μ', fnL tab B m f ds [] = .ok d μ'
def Rai (m : Nat) (f : Str) (ds : List D) (x : Exn) : Prop := D.pures ds = true ∧ x.fs.all (fun p => p.2.pure) = true ∧ ∃ μ', fnL tab B m f ds [] = .exc x μ'
theorem Ret.mono {m n : Nat} {f : Str} {ds : List D} {d : D} (h : Ret m f ds d) (hn : m ≤ n) : Ret n f ds d := ⟨h.1, h.2.1, h.2.2.elim fun μ' e => ⟨μ', fnL_up hn e (fun z => nomatch z)⟩⟩
theorem Rai.mono {m n : Nat} {f : Str} {ds : List D} {x : Exn} (h : Rai m f ds x) (hn : m ≤ n) : Rai n f ds x := ⟨h.1, h.2.1, h.2.2.elim fun μ' e => ⟨μ', fnL_up hn e (fun z => nomatch z)⟩⟩
theorem Ret.call {m n : Nat} {f : Str} {ds : List D} {d : D} {μ : Store} (h : Ret m f ds d) (hn : m ≤ n) : callF (fnL tab B n f) ds μ = .ok d μ := by
  obtain ⟨h1, h2, μ', e⟩ := h.mono hn
  unfold callF
  rw [if_pos h1, e]
  simp only [h2, if_true]
theorem Rai.call {m n : Nat} {f : Str} {ds : List D} {x : Exn} {μ : Store} (h : Rai m f ds x) (hn : m ≤ n) : callF (fnL tab B n f) ds μ = .exc x μ := by
  obtain ⟨h1, h2, μ', e⟩ := h.mono hn
  unfold callF
  rw [if_pos h1, e]
  simp only [h2, if_true]
theorem fn_run {n : Nat} {f : Str} {d : FnT} {ds : List D} {μ : Store} (h : tab.lookup f = some d) : fnL tab B (n + 1) f ds μ = runFn ⟨fnL tab B n, B.cst, 1000, B.exf, B.sub⟩ d ds μ := by simp only [fnL, h]; rfl
theorem t_is_integer : tab.lookup ("is_integer" : Str) = some ⟨["value"], ["value"], c_is_integer_10⟩ := by kernel_rfl
theorem t_is_ratio : tab.lookup ("is_ratio" : Str) = some ⟨["value"], ["value"], c_is_ratio_11⟩ := by kernel_rfl
theorem t_text : tab.lookup ("text" : Str) = some ⟨["ratio"], ["ratio"], c_text_12⟩ := by kernel_rfl
theorem t_digits_value : tab.lookup ("digits_value" : Str) = some ⟨["word"], ["word", "char"], c_digits_value_13⟩ := by kernel_rfl
theorem t_parse_ratios : tab.lookup ("parse_ratios" : Str) = some ⟨["word"], ["word", "above", "sign", "below", "minus", "ratio"], c_parse_ratios_14⟩ := by kernel_rfl
theorem t_count_of : tab.lookup ("count_of" : Str) = some ⟨["word"], ["word"], c_count_of_17⟩ := by kernel_rfl
theorem t_rows_of : tab.lookup ("rows_of" : Str) = some ⟨["paper"], ["paper", "found", "left", "one", "words", "item"], c_rows_of_19⟩ := by kernel_rfl
theorem t_text_of : tab.lookup ("text_of" : Str) = some ⟨["paper"], ["paper", "row"], c_text_of_20⟩ := by kernel_rfl
theorem t_leaf_of : tab.lookup ("leaf_of" : Str) = some ⟨["words"], ["words", "at", "multipliers", "word"], c_leaf_of_21⟩ := by kernel_rfl
theorem t_row_of : tab.lookup ("row_of" : Str) = some ⟨["row", "index"], ["row", "index", "words"], c_row_of_22⟩ := by kernel_rfl
theorem t_parse_papertexts : tab.lookup ("parse_papertexts" : Str) = some ⟨["written"], ["written", "rows", "cases", "index", "paper", "read", "unit", "positive"], c_parse_23⟩ := by kernel_rfl
theorem t__law_cell : tab.lookup ("_law_cell" : Str) = some ⟨["script", "k"], ["script", "k"], c__law_cell_26⟩ := by kernel_rfl
theorem t__law_rich : tab.lookup ("_law_rich" : Str) = some ⟨["cell", "k"], ["cell", "k", "mixed"], c__law_rich_27⟩ := by kernel_rfl
theorem t__law_make : tab.lookup ("_law_make" : Str) = some ⟨["above", "below"], ["above", "below", "one", "other"], c__law_make_28⟩ := by kernel_rfl
theorem t__law_add : tab.lookup ("_law_add" : Str) = some ⟨["one", "other"], ["one", "other"], c__law_add_29⟩ := by kernel_rfl
theorem t__law_mul : tab.lookup ("_law_mul" : Str) = some ⟨["one", "other"], ["one", "other"], c__law_mul_30⟩ := by kernel_rfl
theorem t__law_less : tab.lookup ("_law_less" : Str) = some ⟨["one", "other"], ["one", "other"], c__law_less_31⟩ := by kernel_rfl
theorem t__law_ratio : tab.lookup ("_law_ratio" : Str) = some ⟨["rich"], ["rich", "above"], c__law_ratio_32⟩ := by kernel_rfl
theorem t__law_dot : tab.lookup ("_law_dot" : Str) = some ⟨["one", "other"], ["one", "other", "found", "k"], c__law_dot_33⟩ := by kernel_rfl
theorem t__law_paper : tab.lookup ("_law_paper" : Str) = some ⟨["rich", "depth"], ["rich", "depth", "multipliers", "k"], c__law_paper_34⟩ := by kernel_rfl
theorem t__law_text : tab.lookup ("_law_text" : Str) = some ⟨["ratio"], ["ratio"], c__law_text_35⟩ := by kernel_rfl
theorem t__law_rows : tab.lookup ("_law_rows" : Str) = some ⟨["paper"], ["paper", "item"], c__law_rows_36⟩ := by kernel_rfl
theorem t__law_number : tab.lookup ("_law_number" : Str) = some ⟨["word"], ["word", "char"], c__law_number_37⟩ := by kernel_rfl
theorem t__law_read : tab.lookup ("_law_read" : Str) = some ⟨["word"], ["word", "above", "slash", "below", "minus", "number", "other"], c__law_read_38⟩ := by kernel_rfl
theorem t__law_leaf : tab.lookup ("_law_leaf" : Str) = some ⟨["words"], ["words", "at", "left", "right", "word"], c__law_leaf_39⟩ := by kernel_rfl
theorem t__law_paper_at : tab.lookup ("_law_paper_at" : Str) = some ⟨["rows", "at"], ["rows", "at", "words", "one", "behind", "other", "last"], c__law_paper_at_40⟩ := by kernel_rfl
theorem t__law_changed : tab.lookup ("_law_changed" : Str) = some ⟨["rows", "rich"], ["rows", "rich", "at", "words", "spot", "choice"], c__law_changed_41⟩ := by kernel_rfl
theorem t__law_told : tab.lookup ("_law_told" : Str) = some ⟨["written"], ["written", "e"], c__law_told_42⟩ := by kernel_rfl
theorem t_law : tab.lookup ("law" : Str) = some ⟨["script"], ["script", "paper", "rows", "written", "rich", "k", "ended", "found", "behind", "due", "row"], c_law_43⟩ := by kernel_rfl

theorem cst_digits : B.cst "DIGITS" = some (.str "0123456789") := by kernel_rfl
theorem cst_great : B.cst "TOO_GREAT" = some (.int (10 ^ 600)) := by kernel_rfl
theorem cell_ret (ns : List Int) (k : Nat) : Ret 1 "_law_cell" [.lst (ns.map D.int), .int k] (.int (ns.getD k 0)) := by
  have pu : D.pures (ns.map D.int) = true := by
    induction ns with
    | nil => rfl
    | cons n ns ih => simp [D.pures, D.pure, ih]
  refine ⟨by simp [D.pures, D.pure, pu], rfl, [], ?_⟩
  rw [fn_run t__law_cell]
  by_cases h : k < ns.length
  · simp [runFn, c__law_cell_26, evS, ev, biD, seqD, cop, truD, ixD, outS, h, L2.atI, L2.ixN]
  · simp [runFn, c__law_cell_26, evS, ev, biD, seqD, cop, truD, ixD, outS, h]
end K82
set_option Elab.async false
set_option linter.all false
set_option maxRecDepth 100000
set_option maxHeartbeats 4000000
/-! K82e: numbers of the law. -/
namespace K82
open PySem L2 KA
def outIs (o : Out) (d : D) : Bool := match o with
  | .ok e _ => e.same d
  | _ => false
theorem outIs_ok {o : Out} {d : D} (h : outIs o d = true) : ∃ μ', o = .ok d μ' := by
  unfold outIs at h
  split at h
  · rw [D.same_eq h]; exact ⟨_, rfl⟩
  · cases h
theorem log2_small {b : Int} {k : Nat} (h : b.natAbs < 2 ^ k) (hk : 0 < k) : b.natAbs.log2 < k := by
  by_cases h0 : b.natAbs = 0
  · rw [h0]; simpa using hk
  · exact (Nat.log2_lt h0).mpr h
theorem rich_ret (c : Int) (k : Nat) (hc : c.natAbs.log2 ≤ 2000000) (hk : k < 1000) : ∃ r : Int, 0 ≤ r ∧ Ret 1 "_law_rich" [.int c, .int k] (.int r) := by
  by_cases h : (10 : Int) ^ 18 ≤ c
  · refine ⟨c, by omega, by simp [D.pures, D.pure], rfl, [], ?_⟩
    rw [fn_run t__law_rich]
    have h' : (1000000000000000000 : Int) ≤ c := by omega
    simp [runFn, c__law_rich_27, evS, ev, biD, bop, bopI, cop, truD, outS, h']
  · refine ⟨((c * 48271 + k * 69621 + 11).fmod 2147483647) * 2147483629 + ((((c * 48271 + k * 69621 + 11).fmod 2147483647) * 16807 + c).fmod 2147483629), ?_, by simp [D.pures, D.pure], rfl, [], ?_⟩
    · have h1 := Int.fmod_nonneg_of_pos (a := c * 48271 + k * 69621 + 11) (b := 2147483647) (by decide)
      have h2 := Int.fmod_nonneg_of_pos (a := ((c * 48271 + k * 69621 + 11).fmod 2147483647) * 16807 + c) (b := 2147483629) (by decide)
      omega
    · rw [fn_run t__law_rich]
      have h' : ¬ (1000000000000000000 : Int) ≤ c := by omega
      have m1 := Int.fmod_nonneg_of_pos (a := c * 48271 + k * 69621 + 11) (b := 2147483647) (by decide)
      have m2 := Int.fmod_lt_of_pos (c * 48271 + k * 69621 + 11) (b := 2147483647) (by decide)
      generalize hm : (c * 48271 + k * 69621 + 11).fmod 2147483647 = m at m1 m2
      have b1 : c.natAbs.log2 + Nat.log2 48271 < 134000000 := by
        have : Nat.log2 48271 = 15 := by decide
        omega
      have b2 : (k : Int).natAbs.log2 + Nat.log2 69621 < 134000000 := by
        have e1 : Nat.log2 69621 = 16 := by decide
        have e2 := log2_small (b := (k : Int)) (k := 10) (by simpa using Nat.lt_of_lt_of_le hk (by decide)) (by decide)
        omega
      have b3 : m.natAbs.log2 + Nat.log2 2147483629 < 134000000 := by
        have e1 : Nat.log2 2147483629 = 30 := by decide +kernel
        have e2 := log2_small (b := m) (k := 32) (by omega) (by decide)
        omega
      have b4 : m.natAbs.log2 + Nat.log2 16807 < 134000000 := by
        have e1 : Nat.log2 16807 = 14 := by decide
        have e2 := log2_small (b := m) (k := 32) (by omega) (by decide)
        omega
      have b2' : k.log2 + Nat.log2 69621 < 134000000 := by simpa using b2
      simp [runFn, c__law_rich_27, evS, ev, biD, bop, bopI, cop, truD, outS, tgt, h', b1, b2', b3, b4, hm]
/-- a fraction, shortened -/
def mkQ (a b : Int) : Int × Int := (a / (Int.gcd a b : Int), b / (Int.gcd a b : Int))
def dens : List Int := [1, 2, 3, 4, 7]
def mkB (a b : Int) : Bool := outIs (fnL tab B 1 "_law_make" [.int a, .int b] []) (.tup [.int (mkQ a b).1, .int (mkQ a b).2]) && decide ((mkQ a b).2 ∈ dens) && decide (-100 ≤ (mkQ a b).1 ∧ (mkQ a b).1 ≤ 100) && decide (Int.gcd (mkQ a b).1 (mkQ a b).2 = 1)
theorem mk_all : ((List.range 201).all fun k => dens.all fun b => mkB ((k : Int) - 100) b) = true := by decide +kernel
/-- the fractions that come -/
def Rat' (p : Int × Int) : Prop := p.2 ∈ dens ∧ (-100 ≤ p.1 ∧ p.1 ≤ 100) ∧ Int.gcd p.1 p.2 = 1
theorem make_ret {a b : Int} (h1 : -100 ≤ a) (h2 : a ≤ 100) (hb : b ∈ dens) : ∃ p, Rat' p ∧ Ret 1 "_law_make" [.int a, .int b] (.tup [.int p.1, .int p.2]) := by
  have q := List.all_eq_true.mp mk_all (a + 100).toNat (by rw [List.mem_range]; omega)
  have q := List.all_eq_true.mp q b hb
  have e : (((a + 100).toNat : Nat) : Int) - 100 = a := by omega
  simp only [e, mkB, Bool.and_eq_true, decide_eq_true_eq] at q
  obtain ⟨⟨⟨q1, q2⟩, q3⟩, q4⟩ := q
  exact ⟨mkQ a b, ⟨q2, q3, q4⟩, by simp [D.pures, D.pure], by simp [D.pures, D.pure], outIs_ok q1⟩
theorem ratio_ret (r : Int) (hr : 0 ≤ r) : ∃ p, Rat' p ∧ Ret 2 "_law_ratio" [.int r] (.tup [.int p.1, .int p.2]) := by
  have hj1 := Int.fmod_nonneg_of_pos (a := r.fdiv 13065) (b := 7) (by decide)
  have hj2 := Int.fmod_lt_of_pos (r.fdiv 13065) (b := 7) (by decide)
  obtain ⟨j, hj⟩ : ∃ j : Nat, (r.fdiv 13065).fmod 7 = j := ⟨((r.fdiv 13065).fmod 7).toNat, by omega⟩
  have hj7 : j < 7 := by omega
  -- the one below
  obtain ⟨b, hb, hix⟩ : ∃ b : Int, b ∈ dens ∧ ∀ μ, ixD (.lst [.int 1, .int 1, .int 1, .int 2, .int 3, .int 4, .int 7]) (.int j) μ = .ok (.int b) μ := by
    have : j = 0 ∨ j = 1 ∨ j = 2 ∨ j = 3 ∨ j = 4 ∨ j = 5 ∨ j = 6 := by omega
    rcases this with rfl | rfl | rfl | rfl | rfl | rfl | rfl
    · exact ⟨1, by decide, fun _ => rfl⟩
    · exact ⟨1, by decide, fun _ => rfl⟩
    · exact ⟨1, by decide, fun _ => rfl⟩
    · exact ⟨2, by decide, fun _ => rfl⟩
    · exact ⟨3, by decide, fun _ => rfl⟩
    · exact ⟨4, by decide, fun _ => rfl⟩
    · exact ⟨7, by decide, fun _ => rfl⟩
  by_cases h5 : (r.fdiv 13).fmod 5 = 0
  · have u1 := Int.fmod_nonneg_of_pos (a := r.fdiv 65) (b := 201) (by decide)
    have u2 := Int.fmod_lt_of_pos (r.fdiv 65) (b := 201) (by decide)
    obtain ⟨p, hp, hm⟩ := make_ret (a := (r.fdiv 65).fmod 201 - 100) (b := b) (by omega) (by omega) hb
    refine ⟨p, hp, by simp [D.pures, D.pure], by simp [D.pures, D.pure], [], ?_⟩
    rw [fn_run t__law_ratio]
    have l1 : Nat.log2 65 < 9000 := by decide
    have l2 : Nat.log2 13 < 9000 := by decide
    have l3 : Nat.log2 13065 < 9000 := by decide
    simp [runFn, c__law_ratio_32, evS, ev, bop, bopI, cop, truD, outS, tgt, h5, hj, hix, hm.call (Nat.le_refl 1), okB, eqD, dscal, deq, sizeLine_eq, l1, l2, l3]
  · have u1 := Int.fmod_nonneg_of_pos (a := r) (b := 13) (by decide)
    have u2 := Int.fmod_lt_of_pos r (b := 13) (by decide)
    obtain ⟨p, hp, hm⟩ := make_ret (a := r.fmod 13 - 6) (b := b) (by omega) (by omega) hb
    refine ⟨p, hp, by simp [D.pures, D.pure], by simp [D.pures, D.pure], [], ?_⟩
    rw [fn_run t__law_ratio]
    have l2 : Nat.log2 13 < 9000 := by decide
    have l3 : Nat.log2 13065 < 9000 := by decide
    simp [runFn, c__law_ratio_32, evS, ev, bop, bopI, cop, truD, outS, tgt, h5, hj, hix, hm.call (Nat.le_refl 1), okB, eqD, dscal, deq, sizeLine_eq, l2, l3]
end K82
set_option Elab.async false
set_option linter.all false
set_option maxRecDepth 100000
set_option maxHeartbeats 4000000
/-! K82f: the law's papers. -/
namespace K82
open PySem L2 KA
/-- a comprehension whose items all come -/
theorem compL_map {chk : Store → Bool} {t : T} {own : List Nat} {x : Bool} {c e : DE} {ρ : Ro} {μ : Store} (f : D → D) (hc : chk μ = true) : ∀ (ds ys : List D), ys.length + ds.length ≤ sizeLine → (∀ d ∈ ds, ∃ ρ1, tgt t d (wipeR ρ own) μ = some ρ1 ∧ c ρ1 μ = .ok (.bl true) μ ∧ e ρ1 μ = .ok (f d) μ) →
    compL chk t own x false c e ds ys ρ μ = .ok (.lst (ys ++ ds.map f)) μ
  | [], ys, _, _ => by simp [compL, hc]
  | d :: ds, ys, hl, h => by
    obtain ⟨ρ1, h1, h2, h3⟩ := h d (by simp)
    simp only [List.length_cons] at hl
    simp only [compL, hc, h1, h2, h3, truD, if_true]
    rw [if_pos (by omega), compL_map f hc ds (ys ++ [f d]) (by simp; omega) (fun d' hd => h d' (by simp [hd]))]
    simp
noncomputable def ratv (r : Int) : Int × Int := if h : 0 ≤ r then (ratio_ret r h).choose else (0, 1)
theorem ratv_ok {r : Int} (h : 0 ≤ r) : Rat' (ratv r) ∧ Ret 2 "_law_ratio" [.int r] (.tup [.int (ratv r).1, .int (ratv r).2]) := by
  unfold ratv
  rw [dif_pos h]
  exact (ratio_ret r h).choose_spec
inductive Pap where
  | leaf (ms ss : List (Int × Int)) | unit (u : Int) (p q : Pap)
def rD (p : Int × Int) : D := .tup [.int p.1, .int p.2]
def Pap.D : Pap → KA.D
  | .leaf ms ss => .tup [.str "leaf", .tup (ms.map rD), .tup (ss.map rD)]
  | .unit u p q => .tup [.str "unit", .int u, p.D, q.D]
theorem pures_map {α : Type} (f : α → D) (h : ∀ a, (f a).pure = true) : ∀ l : List α, D.pures (l.map f) = true
  | [] => rfl
  | a :: l => by simp [D.pures, h a, pures_map f h l]
theorem rD_pure (p : Int × Int) : (rD p).pure = true := by simp [rD, D.pure, D.pures]
theorem Pap.pure : ∀ p : Pap, p.D.pure = true
  | .leaf ms ss => by simp [Pap.D, KA.D.pure, KA.D.pures, pures_map rD rD_pure]
  | .unit u p q => by simp [Pap.D, KA.D.pure, KA.D.pures, p.pure, q.pure]
noncomputable def ratsv (r a b : Int) (n : Nat) : List (Int × Int) := (List.range n).map fun (k : Nat) => ratv (r.fdiv (a + b * (k : Int)))
noncomputable def leafv (r : Int) : Pap := .leaf (ratsv r 7 3 ((r.fdiv 3).fmod 6).toNat) (ratsv r 5 2 ((r.fdiv 18).fmod 4).toNat)
def unitv (r : Int) : Int := [0, 1, 2, 7, 999999999].getD ((r.fdiv 3).fmod 5).toNat 0
noncomputable def papv : Nat → Int → Pap
  | 0, r => leafv r
  | d + 1, r => if r.fmod 3 = 0 then leafv r else .unit (unitv r) (papv d (r.fdiv 31)) (papv d (r.fdiv 17 + 1))
theorem fdiv_nn {r b : Int} (h : 0 ≤ r) (hb : 0 < b) : 0 ≤ r.fdiv b := by rw [Int.fdiv_eq_ediv_of_nonneg _ (by omega)]; exact Int.ediv_nonneg h (by omega)
theorem rangeD_eq (n : Nat) : rangeD 0 n = (List.range n).map fun i => D.int (i : Nat) := by simp [rangeD]
/-- the comprehension of ratios -/
theorem rats_ev {n : Nat} {r : Int} (hr : 0 ≤ r) (a b : Int) (ha : 0 < a) (ha' : a ≤ 10) (hb : 0 ≤ b) (hb' : b ≤ 10) (k : Nat) (hk : k ≤ 10) (hn : 2 ≤ n) (ρ : Ro) (μ : Store) (h0 : ρ[0]? = some (some (.int r))) (h3 : 3 < ρ.length) :
    compL (fun _ => true) (.name 3) [3] false false (ev ⟨fnL tab B n, B.cst, 1000, B.exf, B.sub⟩ (.bl true)) (ev ⟨fnL tab B n, B.cst, 1000, B.exf, B.sub⟩ (.call "_law_ratio" (.cons (.bin .fdiv (.var 0) (.bin .add (.int a) (.bin .mul (.int b) (.var 3)))) .nil))) (rangeD 0 k) [] ρ μ
      = .ok (.lst ((ratsv r a b k).map rD)) μ := by
  rw [rangeD_eq, compL_map (fun d => match d with
    | .int i => rD (ratv (r.fdiv (a + b * i)))
    | d => d) rfl _ _ (by simp [sizeLine_eq]; omega)]
  · simp [ratsv, List.map_map, Function.comp_def]
  · intro d hd
    obtain ⟨i, hi, rfl⟩ := List.mem_map.mp hd
    rw [List.mem_range] at hi
    refine ⟨_, rfl, rfl, ?_⟩
    have g0 : ((wipeR ρ [3]).set 3 (some (.int (i : Nat))))[0]? = some (some (.int r)) := by simp [wipeR, h0]
    have g3 : ((wipeR ρ [3]).set 3 (some (.int (i : Nat))))[3]? = some (some (.int (i : Nat))) := by simp [wipeR, h3]
    have hbi : 0 ≤ b * (i : Int) := Int.mul_nonneg hb (by omega)
    have hbi2 : b * (i : Int) ≤ 100 := by
      have := Int.mul_le_mul hb' (show (i : Int) ≤ 10 by omega) (by omega) (by omega)
      omega
    have l1 : b.natAbs.log2 + (i : Int).natAbs.log2 < 134000000 := by
      have := log2_small (b := b) (k := 10) (by omega) (by decide)
      have := log2_small (b := (i : Int)) (k := 10) (by omega) (by decide)
      omega
    have l2 : 0 < a + b * (i : Int) ∧ (a + b * (i : Int)).natAbs.log2 < 9000 := ⟨by omega, by
      have := log2_small (b := a + b * (i : Int)) (k := 10) (by omega) (by decide)
      omega⟩
    have hq := (ratv_ok (fdiv_nn hr l2.1)).2
    have l1' : b.natAbs.log2 + i.log2 < 134000000 := by simpa using l1
    simp [ev, g0, g3, bop, bopI, l1', l2, hq.call hn, rD]
abbrev G (n : Nat) : Gm := ⟨fnL tab B n, B.cst, 1000, B.exf, B.sub⟩
theorem ev_comp {Γ : Gm} {x m : Bool} {own : List Nat} {t : T} {src : W} {c e : E} {ρ : Ro} {μ μ1 : Store} {ds : List D} {chk : Store → Bool} (h : evW Γ src ρ μ = .ok ds chk μ1) : ev Γ (.comp x m own t src c e) ρ μ = compL chk t own x m (ev Γ c) (ev Γ e) ds [] ρ μ1 := by
  simp only [ev, h]
theorem x343 {n : Nat} {r : Int} (hr : 0 ≤ r) (hn : 2 ≤ n) (ρ : Ro) (μ : Store) (h0 : ρ[0]? = some (some (.int r))) (h3 : 3 < ρ.length) : ev (G n) x_34_3 ρ μ = .ok (.lst ((ratsv r 7 3 ((r.fdiv 3).fmod 6).toNat).map rD)) μ := by
  have u1 := Int.fmod_nonneg_of_pos (a := r.fdiv 3) (b := 6) (by decide)
  have u2 := Int.fmod_lt_of_pos (r.fdiv 3) (b := 6) (by decide)
  obtain ⟨i, hi⟩ : ∃ i : Nat, (r.fdiv 3).fmod 6 = i := ⟨((r.fdiv 3).fmod 6).toNat, by omega⟩
  have l2 : Nat.log2 3 < 9000 := by decide
  have g1 : rgOk 0 (i : Int) = true := by simp [rgOk]; omega
  have hw : evW (G n) (.range1 (.bin .mod (.bin .fdiv (.var 0) (.int 3)) (.int 6))) ρ μ = .ok (rangeD 0 i) (fun _ => true) μ := by simp [evW, ev, h0, bop, bopI, hi, g1, l2]
  rw [hi, Int.toNat_natCast]
  exact (ev_comp hw).trans (rats_ev hr 7 3 (by decide) (by decide) (by decide) (by decide) i (by omega) hn ρ μ h0 h3)
theorem x341 {n : Nat} {r : Int} (hr : 0 ≤ r) (hn : 2 ≤ n) (ρ : Ro) (μ : Store) (h0 : ρ[0]? = some (some (.int r))) (h3 : 3 < ρ.length) : ev (G n) x_34_1 ρ μ = .ok (.lst ((ratsv r 5 2 ((r.fdiv 18).fmod 4).toNat).map rD)) μ := by
  have u1 := Int.fmod_nonneg_of_pos (a := r.fdiv 18) (b := 4) (by decide)
  have u2 := Int.fmod_lt_of_pos (r.fdiv 18) (b := 4) (by decide)
  obtain ⟨i, hi⟩ : ∃ i : Nat, (r.fdiv 18).fmod 4 = i := ⟨((r.fdiv 18).fmod 4).toNat, by omega⟩
  have l2 : Nat.log2 18 < 9000 := by decide
  have g1 : rgOk 0 (i : Int) = true := by simp [rgOk]; omega
  have hw : evW (G n) (.range1 (.bin .mod (.bin .fdiv (.var 0) (.int 18)) (.int 4))) ρ μ = .ok (rangeD 0 i) (fun _ => true) μ := by simp [evW, ev, h0, bop, bopI, hi, g1, l2]
  rw [hi, Int.toNat_natCast]
  exact (ev_comp hw).trans (rats_ev hr 5 2 (by decide) (by decide) (by decide) (by decide) i (by omega) hn ρ μ h0 h3)
theorem leaf_ret {n : Nat} {r : Int} (hr : 0 ≤ r) (hn : 2 ≤ n) (d : Int) (h : d = 0 ∨ r.fmod 3 = 0) : Ret (n + 1) "_law_paper" [.int r, .int d] (leafv r).D := by
  refine ⟨by simp [D.pures, D.pure], (leafv r).pure, [], ?_⟩
  rw [fn_run t__law_paper]
  have k1 := x343 hr hn [some (.int r), some (.int d), none, none] [] rfl (by simp)
  have k2 := x341 hr hn [some (.int r), some (.int d), some (.tup ((ratsv r 7 3 ((r.fdiv 3).fmod 6).toNat).map rD)), none] [] rfl (by simp)
  by_cases hd : d = 0
  · simp [runFn, c__law_paper_34, ev, evS, cop, okB, eqD, dscal, deq, truD, biD, lstD, tgt, outS, k1, k2, sizeLine_eq, leafv, Pap.D, hd] at k1 k2 ⊢
    simp [k1, k2]
  · have h3 : r.fmod 3 = 0 := h.resolve_left hd
    simp [runFn, c__law_paper_34, ev, evS, cop, okB, eqD, dscal, deq, truD, bop, bopI, h3, biD, lstD, tgt, outS, k1, k2, sizeLine_eq, leafv, Pap.D, hd]
theorem unit_ret {n : Nat} {r : Int} {p q : Pap} (d : Nat) (h3 : r.fmod 3 ≠ 0) (hp : Ret n "_law_paper" [.int (r.fdiv 31), .int d] p.D) (hq : Ret n "_law_paper" [.int (r.fdiv 17 + 1), .int d] q.D) : Ret (n + 1) "_law_paper" [.int r, .int ((d + 1 : Nat) : Int)] (Pap.unit (unitv r) p q).D := by
  have u1 := Int.fmod_nonneg_of_pos (a := r.fdiv 3) (b := 5) (by decide)
  have u2 := Int.fmod_lt_of_pos (r.fdiv 3) (b := 5) (by decide)
  obtain ⟨i, hi⟩ : ∃ i : Nat, (r.fdiv 3).fmod 5 = i := ⟨((r.fdiv 3).fmod 5).toNat, by omega⟩
  have hix : ∀ μ, ixD (.lst [.int 0, .int 1, .int 2, .int 7, .int 999999999]) (.int i) μ = .ok (.int (unitv r)) μ := by
    intro μ
    unfold unitv
    rw [hi, Int.toNat_natCast]
    have : i = 0 ∨ i = 1 ∨ i = 2 ∨ i = 3 ∨ i = 4 := by omega
    rcases this with rfl | rfl | rfl | rfl | rfl <;> rfl
  refine ⟨by simp [D.pures, D.pure], Pap.pure _, [], ?_⟩
  rw [fn_run t__law_paper]
  have l1 : Nat.log2 3 < 9000 := by decide
  have l2 : Nat.log2 31 < 9000 := by decide
  have l3 : Nat.log2 17 < 9000 := by decide
  have e1 : (d : Int) + 1 - 1 = d := by omega
  have e2 : ¬ ((d : Int) + 1 = 0) := by omega
  simp [runFn, c__law_paper_34, ev, evS, cop, okB, eqD, dscal, deq, truD, bop, bopI, h3, outS, sizeLine_eq, hi, hix, l1, l2, l3, e1, e2, hp.call (Nat.le_refl n), hq.call (Nat.le_refl n), Pap.D]
theorem papv_ret : ∀ (d : Nat) (r : Int), 0 ≤ r → Ret (d + 3) "_law_paper" [.int r, .int d] (papv d r).D
  | 0, r, hr => leaf_ret hr (Nat.le_refl 2) 0 (.inl rfl)
  | d + 1, r, hr => by
    unfold papv
    by_cases h : r.fmod 3 = 0
    · rw [if_pos h]; exact leaf_ret hr (by omega) _ (.inr h)
    · rw [if_neg h]
      exact unit_ret d h (papv_ret d _ (fdiv_nn hr (by decide))) (papv_ret d _ (by have := fdiv_nn hr (b := 17) (by decide); omega))
end K82
set_option Elab.async false
set_option linter.all false
set_option maxRecDepth 100000
set_option maxHeartbeats 4000000
/-! K82g: the words of rows. -/
namespace K82
open PySem L2 KA
/-- a ratio's text -/
def rtx (p : Int × Int) : Str := if p.2 = 1 then toString p.1 else (toString p.1 : Str) ++ "/" ++ (toString p.2 : Str)
def xBad : Exn := ⟨"BadRatio", []⟩
/-- a word's reading -/
def rdW (w : Str) : Option (Int × Int) := match fnL tab B 4 "parse_ratios" [.str w] [] with
  | .ok (.tup [.int a, .int b]) _ => some (a, b)
  | _ => none
def cnW (w : Str) : Option Int := match fnL tab B 4 "count_of" [.str w] [] with
  | .ok (.int a) _ => some a
  | _ => none
def excIs (o : Out) : Bool := match o with
  | .exc x _ => x.cls == ("BadRatio" : Str) && x.fs.isEmpty
  | _ => false
theorem excIs_ok {o : Out} (h : excIs o = true) : ∃ μ', o = .exc xBad μ' := by
  unfold excIs at h
  split at h
  · rename_i x μ
    simp only [Bool.and_eq_true] at h
    obtain ⟨c, fs⟩ := x
    have e1 := eq_of_beq h.1
    have e2 : fs = [] := by cases fs with | nil => rfl | cons _ _ => cases h.2
    simp only at e1
    subst e1 e2
    exact ⟨μ, rfl⟩
  · cases h
/-- both read it so -/
def chkW (w : Str) : Bool := (match rdW w with
    | some p => outIs (fnL tab B 4 "parse_ratios" [.str w] []) (rD p) && outIs (fnL tab B 4 "_law_read" [.str w] []) (rD p)
    | none => excIs (fnL tab B 4 "parse_ratios" [.str w] []) && outIs (fnL tab B 4 "_law_read" [.str w] []) .non) &&
  (match cnW w with
    | some i => outIs (fnL tab B 4 "count_of" [.str w] []) (.int i) && outIs (fnL tab B 4 "_law_number" [.str w] []) (.int i) && decide (0 ≤ i) && decide (w.length ≤ 9)
    | none => excIs (fnL tab B 4 "count_of" [.str w] []) && (decide (9 < w.length) || outIs (fnL tab B 4 "_law_number" [.str w] []) (.int (-1))))
def wdB (w : Str) : Bool := decide (w.length ≤ 10) && !w.cps.toList.contains 32 && !w.cps.toList.contains 10 && chkW w
def fixW : List Str := ["leaf", "unit", ":", "0", "1", "2", "7", "999999999", "", "-0", "4/2", "1/2", "01", "x", "1234567890", "3/1"]
theorem fix_chk : fixW.all wdB = true := by decide +kernel
def rtB (p : Int × Int) : Bool := wdB (rtx p) && decide (rdW (rtx p) = some p) && decide ((toString p.1 : Str).length ≤ 5) && decide ((toString p.2 : Str).length ≤ 5)
def rtC (a n : Nat) (b : Int) : Bool := (List.range n).all fun k => decide (Int.gcd ((k + a : Nat) - 100 : Int) b ≠ 1) || rtB (((k + a : Nat) : Int) - 100, b)
theorem rt_1_0 : rtC 0 51 1 = true := by decide +kernel
theorem rt_1_1 : rtC 51 51 1 = true := by decide +kernel
theorem rt_1_2 : rtC 102 51 1 = true := by decide +kernel
theorem rt_1_3 : rtC 153 48 1 = true := by decide +kernel
theorem rt_2_0 : rtC 0 51 2 = true := by decide +kernel
theorem rt_2_1 : rtC 51 51 2 = true := by decide +kernel
theorem rt_2_2 : rtC 102 51 2 = true := by decide +kernel
theorem rt_2_3 : rtC 153 48 2 = true := by decide +kernel
theorem rt_3_0 : rtC 0 51 3 = true := by decide +kernel
theorem rt_3_1 : rtC 51 51 3 = true := by decide +kernel
theorem rt_3_2 : rtC 102 51 3 = true := by decide +kernel
theorem rt_3_3 : rtC 153 48 3 = true := by decide +kernel
theorem rt_4_0 : rtC 0 51 4 = true := by decide +kernel
theorem rt_4_1 : rtC 51 51 4 = true := by decide +kernel
theorem rt_4_2 : rtC 102 51 4 = true := by decide +kernel
theorem rt_4_3 : rtC 153 48 4 = true := by decide +kernel
theorem rt_7_0 : rtC 0 51 7 = true := by decide +kernel
theorem rt_7_1 : rtC 51 51 7 = true := by decide +kernel
theorem rt_7_2 : rtC 102 51 7 = true := by decide +kernel
theorem rt_7_3 : rtC 153 48 7 = true := by decide +kernel
end K82
set_option Elab.async false
set_option linter.all false
set_option maxRecDepth 100000
set_option maxHeartbeats 4000000
/-! K82h: texts and rows. -/
namespace K82
open PySem L2 KA TL
theorem rtC_at {a n : Nat} {b : Int} (h : rtC a n b = true) {k : Nat} (h1 : a ≤ k) (h2 : k < a + n) (hg : Int.gcd ((k : Int) - 100) b = 1) : rtB ((k : Int) - 100, b) = true := by
  have q := List.all_eq_true.mp h (k - a) (by rw [List.mem_range]; omega)
  have e : k - a + a = k := by omega
  rw [e] at q
  simp only [Bool.or_eq_true, decide_eq_true_eq] at q
  exact q.resolve_left fun z => z hg
theorem rt_all (b : Int) (h0 : rtC 0 51 b = true) (h1 : rtC 51 51 b = true) (h2 : rtC 102 51 b = true) (h3 : rtC 153 48 b = true) {k : Nat} (hk : k < 201) (hg : Int.gcd ((k : Int) - 100) b = 1) : rtB ((k : Int) - 100, b) = true := by
  by_cases c0 : k < 51
  · exact rtC_at h0 (by omega) (by omega) hg
  · by_cases c1 : k < 102
    · exact rtC_at h1 (by omega) (by omega) hg
    · by_cases c2 : k < 153
      · exact rtC_at h2 (by omega) (by omega) hg
      · exact rtC_at h3 (by omega) (by omega) hg
theorem rat_ok {p : Int × Int} (h : Rat' p) : rtB p = true := by
  obtain ⟨a, b⟩ := p
  obtain ⟨h1, ⟨h2, h2'⟩, h3⟩ := h
  simp only at h1 h2 h2' h3
  have e : (((a + 100).toNat : Nat) : Int) - 100 = a := by omega
  have hk : (a + 100).toNat < 201 := by omega
  have hg : Int.gcd ((((a + 100).toNat : Nat) : Int) - 100) b = 1 := by rw [e]; exact h3
  rw [← e]
  simp only [dens, List.mem_cons, List.not_mem_nil, or_false] at h1
  rcases h1 with rfl | rfl | rfl | rfl | rfl
  · exact rt_all 1 rt_1_0 rt_1_1 rt_1_2 rt_1_3 hk hg
  · exact rt_all 2 rt_2_0 rt_2_1 rt_2_2 rt_2_3 hk hg
  · exact rt_all 3 rt_3_0 rt_3_1 rt_3_2 rt_3_3 hk hg
  · exact rt_all 4 rt_4_0 rt_4_1 rt_4_2 rt_4_3 hk hg
  · exact rt_all 7 rt_7_0 rt_7_1 rt_7_2 rt_7_3 hk hg
theorem rat_small {p : Int × Int} (h : Rat' p) : p.1.natAbs.log2 < 1920 ∧ p.2.natAbs.log2 < 1920 ∧ p.2 ≤ 7 ∧ 1 ≤ p.2 := by
  obtain ⟨a, b⟩ := p
  obtain ⟨h1, ⟨h2, h2'⟩, h3⟩ := h
  simp only at h1 h2 h2' h3 ⊢
  have hb : 1 ≤ b ∧ b ≤ 7 := by
    simp only [dens, List.mem_cons, List.not_mem_nil, or_false] at h1
    omega
  have e1 := log2_small (b := a) (k := 10) (by omega) (by decide)
  have e2 := log2_small (b := b) (k := 10) (by omega) (by decide)
  omega
theorem ltext_ret {p : Int × Int} (h : Rat' p) : Ret 1 "_law_text" [rD p] (.str (rtx p)) := by
  refine ⟨by simp [D.pures, rD_pure], rfl, [], ?_⟩
  rw [fn_run t__law_text]
  obtain ⟨l1, l2, l3, l4⟩ := rat_small h
  have q := rat_ok h
  simp only [rtB, Bool.and_eq_true, decide_eq_true_eq] at q
  obtain ⟨⟨⟨q1, q2⟩, q3⟩, q4⟩ := q
  have hs := sizeLine_eq
  have n1 : (toString p.1 : Str).length + ("/" : Str).length ≤ 16777216 := by
    have : ("/" : Str).length = 1 := rfl
    omega
  have n2 : ((toString p.1 : Str) ++ ("/" : Str)).length + (toString p.2 : Str).length ≤ 16777216 := by
    have e : ((toString p.1 : Str) ++ ("/" : Str)).length = (toString p.1 : Str).length + ("/" : Str).length := by simp [len_tl, tl_append]
    have : ("/" : Str).length = 1 := rfl
    omega
  have r1 : toString p.1 = p.1.repr := rfl
  have r2 : toString p.2 = p.2.repr := rfl
  rw [r1] at n1 n2
  rw [r2] at n2
  by_cases h1 : p.2 = 1
  · simp [runFn, c__law_text_35, ev, evS, cop, okB, eqD, dscal, deq, truD, outS, rD, ixD, seqD, L2.atI, L2.ixN, h1, biD, l1, rtx]
  · simp [runFn, c__law_text_35, ev, evS, cop, okB, eqD, dscal, deq, truD, outS, rD, ixD, seqD, L2.atI, L2.ixN, h1, biD, l1, l2, bop, hs, n1, n2, rtx]
theorem text_ret {p : Int × Int} (h : Rat' p) : Ret 1 "text" [rD p] (.str (rtx p)) := by
  refine ⟨by simp [D.pures, rD_pure], rfl, [], ?_⟩
  rw [fn_run t_text]
  obtain ⟨l1, l2, l3, l4⟩ := rat_small h
  have q := rat_ok h
  simp only [rtB, Bool.and_eq_true, decide_eq_true_eq] at q
  obtain ⟨⟨⟨q1, q2⟩, q3⟩, q4⟩ := q
  have hs := sizeLine_eq
  have n1 : (toString p.1 : Str).length + ("/" : Str).length ≤ 16777216 := by
    have : ("/" : Str).length = 1 := rfl
    omega
  have n2 : ((toString p.1 : Str) ++ ("/" : Str)).length + (toString p.2 : Str).length ≤ 16777216 := by
    have e : ((toString p.1 : Str) ++ ("/" : Str)).length = (toString p.1 : Str).length + ("/" : Str).length := by simp [len_tl, tl_append]
    have : ("/" : Str).length = 1 := rfl
    omega
  have r1 : toString p.1 = p.1.repr := rfl
  have r2 : toString p.2 = p.2.repr := rfl
  rw [r1] at n1 n2
  rw [r2] at n2
  have big : (1000 : Int) < 10 ^ 600 := by decide +kernel
  obtain ⟨T, hT⟩ : ∃ T : Int, T = 10 ^ 600 := ⟨_, rfl⟩
  have hc : B.cst "TOO_GREAT" = some (.int T) := by rw [hT]; exact cst_great
  have hr := h.2.1
  have g1 : ¬ T ≤ (if p.1 < 0 then -p.1 else p.1) := by rw [hT]; split <;> omega
  have g2 : ¬ T ≤ p.2 := by rw [hT]; omega
  by_cases h1 : p.2 = 1
  · rw [h1] at g2
    simp [runFn, c_text_12, ev, evS, cop, okB, eqD, dscal, deq, truD, outS, rD, ixD, seqD, L2.atI, L2.ixN, h1, biD, l1, rtx, hc, g1, g2]
  · simp [runFn, c_text_12, ev, evS, cop, okB, eqD, dscal, deq, truD, outS, rD, ixD, seqD, L2.atI, L2.ixN, h1, biD, l1, l2, bop, hs, n1, n2, rtx, hc, g1, g2]
/-! ### rows -/
def units : List Int := [0, 1, 2, 7, 999999999]
def leafRow (ms ss : List (Int × Int)) : List Str := [("leaf" : Str)] ++ ms.map rtx ++ [(":" : Str)] ++ ss.map rtx
def unitRow (u : Int) : List Str := [("unit" : Str), (toString u : Str)]
def rowsP : Pap → List (List Str)
  | .leaf ms ss => [leafRow ms ss]
  | .unit u p q => unitRow u :: rowsP p ++ rowsP q
def jw (ws : List Str) : Str := Txt.join " " ws
def Good : Nat → Pap → Prop
  | _, .leaf ms ss => ms.length ≤ 5 ∧ ss.length ≤ 3 ∧ (∀ p ∈ ms, Rat' p) ∧ ∀ p ∈ ss, Rat' p
  | d + 1, .unit u p q => u ∈ units ∧ Good d p ∧ Good d q
  | 0, .unit _ _ _ => False
theorem ratsv_ok {r a b : Int} (hr : 0 ≤ r) (ha : 0 < a) (hb : 0 ≤ b) (n : Nat) : (ratsv r a b n).length = n ∧ ∀ p ∈ ratsv r a b n, Rat' p := by
  refine ⟨by simp [ratsv], fun p hp => ?_⟩
  obtain ⟨k, _, rfl⟩ := List.mem_map.mp hp
  have : 0 ≤ b * (k : Int) := Int.mul_nonneg hb (by omega)
  exact (ratv_ok (fdiv_nn hr (by omega))).1
theorem leafv_good (d : Nat) {r : Int} (hr : 0 ≤ r) : Good d (leafv r) := by
  have u1 := Int.fmod_nonneg_of_pos (a := r.fdiv 3) (b := 6) (by decide)
  have u2 := Int.fmod_lt_of_pos (r.fdiv 3) (b := 6) (by decide)
  have u3 := Int.fmod_nonneg_of_pos (a := r.fdiv 18) (b := 4) (by decide)
  have u4 := Int.fmod_lt_of_pos (r.fdiv 18) (b := 4) (by decide)
  obtain ⟨a1, a2⟩ := ratsv_ok hr (a := 7) (b := 3) (by decide) (by decide) ((r.fdiv 3).fmod 6).toNat
  obtain ⟨b1, b2⟩ := ratsv_ok hr (a := 5) (b := 2) (by decide) (by decide) ((r.fdiv 18).fmod 4).toNat
  cases d <;> exact ⟨by omega, by omega, a2, b2⟩
theorem papv_good : ∀ (d : Nat) (r : Int), 0 ≤ r → Good d (papv d r)
  | 0, r, hr => leafv_good 0 hr
  | d + 1, r, hr => by
    unfold papv
    split
    · exact leafv_good _ hr
    · refine ⟨?_, papv_good d _ (fdiv_nn hr (by decide)), papv_good d _ (by have := fdiv_nn hr (b := 17) (by decide); omega)⟩
      have u1 := Int.fmod_nonneg_of_pos (a := r.fdiv 3) (b := 5) (by decide)
      have u2 := Int.fmod_lt_of_pos (r.fdiv 3) (b := 5) (by decide)
      unfold unitv units
      have : ((r.fdiv 3).fmod 5).toNat = 0 ∨ ((r.fdiv 3).fmod 5).toNat = 1 ∨ ((r.fdiv 3).fmod 5).toNat = 2 ∨ ((r.fdiv 3).fmod 5).toNat = 3 ∨ ((r.fdiv 3).fmod 5).toNat = 4 := by omega
      rcases this with e | e | e | e | e <;> rw [e] <;> decide
end K82
set_option Elab.async false
set_option linter.all false
set_option maxRecDepth 100000
set_option maxHeartbeats 4000000
/-! K82i: the rows of papers. -/
namespace K82
open PySem L2 KA TL
theorem strsD_map : ∀ l : List Str, strsD (l.map D.str) = some l
  | [] => rfl
  | a :: l => by simp [strsD, strsD_map l]
theorem pures_str (l : List Str) : D.pures (l.map D.str) = true := pures_map D.str (fun _ => rfl) l
theorem comp_txt {n i : Nat} {f : Str} {x : Bool} {ρ : Ro} {μ : Store} (hf : ∀ p, Rat' p → Ret 1 f [rD p] (.str (rtx p))) (hn : 1 ≤ n) (hi : i < ρ.length) (ms : List (Int × Int)) (hm : ∀ p ∈ ms, Rat' p) (hl : ms.length ≤ 10) :
    compL (fun _ => true) (.name i) [i] x false (ev (G n) (.bl true)) (ev (G n) (.call f (.cons (.var i) .nil))) (ms.map rD) [] ρ μ = .ok (.lst (ms.map fun p => D.str (rtx p))) μ := by
  rw [compL_map (fun d => match d with
    | .tup [.int a, .int b] => .str (rtx (a, b))
    | d => d) rfl _ _ (by simp [sizeLine_eq]; omega)]
  · simp [List.map_map, Function.comp_def, rD]
  · intro d hd
    obtain ⟨p, hp, rfl⟩ := List.mem_map.mp hd
    refine ⟨_, rfl, rfl, ?_⟩
    have g : ((wipeR ρ [i]).set i (some (rD p)))[i]? = some (some (rD p)) := by simp [wipeR, hi]
    have q := (hf p (hm p hp)).call (μ := μ) hn
    simp only [ev, g, bind_ok, q]
    simp [rD]
theorem sum_le : ∀ {l : List Str} {k : Nat}, (∀ w ∈ l, w.length ≤ k) → (l.map (·.length)).sum ≤ k * l.length
  | [], k, _ => by simp
  | a :: l, k, h => by
    have h1 := h a (by simp)
    have h2 := sum_le (l := l) (k := k) fun w hw => h w (by simp [hw])
    simp only [List.map_cons, List.sum_cons, List.length_cons, Nat.mul_add, Nat.mul_one]
    omega
theorem wd_len {w : Str} (h : wdB w = true) : w.length ≤ 10 := by
  simp only [wdB, Bool.and_eq_true, decide_eq_true_eq] at h
  exact h.1.1.1
theorem wd_rtx {p : Int × Int} (h : Rat' p) : wdB (rtx p) = true := by
  have q := rat_ok h
  simp only [rtB, Bool.and_eq_true, decide_eq_true_eq] at q
  exact q.1.1.1
theorem wd_fix {w : Str} (h : w ∈ fixW) : wdB w = true := List.all_eq_true.mp fix_chk w h
theorem leafRow_wd {ms ss : List (Int × Int)} (h1 : ∀ p ∈ ms, Rat' p) (h2 : ∀ p ∈ ss, Rat' p) : ∀ w ∈ leafRow ms ss, wdB w = true := by
  intro w hw
  simp only [leafRow, List.mem_append, List.mem_map, List.mem_singleton] at hw
  rcases hw with ((rfl | ⟨p, hp, rfl⟩) | rfl) | ⟨p, hp, rfl⟩
  · exact wd_fix (by decide +kernel)
  · exact wd_rtx (h1 p hp)
  · exact wd_fix (by decide +kernel)
  · exact wd_rtx (h2 p hp)
theorem unitRow_wd {u : Int} (h : u ∈ units) : ∀ w ∈ unitRow u, wdB w = true := by
  intro w hw
  simp only [units, List.mem_cons, List.not_mem_nil, or_false] at h
  simp only [unitRow, List.mem_cons, List.not_mem_nil, or_false] at hw
  rcases hw with rfl | rfl
  · exact wd_fix (by decide +kernel)
  · rcases h with rfl | rfl | rfl | rfl | rfl <;> exact wd_fix (by decide +kernel)
theorem rowsP_wd : ∀ {d : Nat} {P : Pap}, Good d P → ∀ ws ∈ rowsP P, (∀ w ∈ ws, wdB w = true) ∧ ws ≠ [] ∧ ws.length ≤ 10
  | d, .leaf ms ss, h => by
    intro ws hws
    simp only [rowsP, List.mem_singleton] at hws
    subst hws
    have h' : ms.length ≤ 5 ∧ ss.length ≤ 3 ∧ (∀ p ∈ ms, Rat' p) ∧ ∀ p ∈ ss, Rat' p := by cases d <;> exact h
    exact ⟨leafRow_wd h'.2.2.1 h'.2.2.2, by simp [leafRow], by simp [leafRow]; omega⟩
  | 0, .unit u p q, h => h.elim
  | d + 1, .unit u p q, h => by
    intro ws hws
    simp only [rowsP, List.mem_append, List.mem_cons] at hws
    rcases hws with (rfl | hws) | hws
    · exact ⟨unitRow_wd h.1, by simp [unitRow], by simp [unitRow]⟩
    · exact rowsP_wd h.2.1 ws hws
    · exact rowsP_wd h.2.2 ws hws
theorem rowsP_len : ∀ {d : Nat} {P : Pap}, Good d P → (rowsP P).length + 1 ≤ 2 ^ (d + 1)
  | d, .leaf ms ss, h => by
    have : 2 ^ 1 ≤ 2 ^ (d + 1) := Nat.pow_le_pow_right (by decide) (by omega)
    simp [rowsP]; omega
  | 0, .unit u p q, h => h.elim
  | d + 1, .unit u p q, h => by
    have h1 := rowsP_len h.2.1
    have h2 := rowsP_len h.2.2
    have e : 2 ^ (d + 1 + 1) = 2 ^ (d + 1) + 2 ^ (d + 1) := by rw [Nat.pow_succ]; omega
    simp [rowsP]; omega
/-- the row of a unit -/
theorem jw_unit (u : Int) : jw (unitRow u) = ("unit " : Str) ++ (toString u : Str) := by
  unfold jw unitRow
  rw [join_eq]
  rfl
def rowStr (ws : List Str) : D := .str (jw ws)
theorem x361 {n : Nat} {ms ss : List (Int × Int)} (hn : 1 ≤ n) (h1 : ∀ p ∈ ms, Rat' p) (hl : ms.length ≤ 10) (μ : Store) (o : Option D) : ev (G n) x_36_1 [some (Pap.leaf ms ss).D, o] μ = .ok (.lst (ms.map fun p => D.str (rtx p))) μ := by
  have hw : evW (G n) (.it (.ix (.var 0) (.int 1))) [some (Pap.leaf ms ss).D, o] μ = .ok (ms.map rD) (fun _ => true) μ := by simp [evW, ev, Pap.D, ixD, seqD, L2.atI, L2.ixN, srcD]
  exact (ev_comp hw).trans (comp_txt (fun p hp => ltext_ret hp) hn (by simp) ms h1 hl)
theorem x363 {n : Nat} {ms ss : List (Int × Int)} (hn : 1 ≤ n) (h1 : ∀ p ∈ ss, Rat' p) (hl : ss.length ≤ 10) (μ : Store) (o : Option D) : ev (G n) x_36_3 [some (Pap.leaf ms ss).D, o] μ = .ok (.lst (ss.map fun p => D.str (rtx p))) μ := by
  have hw : evW (G n) (.it (.ix (.var 0) (.int 2))) [some (Pap.leaf ms ss).D, o] μ = .ok (ss.map rD) (fun _ => true) μ := by simp [evW, ev, Pap.D, ixD, seqD, L2.atI, L2.ixN, srcD]
  exact (ev_comp hw).trans (comp_txt (fun p hp => ltext_ret hp) hn (by simp) ss h1 hl)
/-- a row's words joined -/
theorem join_row {ws : List Str} (h : ∀ w ∈ ws, wdB w = true) (hl : ws.length ≤ 12) (μ : Store) : mth1D .join (.str " ") (.lst (ws.map D.str)) μ = .ok (rowStr ws) μ := by
  have h1 := sum_le (l := ws) (k := 10) fun w hw => wd_len (h w hw)
  have h2 : (" " : Str).length = 1 := rfl
  have g : (ws.map (·.length)).sum + ws.length * (" " : Str).length ≤ 16777216 := by rw [h2]; omega
  simp only [mth1D, seqD, Option.bind_some, strsD_map, g, if_true]
  rfl
end K82
set_option Elab.async false
set_option linter.all false
set_option maxRecDepth 100000
set_option maxHeartbeats 4000000
/-! K82j: _law_rows, rows_of, text_of. -/
namespace K82
open PySem L2 KA TL
def rowsD (P : Pap) : List D := (rowsP P).map rowStr
theorem rowsD_pure (l : List (List Str)) : D.pures (l.map rowStr) = true := pures_map rowStr (fun _ => rfl) l
theorem row_words (ms ss : List (Int × Int)) : [D.str "leaf"] ++ ms.map (fun p => D.str (rtx p)) ++ [D.str ":"] ++ ss.map (fun p => D.str (rtx p)) = (leafRow ms ss).map D.str := by
  simp [leafRow, List.map_map, Function.comp_def]
theorem bop_lst {a b : List D} {μ : Store} (h : a.length + b.length ≤ 1000) : bop .add (.lst a) (.lst b) μ = .ok (.lst (a ++ b)) μ := by
  have : a.length + b.length ≤ sizeLine := by rw [sizeLine_eq]; omega
  simp [bop, lstD, this]
theorem lst_one {Γ : Gm} {z : Str} {ρ : Ro} {μ : Store} : ev Γ (.lst false (.cons (.str z) .nil)) ρ μ = .ok (.lst [.str z]) μ := by
  simp [ev, sizeLine_eq]
theorem lst_of {Γ : Gm} {x : E} {d : D} {ρ : Ro} {μ : Store} (h : ev Γ x ρ μ = .ok d μ) : ev Γ (.lst false (.cons x .nil)) ρ μ = .ok (.lst [d]) μ := by
  simp [ev, h, sizeLine_eq]
theorem ev_bin {Γ : Gm} {o : BO} {a b : E} {x y : D} {ρ : Ro} {μ μ1 μ2 : Store} (h1 : ev Γ a ρ μ = .ok x μ1) (h2 : ev Γ b ρ μ1 = .ok y μ2) : ev Γ (.bin o a b) ρ μ = bop o x y μ2 := by
  simp only [ev, h1, h2, bind_ok]
theorem words_ev {Γ : Gm} {x1 x2 : E} {ρ : Ro} {μ : Store} {ms ss : List (Int × Int)} (h1 : ev Γ x1 ρ μ = .ok (.lst (ms.map fun p => D.str (rtx p))) μ) (h2 : ev Γ x2 ρ μ = .ok (.lst (ss.map fun p => D.str (rtx p))) μ) (l1 : ms.length ≤ 10) (l2 : ss.length ≤ 10) :
    ev Γ (.bin .add (.bin .add (.bin .add (.lst false (.cons (.str "leaf") .nil)) x1) (.lst false (.cons (.str ":") .nil))) x2) ρ μ = .ok (.lst ((leafRow ms ss).map D.str)) μ := by
  rw [← row_words]
  have a1 : bop .add (.lst [D.str "leaf"]) (.lst (ms.map fun p => D.str (rtx p))) μ = .ok (.lst ([D.str "leaf"] ++ ms.map fun p => D.str (rtx p))) μ := bop_lst (by simp; omega)
  have a2 : bop .add (.lst ([D.str "leaf"] ++ ms.map fun p => D.str (rtx p))) (.lst [D.str ":"]) μ = .ok (.lst (([D.str "leaf"] ++ ms.map fun p => D.str (rtx p)) ++ [D.str ":"])) μ := bop_lst (by simp; omega)
  have a3 : bop .add (.lst (([D.str "leaf"] ++ ms.map fun p => D.str (rtx p)) ++ [D.str ":"])) (.lst (ss.map fun p => D.str (rtx p))) μ = .ok (.lst ((([D.str "leaf"] ++ ms.map fun p => D.str (rtx p)) ++ [D.str ":"]) ++ ss.map fun p => D.str (rtx p))) μ := bop_lst (by simp; omega)
  rw [ev, ev, ev, lst_one]
  simp only [bind_ok, h1, a1, lst_one, a2, h2, a3]
theorem join_ev {Γ : Gm} {x : E} {ρ : Ro} {μ : Store} {ws : List Str} (h : ev Γ x ρ μ = .ok (.lst (ws.map D.str)) μ) (hw : ∀ w ∈ ws, wdB w = true) (hl : ws.length ≤ 12) : ev Γ (.mth1 .join (.str " ") x) ρ μ = .ok (rowStr ws) μ := by
  rw [ev, ev]
  simp only [bind_ok, rcvD, if_true, h, join_row hw hl]
theorem lrows_ret : ∀ {d : Nat} {P : Pap}, Good d P → d ≤ 6 → Ret (d + 2) "_law_rows" [P.D] (.lst (rowsD P))
  | d, .leaf ms ss, h, hd => by
    have h' : ms.length ≤ 5 ∧ ss.length ≤ 3 ∧ (∀ p ∈ ms, Rat' p) ∧ ∀ p ∈ ss, Rat' p := by cases d <;> exact h
    obtain ⟨l1, l2, g1, g2⟩ := h'
    refine ⟨by simp [D.pures, Pap.pure], by simp only [D.pure]; exact rowsD_pure _, [], ?_⟩
    rw [fn_run t__law_rows]
    have k1 := x361 (n := d + 1) (ss := ss) (by omega) g1 (by omega) [] none
    have k2 := x363 (n := d + 1) (ms := ms) (by omega) g2 (by omega) [] none
    have jr := join_ev (words_ev k1 k2 (by omega) (by omega)) (leafRow_wd g1 g2) (by simp [leafRow]; omega)
    have hc : ev (G (d + 1)) (.cmp .eq (.ix (.var 0) (.int 0)) (.str "leaf")) [some (Pap.leaf ms ss).D, none] [] = .ok (.bl true) [] := by
      simp [ev, cop, okB, eqD, dscal, deq, Pap.D, ixD, seqD, L2.atI, L2.ixN]
    unfold runFn c__law_rows_36
    simp only [List.length_cons, List.length_nil, List.map_cons, List.map_nil, List.cons_append, List.nil_append, if_true, evS, List.replicate, hc, sbind_ok, truD]
    have hr : ev (G (d + 1)) (.lst false (.cons (.mth1 .join (.str " ") (.bin .add (.bin .add (.bin .add (.lst false (.cons (.str "leaf") .nil)) x_36_1) (.lst false (.cons (.str ":") .nil))) x_36_3)) .nil)) [some (Pap.leaf ms ss).D, none] [] = .ok (.lst [rowStr (leafRow ms ss)]) [] := by
      rw [ev, ev, jr]
      simp [ev, sizeLine_eq]
    simp only [hr, sbind_ok, seq_rt, outS, rowsD, rowsP, List.map_cons, List.map_nil]
  | 0, .unit u p q, h, hd => h.elim
  | d + 1, .unit u p q, h, hd => by
    obtain ⟨hu, hp, hq⟩ := h
    have ip := lrows_ret hp (by omega)
    have iq := lrows_ret hq (by omega)
    refine ⟨by simp [D.pures, Pap.pure], by simp only [D.pure]; exact rowsD_pure _, [], ?_⟩
    rw [fn_run t__law_rows]
    have hc : ev (G (d + 2)) (.cmp .eq (.ix (.var 0) (.int 0)) (.str "leaf")) [some (Pap.unit u p q).D, none] [] = .ok (.bl false) [] := by
      simp [ev, cop, okB, eqD, dscal, deq, Pap.D, ixD, seqD, L2.atI, L2.ixN]
      decide
    have lp := rowsP_len hp
    have lq := rowsP_len hq
    have pw : 2 ^ (d + 1) ≤ 2 ^ 6 := Nat.pow_le_pow_right (by decide) (by omega)
    have hu2 : u.natAbs.log2 < 1920 := by
      simp only [units, List.mem_cons, List.not_mem_nil, or_false] at hu
      have := log2_small (b := u) (k := 40) (by omega) (by decide)
      omega
    have hs : (toString u : Str).length ≤ 10 := wd_len (unitRow_wd hu _ (by simp [unitRow]))
    have a0 : ev (G (d + 2)) (.lst false (.cons (.bin .add (.str "unit ") (.bi .str (.ix (.var 0) (.int 1)))) .nil)) [some (Pap.unit u p q).D, none] [] = .ok (.lst [rowStr (unitRow u)]) [] := by
      have e1 : bop .add (.str "unit ") (.str (toString u)) [] = .ok (rowStr (unitRow u)) [] := by
        have : ("unit " : Str).length + (toString u : Str).length ≤ sizeLine := by
          have : ("unit " : Str).length = 5 := rfl
          rw [sizeLine_eq]; omega
        rw [show rowStr (unitRow u) = .str (("unit " : Str) ++ (toString u : Str)) from by rw [rowStr, jw_unit]]
        simp only [bop]
        rw [if_pos ⟨trivial, this⟩]
      have e2 : ev (G (d + 2)) (.bi .str (.ix (.var 0) (.int 1))) [some (Pap.unit u p q).D, none] [] = .ok (.str (toString u)) [] := by
        simp [ev, Pap.D, ixD, seqD, L2.atI, L2.ixN, biD, hu2]
      exact lst_of ((ev_bin (x := .str "unit ") rfl e2).trans e1)
    have a1 : ev (G (d + 2)) (.call "_law_rows" (.cons (.ix (.var 0) (.int 2)) .nil)) [some (Pap.unit u p q).D, none] [] = .ok (.lst (rowsD p)) [] := by
      have := ip.call (μ := []) (Nat.le_refl (d + 2))
      simp [ev, Pap.D, ixD, seqD, L2.atI, L2.ixN, this]
    have a2 : ev (G (d + 2)) (.call "_law_rows" (.cons (.ix (.var 0) (.int 3)) .nil)) [some (Pap.unit u p q).D, none] [] = .ok (.lst (rowsD q)) [] := by
      have := iq.call (μ := []) (Nat.le_refl (d + 2))
      simp [ev, Pap.D, ixD, seqD, L2.atI, L2.ixN, this]
    have b1 : bop .add (.lst [rowStr (unitRow u)]) (.lst (rowsD p)) [] = .ok (.lst ([rowStr (unitRow u)] ++ rowsD p)) [] := bop_lst (by simp [rowsD]; omega)
    have b2 : bop .add (.lst ([rowStr (unitRow u)] ++ rowsD p)) (.lst (rowsD q)) [] = .ok (.lst (([rowStr (unitRow u)] ++ rowsD p) ++ rowsD q)) [] := bop_lst (by simp [rowsD]; omega)
    have hr : ev (G (d + 2)) (.bin .add (.bin .add (.lst false (.cons (.bin .add (.str "unit ") (.bi .str (.ix (.var 0) (.int 1)))) .nil)) (.call "_law_rows" (.cons (.ix (.var 0) (.int 2)) .nil))) (.call "_law_rows" (.cons (.ix (.var 0) (.int 3)) .nil))) [some (Pap.unit u p q).D, none] [] = .ok (.lst (rowsD (.unit u p q))) [] := by
      rw [ev, ev, a0]
      simp only [bind_ok, a1, b1, a2, b2]
      simp [rowsD, rowsP]
    unfold runFn c__law_rows_36
    simp only [List.length_cons, List.length_nil, List.map_cons, List.map_nil, List.cons_append, List.nil_append, if_true, evS, List.replicate, hc, hr, sbind_ok, truD, seq_nx, seq_rt, outS]
end K82
set_option Elab.async false
set_option linter.all false
set_option maxRecDepth 100000
set_option maxHeartbeats 4000000
/-! K82k: rows_of, text_of. -/
namespace K82
open PySem L2 KA TL
open PySem.PyData in
theorem pap_dep : ∀ {d : Nat} {P : Pap}, Good d P → P.D.py.depth ≤ d + 3
  | d, .leaf ms ss, h => by
    have r2 : ∀ p : Int × Int, (rD p).py.depth ≤ 1 := fun p => dep_tup (k := 0) (by intro d hd; simp at hd; rcases hd with rfl | rfl <;> simp [D.py, PyData.depth])
    have t2 : ∀ l : List (Int × Int), (D.tup (l.map rD)).py.depth ≤ 2 := fun l => dep_tup (k := 1) (by intro d hd; obtain ⟨p, _, rfl⟩ := List.mem_map.mp hd; exact r2 p)
    have : (Pap.leaf ms ss).D.py.depth ≤ 3 := dep_tup (k := 2) (by
      intro d hd
      simp at hd
      rcases hd with rfl | rfl | rfl
      · simp [D.py, PyData.depth]
      · exact t2 ms
      · exact t2 ss)
    omega
  | 0, .unit u p q, h => h.elim
  | d + 1, .unit u p q, h => by
    have h1 := pap_dep h.2.1
    have h2 := pap_dep h.2.2
    exact dep_tup (k := d + 3) (by
      intro e he
      simp at he
      rcases he with rfl | rfl | rfl | rfl
      · simp [D.py, PyData.depth]
      · simp [D.py, PyData.depth]
      · exact h1
      · exact h2)
def nodes : Pap → Nat
  | .leaf _ _ => 1
  | .unit _ p q => 1 + nodes p + nodes q
theorem nodes_rows : ∀ P : Pap, (rowsP P).length = nodes P
  | .leaf _ _ => rfl
  | .unit _ p q => by simp [rowsP, nodes, nodes_rows p, nodes_rows q]; omega
def stackRows (S : List Pap) : List D := (S.map rowsD).flatten
def stackN (S : List Pap) : Nat := (S.map nodes).sum
abbrev stk (S : List Pap) : List D := (S.map Pap.D).reverse
theorem x191 {n : Nat} {ms ss : List (Int × Int)} {ρ : Ro} (hn : 1 ≤ n) (h1 : ∀ p ∈ ms, Rat' p) (hl : ms.length ≤ 10) (μ : Store) (h3 : ρ[3]? = some (some (Pap.leaf ms ss).D)) (h5 : 5 < ρ.length) : ev (G n) x_19_1 ρ μ = .ok (.lst (ms.map fun p => D.str (rtx p))) μ := by
  have hw : evW (G n) (.it (.ix (.var 3) (.int 1))) ρ μ = .ok (ms.map rD) (fun _ => true) μ := by simp [evW, ev, h3, Pap.D, ixD, seqD, L2.atI, L2.ixN, srcD]
  exact (ev_comp hw).trans (comp_txt (fun p hp => text_ret hp) hn h5 ms h1 hl)
theorem x193 {n : Nat} {ms ss : List (Int × Int)} {ρ : Ro} (hn : 1 ≤ n) (h1 : ∀ p ∈ ss, Rat' p) (hl : ss.length ≤ 10) (μ : Store) (h3 : ρ[3]? = some (some (Pap.leaf ms ss).D)) (h5 : 5 < ρ.length) : ev (G n) x_19_3 ρ μ = .ok (.lst (ss.map fun p => D.str (rtx p))) μ := by
  have hw : evW (G n) (.it (.ix (.var 3) (.int 2))) ρ μ = .ok (ss.map rD) (fun _ => true) μ := by simp [evW, ev, h3, Pap.D, ixD, seqD, L2.atI, L2.ixN, srcD]
  exact (ev_comp hw).trans (comp_txt (fun p hp => text_ret hp) hn h5 ss h1 hl)
/-- one turn, a leaf -/
theorem turn_leaf {n : Nat} {d : Nat} {ms ss : List (Int × Int)} {P0 : Option D} {o3 o4 o5 : Option D} {F S : List D} (hn : 1 ≤ n) (hg : Good d (.leaf ms ss)) (hF : F.length ≤ 1000) :
    ∃ o4', evS (G n) b_19_4 [P0, some (.loc 0), some (.loc 1), o3, o4, o5] [.lst F, .lst (S ++ [(Pap.leaf ms ss).D])] = .nx [P0, some (.loc 0), some (.loc 1), some (Pap.leaf ms ss).D, o4', o5] [.lst (F ++ [rowStr (leafRow ms ss)]), .lst S] := by
  have h' : ms.length ≤ 5 ∧ ss.length ≤ 3 ∧ (∀ p ∈ ms, Rat' p) ∧ ∀ p ∈ ss, Rat' p := by cases d <;> exact hg
  obtain ⟨l1, l2, g1, g2⟩ := h'
  have hp : evS (G n) (.set (.name 3) (.mth0 .pop (.var 2))) [P0, some (.loc 0), some (.loc 1), o3, o4, o5] [.lst F, .lst (S ++ [(Pap.leaf ms ss).D])] = .nx [P0, some (.loc 0), some (.loc 1), some (Pap.leaf ms ss).D, o4, o5] [.lst F, .lst S] := by
    simp [evS, ev, mth0D, tgt]
  have hc : ev (G n) (.cmp .eq (.ix (.var 3) (.int 0)) (.str "leaf")) [P0, some (.loc 0), some (.loc 1), some (Pap.leaf ms ss).D, o4, o5] [.lst F, .lst S] = .ok (.bl true) [.lst F, .lst S] := by
    simp [ev, cop, okB, eqD, dscal, deq, Pap.D, ixD, seqD, L2.atI, L2.ixN]
  have hw := words_ev (x191 (ρ := [P0, some (.loc 0), some (.loc 1), some (Pap.leaf ms ss).D, o4, o5]) (ss := ss) hn g1 (by omega) [.lst F, .lst S] rfl (by simp)) (x193 (ms := ms) hn g2 (by omega) [.lst F, .lst S] rfl (by simp)) (by omega) (by omega)
  refine ⟨some (.lst ((leafRow ms ss).map D.str)), ?_⟩
  have hj := join_ev (Γ := G n) (x := .var 4) (ρ := [P0, some (.loc 0), some (.loc 1), some (Pap.leaf ms ss).D, some (.lst ((leafRow ms ss).map D.str)), o5]) (μ := [.lst F, .lst S]) (ws := leafRow ms ss) (by simp [ev]) (leafRow_wd g1 g2) (by simp [leafRow]; omega)
  have ha : ev (G n) (.mth1 .append (.var 1) (.mth1 .join (.str " ") (.var 4))) [P0, some (.loc 0), some (.loc 1), some (Pap.leaf ms ss).D, some (.lst ((leafRow ms ss).map D.str)), o5] [.lst F, .lst S] = .ok .non [.lst (F ++ [rowStr (leafRow ms ss)]), .lst S] := by
    have hz : F.length < sizeLine := by rw [sizeLine_eq]; omega
    have hv : ev (G n) (.var 1) [P0, some (.loc 0), some (.loc 1), some (Pap.leaf ms ss).D, some (.lst ((leafRow ms ss).map D.str)), o5] [.lst F, .lst S] = .ok (.loc 0) [.lst F, .lst S] := by simp [ev]
    rw [ev, hv]
    simp only [bind_ok, hj]
    simp [rcvD, lstD, mth1D, hz]
  unfold b_19_4
  rw [evS, hp]
  simp only [evS, seq_nx, hc, sbind_ok, truD, hw, tgt, ha, if_true]
  simp [ha]
/-- one turn, a unit -/
theorem turn_unit {n : Nat} {d : Nat} {u : Int} {p q : Pap} {P0 : Option D} {o3 o4 o5 : Option D} {F S : List D} (hn : 1 ≤ n) (hg : Good d (.unit u p q)) (hF : F.length ≤ 1000) (hS : S.length ≤ 1000) :
    evS (G n) b_19_4 [P0, some (.loc 0), some (.loc 1), o3, o4, o5] [.lst F, .lst (S ++ [(Pap.unit u p q).D])] = .nx [P0, some (.loc 0), some (.loc 1), some (Pap.unit u p q).D, o4, o5] [.lst (F ++ [rowStr (unitRow u)]), .lst (S ++ [q.D, p.D])] := by
  have hu : u ∈ units := by
    cases d with
    | zero => exact hg.elim
    | succ d => exact hg.1
  have hp : evS (G n) (.set (.name 3) (.mth0 .pop (.var 2))) [P0, some (.loc 0), some (.loc 1), o3, o4, o5] [.lst F, .lst (S ++ [(Pap.unit u p q).D])] = .nx [P0, some (.loc 0), some (.loc 1), some (Pap.unit u p q).D, o4, o5] [.lst F, .lst S] := by
    simp [evS, ev, mth0D, tgt]
  have hc : ev (G n) (.cmp .eq (.ix (.var 3) (.int 0)) (.str "leaf")) [P0, some (.loc 0), some (.loc 1), some (Pap.unit u p q).D, o4, o5] [.lst F, .lst S] = .ok (.bl false) [.lst F, .lst S] := by
    simp [ev, cop, okB, eqD, dscal, deq, Pap.D, ixD, seqD, L2.atI, L2.ixN]
    decide
  have hu2 : u.natAbs.log2 < 1920 := by
    simp only [units, List.mem_cons, List.not_mem_nil, or_false] at hu
    have := log2_small (b := u) (k := 40) (by omega) (by decide)
    omega
  have hs : (toString u : Str).length ≤ 10 := wd_len (unitRow_wd hu _ (by simp [unitRow]))
  have hz : F.length < sizeLine := by rw [sizeLine_eq]; omega
  have hx : S.length + 2 ≤ sizeLine := by rw [sizeLine_eq]; omega
  have e1 : ev (G n) (.fstr (.cons (.str "unit ") (.cons (.fmt (.ix (.var 3) (.int 1))) .nil))) [P0, some (.loc 0), some (.loc 1), some (Pap.unit u p q).D, o4, o5] [.lst F, .lst S] = .ok (rowStr (unitRow u)) [.lst F, .lst S] := by
    have h5 : ("unit " : Str).length = 5 := rfl
    have hem : (Str.empty ++ ("unit " : Str)) = "unit " := rfl
    have e3 : ev (G n) (.fmt (.ix (.var 3) (.int 1))) [P0, some (.loc 0), some (.loc 1), some (Pap.unit u p q).D, o4, o5] [.lst F, .lst S] = .ok (.str (toString u)) [.lst F, .lst S] := by
      simp [ev, Pap.D, ixD, seqD, L2.atI, L2.ixN, fmtD, hu2]
    have hl1 : (Str.empty ++ ("unit " : Str)).length ≤ sizeLine := by rw [hem, h5, sizeLine_eq]; omega
    have hl2 : ((Str.empty ++ ("unit " : Str)) ++ (toString u : Str)).length ≤ sizeLine := by
      rw [hem, PySem.Str.length_append, h5, sizeLine_eq]; omega
    rw [show rowStr (unitRow u) = .str (("unit " : Str) ++ (toString u : Str)) from by rw [rowStr, jw_unit], ev, evF, ev]
    simp only [bind_ok]
    rw [if_pos hl1, evF, e3]
    simp only [bind_ok]
    rw [if_pos hl2, evF, hem]
  have ha : ev (G n) (.mth1 .append (.var 1) (.fstr (.cons (.str "unit ") (.cons (.fmt (.ix (.var 3) (.int 1))) .nil)))) [P0, some (.loc 0), some (.loc 1), some (Pap.unit u p q).D, o4, o5] [.lst F, .lst S] = .ok .non [.lst (F ++ [rowStr (unitRow u)]), .lst S] := by
    have hv : ev (G n) (.var 1) [P0, some (.loc 0), some (.loc 1), some (Pap.unit u p q).D, o4, o5] [.lst F, .lst S] = .ok (.loc 0) [.lst F, .lst S] := by simp [ev]
    rw [ev, hv]
    simp only [bind_ok, e1]
    simp [rcvD, lstD, mth1D, hz]
  have hb : ev (G n) (.mth1 .extend (.var 2) (.lst false (.cons (.ix (.var 3) (.int 3)) (.cons (.ix (.var 3) (.int 2)) .nil)))) [P0, some (.loc 0), some (.loc 1), some (Pap.unit u p q).D, o4, o5] [.lst (F ++ [rowStr (unitRow u)]), .lst S] = .ok .non [.lst (F ++ [rowStr (unitRow u)]), .lst (S ++ [q.D, p.D])] := by
    simp [ev, rcvD, lstD, mth1D, hx, Pap.D, ixD, seqD, L2.atI, L2.ixN, sizeLine_eq]
    omega
  unfold b_19_4
  rw [evS, hp]
  simp only [evS, seq_nx, hc, sbind_ok, truD, ha, hb]
  try simp
end K82
set_option Elab.async false
set_option linter.all false
set_option maxRecDepth 100000
set_option maxHeartbeats 4000000
/-! K82l: rows_of's loop. -/
namespace K82
open PySem L2 KA TL
theorem pap_lay : ∀ P : Pap, P.D.lay
  | .leaf ms ss => by
    have r2 : ∀ l : List (Int × Int), (D.tup (l.map rD)).lay := fun l => lay_tup (by
      intro d hd
      obtain ⟨p, _, rfl⟩ := List.mem_map.mp hd
      exact lay_tup (by intro e he; simp at he; rcases he with rfl | rfl <;> rfl))
    exact lay_tup (by
      intro d hd
      simp at hd
      rcases hd with rfl | rfl | rfl
      · exact lay_str (by decide +kernel)
      · exact r2 ms
      · exact r2 ss)
  | .unit u p q => by
    have h1 := pap_lay p
    have h2 := pap_lay q
    exact lay_tup (by
      intro e he
      simp at he
      rcases he with rfl | rfl | rfl | rfl
      · exact lay_str (by decide +kernel)
      · rfl
      · exact h1
      · exact h2)
/-- the loop's test -/
theorem test_ev {Γ : Gm} {P0 : Option D} {o3 o4 o5 : Option D} {F : List D} {S : List Pap} (hg : ∀ P ∈ S, Good 6 P) :
    ev Γ w_19_5 [P0, some (.loc 0), some (.loc 1), o3, o4, o5] [.lst F, .lst (S.map Pap.D)] = .ok (.bl (!S.isEmpty)) [.lst F, .lst (S.map Pap.D)] := by
  have he : eqD [.lst F, .lst (S.map Pap.D)] (.loc 1) (.lst []) = some S.isEmpty := by
    rw [eqD_list (xs := S.map Pap.D) (ys := []) rfl rfl rfl (pures_map Pap.D Pap.pure S) rfl (lay_lst (by
      intro d hd
      obtain ⟨p, _, rfl⟩ := List.mem_map.mp hd
      exact pap_lay p)) (lay_lst (by simp)) (Nat.le_trans (dep_lst (k := 9) (by
      intro d hd
      obtain ⟨p, hp, rfl⟩ := List.mem_map.mp hd
      exact pap_dep (hg p hp))) (by omega)) (by decide), eqv_nil]
    cases S <;> rfl
  unfold w_19_5
  rw [ev]
  simp [ev, cop, okB, he, sizeLine_eq]
theorem good_up : ∀ {d : Nat} {P : Pap}, Good d P → Good (d + 1) P
  | 0, .leaf _ _, h => h
  | d + 1, .leaf _ _, h => h
  | 0, .unit _ _ _, h => h.elim
  | d + 1, .unit _ _ _, h => ⟨h.1, good_up h.2.1, good_up h.2.2⟩
theorem nodes_pos (P : Pap) : 1 ≤ nodes P := by cases P <;> simp [nodes]; omega
theorem stackN_len : ∀ S : List Pap, S.length ≤ stackN S
  | [] => by simp [stackN]
  | P :: S => by
    have := stackN_len S
    have := nodes_pos P
    simp only [stackN, List.map_cons, List.sum_cons, List.length_cons] at *
    omega
/-- the loop: the stack S (top first) is read to its end -/
theorem loop_rows {n : Nat} {P0 : Option D} {o5 : Option D} (hn : 1 ≤ n) : ∀ (N : Nat) (S : List Pap) (F : List D) (o3 o4 : Option D), (∀ P ∈ S, Good 6 P) → stackN S < N → F.length + stackN S ≤ 1000 →
    ∃ o3' o4', whileL (ev (G n) w_19_5) (evS (G n) b_19_4) N [P0, some (.loc 0), some (.loc 1), o3, o4, o5] [.lst F, .lst (S.reverse.map Pap.D)] = .nx [P0, some (.loc 0), some (.loc 1), o3', o4', o5] [.lst (F ++ stackRows S), .lst []]
  | 0, _, _, _, _, _, h, _ => by omega
  | N + 1, [], F, o3, o4, _, _, _ => by
    refine ⟨o3, o4, ?_⟩
    have ht := test_ev (Γ := G n) (P0 := P0) (o3 := o3) (o4 := o4) (o5 := o5) (F := F) (S := []) (by simp)
    simp only [List.map_nil] at ht
    rw [whileL]
    simp only [List.reverse_nil, List.map_nil, ht, sbind_ok, truD, List.isEmpty_nil, Bool.not_true, stackRows, List.flatten_nil, List.append_nil]
  | N + 1, P :: T, F, o3, o4, hg, hN, hF => by
    have ht := test_ev (Γ := G n) (P0 := P0) (o3 := o3) (o4 := o4) (o5 := o5) (F := F) (S := (P :: T).reverse) (fun Q hQ => hg Q (List.mem_reverse.mp hQ))
    have hne : (P :: T).reverse.isEmpty = false := by simp
    rw [hne] at ht
    have hT : ∀ Q ∈ T, Good 6 Q := fun Q hQ => hg Q (by simp [hQ])
    have hP := hg P (by simp)
    have hlen := stackN_len T
    have hcons : stackN (P :: T) = nodes P + stackN T := by simp [stackN]
    have hpos := nodes_pos P
    rw [whileL, ht]
    simp only [sbind_ok, truD, Bool.not_false]
    have hr : (P :: T).reverse.map Pap.D = T.reverse.map Pap.D ++ [P.D] := by simp
    rw [hr]
    match P, hP, hcons, hpos with
    | .leaf ms ss, hP, hcons, hpos =>
      obtain ⟨o4', h1⟩ := turn_leaf (P0 := P0) (o3 := o3) (o4 := o4) (o5 := o5) (F := F) (S := T.reverse.map Pap.D) hn hP (by omega)
      rw [h1]
      simp only
      have hc : nodes (Pap.leaf ms ss) = 1 := rfl
      obtain ⟨a, b, h2⟩ := loop_rows hn N T (F ++ [rowStr (leafRow ms ss)]) (some (Pap.leaf ms ss).D) o4' hT (by omega) (by simp; omega)
      refine ⟨a, b, h2.trans ?_⟩
      simp [stackRows, rowsD, rowsP]
    | .unit u p q, hP, hcons, hpos =>
      have h1 := turn_unit (P0 := P0) (o3 := o3) (o4 := o4) (o5 := o5) (F := F) (S := T.reverse.map Pap.D) hn hP (by omega) (by simp; omega)
      rw [h1]
      simp only
      have hpq : Good 6 p ∧ Good 6 q := by
        have hh : Good 5 p ∧ Good 5 q := hP.2
        exact ⟨good_up hh.1, good_up hh.2⟩
      have hc : nodes (Pap.unit u p q) = 1 + nodes p + nodes q := rfl
      have hc2 : stackN (p :: q :: T) = nodes p + (nodes q + stackN T) := by simp [stackN]
      obtain ⟨a, b, h2⟩ := loop_rows hn N (p :: q :: T) (F ++ [rowStr (unitRow u)]) (some (Pap.unit u p q).D) o4 (by
        intro Q hQ
        simp only [List.mem_cons] at hQ
        rcases hQ with rfl | rfl | hQ
        · exact hpq.1
        · exact hpq.2
        · exact hT Q hQ) (by omega) (by simp only [List.length_append, List.length_cons, List.length_nil]; omega)
      have hs : (p :: q :: T).reverse.map Pap.D = T.reverse.map Pap.D ++ [q.D, p.D] := by simp
      rw [hs] at h2
      refine ⟨a, b, h2.trans ?_⟩
      simp [stackRows, rowsD, rowsP]
theorem rows_run {n : Nat} {P : Pap} (hn : 1 ≤ n) (hg : Good 6 P) (hN : nodes P ≤ 900) : fnL tab B (n + 1) "rows_of" [P.D] [] = .ok (.loc 0) [.lst (rowsD P), .lst []] := by
  rw [fn_run t_rows_of]
  have hs : stackN [P] = nodes P := by simp [stackN]
  obtain ⟨a, b, hl⟩ := loop_rows (P0 := some P.D) (o5 := none) hn 1000 [P] [] none none (by simpa using hg) (by omega) (by simp; omega)
  have hr : ([] : List D) ++ stackRows [P] = rowsD P := by simp [stackRows]
  rw [hr] at hl
  have hw : evS (G n) l_19_6 [some P.D, some (.loc 0), some (.loc 1), none, none, none] [.lst [], .lst [P.D]] = .nx [some P.D, some (.loc 0), some (.loc 1), a, b, none] [.lst (rowsD P), .lst []] := by
    unfold l_19_6
    rw [evS]
    exact hl
  have h1 : evS (G n) (.set (.name 1) (.lst true .nil)) [some P.D, none, none, none, none, none] [] = .nx [some P.D, some (.loc 0), none, none, none, none] [.lst []] := by
    simp [evS, ev, tgt, sizeLine_eq]
  have h2 : evS (G n) (.set (.name 2) (.lst true (.cons (.var 0) .nil))) [some P.D, some (.loc 0), none, none, none, none] [.lst []] = .nx [some P.D, some (.loc 0), some (.loc 1), none, none, none] [.lst [], .lst [P.D]] := by
    simp [evS, ev, tgt, sizeLine_eq]
  have hc : evS (G n) c_rows_of_19 [some P.D, none, none, none, none, none] [] = .rt (.loc 0) [.lst (rowsD P), .lst []] := by
    unfold c_rows_of_19
    rw [evS, h1, seq_nx, evS, h2, seq_nx, evS, hw, seq_nx]
    simp [evS, ev]
  unfold runFn
  simp only [List.length_cons, List.length_nil, List.map_cons, List.map_nil, List.cons_append, List.nil_append, if_true, List.replicate]
  exact congrArg outS hc
end K82
set_option Elab.async false
set_option linter.all false
set_option maxRecDepth 100000
set_option maxHeartbeats 4000000
/-! K82m: the calls of rows_of, text_of. -/
namespace K82
open PySem L2 KA TL
theorem rows_call {m : Nat} {P : Pap} (hm : 2 ≤ m) (hg : Good 6 P) (hN : nodes P ≤ 900) : callF (fnL tab B m "rows_of") [P.D] [] = .ok (.loc 0) [.lst (rowsD P), .lst []] := by
  obtain ⟨k, rfl⟩ : ∃ k, m = k + 1 := ⟨m - 1, by omega⟩
  have h := rows_run (n := k) (by omega) hg hN
  unfold callF
  rw [h]
  simp [D.pures, Pap.pure, gc, D.pure]
theorem jw_len {ws : List Str} (h : ∀ w ∈ ws, wdB w = true) (hl : ws.length ≤ 12) : (jw ws).length ≤ 132 := by
  have h1 := sum_le (l := ws) (k := 10) fun w hw => wd_len (h w hw)
  have h2 : (" " : Str).length = 1 := rfl
  have h3 := PySem.StrLaws.join_length_le " " ws
  rw [h2] at h3
  rw [jw, join_eq]
  omega
/-- the text of a paper -/
def wrP (P : Pap) : Str := Txt.join "" ((rowsP P).map fun ws => jw ws ++ "\n")
theorem wr_ret {P : Pap} (hg : Good 6 P) (hN : nodes P ≤ 900) : Ret 3 "text_of" [P.D] (.str (wrP P)) := by
  refine ⟨by simp [D.pures, Pap.pure], rfl, [.lst (rowsD P), .lst []], ?_⟩
  rw [fn_run t_text_of]
  have nl : ("\n" : Str).length = 1 := rfl
  have lr : (rowsP P).length ≤ 127 := by
    have := rowsP_len hg
    have : 2 ^ (6 + 1) = 128 := rfl
    omega
  obtain ⟨chk, hw, hk⟩ : ∃ chk, evW (G 2) (.it (.call "rows_of" (.cons (.var 0) .nil))) [some P.D, none] [] = .ok (rowsD P) chk [.lst (rowsD P), .lst []] ∧ chk [.lst (rowsD P), .lst []] = true := by
    have := rows_call (m := 2) (by omega) hg hN
    have he : ev (G 2) (.call "rows_of" (.cons (.var 0) .nil)) [some P.D, none] [] = .ok (.loc 0) [.lst (rowsD P), .lst []] := by simp [ev, this]
    simp only [evW, he, srcD, List.getElem?_cons_zero]
    refine ⟨_, rfl, ?_⟩
    simp [D.sames_refl]
  have hcomp : ev (G 2) x_20_1 [some P.D, none] [] = .ok (.lst ((rowsP P).map fun ws => D.str (jw ws ++ "\n"))) [.lst (rowsD P), .lst []] := by
    refine (ev_comp hw).trans ?_
    rw [compL_map (fun d => match d with
      | .str z => .str (z ++ "\n")
      | d => d) hk _ _ (by simp [sizeLine_eq, rowsD]; omega)]
    · simp [rowsD, rowStr, List.map_map, Function.comp_def]
    · intro d hd
      obtain ⟨ws, hws, rfl⟩ := List.mem_map.mp hd
      obtain ⟨g1, g2, g3⟩ := rowsP_wd hg ws hws
      have := jw_len g1 (by omega)
      have hz : (jw ws).length + ("\n" : Str).length ≤ sizeLine := by rw [nl, sizeLine_eq]; omega
      refine ⟨[some P.D, some (rowStr ws)], rfl, by simp [ev], ?_⟩
      unfold e_20_0
      simp only [ev, List.getElem?_cons_succ, List.getElem?_cons_zero, bind_ok, rowStr, bop]
      rw [if_pos ⟨trivial, hz⟩]
  have hlen : (((rowsP P).map fun ws => jw ws ++ "\n").map (·.length)).sum ≤ 133 * ((rowsP P).map fun ws => jw ws ++ "\n").length := sum_le (by
    intro w hw
    obtain ⟨ws, hws, rfl⟩ := List.mem_map.mp hw
    obtain ⟨g1, g2, g3⟩ := rowsP_wd hg ws hws
    have := jw_len g1 (by omega)
    rw [PySem.Str.length_append, nl]; omega)
  have hj : ev (G 2) (.mth1 .join (.str "") x_20_1) [some P.D, none] [] = .ok (.str (wrP P)) [.lst (rowsD P), .lst []] := by
    rw [ev, ev]
    simp only [bind_ok, rcvD, if_true, hcomp]
    have hm : (rowsP P).map (fun ws => D.str (jw ws ++ "\n")) = ((rowsP P).map fun ws => jw ws ++ "\n").map D.str := by simp [List.map_map, Function.comp_def]
    have h0 : ("" : Str).length = 0 := rfl
    rw [List.length_map] at hlen
    have g : (((rowsP P).map fun ws => jw ws ++ "\n").map (·.length)).sum + ((rowsP P).map fun ws => jw ws ++ "\n").length * ("" : Str).length ≤ 16777216 := by rw [h0]; omega
    simp only [hm, mth1D, seqD, Option.bind_some, strsD_map, g, if_true]
    rfl
  have hc : evS (G 2) c_text_of_20 [some P.D, none] [] = .rt (.str (wrP P)) [.lst (rowsD P), .lst []] := by
    unfold c_text_of_20
    rw [evS, evS, hj]
    rfl
  unfold runFn
  simp only [List.length_cons, List.length_nil, List.map_cons, List.map_nil, List.cons_append, List.nil_append, if_true, List.replicate]
  exact congrArg outS hc
end K82
set_option Elab.async false
set_option linter.all false
set_option maxRecDepth 100000
set_option maxHeartbeats 4000000
/-! K82n: rows against rows. -/
namespace K82
open PySem L2 KA TL
theorem tx_of (s : String) : PyData.strOk (Str.ofString s) = true := by
  rw [PySem.Str.ofString_eq_toList]
  simp only [PyData.strOk, List.all_toArray, List.all_map, List.all_eq_true, Function.comp_apply, decide_eq_true_eq]
  intro c _
  have h := c.valid
  simp only [Char.toNat]
  rcases h with h | ⟨_, h⟩
  · exact Nat.lt_trans h (by decide)
  · exact h
theorem tx_app {a b : Str} (ha : PyData.strOk a = true) (hb : PyData.strOk b = true) : PyData.strOk (a ++ b) = true := by
  unfold PyData.strOk at *
  rw [PySem.Str.cps_append, Array.all_append, ha, hb]; rfl
theorem tx_join {s : Str} (hs : PyData.strOk s = true) : ∀ {l : List Str}, (∀ w ∈ l, PyData.strOk w = true) → PyData.strOk (Str.join s l) = true
  | [], _ => by rw [Str.join]; exact tx_of ""
  | [x], h => h x (by simp)
  | x :: y :: r, h => by
    rw [Str.join]
    · exact tx_app (tx_app (h x (by simp)) hs) (tx_join hs fun w hw => h w (by simp [hw]))
    · simp
theorem tx_rtx (p : Int × Int) : PyData.strOk (rtx p) = true := by
  unfold rtx
  split
  · exact tx_of _
  · exact tx_app (tx_app (tx_of _) (tx_of "/")) (tx_of _)
theorem rowsP_tx : ∀ (P : Pap), ∀ ws ∈ rowsP P, ∀ w ∈ ws, PyData.strOk w = true
  | .leaf ms ss, ws, h, w, hw => by
    simp only [rowsP, List.mem_singleton] at h
    subst h
    simp only [leafRow, List.mem_append, List.mem_singleton, List.mem_map] at hw
    rcases hw with ((rfl | ⟨p, _, rfl⟩) | rfl) | ⟨p, _, rfl⟩
    · exact tx_of "leaf"
    · exact tx_rtx p
    · exact tx_of ":"
    · exact tx_rtx p
  | .unit u p q, ws, h, w, hw => by
    simp only [rowsP, List.mem_append, List.mem_cons] at h
    rcases h with (rfl | h) | h
    · simp only [unitRow, List.mem_cons, List.not_mem_nil, or_false] at hw
      rcases hw with rfl | rfl
      · exact tx_of "unit"
      · exact tx_of _
    · exact rowsP_tx p ws h w hw
    · exact rowsP_tx q ws h w hw
theorem rowStr_lay {ws : List Str} (h : ∀ w ∈ ws, PyData.strOk w = true) : (rowStr ws).lay := by
  refine lay_str (x := jw ws) ?_
  rw [jw, join_eq]
  exact tx_join (tx_of " ") h
theorem rowsD_lay (P : Pap) : (D.lst (rowsD P)).lay := lay_lst (by
  intro d hd
  obtain ⟨ws, hws, rfl⟩ := List.mem_map.mp hd
  exact rowStr_lay (rowsP_tx P ws hws))
theorem rowsD_dep (P : Pap) : (D.lst (rowsD P)).py.depth ≤ 64 := Nat.le_trans (dep_lst (k := 0) (by
  intro d hd
  obtain ⟨ws, hws, rfl⟩ := List.mem_map.mp hd
  simp [rowStr, D.py, PyData.depth])) (by omega)
/-- law()'s first test -/
theorem rows_ne (P : Pap) : cop .ne (.loc 0) (.lst (rowsD P)) [.lst (rowsD P), .lst []] = .ok (.bl false) [.lst (rowsD P), .lst []] := by
  have h : eqD [.lst (rowsD P), .lst []] (.loc 0) (.lst (rowsD P)) = some true := by
    rw [eqD_list (xs := rowsD P) (ys := rowsD P) rfl rfl rfl (rowsD_pure _) (rowsD_pure _) (rowsD_lay P) (rowsD_lay P) (rowsD_dep P) (rowsD_dep P), eqv_refl]
  simp [cop, h, okB]
end K82
set_option Elab.async false
set_option linter.all false
set_option maxRecDepth 100000
set_option maxHeartbeats 4000000
/-! K82o: rows split into words. -/
namespace K82
open PySem L2 KA TL
theorem wd_no32 {w : Str} (h : wdB w = true) : 32 ∉ tl w := by
  simp only [wdB, Bool.and_eq_true, Bool.not_eq_true'] at h
  intro hc
  have h2 : w.cps.toList.contains 32 = true := List.contains_iff_mem.mpr hc
  rw [h.1.1.2] at h2
  exact absurd h2 (by decide)
theorem wd_no10 {w : Str} (h : wdB w = true) : 10 ∉ tl w := by
  simp only [wdB, Bool.and_eq_true, Bool.not_eq_true'] at h
  intro hc
  have h2 : w.cps.toList.contains 10 = true := List.contains_iff_mem.mpr hc
  rw [h.1.2] at h2
  exact absurd h2 (by decide)
theorem split_jw {ws : List Str} (hne : ws ≠ []) (h : ∀ w ∈ ws, wdB w = true) : Txt.split (jw ws) " " = ws :=
  split_join (s := 32) (S := []) (by rfl) (by decide +kernel) hne fun w hw => wd_no32 (h w hw)
theorem tl_app (a b : Str) : tl (a ++ b) = tl a ++ tl b := by simp [tl, PySem.Str.cps_append]
theorem mem_join {c : Nat} {y : Str} : ∀ {l : List Str}, c ∈ tl (Str.join y l) → c ∈ tl y ∨ ∃ w ∈ l, c ∈ tl w
  | [], h => by
    have e : tl (Str.join y []) = [] := rfl
    rw [e] at h
    exact absurd h (by simp)
  | [x], h => .inr ⟨x, by simp, h⟩
  | x :: z :: r, h => by
    rw [Str.join, tl_app, tl_app] at h
    · simp only [List.mem_append] at h
      rcases h with (h | h) | h
      · exact .inr ⟨x, by simp, h⟩
      · exact .inl h
      · rcases mem_join h with h | ⟨w, hw, h⟩
        · exact .inl h
        · exact .inr ⟨w, by simp [hw], h⟩
    · simp
theorem jw_no10 {ws : List Str} (h : ∀ w ∈ ws, wdB w = true) : 10 ∉ tl (jw ws) := by
  intro hc
  rw [jw, join_eq] at hc
  rcases mem_join hc with hc | ⟨w, hw, hc⟩
  · have e : tl (" " : Str) = [32] := rfl
    rw [e] at hc
    simp at hc
  · exact wd_no10 (h w hw) hc
/-- a text of rows, split at its newlines -/
theorem split_rows {l : List Str} (hne : l ≠ []) (h : ∀ z ∈ l, 10 ∉ tl z) : Txt.split (Txt.join "\n" l) "\n" = l :=
  split_join (s := 10) (S := []) (by rfl) (by decide +kernel) hne h
end K82
set_option Elab.async false
set_option linter.all false
set_option maxRecDepth 100000
set_option maxHeartbeats 4000000
/-! K82p: rows with newlines behind them, split. -/
namespace K82
open PySem L2 KA TL
theorem tl_join0 : ∀ l : List Str, tl (Str.join "" l) = (l.map tl).flatten
  | [] => rfl
  | [x] => by simp [Str.join]
  | x :: y :: r => by
    have e : tl ("" : Str) = [] := rfl
    rw [Str.join, tl_app, tl_app, e, tl_join0 (y :: r)]
    · simp
    · simp
theorem tl_joinN (s : Str) : ∀ l : List Str, tl (Str.join s (l ++ [("" : Str)])) = (l.map fun z => tl z ++ tl s).flatten
  | [] => rfl
  | [x] => by
    have e : tl ("" : Str) = [] := rfl
    rw [List.cons_append, List.nil_append, Str.join, tl_app, tl_app, Str.join, e]
    · simp
    · simp
  | x :: y :: r => by
    rw [List.cons_append, List.cons_append, Str.join, tl_app, tl_app, ← List.cons_append, tl_joinN s (y :: r)]
    · simp
    · simp
theorem tl_inj {a b : Str} (h : tl a = tl b) : a = b := by
  cases a; cases b
  simp only [tl] at h
  congr 1
  exact Array.toList_inj.mp h
theorem wr_eq (P : Pap) : wrP P = Txt.join "\n" ((rowsP P).map jw ++ [("" : Str)]) := by
  refine tl_inj ?_
  rw [wrP, join_eq, join_eq, tl_join0, tl_joinN]
  simp [List.map_map, Function.comp_def, tl_app]
theorem wr_split {d : Nat} {P : Pap} (hg : Good d P) : Txt.split (wrP P) "\n" = (rowsP P).map jw ++ [("" : Str)] := by
  rw [wr_eq]
  refine split_rows (by simp) fun z hz => ?_
  simp only [List.mem_append, List.mem_map, List.mem_singleton] at hz
  rcases hz with ⟨ws, hws, rfl⟩ | rfl
  · exact jw_no10 (rowsP_wd hg ws hws).1
  · have e : tl ("" : Str) = [] := rfl
    rw [e]; simp
end K82
set_option Elab.async false
set_option linter.all false
set_option maxRecDepth 100000
set_option maxHeartbeats 4000000
/-! K82q: what law() writes, and its second test. -/
namespace K82
open PySem L2 KA TL
theorem written_ev {n : Nat} {P : Pap} {d : Nat} (hg : Good d P) (hd : d ≤ 6) {ρ : Ro} {μ : Store} (h2 : ρ[2]? = some (some (.lst (rowsD P)))) (h10 : 10 < ρ.length) :
    ev (G n) (.mth1 .join (.str "") x_43_3) ρ μ = .ok (.str (wrP P)) μ := by
  have nl : ("\n" : Str).length = 1 := rfl
  have lr : (rowsP P).length ≤ 127 := by
    have := rowsP_len hg
    have h6 : 2 ^ (d + 1) ≤ 2 ^ (6 + 1) := Nat.pow_le_pow_right (by decide) (by omega)
    have : 2 ^ (6 + 1) = 128 := rfl
    omega
  have hw : evW (G n) (.it (.var 2)) ρ μ = .ok (rowsD P) (fun _ => true) μ := by simp [evW, ev, h2, srcD]
  have hcomp : ev (G n) x_43_3 ρ μ = .ok (.lst ((rowsP P).map fun ws => D.str (jw ws ++ "\n"))) μ := by
    refine (ev_comp hw).trans ?_
    rw [compL_map (fun d => match d with
      | .str z => .str (z ++ "\n")
      | d => d) rfl _ _ (by simp [sizeLine_eq, rowsD]; omega)]
    · simp [rowsD, rowStr, List.map_map, Function.comp_def]
    · intro d hd
      obtain ⟨ws, hws, rfl⟩ := List.mem_map.mp hd
      obtain ⟨g1, g2, g3⟩ := rowsP_wd hg ws hws
      have := jw_len g1 (by omega)
      have hz : (jw ws).length + ("\n" : Str).length ≤ sizeLine := by rw [nl, sizeLine_eq]; omega
      refine ⟨_, rfl, by simp [ev], ?_⟩
      unfold e_43_2
      have hv : ((wipeR ρ [10]).set 10 (some (rowStr ws)))[10]? = some (some (rowStr ws)) := by
        rw [List.getElem?_set_self]
        simpa [wipeR] using h10
      have e1 : ev (G n) (.var 10) ((wipeR ρ [10]).set 10 (some (rowStr ws))) μ = .ok (.str (jw ws)) μ := by
        rw [ev, hv]; rfl
      rw [ev_bin e1 (y := .str "\n") (μ2 := μ) rfl]
      simp only [rowStr, bop]
      rw [if_pos ⟨trivial, hz⟩]
  have hlen : (((rowsP P).map fun ws => jw ws ++ "\n").map (·.length)).sum ≤ 133 * ((rowsP P).map fun ws => jw ws ++ "\n").length := sum_le (by
    intro w hw
    obtain ⟨ws, hws, rfl⟩ := List.mem_map.mp hw
    obtain ⟨g1, g2, g3⟩ := rowsP_wd hg ws hws
    have := jw_len g1 (by omega)
    rw [PySem.Str.length_append, nl]; omega)
  rw [ev, ev]
  simp only [bind_ok, rcvD, if_true, hcomp]
  have hm : (rowsP P).map (fun ws => D.str (jw ws ++ "\n")) = ((rowsP P).map fun ws => jw ws ++ "\n").map D.str := by simp [List.map_map, Function.comp_def]
  have h0 : ("" : Str).length = 0 := rfl
  rw [List.length_map] at hlen
  have g : (((rowsP P).map fun ws => jw ws ++ "\n").map (·.length)).sum + ((rowsP P).map fun ws => jw ws ++ "\n").length * ("" : Str).length ≤ 16777216 := by rw [h0]; omega
  simp only [hm, mth1D, seqD, Option.bind_some, strsD_map, g, if_true]
  rfl
end K82
set_option Elab.async false
set_option linter.all false
set_option maxRecDepth 100000
set_option maxHeartbeats 4000000
/-! K82r: words and leaves, read by both. -/
namespace K82
open PySem L2 KA TL
def oD : Option (Int × Int) → D
  | none => .non
  | some p => rD p
theorem pures_w (w : Str) : D.pures [D.str w] = true := rfl
theorem wd_chk {w : Str} (h : wdB w = true) : chkW w = true := by
  simp only [wdB, Bool.and_eq_true] at h
  exact h.2
theorem ret_of {m : Nat} {f : Str} {ds : List D} {d : D} (h1 : D.pures ds = true) (h2 : d.pure = true) (h : outIs (fnL tab B m f ds []) d = true) : Ret m f ds d := ⟨h1, h2, outIs_ok h⟩
theorem rai_of {m : Nat} {f : Str} {ds : List D} (h1 : D.pures ds = true) (h : excIs (fnL tab B m f ds []) = true) : Rai m f ds xBad := ⟨h1, rfl, excIs_ok h⟩
theorem wd_some {w : Str} (h : wdB w = true) {p : Int × Int} (e : rdW w = some p) : Ret 4 "parse_ratios" [.str w] (rD p) ∧ Ret 4 "_law_read" [.str w] (rD p) := by
  have q := wd_chk h
  unfold chkW at q
  rw [e] at q
  simp only [Bool.and_eq_true] at q
  exact ⟨ret_of rfl (rD_pure p) q.1.1, ret_of rfl (rD_pure p) q.1.2⟩
theorem wd_none {w : Str} (h : wdB w = true) (e : rdW w = none) : Rai 4 "parse_ratios" [.str w] xBad ∧ Ret 4 "_law_read" [.str w] .non := by
  have q := wd_chk h
  unfold chkW at q
  rw [e] at q
  simp only [Bool.and_eq_true] at q
  exact ⟨rai_of rfl q.1.1, ret_of rfl rfl q.1.2⟩
theorem wd_lread {w : Str} (h : wdB w = true) : Ret 4 "_law_read" [.str w] (oD (rdW w)) := by
  cases e : rdW w with
  | none => exact (wd_none h e).2
  | some p => exact (wd_some h e).2
theorem wd_cnt {w : Str} (h : wdB w = true) {i : Int} (e : cnW w = some i) : Ret 4 "count_of" [.str w] (.int i) ∧ Ret 4 "_law_number" [.str w] (.int i) ∧ 0 ≤ i ∧ w.length ≤ 9 := by
  have q := wd_chk h
  unfold chkW at q
  rw [e] at q
  simp only [Bool.and_eq_true, decide_eq_true_eq] at q
  exact ⟨ret_of rfl rfl q.2.1.1.1, ret_of rfl rfl q.2.1.1.2, q.2.1.2, q.2.2⟩
theorem wd_ncnt {w : Str} (h : wdB w = true) (e : cnW w = none) : Rai 4 "count_of" [.str w] xBad ∧ (9 < w.length ∨ Ret 4 "_law_number" [.str w] (.int (-1))) := by
  have q := wd_chk h
  unfold chkW at q
  rw [e] at q
  simp only [Bool.and_eq_true, Bool.or_eq_true, decide_eq_true_eq] at q
  refine ⟨rai_of rfl q.2.1, ?_⟩
  rcases q.2.2 with a | a
  · exact .inl a
  · exact .inr (ret_of rfl rfl a)
/-- all words read -/
def rdAll : List Str → Option (List (Int × Int))
  | [] => some []
  | w :: ws => match rdW w with
    | none => none
    | some p => (rdAll ws).map (p :: ·)
theorem compL_rd {chk : Store → Bool} {t : T} {own : List Nat} {c e : DE} {ρ : Ro} {μ : Store} (hc : chk μ = true) : ∀ (ws : List Str) (ys : List D), ys.length + ws.length ≤ sizeLine → (∀ w ∈ ws, ∃ ρ1, tgt t (.str w) (wipeR ρ own) μ = some ρ1 ∧ c ρ1 μ = .ok (.bl true) μ ∧ e ρ1 μ = match rdW w with
      | some p => .ok (rD p) μ
      | none => .exc xBad μ) →
    compL chk t own true false c e (ws.map .str) ys ρ μ = match rdAll ws with
      | some ps => .ok (.lst (ys ++ ps.map rD)) μ
      | none => .exc xBad μ
  | [], ys, _, _ => by simp [compL, rdAll, hc]
  | w :: ws, ys, hl, h => by
    obtain ⟨ρ1, h1, h2, h3⟩ := h w (by simp)
    simp only [List.length_cons] at hl
    simp only [List.map_cons, compL, hc, h1, h2, h3, truD, if_true]
    cases e1 : rdW w with
    | none => simp only [rdAll, e1]
    | some p =>
      simp only [rdAll, e1]
      rw [if_pos (by omega), compL_rd hc ws (ys ++ [rD p]) (by simp; omega) (fun w' hw' => h w' (by simp [hw']))]
      cases rdAll ws with
      | none => rfl
      | some ps => simp
theorem compL_read {n : Nat} {i : Nat} {ρ : Ro} {μ : Store} (hn : 4 ≤ n) (hi : i < ρ.length) (ws : List Str) (ys : List D) (hl : ys.length + ws.length ≤ sizeLine) (h : ∀ w ∈ ws, wdB w = true) :
    compL (fun _ => true) (.name i) [i] true false (ev (G n) (.bl true)) (ev (G n) (.call "parse_ratios" (.cons (.var i) .nil))) (ws.map .str) ys ρ μ = match rdAll ws with
      | some ps => .ok (.lst (ys ++ ps.map rD)) μ
      | none => .exc xBad μ := by
  refine compL_rd rfl ws ys hl fun w hw => ⟨_, rfl, rfl, ?_⟩
  have hw := h w hw
  have g : ((wipeR ρ [i]).set i (some (.str w)))[i]? = some (some (.str w)) := by simp [wipeR, hi]
  cases e : rdW w with
  | none =>
    have q := (wd_none hw e).1.call (μ := μ) hn
    simp only [ev, g, bind_ok, q]
  | some p =>
    have q := (wd_some hw e).1.call (μ := μ) hn
    simp only [ev, g, bind_ok, q]
theorem compL_lread {n : Nat} {i : Nat} {ρ : Ro} {μ : Store} (hn : 4 ≤ n) (hi : i < ρ.length) (ws : List Str) (hl : ws.length ≤ sizeLine) (h : ∀ w ∈ ws, wdB w = true) :
    compL (fun _ => true) (.name i) [i] false false (ev (G n) (.bl true)) (ev (G n) (.call "_law_read" (.cons (.var i) .nil))) (ws.map .str) [] ρ μ = .ok (.lst (ws.map fun w => oD (rdW w))) μ := by
  rw [compL_map (fun d => match d with
    | .str w => oD (rdW w)
    | d => d) rfl _ _ (by simpa using hl)]
  · simp [List.map_map, Function.comp_def]
  · intro d hd
    obtain ⟨w, hw, rfl⟩ := List.mem_map.mp hd
    refine ⟨_, rfl, rfl, ?_⟩
    have g : ((wipeR ρ [i]).set i (some (.str w)))[i]? = some (some (.str w)) := by simp [wipeR, hi]
    have q := (wd_lread (h w hw)).call (μ := μ) hn
    simp only [ev, g, bind_ok, q]
/-- a leaf's words read -/
def leafW (ws : List Str) : Option (List (Int × Int) × List (Int × Int)) :=
  if ws.count (":" : Str) = 1 then match rdAll (ws.take (ws.findIdx (· == (":" : Str)))), rdAll (ws.drop (ws.findIdx (· == (":" : Str)) + 1)) with
    | some a, some b => some (a, b)
    | _, _ => none
  else none
theorem flat_str (ws : List Str) : (ws.map D.str).all flatD = true := by simp [flatD]
theorem idx_str (ws : List Str) (c : Str) : (ws.map D.str).findIdx? (fun z => eqF z (.str c)) = ws.findIdx? (· == c) := by
  induction ws with
  | nil => rfl
  | cons w ws ih =>
    have e : eqF (.str w) (.str c) = (w == c) := rfl
    rw [List.map_cons, List.findIdx?_cons, List.findIdx?_cons, ih, e]
theorem findIdx_some {ws : List Str} {c : Str} (h : ws.count c = 1) : ws.findIdx? (· == c) = some (ws.findIdx (· == c)) ∧ ws.findIdx (· == c) < ws.length := by
  have hm : c ∈ ws := List.count_pos_iff.mp (by omega)
  have hl : ws.findIdx (· == c) < ws.length := List.findIdx_lt_length_of_exists ⟨c, hm, by simp⟩
  exact ⟨List.findIdx?_eq_some_of_exists ⟨c, hm, by simp⟩, hl⟩
theorem cut_to {ds : List D} {k : Nat} (h : k ≤ ds.length) : cutD ds none (some (k : Int)) = ds.take k := by
  unfold cutD
  rw [HT.sIx_nat, HT.sIx_none]
  simp
theorem cut_from {ds : List D} {k : Nat} (h : k ≤ ds.length) : cutD ds (some (k : Int)) none = ds.drop k := by
  unfold cutD
  rw [HT.sIx_nat, HT.sIx_none, Nat.min_eq_left h, List.take_of_length_le]
  simp
end K82
set_option Elab.async false
set_option linter.all false
set_option maxRecDepth 100000
set_option maxHeartbeats 4000000
/-! K82s: leaf_of, _law_leaf. -/
namespace K82
open PySem L2 KA TL
def leafD (p : List (Int × Int) × List (Int × Int)) : D := (Pap.leaf p.1 p.2).D
def WsOk (ws : List Str) : Prop := (∀ w ∈ ws, wdB w = true) ∧ ws.length ≤ 1000
theorem var_ev {Γ : Gm} {i : Nat} {d : D} {ρ : Ro} {μ : Store} (h : ρ[i]? = some (some d)) : ev Γ (.var i) ρ μ = .ok d μ := by simp only [ev, h]
theorem WsOk.take {ws : List Str} (h : WsOk ws) (k : Nat) : WsOk (ws.take k) := ⟨fun w hw => h.1 w (List.mem_of_mem_take hw), by have := h.2; simp; omega⟩
theorem WsOk.drop {ws : List Str} (h : WsOk ws) (k : Nat) : WsOk (ws.drop k) := ⟨fun w hw => h.1 w (List.mem_of_mem_drop hw), by have := h.2; simp; omega⟩
theorem count_ev {Γ : Gm} {ρ : Ro} {μ : Store} {ws : List Str} (h0 : ρ[0]? = some (some (.lst (ws.map .str)))) : ev Γ (.cmp .ne (.mth1 .count (.var 0) (.str ":")) (.int 1)) ρ μ = .ok (.bl (!decide (ws.count (":" : Str) = 1))) μ := by
  have hv : ev Γ (.var 0) ρ μ = .ok (.lst (ws.map .str)) μ := var_ev h0
  have hs : ev Γ (.str ":") ρ μ = .ok (.str ":") μ := by rw [ev]
  have hm : ev Γ (.mth1 .count (.var 0) (.str ":")) ρ μ = .ok (.int ((ws.count (":" : Str) : Nat) : Int)) μ := by
    rw [ev, hv]
    simp only [bind_ok, rcvD, lstD, Option.isSome_some, if_true, hs, mth1D, strsD_map]
  rw [ev, hm]
  have e : decide (((ws.count (":" : Str) : Nat) : Int) = 1) = decide (ws.count (":" : Str) = 1) := by
    by_cases h : ws.count (":" : Str) = 1
    · simp [h]
    · have : ¬ ((ws.count (":" : Str) : Nat) : Int) = 1 := by omega
      simp [h, this]
  simp only [bind_ok, ev, cop, eqD, dscal, if_true, Option.map_some, okB, deq, e]
theorem index_ev {Γ : Gm} {ρ : Ro} {μ : Store} {ws : List Str} (h0 : ρ[0]? = some (some (.lst (ws.map .str)))) (hc : ws.count (":" : Str) = 1) : ev Γ (.mth1 .index (.var 0) (.str ":")) ρ μ = .ok (.int ((ws.findIdx (· == (":" : Str)) : Nat) : Int)) μ := by
  have hv : ev Γ (.var 0) ρ μ = .ok (.lst (ws.map .str)) μ := var_ev h0
  have hs : ev Γ (.str ":") ρ μ = .ok (.str ":") μ := by rw [ev]
  rw [ev, hv]
  have hf : (flatD (.str ":") && (ws.map D.str).all flatD) = true := by rw [flat_str]; rfl
  simp only [bind_ok, rcvD, lstD, Option.isSome_some, if_true, hs, mth1D, hf, idx_str, (findIdx_some hc).1]
theorem take_ev {Γ : Gm} {ρ : Ro} {μ : Store} {ws : List Str} {k : Nat} (h0 : ρ[0]? = some (some (.lst (ws.map .str)))) (h1 : ρ[1]? = some (some (.int (k : Int)))) (hk : k ≤ ws.length) : evW Γ (.it (.slt (.var 0) (.var 1))) ρ μ = .ok ((ws.take k).map .str) (fun _ => true) μ := by
  have hv : ev Γ (.var 0) ρ μ = .ok (.lst (ws.map .str)) μ := var_ev h0
  have hw : ev Γ (.var 1) ρ μ = .ok (.int (k : Int)) μ := var_ev h1
  have hc : cutD (ws.map D.str) none (some (k : Int)) = (ws.take k).map .str := by rw [cut_to (by simpa using hk), List.map_take]
  have hs : ev Γ (.slt (.var 0) (.var 1)) ρ μ = .ok (.lst ((ws.take k).map .str)) μ := by
    rw [ev, hv]; simp only [bind_ok, hw, isI_int, slP, lstD, hc]
  simp only [evW, hs, srcD]
theorem drop_ev {Γ : Gm} {ρ : Ro} {μ : Store} {ws : List Str} {k : Nat} (h0 : ρ[0]? = some (some (.lst (ws.map .str)))) (h1 : ρ[1]? = some (some (.int (k : Int)))) (hk : k < ws.length) : evW Γ (.it (.slf (.var 0) (.bin .add (.var 1) (.int 1)))) ρ μ = .ok ((ws.drop (k + 1)).map .str) (fun _ => true) μ := by
  have hv : ev Γ (.var 0) ρ μ = .ok (.lst (ws.map .str)) μ := var_ev h0
  have hw : ev Γ (.var 1) ρ μ = .ok (.int (k : Int)) μ := var_ev h1
  have hb : ev Γ (.bin .add (.var 1) (.int 1)) ρ μ = .ok (.int ((k + 1 : Nat) : Int)) μ := by
    rw [ev, hw]; simp [ev, bop, bopI]
  have hc : cutD (ws.map D.str) (some ((k + 1 : Nat) : Int)) none = (ws.drop (k + 1)).map .str := by rw [cut_from (by simp; omega), List.map_drop]
  have hs : ev Γ (.slf (.var 0) (.bin .add (.var 1) (.int 1))) ρ μ = .ok (.lst ((ws.drop (k + 1)).map .str)) μ := by
    rw [ev, hv]; simp only [bind_ok, hb, isI_int, slP, lstD, hc]
  simp only [evW, hs, srcD]
theorem le_line {n : Nat} (h : n ≤ 1000) : n ≤ sizeLine := by rw [sizeLine_eq]; omega
theorem leaf_in {ws : List Str} (h : ws.count (":" : Str) = 1) : leafW ws = (match rdAll (ws.take (ws.findIdx (· == (":" : Str)))), rdAll (ws.drop (ws.findIdx (· == (":" : Str)) + 1)) with
    | some a, some b => some (a, b)
    | _, _ => none) := by unfold leafW; exact if_pos h
theorem leafof_run {n : Nat} {ws : List Str} (hn : 4 ≤ n) (h : WsOk ws) : outS (evS (G n) c_leaf_of_21 [some (.lst (ws.map .str)), none, none, none] []) = match leafW ws with
    | some p => .ok (leafD p) []
    | none => .exc xBad [] := by
  unfold c_leaf_of_21
  have hc := count_ev (Γ := G n) (ρ := [some (.lst (ws.map .str)), none, none, none]) (μ := []) (ws := ws) rfl
  by_cases c : ws.count (":" : Str) = 1
  · rw [leaf_in c]
    obtain ⟨hf, hl⟩ := findIdx_some c
    generalize hk : ws.findIdx (· == (":" : Str)) = k at hl
    have hi := index_ev (Γ := G n) (ρ := [some (.lst (ws.map .str)), none, none, none]) (μ := []) (ws := ws) rfl c
    rw [hk] at hi
    simp only [c, decide_true, Bool.not_true] at hc
    have h1 := take_ev (Γ := G n) (ρ := [some (.lst (ws.map .str)), some (.int (k : Int)), none, none]) (μ := []) (ws := ws) (k := k) rfl rfl (by omega)
    have t := h.take k
    have r1 := (ev_comp (Γ := G n) (x := true) (m := false) (own := [3]) (t := .name 3) (c := .bl true) (e := e_21_2) h1).trans (compL_read hn (by simp) (ws.take k) [] (by have := t.2; simpa using le_line this) t.1)
    have x3 : ev (G n) x_21_3 [some (.lst (ws.map .str)), some (.int (k : Int)), none, none] [] = match rdAll (ws.take k) with
      | some ps => .ok (.lst ([] ++ ps.map rD)) []
      | none => .exc xBad [] := r1
    simp only [evS, hc, sbind_ok, truD, seq_nx, hi, tgt, List.set_cons_succ, List.set_cons_zero]
    cases e1 : rdAll (ws.take k) with
    | none =>
      simp only [e1] at x3
      simp only [ev, x3, bind_exc, sbind_exc, seq_exc, outS]
    | some a =>
      simp only [e1, List.nil_append] at x3
      have h2 := drop_ev (Γ := G n) (ρ := [some (.lst (ws.map .str)), some (.int (k : Int)), some (.tup (a.map rD)), none]) (μ := []) (ws := ws) (k := k) rfl rfl (by omega)
      have t := h.drop (k + 1)
      have r2 := (ev_comp (Γ := G n) (x := true) (m := false) (own := [3]) (t := .name 3) (c := .bl true) (e := e_21_0) h2).trans (compL_read hn (by simp) (ws.drop (k + 1)) [] (by have := t.2; simpa using le_line this) t.1)
      have x1 : ev (G n) x_21_1 [some (.lst (ws.map .str)), some (.int (k : Int)), some (.tup (a.map rD)), none] [] = match rdAll (ws.drop (k + 1)) with
        | some ps => .ok (.lst ([] ++ ps.map rD)) []
        | none => .exc xBad [] := r2
      simp only [ev, x3, bind_ok, biD, lstD, sbind_ok, seq_nx, List.set_cons_succ, List.set_cons_zero, List.getElem?_cons_succ, List.getElem?_cons_zero]
      cases e2 : rdAll (ws.drop (k + 1)) with
      | none =>
        simp only [e2] at x1
        simp only [x1, bind_exc, bind_ok, sbind_exc, seq_exc, outS]
      | some b =>
        simp only [e2, List.nil_append] at x1
        simp [x1, sizeLine_eq, outS, leafD, Pap.D]
  · have e : leafW ws = none := by unfold leafW; rw [if_neg c]
    have e2 : B.exf "BadRatio" = some [] := by kernel_rfl
    rw [e]
    simp only [c, decide_false, Bool.not_false] at hc
    rw [evS, evS, hc]
    simp only [sbind_ok, truD, evS, ev, raisD, e2, List.length_nil, if_true, seq_exc, outS]
    rfl
theorem leafof_ret {ws : List Str} (h : WsOk ws) {p : List (Int × Int) × List (Int × Int)} (e : leafW ws = some p) : Ret 5 "leaf_of" [.lst (ws.map .str)] (leafD p) := by
  refine ⟨by simp [D.pures, D.pure, pures_str], Pap.pure _, [], ?_⟩
  have r := leafof_run (Nat.le_refl 4) h
  rw [e] at r
  rw [fn_run t_leaf_of]
  exact r
theorem leafof_rai {ws : List Str} (h : WsOk ws) (e : leafW ws = none) : Rai 5 "leaf_of" [.lst (ws.map .str)] xBad := by
  refine ⟨by simp [D.pures, D.pure, pures_str], rfl, [], ?_⟩
  have r := leafof_run (Nat.le_refl 4) h
  rw [e] at r
  rw [fn_run t_leaf_of]
  exact r
end K82
set_option Elab.async false
set_option linter.all false
set_option maxRecDepth 100000
set_option maxHeartbeats 4000000
/-! K82t: _law_leaf. -/
namespace K82
open PySem L2 KA TL
theorem oD_pure (o : Option (Int × Int)) : (oD o).pure = true := by cases o with
  | none => rfl
  | some p => exact rD_pure p
theorem rD_lay (p : Int × Int) : (rD p).lay := lay_tup (by intro d hd; simp at hd; rcases hd with rfl | rfl <;> rfl)
theorem oD_lay (o : Option (Int × Int)) : (oD o).lay := by cases o with
  | none => rfl
  | some p => exact rD_lay p
theorem oD_dep (o : Option (Int × Int)) : (oD o).py.depth ≤ 1 := by cases o with
  | none => simp [oD, D.py, PyData.depth]
  | some p => exact dep_tup (k := 0) (by intro d hd; simp at hd; rcases hd with rfl | rfl <;> simp [D.py, PyData.depth])
theorem oD_eqv (o : Option (Int × Int)) : PyData.eqv (oD o).py .none = o.isNone := by cases o <;> rfl
theorem any_eqv : ∀ os : List (Option (Int × Int)), (D.pys (os.map oD)).any (fun z => PyData.eqv z D.non.py) = os.any (·.isNone)
  | [] => rfl
  | o :: os => by simp only [List.map_cons, D.pys, List.any_cons, any_eqv os]; rw [show D.non.py = .none from rfl, oD_eqv]
theorem any_flat : ∀ os : List (Option (Int × Int)), (os.map oD).all flatD = true → inD .non (os.map oD) = os.any (·.isNone)
  | [], _ => rfl
  | none :: os, h => by simp [inD, oD, eqF]
  | some p :: os, h => by simp [oD, rD, flatD] at h
theorem in_non (os : List (Option (Int × Int))) (μ : Store) : cop .in_ .non (.lst (os.map oD)) μ = .ok (.bl (os.any (·.isNone))) μ := by
  have e : cop .in_ .non (.lst (os.map oD)) μ = inSeq false .non (.lst (os.map oD)) μ := by simp [cop]
  rw [e]
  unfold inSeq
  simp only [seqD]
  by_cases h : (os.map oD).all flatD = true
  · have h2 : (flatD .non && (os.map oD).all flatD) = true := by rw [h]; rfl
    rw [if_pos h2, any_flat os h]; rfl
  · have h2 : ¬ (flatD .non && (os.map oD).all flatD) = true := by simpa [flatD] using h
    have h3 : ((lstD μ (.lst (os.map oD))).isSome && inDeep .non (os.map oD)) = true := by
      have s1 : SeqAt.shaped (D.lst (os.map oD)).py = true := shaped_of (lay_lst (by
        intro d hd
        obtain ⟨o, _, rfl⟩ := List.mem_map.mp hd
        exact oD_lay o)) (Nat.le_trans (dep_lst (k := 1) (by
        intro d hd
        obtain ⟨o, _, rfl⟩ := List.mem_map.mp hd
        exact oD_dep o)) (by omega))
      have s0 : SeqAt.shaped D.non.py = true := by decide
      have s2 : D.pures (os.map oD) = true := pures_map oD oD_pure os
      simp only [D.py] at s1
      simp only [lstD, Option.isSome_some, inDeep, s2, s0, s1, D.pure, Bool.and_self]
    rw [if_neg h2, if_pos h3, any_eqv]; rfl
theorem rdAll_map : ∀ ws : List Str, match rdAll ws with
    | some ps => ws.map rdW = ps.map some
    | none => (ws.map rdW).any (·.isNone) = true
  | [] => rfl
  | w :: ws => by
    have ih := rdAll_map ws
    simp only [rdAll]
    cases e : rdW w with
    | none => simp [e]
    | some p =>
      simp only
      cases e2 : rdAll ws with
      | none => simp only [e2] at ih; simp [e] at ih ⊢; exact ih
      | some ps => simp only [e2] at ih; simp [e, ih]
theorem any_some (ps : List (Int × Int)) : (ps.map some).any (·.isNone) = false := by simp
theorem lleaf_run {n : Nat} {ws : List Str} (hn : 4 ≤ n) (h : WsOk ws) : outS (evS (G n) c__law_leaf_39 [some (.lst (ws.map .str)), none, none, none, none] []) = match leafW ws with
    | some p => .ok (leafD p) []
    | none => .ok .non [] := by
  unfold c__law_leaf_39
  have hc := count_ev (Γ := G n) (ρ := [some (.lst (ws.map .str)), none, none, none, none]) (μ := []) (ws := ws) rfl
  by_cases c : ws.count (":" : Str) = 1
  · rw [leaf_in c]
    obtain ⟨hf, hl⟩ := findIdx_some c
    generalize hk : ws.findIdx (· == (":" : Str)) = k at hl
    have hi := index_ev (Γ := G n) (ρ := [some (.lst (ws.map .str)), none, none, none, none]) (μ := []) (ws := ws) rfl c
    rw [hk] at hi
    simp only [c, decide_true, Bool.not_true] at hc
    have t := h.take k
    have t' := h.drop (k + 1)
    have h1 := take_ev (Γ := G n) (ρ := [some (.lst (ws.map .str)), some (.int (k : Int)), none, none, none]) (μ := []) (ws := ws) (k := k) rfl rfl (by omega)
    have x3 : ev (G n) x_39_3 [some (.lst (ws.map .str)), some (.int (k : Int)), none, none, none] [] = .ok (.lst ((ws.take k).map fun w => oD (rdW w))) [] :=
      (ev_comp (Γ := G n) (x := false) (m := false) (own := [4]) (t := .name 4) (c := .bl true) (e := e_39_2) h1).trans (compL_lread hn (by simp) (ws.take k) (le_line t.2) t.1)
    have h2 := drop_ev (Γ := G n) (ρ := [some (.lst (ws.map .str)), some (.int (k : Int)), some (.lst ((ws.take k).map fun w => oD (rdW w))), none, none]) (μ := []) (ws := ws) (k := k) rfl rfl (by omega)
    have x1 : ev (G n) x_39_1 [some (.lst (ws.map .str)), some (.int (k : Int)), some (.lst ((ws.take k).map fun w => oD (rdW w))), none, none] [] = .ok (.lst ((ws.drop (k + 1)).map fun w => oD (rdW w))) [] :=
      (ev_comp (Γ := G n) (x := false) (m := false) (own := [4]) (t := .name 4) (c := .bl true) (e := e_39_0) h2).trans (compL_lread hn (by simp) (ws.drop (k + 1)) (le_line t'.2) t'.1)
    have hin : bop .add (.lst ((ws.take k).map fun w => oD (rdW w))) (.lst ((ws.drop (k + 1)).map fun w => oD (rdW w))) [] = .ok (.lst (((ws.take k ++ ws.drop (k + 1)).map rdW).map oD)) [] := by
      have l1 : ((ws.take k).map fun w => oD (rdW w)).length + ((ws.drop (k + 1)).map fun w => oD (rdW w)).length ≤ 1000 := by have := h.2; simp; omega
      rw [bop_lst l1]
      simp [List.map_map, Function.comp_def]
    simp only [evS, hc, sbind_ok, truD, seq_nx, hi, tgt, List.set_cons_succ, List.set_cons_zero, x3, x1]
    simp only [ev, bind_ok, List.getElem?_cons_succ, List.getElem?_cons_zero, hin, in_non, sbind_ok, truD]
    have m1 := rdAll_map (ws.take k)
    have m2 := rdAll_map (ws.drop (k + 1))
    rw [List.map_append, List.any_append]
    cases e1 : rdAll (ws.take k) with
    | none =>
      simp only [e1] at m1
      simp only [m1, Bool.true_or, evS, ev, sbind_ok, seq_rt, outS]
    | some a =>
      simp only [e1] at m1
      cases e2 : rdAll (ws.drop (k + 1)) with
      | none =>
        simp only [e2] at m2
        simp only [m2, Bool.or_true, evS, ev, sbind_ok, seq_rt, outS]
      | some b =>
        simp only [e2] at m2
        have n1 : (ws.take k).map (fun w => oD (rdW w)) = a.map rD := by
          have := congrArg (List.map oD) m1
          simpa [List.map_map, Function.comp_def, oD] using this
        have n2 : (ws.drop (k + 1)).map (fun w => oD (rdW w)) = b.map rD := by
          have := congrArg (List.map oD) m2
          simpa [List.map_map, Function.comp_def, oD] using this
        rw [m1, m2, any_some, any_some, n1, n2]
        simp [evS, ev, biD, lstD, sizeLine_eq, outS, leafD, Pap.D]
  · have e : leafW ws = none := by unfold leafW; rw [if_neg c]
    rw [e]
    simp only [c, decide_false, Bool.not_false] at hc
    rw [evS, evS, hc]
    simp only [sbind_ok, truD, evS, ev, seq_rt, outS]
def leafO : Option (List (Int × Int) × List (Int × Int)) → D
  | some p => leafD p
  | none => .non
theorem lleaf_ret {ws : List Str} (h : WsOk ws) : Ret 5 "_law_leaf" [.lst (ws.map .str)] (leafO (leafW ws)) := by
  refine ⟨by simp [D.pures, D.pure, pures_str], ?_, [], ?_⟩
  · cases leafW ws with
    | none => rfl
    | some p => exact Pap.pure _
  · have r := lleaf_run (Nat.le_refl 4) h
    rw [fn_run t__law_leaf]
    refine r.trans ?_
    cases leafW ws <;> rfl
end K82
set_option Elab.async false
set_option linter.all false
set_option maxRecDepth 100000
set_option maxHeartbeats 4000000
/-! K82u: row_of. -/
namespace K82
open PySem L2 KA TL
theorem atI_nat {α : Type} (xs : List α) (k : Nat) : L2.atI xs (k : Int) = xs[k]? := by
  unfold L2.atI L2.ixN
  by_cases h : k < xs.length
  · simp [h]
  · simp [h]
inductive Tok where
  | bad | leaf (p : List (Int × Int) × List (Int × Int)) | unit (u : Int)
def rowT : List Str → Tok
  | [] => .bad
  | w :: r => if w = "leaf" then (match leafW r with
    | some p => .leaf p
    | none => .bad) else if w = "unit" then (match r with
    | [z] => (match cnW z with
      | some u => .unit u
      | none => .bad)
    | _ => .bad) else .bad
theorem unit_ne : ¬ (Str.ofString "unit" = Str.ofString "leaf") := by decide +kernel
def RowOk (ws : List Str) : Prop := ws ≠ [] ∧ (∀ w ∈ ws, wdB w = true) ∧ ws.length ≤ 12
section
variable {Γ : Gm} {ρ : Ro} {μ : Store} {w : Str} {r : List Str} (h : ρ[2]? = some (some (.lst ((w :: r).map .str))))
include h
theorem v2_ev : ev Γ (.var 2) ρ μ = .ok (.lst ((w :: r).map .str)) μ := var_ev h
theorem w0_ev : ev Γ (.ix (.var 2) (.int 0)) ρ μ = .ok (.str w) μ := by
  rw [ev, v2_ev h]
  simp [ev, ixD, seqD, L2.atI, L2.ixN]
theorem hd_ev (c : Str) : ev Γ (.cmp .eq (.ix (.var 2) (.int 0)) (.str c)) ρ μ = .ok (.bl (decide (w = c))) μ := by
  rw [ev, w0_ev h]
  simp [ev, cop, eqD, dscal, deq, okB]
theorem hdn_ev (c : Str) : ev Γ (.cmp .ne (.ix (.var 2) (.int 0)) (.str c)) ρ μ = .ok (.bl (!decide (w = c))) μ := by
  rw [ev, w0_ev h]
  simp [ev, cop, eqD, dscal, deq, okB]
theorem len2_ev : ev Γ (.cmp .ne (.bi .len (.var 2)) (.int 2)) ρ μ = .ok (.bl (!decide (r.length = 1))) μ := by
  have e : ev Γ (.bi .len (.var 2)) ρ μ = .ok (.int ((r.length + 1 : Nat) : Int)) μ := by
    rw [ev, v2_ev h]
    simp [biD, seqD]
  rw [ev, e]
  have e2 : decide (((r.length + 1 : Nat) : Int) = 2) = decide (r.length = 1) := by
    by_cases z : r.length = 1
    · simp [z]
    · have : ¬ ((r.length + 1 : Nat) : Int) = 2 := by omega
      simp only [z, this, decide_false]
  simp only [bind_ok, ev, cop, eqD, dscal, if_true, deq, e2, Option.map_some, okB]
theorem tail_ev : ev Γ (.slf (.var 2) (.int 1)) ρ μ = .ok (.lst (r.map .str)) μ := by
  have hc : cutD ((w :: r).map D.str) (some ((1 : Nat) : Int)) none = r.map .str := by rw [cut_from (by simp)]; simp
  have hc' : cutD ((w :: r).map D.str) (some 1) none = r.map .str := hc
  rw [ev, v2_ev h]
  simp only [bind_ok, ev, isI_int, slP, lstD, hc']
end
theorem w1_ev {Γ : Gm} {ρ : Ro} {μ : Store} {w z : Str} {r : List Str} (h : ρ[2]? = some (some (.lst ((w :: z :: r).map .str)))) : ev Γ (.ix (.var 2) (.int 1)) ρ μ = .ok (.str z) μ := by
  rw [ev, v2_ev h]
  have e := atI_nat ((w :: z :: r).map D.str) 1
  simp only [List.map_cons, List.getElem?_cons_succ, List.getElem?_cons_zero] at e
  have e' : L2.atI (D.str w :: D.str z :: r.map D.str) 1 = some (.str z) := e
  simp only [bind_ok, ev, ixD, seqD, List.map_cons, e']
theorem call1_ev {Γ : Gm} {f : Str} {e : E} {d : D} {ρ : Ro} {μ : Store} (h : ev Γ e ρ μ = .ok d μ) : ev Γ (.call f (.cons e .nil)) ρ μ = callF (Γ.fn f) [d] μ := by
  rw [ev, ev, h]
  simp [ev]
theorem or_f {Γ : Gm} {a b : E} {ρ : Ro} {μ μ1 : Store} (h : ev Γ a ρ μ = .ok (.bl false) μ1) : ev Γ (.or a b) ρ μ = ev Γ b ρ μ1 := by rw [ev, h]; rfl
theorem or_t {Γ : Gm} {a b : E} {ρ : Ro} {μ μ1 : Store} (h : ev Γ a ρ μ = .ok (.bl true) μ1) : ev Γ (.or a b) ρ μ = .ok (.bl true) μ1 := by rw [ev, h]; rfl
theorem and_f {Γ : Gm} {a b : E} {ρ : Ro} {μ μ1 : Store} (h : ev Γ a ρ μ = .ok (.bl false) μ1) : ev Γ (.and a b) ρ μ = .ok (.bl false) μ1 := by rw [ev, h]; rfl
theorem and_t {Γ : Gm} {a b : E} {ρ : Ro} {μ μ1 : Store} (h : ev Γ a ρ μ = .ok (.bl true) μ1) : ev Γ (.and a b) ρ μ = ev Γ b ρ μ1 := by rw [ev, h]; rfl
theorem one_ev {Γ : Gm} {a : E} {ρ : Ro} {μ : Store} : ev Γ (.one a) ρ μ = ev Γ a ρ μ := by rw [ev]
theorem ite_t {Γ : Gm} {c : E} {a b : S} {ρ : Ro} {μ μ1 : Store} (h : ev Γ c ρ μ = .ok (.bl true) μ1) : evS Γ (.ite c a b) ρ μ = evS Γ a ρ μ1 := by rw [evS, h]; rfl
theorem ite_f {Γ : Gm} {c : E} {a b : S} {ρ : Ro} {μ μ1 : Store} (h : ev Γ c ρ μ = .ok (.bl false) μ1) : evS Γ (.ite c a b) ρ μ = evS Γ b ρ μ1 := by rw [evS, h]; rfl
theorem seq_ev {Γ : Gm} {a b : S} {ρ ρ1 : Ro} {μ μ1 : Store} (h : evS Γ a ρ μ = .nx ρ1 μ1) : evS Γ (.seq a b) ρ μ = evS Γ b ρ1 μ1 := by rw [evS, h]; rfl
theorem seq_x {Γ : Gm} {a b : S} {ρ ρ1 : Ro} {x : Exn} {μ μ1 : Store} (h : evS Γ a ρ μ = .exc x ρ1 μ1) : evS Γ (.seq a b) ρ μ = .exc x ρ1 μ1 := by rw [evS, h]; rfl
theorem seq_r {Γ : Gm} {a b : S} {ρ : Ro} {d : D} {μ μ1 : Store} (h : evS Γ a ρ μ = .rt d μ1) : evS Γ (.seq a b) ρ μ = .rt d μ1 := by rw [evS, h]; rfl
theorem ret_ev {Γ : Gm} {e : E} {ρ : Ro} {d : D} {μ μ1 : Store} (h : ev Γ e ρ μ = .ok d μ1) : evS Γ (.ret e) ρ μ = .rt d μ1 := by rw [evS, h]; rfl
theorem ret_x {Γ : Gm} {e : E} {ρ : Ro} {x : Exn} {μ μ1 : Store} (h : ev Γ e ρ μ = .exc x μ1) : evS Γ (.ret e) ρ μ = .exc x ρ μ1 := by rw [evS, h]; rfl
theorem set_ev {Γ : Gm} {e : E} {i : Nat} {ρ : Ro} {d : D} {μ μ1 : Store} (h : ev Γ e ρ μ = .ok d μ1) : evS Γ (.set (.name i) e) ρ μ = .nx (ρ.set i (some d)) μ1 := by rw [evS, h]; rfl
theorem skip_ev {Γ : Gm} {ρ : Ro} {μ : Store} : evS Γ .skip ρ μ = .nx ρ μ := by rw [evS]
theorem tryr_rt {Γ : Gm} {b : S} {C C2 : Str} {as : E} {ρ : Ro} {d : D} {μ μ1 : Store} (h : evS Γ b ρ μ = .rt d μ1) : evS Γ (.tryr b C C2 as) ρ μ = .rt d μ1 := by rw [evS, h]
theorem rais0 {n : Nat} {ρ : Ro} {μ : Store} : evS (G n) (.rais "BadRatio" .nil) ρ μ = .exc xBad ρ μ := by
  have e2 : B.exf "BadRatio" = some [] := by kernel_rfl
  simp only [evS, ev, sbind_ok, raisD, e2, List.length_nil, if_true]
  rfl
def bt (j : Nat) : Exn := ⟨"BadText", [("row", .int (j : Int))]⟩
def btI (i : Int) : Exn := ⟨"BadText", [("row", .int i)]⟩
theorem split_ev {Γ : Gm} {ρ : Ro} {μ : Store} {e : E} {ws : List Str} (h : ev Γ e ρ μ = .ok (rowStr ws) μ) (g : RowOk ws) : ev Γ (.mth1 .split e (.str " ")) ρ μ = .ok (.lst (ws.map .str)) μ := by
  have hl := jw_len g.2.1 g.2.2
  have hc : (" " : Str).length ≠ 0 ∧ (jw ws).length + 2 ≤ sizeLine := ⟨by decide, by rw [sizeLine_eq]; omega⟩
  rw [ev, h]
  simp only [bind_ok, rowStr, rcvD, if_true, ev, mth1D, split_jw g.1 g.2.1]
  rw [if_pos hc]
theorem sub_bad : B.sub "BadRatio" "BadRatio" = some true := by kernel_rfl
theorem exf_text : B.exf "BadText" = some [("row" : Str)] := by kernel_rfl
theorem exf_ratio : B.exf "BadRatio" = some [] := by kernel_rfl
/-- the raise behind -/
theorem behind {n : Nat} {b : S} {ρ : Ro} {μ : Store} {i : Nat} (h : evS (G n) b ρ μ = .exc xBad ρ μ) (h1 : ρ[1]? = some (some (.int (i : Int)))) : evS (G n) (.tryr b "BadRatio" "BadText" (.cons (.bin .add (.var 1) (.int 1)) .nil)) ρ μ = .exc (bt (i + 1)) ρ μ := by
  have hv : ev (G n) (.cons (.bin .add (.var 1) (.int 1)) .nil) ρ μ = .ok (.tup [.int ((i + 1 : Nat) : Int)]) μ := by
    have : ev (G n) (.var 1) ρ μ = .ok (.int (i : Int)) μ := var_ev h1
    rw [ev, ev, this]
    simp [ev, bop, bopI]
  rw [evS, h]
  simp only [xBad, sub_bad, List.isEmpty_nil, if_true, hv, sbind_ok, raisD, exf_text, List.length_cons, List.length_nil, List.zip_cons_cons, List.zip_nil_right, bt]
def tokO (i : Nat) : Tok → Out
  | .leaf p => .ok (leafD p) []
  | .unit u => .ok (.int u) []
  | .bad => .exc (bt (i + 1)) []
theorem rowof_run {n : Nat} {ws : List Str} {i : Nat} (hn : 5 ≤ n) (g : RowOk ws) : outS (evS (G n) c_row_of_22 [some (rowStr ws), some (.int (i : Int)), none] []) = tokO i (rowT ws) := by
  match ws, g with
  | w :: r, g =>
  have s0 : ev (G n) (.mth1 .split (.var 0) (.str " ")) [some (rowStr (w :: r)), some (.int (i : Int)), none] [] = .ok (.lst ((w :: r).map .str)) [] := split_ev (by simp [ev]) g
  have wr : WsOk r := ⟨fun z hz => g.2.1 z (by simp [hz]), by have := g.2.2; simp at this; omega⟩
  generalize hρ : ([some (rowStr (w :: r)), some (.int (i : Int)), some (.lst ((w :: r).map .str))] : Ro) = ρ
  have h2 : ρ[2]? = some (some (.lst ((w :: r).map .str))) := by rw [← hρ]; rfl
  have h1 : ρ[1]? = some (some (.int (i : Int))) := by rw [← hρ]; rfl
  have e1 := hd_ev (Γ := G n) (μ := []) h2 "leaf"
  have e2 := hdn_ev (Γ := G n) (μ := []) h2 "unit"
  have e3 := len2_ev (Γ := G n) (μ := []) h2
  have e4 := tail_ev (Γ := G n) (μ := []) h2
  have hset : evS (G n) (.set (.name 2) (.mth1 .split (.var 0) (.str " "))) [some (rowStr (w :: r)), some (.int (i : Int)), none] [] = .nx ρ [] := by
    rw [← hρ, evS, s0]; rfl
  unfold c_row_of_22
  rw [seq_ev hset]
  by_cases c1 : w = "leaf"
  · rw [decide_eq_true c1] at e1
    cases e : leafW r with
    | some p =>
      have q := (leafof_ret wr e).call (μ := []) hn
      have k := (call1_ev (f := "leaf_of") e4).trans q
      rw [seq_r (tryr_rt (seq_r ((ite_t e1).trans (seq_r (ret_ev k)))))]
      simp only [outS, rowT, c1, if_true, e, tokO]
    | none =>
      have q := (leafof_rai wr e).call (μ := []) hn
      have k := (call1_ev (f := "leaf_of") e4).trans q
      rw [seq_x (behind (i := i) (seq_x ((ite_t e1).trans (seq_x (ret_x k)))) h1)]
      simp only [outS, rowT, c1, if_true, e, tokO]
  · rw [decide_eq_false c1] at e1
    by_cases c2 : w = "unit"
    · rw [decide_eq_true c2, Bool.not_true] at e2
      by_cases c3 : r.length = 1
      · rw [decide_eq_true c3, Bool.not_true] at e3
        match r, c3 with
        | [z], _ =>
        have wz : wdB z = true := g.2.1 z (by simp)
        have e5 := w1_ev (Γ := G n) (μ := []) h2
        cases e : cnW z with
        | some u =>
          have q := (wd_cnt wz e).1.call (μ := []) (show 4 ≤ n by omega)
          have k := (call1_ev (f := "count_of") e5).trans q
          rw [seq_r (tryr_rt ((seq_ev ((ite_f e1).trans skip_ev)).trans ((seq_ev ((ite_f ((or_f e2).trans (one_ev.trans e3))).trans skip_ev)).trans (seq_r (ret_ev k)))))]
          simp only [outS, rowT, c1, c2, if_true, if_false, e, tokO]
          simp [c2 ▸ c1]
        | none =>
          have q := (wd_ncnt wz e).1.call (μ := []) (show 4 ≤ n by omega)
          have k := (call1_ev (f := "count_of") e5).trans q
          rw [seq_x (behind (i := i) ((seq_ev ((ite_f e1).trans skip_ev)).trans ((seq_ev ((ite_f ((or_f e2).trans (one_ev.trans e3))).trans skip_ev)).trans (seq_x (ret_x k)))) h1)]
          simp [outS, rowT, c2 ▸ c1, c2, e, tokO]
      · rw [decide_eq_false c3, Bool.not_false] at e3
        have et : rowT (w :: r) = .bad := by
          subst c2
          match r, c3 with
          | [], _ => simp [rowT, unit_ne]
          | _ :: _ :: _, _ => simp [rowT, unit_ne]
        rw [seq_x (behind (i := i) ((seq_ev ((ite_f e1).trans skip_ev)).trans (seq_x ((ite_t ((or_f e2).trans (one_ev.trans e3))).trans (seq_x rais0)))) h1), et]
        rfl
    · rw [decide_eq_false c2, Bool.not_false] at e2
      have et : rowT (w :: r) = .bad := by simp only [rowT, c1, c2, if_false]
      rw [seq_x (behind (i := i) ((seq_ev ((ite_f e1).trans skip_ev)).trans (seq_x ((ite_t (or_t e2)).trans (seq_x rais0)))) h1), et]
      rfl
def tokD : Tok → D
  | .leaf p => leafD p
  | .unit u => .int u
  | .bad => .non
theorem rowof_ret {ws : List Str} (g : RowOk ws) (i : Nat) (h : rowT ws ≠ .bad) : Ret 6 "row_of" [rowStr ws, .int (i : Int)] (tokD (rowT ws)) := by
  refine ⟨rfl, ?_, [], ?_⟩
  · cases e : rowT ws with
    | bad => rfl
    | unit u => rfl
    | leaf p => exact Pap.pure _
  · have r := rowof_run (i := i) (Nat.le_refl 5) g
    rw [fn_run t_row_of]
    refine r.trans ?_
    cases e : rowT ws with
    | bad => exact absurd e h
    | unit u => rfl
    | leaf p => rfl
theorem rowof_rai {ws : List Str} (g : RowOk ws) (i : Nat) (h : rowT ws = .bad) : Rai 6 "row_of" [rowStr ws, .int (i : Int)] (bt (i + 1)) := by
  refine ⟨rfl, rfl, [], ?_⟩
  have r := rowof_run (i := i) (Nat.le_refl 5) g
  rw [fn_run t_row_of]
  rw [h] at r
  exact r
end K82
set_option Elab.async false
set_option linter.all false
set_option maxRecDepth 100000
set_option maxHeartbeats 4000000
/-! K82v: the reading of rows, in plain Lean. -/
namespace K82
open PySem L2 KA TL
abbrev Lf := List (Int × Int) × List (Int × Int)
/-- the law's reading -/
def pa (T : List Tok) : Nat → Nat → Option Pap × Nat
  | 0, at_ => (none, at_)
  | n + 1, at_ => match T[at_]? with
    | none => (none, at_)
    | some .bad => (none, at_)
    | some (.leaf p) => (some (.leaf p.1 p.2), at_ + 1)
    | some (.unit u) => match pa T n (at_ + 1) with
      | (none, b) => (none, b)
      | (some P, b) => match pa T n b with
        | (none, l) => (none, l)
        | (some Q, l) => (some (.unit u P Q), l)
/-- the program's stack -/
abbrev Cs := List (Int × Option Pap)
def popAll : Cs → Pap → Cs × Pap
  | [], P => ([], P)
  | (u, none) :: cs, P => ((u, none) :: cs, P)
  | (u, some p) :: cs, P => popAll cs (.unit u p P)
def mach : List Tok → Nat → Cs → Except Nat (Pap × Nat)
  | [], i, _ => .error (i + 1)
  | .bad :: _, i, _ => .error (i + 1)
  | .unit u :: T, i, cs => mach T (i + 1) ((u, none) :: cs)
  | .leaf p :: T, i, cs => match popAll cs (.leaf p.1 p.2) with
    | ([], P) => .ok (P, i + 1)
    | ((u, _) :: cs', P) => mach T (i + 1) ((u, some P) :: cs')
def contM (T : List Tok) (j : Nat) (cs : Cs) (P : Pap) : Except Nat (Pap × Nat) := match popAll cs P with
  | ([], P) => .ok (P, j)
  | ((u, _) :: cs', P) => mach (T.drop j) j ((u, some P) :: cs')
theorem pa_lt (T : List Tok) : ∀ n at_ P j, pa T n at_ = (some P, j) → j = at_ + nodes P ∧ j ≤ T.length
  | 0, at_, P, j, h => by simp [pa] at h
  | n + 1, at_, P, j, h => by
    rw [pa] at h
    split at h
    · simp at h
    · simp at h
    · rename_i p e
      simp only [Prod.mk.injEq, Option.some.injEq] at h
      obtain ⟨h1, h2⟩ := h
      subst h1 h2
      have : at_ < T.length := by
        rcases Nat.lt_or_ge at_ T.length with a | a
        · exact a
        · rw [List.getElem?_eq_none a] at e; cases e
      exact ⟨rfl, this⟩
    · split at h
      · simp at h
      · rename_i u e P' b hb
        split at h
        · simp at h
        · rename_i Q l hl
          simp only [Prod.mk.injEq, Option.some.injEq] at h
          obtain ⟨h1, h2⟩ := h
          subst h1 h2
          have a1 := pa_lt T n _ _ _ hb
          have a2 := pa_lt T n _ _ _ hl
          simp only [nodes]
          omega
theorem drop_cons {T : List Tok} {a : Nat} {t : Tok} (h : T[a]? = some t) : T.drop a = t :: T.drop (a + 1) := by
  have hl : a < T.length := by
    rcases Nat.lt_or_ge a T.length with z | z
    · exact z
    · rw [List.getElem?_eq_none z] at h; cases h
  rw [List.drop_eq_getElem_cons hl]
  rw [List.getElem?_eq_getElem hl] at h
  rw [Option.some.inj h]
theorem mach_pa (T : List Tok) : ∀ n at_, T.length - at_ < n → ∀ cs, mach (T.drop at_) at_ cs = match pa T n at_ with
    | (none, j) => .error (j + 1)
    | (some P, j) => contM T j cs P
  | 0, at_, h, _ => by omega
  | n + 1, at_, h, cs => by
    rw [pa]
    match e : T[at_]? with
    | none =>
      have : T.drop at_ = [] := List.drop_eq_nil_of_le (List.getElem?_eq_none_iff.mp e)
      rw [this]; rfl
    | some .bad => rw [drop_cons e]; rfl
    | some (.leaf p) => rw [drop_cons e]; rfl
    | some (.unit u) =>
      have hl : at_ < T.length := by
        rcases Nat.lt_or_ge at_ T.length with z | z
        · exact z
        · rw [List.getElem?_eq_none z] at e; cases e
      rw [drop_cons e]
      simp only [mach]
      rw [mach_pa T n (at_ + 1) (by omega)]
      match hb : pa T n (at_ + 1) with
      | (none, b) => rfl
      | (some P, b) =>
        have := pa_lt T n _ _ _ hb
        have hn := nodes_pos P
        simp only [contM, popAll]
        rw [mach_pa T n b (by omega)]
        match pa T n b with
        | (none, l) => rfl
        | (some Q, l) => rfl
theorem mach_pa0 (T : List Tok) : mach T 0 [] = match pa T (T.length + 1) 0 with
    | (none, j) => .error (j + 1)
    | (some P, j) => .ok (P, j) := by
  have h := mach_pa T (T.length + 1) 0 (by omega) []
  rw [List.drop_zero] at h
  rw [h]
  match pa T (T.length + 1) 0 with
  | (none, l) => rfl
  | (some Q, l) => rfl
theorem pa_fuel (T : List Tok) : ∀ n m at_, T.length - at_ < n → T.length - at_ < m → pa T n at_ = pa T m at_
  | 0, _, _, h, _ => by omega
  | _, 0, _, _, h => by omega
  | n + 1, m + 1, at_, h1, h2 => by
    rw [pa, pa]
    match e : T[at_]? with
    | none => rfl
    | some .bad => rfl
    | some (.leaf p) => rfl
    | some (.unit u) =>
      have hl : at_ < T.length := by
        rcases Nat.lt_or_ge at_ T.length with z | z
        · exact z
        · rw [List.getElem?_eq_none z] at e; cases e
      rw [pa_fuel T n m (at_ + 1) (by omega) (by omega)]
      match hb : pa T m (at_ + 1) with
      | (none, b) => rfl
      | (some P, b) =>
        have := pa_lt T m _ _ _ hb
        have hn := nodes_pos P
        simp only
        rw [pa_fuel T n m b (by omega) (by omega)]
/-! ### the paper's own rows -/
theorem rd_rtx {p : Int × Int} (h : Rat' p) : rdW (rtx p) = some p := by
  have q := rat_ok h
  simp only [rtB, Bool.and_eq_true, decide_eq_true_eq] at q
  exact q.1.1.2
theorem rdAll_rtx : ∀ {ms : List (Int × Int)}, (∀ p ∈ ms, Rat' p) → rdAll (ms.map rtx) = some ms
  | [], _ => rfl
  | p :: ms, h => by
    have ih := rdAll_rtx (ms := ms) fun q hq => h q (by simp [hq])
    simp [rdAll, rd_rtx (h p (by simp)), ih]
theorem rd_colon : rdW ":" = none := by decide +kernel
theorem rtx_ne {p : Int × Int} (h : Rat' p) : rtx p ≠ ":" := by
  intro e
  have := rd_rtx h
  rw [e, rd_colon] at this
  cases this
theorem colon_notin {ms : List (Int × Int)} (h : ∀ p ∈ ms, Rat' p) : (":" : Str) ∉ ms.map rtx := by
  intro hm
  obtain ⟨p, hp, e⟩ := List.mem_map.mp hm
  exact rtx_ne (h p hp) e
theorem leafW_row {ms ss : List (Int × Int)} (h1 : ∀ p ∈ ms, Rat' p) (h2 : ∀ p ∈ ss, Rat' p) : leafW (ms.map rtx ++ [(":" : Str)] ++ ss.map rtx) = some (ms, ss) := by
  have c1 : (ms.map rtx).count (":" : Str) = 0 := List.count_eq_zero.mpr (colon_notin h1)
  have c2 : (ss.map rtx).count (":" : Str) = 0 := List.count_eq_zero.mpr (colon_notin h2)
  have c : (ms.map rtx ++ [(":" : Str)] ++ ss.map rtx).count (":" : Str) = 1 := by
    rw [List.count_append, List.count_append, c1, c2]
    decide
  have hi : (ms.map rtx ++ [(":" : Str)] ++ ss.map rtx).findIdx (· == (":" : Str)) = ms.length := by
    rw [List.append_assoc, List.findIdx_append]
    have n1 : ¬ ((ms.map rtx).findIdx (· == (":" : Str)) < (ms.map rtx).length) := by
      rw [List.findIdx_lt_length]
      rintro ⟨x, hx, e⟩
      have e2 : x = ":" := eq_of_beq e
      subst e2
      exact colon_notin h1 hx
    rw [if_neg n1]
    simp [List.findIdx_cons]
  rw [leaf_in c, hi]
  have t1 : (ms.map rtx ++ [(":" : Str)] ++ ss.map rtx).take ms.length = ms.map rtx := by
    rw [List.append_assoc]
    have : ms.length = (ms.map rtx).length := by simp
    rw [this, List.take_left]
  have t2 : (ms.map rtx ++ [(":" : Str)] ++ ss.map rtx).drop (ms.length + 1) = ss.map rtx := by
    have : ms.length + 1 = (ms.map rtx ++ [(":" : Str)]).length := by simp
    rw [this, List.drop_left]
  rw [t1, t2, rdAll_rtx h1, rdAll_rtx h2]
theorem rowT_leaf {ms ss : List (Int × Int)} (h1 : ∀ p ∈ ms, Rat' p) (h2 : ∀ p ∈ ss, Rat' p) : rowT (leafRow ms ss) = .leaf (ms, ss) := by
  have e : leafRow ms ss = ("leaf" : Str) :: (ms.map rtx ++ [(":" : Str)] ++ ss.map rtx) := by simp [leafRow]
  rw [e]
  simp only [rowT, if_true, leafW_row h1 h2]
theorem rowT_unit {u : Int} (h : u ∈ units) : rowT (unitRow u) = .unit u := by
  simp only [units, List.mem_cons, List.not_mem_nil, or_false] at h
  have n : ¬ (("unit" : Str) = "leaf") := by decide +kernel
  have c : cnW (toString u : Str) = some u := by
    rcases h with rfl | rfl | rfl | rfl | rfl <;> decide +kernel
  simp only [unitRow, rowT, n, if_true, if_false, c]
theorem pa_rows : ∀ {d : Nat} {P : Pap}, Good d P → ∀ (pre post : List Tok) (n : Nat), ((rowsP P).map rowT ++ post).length < n → pa (pre ++ ((rowsP P).map rowT ++ post)) n pre.length = (some P, pre.length + nodes P)
  | d, .leaf ms ss, h, pre, post, n, hn => by
    have h' : ms.length ≤ 5 ∧ ss.length ≤ 3 ∧ (∀ p ∈ ms, Rat' p) ∧ ∀ p ∈ ss, Rat' p := by cases d <;> exact h
    obtain ⟨n, rfl⟩ : ∃ k, n = k + 1 := ⟨n - 1, by omega⟩
    rw [pa]
    have e : (pre ++ ((rowsP (.leaf ms ss)).map rowT ++ post))[pre.length]? = some (.leaf (ms, ss)) := by
      rw [List.getElem?_append_right (Nat.le_refl _)]
      simp [rowsP, rowT_leaf h'.2.2.1 h'.2.2.2]
    rw [e]
    rfl
  | 0, .unit u p q, h, _, _, _, _ => h.elim
  | d + 1, .unit u p q, h, pre, post, n, hn => by
    obtain ⟨n, rfl⟩ : ∃ k, n = k + 1 := ⟨n - 1, by omega⟩
    have e : (pre ++ ((rowsP (.unit u p q)).map rowT ++ post))[pre.length]? = some (.unit u) := by
      rw [List.getElem?_append_right (Nat.le_refl _)]
      simp [rowsP, rowT_unit h.1]
    have lp := nodes_rows p
    have lq := nodes_rows q
    have hl : ((rowsP (.unit u p q)).map rowT ++ post).length = 1 + nodes p + nodes q + post.length := by
      simp [nodes_rows, nodes]
    rw [pa, e]
    have e1 : pre ++ ((rowsP (.unit u p q)).map rowT ++ post) = (pre ++ [.unit u]) ++ ((rowsP p).map rowT ++ ((rowsP q).map rowT ++ post)) := by
      simp [rowsP, rowT_unit h.1]
    have e2 : pre ++ ((rowsP (.unit u p q)).map rowT ++ post) = (pre ++ [.unit u] ++ (rowsP p).map rowT) ++ ((rowsP q).map rowT ++ post) := by
      simp [rowsP, rowT_unit h.1]
    have i1 := pa_rows h.2.1 (pre ++ [.unit u]) ((rowsP q).map rowT ++ post) n (by simp; omega)
    have i2 := pa_rows h.2.2 (pre ++ [.unit u] ++ (rowsP p).map rowT) post n (by simp; omega)
    rw [← e1] at i1
    rw [← e2] at i2
    have k1 : (pre ++ [Tok.unit u]).length = pre.length + 1 := by simp
    have k2 : (pre ++ [Tok.unit u] ++ (rowsP p).map rowT).length = pre.length + 1 + nodes p := by simp; omega
    rw [k1] at i1
    rw [k2] at i2
    simp only [i1, i2, nodes]
    congr 1
    omega
theorem pa_self {d : Nat} {P : Pap} (h : Good d P) : pa ((rowsP P).map rowT) (((rowsP P).map rowT).length + 1) 0 = (some P, ((rowsP P).map rowT).length) := by
  have := pa_rows h [] [] (((rowsP P).map rowT).length + 1) (by simp)
  simp only [List.nil_append, List.append_nil, List.length_nil, Nat.zero_add] at this
  rw [this]
  simp [nodes_rows]
end K82
set_option Elab.async false
set_option linter.all false
set_option maxRecDepth 100000
set_option maxHeartbeats 4000000
/-! K82w: _law_paper_at. -/
namespace K82
open PySem L2 KA TL
def paD : Option Pap × Nat → D
  | (none, j) => .tup [.non, .int (j : Nat)]
  | (some P, j) => .tup [P.D, .int (j : Nat)]
theorem paD_pure (x : Option Pap × Nat) : (paD x).pure = true := by
  match x with
  | (none, j) => rfl
  | (some P, j) => simp [paD, D.pure, D.pures, Pap.pure]
theorem tup2_ev {Γ : Gm} {a b : E} {x y : D} {ρ : Ro} {μ : Store} (h1 : ev Γ a ρ μ = .ok x μ) (h2 : ev Γ b ρ μ = .ok y μ) : ev Γ (.tup (.cons a (.cons b .nil))) ρ μ = .ok (.tup [x, y]) μ := by
  simp [ev, h1, h2, sizeLine_eq]
theorem tup4_ev {Γ : Gm} {a b c d : E} {x y z w : D} {ρ : Ro} {μ : Store} (h1 : ev Γ a ρ μ = .ok x μ) (h2 : ev Γ b ρ μ = .ok y μ) (h3 : ev Γ c ρ μ = .ok z μ) (h4 : ev Γ d ρ μ = .ok w μ) : ev Γ (.tup (.cons a (.cons b (.cons c (.cons d .nil))))) ρ μ = .ok (.tup [x, y, z, w]) μ := by
  simp [ev, h1, h2, h3, h4, sizeLine_eq]
theorem call2_ev {Γ : Gm} {f : Str} {e1 e2 : E} {x y : D} {ρ : Ro} {μ : Store} (h1 : ev Γ e1 ρ μ = .ok x μ) (h2 : ev Γ e2 ρ μ = .ok y μ) : ev Γ (.call f (.cons e1 (.cons e2 .nil))) ρ μ = callF (Γ.fn f) [x, y] μ := by
  simp [ev, h1, h2]
def isN : D → Bool
  | .non => true
  | _ => false
theorem isnon_ev {Γ : Gm} {e : E} {d : D} {ρ : Ro} {μ : Store} (h : ev Γ e ρ μ = .ok d μ) (hd : d.pure = true) : ev Γ (.cmp .is_ e .non) ρ μ = .ok (.bl (isN d)) μ := by
  rw [ev, h]
  cases d <;> first | rfl | (simp [D.pure] at hd)
theorem isnnon_ev {Γ : Gm} {e : E} {d : D} {ρ : Ro} {μ : Store} (h : ev Γ e ρ μ = .ok d μ) (hd : d.pure = true) : ev Γ (.cmp .isnot e .non) ρ μ = .ok (.bl (!isN d)) μ := by
  rw [ev, h]
  cases d <;> first | rfl | (simp [D.pure] at hd)
theorem lenrow_ev {Γ : Gm} {ρ : Ro} {μ : Store} {w z : Str} (h : ρ[2]? = some (some (.lst ([w, z].map .str)))) (hz : z.length ≤ 1000) : ev Γ (.cmp .gt (.bi .len (.ix (.var 2) (.int 1))) (.int 9)) ρ μ = .ok (.bl (decide (9 < z.length))) μ := by
  have e : ev Γ (.bi .len (.ix (.var 2) (.int 1))) ρ μ = .ok (.int (z.length : Nat)) μ := by
    rw [ev, w1_ev h]
    simp [biD, le_line hz]
  rw [ev, e]
  have e2 : decide ((9 : Int) < ((z.length : Nat) : Int)) = decide (9 < z.length) := by
    by_cases c : 9 < z.length
    · have : (9 : Int) < ((z.length : Nat) : Int) := by omega
      simp only [c, this, decide_true]
    · have : ¬ (9 : Int) < ((z.length : Nat) : Int) := by omega
      simp only [c, this, decide_false]
  simp only [bind_ok, ev, cop, e2]
theorem leafO_non (o : Option Lf) : (!isN (leafO o)) = o.isSome := by cases o <;> rfl
section
variable {n : Nat} {R : List (List Str)} {at_ : Nat}
theorem lpa_row {ws : List Str} (hR : ∀ ws ∈ R, RowOk ws) (e : R[at_]? = some ws) (ρ : Ro) (μ : Store) (h0 : ρ[0]? = some (some (.lst (R.map rowStr)))) (h1 : ρ[1]? = some (some (.int (at_ : Nat)))) : ev (G n) (.mth1 .split (.ix (.var 0) (.var 1)) (.str " ")) ρ μ = .ok (.lst (ws.map .str)) μ := by
  refine split_ev ?_ (hR ws (List.mem_of_getElem? e))
  rw [ev, var_ev h0]
  simp only [bind_ok, var_ev h1, ixD, seqD, atI_nat, List.getElem?_map, e, Option.map_some]
theorem lpa_len (ρ : Ro) (μ : Store) (h0 : ρ[0]? = some (some (.lst (R.map rowStr)))) (h1 : ρ[1]? = some (some (.int (at_ : Nat)))) : ev (G n) (.cmp .ge (.var 1) (.bi .len (.var 0))) ρ μ = .ok (.bl (decide (R.length ≤ at_))) μ := by
  have e : ev (G n) (.bi .len (.var 0)) ρ μ = .ok (.int (R.length : Nat)) μ := by
    rw [ev, var_ev h0]
    simp [biD, seqD]
  rw [ev, var_ev h1]
  have e2 : decide (((R.length : Nat) : Int) ≤ ((at_ : Nat) : Int)) = decide (R.length ≤ at_) := by
    by_cases c : R.length ≤ at_
    · have : ((R.length : Nat) : Int) ≤ ((at_ : Nat) : Int) := by omega
      simp only [c, this, decide_true]
    · have : ¬ ((R.length : Nat) : Int) ≤ ((at_ : Nat) : Int) := by omega
      simp only [c, this, decide_false]
  simp only [bind_ok, e, cop, e2]
end
theorem settup2 {Γ : Gm} {e : E} {i j : Nat} {ρ : Ro} {x y : D} {μ μ1 : Store} (h : ev Γ e ρ μ = .ok (.tup [x, y]) μ1) : evS Γ (.set (.tup (.cons (.name i) (.cons (.name j) .nil))) e) ρ μ = .nx ((ρ.set i (some x)).set j (some y)) μ1 := by rw [evS, h]; rfl
def paT (T : List Tok) (n a : Nat) : Tok → Option Pap × Nat
  | .bad => (none, a)
  | .leaf p => (some (.leaf p.1 p.2), a + 1)
  | .unit u => match pa T n (a + 1) with
    | (none, b) => (none, b)
    | (some P, b) => match pa T n b with
      | (none, l) => (none, l)
      | (some Q, l) => (some (.unit u P Q), l)
theorem pa_some {T : List Tok} {n a : Nat} {t : Tok} (h : T[a]? = some t) : pa T (n + 1) a = paT T n a t := by
  rw [pa, h]
  cases t <;> rfl
theorem itee_t {Γ : Gm} {c a b : E} {ρ : Ro} {μ μ1 : Store} (h : ev Γ c ρ μ = .ok (.bl true) μ1) : ev Γ (.ite c a b) ρ μ = ev Γ a ρ μ1 := by rw [ev, h]; rfl
theorem itee_f {Γ : Gm} {c a b : E} {ρ : Ro} {μ μ1 : Store} (h : ev Γ c ρ μ = .ok (.bl false) μ1) : ev Γ (.ite c a b) ρ μ = ev Γ b ρ μ1 := by rw [ev, h]; rfl
theorem pap_nn (P : Pap) : isN P.D = false := by cases P <;> rfl
theorem lpa_run (R : List (List Str)) (hR : ∀ ws ∈ R, RowOk ws) : ∀ (n at_ : Nat), (R.map rowT).length - at_ < n → Ret (n + 6) "_law_paper_at" [.lst (R.map rowStr), .int (at_ : Nat)] (paD (pa (R.map rowT) n at_))
  | 0, at_, h => by omega
  | n + 1, at_, h => by
    refine ⟨by simp [D.pures, D.pure, rowsD_pure], paD_pure _, [], ?_⟩
    rw [fn_run t__law_paper_at]
    unfold runFn
    simp only [List.length_cons, List.length_nil, List.map_cons, List.map_nil, List.cons_append, List.nil_append, if_true, List.replicate]
    show outS (evS (G (n + 6)) c__law_paper_at_40 [some (.lst (R.map rowStr)), some (.int (at_ : Nat)), none, none, none, none, none] []) = _
    suffices H : evS (G (n + 6)) c__law_paper_at_40 [some (.lst (R.map rowStr)), some (.int (at_ : Nat)), none, none, none, none, none] [] = .rt (paD (pa (R.map rowT) (n + 1) at_)) [] by rw [H]; rfl
    have l0 := lpa_len (n := n + 6) (R := R) (at_ := at_) [some (.lst (R.map rowStr)), some (.int (at_ : Nat)), none, none, none, none, none] [] rfl rfl
    have eT : (R.map rowT)[at_]? = R[at_]?.map rowT := List.getElem?_map ..
    unfold c__law_paper_at_40
    cases e : R[at_]? with
    | none =>
      have hl : R.length ≤ at_ := List.getElem?_eq_none_iff.mp e
      rw [decide_eq_true hl] at l0
      rw [seq_r ((ite_t l0).trans (seq_r (ret_ev (tup2_ev (x := .non) (y := .int (at_ : Nat)) rfl (var_ev rfl)))))]
      rw [pa, eT, e]
      rfl
    | some ws =>
      have hl : ¬ R.length ≤ at_ := by
        intro c
        rw [List.getElem?_eq_none c] at e
        cases e
      rw [decide_eq_false hl] at l0
      rw [e] at eT
      have ok := hR ws (List.mem_of_getElem? e)
      have s0 := lpa_row (n := n + 6) hR e [some (.lst (R.map rowStr)), some (.int (at_ : Nat)), none, none, none, none, none] [] rfl rfl
      rw [seq_ev ((ite_f l0).trans skip_ev), seq_ev (set_ev s0)]
      match ws, ok, eT with
      | w :: r, ok, eT =>
      have wr : WsOk r := ⟨fun z hz => ok.2.1 z (by simp [hz]), by have := ok.2.2; simp at this; omega⟩
      have hT : (R.map rowT).length = R.length := by simp
      have hpa := pa_some (n := n) eT
      generalize hρ : (([some (.lst (R.map rowStr)), some (.int (at_ : Nat)), none, none, none, none, none] : Ro).set 2 (some (.lst ((w :: r).map .str)))) = ρ
      have h2 : ρ[2]? = some (some (.lst ((w :: r).map .str))) := by rw [← hρ]; rfl
      have h1 : ρ[1]? = some (some (.int (at_ : Nat))) := by rw [← hρ]; rfl
      have h0 : ρ[0]? = some (some (.lst (R.map rowStr))) := by rw [← hρ]; rfl
      have e1 := hd_ev (Γ := G (n + 6)) (μ := []) h2 "leaf"
      have e2 := hdn_ev (Γ := G (n + 6)) (μ := []) h2 "unit"
      have e3 := len2_ev (Γ := G (n + 6)) (μ := []) h2
      have e4 := tail_ev (Γ := G (n + 6)) (μ := []) h2
      have a1 : ev (G (n + 6)) (.bin .add (.var 1) (.int 1)) ρ [] = .ok (.int ((at_ + 1 : Nat) : Int)) [] := by
        rw [ev, var_ev h1]; simp [ev, bop, bopI]
      have bad := ret_ev (tup2_ev (Γ := G (n + 6)) (a := .non) (b := .var 1) (x := .non) (y := .int (at_ : Nat)) (ρ := ρ) (μ := []) rfl (var_ev h1))
      by_cases c1 : w = "leaf"
      · rw [decide_eq_true c1] at e1
        have q := (lleaf_ret wr).call (μ := []) (show 5 ≤ n + 6 by omega)
        have k := (call1_ev (f := "_law_leaf") e4).trans q
        have k2 := isnnon_ev k (lleaf_ret wr).2.1
        rw [leafO_non] at k2
        have kk : ev (G (n + 6)) (.ite (.cmp .isnot (.call "_law_leaf" (.cons (.slf (.var 2) (.int 1)) .nil)) .non) (.bin .add (.var 1) (.int 1)) (.var 1)) ρ [] = .ok (.int (((if (leafW r).isSome then at_ + 1 else at_) : Nat) : Int)) [] := by
          cases hs : (leafW r).isSome with
          | false => rw [hs] at k2; rw [itee_f k2, var_ev h1]; simp
          | true => rw [hs] at k2; rw [itee_t k2, a1]; simp
        rw [seq_r ((ite_t e1).trans (seq_r (ret_ev (tup2_ev k kk)))), hpa]
        simp only [rowT, c1, if_true]
        cases leafW r with
        | none => rfl
        | some p => rfl
      · rw [decide_eq_false c1] at e1
        rw [seq_ev ((ite_f e1).trans skip_ev)]
        by_cases c2 : w = "unit"
        · rw [decide_eq_true c2, Bool.not_true] at e2
          by_cases c3 : r.length = 1
          · rw [decide_eq_true c3, Bool.not_true] at e3
            match r, c3 with
            | [z], _ =>
            have wz : wdB z = true := ok.2.1 z (by simp)
            have lz := wd_len wz
            have e5 := w1_ev (Γ := G (n + 6)) (μ := []) h2
            have e6 := lenrow_ev (Γ := G (n + 6)) (μ := []) h2 (by omega)
            cases ec : cnW z with
            | none =>
              have ht : rowT [w, z] = .bad := by subst c2; simp [rowT, unit_ne, ec]
              rw [ht] at hpa
              rw [hpa]
              rcases (wd_ncnt wz ec).2 with l9 | hr
              · rw [decide_eq_true l9] at e6
                exact seq_r ((ite_t ((or_f e2).trans ((or_f e3).trans (or_t e6)))).trans (seq_r bad))
              · have q := hr.call (μ := []) (show 4 ≤ n + 6 by omega)
                have k := (call1_ev (f := "_law_number") e5).trans q
                have e7 : ev (G (n + 6)) (.cmp .lt (.call "_law_number" (.cons (.ix (.var 2) (.int 1)) .nil)) (.int 0)) ρ [] = .ok (.bl true) [] := by
                  rw [ev, k]; rfl
                by_cases l9 : 9 < z.length
                · rw [decide_eq_true l9] at e6
                  exact seq_r ((ite_t ((or_f e2).trans ((or_f e3).trans (or_t e6)))).trans (seq_r bad))
                · rw [decide_eq_false l9] at e6
                  exact seq_r ((ite_t ((or_f e2).trans ((or_f e3).trans ((or_f e6).trans (one_ev.trans e7))))).trans (seq_r bad))
            | some u =>
              obtain ⟨_, hr, u0, l9⟩ := wd_cnt wz ec
              have q := hr.call (μ := []) (show 4 ≤ n + 6 by omega)
              have k := (call1_ev (f := "_law_number") e5).trans q
              have ht : rowT [w, z] = .unit u := by subst c2; simp [rowT, unit_ne, ec]
              rw [ht] at hpa
              rw [decide_eq_false (by omega)] at e6
              have e7 : ev (G (n + 6)) (.cmp .lt (.call "_law_number" (.cons (.ix (.var 2) (.int 1)) .nil)) (.int 0)) ρ [] = .ok (.bl false) [] := by
                rw [ev, k]
                have : ¬ u < 0 := by omega
                simp [ev, cop, this]
              have hle : at_ < R.length := by omega
              have i1 := (lpa_run R hR n (at_ + 1) (by omega)).call (μ := []) (Nat.le_refl _)
              have k1 := (call2_ev (f := "_law_paper_at") (var_ev h0) a1).trans i1
              rw [seq_ev ((ite_f ((or_f e2).trans ((or_f e3).trans ((or_f e6).trans (one_ev.trans e7))))).trans skip_ev)]
              simp only [paT] at hpa
              rw [hpa]
              match hp : pa (R.map rowT) n (at_ + 1) with
              | (none, b) =>
                rw [hp] at k1
                subst hρ
                have q1 := isnon_ev (Γ := G (n + 6)) (e := .var 3) (d := .non) (ρ := [some (.lst (R.map rowStr)), some (.int (at_ : Nat)), some (.lst ([w, z].map .str)), some .non, some (.int (b : Nat)), none, none]) (μ := []) (var_ev rfl) rfl
                rw [seq_ev (settup2 k1)]
                exact seq_r ((ite_t q1).trans (seq_r (ret_ev (tup2_ev (x := .non) (y := .int (b : Nat)) rfl (var_ev rfl)))))
              | (some P, b) =>
                rw [hp] at k1
                have hb := pa_lt _ _ _ _ _ hp
                have np := nodes_pos P
                have i2 := (lpa_run R hR n b (by omega)).call (μ := []) (Nat.le_refl _)
                subst hρ
                have q1 := isnon_ev (Γ := G (n + 6)) (e := .var 3) (d := P.D) (ρ := [some (.lst (R.map rowStr)), some (.int (at_ : Nat)), some (.lst ([w, z].map .str)), some P.D, some (.int (b : Nat)), none, none]) (μ := []) (var_ev rfl) P.pure
                rw [pap_nn] at q1
                have k2 := (call2_ev (Γ := G (n + 6)) (f := "_law_paper_at") (e1 := .var 0) (e2 := .var 4) (ρ := [some (.lst (R.map rowStr)), some (.int (at_ : Nat)), some (.lst ([w, z].map .str)), some P.D, some (.int (b : Nat)), none, none]) (var_ev rfl) (var_ev rfl)).trans i2
                rw [seq_ev (settup2 k1)]
                refine (seq_ev ((ite_f q1).trans skip_ev)).trans ?_
                simp only
                match hq : pa (R.map rowT) n b with
                | (none, l) =>
                  rw [hq] at k2
                  have q2 := isnon_ev (Γ := G (n + 6)) (e := .var 5) (d := .non) (ρ := [some (.lst (R.map rowStr)), some (.int (at_ : Nat)), some (.lst ([w, z].map .str)), some P.D, some (.int (b : Nat)), some .non, some (.int (l : Nat))]) (μ := []) (var_ev rfl) rfl
                  rw [seq_ev (settup2 k2)]
                  exact seq_r (ret_ev (tup2_ev (x := .non) (y := .int (l : Nat)) (itee_t q2) (var_ev rfl)))
                | (some Q, l) =>
                  rw [hq] at k2
                  have q2 := isnon_ev (Γ := G (n + 6)) (e := .var 5) (d := Q.D) (ρ := [some (.lst (R.map rowStr)), some (.int (at_ : Nat)), some (.lst ([w, z].map .str)), some P.D, some (.int (b : Nat)), some Q.D, some (.int (l : Nat))]) (μ := []) (var_ev rfl) Q.pure
                  rw [pap_nn] at q2
                  have k3 : ev (G (n + 6)) (.call "_law_number" (.cons (.ix (.var 2) (.int 1)) .nil)) [some (.lst (R.map rowStr)), some (.int (at_ : Nat)), some (.lst ([w, z].map .str)), some P.D, some (.int (b : Nat)), some Q.D, some (.int (l : Nat))] [] = .ok (.int u) [] :=
                    (call1_ev (f := "_law_number") (w1_ev (w := w) (z := z) (r := []) rfl)).trans q
                  have k4 : ev (G (n + 6)) (.tup (.cons (.str "unit") (.cons (.call "_law_number" (.cons (.ix (.var 2) (.int 1)) .nil)) (.cons (.var 3) (.cons (.var 5) .nil))))) [some (.lst (R.map rowStr)), some (.int (at_ : Nat)), some (.lst ([w, z].map .str)), some P.D, some (.int (b : Nat)), some Q.D, some (.int (l : Nat))] [] = .ok (Pap.unit u P Q).D [] := by
                    exact tup4_ev rfl k3 (var_ev rfl) (var_ev rfl)
                  rw [seq_ev (settup2 k2)]
                  exact seq_r (ret_ev (tup2_ev ((itee_f q2).trans k4) (var_ev rfl)))
          · rw [decide_eq_false c3, Bool.not_false] at e3
            have et : rowT (w :: r) = .bad := by
              subst c2
              match r, c3 with
              | [], _ => simp [rowT, unit_ne]
              | _ :: _ :: _, _ => simp [rowT, unit_ne]
            rw [et] at hpa
            rw [hpa]
            exact seq_r ((ite_t ((or_f e2).trans (or_t e3))).trans (seq_r bad))
        · rw [decide_eq_false c2, Bool.not_false] at e2
          have et : rowT (w :: r) = .bad := by simp only [rowT, c1, c2, if_false]
          rw [et] at hpa
          rw [hpa]
          exact seq_r ((ite_t (or_t e2)).trans (seq_r bad))
end K82
set_option Elab.async false
set_option linter.all false
set_option maxRecDepth 100000
set_option maxHeartbeats 4000000
/-! K82x: parse's inner loop. -/
namespace K82
open PySem L2 KA TL
def cD : Int × Option Pap → D
  | (u, none) => .tup [.int u, .non]
  | (u, some P) => .tup [.int u, P.D]
def csD (cs : Cs) : List D := (cs.map cD).reverse
def csN : Cs → Nat
  | [] => 0
  | (_, none) :: cs => 1 + csN cs
  | (_, some P) :: cs => 1 + nodes P + csN cs
theorem csN_len : ∀ cs : Cs, cs.length ≤ csN cs
  | [] => Nat.le_refl _
  | (_, none) :: cs => by have := csN_len cs; simp only [csN, List.length_cons]; omega
  | (_, some P) :: cs => by have := csN_len cs; simp only [csN, List.length_cons]; omega
theorem popAll_N : ∀ (cs : Cs) (P : Pap), csN (popAll cs P).1 + nodes (popAll cs P).2 = csN cs + nodes P
  | [], P => rfl
  | (_, none) :: cs, P => rfl
  | (u, some p) :: cs, P => by
    rw [popAll, popAll_N cs (.unit u p P)]
    simp only [csN, nodes]
    omega
theorem popAll_hd : ∀ (cs : Cs) (P : Pap), (popAll cs P).1 = [] ∨ ∃ u r, (popAll cs P).1 = (u, none) :: r
  | [], P => .inl rfl
  | (u, none) :: cs, P => .inr ⟨u, cs, rfl⟩
  | (u, some p) :: cs, P => by rw [popAll]; exact popAll_hd cs _
theorem dep_nodes : ∀ P : Pap, 2 * P.D.py.depth ≤ nodes P + 6
  | .leaf ms ss => by
    have r2 : ∀ p : Int × Int, (rD p).py.depth ≤ 1 := fun p => dep_tup (k := 0) (by intro d hd; simp at hd; rcases hd with rfl | rfl <;> simp [D.py, PyData.depth])
    have t2 : ∀ l : List (Int × Int), (D.tup (l.map rD)).py.depth ≤ 2 := fun l => dep_tup (k := 1) (by intro d hd; obtain ⟨p, _, rfl⟩ := List.mem_map.mp hd; exact r2 p)
    have : (Pap.leaf ms ss).D.py.depth ≤ 3 := dep_tup (k := 2) (by
      intro d hd
      simp at hd
      rcases hd with rfl | rfl | rfl
      · simp [D.py, PyData.depth]
      · exact t2 ms
      · exact t2 ss)
    simp only [nodes]; omega
  | .unit u p q => by
    have h1 := dep_nodes p
    have h2 := dep_nodes q
    have n1 := nodes_pos p
    have n2 := nodes_pos q
    have : (Pap.unit u p q).D.py.depth ≤ max p.D.py.depth q.D.py.depth + 1 := dep_tup (k := max p.D.py.depth q.D.py.depth) (by
      intro e he
      simp at he
      rcases he with rfl | rfl | rfl | rfl
      · simp [D.py, PyData.depth]
      · simp [D.py, PyData.depth]
      · omega
      · omega)
    simp only [nodes]; omega
theorem csD_cons (c : Int × Option Pap) (cs : Cs) : csD (c :: cs) = csD cs ++ [cD c] := by simp [csD]
theorem csD_len (cs : Cs) : (csD cs).length = cs.length := by simp [csD]
theorem cD_pure (c : Int × Option Pap) : (cD c).pure = true := by
  match c with
  | (u, none) => rfl
  | (u, some P) => simp [cD, D.pure, D.pures, Pap.pure]
theorem cD_lay (c : Int × Option Pap) : (cD c).lay := by
  match c with
  | (u, none) => exact lay_tup (by intro e he; simp at he; rcases he with rfl | rfl <;> rfl)
  | (u, some P) =>
    have h := pap_lay P
    exact lay_tup (by
      intro e he
      simp at he
      rcases he with rfl | rfl
      · rfl
      · exact h)
theorem csD_pure (cs : Cs) : D.pures (csD cs) = true := by
  have : csD cs = cs.reverse.map cD := by simp [csD]
  rw [this]; exact pures_map cD cD_pure _
theorem mem_N : ∀ {cs : Cs} {u : Int} {P : Pap}, (u, some P) ∈ cs → nodes P ≤ csN cs
  | (v, none) :: cs, u, P, h => by
    simp only [List.mem_cons, Prod.mk.injEq, reduceCtorEq, and_false, false_or] at h
    have := mem_N h
    simp only [csN]; omega
  | (v, some Q) :: cs, u, P, h => by
    simp only [List.mem_cons, Prod.mk.injEq, Option.some.injEq] at h
    rcases h with ⟨_, rfl⟩ | h
    · simp only [csN]; omega
    · have := mem_N h
      simp only [csN]; omega
theorem csD_dep {cs : Cs} (h : csN cs ≤ 100) : (D.lst (csD cs)).py.depth ≤ 64 := Nat.le_trans (dep_lst (k := 60) (by
  intro d hd
  simp only [csD, List.mem_reverse, List.mem_map] at hd
  obtain ⟨c, hc, rfl⟩ := hd
  match c, hc with
  | (u, none), hc => exact Nat.le_trans (dep_tup (k := 0) (by intro e he; simp at he; rcases he with rfl | rfl <;> simp [D.py, PyData.depth])) (by omega)
  | (u, some P), hc =>
    have n := mem_N hc
    have d := dep_nodes P
    exact Nat.le_trans (dep_tup (k := 58) (by
      intro e he
      simp at he
      rcases he with rfl | rfl
      · simp [D.py, PyData.depth]
      · omega)) (by omega))) (by omega)
theorem csD_lay (cs : Cs) : (D.lst (csD cs)).lay := lay_lst (by
  intro d hd
  simp only [csD, List.mem_reverse, List.mem_map] at hd
  obtain ⟨c, hc, rfl⟩ := hd
  exact cD_lay c)
theorem csD_nil (cs : Cs) : (csD cs).isEmpty = cs.isEmpty := by cases cs <;> simp [csD]
theorem cs_eq {cs : Cs} (h : csN cs ≤ 100) : eqD [.lst (csD cs)] (.loc 0) (.lst []) = some cs.isEmpty := by
  rw [eqD_list (xs := csD cs) (ys := []) rfl rfl rfl (csD_pure cs) rfl (csD_lay cs) (lay_lst (by simp)) (csD_dep h) (by decide), eqv_nil, csD_nil]
def topB : Cs → Bool
  | (_, some _) :: _ => true
  | _ => false
theorem atI_last {α : Type} (xs : List α) (x : α) : L2.atI (xs ++ [x]) (-1) = some x := by
  unfold L2.atI L2.ixN
  have : -(((xs ++ [x]).length : Nat) : Int) ≤ -1 := by simp; omega
  have e : (-1 + ((xs ++ [x]).length : Int)).toNat = xs.length := by simp; omega
  rw [if_neg (by omega), if_pos this, e]
  simp
theorem nil_ev {Γ : Gm} {ρ : Ro} {μ : Store} : ev Γ (.lst false .nil) ρ μ = .ok (.lst []) μ := by simp [ev, sizeLine_eq]
theorem cases_ne {Γ : Gm} {ρ : Ro} {cs : Cs} (h2 : ρ[2]? = some (some (.loc 0))) (h : csN cs ≤ 100) : ev Γ (.cmp .ne (.var 2) (.lst false .nil)) ρ [.lst (csD cs)] = .ok (.bl (!cs.isEmpty)) [.lst (csD cs)] := by
  rw [ev, var_ev h2]
  simp only [bind_ok, nil_ev, cop, cs_eq h, Option.map_some, okB]
theorem cases_eq {Γ : Gm} {ρ : Ro} {cs : Cs} (h2 : ρ[2]? = some (some (.loc 0))) (h : csN cs ≤ 100) : ev Γ (.cmp .eq (.var 2) (.lst false .nil)) ρ [.lst (csD cs)] = .ok (.bl cs.isEmpty) [.lst (csD cs)] := by
  rw [ev, var_ev h2]
  simp only [bind_ok, nil_ev, cop, cs_eq h, okB]
theorem test_in {Γ : Gm} {ρ : Ro} {cs : Cs} (h2 : ρ[2]? = some (some (.loc 0))) (h : csN cs ≤ 100) : ev Γ w_23_1 ρ [.lst (csD cs)] = .ok (.bl (topB cs)) [.lst (csD cs)] := by
  unfold w_23_1
  rw [ev, cases_ne h2 h]
  match cs, h with
  | [], h => rfl
  | c :: cs, h =>
    have e1 : ev Γ (.ix (.var 2) (.neg (.int 1))) ρ [.lst (csD (c :: cs))] = .ok (cD c) [.lst (csD (c :: cs))] := by
      rw [ev, var_ev h2, csD_cons]
      simp [ev, ixD, seqD, atI_last]
    have e2 : ev Γ (.ix (.ix (.var 2) (.neg (.int 1))) (.int 1)) ρ [.lst (csD (c :: cs))] = .ok (match c.2 with
        | none => .non
        | some P => P.D) [.lst (csD (c :: cs))] := by
      rw [ev, e1]
      match c with
      | (u, none) => simp [ev, cD, ixD, seqD, L2.atI, L2.ixN]
      | (u, some P) => simp [ev, cD, ixD, seqD, L2.atI, L2.ixN]
    have p : (match c.2 with
        | none => D.non
        | some P => P.D).pure = true := by
      match c with
      | (u, none) => rfl
      | (u, some P) => exact P.pure
    have e3 := isnnon_ev e2 p
    simp only [bind_ok, List.isEmpty_cons, Bool.not_false, truD]
    rw [ev, e3]
    match c with
    | (u, none) => rfl
    | (u, some (.leaf _ _)) => rfl
    | (u, some (.unit _ _ _)) => rfl
theorem pop_ev {Γ : Gm} {ρ : Ro} {c : Int × Option Pap} {cs : Cs} (h2 : ρ[2]? = some (some (.loc 0))) : ev Γ (.mth0 .pop (.var 2)) ρ [.lst (csD (c :: cs))] = .ok (cD c) [.lst (csD cs)] := by
  rw [ev, var_ev h2, csD_cons]
  simp [mth0D]
theorem in_turn {n : Nat} {o0 o1 o3 o4 o6 o7 : Option D} {u : Int} {p P : Pap} {cs : Cs} : evS (G n) b_23_0 [o0, o1, some (.loc 0), o3, o4, some P.D, o6, o7] [.lst (csD ((u, some p) :: cs))] = .nx [o0, o1, some (.loc 0), o3, o4, some (Pap.unit u p P).D, some (.int u), some p.D] [.lst (csD cs)] := by
  unfold b_23_0
  rw [evS, evS, pop_ev rfl]
  simp only [sbind_ok, cD, tgt, seqD, tgts, List.set_cons_succ, List.set_cons_zero, seq_nx]
  simp [evS, ev, sizeLine_eq, tgt, Pap.D]
theorem in_loop {n : Nat} {o0 o1 o3 o4 : Option D} : ∀ (N : Nat) (cs : Cs) (P : Pap) (o6 o7 : Option D), cs.length < N → csN cs ≤ 100 →
    ∃ o6' o7', whileL (ev (G n) w_23_1) (evS (G n) b_23_0) N [o0, o1, some (.loc 0), o3, o4, some P.D, o6, o7] [.lst (csD cs)] = .nx [o0, o1, some (.loc 0), o3, o4, some (popAll cs P).2.D, o6', o7'] [.lst (csD (popAll cs P).1)]
  | 0, _, _, _, _, h, _ => by omega
  | N + 1, cs, P, o6, o7, hN, h => by
    have ht := test_in (Γ := G n) (ρ := [o0, o1, some (.loc 0), o3, o4, some P.D, o6, o7]) (cs := cs) rfl h
    rw [whileL, ht]
    match cs, hN, h with
    | [], _, _ => exact ⟨o6, o7, rfl⟩
    | (u, none) :: cs, _, _ => exact ⟨o6, o7, rfl⟩
    | (u, some p) :: cs, hN, h =>
      simp only [sbind_ok, topB, truD, in_turn]
      simp only [csN] at h
      simp only [List.length_cons] at hN
      obtain ⟨a, b, hl⟩ := in_loop N cs (.unit u p P) (some (.int u)) (some p.D) (by omega) (by omega)
      exact ⟨a, b, by rw [hl]; rfl⟩
end K82
set_option Elab.async false
set_option linter.all false
set_option maxRecDepth 100000
set_option maxHeartbeats 4000000
/-! K82y: parse. -/
namespace K82
open PySem L2 KA TL
abbrev rowsF (F : List (List Str)) (z : Str) : D := .lst (F.map rowStr ++ [.str z])
theorem aug_ev {Γ : Gm} {i : Nat} {a b : Int} {ρ : Ro} {μ : Store} (h : ρ[i]? = some (some (.int a))) : evS Γ (.aug i .add (.int b)) ρ μ = .nx (ρ.set i (some (.int (a + b)))) μ := by
  rw [evS, h]
  simp only [ev, sbind_ok, augI]
theorem set_x {Γ : Gm} {e : E} {t : T} {ρ : Ro} {x : Exn} {μ μ1 : Store} (h : ev Γ e ρ μ = .exc x μ1) : evS Γ (.set t e) ρ μ = .exc x ρ μ1 := by rw [evS, h]; rfl
theorem exp_ev {Γ : Gm} {e : E} {ρ : Ro} {d : D} {μ μ1 : Store} (h : ev Γ e ρ μ = .ok d μ1) : evS Γ (.exp e) ρ μ = .nx ρ μ1 := by rw [evS, h]; rfl
theorem seq_ct {Γ : Gm} {a b : S} {ρ ρ1 : Ro} {μ μ1 : Store} (h : evS Γ a ρ μ = .ct ρ1 μ1) : evS Γ (.seq a b) ρ μ = .ct ρ1 μ1 := by rw [evS, h]; rfl
section
variable {n : Nat} {F : List (List Str)} {z : Str} {at_ : Nat} {ρ : Ro} {μ : Store} (h1 : ρ[1]? = some (some (rowsF F z))) (h3 : ρ[3]? = some (some (.int (at_ : Nat))))
include h1 h3
theorem rest_ev {Γ : Gm} : ev Γ (.bin .sub (.bi .len (.var 1)) (.int 1)) ρ μ = .ok (.int (F.length : Nat)) μ := by
  have e : ev Γ (.bi .len (.var 1)) ρ μ = .ok (.int ((F.length + 1 : Nat) : Int)) μ := by
    rw [ev, var_ev h1]
    simp [biD, seqD]
  rw [ev, e]
  have : (((F.length + 1 : Nat) : Int) - 1) = (F.length : Nat) := by omega
  simp only [bind_ok, ev, bop, bopI, this]
theorem end_ev {Γ : Gm} : ev Γ (.cmp .ge (.var 3) (.bin .sub (.bi .len (.var 1)) (.int 1))) ρ μ = .ok (.bl (decide (F.length ≤ at_))) μ := by
  rw [ev, var_ev h3]
  have e2 : decide (((F.length : Nat) : Int) ≤ ((at_ : Nat) : Int)) = decide (F.length ≤ at_) := by
    by_cases c : F.length ≤ at_
    · have : ((F.length : Nat) : Int) ≤ ((at_ : Nat) : Int) := by omega
      simp only [c, this, decide_true]
    · have : ¬ ((F.length : Nat) : Int) ≤ ((at_ : Nat) : Int) := by omega
      simp only [c, this, decide_false]
  simp only [bind_ok, rest_ev h1 h3, cop, e2]
theorem next_ev {Γ : Gm} : ev Γ (.bin .add (.var 3) (.int 1)) ρ μ = .ok (.int ((at_ + 1 : Nat) : Int)) μ := by
  rw [ev, var_ev h3]; simp [ev, bop, bopI]
theorem raise_ev {m : Nat} : evS (G m) (.rais "BadText" (.cons (.bin .add (.var 3) (.int 1)) .nil)) ρ μ = .exc (bt (at_ + 1)) ρ μ := by
  have hv : ev (G m) (.cons (.bin .add (.var 3) (.int 1)) .nil) ρ μ = .ok (.tup [.int ((at_ + 1 : Nat) : Int)]) μ := by
    rw [ev, next_ev h1 h3]
    simp [ev]
  rw [evS, hv]
  simp only [sbind_ok, raisD, exf_text, List.length_cons, List.length_nil, if_true, List.zip_cons_cons, List.zip_nil_right, bt]
theorem row_ev {Γ : Gm} {ws : List Str} (e : F[at_]? = some ws) : ev Γ (.call "row_of" (.cons (.ix (.var 1) (.var 3)) (.cons (.var 3) .nil))) ρ μ = callF (Γ.fn "row_of") [rowStr ws, .int (at_ : Nat)] μ := by
  refine call2_ev ?_ (var_ev h3)
  have hl : at_ < F.length := by
    rcases Nat.lt_or_ge at_ F.length with a | a
    · exact a
    · rw [List.getElem?_eq_none a] at e; cases e
  have hx : (F.map rowStr ++ [D.str z])[at_]? = some (rowStr ws) := by
    rw [List.getElem?_append_left (by simpa using hl), List.getElem?_map, e]; rfl
  rw [ev, var_ev h1]
  simp only [bind_ok, var_ev h3, ixD, seqD, atI_nat, hx]
end
/-- what a turn does -/
def turnO (w rows : D) (o6 o7 : Option D) (at_ : Nat) (cs : Cs) : Option Tok → SOut → Prop
  | none, o => ∃ ρ μ, o = .exc (bt (at_ + 1)) ρ μ
  | some .bad, o => ∃ ρ μ, o = .exc (bt (at_ + 1)) ρ μ
  | some (.unit u), o => o = .ct [some w, some rows, some (.loc 0), some (.int ((at_ + 1 : Nat) : Int)), some .non, some (.int u), o6, o7] [.lst (csD ((u, none) :: cs))]
  | some (.leaf p), o => match popAll cs (.leaf p.1 p.2) with
    | ([], P) => ∃ a b, o = .nx [some w, some rows, some (.loc 0), some (.int ((at_ + 1 : Nat) : Int)), some P.D, some P.D, a, b] [.lst []]
    | ((u, _) :: r, P) => ∃ a b, o = .nx [some w, some rows, some (.loc 0), some (.int ((at_ + 1 : Nat) : Int)), some .non, some P.D, a, b] [.lst (csD ((u, some P) :: r))]
theorem leaf_pap (p : Lf) : leafD p = (Pap.leaf p.1 p.2).D := rfl
theorem isi_tup {Γ : Gm} {i : Nat} {ρ : Ro} {μ : Store} {P : Pap} (h : ρ[i]? = some (some P.D)) : ev Γ (.not (.isi (.var i) .tuple)) ρ μ = .ok (.bl false) μ := by
  rw [ev, ev, var_ev h]
  cases P <;> rfl
theorem isi_int {Γ : Gm} {i : Nat} {ρ : Ro} {μ : Store} {u : Int} (h : ρ[i]? = some (some (.int u))) : ev Γ (.not (.isi (.var i) .tuple)) ρ μ = .ok (.bl true) μ := by
  rw [ev, ev, var_ev h]
  rfl
theorem append_ev {Γ : Gm} {e : E} {d : D} {xs ys : List D} {ρ : Ro} (h2 : ρ[2]? = some (some (.loc 0))) (h : ev Γ e ρ [.lst xs] = .ok d [.lst ys]) (hl : ys.length ≤ 1000) : ev Γ (.mth1 .append (.var 2) e) ρ [.lst xs] = .ok .non [.lst (ys ++ [d])] := by
  have hz : ys.length < sizeLine := by rw [sizeLine_eq]; omega
  rw [ev, var_ev h2]
  simp only [bind_ok, rcvD, lstD, List.getElem?_cons_zero, Option.isSome_some, if_true, h, mth1D, hz]
  rfl
theorem turn_ev {n : Nat} {F : List (List Str)} {z : Str} {w : D} {at_ : Nat} {cs : Cs} {o5 o6 o7 : Option D} (hn : 6 ≤ n) (hF : ∀ ws ∈ F, RowOk ws) (hc : csN cs ≤ 80) :
    turnO w (rowsF F z) o6 o7 at_ cs ((F.map rowT)[at_]?) (evS (G n) b_23_3 [some w, some (rowsF F z), some (.loc 0), some (.int (at_ : Nat)), some .non, o5, o6, o7] [.lst (csD cs)]) := by
  have e0 := end_ev (Γ := G n) (F := F) (z := z) (at_ := at_) (ρ := [some w, some (rowsF F z), some (.loc 0), some (.int (at_ : Nat)), some .non, o5, o6, o7]) (μ := [.lst (csD cs)]) rfl rfl
  have er := raise_ev (m := n) (F := F) (z := z) (at_ := at_) (ρ := [some w, some (rowsF F z), some (.loc 0), some (.int (at_ : Nat)), some .non, o5, o6, o7]) (μ := [.lst (csD cs)]) rfl rfl
  unfold b_23_3
  rw [List.getElem?_map]
  cases e : F[at_]? with
  | none =>
    have hl : F.length ≤ at_ := List.getElem?_eq_none_iff.mp e
    rw [decide_eq_true hl] at e0
    rw [seq_x ((ite_t e0).trans (seq_x er))]
    exact ⟨_, _, rfl⟩
  | some ws =>
    have hl : ¬ F.length ≤ at_ := by
      intro c
      rw [List.getElem?_eq_none c] at e
      cases e
    rw [decide_eq_false hl] at e0
    rw [seq_ev ((ite_f e0).trans skip_ev)]
    have ok := hF ws (List.mem_of_getElem? e)
    have rv := row_ev (Γ := G n) (F := F) (z := z) (at_ := at_) (ρ := [some w, some (rowsF F z), some (.loc 0), some (.int (at_ : Nat)), some .non, o5, o6, o7]) (μ := [.lst (csD cs)]) rfl rfl e
    simp only [Option.map_some]
    cases t : rowT ws with
    | bad =>
      have q := (rowof_rai ok at_ t).call (μ := [.lst (csD cs)]) hn
      rw [seq_x (set_x (rv.trans q))]
      exact ⟨_, _, rfl⟩
    | unit u =>
      have q := (rowof_ret ok at_ (by rw [t]; exact fun c => Tok.noConfusion c)).call (μ := [.lst (csD cs)]) hn
      rw [t] at q
      rw [seq_ev (set_ev (rv.trans q))]
      simp only [List.set_cons_succ, List.set_cons_zero, tokD]
      have ap := append_ev (Γ := G n) (e := .tup (.cons (.var 5) (.cons .non .nil))) (d := .tup [.int u, .non]) (xs := csD cs) (ys := csD cs) (ρ := [some w, some (rowsF F z), some (.loc 0), some (.int ((at_ : Nat) + 1)), some .non, some (.int u), o6, o7]) rfl (tup2_ev (var_ev rfl) rfl) (by have := csN_len cs; rw [csD_len]; omega)
      rw [seq_ev (aug_ev (a := (at_ : Nat)) (b := 1) rfl)]
      simp only [List.set_cons_succ, List.set_cons_zero]
      rw [seq_ct ((ite_t (isi_int rfl)).trans ((seq_ev (exp_ev ap)).trans (seq_ct (by rw [evS]))))]
      simp only [turnO, csD_cons, cD]
      rfl
    | leaf p =>
      have q := (rowof_ret ok at_ (by rw [t]; exact fun c => Tok.noConfusion c)).call (μ := [.lst (csD cs)]) hn
      rw [t] at q
      rw [seq_ev (set_ev (rv.trans q))]
      simp only [List.set_cons_succ, List.set_cons_zero, tokD, leaf_pap]
      rw [seq_ev (aug_ev (a := (at_ : Nat)) (b := 1) rfl)]
      simp only [List.set_cons_succ, List.set_cons_zero]
      have hi := isi_tup (Γ := G n) (i := 5) (ρ := [some w, some (rowsF F z), some (.loc 0), some (.int ((at_ : Nat) + 1)), some .non, some (Pap.leaf p.1 p.2).D, o6, o7]) (μ := [.lst (csD cs)]) (P := .leaf p.1 p.2) rfl
      rw [seq_ev ((ite_f hi).trans skip_ev)]
      have cl := csN_len cs
      obtain ⟨a, b, hlp⟩ := in_loop (n := n) (o0 := some w) (o1 := some (rowsF F z)) (o3 := some (.int ((at_ : Nat) + 1))) (o4 := some .non) 1000 cs (.leaf p.1 p.2) o6 o7 (by omega) (by omega)
      have hlp' : evS (G n) l_23_2 [some w, some (rowsF F z), some (.loc 0), some (.int ((at_ : Nat) + 1)), some .non, some (Pap.leaf p.1 p.2).D, o6, o7] [.lst (csD cs)] = .nx [some w, some (rowsF F z), some (.loc 0), some (.int ((at_ : Nat) + 1)), some .non, some (popAll cs (.leaf p.1 p.2)).2.D, a, b] [.lst (csD (popAll cs (.leaf p.1 p.2)).1)] := by
        unfold l_23_2
        rw [evS]
        exact hlp
      rw [seq_ev hlp']
      have hN := popAll_N cs (.leaf p.1 p.2)
      have hh := popAll_hd cs (.leaf p.1 p.2)
      simp only [turnO]
      match hp : popAll cs (.leaf p.1 p.2) with
      | ([], P) =>
        have ce := cases_eq (Γ := G n) (ρ := [some w, some (rowsF F z), some (.loc 0), some (.int ((at_ : Nat) + 1)), some .non, some P.D, a, b]) (cs := []) rfl (by simp [csN])
        refine ⟨a, b, ?_⟩
        rw [seq_ev ((ite_t ce).trans ((seq_ev (set_ev (var_ev rfl))).trans skip_ev)), skip_ev]
        rfl
      | ((u, o) :: r, P) =>
        rw [hp] at hN hh
        have ho : o = none := by
          rcases hh with c | ⟨u', r', c⟩
          · cases c
          · simp only [List.cons.injEq, Prod.mk.injEq] at c
            exact c.1.2
        subst ho
        simp only [csN, nodes] at hN
        have np := nodes_pos P
        have ce := cases_eq (Γ := G n) (ρ := [some w, some (rowsF F z), some (.loc 0), some (.int ((at_ : Nat) + 1)), some .non, some P.D, a, b]) (cs := (u, none) :: r) rfl (by simp only [csN]; omega)
        have cr := csN_len r
        have i0 : ev (G n) (.ix (.mth0 .pop (.var 2)) (.int 0)) [some w, some (rowsF F z), some (.loc 0), some (.int ((at_ : Nat) + 1)), some .non, some P.D, a, b] [.lst (csD ((u, none) :: r))] = .ok (.int u) [.lst (csD r)] := by
          rw [ev, pop_ev rfl]
          simp [ev, cD, ixD, seqD, L2.atI, L2.ixN]
        have tv : ev (G n) (.tup (.cons (.ix (.mth0 .pop (.var 2)) (.int 0)) (.cons (.var 5) .nil))) [some w, some (rowsF F z), some (.loc 0), some (.int ((at_ : Nat) + 1)), some .non, some P.D, a, b] [.lst (csD ((u, none) :: r))] = .ok (.tup [.int u, P.D]) [.lst (csD r)] := by
          rw [ev, ev, i0]
          simp [ev, sizeLine_eq]
        have ap := append_ev (Γ := G n) (ρ := [some w, some (rowsF F z), some (.loc 0), some (.int ((at_ : Nat) + 1)), some .non, some P.D, a, b]) rfl tv (by rw [csD_len]; omega)
        refine ⟨a, b, ?_⟩
        rw [seq_ev ((ite_f ce).trans ((seq_ev (exp_ev ap)).trans skip_ev)), skip_ev, csD_cons]
        rfl
/-- how the loop ends -/
def endO (w rows : D) : Except Nat (Pap × Nat) → SOut → Prop
  | .error j, o => ∃ ρ μ, o = .exc (bt j) ρ μ
  | .ok (P, j), o => ∃ a b c, o = .nx [some w, some rows, some (.loc 0), some (.int ((j : Nat) : Int)), some P.D, a, b, c] [.lst []]
theorem test_out {Γ : Gm} {ρ : Ro} {μ : Store} {d : D} (h : ρ[4]? = some (some d)) (hd : d.pure = true) : ev Γ w_23_4 ρ μ = .ok (.bl (isN d)) μ := isnon_ev (var_ev h) hd
theorem main_loop {n : Nat} {F : List (List Str)} {z : Str} {w : D} (hn : 6 ≤ n) (hF : ∀ ws ∈ F, RowOk ws) (hl : F.length ≤ 70) : ∀ (k N at_ : Nat) (cs : Cs) (o5 o6 o7 : Option D), F.length - at_ < k → k < N → csN cs ≤ at_ → at_ ≤ F.length →
    endO w (rowsF F z) (mach ((F.map rowT).drop at_) at_ cs) (whileL (ev (G n) w_23_4) (evS (G n) b_23_3) N [some w, some (rowsF F z), some (.loc 0), some (.int (at_ : Nat)), some .non, o5, o6, o7] [.lst (csD cs)])
  | 0, _, _, _, _, _, _, h, _, _, _ => by omega
  | _, 0, _, _, _, _, _, _, h, _, _ => by omega
  | k + 1, N + 1, at_, cs, o5, o6, o7, hk, hN, hc, ha => by
    have tt := test_out (Γ := G n) (ρ := [some w, some (rowsF F z), some (.loc 0), some (.int (at_ : Nat)), some .non, o5, o6, o7]) (μ := [.lst (csD cs)]) (d := .non) rfl rfl
    have tn := turn_ev (z := z) (w := w) (at_ := at_) (cs := cs) (o5 := o5) (o6 := o6) (o7 := o7) hn hF (by omega)
    rw [whileL, tt]
    simp only [sbind_ok, isN, truD]
    match e : (F.map rowT)[at_]? with
    | none =>
      rw [e] at tn
      obtain ⟨ρ', μ', h⟩ := tn
      rw [h, List.drop_eq_nil_of_le (List.getElem?_eq_none_iff.mp e)]
      exact ⟨_, _, rfl⟩
    | some .bad =>
      rw [e] at tn
      obtain ⟨ρ', μ', h⟩ := tn
      rw [h, drop_cons e]
      exact ⟨_, _, rfl⟩
    | some (.unit u) =>
      rw [e] at tn
      simp only [turnO] at tn
      have hlt : at_ < F.length := by
        rcases Nat.lt_or_ge at_ F.length with q | q
        · exact q
        · rw [List.getElem?_eq_none (by simpa using q)] at e; cases e
      rw [tn, drop_cons e]
      exact main_loop hn hF hl k N (at_ + 1) ((u, none) :: cs) _ o6 o7 (by omega) (by omega) (by simp only [csN]; omega) (by omega)
    | some (.leaf p) =>
      rw [e] at tn
      have hlt : at_ < F.length := by
        rcases Nat.lt_or_ge at_ F.length with q | q
        · exact q
        · rw [List.getElem?_eq_none (by simpa using q)] at e; cases e
      have hNn := popAll_N cs (.leaf p.1 p.2)
      rw [drop_cons e]
      simp only [turnO] at tn
      simp only [mach]
      match hp : popAll cs (.leaf p.1 p.2) with
      | ([], P) =>
        rw [hp] at tn
        obtain ⟨a, b, h⟩ := tn
        rw [h]
        match N, hN with
        | N + 1, _ =>
          have t2 := test_out (Γ := G n) (ρ := [some w, some (rowsF F z), some (.loc 0), some (.int ((at_ + 1 : Nat) : Int)), some P.D, some P.D, a, b]) (μ := [.lst []]) (d := P.D) rfl P.pure
          rw [pap_nn] at t2
          simp only
          rw [whileL, t2]
          exact ⟨_, _, _, rfl⟩
      | ((u, o) :: r, P) =>
        rw [hp] at tn hNn
        obtain ⟨a, b, h⟩ := tn
        rw [h]
        have hr : csN ((u, some P) :: r) ≤ at_ + 1 := by
          have ho : csN r + 1 ≤ csN ((u, o) :: r) := by cases o <;> simp only [csN] <;> omega
          simp only [csN, nodes] at hNn ⊢
          omega
        exact main_loop hn hF hl k N (at_ + 1) ((u, some P) :: r) _ a b (by omega) (by omega) hr (by omega)
end K82
set_option Elab.async false
set_option linter.all false
set_option maxRecDepth 100000
set_option maxHeartbeats 4000000
/-! K82z: parse's call, _law_told. -/
namespace K82
open PySem L2 KA TL
def prs (F : List (List Str)) (z : Str) : Except Nat Pap := match pa (F.map rowT) ((F.map rowT).length + 1) 0 with
  | (none, j) => .error (j + 1)
  | (some P, j) => if j = F.length ∧ z = "" then .ok P else .error (j + 1)
def prsS (ρ : Ro) (μ : Store) : Except Nat Pap → SOut
  | .ok P => .rt P.D μ
  | .error j => .exc (bt j) ρ μ
theorem set_split {Γ : Gm} {ρ : Ro} {μ : Store} {w : Str} {l : List Str} (h0 : ρ[0]? = some (some (.str w))) (hw : w.length ≤ 100000) (hs : Txt.split w "\n" = l) : ev Γ (.mth1 .split (.var 0) (.str "\n")) ρ μ = .ok (.lst (l.map .str)) μ := by
  have hc : ("\n" : Str).length ≠ 0 ∧ w.length + 2 ≤ sizeLine := ⟨by decide, by rw [sizeLine_eq]; omega⟩
  rw [ev, var_ev h0]
  simp only [bind_ok, rcvD, if_true, ev, mth1D, hs]
  rw [if_pos hc]
theorem rows_map (F : List (List Str)) (z : Str) : (F.map jw ++ [z]).map D.str = F.map rowStr ++ [.str z] := by simp [rowStr, Function.comp_def]
theorem parse_run {n : Nat} {F : List (List Str)} {z w : Str} (hn : 6 ≤ n) (hF : ∀ ws ∈ F, RowOk ws) (hl : F.length ≤ 70) (hw : w.length ≤ 100000) (hs : Txt.split w "\n" = F.map jw ++ [z]) :
    ∃ ρ μ, evS (G n) c_parse_23 [some (.str w), none, none, none, none, none, none, none] [] = prsS ρ μ (prs F z) := by
  unfold c_parse_23
  have s0 := set_split (Γ := G n) (ρ := [some (.str w), none, none, none, none, none, none, none]) (μ := []) (w := w) rfl hw hs
  rw [rows_map] at s0
  have s2 : ev (G n) (.lst true .nil) ([some (.str w), none, none, none, none, none, none, none].set 1 (some (rowsF F z))) [] = .ok (.loc 0) [.lst []] := by
    simp [ev, sizeLine_eq]
  have ml := main_loop (z := z) (w := .str w) hn hF hl (F.length + 1) 1000 0 [] none none none (by omega) (by omega) (by simp [csN]) (by omega)
  rw [List.drop_zero, mach_pa0] at ml
  rw [seq_ev (set_ev s0), seq_ev (set_ev s2), seq_ev (set_ev (d := .int 0) rfl), seq_ev (set_ev (d := .non) rfl)]
  have hlp : evS (G n) l_23_5 [some (.str w), some (rowsF F z), some (.loc 0), some (.int 0), some .non, none, none, none] [.lst []] = whileL (ev (G n) w_23_4) (evS (G n) b_23_3) 1000 [some (.str w), some (rowsF F z), some (.loc 0), some (.int 0), some .non, none, none, none] [.lst []] := by
    unfold l_23_5
    rw [evS]
  simp only [List.set_cons_succ, List.set_cons_zero]
  unfold prs
  match hp : pa (F.map rowT) ((F.map rowT).length + 1) 0 with
  | (none, j) =>
    rw [hp] at ml
    obtain ⟨ρ, μ, h⟩ := ml
    refine ⟨ρ, μ, ?_⟩
    rw [seq_x (hlp.trans h)]
    rfl
  | (some P, j) =>
    rw [hp] at ml
    obtain ⟨a, b, c, h⟩ := ml
    rw [seq_ev (hlp.trans h)]
    have r0 := rest_ev (Γ := G n) (F := F) (z := z) (at_ := j) (ρ := [some (.str w), some (rowsF F z), some (.loc 0), some (.int (j : Nat)), some P.D, a, b, c]) (μ := [.lst []]) rfl rfl
    have er := raise_ev (m := n) (F := F) (z := z) (at_ := j) (ρ := [some (.str w), some (rowsF F z), some (.loc 0), some (.int (j : Nat)), some P.D, a, b, c]) (μ := [.lst []]) rfl rfl
    have c1 : ev (G n) (.cmp .ne (.var 3) (.bin .sub (.bi .len (.var 1)) (.int 1))) [some (.str w), some (rowsF F z), some (.loc 0), some (.int (j : Nat)), some P.D, a, b, c] [.lst []] = .ok (.bl (!decide (j = F.length))) [.lst []] := by
      have e : decide (((j : Nat) : Int) = ((F.length : Nat) : Int)) = decide (j = F.length) := by
        by_cases c : j = F.length
        · simp [c]
        · have : ¬ ((j : Nat) : Int) = ((F.length : Nat) : Int) := by omega
          simp only [c, this, decide_false]
      rw [ev, var_ev rfl]
      simp only [bind_ok, r0, cop, eqD, dscal, if_true, deq, e, Option.map_some, okB]
    have c2 : ev (G n) (.cmp .ne (.ix (.var 1) (.neg (.int 1))) (.str "")) [some (.str w), some (rowsF F z), some (.loc 0), some (.int (j : Nat)), some P.D, a, b, c] [.lst []] = .ok (.bl (!decide (z = ""))) [.lst []] := by
      have e1 : ev (G n) (.ix (.var 1) (.neg (.int 1))) [some (.str w), some (rowsF F z), some (.loc 0), some (.int (j : Nat)), some P.D, a, b, c] [.lst []] = .ok (.str z) [.lst []] := by
        rw [ev, var_ev rfl]
        simp [ev, ixD, seqD, atI_last]
      rw [ev, e1]
      simp only [bind_ok, ev, cop, eqD, dscal, if_true, deq, Option.map_some, okB]
    refine ⟨[some (.str w), some (rowsF F z), some (.loc 0), some (.int (j : Nat)), some P.D, a, b, c], [.lst []], ?_⟩
    · by_cases h1 : j = F.length
      · rw [decide_eq_true h1] at c1
        by_cases h2 : z = ""
        · rw [decide_eq_true h2] at c2
          rw [seq_ev ((ite_f ((or_f c1).trans (one_ev.trans c2))).trans skip_ev), seq_r (ret_ev (var_ev rfl))]
          simp only [h1, h2, and_self, if_true]
          rfl
        · rw [decide_eq_false h2] at c2
          rw [seq_x ((ite_t ((or_f c1).trans (one_ev.trans c2))).trans (seq_x er))]
          simp only [h1, h2, and_false, if_false]
          rfl
      · rw [decide_eq_false h1] at c1
        rw [seq_x ((ite_t (or_t c1)).trans (seq_x er))]
        simp only [h1, false_and, if_false]
        rfl
theorem tup2_x {Γ : Gm} {a b : E} {x : D} {y : Exn} {ρ : Ro} {μ : Store} (h1 : ev Γ a ρ μ = .ok x μ) (h2 : ev Γ b ρ μ = .exc y μ) : ev Γ (.tup (.cons a (.cons b .nil))) ρ μ = .exc y μ := by
  simp [ev, h1, h2]
section
variable {F : List (List Str)} {z w : Str} (hF : ∀ ws ∈ F, RowOk ws) (hl : F.length ≤ 70) (hw : w.length ≤ 100000) (hs : Txt.split w "\n" = F.map jw ++ [z])
include hF hl hw hs
theorem parse_ret {P : Pap} (h : prs F z = .ok P) : Ret 7 "parse_papertexts" [.str w] P.D := by
  obtain ⟨ρ, μ, r⟩ := parse_run (Nat.le_refl 6) hF hl hw hs
  refine ⟨rfl, P.pure, μ, ?_⟩
  rw [h] at r
  rw [fn_run t_parse_papertexts]
  exact congrArg outS r
theorem parse_rai {j : Nat} (h : prs F z = .error j) : Rai 7 "parse_papertexts" [.str w] (bt j) := by
  obtain ⟨ρ, μ, r⟩ := parse_run (Nat.le_refl 6) hF hl hw hs
  refine ⟨rfl, rfl, μ, ?_⟩
  rw [h] at r
  rw [fn_run t_parse_papertexts]
  exact congrArg outS r
def toldD : Except Nat Pap → D
  | .ok P => .tup [.str "paper", P.D]
  | .error j => .tup [.str "row", .int (j : Nat)]
theorem told_ret : Ret 8 "_law_told" [.str w] (toldD (prs F z)) := by
  refine ⟨rfl, ?_, [], ?_⟩
  · cases prs F z with
    | ok P => simp [toldD, D.pure, D.pures, Pap.pure]
    | error j => rfl
  rw [fn_run t__law_told]
  have v0 : ev (G 7) (.var 0) [some (.str w), none] [] = .ok (.str w) [] := rfl
  show outS (evS (G 7) c__law_told_42 [some (.str w), none] []) = _
  unfold c__law_told_42
  cases h : prs F z with
  | ok P =>
    have k := (call1_ev (Γ := G 7) (f := "parse_papertexts") v0).trans ((parse_ret hF hl hw hs h).call (μ := []) (Nat.le_refl 7))
    have b : evS (G 7) (.seq (.ret (.tup (.cons (.str "paper") (.cons (.call "parse_papertexts" (.cons (.var 0) .nil)) .nil)))) .skip) [some (.str w), none] [] = .rt (.tup [.str "paper", P.D]) [] := seq_r (ret_ev (tup2_ev rfl k))
    rw [seq_r (d := .tup [.str "paper", P.D]) (μ1 := []) (by rw [evS, b])]
    rfl
  | error j =>
    have k := (call1_ev (Γ := G 7) (f := "parse_papertexts") v0).trans ((parse_rai hF hl hw hs h).call (μ := []) (Nat.le_refl 7))
    have b : evS (G 7) (.seq (.ret (.tup (.cons (.str "paper") (.cons (.call "parse_papertexts" (.cons (.var 0) .nil)) .nil)))) .skip) [some (.str w), none] [] = .exc (bt j) [some (.str w), none] [] := by
      exact seq_x (ret_x (tup2_x rfl k))
    have sb : B.sub "BadText" "BadText" = some true := by kernel_rfl
    rw [seq_r (d := .tup [.str "row", .int (j : Nat)]) (μ1 := []) (by
      rw [evS, b]
      simp only [bt, sb]
      rw [if_pos ⟨trivial, by simp, by simp⟩]
      have hh : hiD [(("row" : Str), D.int (j : Nat))] [.s "row", .f "row"] = some [.str "row", .int (j : Nat)] := by
        have : List.lookup ("row" : Str) [(("row" : Str), D.int (j : Nat))] = some (.int (j : Nat)) := by
          rw [List.lookup]; simp
        simp only [hiD, this, Option.map_some]
      rw [hh])]
    rfl
end
end K82
set_option Elab.async false
set_option linter.all false
set_option maxRecDepth 100000
set_option maxHeartbeats 4000000
/-! K82aa: _law_changed. -/
namespace K82
open PySem L2 KA TL
/-- rows of at most so many words -/
def Inv (k : Nat) (R : List (List Str)) : Prop := R.length ≤ 63 + k ∧ ∀ ws ∈ R, ws ≠ [] ∧ (∀ w ∈ ws, wdB w = true) ∧ ws.length ≤ 10 + k
theorem Inv.rowOk {k : Nat} {R : List (List Str)} (h : Inv k R) (hk : k ≤ 2) : ∀ ws ∈ R, RowOk ws := fun ws hw => ⟨(h.2 ws hw).1, (h.2 ws hw).2.1, by have := (h.2 ws hw).2.2; omega⟩
def normW (ws : List Str) : List Str := if ws = [] then [("" : Str)] else ws
theorem jw_norm (ws : List Str) : jw (normW ws) = jw ws := by
  unfold normW
  split
  · rename_i h
    subst h
    rfl
  · rfl
theorem norm_ok {ws : List Str} {k : Nat} (h1 : ∀ w ∈ ws, wdB w = true) (h2 : ws.length ≤ 10 + k) : normW ws ≠ [] ∧ (∀ w ∈ normW ws, wdB w = true) ∧ (normW ws).length ≤ 10 + k := by
  unfold normW
  split
  · refine ⟨by simp, ?_, by simp; omega⟩
    intro w hw
    simp only [List.mem_singleton] at hw
    subst hw
    exact wd_fix (by decide +kernel)
  · rename_i h
    exact ⟨h, h1, h2⟩
theorem norm_row (ws : List Str) : rowStr (normW ws) = rowStr ws := by unfold rowStr; rw [jw_norm]
theorem mod_nat {r : Int} {n : Nat} (hr : 0 ≤ r) (hn : 0 < n) : ∃ a : Nat, a < n ∧ r.fmod (n : Int) = (a : Nat) := by
  have h1 := Int.fmod_nonneg_of_pos (a := r) (b := (n : Int)) (by omega)
  have h2 := Int.fmod_lt_of_pos r (b := (n : Int)) (by omega)
  exact ⟨(r.fmod (n : Int)).toNat, by omega, by omega⟩
theorem mod_ev {Γ : Gm} {a b : E} {r : Int} {n : Nat} {ρ : Ro} {μ : Store} (hn : 0 < n) (h1 : ev Γ a ρ μ = .ok (.int r) μ) (h2 : ev Γ b ρ μ = .ok (.int (n : Nat)) μ) : ev Γ (.bin .mod a b) ρ μ = .ok (.int (r.fmod (n : Int))) μ := by
  have : ((n : Nat) : Int) ≠ 0 := by omega
  rw [ev_bin h1 h2]
  simp only [bop, bopI]
  rw [if_pos this]
theorem div_ev {Γ : Gm} {a : E} {r : Int} {k : Nat} {ρ : Ro} {μ : Store} (hk : 0 < k ∧ k < 1000000) (h1 : ev Γ a ρ μ = .ok (.int r) μ) : ev Γ (.bin .fdiv a (.int (k : Nat))) ρ μ = .ok (.int (r.fdiv (k : Nat))) μ := by
  have : ((0 : Int) < (k : Nat) ∧ ((k : Nat) : Int).natAbs.log2 < 9000) ∨ (((k : Nat) : Int) ≠ 0 ∧ ((k : Nat) : Int).natAbs < 1073741824) := .inr ⟨by omega, by omega⟩
  rw [ev_bin h1 (y := .int (k : Nat)) (μ2 := μ) (by rw [ev])]
  simp only [bop, bopI]
  rw [if_pos this]
theorem len_ev {Γ : Gm} {a : E} {d : D} {xs : List D} {ρ : Ro} {μ : Store} (h : ev Γ a ρ μ = .ok d μ) (hs : seqD μ d = some xs) (hn : ∀ z, d ≠ .str z) : ev Γ (.bi .len a) ρ μ = .ok (.int (xs.length : Nat)) μ := by
  rw [ev, h]
  cases d <;> first | (exact absurd rfl (hn _)) | simp only [bind_ok, biD, hs]
theorem to_ev {Γ : Gm} {a b : E} {d : D} {xs : List D} {k : Nat} {ρ : Ro} {μ : Store} (h : ev Γ a ρ μ = .ok d μ) (hs : ∀ lo hi, slP d lo hi μ = .ok (.lst (cutD xs lo hi)) μ) (hb : ev Γ b ρ μ = .ok (.int (k : Nat)) μ) (hk : k ≤ xs.length) : ev Γ (.slt a b) ρ μ = .ok (.lst (xs.take k)) μ := by
  rw [ev, h]
  simp only [bind_ok, hb, isI_int, hs, cut_to hk]
theorem from_ev {Γ : Gm} {a b : E} {d : D} {xs : List D} {k : Nat} {ρ : Ro} {μ : Store} (h : ev Γ a ρ μ = .ok d μ) (hs : ∀ lo hi, slP d lo hi μ = .ok (.lst (cutD xs lo hi)) μ) (hb : ev Γ b ρ μ = .ok (.int (k : Nat)) μ) (hk : k ≤ xs.length) : ev Γ (.slf a b) ρ μ = .ok (.lst (xs.drop k)) μ := by
  rw [ev, h]
  simp only [bind_ok, hb, isI_int, hs, cut_from hk]
theorem succ_ev {Γ : Gm} {a : E} {k : Nat} {ρ : Ro} {μ : Store} (h : ev Γ a ρ μ = .ok (.int (k : Nat)) μ) : ev Γ (.bin .add a (.int 1)) ρ μ = .ok (.int ((k + 1 : Nat) : Int)) μ := by
  rw [ev, h]; simp [ev, bop, bopI]
theorem app_ev {Γ : Gm} {a b : E} {xs ys : List D} {ρ : Ro} {μ : Store} (h1 : ev Γ a ρ μ = .ok (.lst xs) μ) (h2 : ev Γ b ρ μ = .ok (.lst ys) μ) (hl : xs.length + ys.length ≤ 1000) : ev Γ (.bin .add a b) ρ μ = .ok (.lst (xs ++ ys)) μ := by
  rw [ev_bin h1 h2, bop_lst hl]
theorem eqi_ev {Γ : Gm} {i : Nat} {a b : Nat} {ρ : Ro} {μ : Store} (h : ρ[i]? = some (some (.int (a : Nat)))) : ev Γ (.cmp .eq (.var i) (.int (b : Nat))) ρ μ = .ok (.bl (decide (a = b))) μ := by
  have e : decide (((a : Nat) : Int) = ((b : Nat) : Int)) = decide (a = b) := by
    by_cases c : a = b
    · simp [c]
    · have : ¬ ((a : Nat) : Int) = ((b : Nat) : Int) := by omega
      simp only [c, this, decide_false]
  rw [ev, var_ev h]
  simp only [bind_ok, ev, cop, eqD, dscal, if_true, deq, e, okB]
def menu : List Str := ["", ":", "leaf", "unit", "0", "-0", "4/2", "1/2", "01", "x", "1234567890", "3/1"]
theorem menu_len : menu.length = 12 := rfl
theorem menu_wd : ∀ w ∈ menu, wdB w = true := by
  intro w hw
  have : menu.all (fun w => fixW.contains w) = true := by decide +kernel
  have := List.all_eq_true.mp this w hw
  exact wd_fix (List.contains_iff_mem.mp this)
theorem menu_ev {Γ : Gm} {ρ : Ro} {μ : Store} : ev Γ (.lst false (.cons (.str "") (.cons (.str ":") (.cons (.str "leaf") (.cons (.str "unit") (.cons (.str "0") (.cons (.str "-0") (.cons (.str "4/2") (.cons (.str "1/2") (.cons (.str "01") (.cons (.str "x") (.cons (.str "1234567890") (.cons (.str "3/1") .nil))))))))))))) ρ μ = .ok (.lst (menu.map .str)) μ := by
  simp [ev, sizeLine_eq, menu]
/-- the last line: the row at a place is another one -/
theorem put_ev {Γ : Gm} {R : List (List Str)} {ws : List Str} {a : Nat} {o1 o4 o5 : Option D} {d : D} {μ : Store} (ha : a < R.length) (hR : R.length ≤ 100) (h1 : ∀ w ∈ ws, wdB w = true) (h2 : ws.length ≤ 12) (hd : seqD μ d = some (ws.map .str)) :
    ev Γ (.bin .add (.bin .add (.slt (.var 0) (.var 2)) (.lst false (.cons (.mth1 .join (.str " ") (.var 3)) .nil))) (.slf (.var 0) (.bin .add (.var 2) (.int 1)))) [some (.lst (R.map rowStr)), o1, some (.int (a : Nat)), some d, o4, o5] μ
      = .ok (.lst ((R.take a ++ [normW ws] ++ R.drop (a + 1)).map rowStr)) μ := by
  have v0 : ev Γ (.var 0) [some (.lst (R.map rowStr)), o1, some (.int (a : Nat)), some d, o4, o5] μ = .ok (.lst (R.map rowStr)) μ := var_ev rfl
  have v2 : ev Γ (.var 2) [some (.lst (R.map rowStr)), o1, some (.int (a : Nat)), some d, o4, o5] μ = .ok (.int (a : Nat)) μ := var_ev rfl
  have t := to_ev v0 (fun _ _ => rfl) v2 (by simp; omega)
  have f := from_ev v0 (fun _ _ => rfl) (succ_ev v2) (by simp; omega)
  have jr := join_row h1 h2 μ
  have j : ev Γ (.mth1 .join (.str " ") (.var 3)) [some (.lst (R.map rowStr)), o1, some (.int (a : Nat)), some d, o4, o5] μ = .ok (rowStr ws) μ := by
    have v3 : ev Γ (.var 3) [some (.lst (R.map rowStr)), o1, some (.int (a : Nat)), some d, o4, o5] μ = .ok d μ := var_ev rfl
    rw [ev, ev]
    simp only [bind_ok, rcvD, if_true, v3]
    rw [← jr]
    simp only [mth1D]
    rw [hd]
    rfl
  have l1 := app_ev t (lst_of j) (by simp; omega)
  have l2 := app_ev l1 f (by simp; omega)
  rw [l2]
  simp [norm_row, List.map_take, List.map_drop]
theorem put_inv {k : Nat} {R : List (List Str)} {ws : List Str} {a : Nat} (h : Inv k R) (ha : a < R.length) (h1 : ∀ w ∈ ws, wdB w = true) (h2 : ws.length ≤ 10 + (k + 1)) : Inv (k + 1) (R.take a ++ [normW ws] ++ R.drop (a + 1)) := by
  obtain ⟨i1, i2⟩ := h
  refine ⟨by simp; omega, ?_⟩
  intro v hv
  simp only [List.mem_append, List.mem_singleton] at hv
  rcases hv with (hv | rfl) | hv
  · have := i2 v (List.mem_of_mem_take hv); exact ⟨this.1, this.2.1, by omega⟩
  · exact norm_ok h1 h2
  · have := i2 v (List.mem_of_mem_drop hv); exact ⟨this.1, this.2.1, by omega⟩
theorem changed_ret {k : Nat} {R : List (List Str)} {r : Int} (h : Inv k R) (hk : k ≤ 1) (hR : 0 < R.length) (hr : 0 ≤ r) : ∃ R', Inv (k + 1) R' ∧ Ret 1 "_law_changed" [.lst (R.map rowStr), .int r] (.lst (R'.map rowStr)) := by
  suffices H : ∃ R' μ, Inv (k + 1) R' ∧ evS (G 0) c__law_changed_41 [some (.lst (R.map rowStr)), some (.int r), none, none, none, none] [] = .rt (.lst (R'.map rowStr)) μ by
    obtain ⟨R', μ, h1, h2⟩ := H
    refine ⟨R', h1, by simp [D.pures, D.pure, rowsD_pure], by simp [D.pure, rowsD_pure], μ, ?_⟩
    rw [fn_run t__law_changed]
    exact congrArg outS h2
  obtain ⟨a, ha, ea⟩ := mod_nat hr hR
  obtain ⟨ws, hws⟩ : ∃ ws, R[a]? = some ws := ⟨_, List.getElem?_eq_getElem ha⟩
  have hmem := List.mem_of_getElem? hws
  have okr := h.rowOk (by omega) ws hmem
  obtain ⟨w1, w2, w3⟩ := h.2 ws hmem
  have hwp : 0 < ws.length := List.length_pos_iff.mpr w1
  obtain ⟨s, hs, es⟩ := mod_nat (r := r.fdiv 40) (fdiv_nn hr (by decide)) hwp
  obtain ⟨c, hc, ec⟩ := mod_nat (r := r.fdiv 400) (n := 6) (fdiv_nn hr (by decide)) (by decide)
  obtain ⟨m, hm, em⟩ := mod_nat (r := r.fdiv 2400) (n := 12) (fdiv_nn hr (by decide)) (by decide)
  have hRl := h.1
  unfold c__law_changed_41
  -- at
  have v0 : ev (G 0) (.var 0) [some (.lst (R.map rowStr)), some (.int r), none, none, none, none] [] = .ok (.lst (R.map rowStr)) [] := var_ev rfl
  have l0 := len_ev (xs := R.map rowStr) v0 rfl (by simp)
  rw [List.length_map] at l0
  have m0 := mod_ev (a := .var 1) (r := r) hR (var_ev rfl) l0
  rw [ea] at m0
  rw [seq_ev (set_ev m0)]
  simp only [List.set_cons_succ, List.set_cons_zero]
  -- words
  have ix : ev (G 0) (.ix (.var 0) (.var 2)) [some (.lst (R.map rowStr)), some (.int r), some (.int (a : Nat)), none, none, none] [] = .ok (rowStr ws) [] := by
    rw [ev, var_ev rfl]
    simp only [bind_ok, var_ev (Γ := G 0) (i := 2) (d := .int (a : Nat)) (ρ := [some (.lst (R.map rowStr)), some (.int r), some (.int (a : Nat)), none, none, none]) (μ := []) rfl, ixD, seqD, atI_nat, List.getElem?_map, hws, Option.map_some]
  have sp : ev (G 0) (.mth1 .splitM (.ix (.var 0) (.var 2)) (.str " ")) [some (.lst (R.map rowStr)), some (.int r), some (.int (a : Nat)), none, none, none] [] = .ok (.loc 0) [.lst (ws.map .str)] := by
    have hl := jw_len okr.2.1 okr.2.2
    have hcc : (" " : Str).length ≠ 0 ∧ (jw ws).length + 2 ≤ sizeLine := ⟨by decide, by rw [sizeLine_eq]; omega⟩
    rw [ev, ix]
    simp only [bind_ok, rowStr, rcvD, if_true, ev, mth1D, split_jw okr.1 okr.2.1]
    rw [if_pos hcc]
    rfl
  rw [seq_ev (set_ev sp)]
  simp only [List.set_cons_succ, List.set_cons_zero]
  -- spot
  have l3 := len_ev (Γ := G 0) (a := .var 3) (xs := ws.map .str) (d := .loc 0) (ρ := [some (.lst (R.map rowStr)), some (.int r), some (.int (a : Nat)), some (.loc 0), none, none]) (μ := [.lst (ws.map .str)]) (var_ev rfl) rfl (by simp)
  rw [List.length_map] at l3
  have m3 := mod_ev hwp (div_ev (k := 40) (by decide) (var_ev (i := 1) rfl)) l3
  rw [show ((40 : Nat) : Int) = 40 from rfl] at m3
  rw [es] at m3
  rw [seq_ev (set_ev m3)]
  simp only [List.set_cons_succ, List.set_cons_zero]
  -- choice
  have m4 := mod_ev (Γ := G 0) (ρ := [some (.lst (R.map rowStr)), some (.int r), some (.int (a : Nat)), some (.loc 0), some (.int (s : Nat)), none]) (μ := [.lst (ws.map .str)]) (n := 6) (b := .int 6) (by decide) (div_ev (k := 400) (by decide) (var_ev (i := 1) rfl)) (by rw [ev]; rfl)
  rw [show ((400 : Nat) : Int) = 400 from rfl] at m4
  rw [ec] at m4
  rw [seq_ev (set_ev m4)]
  simp only [List.set_cons_succ, List.set_cons_zero]
  have d0 : ∀ (b : Nat) (i : Int), i = (b : Nat) → ev (G 0) (.cmp .eq (.var 5) (.int i)) [some (.lst (R.map rowStr)), some (.int r), some (.int (a : Nat)), some (.loc 0), some (.int (s : Nat)), some (.int (c : Nat))] [.lst (ws.map .str)] = .ok (.bl (decide (c = b))) [.lst (ws.map .str)] := fun b i e => by rw [e]; exact eqi_ev rfl
  have u0 : ev (G 0) (.var 0) [some (.lst (R.map rowStr)), some (.int r), some (.int (a : Nat)), some (.loc 0), some (.int (s : Nat)), some (.int (c : Nat))] [.lst (ws.map .str)] = .ok (.lst (R.map rowStr)) [.lst (ws.map .str)] := var_ev rfl
  have u2 : ev (G 0) (.var 2) [some (.lst (R.map rowStr)), some (.int r), some (.int (a : Nat)), some (.loc 0), some (.int (s : Nat)), some (.int (c : Nat))] [.lst (ws.map .str)] = .ok (.int (a : Nat)) [.lst (ws.map .str)] := var_ev rfl
  have u3 : ev (G 0) (.var 3) [some (.lst (R.map rowStr)), some (.int r), some (.int (a : Nat)), some (.loc 0), some (.int (s : Nat)), some (.int (c : Nat))] [.lst (ws.map .str)] = .ok (.loc 0) [.lst (ws.map .str)] := var_ev rfl
  have u4 : ev (G 0) (.var 4) [some (.lst (R.map rowStr)), some (.int r), some (.int (a : Nat)), some (.loc 0), some (.int (s : Nat)), some (.int (c : Nat))] [.lst (ws.map .str)] = .ok (.int (s : Nat)) [.lst (ws.map .str)] := var_ev rfl
  by_cases c0 : c = 0
  · have q := d0 0 0 rfl
    rw [decide_eq_true c0] at q
    have x := app_ev (to_ev u0 (fun _ _ => rfl) u2 (by simp; omega)) (from_ev u0 (fun _ _ => rfl) (succ_ev u2) (by simp; omega)) (by simp; omega)
    refine ⟨R.take a ++ R.drop (a + 1), [.lst (ws.map .str)], ?_, ?_⟩
    rotate_left
    · rw [seq_r ((ite_t q).trans (seq_r (ret_ev x)))]
      simp [List.map_take, List.map_drop]
    · refine ⟨by simp; omega, fun v hv => ?_⟩
      simp only [List.mem_append] at hv
      have := h.2 v (hv.elim List.mem_of_mem_take List.mem_of_mem_drop)
      exact ⟨this.1, this.2.1, by omega⟩
  · have q := d0 0 0 rfl
    rw [decide_eq_false c0] at q
    rw [seq_ev ((ite_f q).trans skip_ev)]
    by_cases c1 : c = 1
    · have q := d0 1 1 rfl
      rw [decide_eq_true c1] at q
      have x := app_ev (to_ev u0 (fun _ _ => rfl) (succ_ev u2) (by simp; omega)) (from_ev u0 (fun _ _ => rfl) u2 (by simp; omega)) (by simp; omega)
      refine ⟨R.take (a + 1) ++ R.drop a, [.lst (ws.map .str)], ?_, ?_⟩
      rotate_left
      · rw [seq_r ((ite_t q).trans (seq_r (ret_ev x)))]
        simp [List.map_take, List.map_drop]
      · refine ⟨by simp; omega, fun v hv => ?_⟩
        simp only [List.mem_append] at hv
        have := h.2 v (hv.elim List.mem_of_mem_take List.mem_of_mem_drop)
        exact ⟨this.1, this.2.1, by omega⟩
    · have q := d0 1 1 rfl
      rw [decide_eq_false c1] at q
      rw [seq_ev ((ite_f q).trans skip_ev)]
      have sw : ∀ lo hi, slP (.loc 0) lo hi [.lst (ws.map .str)] = .ok (.lst (cutD (ws.map .str) lo hi)) [.lst (ws.map .str)] := fun _ _ => rfl
      by_cases c2 : c = 2
      · have q := d0 2 2 rfl
        rw [decide_eq_true c2] at q
        have x := app_ev (to_ev u3 sw u4 (by simp; omega)) (from_ev u3 sw (succ_ev u4) (by simp; omega)) (by simp; omega)
        have p := put_ev (Γ := G 0) (R := R) (ws := ws.take s ++ ws.drop (s + 1)) (a := a) (o1 := some (.int r)) (o4 := some (.int (s : Nat))) (o5 := some (.int (c : Nat))) (d := .lst ((ws.map D.str).take s ++ (ws.map D.str).drop (s + 1))) (μ := [.lst (ws.map .str)]) ha (by omega)
          (fun v hv => w2 v ((List.mem_append.mp hv).elim List.mem_of_mem_take List.mem_of_mem_drop)) (by simp; omega) (by simp [seqD, List.map_take, List.map_drop])
        refine ⟨_, [.lst (ws.map .str)], put_inv h ha (ws := ws.take s ++ ws.drop (s + 1)) (fun v hv => w2 v ((List.mem_append.mp hv).elim List.mem_of_mem_take List.mem_of_mem_drop)) (by simp; omega), ?_⟩
        · exact (seq_ev ((ite_t q).trans ((seq_ev (set_ev x)).trans skip_ev))).trans (seq_r (ret_ev p))
      · have q2 := d0 2 2 rfl
        rw [decide_eq_false c2] at q2
        by_cases c3 : c = 3
        · have q := d0 3 3 rfl
          rw [decide_eq_true c3] at q
          have x := app_ev (to_ev u3 sw (succ_ev u4) (by simp; omega)) (from_ev u3 sw u4 (by simp; omega)) (by simp; omega)
          have p := put_ev (Γ := G 0) (R := R) (ws := ws.take (s + 1) ++ ws.drop s) (a := a) (o1 := some (.int r)) (o4 := some (.int (s : Nat))) (o5 := some (.int (c : Nat))) (d := .lst ((ws.map D.str).take (s + 1) ++ (ws.map D.str).drop s)) (μ := [.lst (ws.map .str)]) ha (by omega)
            (fun v hv => w2 v ((List.mem_append.mp hv).elim List.mem_of_mem_take List.mem_of_mem_drop)) (by simp; omega) (by simp [seqD, List.map_take, List.map_drop])
          refine ⟨_, [.lst (ws.map .str)], put_inv h ha (ws := ws.take (s + 1) ++ ws.drop s) (fun v hv => w2 v ((List.mem_append.mp hv).elim List.mem_of_mem_take List.mem_of_mem_drop)) (by simp; omega), ?_⟩
          exact (seq_ev ((ite_f q2).trans ((seq_ev ((ite_t q).trans ((seq_ev (set_ev x)).trans skip_ev))).trans skip_ev))).trans (seq_r (ret_ev p))
        · have q3 := d0 3 3 rfl
          rw [decide_eq_false c3] at q3
          by_cases c4 : c = 4
          · have q := d0 4 4 rfl
            rw [decide_eq_true c4] at q
            have hmm : m < menu.length := by rw [menu_len]; exact hm
            have mm := mod_ev (Γ := G 0) (ρ := [some (.lst (R.map rowStr)), some (.int r), some (.int (a : Nat)), some (.loc 0), some (.int (s : Nat)), some (.int (c : Nat))]) (μ := [.lst (ws.map .str)]) (n := 12) (b := .int 12) (by decide) (div_ev (k := 2400) (by decide) (var_ev (i := 1) rfl)) (by rw [ev]; rfl)
            rw [show ((2400 : Nat) : Int) = 2400 from rfl] at mm
            rw [em] at mm
            have xm : ev (G 0) (.ix (.lst false (.cons (.str "") (.cons (.str ":") (.cons (.str "leaf") (.cons (.str "unit") (.cons (.str "0") (.cons (.str "-0") (.cons (.str "4/2") (.cons (.str "1/2") (.cons (.str "01") (.cons (.str "x") (.cons (.str "1234567890") (.cons (.str "3/1") .nil))))))))))))) (.bin .mod (.bin .fdiv (.var 1) (.int 2400)) (.int 12))) [some (.lst (R.map rowStr)), some (.int r), some (.int (a : Nat)), some (.loc 0), some (.int (s : Nat)), some (.int (c : Nat))] [.lst (ws.map .str)] = .ok (.str menu[m]) [.lst (ws.map .str)] := by
              rw [ev, menu_ev]
              have e1 : (menu.map D.str)[m]? = some (.str menu[m]) := by rw [List.getElem?_map, List.getElem?_eq_getElem hmm]; rfl
              simp only [bind_ok, mm, ixD, seqD, atI_nat, e1]
            have st : setD (.loc 0) (.int (s : Nat)) (.str menu[m]) [.lst (ws.map .str)] = some [.lst ((ws.set s menu[m]).map .str)] := by
              have e : L2.ixN (ws.map D.str).length (s : Nat) = some s := by
                unfold L2.ixN
                rw [if_pos (by omega), if_pos (by simp; omega)]; simp
              simp only [setD, List.getElem?_cons_zero, e, List.set_cons_zero, List.map_set]
            have sb : evS (G 0) (.sub (.var 3) (.var 4) (.ix (.lst false (.cons (.str "") (.cons (.str ":") (.cons (.str "leaf") (.cons (.str "unit") (.cons (.str "0") (.cons (.str "-0") (.cons (.str "4/2") (.cons (.str "1/2") (.cons (.str "01") (.cons (.str "x") (.cons (.str "1234567890") (.cons (.str "3/1") .nil))))))))))))) (.bin .mod (.bin .fdiv (.var 1) (.int 2400)) (.int 12)))) [some (.lst (R.map rowStr)), some (.int r), some (.int (a : Nat)), some (.loc 0), some (.int (s : Nat)), some (.int (c : Nat))] [.lst (ws.map .str)] = .nx [some (.lst (R.map rowStr)), some (.int r), some (.int (a : Nat)), some (.loc 0), some (.int (s : Nat)), some (.int (c : Nat))] [.lst ((ws.set s menu[m]).map .str)] := by
              rw [evS, xm]
              simp only [sbind_ok, u3, u4, st]
            have hset : ∀ v ∈ ws.set s menu[m], wdB v = true := by
              intro v hv
              rcases List.mem_or_eq_of_mem_set hv with q | q
              · exact w2 v q
              · subst q; exact menu_wd _ (List.getElem_mem hmm)
            have p := put_ev (Γ := G 0) (R := R) (ws := ws.set s menu[m]) (a := a) (o1 := some (.int r)) (o4 := some (.int (s : Nat))) (o5 := some (.int (c : Nat))) (d := .loc 0) (μ := [.lst ((ws.set s menu[m]).map .str)]) ha (by omega)
              hset (by simp; omega) rfl
            refine ⟨_, [.lst ((ws.set s menu[m]).map .str)], put_inv h ha (ws := ws.set s menu[m]) hset (by simp; omega), ?_⟩
            exact (seq_ev ((ite_f q2).trans ((seq_ev ((ite_f q3).trans ((seq_ev ((ite_t q).trans ((seq_ev sb).trans skip_ev))).trans skip_ev))).trans skip_ev))).trans (seq_r (ret_ev p))
          · have q4 := d0 4 4 rfl
            rw [decide_eq_false c4] at q4
            have p := put_ev (Γ := G 0) (R := R) (ws := ws) (a := a) (o1 := some (.int r)) (o4 := some (.int (s : Nat))) (o5 := some (.int (c : Nat))) (d := .loc 0) (μ := [.lst (ws.map .str)]) ha (by omega)
              w2 (by omega) rfl
            refine ⟨_, [.lst (ws.map .str)], put_inv h ha (ws := ws) w2 (by omega), ?_⟩
            exact (seq_ev ((ite_f q2).trans ((seq_ev ((ite_f q3).trans ((seq_ev ((ite_f q4).trans skip_ev)).trans skip_ev))).trans skip_ev))).trans (seq_r (ret_ev p))
end K82
set_option Elab.async false
set_option linter.all false
set_option maxRecDepth 100000
set_option maxHeartbeats 4000000
/-! K82ab: what is written behind the changes. -/
namespace K82
open PySem L2 KA TL
theorem tl_len (w : Str) : (tl w).length = w.length := by rw [len_tl]
theorem tl_empty : tl ("" : Str) = [] := rfl
theorem tl_nl : tl ("\n" : Str) = [10] := rfl
theorem eq_empty {z : Str} (h : tl z = []) : z = "" := tl_inj h
theorem tl_cut (w : Str) : tl (L2.cutS w (some (-1)) none) = (tl w).drop ((tl w).length - 1) := by
  have h : tl (L2.cutS w (some (-1)) none) = ((tl w).drop (HT.sIx w.length 0 (some (-1)))).take (HT.sIx w.length w.length none - HT.sIx w.length 0 (some (-1))) := rfl
  have e1 : HT.sIx w.length 0 (some (-1)) = w.length - 1 := by
    show (if (-1 : Int) < 0 then ((-1 : Int) + (w.length : Nat)).toNat else min (-1 : Int).toNat w.length) = _
    rw [if_pos (by decide)]
    omega
  rw [h, e1, HT.sIx_none, tl_len]
  rw [List.take_of_length_le]
  rw [List.length_drop, tl_len]
  omega
theorem last_nl (w : Str) : L2.cutS w (some (-1)) none = "\n" ↔ ∃ v, tl w = v ++ [10] := by
  constructor
  · intro h
    have e := congrArg tl h
    rw [tl_cut, tl_nl] at e
    exact ⟨(tl w).take ((tl w).length - 1), by rw [← e, List.take_append_drop]⟩
  · rintro ⟨v, h⟩
    refine tl_inj ?_
    rw [tl_cut, tl_nl, h]
    simp
def jn (l : List Str) : Str := Txt.join "\n" l
theorem jn_last (z : Str) : ∀ F : List Str, F ≠ [] → ∃ v, tl (jn (F ++ [z])) = v ++ [10] ++ tl z
  | [], h => absurd rfl h
  | [x], _ => ⟨tl x, by
    rw [jn, join_eq, List.cons_append, List.nil_append, Str.join, tl_app, tl_app, tl_nl, Str.join]
    simp⟩
  | x :: y :: r, _ => by
    obtain ⟨v, h⟩ := jn_last z (y :: r) (by simp)
    refine ⟨tl x ++ [10] ++ v, ?_⟩
    rw [jn, join_eq] at h ⊢
    rw [List.cons_append, List.cons_append, Str.join, tl_app, tl_app, tl_nl, ← List.cons_append, h]
    · simp
    · simp
theorem jn_one (z : Str) : jn [z] = z := by rw [jn, join_eq, Str.join]
theorem sj {s x : Str} {l : List Str} (h : l ≠ []) : Str.join s (x :: l) = x ++ s ++ Str.join s l := by
  cases l with
  | nil => exact absurd rfl h
  | cons y r => rw [Str.join]; simp
theorem jn_nl (l : List Str) (h : l ≠ []) : jn l ++ "\n" = jn (l ++ [("" : Str)]) := by
  refine tl_inj ?_
  rw [tl_app, tl_nl]
  induction l with
  | nil => exact absurd rfl h
  | cons x r ih =>
    cases r with
    | nil =>
      rw [jn_one, jn, join_eq, List.cons_append, List.nil_append, sj (by simp), tl_app, tl_app, tl_nl, Str.join, tl_empty]
      simp
    | cons y r =>
      have ih := ih (by simp)
      unfold jn at ih ⊢
      rw [join_eq, join_eq] at ih ⊢
      rw [sj (by simp), List.cons_append, sj (l := y :: r ++ [("" : Str)]) (by simp), tl_app, tl_app, tl_app, tl_app, ← ih]
      simp
/-- the third of the law's conditions -/
theorem cond_eq {F : List (List Str)} {z w : Str} (hw : w = jn (F.map jw ++ [z])) (hz : 10 ∉ tl z) : (!decide (L2.cutS w (some (-1)) none = "\n") && !decide (w = "")) = !decide (z = "") := by
  by_cases h : z = ""
  · rw [decide_eq_true h]
    by_cases hF : F = []
    · subst hF
      rw [List.map_nil, List.nil_append, jn_one] at hw
      have : w = "" := hw.trans h
      rw [decide_eq_true this]
      simp
    · obtain ⟨v, e⟩ := jn_last z (F.map jw) (by simpa using hF)
      rw [h, tl_empty, List.append_nil] at e
      have : L2.cutS w (some (-1)) none = "\n" := (last_nl w).mpr ⟨v, by rw [hw, h]; exact e⟩
      rw [decide_eq_true this]
      simp
  · have ne : tl z ≠ [] := fun c => h (eq_empty c)
    have hv : ∃ v, tl w = v ++ tl z := by
      by_cases hF : F = []
      · subst hF
        rw [List.map_nil, List.nil_append, jn_one] at hw
        exact ⟨[], by rw [hw]; rfl⟩
      · obtain ⟨v, e⟩ := jn_last z (F.map jw) (by simpa using hF)
        exact ⟨v ++ [10], by rw [hw, e]⟩
    obtain ⟨v, e⟩ := hv
    have n1 : ¬ L2.cutS w (some (-1)) none = "\n" := by
      intro c
      obtain ⟨u, e2⟩ := (last_nl w).mp c
      have : (tl z).getLast? = some 10 := by
        have g1 : (tl w).getLast? = some 10 := by rw [e2]; simp
        rw [e, List.getLast?_append] at g1
        cases hl : (tl z).getLast? with
        | none => rw [List.getLast?_eq_none_iff] at hl; exact absurd hl ne
        | some x => rw [hl] at g1; simpa using g1
      exact hz (List.mem_of_getLast? this)
    have n2 : ¬ w = "" := by
      intro c
      rw [c, tl_empty] at e
      exact ne (List.append_eq_nil_iff.mp e.symm).2
    rw [decide_eq_false h, decide_eq_false n1, decide_eq_false n2]
    rfl
theorem jn_len {l : List Str} (h : ∀ w ∈ l, w.length ≤ 132) (hl : l.length ≤ 100) : (jn l).length ≤ 20000 := by
  have h1 := sum_le (l := l) (k := 132) h
  have h2 : ("\n" : Str).length = 1 := rfl
  have h3 := PySem.StrLaws.join_length_le "\n" l
  rw [h2] at h3
  rw [jn, join_eq]
  omega
end K82
set_option Elab.async false
set_option linter.all false
set_option maxRecDepth 100000
set_option maxHeartbeats 4000000
/-! K82ac: law(). -/
namespace K82
open PySem L2 KA TL
/-- what the law expects -/
theorem toldD_pure (x : Except Nat Pap) : (toldD x).pure = true := by
  cases x with
  | ok P => simp [toldD, D.pure, D.pures, Pap.pure]
  | error j => rfl
theorem toldD_eq {F : List (List Str)} {z : Str} (hl : F.length ≤ 70) (μ : Store) : cop .eq (toldD (prs F z)) (toldD (prs F z)) μ = .ok (.bl true) μ := by
  have hd : ∀ P, prs F z = .ok P → nodes P ≤ 70 := by
    intro P h
    unfold prs at h
    match hp : pa (F.map rowT) ((F.map rowT).length + 1) 0 with
    | (none, j) => rw [hp] at h; cases h
    | (some Q, j) =>
      rw [hp] at h
      have := pa_lt _ _ _ _ _ hp
      simp only [List.length_map] at this
      simp only at h
      split at h
      · cases h; omega
      · cases h
  have h : eqD μ (toldD (prs F z)) (toldD (prs F z)) = some true := by
    refine eqD_refl ?_ ?_ (toldD_pure _) ?_ ?_
    · cases prs F z <;> rfl
    · cases prs F z <;> rfl
    · cases prs F z with
      | ok P =>
        have hp := pap_lay P
        exact lay_tup (by
          intro e he
          simp at he
          rcases he with rfl | rfl
          · exact lay_str (by decide +kernel)
          · exact hp)
      | error j => exact lay_tup (by
          intro e he
          simp at he
          rcases he with rfl | rfl
          · exact lay_str (by decide +kernel)
          · rfl)
    · cases h : prs F z with
      | ok P =>
        have n := hd P h
        have d := dep_nodes P
        exact Nat.le_trans (dep_tup (k := 60) (by
          intro e he
          simp at he
          rcases he with rfl | rfl
          · simp [D.py, PyData.depth]
          · omega)) (by omega)
      | error j => exact Nat.le_trans (dep_tup (k := 0) (by
          intro e he
          simp at he
          rcases he with rfl | rfl <;> simp [D.py, PyData.depth])) (by omega)
  simp only [cop, h, okB]
/-- one turn of the changes -/
theorem len0_ev {Γ : Gm} {R : List (List Str)} {ρ : Ro} {μ : Store} (h : ρ[2]? = some (some (.lst (R.map rowStr)))) : ev Γ (.cmp .gt (.bi .len (.var 2)) (.int 0)) ρ μ = .ok (.bl (decide (0 < R.length))) μ := by
  have l := len_ev (Γ := Γ) (a := .var 2) (xs := R.map rowStr) (μ := μ) (var_ev h) rfl (by simp)
  rw [List.length_map] at l
  rw [ev, l]
  have e : decide ((0 : Int) < ((R.length : Nat) : Int)) = decide (0 < R.length) := by
    by_cases c : 0 < R.length
    · have : (0 : Int) < ((R.length : Nat) : Int) := by omega
      simp only [c, this, decide_true]
    · have : ¬ (0 : Int) < ((R.length : Nat) : Int) := by omega
      simp only [c, this, decide_false]
  simp only [bind_ok, ev, cop, e]
section
variable {ns : List Int} (hb : ∀ z ∈ ns, Builtin.Int.intBits z ≤ 1048576)
include hb
theorem cell_log (k : Nat) : (ns.getD k 0).natAbs.log2 ≤ 2000000 := by
  by_cases h : k < ns.length
  · have e : ns.getD k 0 = ns[k] := by simp [List.getD, List.getElem?_eq_getElem h]
    have := hb _ (List.getElem_mem h)
    rw [e]
    unfold Builtin.Int.intBits at this
    split at this
    · rename_i c
      have : ns[k] = 0 := by simpa using c
      rw [this]; decide
    · omega
  · have e : ns.getD k 0 = 0 := by simp [List.getD, List.getElem?_eq_none (Nat.le_of_not_lt h)]
    rw [e]; decide
theorem cellrich_ev {n : Nat} (hn : 1 ≤ n) {a b : E} {i k : Nat} {ρ : Ro} {μ : Store} (hk : k < 1000) (h0 : ρ[0]? = some (some (.lst (ns.map D.int)))) (ha : ev (G n) a ρ μ = .ok (.int (i : Nat)) μ) (hbb : ev (G n) b ρ μ = .ok (.int (k : Nat)) μ) :
    ∃ r : Int, 0 ≤ r ∧ ev (G n) (.call "_law_rich" (.cons (.call "_law_cell" (.cons (.var 0) (.cons a .nil))) (.cons b .nil))) ρ μ = .ok (.int r) μ := by
  obtain ⟨r, hr, q⟩ := rich_ret (ns.getD i 0) k (cell_log hb i) hk
  refine ⟨r, hr, ?_⟩
  have c := (call2_ev (f := "_law_cell") (var_ev h0) ha).trans ((cell_ret ns i).call (μ := μ) hn)
  exact (call2_ev (f := "_law_rich") c hbb).trans (q.call (μ := μ) hn)
theorem change_turn {n : Nat} (hn : 1 ≤ n) {k : Nat} (hk : k ≤ 1) {R : List (List Str)} (h : Inv k R) {o1 o3 o4 o6 o7 o8 o9 o10 : Option D} {μ : Store} : ∃ R', Inv (k + 1) R' ∧
    evS (G n) b_43_0 [some (.lst (ns.map D.int)), o1, some (.lst (R.map rowStr)), o3, o4, some (.int (k : Nat)), o6, o7, o8, o9, o10] μ = .nx [some (.lst (ns.map D.int)), o1, some (.lst (R'.map rowStr)), o3, o4, some (.int (k : Nat)), o6, o7, o8, o9, o10] μ := by
  have l := len0_ev (Γ := G n) (R := R) (ρ := [some (.lst (ns.map D.int)), o1, some (.lst (R.map rowStr)), o3, o4, some (.int (k : Nat)), o6, o7, o8, o9, o10]) (μ := μ) rfl
  unfold b_43_0
  by_cases hR : 0 < R.length
  · rw [decide_eq_true hR] at l
    have a2 : ev (G n) (.bin .add (.int 2) (.var 5)) [some (.lst (ns.map D.int)), o1, some (.lst (R.map rowStr)), o3, o4, some (.int (k : Nat)), o6, o7, o8, o9, o10] μ = .ok (.int ((2 + k : Nat) : Int)) μ := by
      rw [ev_bin (x := .int 2) (μ1 := μ) rfl (var_ev rfl)]
      simp [bop, bopI]
    obtain ⟨r, hr, q⟩ := cellrich_ev hb hn (k := k) (by omega) (ρ := [some (.lst (ns.map D.int)), o1, some (.lst (R.map rowStr)), o3, o4, some (.int (k : Nat)), o6, o7, o8, o9, o10]) (μ := μ) (b := .var 5) rfl a2 (var_ev rfl)
    obtain ⟨R', i', c⟩ := changed_ret h hk hR hr
    refine ⟨R', i', ?_⟩
    have cc := (call2_ev (f := "_law_changed") (var_ev (i := 2) rfl) q).trans (c.call (μ := μ) hn)
    rw [seq_ev ((ite_t l).trans ((seq_ev (set_ev cc)).trans skip_ev)), skip_ev]
    rfl
  · rw [decide_eq_false hR] at l
    refine ⟨R, ⟨by have := h.1; omega, fun ws hw => ?_⟩, ?_⟩
    · have := h.2 ws hw; exact ⟨this.1, this.2.1, by omega⟩
    · rw [seq_ev ((ite_f l).trans skip_ev), skip_ev]
theorem changes {n : Nat} (hn : 1 ≤ n) {m : Nat} (hm : m ≤ 2) {R : List (List Str)} (h : Inv 0 R) {o1 o3 o4 o6 o7 o8 o9 o10 : Option D} {μ : Store} : ∃ R' o5, Inv 2 R' ∧
    forL (fun _ => true) (.name 5) (evS (G n) b_43_0) (rangeD 0 m) [some (.lst (ns.map D.int)), o1, some (.lst (R.map rowStr)), o3, o4, none, o6, o7, o8, o9, o10] μ = .nx [some (.lst (ns.map D.int)), o1, some (.lst (R'.map rowStr)), o3, o4, o5, o6, o7, o8, o9, o10] μ := by
  have up : ∀ {k : Nat} {R : List (List Str)}, k ≤ 2 → Inv k R → Inv 2 R := fun {k R} hk h => ⟨by have := h.1; omega, fun ws hw => by have := h.2 ws hw; exact ⟨this.1, this.2.1, by omega⟩⟩
  have : m = 0 ∨ m = 1 ∨ m = 2 := by omega
  rcases this with rfl | rfl | rfl
  · exact ⟨R, none, up (by omega) h, rfl⟩
  · obtain ⟨R1, i1, e1⟩ := change_turn hb hn (k := 0) (by omega) h (o1 := o1) (o3 := o3) (o4 := o4) (o6 := o6) (o7 := o7) (o8 := o8) (o9 := o9) (o10 := o10) (μ := μ)
    refine ⟨R1, some (.int 0), up (by omega) i1, ?_⟩
    have rg : rangeD 0 (1 : Nat) = [.int 0] := rfl
    rw [rg]
    simp only [forL, if_true, tgt, List.set_cons_succ, List.set_cons_zero]
    rw [show (D.int 0) = .int ((0 : Nat) : Int) from rfl, e1]
  · obtain ⟨R1, i1, e1⟩ := change_turn hb hn (k := 0) (by omega) h (o1 := o1) (o3 := o3) (o4 := o4) (o6 := o6) (o7 := o7) (o8 := o8) (o9 := o9) (o10 := o10) (μ := μ)
    obtain ⟨R2, i2, e2⟩ := change_turn hb hn (k := 1) (by omega) i1 (o1 := o1) (o3 := o3) (o4 := o4) (o6 := o6) (o7 := o7) (o8 := o8) (o9 := o9) (o10 := o10) (μ := μ)
    refine ⟨R2, some (.int 1), i2, ?_⟩
    have rg : rangeD 0 (2 : Nat) = [.int 0, .int 1] := rfl
    rw [rg]
    simp only [forL, if_true, tgt, List.set_cons_succ, List.set_cons_zero]
    rw [show (D.int 0) = .int ((0 : Nat) : Int) from rfl, e1]
    simp only [List.set_cons_succ, List.set_cons_zero]
    rw [show (D.int 1) = .int ((1 : Nat) : Int) from rfl, e2]
end
/-- the last lines -/
theorem last_lines {F : List (List Str)} {z w : Str} {eb : Bool} {o0 o1 o4 o5 o10 : Option D} {μ : Store} (hF : ∀ ws ∈ F, RowOk ws) (hl : F.length ≤ 70) (hw : w.length ≤ 100000) (hs : Txt.split w "\n" = F.map jw ++ [z]) (hc : (!eb && !decide (w = "")) = !decide (z = "")) :
    evS (G 99) (.seq (.set (.tup (.cons (.name 7) (.cons (.name 8) .nil))) (.call "_law_paper_at" (.cons (.var 2) (.cons (.int 0) .nil))))
      (.seq (.set (.name 9) (.tup (.cons (.str "paper") (.cons (.var 7) .nil))))
      (.seq (.ite (.or (.cmp .is_ (.var 7) .non) (.or (.cmp .ne (.var 8) (.bi .len (.var 2))) (.one (.and (.not (.var 6)) (.one (.cmp .ne (.var 3) (.str ""))))))) (.seq (.set (.name 9) (.tup (.cons (.str "row") (.cons (.bin .add (.var 8) (.int 1)) .nil))))
        .skip) .skip)
      (.seq (.ret (.cmp .eq (.call "_law_told" (.cons (.var 3) .nil)) (.var 9)))
      .skip)))) [o0, o1, some (.lst (F.map rowStr)), some (.str w), o4, o5, some (.bl eb), none, none, none, o10] μ = .rt (.bl true) μ := by
  have lp := lpa_run F hF ((F.map rowT).length + 1) 0 (by omega)
  have hlt : (F.map rowT).length + 1 + 6 ≤ 99 := by simp; omega
  have c1 := (call2_ev (Γ := G 99) (f := "_law_paper_at") (e1 := .var 2) (e2 := .int 0) (ρ := [o0, o1, some (.lst (F.map rowStr)), some (.str w), o4, o5, some (.bl eb), none, none, none, o10]) (μ := μ) (var_ev rfl) (y := .int ((0 : Nat) : Int)) (by rw [ev]; rfl)).trans (lp.call (μ := μ) hlt)
  have tr := told_ret hF hl hw hs
  have fin : ∀ (o7 o8 : Option D), evS (G 99) (.seq (.ret (.cmp .eq (.call "_law_told" (.cons (.var 3) .nil)) (.var 9))) .skip) [o0, o1, some (.lst (F.map rowStr)), some (.str w), o4, o5, some (.bl eb), o7, o8, some (toldD (prs F z)), o10] μ = .rt (.bl true) μ := by
    intro o7 o8
    have k := (call1_ev (Γ := G 99) (f := "_law_told") (e := .var 3) (ρ := [o0, o1, some (.lst (F.map rowStr)), some (.str w), o4, o5, some (.bl eb), o7, o8, some (toldD (prs F z)), o10]) (μ := μ) (var_ev rfl)).trans (tr.call (μ := μ) (by omega))
    refine seq_r (ret_ev ?_)
    rw [ev, k]
    simp only [bind_ok]
    rw [var_ev (i := 9) rfl]
    simp only [bind_ok, toldD_eq hl]
  have row : ∀ (j : Nat) (o7 : Option D), evS (G 99) (.seq (.set (.name 9) (.tup (.cons (.str "row") (.cons (.bin .add (.var 8) (.int 1)) .nil)))) .skip) [o0, o1, some (.lst (F.map rowStr)), some (.str w), o4, o5, some (.bl eb), o7, some (.int (j : Nat)), some (.tup [.str "paper", o7.getD .non]), o10] μ = .nx [o0, o1, some (.lst (F.map rowStr)), some (.str w), o4, o5, some (.bl eb), o7, some (.int (j : Nat)), some (.tup [.str "row", .int ((j + 1 : Nat) : Int)]), o10] μ := by
    intro j o7
    exact (seq_ev (set_ev (tup2_ev rfl (succ_ev (var_ev rfl))))).trans skip_ev
  unfold prs at fin
  match hp : pa (F.map rowT) ((F.map rowT).length + 1) 0 with
  | (none, j) =>
    rw [hp] at c1 fin
    rw [seq_ev (settup2 c1)]
    simp only [List.set_cons_succ, List.set_cons_zero]
    rw [seq_ev (set_ev (tup2_ev (x := .str "paper") (y := .non) rfl (var_ev rfl)))]
    simp only [List.set_cons_succ, List.set_cons_zero]
    have q1 := isnon_ev (Γ := G 99) (e := .var 7) (d := .non) (ρ := [o0, o1, some (.lst (F.map rowStr)), some (.str w), o4, o5, some (.bl eb), some .non, some (.int (j : Nat)), some (.tup [.str "paper", .non]), o10]) (μ := μ) (var_ev rfl) rfl
    rw [seq_ev ((ite_t (or_t q1)).trans (row j (some .non)))]
    exact fin _ _
  | (some P, j) =>
    rw [hp] at c1 fin
    rw [seq_ev (settup2 c1)]
    simp only [List.set_cons_succ, List.set_cons_zero]
    rw [seq_ev (set_ev (tup2_ev (x := .str "paper") (y := P.D) rfl (var_ev rfl)))]
    simp only [List.set_cons_succ, List.set_cons_zero]
    have q1 := isnon_ev (Γ := G 99) (e := .var 7) (d := P.D) (ρ := [o0, o1, some (.lst (F.map rowStr)), some (.str w), o4, o5, some (.bl eb), some P.D, some (.int (j : Nat)), some (.tup [.str "paper", P.D]), o10]) (μ := μ) (var_ev rfl) P.pure
    rw [pap_nn] at q1
    have l2 := len_ev (Γ := G 99) (a := .var 2) (xs := F.map rowStr) (d := .lst (F.map rowStr)) (ρ := [o0, o1, some (.lst (F.map rowStr)), some (.str w), o4, o5, some (.bl eb), some P.D, some (.int (j : Nat)), some (.tup [.str "paper", P.D]), o10]) (μ := μ) (var_ev rfl) rfl (by simp)
    rw [List.length_map] at l2
    have q2 : ev (G 99) (.cmp .ne (.var 8) (.bi .len (.var 2))) [o0, o1, some (.lst (F.map rowStr)), some (.str w), o4, o5, some (.bl eb), some P.D, some (.int (j : Nat)), some (.tup [.str "paper", P.D]), o10] μ = .ok (.bl (!decide (j = F.length))) μ := by
      have e : decide (((j : Nat) : Int) = ((F.length : Nat) : Int)) = decide (j = F.length) := by
        by_cases c : j = F.length
        · simp [c]
        · have : ¬ ((j : Nat) : Int) = ((F.length : Nat) : Int) := by omega
          simp only [c, this, decide_false]
      rw [ev, var_ev rfl]
      simp only [bind_ok, l2, cop, eqD, dscal, if_true, deq, e, Option.map_some, okB]
    have q3 : ev (G 99) (.and (.not (.var 6)) (.one (.cmp .ne (.var 3) (.str "")))) [o0, o1, some (.lst (F.map rowStr)), some (.str w), o4, o5, some (.bl eb), some P.D, some (.int (j : Nat)), some (.tup [.str "paper", P.D]), o10] μ = .ok (.bl (!decide (z = ""))) μ := by
      have n6 : ev (G 99) (.not (.var 6)) [o0, o1, some (.lst (F.map rowStr)), some (.str w), o4, o5, some (.bl eb), some P.D, some (.int (j : Nat)), some (.tup [.str "paper", P.D]), o10] μ = .ok (.bl (!eb)) μ := by
        rw [ev, var_ev rfl]; rfl
      have n3 : ev (G 99) (.cmp .ne (.var 3) (.str "")) [o0, o1, some (.lst (F.map rowStr)), some (.str w), o4, o5, some (.bl eb), some P.D, some (.int (j : Nat)), some (.tup [.str "paper", P.D]), o10] μ = .ok (.bl (!decide (w = ""))) μ := by
        rw [ev, var_ev rfl]
        simp only [bind_ok, ev, cop, eqD, dscal, if_true, deq, Option.map_some, okB]
      rw [← hc]
      cases eb with
      | true => rw [and_f n6]; rfl
      | false => rw [and_t n6, one_ev, n3]; rfl
    simp only at fin
    by_cases h1 : j = F.length
    · rw [decide_eq_true h1] at q2
      by_cases h2 : z = ""
      · rw [decide_eq_true h2] at q3
        rw [seq_ev ((ite_f ((or_f q1).trans ((or_f q2).trans (one_ev.trans q3)))).trans skip_ev)]
        rw [if_pos ⟨h1, h2⟩] at fin
        exact fin _ _
      · rw [decide_eq_false h2] at q3
        rw [if_neg (fun c => h2 c.2)] at fin
        rw [seq_ev ((ite_t ((or_f q1).trans ((or_f q2).trans (one_ev.trans q3)))).trans (row j (some P.D)))]
        exact fin _ _
    · rw [decide_eq_false h1] at q2
      rw [if_neg (fun c => h1 c.1)] at fin
      rw [seq_ev ((ite_t ((or_f q1).trans (or_t q2))).trans (row j (some P.D)))]
      exact fin _ _
end K82
set_option Elab.async false
set_option linter.all false
set_option maxRecDepth 100000
set_option maxHeartbeats 4000000
/-! K82ad: law() is True. -/
namespace K82
open PySem L2 KA TL
theorem eqs_ev {Γ : Gm} {a b : E} {x y : Str} {ρ : Ro} {μ μ1 μ2 : Store} (h1 : ev Γ a ρ μ = .ok (.str x) μ1) (h2 : ev Γ b ρ μ1 = .ok (.str y) μ2) : ev Γ (.cmp .eq a b) ρ μ = .ok (.bl (decide (x = y))) μ2 := by
  rw [ev, h1]
  simp only [bind_ok, h2, cop, eqD, dscal, if_true, deq, okB]
theorem nes_ev {Γ : Gm} {a b : E} {x y : Str} {ρ : Ro} {μ μ1 μ2 : Store} (h1 : ev Γ a ρ μ = .ok (.str x) μ1) (h2 : ev Γ b ρ μ1 = .ok (.str y) μ2) : ev Γ (.cmp .ne a b) ρ μ = .ok (.bl (!decide (x = y))) μ2 := by
  rw [ev, h1]
  simp only [bind_ok, h2, cop, eqD, dscal, if_true, deq, Option.map_some, okB]
theorem prs_self {P : Pap} {d : Nat} (h : Good d P) : prs (rowsP P) "" = .ok P := by
  unfold prs
  rw [pa_self h]
  simp
theorem wr_len {P : Pap} (h : Good 5 P) : (wrP P).length ≤ 100000 := by
  have lr := rowsP_len h
  have e : 2 ^ (5 + 1) = 64 := rfl
  have := jn_len (l := (rowsP P).map jw ++ [("" : Str)]) (by
    intro w hw
    simp only [List.mem_append, List.mem_map, List.mem_singleton] at hw
    rcases hw with ⟨ws, hws, rfl⟩ | rfl
    · obtain ⟨g1, g2, g3⟩ := rowsP_wd h ws hws
      exact jw_len g1 (by omega)
    · exact Nat.zero_le _) (by simp; omega)
  rw [wr_eq]
  exact Nat.le_trans this (by omega)
theorem pap_ne {P : Pap} {d : Nat} (h : Good d P) (hd : d ≤ 6) (μ : Store) : cop .ne P.D P.D μ = .ok (.bl false) μ := by
  have e : eqD μ P.D P.D = some true := by
    refine eqD_refl ?_ ?_ P.pure (pap_lay P) (Nat.le_trans (pap_dep h) (by omega))
    · cases P <;> rfl
    · cases P <;> rfl
  simp only [cop, e, Option.map_some, okB]
  rfl
/-- law()'s first test -/
theorem first_test {P : Pap} (h : Good 5 P) {o0 o4 o5 o6 o7 o8 o9 o10 : Option D} :
    ev (G 99) (.or (.cmp .ne (.call "rows_of" (.cons (.var 1) .nil)) (.var 2)) (.or (.cmp .ne (.call "text_of" (.cons (.var 1) .nil)) (.var 3)) (.one (.cmp .ne (.call "parse_papertexts" (.cons (.var 3) .nil)) (.var 1))))) [o0, some P.D, some (.lst (rowsD P)), some (.str (wrP P)), o4, o5, o6, o7, o8, o9, o10] [] = .ok (.bl false) [.lst (rowsD P), .lst []] := by
  have h6 : Good 6 P := good_up h
  have nn : nodes P ≤ 900 := by
    have lr := rowsP_len h
    have e : 2 ^ (5 + 1) = 64 := rfl
    rw [nodes_rows] at lr
    omega
  have k1 := (call1_ev (Γ := G 99) (f := "rows_of") (e := .var 1) (ρ := [o0, some P.D, some (.lst (rowsD P)), some (.str (wrP P)), o4, o5, o6, o7, o8, o9, o10]) (μ := []) (var_ev rfl)).trans (rows_call (m := 99) (by omega) h6 nn)
  have c1 : ev (G 99) (.cmp .ne (.call "rows_of" (.cons (.var 1) .nil)) (.var 2)) [o0, some P.D, some (.lst (rowsD P)), some (.str (wrP P)), o4, o5, o6, o7, o8, o9, o10] [] = .ok (.bl false) [.lst (rowsD P), .lst []] := by
    rw [ev, k1]
    simp only [bind_ok]
    rw [var_ev (i := 2) rfl]
    simp only [bind_ok, rows_ne]
  have k2 := (call1_ev (Γ := G 99) (f := "text_of") (e := .var 1) (ρ := [o0, some P.D, some (.lst (rowsD P)), some (.str (wrP P)), o4, o5, o6, o7, o8, o9, o10]) (μ := [.lst (rowsD P), .lst []]) (var_ev rfl)).trans ((wr_ret h6 nn).call (by omega))
  have c2 := nes_ev k2 (var_ev (i := 3) rfl)
  rw [decide_eq_true rfl] at c2
  have rok : ∀ ws ∈ rowsP P, RowOk ws := fun ws hws => by
    obtain ⟨g1, g2, g3⟩ := rowsP_wd h ws hws
    exact ⟨g2, g1, by omega⟩
  have lr := rowsP_len h
  have e : 2 ^ (5 + 1) = 64 := rfl
  have pr := parse_ret (F := rowsP P) (z := "") (w := wrP P) rok (by omega) (wr_len h) (wr_split h) (prs_self h)
  have k3 := (call1_ev (Γ := G 99) (f := "parse_papertexts") (e := .var 3) (ρ := [o0, some P.D, some (.lst (rowsD P)), some (.str (wrP P)), o4, o5, o6, o7, o8, o9, o10]) (μ := [.lst (rowsD P), .lst []]) (var_ev rfl)).trans (pr.call (by omega))
  have c3 : ev (G 99) (.cmp .ne (.call "parse_papertexts" (.cons (.var 3) .nil)) (.var 1)) [o0, some P.D, some (.lst (rowsD P)), some (.str (wrP P)), o4, o5, o6, o7, o8, o9, o10] [.lst (rowsD P), .lst []] = .ok (.bl false) [.lst (rowsD P), .lst []] := by
    rw [ev, k3]
    simp only [bind_ok]
    rw [var_ev (i := 1) rfl]
    simp only [bind_ok, pap_ne h (by omega)]
  exact (or_f c1).trans ((or_f c2).trans (one_ev.trans c3))
theorem cut_last (xs : List D) : cutD xs none (some (-1)) = xs.dropLast := by
  unfold cutD
  have e1 : HT.sIx xs.length xs.length (some (-1)) = xs.length - 1 := by
    show (if (-1 : Int) < 0 then ((-1 : Int) + (xs.length : Nat)).toNat else min (-1 : Int).toNat xs.length) = _
    rw [if_pos (by decide)]
    omega
  rw [e1, HT.sIx_none, List.dropLast_eq_take]
  simp
theorem joined_ev {Γ : Gm} {R : List (List Str)} {ρ : Ro} {μ : Store} (h2 : ρ[2]? = some (some (.lst (R.map rowStr)))) (hR : ∀ ws ∈ R, RowOk ws) (hl : R.length ≤ 70) : ev Γ (.mth1 .join (.str "\n") (.var 2)) ρ μ = .ok (.str (jn (R.map jw))) μ := by
  have h1 := sum_le (l := R.map jw) (k := 132) (by
    intro w hw
    obtain ⟨ws, hws, rfl⟩ := List.mem_map.mp hw
    have := hR ws hws
    exact jw_len this.2.1 this.2.2)
  rw [List.length_map] at h1
  have nl : ("\n" : Str).length = 1 := rfl
  have g : ((R.map jw).map (·.length)).sum + (R.map jw).length * ("\n" : Str).length ≤ 16777216 := by rw [nl, List.length_map]; omega
  have e : R.map rowStr = (R.map jw).map D.str := by simp [rowStr, Function.comp_def]
  rw [ev, ev]
  simp only [bind_ok, rcvD, if_true, var_ev h2, e, mth1D, seqD, Option.bind_some, strsD_map, g]
  rfl
theorem law_true (ns : List Int) (hl : ns.length ≤ 63) (hb : ∀ z ∈ ns, Builtin.Int.intBits z ≤ 1048576) : ∃ μ, fnL tab B 100 "law" [.lst (ns.map D.int)] [] = .ok (.bl true) μ := by
  rw [fn_run t_law]
  suffices H : ∃ μ, evS (G 99) c_law_43 [some (.lst (ns.map D.int)), none, none, none, none, none, none, none, none, none, none] [] = .rt (.bl true) μ by
    obtain ⟨μ, h⟩ := H
    exact ⟨μ, congrArg outS h⟩
  unfold c_law_43
  -- the paper
  obtain ⟨r, hr, q1⟩ := cellrich_ev hb (n := 99) (a := .int 0) (b := .int 1) (i := 0) (k := 1) (ρ := [some (.lst (ns.map D.int)), none, none, none, none, none, none, none, none, none, none]) (μ := []) (by omega) (by omega) rfl (by rw [ev]; rfl) (by rw [ev]; rfl)
  have hg := papv_good 5 r hr
  have pr := papv_ret 5 r hr
  generalize papv 5 r = P at hg pr
  have k1 := (call2_ev (f := "_law_paper") (e2 := .int 5) (y := .int ((5 : Nat) : Int)) q1 (by rw [ev]; rfl)).trans (pr.call (by omega))
  rw [seq_ev (set_ev k1)]
  simp only [List.set_cons_succ, List.set_cons_zero]
  have k2 := (call1_ev (Γ := G 99) (f := "_law_rows") (e := .var 1) (ρ := [some (.lst (ns.map D.int)), some P.D, none, none, none, none, none, none, none, none, none]) (μ := []) (var_ev rfl)).trans ((lrows_ret hg (by omega)).call (by omega))
  rw [seq_ev (set_ev k2)]
  simp only [List.set_cons_succ, List.set_cons_zero]
  have k3 := written_ev (n := 99) hg (by omega) (ρ := [some (.lst (ns.map D.int)), some P.D, some (.lst (rowsD P)), none, none, none, none, none, none, none, none]) (μ := []) rfl (by simp)
  rw [seq_ev (set_ev k3)]
  simp only [List.set_cons_succ, List.set_cons_zero]
  rw [seq_ev ((ite_f (first_test hg)).trans skip_ev)]
  have lr := rowsP_len hg
  have e64 : 2 ^ (5 + 1) = 64 := rfl
  -- the changes
  obtain ⟨r2, hr2, q2⟩ := cellrich_ev hb (n := 99) (a := .int 1) (b := .int 2) (i := 1) (k := 2) (ρ := [some (.lst (ns.map D.int)), some P.D, some (.lst (rowsD P)), some (.str (wrP P)), none, none, none, none, none, none, none]) (μ := [.lst (rowsD P), .lst []]) (by omega) (by omega) rfl (by rw [ev]; rfl) (by rw [ev]; rfl)
  rw [seq_ev (set_ev q2)]
  simp only [List.set_cons_succ, List.set_cons_zero]
  obtain ⟨m, hm, em⟩ := mod_nat (n := 3) hr2 (by decide)
  have i0 : Inv 0 (rowsP P) := ⟨by omega, fun ws hws => by
    obtain ⟨g1, g2, g3⟩ := rowsP_wd hg ws hws
    exact ⟨g2, g1, by omega⟩⟩
  obtain ⟨R, o5, i2, hL⟩ := changes hb (n := 99) (by omega) (m := m) (by omega) i0 (o1 := some P.D) (o3 := some (.str (wrP P))) (o4 := some (.int r2)) (o6 := none) (o7 := none) (o8 := none) (o9 := none) (o10 := none) (μ := [.lst (rowsD P), .lst []])
  have hfor : evS (G 99) l_43_1 [some (.lst (ns.map D.int)), some P.D, some (.lst (rowsD P)), some (.str (wrP P)), some (.int r2), none, none, none, none, none, none] [.lst (rowsD P), .lst []] = .nx [some (.lst (ns.map D.int)), some P.D, some (.lst (R.map rowStr)), some (.str (wrP P)), some (.int r2), o5, none, none, none, none, none] [.lst (rowsD P), .lst []] := by
    unfold l_43_1
    have mv := mod_ev (Γ := G 99) (a := .var 4) (b := .int 3) (ρ := [some (.lst (ns.map D.int)), some P.D, some (.lst (rowsD P)), some (.str (wrP P)), some (.int r2), none, none, none, none, none, none]) (μ := [.lst (rowsD P), .lst []]) (n := 3) (by decide) (var_ev rfl) (by rw [ev]; rfl)
    rw [em] at mv
    have rg : rgOk 0 ((m : Nat) : Int) = true := by
      unfold rgOk
      exact decide_eq_true ⟨by decide, by decide, by omega, by omega⟩
    rw [evS]
    simp only [evW, mv, rg, if_true]
    exact hL
  rw [seq_ev hfor]
  have hR : ∀ ws ∈ R, RowOk ws := i2.rowOk (by omega)
  have hRl : R.length ≤ 65 := i2.1
  generalize [MO.lst (rowsD P), MO.lst []] = μ
  -- is the end there
  obtain ⟨e, he, ee⟩ := mod_nat (r := r2.fdiv 3) (n := 5) (fdiv_nn hr2 (by decide)) (by decide)
  have ev6 : ev (G 99) (.cmp .gt (.bin .mod (.bin .fdiv (.var 4) (.int 3)) (.int 5)) (.int 0)) [some (.lst (ns.map D.int)), some P.D, some (.lst (R.map rowStr)), some (.str (wrP P)), some (.int r2), o5, none, none, none, none, none] μ = .ok (.bl (decide (0 < e))) μ := by
    have mv := mod_ev (Γ := G 99) (b := .int 5) (ρ := [some (.lst (ns.map D.int)), some P.D, some (.lst (R.map rowStr)), some (.str (wrP P)), some (.int r2), o5, none, none, none, none, none]) (μ := μ) (n := 5) (by decide) (div_ev (k := 3) (by decide) (var_ev (i := 4) rfl)) (by rw [ev]; rfl)
    rw [show ((3 : Nat) : Int) = 3 from rfl, ee] at mv
    rw [ev, mv]
    have ed : decide ((0 : Int) < ((e : Nat) : Int)) = decide (0 < e) := by
      by_cases c : 0 < e
      · have : (0 : Int) < ((e : Nat) : Int) := by omega
        simp only [c, this, decide_true]
      · have : ¬ (0 : Int) < ((e : Nat) : Int) := by omega
        simp only [c, this, decide_false]
    simp only [bind_ok, ev, cop, ed]
  rw [seq_ev (set_ev ev6)]
  simp only [List.set_cons_succ, List.set_cons_zero]
  generalize decide (0 < e) = eb
  -- what is written
  have jl : (jn (R.map jw)).length ≤ 20000 := jn_len (by
    intro w hw
    obtain ⟨ws, hws, rfl⟩ := List.mem_map.mp hw
    have := hR ws hws
    exact jw_len this.2.1 this.2.2) (by simp; omega)
  have jv := joined_ev (Γ := G 99) (R := R) (ρ := [some (.lst (ns.map D.int)), some P.D, some (.lst (R.map rowStr)), some (.str (wrP P)), some (.int r2), o5, some (.bl eb), none, none, none, none]) (μ := μ) rfl hR (by omega)
  have l0 := len0_ev (Γ := G 99) (R := R) (ρ := [some (.lst (ns.map D.int)), some P.D, some (.lst (R.map rowStr)), some (.str (wrP P)), some (.int r2), o5, some (.bl eb), none, none, none, none]) (μ := μ) rfl
  have v6 : ev (G 99) (.var 6) [some (.lst (ns.map D.int)), some P.D, some (.lst (R.map rowStr)), some (.str (wrP P)), some (.int r2), o5, some (.bl eb), none, none, none, none] μ = .ok (.bl eb) μ := var_ev rfl
  have nl : ("\n" : Str).length = 1 := rfl
  have n0 : ("" : Str).length = 0 := rfl
  have wv : ∀ y : Str, y.length ≤ 1 → ev (G 99) (.ite (.and (.var 6) (.one (.cmp .gt (.bi .len (.var 2)) (.int 0)))) (.str "\n") (.str "")) [some (.lst (ns.map D.int)), some P.D, some (.lst (R.map rowStr)), some (.str (wrP P)), some (.int r2), o5, some (.bl eb), none, none, none, none] μ = .ok (.str y) μ →
      ev (G 99) (.bin .add (.mth1 .join (.str "\n") (.var 2)) (.ite (.and (.var 6) (.one (.cmp .gt (.bi .len (.var 2)) (.int 0)))) (.str "\n") (.str ""))) [some (.lst (ns.map D.int)), some P.D, some (.lst (R.map rowStr)), some (.str (wrP P)), some (.int r2), o5, some (.bl eb), none, none, none, none] μ = .ok (.str (jn (R.map jw) ++ y)) μ := by
    intro y hy hv
    rw [ev_bin jv hv]
    simp only [bop]
    rw [if_pos ⟨trivial, by rw [sizeLine_eq]; omega⟩]
  have l0' : ∀ w : Str, ev (G 99) (.cmp .gt (.bi .len (.var 2)) (.int 0)) [some (.lst (ns.map D.int)), some P.D, some (.lst (R.map rowStr)), some (.str w), some (.int r2), o5, some (.bl eb), none, none, none, none] μ = .ok (.bl (decide (0 < R.length))) μ := fun w => len0_ev rfl
  have n6' : ∀ w : Str, ev (G 99) (.not (.var 6)) [some (.lst (ns.map D.int)), some P.D, some (.lst (R.map rowStr)), some (.str w), some (.int r2), o5, some (.bl eb), none, none, none, none] μ = .ok (.bl (!eb)) μ := fun w => by
    rw [ev, var_ev rfl]; rfl
  have em0 : ∀ w : Str, w ++ "" = w := fun w => tl_inj (by rw [tl_app, tl_empty, List.append_nil])
  by_cases hne : R = []
  · subst hne
    rw [decide_eq_false (by simp)] at l0
    have cv : ev (G 99) (.ite (.and (.var 6) (.one (.cmp .gt (.bi .len (.var 2)) (.int 0)))) (.str "\n") (.str "")) [some (.lst (ns.map D.int)), some P.D, some (.lst ([].map rowStr)), some (.str (wrP P)), some (.int r2), o5, some (.bl eb), none, none, none, none] μ = .ok (.str "") μ := by
      cases eb with
      | true => rw [itee_f ((and_t v6).trans (one_ev.trans l0))]; rfl
      | false => rw [itee_f (and_f v6)]; rfl
    rw [seq_ev (set_ev (wv "" (by rw [n0]; omega) cv))]
    simp only [List.set_cons_succ, List.set_cons_zero]
    have z0 : jn (([] : List (List Str)).map jw) ++ "" = "" := rfl
    rw [z0]
    have lw := l0' ""
    rw [decide_eq_false (by simp)] at lw
    have tv : ev (G 99) (.and (.not (.var 6)) (.one (.cmp .gt (.bi .len (.var 2)) (.int 0)))) [some (.lst (ns.map D.int)), some P.D, some (.lst (([] : List (List Str)).map rowStr)), some (.str ""), some (.int r2), o5, some (.bl eb), none, none, none, none] μ = .ok (.bl false) μ := by
      have := n6' ""
      cases eb with
      | true => exact and_f this
      | false => exact (and_t this).trans (one_ev.trans lw)
    rw [seq_ev ((ite_f tv).trans skip_ev)]
    exact ⟨μ, last_lines (F := []) (z := "") (by simp) (by simp) (by rw [n0]; omega) (by
      have := split_rows (l := [("" : Str)]) (by simp) (by intro z hz; simp at hz; subst hz; rw [tl_empty]; simp)
      rw [show Txt.join "\n" [("" : Str)] = "" from jn_one ""] at this
      exact this) (by rw [decide_eq_true rfl]; simp)⟩
  · have hpos : 0 < R.length := List.length_pos_iff.mpr hne
    rw [decide_eq_true hpos] at l0
    have no10 : ∀ z ∈ R.map jw, 10 ∉ tl z := by
      intro z hz
      obtain ⟨ws, hws, rfl⟩ := List.mem_map.mp hz
      exact jw_no10 (hR ws hws).2.1
    cases eb with
    | true =>
      have cv : ev (G 99) (.ite (.and (.var 6) (.one (.cmp .gt (.bi .len (.var 2)) (.int 0)))) (.str "\n") (.str "")) [some (.lst (ns.map D.int)), some P.D, some (.lst (R.map rowStr)), some (.str (wrP P)), some (.int r2), o5, some (.bl true), none, none, none, none] μ = .ok (.str "\n") μ := by
        rw [itee_t ((and_t v6).trans (one_ev.trans l0))]; rfl
      rw [seq_ev (set_ev (wv "\n" (by rw [nl]; omega) cv))]
      simp only [List.set_cons_succ, List.set_cons_zero]
      rw [seq_ev ((ite_f (and_f (n6' _))).trans skip_ev)]
      refine ⟨μ, last_lines (F := R) (z := "") hR (by omega) (by rw [PySem.Str.length_append, nl]; omega) ?_ (by rw [decide_eq_true rfl]; rfl)⟩
      rw [jn_nl _ (by simpa using hne)]
      exact split_rows (by simp) (by
        intro z hz
        simp only [List.mem_append, List.mem_singleton] at hz
        rcases hz with hz | rfl
        · exact no10 z hz
        · rw [tl_empty]; simp)
    | false =>
      have cv : ev (G 99) (.ite (.and (.var 6) (.one (.cmp .gt (.bi .len (.var 2)) (.int 0)))) (.str "\n") (.str "")) [some (.lst (ns.map D.int)), some P.D, some (.lst (R.map rowStr)), some (.str (wrP P)), some (.int r2), o5, some (.bl false), none, none, none, none] μ = .ok (.str "") μ := by
        rw [itee_f (and_f v6)]; rfl
      rw [seq_ev (set_ev (wv "" (by rw [n0]; omega) cv))]
      simp only [List.set_cons_succ, List.set_cons_zero]
      rw [em0]
      have lw := l0' (jn (R.map jw))
      rw [decide_eq_true hpos] at lw
      obtain ⟨F, ws, rfl⟩ : ∃ F ws, R = F ++ [ws] := ⟨R.dropLast, R.getLast hne, (List.dropLast_concat_getLast hne).symm⟩
      have s1 : ev (G 99) (.slt (.var 2) (.neg (.int 1))) [some (.lst (ns.map D.int)), some P.D, some (.lst ((F ++ [ws]).map rowStr)), some (.str (jn ((F ++ [ws]).map jw))), some (.int r2), o5, some (.bl false), none, none, none, none] μ = .ok (.lst (F.map rowStr)) μ := by
        rw [ev, var_ev rfl]
        simp only [bind_ok, ev, isI_int, slP, lstD]
        rw [cut_last]
        simp
      have s2 : ev (G 99) (.cmp .eq (.slf (.var 3) (.neg (.int 1))) (.str "\n")) [some (.lst (ns.map D.int)), some P.D, some (.lst (F.map rowStr)), some (.str (jn ((F ++ [ws]).map jw))), some (.int r2), o5, some (.bl false), none, none, none, none] μ = .ok (.bl (decide (L2.cutS (jn ((F ++ [ws]).map jw)) (some (-1)) none = "\n"))) μ := by
        refine eqs_ev ?_ rfl
        have hz : (jn ((F ++ [ws]).map jw)).length ≤ sizeLine := by rw [sizeLine_eq]; omega
        rw [ev, var_ev rfl]
        simp only [bind_ok, ev, isI_int, slP]
        rw [if_pos hz]
      rw [seq_ev ((ite_t ((and_t (n6' _)).trans (one_ev.trans lw))).trans ((seq_ev (set_ev s1)).trans ((seq_ev (set_ev s2)).trans skip_ev)))]
      have hmap : (F ++ [ws]).map jw = F.map jw ++ [jw ws] := by simp
      refine ⟨μ, last_lines (F := F) (z := jw ws) (fun v hv => hR v (by simp [hv])) (by simp at hRl; omega) (by omega) ?_ (cond_eq (F := F) (z := jw ws) (by rw [hmap]) (no10 _ (by rw [hmap]; simp)))⟩
      rw [hmap]
      exact split_rows (by simp) (by rw [← hmap]; exact no10)
end K82
set_option Elab.async false
set_option linter.all false
set_option maxRecDepth 100000
set_option maxHeartbeats 4000000
/-! K82c: the law over the head. -/
namespace K82
open PySem PySem.Spec PyProof.Rows L2 KA
section
variable {K : PySem.W.Frag} {h : Heap} {mg : Str → Option Value}
theorem b_10 : Bd (top 10) ["value"] := fun _ _ _ _ _ _ us hl => match us, hl with | [_], _ => rfl
theorem e_is_integer (X : K.In h) (G : h.Ns mainGlobals mg) (c : He.SaysD fas dfs K) : Ent M K mg "is_integer" ⟨["value"], ["value"], c_is_integer_10⟩ := ent_of (st := top 10) X G c (inFa_ok (by decide +kernel)) (List.mem_map.mpr ⟨("is_integer", 10), by decide +kernel, rfl⟩) (by decide +kernel) (by decide +kernel) b_10
theorem b_11 : Bd (top 11) ["value"] := fun _ _ _ _ _ _ us hl => match us, hl with | [_], _ => rfl
theorem e_is_ratio (X : K.In h) (G : h.Ns mainGlobals mg) (c : He.SaysD fas dfs K) : Ent M K mg "is_ratio" ⟨["value"], ["value"], c_is_ratio_11⟩ := ent_of (st := top 11) X G c (inFa_ok (by decide +kernel)) (List.mem_map.mpr ⟨("is_ratio", 11), by decide +kernel, rfl⟩) (by decide +kernel) (by decide +kernel) b_11
theorem b_12 : Bd (top 12) ["ratio"] := fun _ _ _ _ _ _ us hl => match us, hl with | [_], _ => rfl
theorem e_text (X : K.In h) (G : h.Ns mainGlobals mg) (c : He.SaysD fas dfs K) : Ent M K mg "text" ⟨["ratio"], ["ratio"], c_text_12⟩ := ent_of (st := top 12) X G c (inFa_ok (by decide +kernel)) (List.mem_map.mpr ⟨("text", 12), by decide +kernel, rfl⟩) (by decide +kernel) (by decide +kernel) b_12
theorem b_13 : Bd (top 13) ["word"] := fun _ _ _ _ _ _ us hl => match us, hl with | [_], _ => rfl
theorem e_digits_value (X : K.In h) (G : h.Ns mainGlobals mg) (c : He.SaysD fas dfs K) : Ent M K mg "digits_value" ⟨["word"], ["word", "char"], c_digits_value_13⟩ := ent_of (st := top 13) X G c (inFa_ok (by decide +kernel)) (List.mem_map.mpr ⟨("digits_value", 13), by decide +kernel, rfl⟩) (by decide +kernel) (by decide +kernel) b_13
theorem b_14 : Bd (top 14) ["word"] := fun _ _ _ _ _ _ us hl => match us, hl with | [_], _ => rfl
theorem e_parse_ratios (X : K.In h) (G : h.Ns mainGlobals mg) (c : He.SaysD fas dfs K) : Ent M K mg "parse_ratios" ⟨["word"], ["word", "above", "sign", "below", "minus", "ratio"], c_parse_ratios_14⟩ := ent_of (st := top 14) X G c (inFa_ok (by decide +kernel)) (List.mem_map.mpr ⟨("parse_ratios", 14), by decide +kernel, rfl⟩) (by decide +kernel) (by decide +kernel) b_14
theorem b_17 : Bd (top 17) ["word"] := fun _ _ _ _ _ _ us hl => match us, hl with | [_], _ => rfl
theorem e_count_of (X : K.In h) (G : h.Ns mainGlobals mg) (c : He.SaysD fas dfs K) : Ent M K mg "count_of" ⟨["word"], ["word"], c_count_of_17⟩ := ent_of (st := top 17) X G c (inFa_ok (by decide +kernel)) (List.mem_map.mpr ⟨("count_of", 17), by decide +kernel, rfl⟩) (by decide +kernel) (by decide +kernel) b_17
theorem b_19 : Bd (top 19) ["paper"] := fun _ _ _ _ _ _ us hl => match us, hl with | [_], _ => rfl
theorem e_rows_of (X : K.In h) (G : h.Ns mainGlobals mg) (c : He.SaysD fas dfs K) : Ent M K mg "rows_of" ⟨["paper"], ["paper", "found", "left", "one", "words", "item"], c_rows_of_19⟩ := ent_of (st := top 19) X G c (inFa_ok (by decide +kernel)) (List.mem_map.mpr ⟨("rows_of", 19), by decide +kernel, rfl⟩) (by decide +kernel) (by decide +kernel) b_19
theorem b_20 : Bd (top 20) ["paper"] := fun _ _ _ _ _ _ us hl => match us, hl with | [_], _ => rfl
theorem e_text_of (X : K.In h) (G : h.Ns mainGlobals mg) (c : He.SaysD fas dfs K) : Ent M K mg "text_of" ⟨["paper"], ["paper", "row"], c_text_of_20⟩ := ent_of (st := top 20) X G c (inFa_ok (by decide +kernel)) (List.mem_map.mpr ⟨("text_of", 20), by decide +kernel, rfl⟩) (by decide +kernel) (by decide +kernel) b_20
theorem b_21 : Bd (top 21) ["words"] := fun _ _ _ _ _ _ us hl => match us, hl with | [_], _ => rfl
theorem e_leaf_of (X : K.In h) (G : h.Ns mainGlobals mg) (c : He.SaysD fas dfs K) : Ent M K mg "leaf_of" ⟨["words"], ["words", "at", "multipliers", "word"], c_leaf_of_21⟩ := ent_of (st := top 21) X G c (inFa_ok (by decide +kernel)) (List.mem_map.mpr ⟨("leaf_of", 21), by decide +kernel, rfl⟩) (by decide +kernel) (by decide +kernel) b_21
theorem b_22 : Bd (top 22) ["row", "index"] := fun _ _ _ _ _ _ us hl => match us, hl with | [_, _], _ => rfl
theorem e_row_of (X : K.In h) (G : h.Ns mainGlobals mg) (c : He.SaysD fas dfs K) : Ent M K mg "row_of" ⟨["row", "index"], ["row", "index", "words"], c_row_of_22⟩ := ent_of (st := top 22) X G c (inFa_ok (by decide +kernel)) (List.mem_map.mpr ⟨("row_of", 22), by decide +kernel, rfl⟩) (by decide +kernel) (by decide +kernel) b_22
theorem b_23 : Bd (top 23) ["written"] := fun _ _ _ _ _ _ us hl => match us, hl with | [_], _ => rfl
theorem e_parse_papertexts (X : K.In h) (G : h.Ns mainGlobals mg) (c : He.SaysD fas dfs K) : Ent M K mg "parse_papertexts" ⟨["written"], ["written", "rows", "cases", "index", "paper", "read", "unit", "positive"], c_parse_23⟩ := ent_of (st := top 23) X G c (inFa_ok (by decide +kernel)) (List.mem_map.mpr ⟨("parse_papertexts", 23), by decide +kernel, rfl⟩) (by decide +kernel) (by decide +kernel) b_23
theorem b_26 : Bd (top 26) ["script", "k"] := fun _ _ _ _ _ _ us hl => match us, hl with | [_, _], _ => rfl
theorem e__law_cell (X : K.In h) (G : h.Ns mainGlobals mg) (c : He.SaysD fas dfs K) : Ent M K mg "_law_cell" ⟨["script", "k"], ["script", "k"], c__law_cell_26⟩ := ent_of (st := top 26) X G c (inFa_ok (by decide +kernel)) (List.mem_map.mpr ⟨("_law_cell", 26), by decide +kernel, rfl⟩) (by decide +kernel) (by decide +kernel) b_26
theorem b_27 : Bd (top 27) ["cell", "k"] := fun _ _ _ _ _ _ us hl => match us, hl with | [_, _], _ => rfl
theorem e__law_rich (X : K.In h) (G : h.Ns mainGlobals mg) (c : He.SaysD fas dfs K) : Ent M K mg "_law_rich" ⟨["cell", "k"], ["cell", "k", "mixed"], c__law_rich_27⟩ := ent_of (st := top 27) X G c (inFa_ok (by decide +kernel)) (List.mem_map.mpr ⟨("_law_rich", 27), by decide +kernel, rfl⟩) (by decide +kernel) (by decide +kernel) b_27
theorem b_28 : Bd (top 28) ["above", "below"] := fun _ _ _ _ _ _ us hl => match us, hl with | [_, _], _ => rfl
theorem e__law_make (X : K.In h) (G : h.Ns mainGlobals mg) (c : He.SaysD fas dfs K) : Ent M K mg "_law_make" ⟨["above", "below"], ["above", "below", "one", "other"], c__law_make_28⟩ := ent_of (st := top 28) X G c (inFa_ok (by decide +kernel)) (List.mem_map.mpr ⟨("_law_make", 28), by decide +kernel, rfl⟩) (by decide +kernel) (by decide +kernel) b_28
theorem b_29 : Bd (top 29) ["one", "other"] := fun _ _ _ _ _ _ us hl => match us, hl with | [_, _], _ => rfl
theorem e__law_add (X : K.In h) (G : h.Ns mainGlobals mg) (c : He.SaysD fas dfs K) : Ent M K mg "_law_add" ⟨["one", "other"], ["one", "other"], c__law_add_29⟩ := ent_of (st := top 29) X G c (inFa_ok (by decide +kernel)) (List.mem_map.mpr ⟨("_law_add", 29), by decide +kernel, rfl⟩) (by decide +kernel) (by decide +kernel) b_29
theorem b_30 : Bd (top 30) ["one", "other"] := fun _ _ _ _ _ _ us hl => match us, hl with | [_, _], _ => rfl
theorem e__law_mul (X : K.In h) (G : h.Ns mainGlobals mg) (c : He.SaysD fas dfs K) : Ent M K mg "_law_mul" ⟨["one", "other"], ["one", "other"], c__law_mul_30⟩ := ent_of (st := top 30) X G c (inFa_ok (by decide +kernel)) (List.mem_map.mpr ⟨("_law_mul", 30), by decide +kernel, rfl⟩) (by decide +kernel) (by decide +kernel) b_30
theorem b_31 : Bd (top 31) ["one", "other"] := fun _ _ _ _ _ _ us hl => match us, hl with | [_, _], _ => rfl
theorem e__law_less (X : K.In h) (G : h.Ns mainGlobals mg) (c : He.SaysD fas dfs K) : Ent M K mg "_law_less" ⟨["one", "other"], ["one", "other"], c__law_less_31⟩ := ent_of (st := top 31) X G c (inFa_ok (by decide +kernel)) (List.mem_map.mpr ⟨("_law_less", 31), by decide +kernel, rfl⟩) (by decide +kernel) (by decide +kernel) b_31
theorem b_32 : Bd (top 32) ["rich"] := fun _ _ _ _ _ _ us hl => match us, hl with | [_], _ => rfl
theorem e__law_ratio (X : K.In h) (G : h.Ns mainGlobals mg) (c : He.SaysD fas dfs K) : Ent M K mg "_law_ratio" ⟨["rich"], ["rich", "above"], c__law_ratio_32⟩ := ent_of (st := top 32) X G c (inFa_ok (by decide +kernel)) (List.mem_map.mpr ⟨("_law_ratio", 32), by decide +kernel, rfl⟩) (by decide +kernel) (by decide +kernel) b_32
theorem b_33 : Bd (top 33) ["one", "other"] := fun _ _ _ _ _ _ us hl => match us, hl with | [_, _], _ => rfl
theorem e__law_dot (X : K.In h) (G : h.Ns mainGlobals mg) (c : He.SaysD fas dfs K) : Ent M K mg "_law_dot" ⟨["one", "other"], ["one", "other", "found", "k"], c__law_dot_33⟩ := ent_of (st := top 33) X G c (inFa_ok (by decide +kernel)) (List.mem_map.mpr ⟨("_law_dot", 33), by decide +kernel, rfl⟩) (by decide +kernel) (by decide +kernel) b_33
theorem b_34 : Bd (top 34) ["rich", "depth"] := fun _ _ _ _ _ _ us hl => match us, hl with | [_, _], _ => rfl
theorem e__law_paper (X : K.In h) (G : h.Ns mainGlobals mg) (c : He.SaysD fas dfs K) : Ent M K mg "_law_paper" ⟨["rich", "depth"], ["rich", "depth", "multipliers", "k"], c__law_paper_34⟩ := ent_of (st := top 34) X G c (inFa_ok (by decide +kernel)) (List.mem_map.mpr ⟨("_law_paper", 34), by decide +kernel, rfl⟩) (by decide +kernel) (by decide +kernel) b_34
theorem b_35 : Bd (top 35) ["ratio"] := fun _ _ _ _ _ _ us hl => match us, hl with | [_], _ => rfl
theorem e__law_text (X : K.In h) (G : h.Ns mainGlobals mg) (c : He.SaysD fas dfs K) : Ent M K mg "_law_text" ⟨["ratio"], ["ratio"], c__law_text_35⟩ := ent_of (st := top 35) X G c (inFa_ok (by decide +kernel)) (List.mem_map.mpr ⟨("_law_text", 35), by decide +kernel, rfl⟩) (by decide +kernel) (by decide +kernel) b_35
theorem b_36 : Bd (top 36) ["paper"] := fun _ _ _ _ _ _ us hl => match us, hl with | [_], _ => rfl
theorem e__law_rows (X : K.In h) (G : h.Ns mainGlobals mg) (c : He.SaysD fas dfs K) : Ent M K mg "_law_rows" ⟨["paper"], ["paper", "item"], c__law_rows_36⟩ := ent_of (st := top 36) X G c (inFa_ok (by decide +kernel)) (List.mem_map.mpr ⟨("_law_rows", 36), by decide +kernel, rfl⟩) (by decide +kernel) (by decide +kernel) b_36
theorem b_37 : Bd (top 37) ["word"] := fun _ _ _ _ _ _ us hl => match us, hl with | [_], _ => rfl
theorem e__law_number (X : K.In h) (G : h.Ns mainGlobals mg) (c : He.SaysD fas dfs K) : Ent M K mg "_law_number" ⟨["word"], ["word", "char"], c__law_number_37⟩ := ent_of (st := top 37) X G c (inFa_ok (by decide +kernel)) (List.mem_map.mpr ⟨("_law_number", 37), by decide +kernel, rfl⟩) (by decide +kernel) (by decide +kernel) b_37
theorem b_38 : Bd (top 38) ["word"] := fun _ _ _ _ _ _ us hl => match us, hl with | [_], _ => rfl
theorem e__law_read (X : K.In h) (G : h.Ns mainGlobals mg) (c : He.SaysD fas dfs K) : Ent M K mg "_law_read" ⟨["word"], ["word", "above", "slash", "below", "minus", "number", "other"], c__law_read_38⟩ := ent_of (st := top 38) X G c (inFa_ok (by decide +kernel)) (List.mem_map.mpr ⟨("_law_read", 38), by decide +kernel, rfl⟩) (by decide +kernel) (by decide +kernel) b_38
theorem b_39 : Bd (top 39) ["words"] := fun _ _ _ _ _ _ us hl => match us, hl with | [_], _ => rfl
theorem e__law_leaf (X : K.In h) (G : h.Ns mainGlobals mg) (c : He.SaysD fas dfs K) : Ent M K mg "_law_leaf" ⟨["words"], ["words", "at", "left", "right", "word"], c__law_leaf_39⟩ := ent_of (st := top 39) X G c (inFa_ok (by decide +kernel)) (List.mem_map.mpr ⟨("_law_leaf", 39), by decide +kernel, rfl⟩) (by decide +kernel) (by decide +kernel) b_39
theorem b_40 : Bd (top 40) ["rows", "at"] := fun _ _ _ _ _ _ us hl => match us, hl with | [_, _], _ => rfl
theorem e__law_paper_at (X : K.In h) (G : h.Ns mainGlobals mg) (c : He.SaysD fas dfs K) : Ent M K mg "_law_paper_at" ⟨["rows", "at"], ["rows", "at", "words", "one", "behind", "other", "last"], c__law_paper_at_40⟩ := ent_of (st := top 40) X G c (inFa_ok (by decide +kernel)) (List.mem_map.mpr ⟨("_law_paper_at", 40), by decide +kernel, rfl⟩) (by decide +kernel) (by decide +kernel) b_40
theorem b_41 : Bd (top 41) ["rows", "rich"] := fun _ _ _ _ _ _ us hl => match us, hl with | [_, _], _ => rfl
theorem e__law_changed (X : K.In h) (G : h.Ns mainGlobals mg) (c : He.SaysD fas dfs K) : Ent M K mg "_law_changed" ⟨["rows", "rich"], ["rows", "rich", "at", "words", "spot", "choice"], c__law_changed_41⟩ := ent_of (st := top 41) X G c (inFa_ok (by decide +kernel)) (List.mem_map.mpr ⟨("_law_changed", 41), by decide +kernel, rfl⟩) (by decide +kernel) (by decide +kernel) b_41
theorem b_42 : Bd (top 42) ["written"] := fun _ _ _ _ _ _ us hl => match us, hl with | [_], _ => rfl
theorem e__law_told (X : K.In h) (G : h.Ns mainGlobals mg) (c : He.SaysD fas dfs K) : Ent M K mg "_law_told" ⟨["written"], ["written", "e"], c__law_told_42⟩ := ent_of (st := top 42) X G c (inFa_ok (by decide +kernel)) (List.mem_map.mpr ⟨("_law_told", 42), by decide +kernel, rfl⟩) (by decide +kernel) (by decide +kernel) b_42
theorem b_43 : Bd (top 43) ["script"] := fun _ _ _ _ _ _ us hl => match us, hl with | [_], _ => rfl
theorem e_law (X : K.In h) (G : h.Ns mainGlobals mg) (c : He.SaysD fas dfs K) : Ent M K mg "law" ⟨["script"], ["script", "paper", "rows", "written", "rich", "k", "ended", "found", "behind", "due", "row"], c_law_43⟩ := ent_of (st := top 43) X G c (inFa_ok (by decide +kernel)) (List.mem_map.mpr ⟨("law", 43), by decide +kernel, rfl⟩) (by decide +kernel) (by decide +kernel) b_43
theorem ents (X : K.In h) (G : h.Ns mainGlobals mg) (c : He.SaysD fas dfs K) : ∀ p ∈ tab, Ent M K mg p.1 p.2 := by
  have e : ∀ p ∈ tab, Ent M K mg p.1 p.2 := List.forall_mem_cons.mpr ⟨e_is_integer X G c, List.forall_mem_cons.mpr ⟨e_is_ratio X G c, List.forall_mem_cons.mpr ⟨e_text X G c, List.forall_mem_cons.mpr ⟨e_digits_value X G c, List.forall_mem_cons.mpr ⟨e_parse_ratios X G c, List.forall_mem_cons.mpr ⟨e_count_of X G c, List.forall_mem_cons.mpr ⟨e_rows_of X G c, List.forall_mem_cons.mpr ⟨e_text_of X G c, List.forall_mem_cons.mpr ⟨e_leaf_of X G c, List.forall_mem_cons.mpr ⟨e_row_of X G c, List.forall_mem_cons.mpr ⟨e_parse_papertexts X G c, List.forall_mem_cons.mpr ⟨e__law_cell X G c, List.forall_mem_cons.mpr ⟨e__law_rich X G c, List.forall_mem_cons.mpr ⟨e__law_make X G c, List.forall_mem_cons.mpr ⟨e__law_add X G c, List.forall_mem_cons.mpr ⟨e__law_mul X G c, List.forall_mem_cons.mpr ⟨e__law_less X G c, List.forall_mem_cons.mpr ⟨e__law_ratio X G c, List.forall_mem_cons.mpr ⟨e__law_dot X G c, List.forall_mem_cons.mpr ⟨e__law_paper X G c, List.forall_mem_cons.mpr ⟨e__law_text X G c, List.forall_mem_cons.mpr ⟨e__law_rows X G c, List.forall_mem_cons.mpr ⟨e__law_number X G c, List.forall_mem_cons.mpr ⟨e__law_read X G c, List.forall_mem_cons.mpr ⟨e__law_leaf X G c, List.forall_mem_cons.mpr ⟨e__law_paper_at X G c, List.forall_mem_cons.mpr ⟨e__law_changed X G c, List.forall_mem_cons.mpr ⟨e__law_told X G c, List.forall_mem_cons.mpr ⟨e_law X G c, fun p hp => by cases hp⟩⟩⟩⟩⟩⟩⟩⟩⟩⟩⟩⟩⟩⟩⟩⟩⟩⟩⟩⟩⟩⟩⟩⟩⟩⟩⟩⟩⟩
  exact e
theorem hdOk (X : K.In h) (G : h.Ns mainGlobals mg) (c : He.SaysD fas dfs K) (hx : ex K = true) : HdOk M B K mg := by
  unfold ex at hx
  simp only [Bool.and_eq_true] at hx
  obtain ⟨⟨h1, h2⟩, h3⟩ := hx
  refine hdOk_of X G c ?_ ?_ (fun _ => h2) ?_ ?_
  · exact List.forall_mem_cons.mpr ⟨⟨_, inFa_ok (f := .str "DIGITS" "0123456789") (by decide +kernel), rfl⟩, List.forall_mem_cons.mpr ⟨⟨_, inFa_ok (f := .int "MOST_COUNT_FIGURES" 9) (by decide +kernel), rfl⟩,
      List.forall_mem_cons.mpr ⟨⟨_, inFa_ok (f := .int "MOST_FIGURES" 600) (by decide +kernel), rfl⟩, List.forall_mem_cons.mpr ⟨⟨_, inFa_ok (f := .int "TOO_GREAT" (10 ^ 600)) (by decide +kernel), rfl⟩, fun p hp => by cases hp⟩⟩⟩⟩
  · have z : M.blts.all (fun x => inFa fas (.free x)) = true := by decide +kernel
    exact fun x hx => inFa_ok (List.all_eq_true.mp z x hx)
  · exact List.forall_mem_cons.mpr ⟨.inl ⟨rfl, inFa_ok (by decide +kernel), inFa_ok (by decide +kernel)⟩, List.forall_mem_cons.mpr ⟨.inr ⟨"row", _, rfl, inFa_ok (by decide +kernel), erKB_ok (by decide) (by decide) (fun _ _ _ _ _ _ _ _ _ _ _ _ => rfl) h1⟩, fun p hp => by cases hp⟩⟩
  · have z : subs.all (fun p => inFa fas (.exm p.1.1 p.1.2 p.2) && inFa fas (.glo p.1.1) && inFa fas (.glo p.1.2)) = true := by decide +kernel
    intro p hp
    have q := List.all_eq_true.mp z p hp
    simp only [Bool.and_eq_true] at q
    exact ⟨inFa_ok q.1.1, inFa_ok q.1.2, inFa_ok q.2⟩
end
end K82
open PySem PySem.W PySem.Calls PyProof.Rows
theorem PySem.Challenge.cw_kinkatlas_k82_texts_of_papers_holds : PySem.Challenge.rw_kinkatlas_k82_texts_of_papers.Holds := by
  w_on; o_law
  refine HandSHeadRun.head_imp (r := OpenLaw.row PySem.Challenge.rw_kinkatlas_k82_texts_of_papers) (q := view (OpenLaw.row PySem.Challenge.rw_kinkatlas_k82_texts_of_papers).prog [0, 43]) (H := K82.hk) (ob := K82.ob) (M := 6000) (loose := K82.loose) (d := HandSHeadRun.topDef (OpenLaw.row PySem.Challenge.rw_kinkatlas_k82_texts_of_papers).prog 43) (kwd := []) K82.ob_eq
    K82.run (by kernel_rfl) (by kernel_rfl) (by kernel_rfl) (by rfl) (by first | assumption | decide +kernel) (by decide +kernel) ⟨rfl, rfl, rfl, rfl, rfl, by decide +kernel⟩ ?hw ?hc
  case hw => w_witness2
  case hc =>
    refine KA.walk_KA (l := PySem.Challenge.rw_kinkatlas_k82_texts_of_papers) (n := 63) (k := 100) (x := "law") (M := K82.M) (B := K82.B) (tab := K82.tab) (st := K82.top 43) (d := ⟨["script"], ["script", "paper", "rows", "written", "rich", "k", "ended", "found", "behind", "due", "row"], K82.c_law_43⟩) rfl (by decide) (by kernel_rfl) ⟨rfl, by decide, by decide⟩ rfl
      (by kernel_rfl) (by decide +kernel) ⟨_, rfl⟩ (by kernel_rfl) (List.mem_map.mpr ⟨("law", 43), by decide +kernel, rfl⟩) (KA.inFa_ok (by decide +kernel)) K82.b_43 (fun K hK => ?_) (fun K h mg X G c hK => ⟨K82.hdOk X G c hK, K82.ents X G c⟩) K82.law_true
    unfold K82.ex at hK
    simp only [Bool.and_eq_true] at hK
    exact hK.2
