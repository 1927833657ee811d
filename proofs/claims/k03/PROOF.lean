import PyProof.Rows.All
import Wide.All
import OpenK.AllK
import Wide.FinOn
import KE.KLam
import HandS.ForMost
import HandS.Exc
import HandS.ExcOwn
import HandS.RaiseMore
import HandS.More
import HandS.Defaults
import HandS.IsInst
import HandS.TupAny
import HandS.TupMul
import HandS.Wide
import HandS.WideBits
import HandS.TryMany
import HandS.CallRecv
import HandS.HeadWalk
import HandS.Style
import HandS.HeadHook1
import HandS.HeadHook2
import HandS.HeadHook4
import HandS.ExcInit
import HandS.ExcField
import KE.KExcSuper
import HandS.Head0
import HandS.Head1
import HandS.Head2
import HandS.HeadEnd
import HandS.EndBits
import PySem.Challenge.RW_madetwice_k03_whole_signs_and_names
set_option Elab.async false
set_option linter.all false
set_option maxRecDepth 100000
set_option maxHeartbeats 4000000
/-! Z1: own syntax of the subset, own values, the evaluator -/
namespace Z
open PySem
abbrev Key := Sum Int Str

inductive K0 where
  | non | bl (b : Bool) | int (i : Int) | str (x : Str)
  deriving DecidableEq
inductive BO where
  | add | sub | mul | fdiv | mod | pow
  deriving DecidableEq
inductive CO where
  | lt | le | gt | ge | eq | ne | inn | nin
  deriving DecidableEq
/-- built-in functions, by value -/
inductive BI where
  | len | abs | int | str | repr | max | min | sum | all | any | tuple | list | divmod
  deriving DecidableEq
/-- methods of built-in types -/
inductive BM where
  | append | extend | pop | index | get | split | join | isalnum
  deriving DecidableEq
/-- built-in types that are asked for -/
inductive TY where
  | int | bool | str | tuple | list | dict
  deriving DecidableEq
/-- what a for or a comprehension walks -/
inductive IK where
  | seq | range | enum | zip | items
  deriving DecidableEq
/-- a pattern of names -/
inductive P where
  | v (i : Nat) | tp (ps : List P)

/-- an item of a told exception: a text, a field of it -/
inductive HI where
  | s (x : Str) | f (x : Str)
/-- a def that calls what it got and tells how it went: tag, value | none; by class, what is told of it -/
structure TD where
  ok : Option Str
  hs : List (Str × List HI)
mutual
inductive E where
  | k (c : K0)
  | v (i : Nat)
  | g (x : Str)
  | bin (o : BO) (a b : E)
  | neg (a : E)
  | cmp (o : CO) (a b : E)
  | isN (a : E)
  | notN (a : E)
  | chain (o p : CO) (a b c : E)
  | and (a b : E)
  | or (a b : E)
  | not (a : E)
  | ife (c a b : E)
  | tup (es : Es)
  | lst (es : Es)
  | att (a : E) (f : Str)
  | idx (a i : E)
  | sl (a : E) (lo hi : Op)
  | call (f : Str) (es : Es)
  | callk (f : Str) (es : Es) (ks : List Str) (vs : Es)
  | mk (c : Str) (es : Es)
  | calv (i : Nat) (es : Es)
  | met (o : E) (m : Str) (es : Es)
  | bi (b : BI) (es : Es)
  | isi (a : E) (cs : List TY)
  | bm (b : BM) (o : E) (es : Es)
  | lc (own : List (Str × Nat)) (p : P) (ik : IK) (src : Es) (c e : E)
  | told (f : Str) (b : E)
  | nev
inductive Es where
  | nil
  | cons (e : E) (r : Es)
  | star (e : E) (r : Es)
inductive Op where
  | no
  | so (e : E)
end

/-! targets -/
mutual
inductive T where
  | v (i : Nat)
  | at (o : E) (f : Str)
  | ix (o i : E)
  | tp (ts : Ts)
inductive Ts where
  | nil
  | cons (t : T) (r : Ts)
end

mutual
inductive S where
  | set (t : T) (e : E)
  | par (i j : Nat) (a b : E)
  | par3 (i j l : Nat) (a b c : E)
  | ex (e : E)
  | ret (e : E)
  | retN
  | iff (c : E) (a b : Ss)
  | whl (c : E) (b : Ss)
  | for (p : P) (ik : IK) (src : Es) (b : Ss)
  | pass
  | brk
  | cnt
  | rai (c : Str) (es : Es)
  | nev
inductive Ss where
  | nil
  | cons (s : S) (r : Ss)
end

/-! ### values -/
/-- tuples are what they hold; lists, dicts and instances stand in the store; gd: a dict of the top -/
inductive D where
  | non | bl (b : Bool) | int (i : Int) | str (x : Str)
  | tup (ds : List D)
  | ref (n : Nat)
  | fn (x : Str)
  | gd (x : Str)

/-- frz: a list that is read alone (the script) -/
inductive Ob where
  | lst (ds : List D)
  | frz (ds : List D)
  | ins (c : Str) (fs : List (Str × D))
abbrev Sto := List Ob
abbrev Rho := List (Option D)

mutual
def D.eq : D → D → Bool
  | .non, .non => true
  | .bl a, .bl b => a == b
  | .int a, .int b => decide (a = b)
  | .str a, .str b => decide (a = b)
  | .tup a, .tup b => D.eqL a b
  | .ref a, .ref b => decide (a = b)
  | .fn a, .fn b => decide (a = b)
  | .gd a, .gd b => decide (a = b)
  | _, _ => false
def D.eqL : List D → List D → Bool
  | [], [] => true
  | a :: l, b :: r => D.eq a b && D.eqL l r
  | _, _ => false
end
def eqF : List (Str × D) → List (Str × D) → Bool
  | [], [] => true
  | (x, a) :: l, (y, b) :: r => decide (x = y) && (D.eq a b && eqF l r)
  | _, _ => false
def Ob.eq : Ob → Ob → Bool
  | .lst a, .lst b => D.eqL a b
  | .frz a, .frz b => D.eqL a b
  | .ins c f, .ins d g => decide (c = d) && eqF f g
  | _, _ => false
def eqS : Sto → Sto → Bool
  | [], [] => true
  | a :: l, b :: r => Ob.eq a b && eqS l r
  | _, _ => false
def D.isNon : D → Bool
  | .non => true
  | _ => false
mutual
/-- nothing of the store in it -/
def D.pure : D → Bool
  | .tup ds => D.pureL ds
  | .ref _ => false
  | _ => true
def D.pureL : List D → Bool
  | [] => true
  | d :: r => D.pure d && D.pureL r
end

mutual
theorem D.eq_refl : ∀ d : D, D.eq d d = true
  | .non => rfl
  | .bl b => by cases b <;> rfl
  | .int i => by simp [D.eq]
  | .str i => by simp [D.eq]
  | .tup ds => by simp [D.eq, D.eqL_refl ds]
  | .ref n => by simp [D.eq]
  | .fn n => by simp [D.eq]
  | .gd n => by simp [D.eq]
theorem D.eqL_refl : ∀ ds : List D, D.eqL ds ds = true
  | [] => rfl
  | d :: r => by simp [D.eqL, D.eq_refl d, D.eqL_refl r]
end
mutual
theorem D.eq_eq : ∀ {a b : D}, D.eq a b = true → a = b
  | .non, b, h => by cases b <;> simp [D.eq] at h <;> rfl
  | .bl x, b, h => by cases b <;> simp [D.eq] at h; subst h; rfl
  | .int x, b, h => by cases b <;> simp [D.eq] at h; subst h; rfl
  | .str x, b, h => by cases b <;> simp [D.eq] at h; subst h; rfl
  | .tup x, b, h => by
    cases b <;> simp [D.eq] at h
    rw [D.eqL_eq h]
  | .ref x, b, h => by cases b <;> simp [D.eq] at h; subst h; rfl
  | .fn x, b, h => by cases b <;> simp [D.eq] at h; subst h; rfl
  | .gd x, b, h => by cases b <;> simp [D.eq] at h; subst h; rfl
theorem D.eqL_eq : ∀ {a b : List D}, D.eqL a b = true → a = b
  | [], b, h => by cases b <;> simp [D.eqL] at h <;> rfl
  | x :: l, b, h => by
    cases b with
    | nil => simp [D.eqL] at h
    | cons y r =>
      simp only [D.eqL, Bool.and_eq_true] at h
      rw [D.eq_eq h.1, D.eqL_eq h.2]
end
theorem eqF_refl : ∀ f : List (Str × D), eqF f f = true
  | [] => rfl
  | (x, d) :: r => by simp [eqF, D.eq_refl, eqF_refl r]
theorem eqF_eq : ∀ {a b : List (Str × D)}, eqF a b = true → a = b
  | [], b, h => by cases b <;> simp [eqF] at h <;> rfl
  | (x, d) :: l, b, h => by
    cases b with
    | nil => simp [eqF] at h
    | cons y r =>
      obtain ⟨y, e⟩ := y
      simp only [eqF, Bool.and_eq_true, decide_eq_true_eq] at h
      rw [h.1, D.eq_eq h.2.1, eqF_eq h.2.2]
theorem Ob.eq_refl (o : Ob) : Ob.eq o o = true := by
  cases o with
  | lst ds => exact D.eqL_refl ds
  | frz ds => exact D.eqL_refl ds
  | ins c f => simp [Ob.eq, eqF_refl]
theorem Ob.eq_eq {a b : Ob} (h : Ob.eq a b = true) : a = b := by
  cases a with
  | lst x => cases b with
    | lst y => rw [D.eqL_eq h]
    | frz y => simp [Ob.eq] at h
    | ins _ _ => simp [Ob.eq] at h
  | frz x => cases b with
    | frz y => rw [D.eqL_eq h]
    | lst y => simp [Ob.eq] at h
    | ins _ _ => simp [Ob.eq] at h
  | ins c f => cases b with
    | lst y => simp [Ob.eq] at h
    | frz y => simp [Ob.eq] at h
    | ins d g =>
      simp only [Ob.eq, Bool.and_eq_true, decide_eq_true_eq] at h
      rw [h.1, eqF_eq h.2]
theorem eqS_refl : ∀ s : Sto, eqS s s = true
  | [] => rfl
  | o :: r => by simp [eqS, Ob.eq_refl, eqS_refl r]
theorem eqS_eq : ∀ {a b : Sto}, eqS a b = true → a = b
  | [], b, h => by cases b <;> simp [eqS] at h <;> rfl
  | x :: l, b, h => by
    cases b with
    | nil => simp [eqS] at h
    | cons y r =>
      simp only [eqS, Bool.and_eq_true] at h
      rw [Ob.eq_eq h.1, eqS_eq h.2]

/-! ### results -/
/-- ex: an own exception, its class and fields -/
inductive R where
  | ok (d : D) (S : Sto)
  | ex (c : Str) (fs : List (Str × D)) (S : Sto)
  | st
inductive RL where
  | ok (ds : List D) (S : Sto)
  | ex (c : Str) (fs : List (Str × D)) (S : Sto)
  | st
inductive RS where
  | nx (ρ : Rho) (S : Sto)
  | rt (d : D) (S : Sto)
  | bk (ρ : Rho) (S : Sto)
  | ct (ρ : Rho) (S : Sto)
  | ex (c : Str) (fs : List (Str × D)) (ρ : Rho) (S : Sto)
  | st
def R.bind (r : R) (f : D → Sto → R) : R := match r with
  | .ok d S => f d S
  | .ex c fs S => .ex c fs S
  | .st => .st
def R.bindL (r : R) (f : D → Sto → RL) : RL := match r with
  | .ok d S => f d S
  | .ex c fs S => .ex c fs S
  | .st => .st
def RL.bind (r : RL) (f : List D → Sto → R) : R := match r with
  | .ok d S => f d S
  | .ex c fs S => .ex c fs S
  | .st => .st
def RL.bindL (r : RL) (f : List D → Sto → RL) : RL := match r with
  | .ok d S => f d S
  | .ex c fs S => .ex c fs S
  | .st => .st
def R.bindS (r : R) (ρ : Rho) (f : D → Sto → RS) : RS := match r with
  | .ok d S => f d S
  | .ex c fs S => .ex c fs ρ S
  | .st => .st
def RL.bindS (r : RL) (ρ : Rho) (f : List D → Sto → RS) : RS := match r with
  | .ok d S => f d S
  | .ex c fs S => .ex c fs ρ S
  | .st => .st
def RS.bind (r : RS) (f : Rho → Sto → RS) : RS := match r with
  | .nx ρ S => f ρ S
  | r => r
def ofO (o : Option D) (S : Sto) : R := match o with
  | some d => .ok d S
  | none => .st
/-- a new object -/
def new (S : Sto) (o : Ob) : R := .ok (.ref S.length) (S ++ [o])

/-! ### operations on values -/
/-- as the hand layer's flat values -/
def flat : D → Option L2.V
  | .non => some .non
  | .bl b => some (.bl b)
  | .int i => some (.int i)
  | .str x => some (.str x)
  | _ => none
def flats : List D → Option (List L2.V)
  | [] => some []
  | d :: r => match flat d, flats r with
    | some v, some vs => some (v :: vs)
    | _, _ => none
/-- a list that may be read -/
def rdL (S : Sto) (n : Nat) : Option (List D) := match S[n]? with
  | some (.lst ds) => some ds
  | some (.frz ds) => some ds
  | _ => none
/-- the data of a value, lists read in the store; n: how deep at most -/
def dat (S : Sto) : Nat → D → Option PyData
  | 0, _ => none
  | n + 1, d => match d with
    | .non => some .none
    | .bl b => some (.bool b)
    | .int i => some (.int i)
    | .str x => some (.str x)
    | .tup ds => (ds.mapM (dat S n)).map .tuple
    | .ref a => match S[a]? with
      | some (.lst ds) => (ds.mapM (dat S n)).map .list
      | _ => none
    | _ => none
def DEEP : Nat := 40
def lstOf (S : Sto) : D → Option (List D)
  | .tup ds => some ds
  | .ref n => rdL S n
  | _ => none
def small (i : Int) : Bool := decide (-(2 ^ 64) < i) && decide (i < 2 ^ 64)
def LINE : Nat := 16777216
def bin (o : BO) (x y : D) (S : Sto) : R := match o with
  | .add => match x, y with
    | .int i, .int j => .ok (.int (i + j)) S
    | .str a, .str b => if a.length + b.length ≤ LINE then .ok (.str (a ++ b)) S else .st
    | .tup a, .tup b => if a.length + b.length ≤ LINE then .ok (.tup (a ++ b)) S else .st
    | .ref m, .ref n => match S[m]?, S[n]? with
      | some (.lst a), some (.lst b) => if a.length + b.length ≤ LINE then new S (.lst (a ++ b)) else .st
      | _, _ => .st
    | _, _ => .st
  | .sub => match x, y with
    | .int i, .int j => .ok (.int (i - j)) S
    | _, _ => .st
  | .mul => match x, y with
    | .int i, .int j => if small i || small j then .ok (.int (i * j)) S else .st
    | .ref m, .int k => match S[m]? with
      | some (.lst a) => if decide (-(2 ^ 63) ≤ k) && (decide (k < 2 ^ 63) && decide (a.length * k.toNat ≤ LINE)) then new S (.lst (List.replicate k.toNat a).flatten) else .st
      | _ => .st
    | .tup a, .int k => if a ≠ [] ∧ 2 ≤ k ∧ k ≤ 1000 ∧ a.length ≤ 1000 then .ok (.tup (List.replicate k.toNat a).flatten) S else .st
    | _, _ => .st
  | .fdiv => match x, y with
    | .int i, .int j => if j ≠ 0 ∧ j.natAbs < 1073741824 then .ok (.int (i.fdiv j)) S else .st
    | _, _ => .st
  | .mod => match x, y with
    | .int i, .int j => if j ≠ 0 then .ok (.int (i.fmod j)) S else .st
    | _, _ => .st
  | .pow => match x, y with
    | .int i, .int j => if 0 ≤ j ∧ j ≤ 1000000 ∧ i.natAbs < 2 ^ 64 then .ok (.int (i ^ j.toNat)) S else .st
    | _, _ => .st
/-- == -/
def eqD (S : Sto) (x y : D) : Option Bool := match x, y with
  | .int i, .int j => some (decide (i = j))
  | .str i, .str j => some (decide (i = j))
  | .bl i, .bl j => some (decide (i = j))
  | .non, .non => some true
  | x, y => match dat S DEEP x, dat S DEEP y with
    | some a, some b => if SeqAt.shaped a && SeqAt.shaped b then some (PyData.eqv a b) else none
    | _, _ => none
/-- x in y -/
def inD (S : Sto) (x y : D) : Option Bool := match x, y with
  | .str a, .str b => some (!(Builtin.Str.occurrences b a 0 b.length 1).isEmpty)
  | x, y => match flat x, (lstOf S y).bind flats with
    | some v, some vs => some (L2.inV v vs)
    | _, _ => none
def cmp (o : CO) (x y : D) (S : Sto) : Option Bool := match o with
  | .lt => match x, y with
    | .int i, .int j => some (decide (i < j))
    | .str i, .str j => some (decide (i.cps.toList < j.cps.toList))
    | _, _ => none
  | .le => match x, y with
    | .int i, .int j => some (decide (i ≤ j))
    | _, _ => none
  | .gt => match x, y with
    | .int i, .int j => some (decide (j < i))
    | _, _ => none
  | .ge => match x, y with
    | .int i, .int j => some (decide (j ≤ i))
    | _, _ => none
  | .eq => eqD S x y
  | .ne => (eqD S x y).map (!·)
  | .inn => inD S x y
  | .nin => (inD S x y).map (!·)
def cmpR (o : CO) (x y : D) (S : Sto) : R := match cmp o x y S with
  | some b => .ok (.bl b) S
  | none => .st
def kval : List (Key × D) → Key → Option D
  | [], _ => none
  | (k, d) :: r, q => if k = q then some d else kval r q
def keyOf : D → Option Key
  | .int i => some (.inl i)
  | .str x => some (.inr x)
  | _ => none

/-! ### the evaluator -/
structure Ev where
  /-- which defs there are -/
  fn : Str → Str → Bool
  /-- an own def's call: class ("" for none), name -/
  cf : Str → Str → List D → List (Str × D) → Sto → R
  /-- .. one level lower: what __init__ comes to -/
  cm : Str → Str → List D → List (Str × D) → Sto → R
  /-- the top's names -/
  gt : Str → Option D
  /-- the top's dicts -/
  gd : Str → Option (List (Key × D))
  /-- an own exception's field -/
  xf : Str → Option Str
  /-- does a clause for the second take the first -/
  xm : Str → Str → Option Bool
  td : Str → Option TD
  /-- expressions, two levels lower -/
  low : E → Rho → Sto → R
  /-- .. one -/
  lo1 : E → Rho → Sto → R
def itemsZ (fs : List (Str × D)) : List HI → Option (List D)
  | [] => some []
  | .s x :: r => (itemsZ fs r).map (.str x :: ·)
  | .f x :: r => match fs.lookup x, itemsZ fs r with
    | some d, some ds => some (d :: ds)
    | _, _ => none
def pickZ (xm : Str → Str → Option Bool) (c : Str) : List (Str × List HI) → Option (List HI)
  | [] => none
  | (d, its) :: r => match xm c d with
    | some true => some its
    | some false => pickZ xm c r
    | none => none
def toldR (xm : Str → Str → Option Bool) (t : TD) (r : R) : R := match r with
  | .ok d S => match t.ok with
    | some tag => new S (.lst [.str tag, d])
    | none => .ok .non S
  | .ex c fs S => match pickZ xm c t.hs with
    | some its => match itemsZ fs its with
      | some ds => if ds.length ≤ 1000 then new S (.lst ds) else .st
      | none => .st
    | none => .st
  | .st => .st
def get (C : Ev) (o i : D) (S : Sto) : R := match o, i with
  | .tup ds, .int i => ofO (L2.atI ds i) S
  | .ref n, .int i => match rdL S n with
    | some ds => ofO (L2.atI ds i) S
    | _ => .st
  | .str z, .int i => if z.length ≤ LINE then match L2.atI z.cps.toList i with
      | some c => .ok (.str ⟨#[c]⟩) S
      | none => .st
    else .st
  | .gd x, k => match C.gd x, keyOf k with
    | some kvs, some q => ofO (kval kvs q) S
    | _, _ => .st
  | _, _ => .st
def cut {α : Type} (xs : List α) (lo hi : Option Int) : List α := (xs.drop (HT.sIx xs.length 0 lo)).take (HT.sIx xs.length xs.length hi - HT.sIx xs.length 0 lo)
def slc (o : D) (lo hi : Option Int) (S : Sto) : R := match o with
  | .tup ds => .ok (.tup (cut ds lo hi)) S
  | .ref n => match rdL S n with
    | some ds => new S (.lst (cut ds lo hi))
    | _ => .st
  | .str z => if z.length ≤ LINE then .ok (.str (L2.cutS z lo hi)) S else .st
  | _ => .st
def intsZ : List D → Option (List Int)
  | [] => some []
  | .int i :: r => (intsZ r).map (i :: ·)
  | _ => none
def strsZ : List D → Option (List Str)
  | [] => some []
  | .str i :: r => (strsZ r).map (i :: ·)
  | _ => none
def boolsZ : List D → Option (List Bool)
  | [] => some []
  | .bl i :: r => (boolsZ r).map (i :: ·)
  | _ => none
def isLst (S : Sto) : D → Option (List D)
  | .ref n => rdL S n
  | _ => none
def bi (b : BI) (ds : List D) (S : Sto) : R := match b, ds with
  | .len, [.str z] => if z.length ≤ LINE then .ok (.int z.length) S else .st
  | .len, [d] => match lstOf S d with
    | some l => .ok (.int l.length) S
    | none => .st
  | .abs, [.int i] => .ok (.int (if i < 0 then -i else i)) S
  | .int, [.int i] => .ok (.int i) S
  | .int, [.bl k] => .ok (.int (if k then 1 else 0)) S
  | .int, [.str x] => if x.length ≤ 640 then match PySem.intText? x with
      | some i => .ok (.int i) S
      | none => .st
    else .st
  | .str, [.int i] => if i.natAbs.log2 < 1920 then .ok (.str (toString i)) S else .st
  | .str, [.str x] => .ok (.str x) S
  | .repr, [d] => match lstOf S d, dat S DEEP d with
    | some _, some p => if p.showable && decide (p.shown.length ≤ LINE) then .ok (.str p.shown) S else .st
    | _, _ => .st
  | .max, [.int i, .int j] => .ok (.int (if j > i then j else i)) S
  | .min, [.int i, .int j] => .ok (.int (if j < i then j else i)) S
  | .sum, [d] => match (isLst S d).bind intsZ with
    | some l => .ok (.int l.sum) S
    | none => .st
  | .all, [d] => match (isLst S d).bind boolsZ with
    | some l => .ok (.bl (l.all id)) S
    | none => .st
  | .any, [d] => match (isLst S d).bind boolsZ with
    | some l => .ok (.bl (l.any id)) S
    | none => .st
  | .tuple, [d] => match lstOf S d with
    | some l => .ok (.tup l) S
    | none => .st
  | .list, [d] => match lstOf S d with
    | some l => new S (.lst l)
    | none => .st
  | .divmod, [.int i, .int j] => if 0 < j ∧ j < 1073741824 then .ok (.tup [.int (i / j), .int (i % j)]) S else .st
  | _, _ => .st
/-- the built-in type's name of a value -/
def tyN (S : Sto) : D → Option String
  | .non => some "NoneType"
  | .bl _ => some "bool"
  | .int _ => some "int"
  | .str _ => some "str"
  | .tup _ => some "tuple"
  | .ref n => match rdL S n with
    | some _ => some "list"
    | _ => none
  | _ => none
def TY.nm : TY → String
  | .int => "int"
  | .bool => "bool"
  | .str => "str"
  | .tuple => "tuple"
  | .list => "list"
  | .dict => "dict"
/-- isinstance of values of built-in types -/
def isB : D → TY → Bool
  | .bl _, .int => true
  | .bl _, .bool => true
  | .int _, .int => true
  | .str _, .str => true
  | .tup _, .tuple => true
  | .ref _, .list => true
  | _, _ => false
def isi (S : Sto) (d : D) (cs : List TY) : R := match tyN S d with
  | some _ => .ok (.bl (cs.any (isB d))) S
  | none => .st
def bm (C : Ev) (b : BM) (o : D) (ds : List D) (S : Sto) : R := match b, o, ds with
  | .append, .ref n, [d] => match S[n]? with
    | some (.lst l) => if l.length < LINE then .ok .non (S.set n (.lst (l ++ [d]))) else .st
    | _ => .st
  | .extend, .ref n, [.ref m] => match S[n]?, S[m]? with
    | some (.lst l), some (.lst r) => if l.length + r.length ≤ LINE then .ok .non (S.set n (.lst (l ++ r))) else .st
    | _, _ => .st
  | .pop, .ref n, [] => match S[n]? with
    | some (.lst l) => match l[l.length - 1]? with
      | some d => .ok d (S.set n (.lst l.dropLast))
      | none => .st
    | _ => .st
  | .split, .str a, [.str b] => if (b.length == 0) = false ∧ a.length + 2 ≤ LINE then new S (.lst ((Txt.split a b).map D.str)) else .st
  | .isalnum, .str a, [] => .ok (.bl (Txt.isalnum a)) S
  | .join, .str a, [d] => match (lstOf S d).bind strsZ with
    | some ys => if (ys.map (·.length)).sum + ys.length * a.length ≤ 16777216 then .ok (.str (Txt.join a ys)) S else .st
    | none => .st
  | .get, .gd x, [k, d] => match C.gd x, keyOf k with
    | some kvs, some q => .ok ((kval kvs q).getD d) S
    | _, _ => .st
  | _, _, _ => .st
/-- the object is of the method's type -/
def bmAt (S : Sto) (b : BM) (x : D) : Bool := match b with
  | .append => (isLst S x).isSome
  | .extend => (isLst S x).isSome
  | .pop => (isLst S x).isSome
  | .index => (isLst S x).isSome
  | .get => (match x with | .gd _ => true | _ => false)
  | _ => (match x with | .str _ => true | _ => false)
def asgP : P → D → Rho → Option Rho
  | .v i, d, ρ => some (ρ.set i (some d))
  | .tp ps, d, ρ => match d with
    | .tup ds => go ps ds ρ
    | _ => none
where go : List P → List D → Rho → Option Rho
  | [], [], ρ => some ρ
  | p :: ps, d :: ds, ρ => match asgP p d ρ with
    | some ρ' => go ps ds ρ'
    | none => none
  | _, _, _ => none
def wipe (ρ : Rho) : List Nat → Rho
  | [] => ρ
  | i :: r => (wipe ρ r).set i none
/-- what is walked: the items, and the list that has to stay -/
def src (ik : IK) (ds : List D) (S : Sto) : Option (List D × Option (Nat × List D)) := match ik, ds with
  | .seq, [.tup l] => some (l, none)
  | .seq, [.str z] => some (z.cps.toList.map fun c => .str ⟨#[c]⟩, none)
  | .seq, [.ref n] => match rdL S n with
    | some l => some (l, some (n, l))
    | _ => none
  | .range, [.int i] => if -(2 ^ 62) ≤ i ∧ i < 2 ^ 62 then some ((List.range i.toNat).map fun (k : Nat) => .int (k : Int), none) else none
  | .range, [.int a, .int b] => if (-(2 ^ 62) ≤ a ∧ a < 2 ^ 62) ∧ -(2 ^ 62) ≤ b ∧ b < 2 ^ 62 then some ((List.range (b - a).toNat).map fun (k : Nat) => .int (a + (k : Int)), none) else none
  | _, _ => none
def stays (S : Sto) : Option (Nat × List D) → Bool
  | none => true
  | some (n, l) => match rdL S n with
    | some r => D.eqL r l
    | _ => false
/-- a comprehension's turns: n is the list that grows -/
def lcGo (p : P) (cd el : Rho → Sto → R) (ρ : Rho) (n : Nat) (g : Option (Nat × List D)) : List D → Sto → R
  | [], S => if stays S g then .ok (.ref n) S else .st
  | d :: ds, S => if stays S g then match asgP p d ρ with
      | some ρ' => match cd ρ' S with
        | .ok (.bl true) S1 => match el ρ' S1 with
          | .ok y S2 => match S2[n]? with
            | some (.lst acc) => if acc.length < LINE then lcGo p cd el ρ n g ds (S2.set n (.lst (acc ++ [y]))) else .st
            | _ => .st
          | _ => .st
        | .ok (.bl false) S1 => lcGo p cd el ρ n g ds S1
        | _ => .st
      | none => .st
    else .st
def getF (S : Sto) (d : D) (f : Str) : Option D := match d with
  | .ref n => match S[n]? with
    | some (.ins _ fs) => fs.lookup f
    | _ => none
  | _ => none
def clsOf (S : Sto) (d : D) : Option Str := match d with
  | .ref n => match S[n]? with
    | some (.ins c _) => some c
    | _ => none
  | _ => none

mutual
def evE (C : Ev) : E → Rho → Sto → R
  | .k .non, _, S => .ok .non S
  | .k (.bl b), _, S => .ok (.bl b) S
  | .k (.int i), _, S => .ok (.int i) S
  | .k (.str x), _, S => .ok (.str x) S
  | .v i, ρ, S => match ρ[i]? with
    | some (some d) => .ok d S
    | _ => .st
  | .g x, _, S => ofO (C.gt x) S
  | .bin o a b, ρ, S => (evE C a ρ S).bind fun x S1 => (evE C b ρ S1).bind fun y S2 => bin o x y S2
  | .neg a, ρ, S => (evE C a ρ S).bind fun x S1 => match x with
    | .int i => .ok (.int (-i)) S1
    | _ => .st
  | .cmp o a b, ρ, S => (evE C a ρ S).bind fun x S1 => (evE C b ρ S1).bind fun y S2 => cmpR o x y S2
  | .isN a, ρ, S => (evE C a ρ S).bind fun x S1 => .ok (.bl x.isNon) S1
  | .notN a, ρ, S => (evE C a ρ S).bind fun x S1 => .ok (.bl (!x.isNon)) S1
  | .chain o p a b c, ρ, S => (evE C a ρ S).bind fun x S1 => (evE C b ρ S1).bind fun y S2 => match cmp o x y S2 with
    | some true => (evE C c ρ S2).bind fun z S3 => cmpR p y z S3
    | some false => .ok (.bl false) S2
    | none => .st
  | .and a b, ρ, S => (evE C a ρ S).bind fun x S1 => match x with
    | .bl true => evE C b ρ S1
    | .bl false => .ok (.bl false) S1
    | _ => .st
  | .or a b, ρ, S => (evE C a ρ S).bind fun x S1 => match x with
    | .bl false => evE C b ρ S1
    | .bl true => .ok (.bl true) S1
    | _ => .st
  | .not a, ρ, S => (evE C a ρ S).bind fun x S1 => match x with
    | .bl b => .ok (.bl (!b)) S1
    | _ => .st
  | .ife c a b, ρ, S => (evE C c ρ S).bind fun x S1 => match x with
    | .bl true => evE C a ρ S1
    | .bl false => evE C b ρ S1
    | _ => .st
  | .tup es, ρ, S => (evL C es ρ S).bind fun ds S1 => if ds.length ≤ LINE then .ok (.tup ds) S1 else .st
  | .lst es, ρ, S => (evL C es ρ S).bind fun ds S1 => if ds.length ≤ LINE then new S1 (.lst ds) else .st
  | .att a f, ρ, S => (evE C a ρ S).bind fun x S1 => ofO (getF S1 x f) S1
  | .idx a i, ρ, S => (evE C a ρ S).bind fun x S1 => (evE C i ρ S1).bind fun y S2 => get C x y S2
  | .sl a lo hi, ρ, S => (evE C a ρ S).bind fun x S1 => (evO C lo ρ S1).bind fun y S2 => (evO C hi ρ S2).bind fun z S3 => match y, z with
    | .non, .non => slc x none none S3
    | .non, .int j => slc x none (some j) S3
    | .int i, .non => slc x (some i) none S3
    | .int i, .int j => slc x (some i) (some j) S3
    | _, _ => .st
  | .call f es, ρ, S => if C.fn Str.empty f then (evL C es ρ S).bind fun ds S1 => C.cf Str.empty f ds [] S1 else .st
  | .callk f es ks vs, ρ, S => if C.fn Str.empty f then (evL C es ρ S).bind fun ds S1 => (evL C vs ρ S1).bind fun ws S2 => if ws.length = ks.length then C.cf Str.empty f ds (ks.zip ws) S2 else .st else .st
  | .mk c es, ρ, S => if C.fn c "__init__" then (evL C es ρ S).bind fun ds S1 => (C.cm c "__init__" (.ref S1.length :: ds) [] (S1 ++ [.ins c []])).bind fun x S2 => match x with
    | .non => .ok (.ref S1.length) S2
    | _ => .st
    else .st
  | .calv i es, ρ, S => match ρ[i]? with
    | some (some (.fn f)) => if C.fn Str.empty f then (evL C es ρ S).bind fun ds S1 => C.cf Str.empty f ds [] S1 else .st
    | _ => .st
  | .met o m es, ρ, S => (evE C o ρ S).bind fun x S1 => match clsOf S1 x, getF S1 x m with
    | some c, none => if C.fn c m then (evL C es ρ S1).bind fun ds S2 => C.cf c m (x :: ds) [] S2 else .st
    | _, _ => .st
  | .bi b es, ρ, S => (evL C es ρ S).bind fun ds S1 => bi b ds S1
  | .isi a cs, ρ, S => (evE C a ρ S).bind fun x S1 => isi S1 x cs
  | .bm b o es, ρ, S => (evE C o ρ S).bind fun x S1 => if bmAt S1 b x then (evL C es ρ S1).bind fun ds S2 => bm C b x ds S2 else .st
  | .lc own p ik es c e, ρ, S => (evL C es ρ S).bind fun ds S1 => match src ik ds S1 with
    | some (l, g) => lcGo p (evE C c) (evE C e) (wipe ρ (own.map (·.2))) S1.length g l (S1 ++ [.lst []])
    | none => .st
  | .told f b, ρ, S => match C.td f with
    | some t => toldR C.xm t (C.low b ρ S)
    | none => .st
  | .nev, _, _ => .st
def evL (C : Ev) : Es → Rho → Sto → RL
  | .nil, _, S => .ok [] S
  | .cons e r, ρ, S => (evE C e ρ S).bindL fun d S1 => (evL C r ρ S1).bindL fun ds S2 => .ok (d :: ds) S2
  | .star e r, ρ, S => (evE C e ρ S).bindL fun d S1 => match lstOf S1 d with
    | some l => (evL C r ρ S1).bindL fun ds S2 => .ok (l ++ ds) S2
    | none => .st
def evO (C : Ev) : Op → Rho → Sto → R
  | .no, _, S => .ok .non S
  | .so e, ρ, S => (evE C e ρ S).bind fun x S1 => match x with
    | .int i => .ok (.int i) S1
    | _ => .st
end

/-- o.f = d -/
def putF (f : Str) (d : D) : List (Str × D) → List (Str × D)
  | [] => [(f, d)]
  | (g, e) :: r => if g = f then (g, d) :: r else (g, e) :: putF f d r
def setA (o : D) (f : Str) (d : D) (S : Sto) : Option Sto := match o with
  | .ref n => match S[n]? with
    | some (.ins c fs) => if fs.length < 1000 then some (S.set n (.ins c (putF f d fs))) else none
    | _ => none
  | _ => none
def setI (o i d : D) (S : Sto) : Option Sto := match o, i with
  | .ref n, .int k => match S[n]? with
    | some (.lst l) => match L2.ixN l.length k with
      | some j => some (S.set n (.lst (l.set j d)))
      | none => none
    | _ => none
  | _, _ => none
def Ts.len : Ts → Nat
  | .nil => 0
  | .cons _ r => Ts.len r + 1
mutual
def asgT (C : Ev) : T → D → Rho → Sto → RS
  | .v i, d, ρ, S => .nx (ρ.set i (some d)) S
  | .at o f, d, ρ, S => (evE C o ρ S).bindS ρ fun x S1 => match setA x f d S1 with
    | some S2 => .nx ρ S2
    | none => .st
  | .ix o i, d, ρ, S => (evE C o ρ S).bindS ρ fun x S1 => (evE C i ρ S1).bindS ρ fun y S2 => match setI x y d S2 with
    | some S3 => .nx ρ S3
    | none => .st
  | .tp ts, d, ρ, S => match d with
    | .tup ds => if ds.length = ts.len then asgTs C ts ds ρ S else .st
    | _ => .st
def asgTs (C : Ev) : Ts → List D → Rho → Sto → RS
  | .nil, [], ρ, S => .nx ρ S
  | .cons t r, d :: ds, ρ, S => (asgT C t d ρ S).bind fun ρ' S' => asgTs C r ds ρ' S'
  | _, _, _, _ => .st
end
/-- how many turns a while has at most -/
def TURNS : Nat := 100000000
def whlGo (cd : Rho → Sto → R) (bd : Rho → Sto → RS) : Nat → Rho → Sto → RS
  | 0, _, _ => .st
  | n + 1, ρ, S => match cd ρ S with
    | .ok (.bl true) S1 => match bd ρ S1 with
      | .nx ρ' S' => whlGo cd bd n ρ' S'
      | .ct ρ' S' => whlGo cd bd n ρ' S'
      | .bk ρ' S' => .nx ρ' S'
      | r => r
    | .ok (.bl false) S1 => .nx ρ S1
    | .ex c fs S1 => .ex c fs ρ S1
    | _ => .st
def forGo (p : P) (bd : Rho → Sto → RS) (g : Option (Nat × List D)) : List D → Rho → Sto → RS
  | [], ρ, S => if stays S g then .nx ρ S else .st
  | d :: ds, ρ, S => if stays S g then match asgP p d ρ with
      | some ρ1 => match bd ρ1 S with
        | .nx ρ' S' => forGo p bd g ds ρ' S'
        | .ct ρ' S' => forGo p bd g ds ρ' S'
        | .bk ρ' S' => .nx ρ' S'
        | r => r
      | none => .st
    else .st
mutual
def evS (C : Ev) : S → Rho → Sto → RS
  | .set t e, ρ, S => (evE C e ρ S).bindS ρ fun d S1 => asgT C t d ρ S1
  | .par i j a b, ρ, S => (evE C a ρ S).bindS ρ fun d S1 => (evE C b ρ S1).bindS ρ fun e S2 => .nx ((ρ.set i (some d)).set j (some e)) S2
  | .par3 i j l a b c, ρ, S => (evE C a ρ S).bindS ρ fun d S1 => (evE C b ρ S1).bindS ρ fun e S2 => (evE C c ρ S2).bindS ρ fun f S3 => .nx (((ρ.set i (some d)).set j (some e)).set l (some f)) S3
  | .ex e, ρ, S => (evE C e ρ S).bindS ρ fun _ S1 => .nx ρ S1
  | .ret e, ρ, S => (evE C e ρ S).bindS ρ fun d S1 => .rt d S1
  | .retN, _, S => .rt .non S
  | .iff c a b, ρ, S => (evE C c ρ S).bindS ρ fun d S1 => match d with
    | .bl true => evB C a ρ S1
    | .bl false => evB C b ρ S1
    | _ => .st
  | .whl c b, ρ, S => whlGo (evE C c) (evB C b) TURNS ρ S
  | .for p ik es b, ρ, S => (evL C es ρ S).bindS ρ fun ds S1 => match src ik ds S1 with
    | some (l, g) => forGo p (evB C b) g l ρ S1
    | none => .st
  | .pass, ρ, S => .nx ρ S
  | .brk, ρ, S => .bk ρ S
  | .cnt, ρ, S => .ct ρ S
  | .rai c es, ρ, S => match C.xf c with
    | some f => (evL C es ρ S).bindS ρ fun ds S1 => match ds with
      | [d] => .ex c [(f, d)] ρ S1
      | _ => .st
    | none => .st
  | .nev, _, _ => .st
def evB (C : Ev) : Ss → Rho → Sto → RS
  | .nil, ρ, S => .nx ρ S
  | .cons s r, ρ, S => (evS C s ρ S).bind fun ρ' S' => evB C r ρ' S'
end

/-! ### defs -/
structure FD where
  /-- all names by slot, the parameters first -/
  N : List Str
  /-- how many of them are parameters -/
  np : Nat
  /-- the defaults of the last ones -/
  dfl : List D
  body : Ss
/-- the parameters' values -/
def bindZ {α : Type} (ps : List Str) (dfl : List α) (us : List α) (kw : List (Str × α)) : Option (List α) := match kw with
  | [] => if us.length ≤ ps.length ∧ ps.length ≤ us.length + dfl.length ∧ dfl.length ≤ ps.length then some (us ++ dfl.drop (dfl.length - (ps.length - us.length))) else none
  | kw => if us.length ≤ ps.length ∧ dfl.length ≤ ps.length ∧ kw.all (fun q => (ps.drop us.length).contains q.1) ∧ (kw.map (·.1)).Nodup then
      ps.mapM fun n => ((ps.zip us ++ kw).lookup n).or (((ps.drop (ps.length - dfl.length)).zip dfl).lookup n)
    else none
/-- what a call leaves of the store: nothing new, where nothing of it is told and the old stands as it stood; a list of plain things alone -/
def gc (S : Sto) (d : D) (S' : Sto) : R :=
  if eqS (S'.take S.length) S then
    (if d.pure then .ok d S else match d with
      | .ref m => if S.length ≤ m then match S'[m]? with
          | some (.lst ds) => if D.pureL ds then .ok (.ref S.length) (S ++ [.lst ds]) else .ok d S'
          | _ => .ok d S'
        else .ok d S'
      | _ => .ok d S')
  else .ok d S'
def runF (C : Ev) (fd : FD) (ds : List D) (kw : List (Str × D)) (S : Sto) : R :=
  match bindZ (fd.N.take fd.np) fd.dfl ds kw with
  | some vs => match evB C fd.body (vs.map some ++ List.replicate (fd.N.length - vs.length) none) S with
    | .nx _ S' => gc S .non S'
    | .rt d S' => gc S d S'
    | .ex c fs _ S' => .ex c fs S'
    | _ => .st
  | none => .st
/-- a program: its defs, its top's names and dicts; exceptions' fields, clauses, tellers -/
structure Pg where
  fs : List ((Str × Str) × FD)
  gt : List (Str × D)
  gd : List (Str × List (Key × D)) := []
  xf : List (Str × Str) := []
  xm : List ((Str × Str) × Bool) := []
  td : List (Str × TD) := []
/-- the evaluator k levels deep -/
def evAt (p : Pg) : Nat → Ev
  | 0 => ⟨fun c f => (p.fs.lookup (c, f)).isSome, fun _ _ _ _ _ => .st, fun _ _ _ _ _ => .st, fun x => p.gt.lookup x, fun x => p.gd.lookup x, fun _ => none, fun c d => p.xm.lookup (c, d), fun x => p.td.lookup x, fun _ _ _ => .st, fun _ _ _ => .st⟩
  | k + 1 => ⟨fun c f => (p.fs.lookup (c, f)).isSome, fun c f ds kw S => match p.fs.lookup (c, f) with
      | some fd => runF (evAt p k) fd ds kw S
      | none => .st, (evAt p k).cf, fun x => p.gt.lookup x, fun x => p.gd.lookup x, fun x => p.xf.lookup x, fun c d => p.xm.lookup (c, d), fun x => p.td.lookup x, (evAt p k).lo1, evE (evAt p k)⟩
def callN (p : Pg) (k : Nat) : Str → Str → List D → List (Str × D) → Sto → R := (evAt p k).cf
end Z
set_option maxHeartbeats 4000000
/-! Z2: own values in the abstract heap; what is kept; results as wishes -/
namespace Z
open PySem PySem.Spec PyProof.Rows L2

abbrev MG := Str → Option Value
/-- the names under which instances keep things (no class has a method so called) -/
def ATTRS : List Str := (["acts", "all_sizes", "ask_row", "asks", "at", "back", "begins", "begun", "begun_row", "behind", "bodies_open", "books", "boxes", "by_manner", "callers", "cell_rows", "cells", "clauses", "copier", "deed_rows", "deeds", "does", "end", "ended"] : List Str) ++ (["ends", "entry", "family", "fed", "feed", "firsts", "fixed", "found", "frames", "free", "given", "has_loop", "image", "index", "is_cut", "is_far", "is_high", "is_sum", "is_whole", "is_wrong", "items_read", "jumps", "kinds", "known"] : List Str) ++ (["known_words", "laid", "left", "line", "lines", "loops", "lot", "made", "made_points", "made_rows", "maker_tapes", "making", "makings", "manners", "many", "matcher", "names", "next_point", "numbers", "ops", "out", "own_desk", "own_feed", "own_image"] : List Str) ++ (["own_point", "own_sizes", "own_words", "pairs", "params", "pile", "place", "places", "plan", "point", "put_out", "rights", "row", "row_acts", "row_done", "rows", "rows_done", "rows_read", "rules", "runs", "sames", "seeds", "signs", "sizes"] : List Str) ++ (["sizes_read", "spots", "start_row", "starts", "stock", "tapes", "teller", "text_tapes", "texts", "thing_words", "things", "titles", "told", "trials", "unlikes", "uses", "way_out", "ways", "words_kept", "written"] : List Str)
structure ClsZ (K : PySem.W.Frag) (C : Addr) : Prop where
  cls : Cls K C
  no : ∀ f, ATTRS.contains f = true → NoAttr K C f
/-- a code object's table -/
def tabAt (K : PySem.W.Frag) : Value → Option Addr
  | .ref c => match K.lookup c with
    | some ⟨_, _, .fields vs, _⟩ => (match (vs[11]? : Option Value) with
      | some (.ref P) => some P
      | _ => none)
    | _ => none
  | _ => none
/-- the tables of all defs, and what a lambda in them is called -/
def tabsK (K : PySem.W.Frag) : List (Addr × Str) := K.filterMap fun q => match q.2 with
  | ⟨_, _, .func fd, _⟩ => (match tabAt K fd.code with
    | some P => some (P, (fd.qualname ++ ".<locals>.") ++ "<lambda>")
    | none => none)
  | _ => none
/-- their code objects, each with its table -/
def codesK (K : PySem.W.Frag) : List (Addr × Addr) := K.filterMap fun q => match q.2 with
  | ⟨_, _, .func fd, _⟩ => (match fd.code, tabAt K fd.code with
    | .ref c, some P => some (c, P)
    | _, _ => none)
  | _ => none
/-- neither a table nor a known code object -/
def NoTab (u : HO) : Prop := (∀ ps, u ≠ .tbl ps) ∧ ∀ c q, u ≠ LamX.CodeO c q
theorem noTab_lst {vs : List V} : NoTab (.lst vs) := ⟨fun _ z => (nomatch z), fun c q z => by unfold LamX.CodeO at z; cases z⟩
theorem noTab_ins {C dx : Addr} {vs : List (Str × V)} : NoTab (.ins C dx vs) := ⟨fun _ z => (nomatch z), fun c q z => by unfold LamX.CodeO at z; cases z⟩
theorem tabs_put {T : List (Addr × Str)} {H : Hp} {a : Addr} {u u' : HO} (t : LamX.Tabs T H) (hu : H a = some u) (n : NoTab u) : LamX.Tabs T (upd H a u') := fun p hp => by
  obtain ⟨ps, h1, h2, h3⟩ := t p hp
  refine ⟨ps, ?_, h2, fun pos cv hc => ?_⟩
  · rw [upd_ne (fun z => by rw [z, hu] at h1; exact n.1 _ (Option.some.inj h1))]
    exact h1
  · obtain ⟨c, e1, e2⟩ := h3 pos cv hc
    refine ⟨c, e1, ?_⟩
    rw [upd_ne (fun z => by rw [z, hu] at e2; exact n.2 _ _ (Option.some.inj e2))]
    exact e2
section
variable (K : PySem.W.Frag) (mg : MG)
mutual
def Rep (μ : List Addr) (H : Hp) : D → V → Prop
  | .non, v => v = .non
  | .bl b, v => v = .bl b
  | .int i, v => v = .int i
  | .str x, v => v = .str x
  | .tup ds, v => ∃ a xs, v = .ref a ∧ SqT K H a xs ∧ Reps μ H ds xs
  | .ref n, v => ∃ a, μ[n]? = some a ∧ v = .ref a
  | .fn x, v => ∃ a, mg x = some (.ref a) ∧ v = .ref a
  | .gd x, v => ∃ a, mg x = some (.ref a) ∧ v = .ref a
def Reps (μ : List Addr) (H : Hp) : List D → List V → Prop
  | [], xs => xs = []
  | d :: ds, xs => ∃ y ys, xs = y :: ys ∧ Rep μ H d y ∧ Reps μ H ds ys
end
/-- fields, name by name -/
def RepF (μ : List Addr) (H : Hp) : List (Str × D) → List (Str × V) → Prop
  | [], gs => gs = []
  | (f, d) :: fs, gs => ∃ y ys, gs = (f, y) :: ys ∧ Rep K mg μ H d y ∧ RepF μ H fs ys
/-- what stands at a store's place -/
def ObR (μ : List Addr) (H : Hp) (a : Addr) : Ob → Prop
  | .lst ds => ∃ vs, H a = some (.lst vs) ∧ Reps K mg μ H ds vs
  | .frz ds => ∃ o vs, H a = some (.frz o (.lst vs)) ∧ Reps K mg μ H ds vs
  | .ins c fs => ∃ C dx gs, H a = some (.ins C dx gs) ∧ H dx = some (.own a) ∧ (mg c = some (.ref C) ∧ ClsZ K C) ∧ RepF K mg μ H fs gs
structure AbS (μ : List Addr) (S : Sto) (H : Hp) : Prop where
  tab : LamX.Tabs (tabsK K) H
  len : μ.length = S.length
  nd : μ.Nodup
  ob : ∀ (n : Nat) (a : Addr) (o : Ob), μ[n]? = some a → S[n]? = some o → ObR K mg μ H a o
end
/-- what only grows -/
structure Gr (μ : List Addr) (H : Hp) (μ' : List Addr) (H' : Hp) : Prop where
  pre : ∀ (n : Nat) (a : Addr), μ[n]? = some a → μ'[n]? = some a
  kt : ∀ a xs, H a = some (.tup xs) → H' a = some (.tup xs)
  kf : ∀ a o u, H a = some (.frz o u) → H' a = some (.frz o u)
theorem Gr.refl (μ : List Addr) (H : Hp) : Gr μ H μ H := ⟨fun _ _ h => h, fun _ _ h => h, fun _ _ _ h => h⟩
theorem Gr.trans {μ1 μ2 μ3 : List Addr} {H1 H2 H3 : Hp} (a : Gr μ1 H1 μ2 H2) (b : Gr μ2 H2 μ3 H3) : Gr μ1 H1 μ3 H3 :=
  ⟨fun n x h => b.pre n x (a.pre n x h), fun x xs h => b.kt x xs (a.kt x xs h), fun x o u h => b.kf x o u (a.kf x o u h)⟩
/-- all that is tracked stays -/
def Ext (H H' : Hp) : Prop := ∀ a o, H a = some o → H' a = some o
theorem Ext.refl (H : Hp) : Ext H H := fun _ _ h => h
theorem Ext.new {H : Hp} {p : Addr} {o : HO} (h : H p = none) : Ext H (upd H p o) := fun a u e => by
  rw [upd_ne (ne_of_none e h)]
  exact e
theorem Ext.trans {A B C : Hp} (h : Ext A B) (k : Ext B C) : Ext A C := fun a o e => k a o (h a o e)
theorem Gr.ext {μ : List Addr} {H H' : Hp} (h : Ext H H') : Gr μ H μ H' := ⟨fun _ _ h => h, fun _ _ e => h _ _ e, fun _ _ _ e => h _ _ e⟩

section
variable {K : PySem.W.Frag} {mg : MG} {μ μ' : List Addr} {H H' : Hp} {S S' : Sto}
theorem Gr.sqt (g : Gr μ H μ' H') {a : Addr} {xs : List V} (h : SqT K H a xs) : SqT K H' a xs := by
  rcases h with (h | ⟨o, h⟩) | h
  · exact .inl (.inl (g.kt _ _ h))
  · exact .inl (.inr ⟨o, g.kf _ _ _ h⟩)
  · exact .inr h
mutual
theorem Rep.mono (g : Gr μ H μ' H') : ∀ {d : D} {v : V}, Rep K mg μ H d v → Rep K mg μ' H' d v
  | .non, _, h => by simp only [Rep] at h ⊢; exact h
  | .bl _, _, h => by simp only [Rep] at h ⊢; exact h
  | .int _, _, h => by simp only [Rep] at h ⊢; exact h
  | .str _, _, h => by simp only [Rep] at h ⊢; exact h
  | .tup ds, _, h => by
    simp only [Rep] at h ⊢
    obtain ⟨a, xs, e, q, r⟩ := h
    exact ⟨a, xs, e, g.sqt q, Reps.mono g r⟩
  | .ref n, _, h => by
    simp only [Rep] at h ⊢
    obtain ⟨a, e, r⟩ := h
    exact ⟨a, g.pre _ _ e, r⟩
  | .fn _, _, h => by simp only [Rep] at h ⊢; exact h
  | .gd _, _, h => by simp only [Rep] at h ⊢; exact h
theorem Reps.mono (g : Gr μ H μ' H') : ∀ {ds : List D} {vs : List V}, Reps K mg μ H ds vs → Reps K mg μ' H' ds vs
  | [], _, h => by simp only [Reps] at h ⊢; exact h
  | d :: ds, _, h => by
    simp only [Reps] at h ⊢
    obtain ⟨y, ys, e, r, q⟩ := h
    exact ⟨y, ys, e, Rep.mono g r, Reps.mono g q⟩
end
theorem RepF.mono (g : Gr μ H μ' H') : ∀ {fs : List (Str × D)} {gs : List (Str × V)}, RepF K mg μ H fs gs → RepF K mg μ' H' fs gs
  | [], _, h => by simp only [RepF] at h ⊢; exact h
  | (f, d) :: fs, _, h => by
    simp only [RepF] at h ⊢
    obtain ⟨y, ys, e, r, q⟩ := h
    exact ⟨y, ys, e, Rep.mono g r, RepF.mono g q⟩
theorem Reps.length : ∀ {ds : List D} {vs : List V}, Reps K mg μ H ds vs → ds.length = vs.length
  | [], _, h => by simp only [Reps] at h; rw [h]; rfl
  | d :: ds, _, h => by
    simp only [Reps] at h
    obtain ⟨y, ys, rfl, _, q⟩ := h
    simp [Reps.length q]
theorem Reps.nil : Reps K mg μ H [] [] := by simp [Reps]
theorem Reps.cons {d : D} {v : V} {ds : List D} {vs : List V} (h : Rep K mg μ H d v) (r : Reps K mg μ H ds vs) : Reps K mg μ H (d :: ds) (v :: vs) := by
  simp only [Reps]
  exact ⟨v, vs, rfl, h, r⟩
theorem Reps.app : ∀ {ds es : List D} {vs ws : List V}, Reps K mg μ H ds vs → Reps K mg μ H es ws → Reps K mg μ H (ds ++ es) (vs ++ ws)
  | [], _, _, _, h, k => by simp only [Reps] at h; rw [h]; exact k
  | d :: ds, _, _, _, h, k => by
    simp only [Reps] at h
    obtain ⟨y, ys, rfl, r, q⟩ := h
    exact Reps.cons r (Reps.app q k)
theorem Reps.get : ∀ {ds : List D} {vs : List V} {i : Nat} {d : D}, Reps K mg μ H ds vs → ds[i]? = some d → ∃ v, vs[i]? = some v ∧ Rep K mg μ H d v
  | [], _, _, _, _, h => by simp at h
  | d :: ds, _, 0, _, h, k => by
    simp only [Reps] at h
    obtain ⟨y, ys, rfl, r, q⟩ := h
    simp at k; subst k
    exact ⟨y, rfl, r⟩
  | d :: ds, _, i + 1, _, h, k => by
    simp only [Reps] at h
    obtain ⟨y, ys, rfl, r, q⟩ := h
    simp at k
    obtain ⟨v, e, r2⟩ := Reps.get q k
    exact ⟨v, by simpa using e, r2⟩
theorem Reps.get' : ∀ {ds : List D} {vs : List V} {i : Nat} {v : V}, Reps K mg μ H ds vs → vs[i]? = some v → ∃ d, ds[i]? = some d ∧ Rep K mg μ H d v
  | [], _, _, _, h, k => by simp only [Reps] at h; rw [h] at k; simp at k
  | d :: ds, _, 0, _, h, k => by
    simp only [Reps] at h
    obtain ⟨y, ys, rfl, r, q⟩ := h
    simp at k; subst k
    exact ⟨d, rfl, r⟩
  | d :: ds, _, i + 1, _, h, k => by
    simp only [Reps] at h
    obtain ⟨y, ys, rfl, r, q⟩ := h
    simp at k
    obtain ⟨v, e, r2⟩ := Reps.get' q k
    exact ⟨v, by simpa using e, r2⟩
theorem Reps.take : ∀ {ds : List D} {vs : List V} (n : Nat), Reps K mg μ H ds vs → Reps K mg μ H (ds.take n) (vs.take n)
  | _, _, 0, _ => by simp [Reps]
  | [], _, n + 1, h => by simp only [Reps] at h; rw [h]; simp [Reps]
  | d :: ds, _, n + 1, h => by
    simp only [Reps] at h
    obtain ⟨y, ys, rfl, r, q⟩ := h
    exact Reps.cons r (Reps.take n q)
theorem Reps.drop : ∀ {ds : List D} {vs : List V} (n : Nat), Reps K mg μ H ds vs → Reps K mg μ H (ds.drop n) (vs.drop n)
  | _, _, 0, h => h
  | [], _, n + 1, h => by simp only [Reps] at h; rw [h]; simp [Reps]
  | d :: ds, _, n + 1, h => by
    simp only [Reps] at h
    obtain ⟨y, ys, rfl, r, q⟩ := h
    exact Reps.drop n q
theorem Reps.set : ∀ {ds : List D} {vs : List V} (i : Nat) {d : D} {v : V}, Reps K mg μ H ds vs → Rep K mg μ H d v → Reps K mg μ H (ds.set i d) (vs.set i v)
  | [], _, _, _, _, h, _ => by simp only [Reps] at h; rw [h]; simp [Reps]
  | d :: ds, _, 0, _, _, h, k => by
    simp only [Reps] at h
    obtain ⟨y, ys, rfl, r, q⟩ := h
    exact Reps.cons k q
  | d :: ds, _, i + 1, _, _, h, k => by
    simp only [Reps] at h
    obtain ⟨y, ys, rfl, r, q⟩ := h
    exact Reps.cons r (Reps.set i q k)
theorem Reps.rep (n : Nat) {ds : List D} {vs : List V} (h : Reps K mg μ H ds vs) : Reps K mg μ H (List.replicate n ds).flatten (List.replicate n vs).flatten := by
  induction n with
  | zero => simp [Reps]
  | succ n ih =>
    rw [List.replicate_succ, List.replicate_succ, List.flatten_cons, List.flatten_cons]
    exact Reps.app h ih

theorem ObR.mono (g : Gr μ H μ' H') (e : ∀ o, H a = some o → H' a = some o) (k : ∀ dx, H dx = some (.own a) → H' dx = some (.own a)) : ∀ {o : Ob}, ObR K mg μ H a o → ObR K mg μ' H' a o
  | .lst ds, ⟨vs, h, r⟩ => ⟨vs, e _ h, r.mono g⟩
  | .frz ds, ⟨o, vs, h, r⟩ => ⟨o, vs, e _ h, r.mono g⟩
  | .ins c fs, ⟨C, dx, gs, h, d, m, r⟩ => ⟨C, dx, gs, e _ h, k _ d, m, r.mono g⟩
theorem AbS.ext (A : AbS K mg μ S H) (x : Ext H H') : AbS K mg μ S H' :=
  ⟨A.tab.ext x, A.len, A.nd, fun n a o e q => (A.ob n a o e q).mono (Gr.ext x) (fun _ h => x _ _ h) (fun _ h => x _ _ h)⟩
theorem AbS.at (A : AbS K mg μ S H) {n : Nat} {o : Ob} (h : S[n]? = some o) : ∃ a, μ[n]? = some a ∧ ObR K mg μ H a o := by
  have hn : n < S.length := (List.getElem?_eq_some_iff.mp h).1
  have hn' : n < μ.length := by rw [A.len]; exact hn
  exact ⟨μ[n], by simp [hn'], A.ob n _ o (by simp [hn']) h⟩
theorem AbS.sm (A : AbS K mg μ S H) {n : Nat} {a : Addr} (h : μ[n]? = some a) : ∃ o, H a = some o := by
  have hn : n < μ.length := (List.getElem?_eq_some_iff.mp h).1
  have hn' : n < S.length := by rw [← A.len]; exact hn
  have r := A.ob n a S[n] h (by simp [hn'])
  cases hS : S[n] with
  | lst ds => rw [hS] at r; obtain ⟨vs, e, _⟩ := r; exact ⟨_, e⟩
  | frz ds => rw [hS] at r; obtain ⟨o, vs, e, _⟩ := r; exact ⟨_, e⟩
  | ins c fs => rw [hS] at r; obtain ⟨C, dx, gs, e, _⟩ := r; exact ⟨_, e⟩
theorem AbS.notin (A : AbS K mg μ S H) {p : Addr} (h : H p = none) : p ∉ μ := fun hm => by
  obtain ⟨n, hn⟩ := List.mem_iff_getElem?.mp hm
  obtain ⟨o, e⟩ := A.sm hn
  rw [h] at e
  cases e
theorem Gr.snoc {p : Addr} (x : Ext H H') : Gr μ H (μ ++ [p]) H' :=
  ⟨fun n a h => by rw [List.getElem?_append_left (List.getElem?_eq_some_iff.mp h).1]; exact h, fun _ _ e => x _ _ e, fun _ _ _ e => x _ _ e⟩
/-- a new object of the store -/
theorem AbS.snoc (A : AbS K mg μ S H) (x : Ext H H') {p : Addr} {o : Ob} (hp : p ∉ μ) (r : ObR K mg (μ ++ [p]) H' p o) : AbS K mg (μ ++ [p]) (S ++ [o]) H' := by
  refine ⟨A.tab.ext x, by simp [A.len], ?_, fun n a o' e q => ?_⟩
  · rw [List.nodup_append]
    exact ⟨A.nd, by simp, fun a ha b hb => by simp at hb; subst hb; exact fun z => hp (z ▸ ha)⟩
  · by_cases hn : n < μ.length
    · rw [List.getElem?_append_left hn] at e
      rw [List.getElem?_append_left (by rw [← A.len]; exact hn)] at q
      exact (A.ob n a o' e q).mono (Gr.snoc x) (fun _ h => x _ _ h) (fun _ h => x _ _ h)
    · have hn2 : n = μ.length := by
        have z := (List.getElem?_eq_some_iff.mp e).1
        simp at z
        omega
      subst hn2
      simp at e
      rw [A.len] at q
      simp at q
      subst e; subst q
      exact r
/-- a new list -/
theorem AbS.newL (A : AbS K mg μ S H) {p : Addr} {ds : List D} {vs : List V} (hp : H p = none) (r : Reps K mg μ H ds vs) : AbS K mg (μ ++ [p]) (S ++ [.lst ds]) (upd H p (.lst vs)) :=
  A.snoc (Ext.new hp) (A.notin hp) ⟨vs, upd_same, r.mono (Gr.snoc (Ext.new hp))⟩
/-- an object of the store changes -/
theorem AbS.put (A : AbS K mg μ S H) {n : Nat} {a : Addr} {o : Ob} {u u' : HO} (hn : μ[n]? = some a) (hu : H a = some u) (ht : ∀ xs, u ≠ .tup xs) (hf : ∀ o w, u ≠ .frz o w) (ho : ∀ x, u ≠ .own x) (hx : NoTab u) (r : ObR K mg μ (upd H a u') a o) :
    AbS K mg μ (S.set n o) (upd H a u') ∧ Gr μ H μ (upd H a u') := by
  have ne : ∀ b w, H b = some w → w ≠ u → b ≠ a := fun b w h k z => by
    subst z; rw [hu] at h; exact k (Option.some.inj h).symm
  have g : Gr μ H μ (upd H a u') := ⟨fun _ _ h => h, fun b xs h => by rw [upd_ne (ne b _ h (fun z => ht xs z.symm))]; exact h, fun b o w h => by rw [upd_ne (ne b _ h (fun z => hf o w z.symm))]; exact h⟩
  refine ⟨⟨tabs_put A.tab hu hx, by simp [A.len], A.nd, fun m b o' e q => ?_⟩, g⟩
  by_cases hm : m = n
  · subst hm
    rw [hn] at e; cases e
    have hl : m < S.length := by rw [← A.len]; exact (List.getElem?_eq_some_iff.mp hn).1
    rw [List.getElem?_set_self hl] at q
    cases q
    exact r
  · rw [List.getElem?_set_ne (Ne.symm hm)] at q
    have hb : b ≠ a := fun z => by
      subst z
      obtain ⟨h1, e1⟩ := List.getElem?_eq_some_iff.mp e
      obtain ⟨h2, e2⟩ := List.getElem?_eq_some_iff.mp hn
      exact hm ((List.getElem_inj A.nd).mp (e1.trans e2.symm))
    exact (A.ob m b o' e q).mono g (fun w h => by rw [upd_ne hb]; exact h) (fun dx h => by rw [upd_ne (ne dx _ h (fun z => ho b z.symm))]; exact h)
end
end Z
set_option maxHeartbeats 4000000
/-! Z3: operators and built-in calls by values -/
namespace Z
open PySem PySem.Spec PyProof.Rows L2

/-- what is wanted of a value that comes without an exception -/
def OkV (K : PySem.W.Frag) (mg : MG) (μ : List Addr) (H : Hp) (r : R) (Q : VK) : Prop := match r with
  | .ok d S' => ∀ μ' v H', Gr μ H μ' H' → AbS K mg μ' S' H' → Rep K mg μ' H' d v → Q v H'
  | _ => False
def rZ2 (K : PySem.W.Frag) (mg : MG) (f : D → D → Sto → R) : R2 := fun x y H Q => ∃ μ S d e, AbS K mg μ S H ∧ Rep K mg μ H d x ∧ Rep K mg μ H e y ∧ OkV K mg μ H (f d e S) Q
def rZL (K : PySem.W.Frag) (mg : MG) (f : List D → Sto → R) : List V → Hp → VK → Prop := fun xs H Q => ∃ μ S ds, AbS K mg μ S H ∧ Reps K mg μ H ds xs ∧ OkV K mg μ H (f ds S) Q
section
variable {K : PySem.W.Frag} {mg : MG} {μ : List Addr} {H : Hp} {S : Sto} {Q : VK}
theorem OkV.same {d : D} {v : V} (A : AbS K mg μ S H) (h : OkV K mg μ H (.ok d S) Q) (r : Rep K mg μ H d v) : Q v H := h μ v H (Gr.refl _ _) A r
theorem OkV.int {i : Int} (A : AbS K mg μ S H) (h : OkV K mg μ H (.ok (.int i) S) Q) : Q (.int i) H := h.same A (by simp [Rep])
theorem OkV.bl {i : Bool} (A : AbS K mg μ S H) (h : OkV K mg μ H (.ok (.bl i) S) Q) : Q (.bl i) H := h.same A (by simp [Rep])
theorem OkV.str {i : Str} (A : AbS K mg μ S H) (h : OkV K mg μ H (.ok (.str i) S) Q) : Q (.str i) H := h.same A (by simp [Rep])
theorem OkV.non (A : AbS K mg μ S H) (h : OkV K mg μ H (.ok .non S) Q) : Q .non H := h.same A (by simp [Rep])
/-- a new tuple -/
theorem OkV.tup {ds : List D} {vs : List V} (A : AbS K mg μ S H) (h : OkV K mg μ H (.ok (.tup ds) S) Q) (r : Reps K mg μ H ds vs) {p : Addr} (hp : H p = none) : Q (.ref p) (upd H p (.tup vs)) := by
  refine h μ _ _ (Gr.ext (Ext.new hp)) (A.ext (Ext.new hp)) ?_
  simp only [Rep]
  exact ⟨p, vs, rfl, SqT.of upd_same, r.mono (Gr.ext (Ext.new hp))⟩
/-- a new list -/
theorem OkV.lst {ds : List D} {vs : List V} (A : AbS K mg μ S H) (h : OkV K mg μ H (Z.new S (.lst ds)) Q) (r : Reps K mg μ H ds vs) {p : Addr} (hp : H p = none) : Q (.ref p) (upd H p (.lst vs)) := by
  refine h (μ ++ [p]) _ _ (Gr.snoc (Ext.new hp)) (A.newL hp r) ?_
  simp only [Rep]
  exact ⟨p, by rw [← A.len]; simp, rfl⟩
theorem LINE_eq : LINE = sizeLine := by rw [sizeLine_eq]; rfl
/-- a list of the store -/
theorem AbS.lst (A : AbS K mg μ S H) {n : Nat} {a : Addr} {ds : List D} (h : S[n]? = some (.lst ds)) (hn : μ[n]? = some a) : ∃ vs, H a = some (.lst vs) ∧ Reps K mg μ H ds vs := A.ob n a _ hn h
theorem AbS.rd (A : AbS K mg μ S H) {n : Nat} {a : Addr} {ds : List D} (h : rdL S n = some ds) (hn : μ[n]? = some a) : ∃ vs, SqL K H a vs ∧ Reps K mg μ H ds vs := by
  unfold rdL at h
  split at h
  · rename_i xs e
    cases h
    obtain ⟨vs, q, r⟩ := A.ob n a _ hn e
    exact ⟨vs, SqL.of q, r⟩
  · rename_i xs e
    cases h
    obtain ⟨o, vs, q, r⟩ := A.ob n a _ hn e
    exact ⟨vs, .inl (.inr ⟨o, q⟩), r⟩
  · cases h
/-- a list or a tuple that may be read -/
theorem lstOf_ok (A : AbS K mg μ S H) {d : D} {v : V} {ds : List D} (h : lstOf S d = some ds) (r : Rep K mg μ H d v) : ∃ a vs, v = .ref a ∧ (SqL K H a vs ∨ SqT K H a vs) ∧ Reps K mg μ H ds vs := by
  cases d <;> simp only [lstOf] at h <;> try cases h
  · simp only [Rep] at r
    obtain ⟨a, xs, e, q, r⟩ := r
    exact ⟨a, xs, e, .inr q, r⟩
  · simp only [Rep] at r
    obtain ⟨a, e, q⟩ := r
    obtain ⟨vs, h1, h2⟩ := A.rd h e
    exact ⟨a, vs, q, .inl h1, h2⟩
/-- flat values are the same on both sides -/
theorem flat_ok {d : D} {v w : V} (h : flat d = some w) (r : Rep K mg μ H d v) : v = w ∧ flatV v = true := by
  cases d <;> simp only [flat] at h <;> try cases h
  all_goals simp only [Rep] at r; subst r; exact ⟨rfl, rfl⟩
theorem flats_ok : ∀ {ds : List D} {vs ws : List V}, flats ds = some ws → Reps K mg μ H ds vs → vs = ws ∧ vs.all flatV = true
  | [], vs, ws, h, r => by simp only [flats] at h; cases h; simp only [Reps] at r; subst r; exact ⟨rfl, rfl⟩
  | d :: ds, vs, ws, h, r => by
    simp only [Reps] at r
    obtain ⟨y, ys, rfl, r1, r2⟩ := r
    simp only [flats] at h
    split at h
    · rename_i a b e1 e2
      cases h
      obtain ⟨rfl, f1⟩ := flat_ok e1 r1
      obtain ⟨rfl, f2⟩ := flats_ok e2 r2
      exact ⟨rfl, by rw [List.all_cons, f1, f2]; rfl⟩
    · cases h
mutual
theorem dat_ok (A : AbS K mg μ S H) : ∀ (n : Nat) {d : D} {v : V} {p : PyData}, dat S n d = some p → Rep K mg μ H d v → Dp K H v p
  | 0, _, _, _, h, _ => by simp [dat] at h
  | n + 1, d, v, p, h, r => by
    cases d with
    | non => simp only [dat] at h; cases h; simp only [Rep] at r; subst r; exact .non
    | bl b => simp only [dat] at h; cases h; simp only [Rep] at r; subst r; exact .bl b
    | int b => simp only [dat] at h; cases h; simp only [Rep] at r; subst r; exact .int b
    | str b => simp only [dat] at h; cases h; simp only [Rep] at r; subst r; exact .str b
    | tup ds =>
      simp only [dat, Option.map_eq_some_iff] at h
      obtain ⟨ps, h, rfl⟩ := h
      simp only [Rep] at r
      obtain ⟨a, xs, rfl, q, r⟩ := r
      exact .tup q (dats_ok A n h r)
    | ref m =>
      simp only [dat] at h
      simp only [Rep] at r
      obtain ⟨a, e, rfl⟩ := r
      split at h
      · rename_i ds hs
        simp only [Option.map_eq_some_iff] at h
        obtain ⟨ps, h, rfl⟩ := h
        obtain ⟨vs, q, r⟩ := A.lst hs e
        exact .lst (SqL.of q) (dats_ok A n h r)
      · cases h
    | fn x => simp [dat] at h
    | gd x => simp [dat] at h
theorem dats_ok (A : AbS K mg μ S H) : ∀ (n : Nat) {ds : List D} {vs : List V} {ps : List PyData}, ds.mapM (dat S n) = some ps → Reps K mg μ H ds vs → DpAll K H vs ps
  | n, [], vs, ps, h, r => by
    simp at h
    simp only [Reps] at r
    subst h; subst r
    exact .nil
  | n, d :: ds, vs, ps, h, r => by
    simp only [List.mapM_cons, Option.bind_eq_bind, Option.bind_eq_some_iff, Option.pure_def, Option.some.injEq] at h
    obtain ⟨p, h1, ps', h2, rfl⟩ := h
    simp only [Reps] at r
    obtain ⟨y, ys, rfl, r1, r2⟩ := r
    exact .cons (dat_ok A n h1 r1) (dats_ok A n h2 r2)
end
end

section
variable {X : Cx}
def opO : BO → Operator
  | .add => .Add
  | .sub => .Sub
  | .mul => .Mult
  | .fdiv => .FloorDiv
  | .mod => .Mod
  | .pow => .Pow
theorem small_ok {i : Int} (h : small i = true) : -(2 ^ 64) < i ∧ i < 2 ^ 64 := by
  unfold small at h
  simpa [Bool.and_eq_true] using h
theorem op_bin (o : BO) : OpR X (binaryOp (opO o)) (rZ2 X.K X.mg (bin o)) := by
  intro pins s σ H x y v u Q I rx ry h
  obtain ⟨μ, S, d, e, A, rd, re, h⟩ := h
  cases o with
  | add =>
    simp only [bin] at h
    split at h
    · rename_i i j
      simp only [Rep] at rd re; subst rd; subst re
      exact op_add pins s σ H _ _ v u Q I rx ry ⟨i, j, rfl, rfl, h.int A⟩
    · rename_i i j
      simp only [Rep] at rd re; subst rd; subst re
      split at h
      · rename_i hl
        exact op_add_str pins s σ H _ _ v u Q I rx ry ⟨i, j, rfl, rfl, by rw [← LINE_eq]; exact hl, h.str A⟩
      · exact h.elim
    · rename_i i j
      simp only [Rep] at rd re
      obtain ⟨a, xs, rfl, q1, r1⟩ := rd
      obtain ⟨b, ys, rfl, q2, r2⟩ := re
      split at h
      · rename_i hl
        refine op_catA pins s σ H _ _ v u Q I rx ry ⟨a, b, xs, ys, rfl, rfl, q1, q2, by rw [← LINE_eq, ← r1.length, ← r2.length]; exact hl, fun z => ?_, fun _ z => ?_, fun _ _ p hp => h.tup A (r1.app r2) hp⟩
        · subst z
          have z : i = [] := List.eq_nil_of_length_eq_zero r1.length
          subst z
          exact h.same A (by simp only [Rep]; exact ⟨b, ys, rfl, q2, r2⟩)
        · subst z
          have z : j = [] := List.eq_nil_of_length_eq_zero r2.length
          subst z
          exact h.same A (by simp only [Rep]; exact ⟨a, xs, rfl, q1, by simpa using r1⟩)
      · exact h.elim
    · rename_i m n
      simp only [Rep] at rd re
      obtain ⟨a, e1, rfl⟩ := rd
      obtain ⟨b, e2, rfl⟩ := re
      split at h
      · rename_i xs ys s1 s2
        obtain ⟨vs, q1, r1⟩ := A.lst s1 e1
        obtain ⟨ws, q2, r2⟩ := A.lst s2 e2
        split at h
        · rename_i hl
          exact op_cat pins s σ H _ _ v u Q I rx ry ⟨a, b, vs, ws, rfl, rfl, q1, q2, by rw [← LINE_eq, ← r1.length, ← r2.length]; exact hl, fun p hp => h.lst A (r1.app r2) hp⟩
        · exact h.elim
      · exact h.elim
    · exact h.elim
  | sub =>
    simp only [bin] at h
    split at h
    · rename_i i j
      simp only [Rep] at rd re; subst rd; subst re
      exact op_sub pins s σ H _ _ v u Q I rx ry ⟨i, j, rfl, rfl, h.int A⟩
    · exact h.elim
  | mul =>
    simp only [bin] at h
    split at h
    · rename_i i j
      simp only [Rep] at rd re; subst rd; subst re
      split at h
      · rename_i hs
        rw [Bool.or_eq_true] at hs
        exact op_mul pins s σ H _ _ v u Q I rx ry ⟨i, j, rfl, rfl, hs.imp small_ok small_ok, h.int A⟩
      · exact h.elim
    · rename_i m k
      simp only [Rep] at rd re; subst re
      obtain ⟨a, e1, rfl⟩ := rd
      split at h
      · rename_i xs s1
        obtain ⟨vs, q1, r1⟩ := A.lst s1 e1
        split at h
        · rename_i hc
          simp only [Bool.and_eq_true, decide_eq_true_eq] at hc
          exact op_rep pins s σ H _ _ v u Q I rx ry ⟨a, k, vs, rfl, rfl, q1, hc.1, hc.2.1, by rw [← LINE_eq, ← r1.length]; exact hc.2.2, fun p hp => h.lst A (r1.rep _) hp⟩
        · exact h.elim
      · exact h.elim
    · rename_i xs k
      simp only [Rep] at rd re; subst re
      obtain ⟨a, vs, rfl, q1, r1⟩ := rd
      split at h
      · rename_i hc
        refine op_repT pins s σ H _ _ v u Q I rx ry ⟨a, k, vs, rfl, rfl, q1, fun z => hc.1 ?_, hc.2.1, hc.2.2.1, by rw [← r1.length]; exact hc.2.2.2, fun p hp => h.tup A (r1.rep _) hp⟩
        subst z
        exact List.eq_nil_of_length_eq_zero r1.length
      · exact h.elim
    · exact h.elim
  | fdiv =>
    simp only [bin] at h
    split at h
    · rename_i i j
      simp only [Rep] at rd re; subst rd; subst re
      split at h
      · rename_i hc
        exact op_fdivN pins s σ H _ _ v u Q I rx ry ⟨i, j, rfl, rfl, hc, h.int A⟩
      · exact h.elim
    · exact h.elim
  | mod =>
    simp only [bin] at h
    split at h
    · rename_i i j
      simp only [Rep] at rd re; subst rd; subst re
      split at h
      · rename_i hc
        exact op_modN pins s σ H _ _ v u Q I rx ry ⟨i, j, rfl, rfl, hc, h.int A⟩
      · exact h.elim
    · exact h.elim
  | pow =>
    simp only [bin] at h
    split at h
    · rename_i i j
      simp only [Rep] at rd re; subst rd; subst re
      split at h
      · rename_i hc
        exact op_pow pins s σ H _ _ v u Q I rx ry ⟨i, j, rfl, rfl, hc, h.int A⟩
      · exact h.elim
    · exact h.elim
def opC : CO → CmpOp
  | .lt => .Lt
  | .le => .LtE
  | .gt => .Gt
  | .ge => .GtE
  | .eq => .Eq
  | .ne => .NotEq
  | .inn => .In
  | .nin => .NotIn
/-- == by what eqD tells -/
theorem eqD_ok {K : PySem.W.Frag} {mg : MG} {μ : List Addr} {H : Hp} {S : Sto} {d e : D} {x y : V} {b : Bool} (A : AbS K mg μ S H) (rd : Rep K mg μ H d x) (re : Rep K mg μ H e y) (h : eqD S d e = some b) :
    (scal x y = true ∧ decide (x = y) = b) ∨ ∃ p q, Dp K H x p ∧ Dp K H y q ∧ SeqAt.shaped p = true ∧ SeqAt.shaped q = true ∧ PyData.eqv p q = b := by
  unfold eqD at h
  split at h
  · cases h
    simp only [Rep] at rd re; subst rd; subst re
    exact .inl ⟨rfl, by simp⟩
  · cases h
    simp only [Rep] at rd re; subst rd; subst re
    exact .inl ⟨rfl, by simp⟩
  · cases h
    simp only [Rep] at rd re; subst rd; subst re
    exact .inl ⟨rfl, by simp⟩
  · cases h
    simp only [Rep] at rd re; subst rd; subst re
    exact .inr ⟨.none, .none, .non, .non, by decide, by decide, by decide⟩
  · split at h
    · rename_i p q e1 e2
      split at h
      · rename_i hs
        cases h
        rw [Bool.and_eq_true] at hs
        exact .inr ⟨p, q, dat_ok A _ e1 rd, dat_ok A _ e2 re, hs.1, hs.2, rfl⟩
      · cases h
    · cases h
theorem op_cmp (o : CO) (hu : X.A.units + 64 < cLine) : OpR X (compareOp (opC o)) (rZ2 X.K X.mg (cmpR o)) := by
  intro pins s σ H x y v u Q I rx ry h
  obtain ⟨μ, S, d, e, A, rd, re, h⟩ := h
  unfold cmpR at h
  split at h
  case h_2 => exact h.elim
  rename_i b hb
  have hQ : Q (.bl b) H := h.bl A
  clear h
  cases o with
  | lt =>
    simp only [cmp] at hb
    split at hb
    · cases hb
      simp only [Rep] at rd re; subst rd; subst re
      exact op_lt pins s σ H _ _ v u Q I rx ry ⟨_, _, rfl, rfl, hQ⟩
    · cases hb
      simp only [Rep] at rd re; subst rd; subst re
      exact op_lt_str pins s σ H _ _ v u Q I rx ry ⟨_, _, rfl, rfl, hQ⟩
    · cases hb
  | le =>
    simp only [cmp] at hb
    split at hb
    · cases hb
      simp only [Rep] at rd re; subst rd; subst re
      exact op_le pins s σ H _ _ v u Q I rx ry ⟨_, _, rfl, rfl, hQ⟩
    · cases hb
  | gt =>
    simp only [cmp] at hb
    split at hb
    · cases hb
      simp only [Rep] at rd re; subst rd; subst re
      exact op_gt pins s σ H _ _ v u Q I rx ry ⟨_, _, rfl, rfl, hQ⟩
    · cases hb
  | ge =>
    simp only [cmp] at hb
    split at hb
    · cases hb
      simp only [Rep] at rd re; subst rd; subst re
      exact op_ge pins s σ H _ _ v u Q I rx ry ⟨_, _, rfl, rfl, hQ⟩
    · cases hb
  | eq =>
    simp only [cmp] at hb
    rcases eqD_ok A rd re hb with ⟨h1, h2⟩ | ⟨p, q, h1, h2, h3, h4, h5⟩
    · exact op_eq pins s σ H _ _ v u Q I rx ry ⟨h1, by rw [h2]; exact hQ⟩
    · exact op_eqD hu pins s σ H _ _ v u Q I rx ry ⟨p, q, h1, h2, h3, h4, by rw [h5]; exact hQ⟩
  | ne =>
    simp only [cmp, Option.map_eq_some_iff] at hb
    obtain ⟨c, hb, rfl⟩ := hb
    rcases eqD_ok A rd re hb with ⟨h1, h2⟩ | ⟨p, q, h1, h2, h3, h4, h5⟩
    · exact op_ne pins s σ H _ _ v u Q I rx ry ⟨h1, by rw [h2]; exact hQ⟩
    · exact op_neD hu pins s σ H _ _ v u Q I rx ry ⟨p, q, h1, h2, h3, h4, by rw [h5]; exact hQ⟩
  | inn =>
    simp only [cmp] at hb
    unfold inD at hb
    split at hb
    · cases hb
      simp only [Rep] at rd re; subst rd; subst re
      exact op_in_str pins s σ H _ _ v u Q I rx ry ⟨_, _, rfl, rfl, hQ⟩
    · split at hb
      · rename_i w ws e1 e2
        cases hb
        simp only [Option.bind_eq_some_iff] at e2
        obtain ⟨ds, e2, e3⟩ := e2
        obtain ⟨a, vs, rfl, q, r⟩ := lstOf_ok A e2 re
        obtain ⟨rfl, f1⟩ := flat_ok e1 rd
        obtain ⟨rfl, f2⟩ := flats_ok e3 r
        exact op_in_seq pins s σ H _ _ v u Q I rx ry ⟨a, vs, rfl, q, f1, f2, hQ⟩
      · cases hb
  | nin =>
    simp only [cmp, Option.map_eq_some_iff] at hb
    obtain ⟨c, hb, rfl⟩ := hb
    unfold inD at hb
    split at hb
    · cases hb
      simp only [Rep] at rd re; subst rd; subst re
      exact op_notIn_str pins s σ H _ _ v u Q I rx ry ⟨_, _, rfl, rfl, hQ⟩
    · split at hb
      · rename_i w ws e1 e2
        cases hb
        simp only [Option.bind_eq_some_iff] at e2
        obtain ⟨ds, e2, e3⟩ := e2
        obtain ⟨a, vs, rfl, q, r⟩ := lstOf_ok A e2 re
        obtain ⟨rfl, f1⟩ := flat_ok e1 rd
        obtain ⟨rfl, f2⟩ := flats_ok e3 r
        exact op_notIn_seq pins s σ H _ _ v u Q I rx ry ⟨a, vs, rfl, q, f1, f2, hQ⟩
      · cases hb
end
end Z
set_option maxHeartbeats 4000000
/-! Z4: built-in functions, subscripts, slices, methods, by values -/
namespace Z
open PySem PySem.Spec PyProof.Rows L2
section
variable {K : PySem.W.Frag} {mg : MG} {μ : List Addr} {H : Hp} {S : Sto} {Q : VK}
mutual
theorem dat_noD : ∀ (n : Nat) {d : D} {p : PyData}, dat S n d = some p → p.hasDict = false ∧ p.depth ≤ n
  | 0, _, _, h => by simp [dat] at h
  | n + 1, d, p, h => by
    cases d with
    | non => simp only [dat] at h; cases h; simp [PyData.hasDict, PyData.depth]
    | bl b => simp only [dat] at h; cases h; simp [PyData.hasDict, PyData.depth]
    | int b => simp only [dat] at h; cases h; simp [PyData.hasDict, PyData.depth]
    | str b => simp only [dat] at h; cases h; simp [PyData.hasDict, PyData.depth]
    | tup ds =>
      simp only [dat, Option.map_eq_some_iff] at h
      obtain ⟨ps, h, rfl⟩ := h
      have z := dats_noD n h
      simp only [PyData.hasDict, PyData.depth]
      exact ⟨z.1, by omega⟩
    | ref m =>
      simp only [dat] at h
      split at h
      · simp only [Option.map_eq_some_iff] at h
        obtain ⟨ps, h, rfl⟩ := h
        have z := dats_noD n h
        simp only [PyData.hasDict, PyData.depth]
        exact ⟨z.1, by omega⟩
      · cases h
    | fn x => simp [dat] at h
    | gd x => simp [dat] at h
theorem dats_noD : ∀ (n : Nat) {ds : List D} {ps : List PyData}, ds.mapM (dat S n) = some ps → PyData.hasDictAll ps = false ∧ PyData.depthAll ps ≤ n
  | n, [], ps, h => by
    simp at h
    subst h
    simp [PyData.hasDictAll, PyData.depthAll]
  | n, d :: ds, ps, h => by
    simp only [List.mapM_cons, Option.bind_eq_bind, Option.bind_eq_some_iff, Option.pure_def, Option.some.injEq] at h
    obtain ⟨p, h1, ps', h2, rfl⟩ := h
    have z1 := dat_noD n h1
    have z2 := dats_noD n h2
    simp only [PyData.hasDictAll, PyData.depthAll, Bool.or_eq_false_iff]
    exact ⟨⟨z1.1, z2.1⟩, by omega⟩
end
theorem intsZ_ok : ∀ {ds : List D} {vs : List V} {l : List Int}, intsZ ds = some l → Reps K mg μ H ds vs → vs = l.map V.int
  | [], _, _, h, r => by simp only [intsZ] at h; cases h; simp only [Reps] at r; rw [r]; rfl
  | d :: ds, _, _, h, r => by
    simp only [Reps] at r
    obtain ⟨y, ys, rfl, r1, r2⟩ := r
    cases d <;> simp only [intsZ] at h <;> try cases h
    simp only [Option.map_eq_some_iff] at h
    obtain ⟨l, h, rfl⟩ := h
    simp only [Rep] at r1
    rw [r1, intsZ_ok h r2]
    rfl
theorem strsZ_ok : ∀ {ds : List D} {vs : List V} {l : List Str}, strsZ ds = some l → Reps K mg μ H ds vs → vs = l.map V.str
  | [], _, _, h, r => by simp only [strsZ] at h; cases h; simp only [Reps] at r; rw [r]; rfl
  | d :: ds, _, _, h, r => by
    simp only [Reps] at r
    obtain ⟨y, ys, rfl, r1, r2⟩ := r
    cases d <;> simp only [strsZ] at h <;> try cases h
    simp only [Option.map_eq_some_iff] at h
    obtain ⟨l, h, rfl⟩ := h
    simp only [Rep] at r1
    rw [r1, strsZ_ok h r2]
    rfl
theorem boolsZ_ok : ∀ {ds : List D} {vs : List V} {l : List Bool}, boolsZ ds = some l → Reps K mg μ H ds vs → vs = l.map V.bl
  | [], _, _, h, r => by simp only [boolsZ] at h; cases h; simp only [Reps] at r; rw [r]; rfl
  | d :: ds, _, _, h, r => by
    simp only [Reps] at r
    obtain ⟨y, ys, rfl, r1, r2⟩ := r
    cases d <;> simp only [boolsZ] at h <;> try cases h
    simp only [Option.map_eq_some_iff] at h
    obtain ⟨l, h, rfl⟩ := h
    simp only [Rep] at r1
    rw [r1, boolsZ_ok h r2]
    rfl
theorem isLst_ok (A : AbS K mg μ S H) {d : D} {v : V} {ds : List D} (h : isLst S d = some ds) (r : Rep K mg μ H d v) : ∃ a vs, v = .ref a ∧ SqL K H a vs ∧ Reps K mg μ H ds vs := by
  cases d <;> simp only [isLst] at h <;> try cases h
  simp only [Rep] at r
  obtain ⟨a, e, q⟩ := r
  obtain ⟨vs, h1, h2⟩ := A.rd h e
  exact ⟨a, vs, q, h1, h2⟩
theorem Reps.inv1 {d : D} {vs : List V} (r : Reps K mg μ H [d] vs) : ∃ v, vs = [v] ∧ Rep K mg μ H d v := by
  simp only [Reps] at r
  obtain ⟨y, ys, rfl, r, rfl⟩ := r
  exact ⟨y, rfl, r⟩
theorem Reps.inv2 {d e : D} {vs : List V} (r : Reps K mg μ H [d, e] vs) : ∃ v w, vs = [v, w] ∧ Rep K mg μ H d v ∧ Rep K mg μ H e w := by
  simp only [Reps] at r
  obtain ⟨y, ys, rfl, r, z, zs, rfl, r2, rfl⟩ := r
  exact ⟨y, z, rfl, r, r2⟩
theorem Reps.inv0 {vs : List V} (r : Reps K mg μ H [] vs) : vs = [] := by simpa only [Reps] using r
end
section
variable {X : Cx}
/-- the name by which it is called, and what that is -/
def biN : BI → Str
  | .len => "len" | .abs => "abs" | .int => "int" | .str => "str" | .repr => "repr" | .max => "max" | .min => "min" | .sum => "sum"
  | .all => "all" | .any => "any" | .tuple => "tuple" | .list => "list" | .divmod => "divmod"
def biV : BI → Value
  | .len => .builtin "len" | .abs => .builtin "abs" | .int => .type "int" | .str => .type "str" | .repr => .builtin "repr" | .max => .builtin "max" | .min => .builtin "min" | .sum => .builtin "sum"
  | .all => .builtin "all" | .any => .builtin "any" | .tuple => .type "tuple" | .list => .type "list" | .divmod => .builtin "divmod"
theorem biN_boot (b : BI) : bootBuiltins (biN b) = some (biV b) := by
  cases b <;> first | exact boot_len | decide +kernel
theorem vals1 {x : V} {us : List Value} (r : Vals [x] us) : ∃ u, us = [u] ∧ RelV x u := by
  cases r with
  | cons r t => cases t; exact ⟨_, rfl, r⟩
theorem call_bi (b : BI) (hc : X.calm = true) (hg : X.A.guards = some []) (hu : X.A.units + 64 < cLine) : CallR X (biV b) (rZL X.K X.mg (bi b)) := by
  intro pins s σ H xs us Q I r h
  obtain ⟨μ, S, ds, A, rs, h⟩ := h
  unfold bi at h
  split at h
  · -- len of a text
    obtain ⟨v, rfl, r1⟩ := rs.inv1
    simp only [Rep] at r1; subst r1
    split at h
    · rename_i hl
      exact call_len_str pins s σ H _ us Q I r ⟨_, rfl, by rw [← LINE_eq]; exact hl, h.int A⟩
    · exact h.elim
  · -- len of a list, a tuple
    obtain ⟨v, rfl, r1⟩ := rs.inv1
    split at h
    · rename_i l hl
      obtain ⟨a, vs, rfl, q, r2⟩ := lstOf_ok A hl r1
      exact call_len_seq pins s σ H _ us Q I r ⟨a, vs, rfl, q, by rw [← r2.length]; exact h.int A⟩
    · exact h.elim
  · obtain ⟨v, rfl, r1⟩ := rs.inv1
    simp only [Rep] at r1; subst r1
    exact call_abs pins s σ H _ us Q I r ⟨_, rfl, h.int A⟩
  · obtain ⟨v, rfl, r1⟩ := rs.inv1
    simp only [Rep] at r1; subst r1
    exact call_int1 pins s σ H _ us Q I r (.inl ⟨_, rfl, h.int A⟩)
  · obtain ⟨v, rfl, r1⟩ := rs.inv1
    simp only [Rep] at r1; subst r1
    exact call_int1 pins s σ H _ us Q I r (.inr ⟨_, rfl, h.int A⟩)
  · obtain ⟨v, rfl, r1⟩ := rs.inv1
    simp only [Rep] at r1; subst r1
    split at h
    · rename_i hl
      split at h
      · rename_i i hi
        exact call_int_str pins s σ H _ us Q I r ⟨_, i, rfl, hi, hl, h.int A⟩
      · exact h.elim
    · exact h.elim
  · obtain ⟨v, rfl, r1⟩ := rs.inv1
    simp only [Rep] at r1; subst r1
    split at h
    · rename_i hl
      exact call_str_int pins s σ H _ us Q I r ⟨_, rfl, hl, h.str A⟩
    · exact h.elim
  · obtain ⟨v, rfl, r1⟩ := rs.inv1
    simp only [Rep] at r1; subst r1
    exact SkE.call_str_str pins s σ H _ us Q I r ⟨_, rfl, h.str A⟩
  · -- repr
    obtain ⟨v, rfl, r1⟩ := rs.inv1
    split at h
    · rename_i l p h1 h2
      split at h
      · rename_i hs
        simp only [Bool.and_eq_true, decide_eq_true_eq] at hs
        obtain ⟨a, vs, rfl, _, _⟩ := lstOf_ok A h1 r1
        obtain ⟨u, rfl, ru⟩ := vals1 r
        cases ru
        obtain ⟨as, rd⟩ := Dp.reads I p _ _ (dat_ok A _ h2 r1) rfl
        have z := dat_noD DEEP h2
        refine repr_of_reads' rd hs.1 (PyData.noDict_hsm z.1) hg (by have := z.2; unfold DEEP at this; omega) (fun _ _ e => e) (fun h' u tk hk => ?_) (by rw [← LINE_eq]; exact hs.2)
        exact ⟨.str p.shown, H, I.kept hk, ⟨_, rfl⟩, h.str A⟩
      · exact h.elim
    · exact h.elim
  · obtain ⟨v, w, rfl, r1, r2⟩ := rs.inv2
    simp only [Rep] at r1 r2; subst r1; subst r2
    exact call_max2 hc pins s σ H _ us Q I r ⟨_, _, rfl, h.int A⟩
  · obtain ⟨v, w, rfl, r1, r2⟩ := rs.inv2
    simp only [Rep] at r1 r2; subst r1; subst r2
    exact call_min2 hc pins s σ H _ us Q I r ⟨_, _, rfl, h.int A⟩
  · obtain ⟨v, rfl, r1⟩ := rs.inv1
    split at h
    · rename_i l hl
      simp only [Option.bind_eq_some_iff] at hl
      obtain ⟨ds, hl, h2⟩ := hl
      obtain ⟨a, vs, rfl, q, r2⟩ := isLst_ok A hl r1
      rw [intsZ_ok h2 r2] at q
      exact cr_sum hc pins s σ H _ us Q I r ⟨a, l, rfl, q, h.int A⟩
    · exact h.elim
  · obtain ⟨v, rfl, r1⟩ := rs.inv1
    split at h
    · rename_i l hl
      simp only [Option.bind_eq_some_iff] at hl
      obtain ⟨ds, hl, h2⟩ := hl
      obtain ⟨a, vs, rfl, q, r2⟩ := isLst_ok A hl r1
      rw [boolsZ_ok h2 r2] at q
      exact cr_all hc pins s σ H _ us Q I r ⟨a, l, rfl, q, h.bl A⟩
    · exact h.elim
  · obtain ⟨v, rfl, r1⟩ := rs.inv1
    split at h
    · rename_i l hl
      simp only [Option.bind_eq_some_iff] at hl
      obtain ⟨ds, hl, h2⟩ := hl
      obtain ⟨a, vs, rfl, q, r2⟩ := isLst_ok A hl r1
      rw [boolsZ_ok h2 r2] at q
      exact cr_any hc pins s σ H _ us Q I r ⟨a, l, rfl, q, h.bl A⟩
    · exact h.elim
  · -- tuple
    obtain ⟨v, rfl, r1⟩ := rs.inv1
    split at h
    · rename_i l hl
      obtain ⟨a, vs, rfl, q, r2⟩ := lstOf_ok A hl r1
      refine call_tuple_of pins s σ H _ us Q I r ⟨a, vs, rfl, ?_⟩
      rcases q with q | q
      · exact .inl ⟨q, fun p hp => h.tup A r2 hp⟩
      · exact .inr ⟨q, h.same A (by simp only [Rep]; exact ⟨a, vs, rfl, q, r2⟩)⟩
    · exact h.elim
  · obtain ⟨v, rfl, r1⟩ := rs.inv1
    split at h
    · rename_i l hl
      obtain ⟨a, vs, rfl, q, r2⟩ := lstOf_ok A hl r1
      exact call_list_of pins s σ H _ us Q I r ⟨a, vs, rfl, q, fun p hp => h.lst A r2 hp⟩
    · exact h.elim
  · obtain ⟨v, w, rfl, r1, r2⟩ := rs.inv2
    simp only [Rep] at r1 r2; subst r1; subst r2
    split at h
    · rename_i hj
      exact call_divmod pins s σ H _ us Q I r ⟨_, _, rfl, hj, fun p hp => h.tup A (.cons (by simp [Rep]) (.cons (by simp [Rep]) .nil)) hp⟩
    · exact h.elim
  · exact h.elim
end
end Z
set_option maxHeartbeats 4000000
/-! Z5: subscripts, slices, methods of built-in types, isinstance, by values -/
namespace Z
open PySem PySem.Spec PyProof.Rows L2
/-- a value of the top, at every heap -/
def TopR (mg : MG) (K : PySem.W.Frag) (d : D) (v : V) : Prop := ∀ μ H, Rep K mg μ H d v
/-- a dict of the top with int keys -/
structure GdOk (K : PySem.W.Frag) (mg : MG) (a : Addr) (kvs : List (Key × D)) : Prop where
  at_ : ∃ es n, K.lookup a = some ⟨.type "dict", none, .dict es n, #[]⟩ ∧ (∀ e ∈ es, ∃ i t, e.key = .int i t ∧ e.hash = hashInt i) ∧
    (∀ i d, kval kvs (.inl i) = some d → ∃ u v, findBy Value.isInt es i = some u ∧ RelV v u ∧ TopR mg K d v) ∧ (∀ i, kval kvs (.inl i) = none → findBy Value.isInt es i = none)
  low : (a == sysModules) = false
section
variable {X : Cx}
theorem GdOk.map {a : Addr} {kvs : List (Key × D)} (g : GdOk X.K X.mg a kvs) {pins : List (Addr × Obj)} {s : Shared} {σ : L2.St} {H : Hp} (I : Inv X pins σ H s) :
    ∃ es, s.heap.MapOf (intKind X.prog X.w) a (fun k => findBy Value.isInt es k) ∧
    (∀ i d, kval kvs (.inl i) = some d → ∃ u v, findBy Value.isInt es i = some u ∧ RelV v u ∧ TopR X.mg X.K d v) ∧ (∀ i, kval kvs (.inl i) = none → findBy Value.isInt es i = none) := by
  obtain ⟨es, n, hl, hk, h1, h2⟩ := g.at_
  refine ⟨es, ⟨(⟨.type "dict", none, .dict es n, #[]⟩ : Obj), es, n, I.kIn _ _ hl, ⟨rfl, rfl, rfl⟩, rfl, fun e he => ?_, fun _ => rfl⟩, h1, h2⟩
  obtain ⟨i, t, e1, e2⟩ := hk e he
  exact ⟨i, by rw [e1]; exact intKind_is X.prog X.w i t, e2⟩
theorem ix_get (C : Ev) (hg : ∀ x kvs, C.gd x = some kvs → ∃ a, X.mg x = some (.ref a) ∧ GdOk X.K X.mg a kvs ∧ ∀ q d, kval kvs q = some d → ∃ i, q = .inl i) : IxR X (rZ2 X.K X.mg (get C)) := by
  intro value slice pins s σ H x y v u Q I rx ry h hs
  obtain ⟨μ, S, d, e, A, rd, re, h⟩ := h
  unfold get at h
  split at h
  · -- tuple
    rename_i ds i
    simp only [Rep] at rd re; subst re
    obtain ⟨a, xs, rfl, q, r⟩ := rd
    unfold ofO at h
    split at h
    · rename_i d hd
      have hat : ∃ w, atI xs i = some w ∧ Rep X.K X.mg μ H d w := by
        unfold atI at hd ⊢
        simp only [Option.bind_eq_some_iff] at hd
        obtain ⟨j, h1, h2⟩ := hd
        obtain ⟨w, h3, h4⟩ := r.get h2
        refine ⟨w, ?_, h4⟩
        rw [← r.length, h1]
        exact h3
      obtain ⟨w, h1, h2⟩ := hat
      exact ix_tup value slice pins s σ H _ _ v u Q I rx ry ⟨a, xs, i, w, rfl, rfl, q, h1, h.same A h2⟩ hs
    · exact h.elim
  · -- list
    rename_i n i
    simp only [Rep] at rd re; subst re
    obtain ⟨a, e1, rfl⟩ := rd
    split at h
    · rename_i ds hl
      obtain ⟨xs, q, r⟩ := A.rd hl e1
      unfold ofO at h
      split at h
      · rename_i d hd
        have hat : ∃ w, atI xs i = some w ∧ Rep X.K X.mg μ H d w := by
          unfold atI at hd ⊢
          simp only [Option.bind_eq_some_iff] at hd
          obtain ⟨j, h1, h2⟩ := hd
          obtain ⟨w, h3, h4⟩ := r.get h2
          refine ⟨w, ?_, h4⟩
          rw [← r.length, h1]
          exact h3
        obtain ⟨w, h1, h2⟩ := hat
        exact ix_list value slice pins s σ H _ _ v u Q I rx ry ⟨a, xs, i, w, rfl, rfl, q, h1, h.same A h2⟩ hs
      · exact h.elim
    · exact h.elim
  · -- text
    rename_i z i
    simp only [Rep] at rd re; subst re; subst rd
    split at h
    · rename_i hl
      split at h
      · rename_i c hc
        exact ix_str value slice pins s σ H _ _ v u Q I rx ry ⟨z, i, c, rfl, rfl, by rw [← LINE_eq]; exact hl, hc, h.str A⟩ hs
      · exact h.elim
    · exact h.elim
  · -- a dict of the top
    rename_i x k
    simp only [Rep] at rd
    obtain ⟨a, e1, rfl⟩ := rd
    split at h
    · rename_i kvs q hx hq
      unfold ofO at h
      split at h
      · rename_i d hd
        obtain ⟨a', e2, g, hi⟩ := hg _ _ hx
        obtain ⟨i, rfl⟩ := hi q d hd
        obtain rfl : a = a' := by rw [e1] at e2; injection e2 with e3; injection e3
        obtain ⟨es, hm, h1, h2⟩ := g.map I
        obtain ⟨w, vv, e3, r3, tr⟩ := h1 i d hd
        have hk : e = D.int i := by
          cases e <;> simp [keyOf] at hq
          rw [hq]
        subst hk
        simp only [Rep] at re; subst re
        cases rx
        obtain ⟨t, rfl⟩ := ry
        exact tail_any hm.typeIs slot_dict_getitem.lookup (wpAny_getItem_of (intKind_is X.prog X.w i t) hm e3 ⟨vv, H, I.tok _, r3, h.same A (tr μ H)⟩) hs
      · exact h.elim
    · exact h.elim
  · exact h.elim
theorem cutV_cut (xs : List V) (lo hi : Option Int) : cutV xs lo hi = cut xs lo hi := rfl
theorem Reps.cut {K : PySem.W.Frag} {mg : MG} {μ : List Addr} {H : Hp} {ds : List D} {vs : List V} (r : Reps K mg μ H ds vs) (lo hi : Option Int) : Reps K mg μ H (Z.cut ds lo hi) (cutV vs lo hi) := by
  unfold Z.cut cutV
  rw [r.length]
  exact (r.drop _).take _
theorem cut_all {α : Type} {xs : List α} {lo hi : Option Int} (h : HT.sIx xs.length 0 lo = 0 ∧ HT.sIx xs.length xs.length hi = xs.length) : cut xs lo hi = xs := by
  unfold cut
  rw [h.1, h.2]
  simp
def rZSl (K : PySem.W.Frag) (mg : MG) : V → Option Int → Option Int → Hp → VK → Prop := fun x lo hi H Q => ∃ μ S d, AbS K mg μ S H ∧ Rep K mg μ H d x ∧ OkV K mg μ H (slc d lo hi S) Q
theorem sl_slc : SlR X (rZSl X.K X.mg) := by
  intro pins s σ H x v vl vu lo hi sl Q I rx hs pl pu h
  obtain ⟨μ, S, d, A, rd, h⟩ := h
  unfold slc at h
  split at h
  · rename_i ds
    simp only [Rep] at rd
    obtain ⟨a, xs, rfl, q, r⟩ := rd
    refine sl_tupA pins s σ H _ v vl vu lo hi sl Q I rx hs pl pu ⟨a, xs, rfl, q, fun z => ?_, fun _ p hp => h.tup A (r.cut lo hi) hp⟩
    rw [← r.length] at z
    rw [cut_all z] at h
    exact h.same A (by simp only [Rep]; exact ⟨a, xs, rfl, q, r⟩)
  · rename_i n
    simp only [Rep] at rd
    obtain ⟨a, e1, rfl⟩ := rd
    split at h
    · rename_i ds hl
      obtain ⟨xs, q, r⟩ := A.rd hl e1
      exact sl_list pins s σ H _ v vl vu lo hi sl Q I rx hs pl pu ⟨a, xs, rfl, q, fun p hp => h.lst A (r.cut lo hi) hp⟩
    · exact h.elim
  · rename_i z
    simp only [Rep] at rd; subst rd
    split at h
    · rename_i hl
      exact sl_str pins s σ H _ v vl vu lo hi sl Q I rx hs pl pu ⟨z, rfl, by rw [← LINE_eq]; exact hl, h.str A⟩
    · exact h.elim
  · exact h.elim

/-! ### isinstance -/
theorem rd_ty {K : PySem.W.Frag} {mg : MG} {μ : List Addr} {H : Hp} {S : Sto} {n : Nat} {a : Addr} {ds : List D} (A : AbS K mg μ S H) (h : rdL S n = some ds) (e : μ[n]? = some a) : TyX K H (.ref a) (.type "list") := by
  unfold rdL at h
  split at h
  · rename_i xs q
    obtain ⟨vs, q, _⟩ := A.ob n a _ e q
    exact .base (.lst q)
  · rename_i xs q
    obtain ⟨o, vs, q, _⟩ := A.ob n a _ e q
    exact .base (.frz q)
  · cases h
theorem sqt_ty {K : PySem.W.Frag} {H : Hp} {a : Addr} {xs : List V} (h : SqT K H a xs) : TyX K H (.ref a) (.type "tuple") := by
  rcases h with (h | ⟨o, h⟩) | ⟨o, its, n, h, hc, _⟩
  · exact .base (.tup h)
  · exact .fTuple h
  · exact .kTuple h hc
theorem kb_non (c : TY) : kitB "NoneType" c.nm = some (isB .non c) := by cases c <;> decide +kernel
theorem kb_bl (b : Bool) (c : TY) : kitB "bool" c.nm = some (isB (.bl b) c) := by cases c <;> simp only [isB] <;> decide +kernel
theorem kb_int (b : Int) (c : TY) : kitB "int" c.nm = some (isB (.int b) c) := by cases c <;> simp only [isB] <;> decide +kernel
theorem kb_str (b : Str) (c : TY) : kitB "str" c.nm = some (isB (.str b) c) := by cases c <;> simp only [isB] <;> decide +kernel
theorem kb_tup (b : List D) (c : TY) : kitB "tuple" c.nm = some (isB (.tup b) c) := by cases c <;> simp only [isB] <;> decide +kernel
theorem kb_ref (b : Nat) (c : TY) : kitB "list" c.nm = some (isB (.ref b) c) := by cases c <;> simp only [isB] <;> decide +kernel
theorem isB_ok {K : PySem.W.Frag} {mg : MG} {μ : List Addr} {H : Hp} {S : Sto} {d : D} {v : V} {t : String} (A : AbS K mg μ S H) (rd : Rep K mg μ H d v) (h : tyN S d = some t) : TyX K H v (.type t) ∧ ∀ c : TY, PySem.W.kitOne K (.type t) (.type c.nm) = some (isB d c) := by
  cases d with
  | non => simp only [tyN] at h; cases h; simp only [Rep] at rd; subst rd; exact ⟨.base .non, fun c => kit_ty (kb_non c)⟩
  | bl b => simp only [tyN] at h; cases h; simp only [Rep] at rd; subst rd; exact ⟨.base (.bl b), fun c => kit_ty (kb_bl b c)⟩
  | int b => simp only [tyN] at h; cases h; simp only [Rep] at rd; subst rd; exact ⟨.base (.int b), fun c => kit_ty (kb_int b c)⟩
  | str b => simp only [tyN] at h; cases h; simp only [Rep] at rd; subst rd; exact ⟨.base (.str b), fun c => kit_ty (kb_str b c)⟩
  | tup ds =>
    simp only [tyN] at h; cases h; simp only [Rep] at rd
    obtain ⟨a, xs, rfl, q, r⟩ := rd
    exact ⟨sqt_ty q, fun c => kit_ty (kb_tup ds c)⟩
  | ref n =>
    simp only [tyN] at h
    split at h
    · rename_i ds hl
      cases h
      simp only [Rep] at rd
      obtain ⟨a, e, rfl⟩ := rd
      exact ⟨rd_ty A hl e, fun c => kit_ty (kb_ref n c)⟩
    · cases h
  | fn x => simp [tyN] at h
  | gd x => simp [tyN] at h
theorem kitAny_is {K : PySem.W.Frag} {t : Value} {f : TY → Bool} (h : ∀ c : TY, PySem.W.kitOne K t (.type c.nm) = some (f c)) : ∀ cs : List TY, PySem.W.kitAny K t (cs.map fun c => .type c.nm) = some (cs.any f)
  | [] => rfl
  | c :: r => by
    rw [List.map_cons, List.any_cons]
    refine kitAny_cons (h c) (fun z => ?_) (fun z => by rw [z]; rfl)
    rw [z, Bool.false_or]
    exact kitAny_is h r
/-- isinstance(x, c) -/
def rIsiZ (K : PySem.W.Frag) (mg : MG) (c : TY) : List V → Hp → VK → Prop := fun xs H Q => ∃ x, xs = [x, .ty c.nm] ∧ ∃ μ S d, AbS K mg μ S H ∧ Rep K mg μ H d x ∧ OkV K mg μ H (isi S d [c]) Q
theorem call_isiZ (c : TY) : CallR X (.builtin "isinstance") (rIsiZ X.K X.mg c) := by
  intro pins s σ H xs us Q I r h
  obtain ⟨x, rfl, μ, S, d, A, rd, h⟩ := h
  unfold isi at h
  split at h
  · rename_i t ht
    obtain ⟨h1, h2⟩ := isB_ok A rd ht
    have hq := h.bl A
    rw [List.any_cons, List.any_nil, Bool.or_false] at hq
    exact call_isi pins s σ H _ us Q I r ⟨x, _, _, _, _, rfl, .ty _, h1, h2 c, hq⟩
  · exact h.elim
/-- isinstance(x, (c1, c2, ..)), the tuple just made -/
def rIsiTZ (K : PySem.W.Frag) (mg : MG) (cs : List TY) : List V → Hp → VK → Prop := fun xs H Q => ∃ x tp, xs = [x, .ref tp] ∧ H tp = some (.tup (cs.map fun c => .ty c.nm)) ∧ ∃ μ S d, AbS K mg μ S H ∧ Rep K mg μ H d x ∧ OkV K mg μ H (isi S d cs) Q
theorem call_isiTZ (cs : List TY) : CallR X (.builtin "isinstance") (rIsiTZ X.K X.mg cs) := by
  intro pins s σ H xs us Q I r h
  obtain ⟨x, tp, rfl, hT, μ, S, d, A, rd, h⟩ := h
  unfold isi at h
  split at h
  · rename_i t ht
    obtain ⟨h1, h2⟩ := isB_ok A rd ht
    have hp : ∀ cs : List TY, Paired ClsV (cs.map fun c => V.ty c.nm) (cs.map fun c => Value.type c.nm) := fun cs => by
      induction cs with
      | nil => exact .nil
      | cons c r ih => exact .cons (.ty _) ih
    exact call_isiT pins s σ H _ us Q I r ⟨x, tp, _, _, _, _, rfl, hT, hp cs, h1, kitAny_is h2 cs, h.bl A⟩
  · exact h.elim
/-! ### methods -/
def bmT : BM → String
  | .append => "list" | .extend => "list" | .pop => "list" | .index => "list" | .get => "dict" | .split => "str" | .join => "str" | .isalnum => "str"
def rZM (K : PySem.W.Frag) (mg : MG) (f : D → List D → Sto → R) : V → List V → Hp → VK → Prop := fun x xs H Q => ∃ μ S d ds, AbS K mg μ S H ∧ Rep K mg μ H d x ∧ Reps K mg μ H ds xs ∧ OkV K mg μ H (f d ds S) Q
theorem Reps.dropLast {K : PySem.W.Frag} {mg : MG} {μ : List Addr} {H : Hp} {ds : List D} {vs : List V} (r : Reps K mg μ H ds vs) : Reps K mg μ H ds.dropLast vs.dropLast := by
  rw [List.dropLast_eq_take, List.dropLast_eq_take, r.length]
  exact r.take _
section
variable {K : PySem.W.Frag} {mg : MG} {μ : List Addr} {H : Hp} {S : Sto} {Q : VK}
/-- a list of the store changes -/
theorem OkV.put {d : D} {v : V} {n : Nat} {a : Addr} {ds es : List D} {vs ws : List V} (A : AbS K mg μ S H) (hn : μ[n]? = some a) (hu : H a = some (.lst vs)) (r : Reps K mg μ H es ws) (rv : Rep K mg μ H d v) (h : OkV K mg μ H (.ok d (S.set n (.lst es))) Q) : Q v (upd H a (.lst ws)) := by
  have g : Gr μ H μ (upd H a (.lst ws)) := ⟨fun _ _ h => h, fun b xs h => by
    rw [upd_ne (fun z => by subst z; rw [hu] at h; cases h)]; exact h, fun b o w h => by
    rw [upd_ne (fun z => by subst z; rw [hu] at h; cases h)]; exact h⟩
  obtain ⟨A2, g2⟩ := A.put (o := .lst es) hn hu (fun _ z => nomatch z) (fun _ _ z => nomatch z) (fun _ z => nomatch z) noTab_lst ⟨ws, upd_same, r.mono g⟩
  exact h μ v _ g2 A2 (rv.mono g2)
end
theorem mt_bm (C : Ev) (b : BM) (hb : b = .append ∨ b = .extend ∨ b = .pop) (id : String) (hid : id = bmT b ++ "." ++ (match b with | .append => "append" | .extend => "extend" | _ => "pop")) : MtR X id (rZM X.K X.mg (bm C b)) := by
  subst hid
  intro pins s σ H x xs v us Q I rx rxs h
  obtain ⟨μ, S, d, ds, A, rd, rs, h⟩ := h
  rcases hb with rfl | rfl | rfl
  · unfold bm at h
    split at h <;> first | (rename_i hh; cases hh; done) | skip
    · rename_i n d h1 h2 h3
      simp only [Rep] at rd
      obtain ⟨a, e1, rfl⟩ := rd
      obtain ⟨w, rfl, r1⟩ := rs.inv1
      split at h
      · rename_i l hl
        obtain ⟨vs, q, r⟩ := A.lst hl e1
        split at h
        · rename_i hz
          exact mt_append pins s σ H _ _ v us Q I rx rxs ⟨a, vs, w, rfl, rfl, q, by rw [← LINE_eq, ← r.length]; exact hz, OkV.put (ds := l) A e1 q (r.app (.cons r1 .nil)) (by simp [Rep]) h⟩
        · exact h.elim
      · exact h.elim
    · exact h.elim
  · unfold bm at h
    split at h <;> first | (rename_i hh; cases hh; done) | skip
    · rename_i n m h1 h2 h3
      simp only [Rep] at rd
      obtain ⟨a, e1, rfl⟩ := rd
      obtain ⟨w, rfl, r1⟩ := rs.inv1
      simp only [Rep] at r1
      obtain ⟨b, e2, rfl⟩ := r1
      split at h
      · rename_i l r' hl hr
        obtain ⟨vs, q, r⟩ := A.lst hl e1
        obtain ⟨ws, q2, r2⟩ := A.lst hr e2
        split at h
        · rename_i hz
          exact mt_extend pins s σ H _ _ v us Q I rx rxs ⟨a, b, vs, ws, rfl, rfl, q, q2, by rw [← LINE_eq, ← r.length, ← r2.length]; exact hz, OkV.put (ds := l) A e1 q (r.app r2) (by simp [Rep]) h⟩
        · exact h.elim
      · exact h.elim
    · exact h.elim
  · unfold bm at h
    split at h <;> first | (rename_i hh; cases hh; done) | skip
    · rename_i n h1 h2 h3
      simp only [Rep] at rd
      obtain ⟨a, e1, rfl⟩ := rd
      have z := rs.inv0
      subst z
      split at h
      · rename_i l hl
        obtain ⟨vs, q, r⟩ := A.lst hl e1
        split at h
        · rename_i d hd
          obtain ⟨w, h5, h6⟩ := r.get hd
          exact mt_pop pins s σ H _ _ v us Q I rx rxs ⟨a, vs, w, rfl, rfl, q, by rw [← r.length]; exact h5, OkV.put (ds := l) A e1 q r.dropLast h6 h⟩
        · exact h.elim
      · exact h.elim
    · exact h.elim
theorem mt_bmS (C : Ev) (b : BM) (hb : b = .split ∨ b = .isalnum ∨ b = .join) (id : String) (hid : id = "str" ++ "." ++ (match b with | .split => "split" | .isalnum => "isalnum" | _ => "join")) : MtR X id (rZM X.K X.mg (bm C b)) := by
  subst hid
  intro pins s σ H x xs v us Q I rx rxs h
  obtain ⟨μ, S, d, ds, A, rd, rs, h⟩ := h
  rcases hb with rfl | rfl | rfl
  · unfold bm at h
    split at h <;> first | (rename_i hh; cases hh; done) | skip
    · rename_i a c h1
      simp only [Rep] at rd
      subst rd
      obtain ⟨w, rfl, r1⟩ := rs.inv1
      simp only [Rep] at r1
      subst r1
      split at h
      · rename_i hc
        refine mt_split pins s σ H _ _ v us Q I rx rxs ⟨a, c, rfl, rfl, hc.1, by rw [← LINE_eq]; exact hc.2, fun p hp => ?_⟩
        have hr : ∀ l : List Str, Reps X.K X.mg μ H (l.map D.str) (l.map V.str) := fun l => by
          induction l with
          | nil => exact .nil
          | cons a r ih => exact .cons (by simp [Rep]) ih
        exact OkV.lst A h (hr _) hp
      · exact h.elim
    · exact h.elim
  · unfold bm at h
    split at h <;> first | (rename_i hh; cases hh; done) | skip
    · rename_i a h1
      simp only [Rep] at rd
      subst rd
      have z := rs.inv0
      subst z
      exact mt_isalnum pins s σ H _ _ v us Q I rx rxs ⟨a, rfl, rfl, trivial, h.bl A⟩
    · exact h.elim
  · unfold bm at h
    split at h <;> first | (rename_i hh; cases hh; done) | skip
    · rename_i a d h1
      simp only [Rep] at rd
      subst rd
      obtain ⟨w, rfl, r1⟩ := rs.inv1
      split at h
      · rename_i ys hy
        simp only [Option.bind_eq_some_iff] at hy
        obtain ⟨ds, hy, h4⟩ := hy
        obtain ⟨a2, vs, rfl, q, r2⟩ := lstOf_ok A hy r1
        rw [strsZ_ok h4 r2] at q
        split at h
        · rename_i hz
          exact mt_join pins s σ H _ _ v us Q I rx rxs ⟨a, a2, ys, rfl, rfl, q, hz, h.str A⟩
        · exact h.elim
      · exact h.elim
    · exact h.elim
end
end Z
set_option maxHeartbeats 4000000
/-! Z6: results as wishes, with exceptions; what a context has to say; the check of expressions -/
namespace Z
open PySem PySem.Spec PyProof.Rows L2

/-- how an own exception lies -/
def XR (K : PySem.W.Frag) (mg : MG) (μ : List Addr) (H : Hp) (c : Str) (fs : List (Str × D)) (cls : Value) (dd : Option Addr) : Prop :=
  ∃ C, mg c = some (.ref C) ∧ cls = .ref C ∧ ((fs = [] ∧ dd = none) ∨ ∃ d gs, dd = some d ∧ H d = some (.xd gs) ∧ RepF K mg μ H fs gs)
def RZ (K : PySem.W.Frag) (mg : MG) (W : WX) (μ : List Addr) (σ : L2.St) (H : Hp) (r : R) (Q : VK) : Prop := match r with
  | .ok d S' => ∀ μ' v H', Gr μ H μ' H' → AbS K mg μ' S' H' → Rep K mg μ' H' d v → Q v H'
  | .ex c fs S' => ∀ μ' H' cls dd, Gr μ H μ' H' → AbS K mg μ' S' H' → XR K mg μ' H' c fs cls dd → W cls dd σ H'
  | .st => False
def RZL (K : PySem.W.Frag) (mg : MG) (W : WX) (μ : List Addr) (σ : L2.St) (H : Hp) (r : RL) (Q : List V → Hp → Prop) : Prop := match r with
  | .ok ds S' => ∀ μ' vs H', Gr μ H μ' H' → AbS K mg μ' S' H' → Reps K mg μ' H' ds vs → Q vs H'
  | .ex c fs S' => ∀ μ' H' cls dd, Gr μ H μ' H' → AbS K mg μ' S' H' → XR K mg μ' H' c fs cls dd → W cls dd σ H'
  | .st => False
/-- the slots -/
structure EnvR (K : PySem.W.Frag) (mg : MG) (μ : List Addr) (H : Hp) (ρ : Rho) (σ : L2.St) : Prop where
  len : ρ.length = σ.length
  at_ : ∀ (i : Nat) (d : D), ρ[i]? = some (some d) → ∃ v, σ[i]? = some (some v) ∧ Rep K mg μ H d v
section
variable {K : PySem.W.Frag} {mg : MG} {W : WX} {μ μ' : List Addr} {σ : L2.St} {ρ : Rho} {H H' : Hp} {S : Sto} {Q Q' : VK}
theorem EnvR.mono (g : Gr μ H μ' H') (h : EnvR K mg μ H ρ σ) : EnvR K mg μ' H' ρ σ := ⟨h.len, fun i d e => let ⟨v, e1, e2⟩ := h.at_ i d e; ⟨v, e1, e2.mono g⟩⟩
theorem RZ.gr (g : Gr μ H μ' H') {r : R} (h : RZ K mg W μ σ H r Q) : RZ K mg W μ' σ H' r Q := by
  cases r with
  | ok d S => exact fun a b c d e f => h a b c (g.trans d) e f
  | ex c fs S => exact fun a b c d e f x => h a b c d (g.trans e) f x
  | st => exact h.elim
theorem RZL.gr (g : Gr μ H μ' H') {r : RL} {Q : List V → Hp → Prop} (h : RZL K mg W μ σ H r Q) : RZL K mg W μ' σ H' r Q := by
  cases r with
  | ok d S => exact fun a b c d e f => h a b c (g.trans d) e f
  | ex c fs S => exact fun a b c d e f x => h a b c d (g.trans e) f x
  | st => exact h.elim
/-- first r, then f -/
theorem RZ.bind {r : R} {f : D → Sto → R} (h : RZ K mg W μ σ H (r.bind f) Q)
    (k : ∀ d S' μ' v H', Gr μ H μ' H' → AbS K mg μ' S' H' → Rep K mg μ' H' d v → RZ K mg W μ' σ H' (f d S') Q → Q' v H') : RZ K mg W μ σ H r Q' := by
  cases r with
  | ok d S => exact fun μ' v H' g A rv => k d S μ' v H' g A rv (RZ.gr g h)
  | ex c fs S => exact h
  | st => exact h
theorem RZ.bindE {r : R} {f : D → Sto → R} (h : RZ K mg W μ σ H (r.bind f) Q)
    (k : ∀ d S' μ' v H', r = .ok d S' → Gr μ H μ' H' → AbS K mg μ' S' H' → Rep K mg μ' H' d v → RZ K mg W μ' σ H' (f d S') Q → Q' v H') : RZ K mg W μ σ H r Q' := by
  cases r with
  | ok d S => exact fun μ' v H' g A rv => k d S μ' v H' rfl g A rv (RZ.gr g h)
  | ex c fs S => exact h
  | st => exact h
theorem RZ.bindL {r : R} {f : D → Sto → RL} {Q : List V → Hp → Prop} (h : RZL K mg W μ σ H (r.bindL f) Q)
    (k : ∀ d S' μ' v H', Gr μ H μ' H' → AbS K mg μ' S' H' → Rep K mg μ' H' d v → RZL K mg W μ' σ H' (f d S') Q → Q' v H') : RZ K mg W μ σ H r Q' := by
  cases r with
  | ok d S => exact fun μ' v H' g A rv => k d S μ' v H' g A rv (RZL.gr g h)
  | ex c fs S => exact h
  | st => exact h
theorem RZL.bind {r : RL} {f : List D → Sto → R} {Q' : List V → Hp → Prop} (h : RZ K mg W μ σ H (r.bind f) Q)
    (k : ∀ ds S' μ' vs H', Gr μ H μ' H' → AbS K mg μ' S' H' → Reps K mg μ' H' ds vs → RZ K mg W μ' σ H' (f ds S') Q → Q' vs H') : RZL K mg W μ σ H r Q' := by
  cases r with
  | ok d S => exact fun μ' v H' g A rv => k d S μ' v H' g A rv (RZ.gr g h)
  | ex c fs S => exact h
  | st => exact h
theorem RZL.bindL {r : RL} {f : List D → Sto → RL} {Q Q' : List V → Hp → Prop} (h : RZL K mg W μ σ H (r.bindL f) Q)
    (k : ∀ ds S' μ' vs H', Gr μ H μ' H' → AbS K mg μ' S' H' → Reps K mg μ' H' ds vs → RZL K mg W μ' σ H' (f ds S') Q → Q' vs H') : RZL K mg W μ σ H r Q' := by
  cases r with
  | ok d S => exact fun μ' v H' g A rv => k d S μ' v H' g A rv (RZL.gr g h)
  | ex c fs S => exact h
  | st => exact h
/-- an operation that lets nothing out -/
theorem RZ.okV {r : R} (h : RZ K mg W μ σ H r Q) (hn : ∀ c fs S, r ≠ .ex c fs S) : OkV K mg μ H r Q := by
  cases r with
  | ok d S => exact h
  | ex c fs S => exact absurd rfl (hn c fs S)
  | st => exact h
theorem RZ.mono {r : R} (h : RZ K mg W μ σ H r Q) (k : ∀ v H', Q v H' → Q' v H') : RZ K mg W μ σ H r Q' := by
  cases r with
  | ok d S => exact fun a b c d e f => k _ _ (h a b c d e f)
  | ex c fs S => exact h
  | st => exact h
end
/-- no operation lets an exception out -/
theorem new_nx {S : Sto} {o : Ob} (c fs S') : new S o ≠ .ex c fs S' := fun h => by cases h
theorem bin_nx (o : BO) (d e : D) (S : Sto) (c fs S') : bin o d e S ≠ .ex c fs S' := by
  intro h
  cases o <;> simp only [bin] at h <;> split at h <;> (try (split at h)) <;> (try (split at h)) <;> cases h
theorem cmpR_nx (o : CO) (d e : D) (S : Sto) (c fs S') : cmpR o d e S ≠ .ex c fs S' := by
  intro h
  unfold cmpR at h
  split at h <;> cases h
theorem ofO_nx (o : Option D) (S : Sto) (c fs S') : ofO o S ≠ .ex c fs S' := by
  intro h
  cases o <;> cases h
theorem get_nx (C : Ev) (d e : D) (S : Sto) (c fs S') : get C d e S ≠ .ex c fs S' := by
  intro h
  unfold get at h
  split at h <;> (try (split at h)) <;> (try (split at h)) <;> first | exact ofO_nx _ _ _ _ _ h | cases h
theorem slc_nx (d : D) (lo hi) (S : Sto) (c fs S') : slc d lo hi S ≠ .ex c fs S' := by
  intro h
  unfold slc at h
  split at h <;> (try (split at h)) <;> first | exact new_nx _ _ _ h | cases h
theorem bi_nx (b : BI) (ds : List D) (S : Sto) (c fs S') : bi b ds S ≠ .ex c fs S' := by
  intro h
  unfold bi at h
  split at h <;> (try (split at h)) <;> (try (split at h)) <;> first | exact new_nx _ _ _ h | cases h
theorem isi_nx (d : D) (cs : List TY) (S : Sto) (c fs S') : isi S d cs ≠ .ex c fs S' := by
  intro h
  unfold isi at h
  split at h <;> cases h
theorem bm_nx (C : Ev) (b : BM) (d : D) (ds : List D) (S : Sto) (c fs S') : bm C b d ds S ≠ .ex c fs S' := by
  intro h
  unfold bm at h
  split at h <;> (try (split at h)) <;> (try (split at h)) <;> cases h

/-! ### readings -/
def tE (K : PySem.W.Frag) (mg : MG) (W : WX) (C : Ev) (m : E) : TE := fun σ H Q => ∃ μ S ρ, AbS K mg μ S H ∧ EnvR K mg μ H ρ σ ∧ RZ K mg W μ σ H (evE C m ρ S) Q
def tL (K : PySem.W.Frag) (mg : MG) (W : WX) (C : Ev) (m : Es) : TA := fun σ H Q => ∃ μ S ρ, AbS K mg μ S H ∧ EnvR K mg μ H ρ σ ∧ RZL K mg W μ σ H (evL C m ρ S) Q
def optI : V → Option (Option Int)
  | .non => some none
  | .int i => some (some i)
  | _ => none
def tO (K : PySem.W.Frag) (mg : MG) (W : WX) (C : Ev) (m : Op) : TO := fun σ H Q => ∃ μ S ρ, AbS K mg μ S H ∧ EnvR K mg μ H ρ σ ∧ RZ K mg W μ σ H (evO C m ρ S) (fun v H' => ∃ o, optI v = some o ∧ Q o H')

theorem evO_shape {C : Ev} {m : Op} {ρ : Rho} {S S' : Sto} {d : D} (h : evO C m ρ S = .ok d S') : d = .non ∨ ∃ i, d = .int i := by
  cases m with
  | no => rw [evO] at h; cases h; exact .inl rfl
  | so e =>
    rw [evO] at h
    cases hr : evE C e ρ S with
    | ok x S1 =>
      rw [hr] at h
      cases x <;> cases h
      exact .inr ⟨_, rfl⟩
    | ex c fs S1 => rw [hr] at h; cases h
    | st => rw [hr] at h; cases h
theorem optI_rep {K : PySem.W.Frag} {mg : MG} {μ : List Addr} {H : Hp} {d : D} {v : V} (r : Rep K mg μ H d v) (h : d = .non ∨ ∃ i, d = .int i) : ∃ o, optI v = some o ∧ ((d = .non ∧ o = none) ∨ ∃ i, d = .int i ∧ o = some i) := by
  rcases h with rfl | ⟨i, rfl⟩
  · simp only [Rep] at r; subst r; exact ⟨_, rfl, .inl ⟨rfl, rfl⟩⟩
  · simp only [Rep] at r; subst r; exact ⟨_, rfl, .inr ⟨i, rfl, rfl⟩⟩

/-! ### calls of own defs -/
structure RoomG (k : Nat) (A : Around) : Prop where
  r : Room k A
  g : A.guards = some []
/-- what is wanted behind a call -/
def RF (K : PySem.W.Frag) (mg : MG) (μ : List Addr) (H : Hp) (r : R) (Q : VK) (E : XK) : Prop := match r with
  | .ok d S' => ∀ μ' v H', Gr μ H μ' H' → AbS K mg μ' S' H' → Rep K mg μ' H' d v → Q v H'
  | .ex c fs S' => ∀ μ' H' cls dd, Gr μ H μ' H' → AbS K mg μ' S' H' → XR K mg μ' H' c fs cls dd → E cls dd H'
  | .st => False
/-- the def at f does as cf says -/
structure CallOk (P : Program) (w : World) (K : PySem.W.Frag) (mg : MG) (base : Heap) (k : Nat) (cf : List D → List (Str × D) → Sto → R) (f : Addr) : Prop where
  run : ∀ (A : Around) (outer : List Env) (s : Shared) (H : Hp) (us : List Value) (ks : List Str) (ws : List Value) (vs zs : List V) (Q : VK) (X : XK), RoomG k A → Env0 P w K mg base A outer s H → Vals vs us → Vals zs ws → ks.length = ws.length →
    (∃ μ S ds es, AbS K mg μ S H ∧ Reps K mg μ H ds vs ∧ Reps K mg μ H es zs ∧ RF K mg μ H (cf ds (ks.zip es) S) Q X) →
    codeAny (model P w) A (.call (.ref f) ⟨us, ks.zip ws⟩) (CR (L2.CX P w) outer P w H s Q X) s

/-- a def's plain parameters -/
structure Plain (params : Arguments) (ps : List Str) : Prop where
  h1 : params.posonlyargs = []
  h2 : params.kwonlyargs = []
  h3 : params.vararg = none
  h4 : params.kwarg = none
  h5 : params.args.map (·.arg) = ps
/-- what is known of such a class -/
structure ExZ (P : Program) (K : PySem.W.Frag) (mg : MG) (C : Addr) (f : Str) (fI : Addr) : Prop where
  oex : OexC K C
  iC : PySem.W.findIn K (.ref C) "__init__" = some (some (.ref fI))
  tI : PySem.W.typeIn K (.ref fI) = some (.type "function")
  nf : PySem.W.findIn K (.ref C) f = some none
  sup : PySem.W.ks_superIn K C C "__init__" = some (some (.builtin "ValueError.__init__"))
  mro : PySem.W.mroIn K C (.ref C) = some true
  isV : PySem.W.subIn K (.ref C) (.type "ValueError") = some true
  st : PySem.W.nsIn K cStatics "thirdparty.any" = some none
  ns : mg "super" = none
  top : (P.main.scope.names.lookup ("super" : Str)).isSome = false
  ex : ∃ (name qual : Str) (params : Arguments) (scope : Scope) (oc : Value) (od : Option Addr) (dV kV doc pm : Value) (an : Option Addr) (cda : Addr) (ct : Value) (osl : Array (Option Value)) (cc : Addr) (self g : Str) (vs : Array Value) (file : Str) (tf : Tok) (ccl : Value) (cdd : Option Addr) (ccs : Array (Option Value)) (cl : Value) (cld : Option Addr) (csl : Array (Option Value)) (p0 p1 p2 p3 p4 p5 ap cp ep sp : Pos),
    K.lookup fI = some ⟨oc, od, .func (PySem.W.ksFn name qual params [.Expr (.Call (.Attribute (.Call (.Name "super" p0) [] [] p1) "__init__" ap) [.Name g p2] [] cp) ep, .Assign [.Attribute (.Name self p3) f p4] (.Name g p5) sp] scope dV kV doc pm an (.ref cda) ct cc), osl⟩ ∧
    PySem.W.codeIn K (.ref cda) qual = true ∧ K.lookup cda = some ⟨ccl, cdd, .fields vs, ccs⟩ ∧ vs[2]? = some (.str file tf) ∧ ((P.main.file : Str) == file) = true ∧
    K.lookup cc = some ⟨cl, cld, .cell (some (.ref C)), csl⟩ ∧ Plain params [self, g] ∧ dV = .none ∧ self ≠ g ∧ (∀ x ∈ scope.names, x.2 ≠ .cell) ∧ scope.isCoroutine = false ∧ scope.isGenerator = false ∧ scope.kind = .function ∧
    scope.names.lookup self = some .local ∧ scope.names.lookup g = some .local ∧ scope.names.lookup ("super" : Str) = some .globalImplicit ∧ scope.names.lookup ("__class__" : Str) = some .free ∧
    (self == ("__debug__" : Str)) = false ∧ (g == ("__debug__" : Str)) = false ∧ (ap.endLine == cp.line) = true
/-! ### the context -/
def freeNames : List Str := ["len", "abs", "int", "str", "repr", "max", "min", "sum", "all", "any", "tuple", "list", "divmod", "isinstance", "range", "enumerate", "zip", "bool", "dict"]
structure LowOk (P : Program) (w : World) (K : PySem.W.Frag) (mg : MG) (base : Heap) (k : Nat) (chk : Bool → List Str → Scope → E → Expr → Bool) (low : E → Rho → Sto → R) : Prop where
  ok : (∀ b ρ S, low b ρ S = .st) ∨ ∃ j, j + 2 ≤ k ∧ ∀ (X : Cx) (W : WX), X.prog = P → X.w = w → X.K = K → X.mg = mg → X.base = base → X.calm = true → X.N.Nodup → RoomG j X.A → Takes X W → X.env.scope.kind = .function → X.fn Str.empty = false →
    ∀ (b : E) (e : Expr), chk false X.N X.env.scope b e = true → PE X e (fun σ H Q => ∃ μ S ρ, AbS X.K X.mg μ S H ∧ EnvR X.K X.mg μ H ρ σ ∧ RZ X.K X.mg W μ σ H (low b ρ S) Q)
def itemsB (e : Str) : List HI → List Expr → Bool
  | [], [] => true
  | .s x :: r, .Constant (.str y) _ _ :: es => decide (y = x) && itemsB e r es
  | .f x :: r, .Attribute (.Name e' _) y _ :: es => (decide (e' = e) && (decide (y = x) && ATTRS.contains x)) && itemsB e r es
  | _, _ => false
def clausesB (gl : Str → Bool) (okn : Str → Bool) (e : Str) : List (Str × List HI) → List ExceptHandler → Bool
  | [], [] => true
  | (d, its) :: r, .ExceptHandler (some (.Name d' _)) (some e') [.Return (some (.List es _)) _] _ :: hs => ((decide (d' = d) && decide (e' = e)) && ((gl d && okn d) && itemsB e its es)) && clausesB gl okn e r hs
  | _, _ => false
def toldB (gl : Str → Bool) (okn : Str → Bool) (a e : Str) (t : TD) (body : List Stmt) : Bool := match t.ok, body with
  | some tag, [.Try [.Return (some (.List [.Constant (.str tg) _ _, .Call (.Name a' _) [] [] _] _)) _] hds [] [] _] => (decide (tg = tag) && decide (a' = a)) && (!hds.isEmpty && clausesB gl okn e t.hs hds)
  | none, [.Try [.Expr (.Call (.Name a' _) [] [] _) _] hds [] [] _, .Return (some (.Constant .none _ _)) _] => decide (a' = a) && (!hds.isEmpty && clausesB gl okn e t.hs hds)
  | _, _ => false
def glB (sc : Scope) (x : Str) : Bool := match sc.names.lookup x with
  | some .globalImplicit => true
  | _ => false
def okN (x : Str) : Bool := !(x == ("__debug__" : Str)) && (!(x == ("__classdict__" : Str)) && decide (x ≠ ("__name__" : Str)))
structure ToldOk (K : PySem.W.Frag) (mg : MG) (f : Str) (t : TD) : Prop where
  ex : ∃ (g : Addr) (name qual : Str) (params : Arguments) (body : List Stmt) (scope : Scope) (oc : Value) (od : Option Addr) (dV kV doc pm : Value) (an : Option Addr) (cdv ct : Value) (osl : Array (Option Value)) (a e : Str),
    mg f = some (.ref g) ∧ PySem.W.keepIn K (.ref g) = true ∧ K.lookup g = some ⟨oc, od, .func (PySem.W.fnOf name qual params body scope dV kV doc pm an cdv ct), osl⟩ ∧ PySem.W.codeIn K cdv qual = true ∧ Plain params [a] ∧ dV = .none ∧
    FnScope [a, e] [a] scope ∧ okN a = true ∧ okN e = true ∧ scope.names.lookup a = some .local ∧ scope.names.lookup e = some .local ∧ toldB (glB scope) okN a e t body = true
  cl : ∀ q ∈ t.hs, ∃ Da, mg q.1 = some (.ref Da)
/-! ### the check -/
def visB (sc : Scope) (x : Str) : Bool := match sc.names.lookup x with
  | some .local => true
  | some .cell => true
  | some .free => true
  | _ => false
theorem vis_of {sc : Scope} {x : Str} (h : visB sc x = true) : Vis sc x := by
  unfold visB at h
  split at h
  · exact .inl (by assumption)
  · exact .inr (.inl (by assumption))
  · exact .inr (.inr (by assumption))
  · cases h
theorem gl_of {X : Cx} {x : Str} (h : glB X.env.scope x = true) : Gl X x := by
  unfold glB at h
  split at h
  · assumption
  · cases h
structure OkN (x : Str) : Prop where
  db : (x == ("__debug__" : Str)) = false
  cd : (x == ("__classdict__" : Str)) = false
  nm : x ≠ "__name__"
theorem okN_of {x : Str} (h : okN x = true) : OkN x := by
  unfold okN at h
  simp only [Bool.and_eq_true, Bool.not_eq_true', decide_eq_true_eq] at h
  exact ⟨h.1, h.2.1, h.2.2⟩
def noStar : Expr → Bool
  | .Starred _ _ => false
  | _ => true
def noSlice : Expr → Bool
  | .Slice _ _ _ _ => false
  | _ => true
def noSet : Expr → Bool
  | .Set _ _ _ => false
  | _ => true
def noSuper : Expr → Bool
  | .Call (.Name id _) [] [] _ => id != ("super" : Str)
  | _ => true
theorem star_of {e : Expr} {es : List Expr} {env : Env} (h : noStar e = true) : starEach (e :: es) env = (false, eval e env) :: starEach es env := by
  cases e <;> first | rfl | cases h
theorem ix_of {b : Expr} (h : noSlice b = true) : PlainIx b := by
  cases b <;> first | (intro _ _; rfl) | cases h
theorem marks_of {op : CmpOp} {b : Expr} (h : noSet b = true) : behindInMarks op b = false := by
  cases b <;> first | rfl | cases h
theorem folded_of {b : Expr} {env : Env} (h : noSet b = true) : ∀ x, foldedSetIterable b env x = pure x := by
  cases b <;> first | (intro _; rfl) | cases h
theorem base_of {o : Expr} {f : Str} {env : Env} {w : Sem Value} (h : noSuper o = true) : attributeBase o f env w = w := by
  cases o with
  | Call fn args kws pos =>
    cases fn with
    | Name id p =>
      cases args with
      | nil =>
        cases kws with
        | nil => exact abase_call h
        | cons _ _ => rfl
      | cons _ _ => rfl
    | _ => rfl
  | _ => rfl
def allNoStar : List Expr → Bool
  | [] => true
  | e :: r => noStar e && allNoStar r
theorem plain_of {pos : Pos} {env : Env} : ∀ {es : List Expr}, allNoStar es = true → (backTo pos (starEach es env)).any (·.1) = false
  | [], _ => rfl
  | e :: r, h => by
    simp only [allNoStar, Bool.and_eq_true] at h
    rw [star_of h.1]
    show (false || (backTo pos (starEach r env)).any (·.1)) = false
    rw [plain_of h.2]
    rfl
theorem starE_len {env : Env} : ∀ {es : List Expr}, (starEach es env).length = es.length
  | [] => rfl
  | e :: r => by
    have := starE_len (env := env) (es := r)
    cases e <;> simp [starEach, this]
theorem few_of {pos : Pos} {env : Env} {es : List Expr} (h : allNoStar es = true) (hl : es.length < 30) : ((backTo pos (starEach es env)).all (fun x => !x.1) && (backToKw pos (keywordEach [] env)).all (fun x => x.1.isSome)
      && decide (es.length + ([] : List Keyword).length + (if ([] : List Keyword).isEmpty then 0 else 1) < 30)) = true := by
  have h1 : (backTo pos (starEach es env)).all (fun x => !x.1) = true := by
    have := plain_of (pos := pos) (env := env) h
    rw [List.any_eq_false] at this
    rw [List.all_eq_true]
    intro x hx
    have := this x hx
    simpa using this
  rw [h1]
  have : es.length + ([] : List Keyword).length + (if ([] : List Keyword).isEmpty then 0 else 1) < 30 := by simpa using hl
  simp [backToKw, keywordEach]
  exact hl
def co : CO → CmpOp → Bool
  | .lt, .Lt => true
  | .le, .LtE => true
  | .gt, .Gt => true
  | .ge, .GtE => true
  | .eq, .Eq => true
  | .ne, .NotEq => true
  | .inn, .In => true
  | .nin, .NotIn => true
  | _, _ => false
theorem co_of {o : CO} {c : CmpOp} (h : co o c = true) : c = opC o := by
  cases o <;> cases c <;> first | rfl | cases h
def bo : BO → Operator → Bool
  | .add, .Add => true
  | .sub, .Sub => true
  | .mul, .Mult => true
  | .fdiv, .FloorDiv => true
  | .mod, .Mod => true
  | .pow, .Pow => true
  | _, _ => false
theorem bo_of {o : BO} {c : Operator} (h : bo o c = true) : c = opO o := by
  cases o <;> cases c <;> first | rfl | cases h
/-- a pattern of names -/
def chkP (N : List Str) (sc : Scope) : P → Expr → Bool
  | .v i, e => match e with
    | .Name x _ => decide (N[i]? = some x) && (match sc.names.lookup x with | some .local => true | some .cell => true | _ => false)
    | _ => false
  | .tp ps, e => match e with
    | .Tuple es _ _ => go ps es
    | _ => false
where go : List P → List Expr → Bool
  | [], [] => true
  | p :: ps, e :: es => chkP N sc p e && go ps es
  | _, _ => false
def ikN : IK → Option Str
  | .seq => none
  | .range => some "range"
  | .enum => some "enumerate"
  | .zip => some "zip"
  | .items => none
/-- the expressions behind what is walked -/
def srcShape (sc : Scope) (ik : IK) (iter : Expr) : Option (List Expr) := match ik with
  | .seq => some [iter]
  | .range => (match iter with
    | .Call (.Name g _) args [] _ => if decide (g = "range") && (glB sc g && (allNoStar args && (args.length == 1 || args.length == 2))) then some args else none
    | _ => none)
  | _ => none
def isTyN (sc : Scope) (t : Expr) (c : TY) : Bool := match t with
  | .Name x _ => decide (x = PySem.Str.ofString c.nm) && glB sc x
  | _ => false
def tysN (sc : Scope) : List Expr → List TY → Bool
  | [], [] => true
  | t :: ts, c :: cs => isTyN sc t c && tysN sc ts cs
  | _, _ => false
def bmOk : BM → Bool
  | .append => true
  | .extend => true
  | .pop => true
  | .split => true
  | .isalnum => true
  | .join => true
  | _ => false
def bmN : BM → Str
  | .append => "append" | .extend => "extend" | .pop => "pop" | .index => "index" | .get => "get" | .split => "split" | .join => "join" | .isalnum => "isalnum"
/-- f(lambda: body) -/
def toldSh : Expr → Option (Str × Expr × Scope)
  | .Call (.Name g _) [.Lambda ⟨[], [], none, [], [], none, []⟩ body scope _] [] _ => some (g, body, scope)
  | _ => none
theorem toldSh_of {e : Expr} {q : Str × Expr × Scope} (h : toldSh e = some q) : ∃ p lp pos, e = .Call (.Name q.1 p) [.Lambda ⟨[], [], none, [], [], none, []⟩ q.2.1 q.2.2 lp] [] pos := by
  unfold toldSh at h
  split at h
  · cases h
    exact ⟨_, _, _, rfl⟩
  · cases h
/-- f(.., k = v) -/
def callSh : Expr → Option (Str × List Expr × List Keyword)
  | .Call (.Name g _) args kws _ => some (g, args, kws)
  | _ => none
theorem callSh_of {e : Expr} {q : Str × List Expr × List Keyword} (h : callSh e = some q) : ∃ p pos, e = .Call (.Name q.1 p) q.2.1 q.2.2 pos := by
  unfold callSh at h
  split at h
  · cases h
    exact ⟨_, _, rfl⟩
  · cases h
mutual
def chkE (lm : Bool) (N : List Str) (sc : Scope) : E → Expr → Bool
  | .k c, e => match e with
    | .Constant v _ _ => (match c, v with
      | .non, .none => true
      | .bl a, .bool b => a == b
      | .int a, .int b => decide (a = b)
      | .str a, .str b => decide (a = b)
      | _, _ => false)
    | _ => false
  | .v i, e => match e with
    | .Name x _ => decide (N[i]? = some x) && (visB sc x && okN x)
    | _ => false
  | .g x, e => match e with
    | .Name y _ => decide (y = x) && (glB sc x && okN x)
    | _ => false
  | .bin o a b, e => match e with
    | .BinOp l op r _ => bo o op && (chkE lm N sc a l && chkE lm N sc b r)
    | _ => false
  | .neg a, e => match e with
    | .UnaryOp .USub x _ => chkE lm N sc a x
    | _ => false
  | .cmp o a b, e => match e with
    | .Compare l [op] [r] _ => co o op && (noSet r && (chkE lm N sc a l && chkE lm N sc b r))
    | _ => false
  | .isN a, e => match e with
    | .Compare l [.Is] [.Constant .none _ _] _ => chkE lm N sc a l
    | _ => false
  | .notN a, e => match e with
    | .Compare l [.IsNot] [.Constant .none _ _] _ => chkE lm N sc a l
    | _ => false
  | .chain o q a b c, e => match e with
    | .Compare l [op, op'] [r, r'] _ => (co o op && co q op') && ((noSet r && noSet r') && (chkE lm N sc a l && (chkE lm N sc b r && chkE lm N sc c r')))
    | _ => false
  | .and a b, e => match e with
    | .BoolOp .And [x, y] _ => chkE lm N sc a x && chkE lm N sc b y
    | .BoolOp .And (x :: y :: z :: r) pos => chkE lm N sc a x && chkE lm N sc b (.BoolOp .And (y :: z :: r) pos)
    | _ => false
  | .or a b, e => match e with
    | .BoolOp .Or [x, y] _ => chkE lm N sc a x && chkE lm N sc b y
    | .BoolOp .Or (x :: y :: z :: r) pos => chkE lm N sc a x && chkE lm N sc b (.BoolOp .Or (y :: z :: r) pos)
    | _ => false
  | .not a, e => match e with
    | .UnaryOp .Not x _ => chkE lm N sc a x
    | _ => false
  | .ife c a b, e => match e with
    | .IfExp t x y _ => chkE lm N sc c t && (chkE lm N sc a x && chkE lm N sc b y)
    | _ => false
  | .tup es, e => match e with
    | .Tuple l _ _ => chkL lm N sc es l
    | _ => false
  | .lst es, e => match e with
    | .List l _ => chkL lm N sc es l
    | _ => false
  | .att a f, e => match e with
    | .Attribute x g _ => decide (g = f) && (ATTRS.contains f && (noSuper x && chkE lm N sc a x))
    | _ => false
  | .idx a i, e => match e with
    | .Subscript x y _ => noSlice y && (chkE lm N sc a x && chkE lm N sc i y)
    | _ => false
  | .sl a lo hi, e => match e with
    | .Subscript x (.Slice l h none _) _ => chkE lm N sc a x && (chkO lm N sc lo l && chkO lm N sc hi h)
    | _ => false
  | .call f es, e => match e with
    | .Call (.Name g _) args [] _ => decide (g = f) && ((glB sc f && okN f) && (allNoStar args && chkL lm N sc es args))
    | _ => false
  | .callk f es ks vs, e => match callSh e with
    | some q => decide (q.1 = f) && ((glB sc f && okN f) && ((allNoStar q.2.1 && decide (q.2.2.map (·.arg) = ks.map some)) && (chkL lm N sc es q.2.1 && chkL lm N sc vs (q.2.2.map (·.value)))))
    | none => false
  | .mk c es, e => match e with
    | .Call (.Name g _) args [] _ => decide (g = c) && ((glB sc c && okN c) && (allNoStar args && chkL lm N sc es args))
    | _ => false
  | .calv i es, e => match e with
    | .Call (.Name x _) args [] _ => (decide (N[i]? = some x) && (visB sc x && okN x)) && (allNoStar args && (!args.isEmpty && chkL lm N sc es args))
    | _ => false
  | .met o m es, e => match e with
    | .Call (.Attribute x g apos) args [] pos => (decide (g = m) && noSuper x) && ((apos.endLine == pos.line) && ((allNoStar args && decide (args.length < 30)) && (chkE lm N sc o x && chkL lm N sc es args)))
    | _ => false
  | .bi b es, e => match e with
    | .Call (.Name g _) args [] _ => decide (g = biN b) && ((glB sc g && !args.isEmpty) && (allNoStar args && chkL lm N sc es args))
    | _ => false
  | .isi a cs, e => match e with
    | .Call (.Name g _) [x, t] [] _ => decide (g = "isinstance") && ((glB sc g && (noStar x && noStar t)) && (chkE lm N sc a x && (match t with
        | .Tuple ts _ _ => decide (cs.length ≤ 100) && tysN sc ts cs
        | t => (match cs with
          | [c] => isTyN sc t c
          | _ => false))))
    | _ => false
  | .bm b o es, e => match e with
    | .Call (.Attribute x g apos) args [] pos => (decide (g = bmN b) && (bmOk b && noSuper x)) && ((apos.endLine == pos.line) && ((allNoStar args && decide (args.length < 30)) && (chkE lm N sc o x && chkL lm N sc es args)))
    | _ => false
  | .lc own q ik es c el, e => match e with
    | .ListComp x [⟨tg, iter, ifs, 0⟩] scope _ => ((blkC N sc scope own && !(scope.names.lookup Str.empty == some .cell)) && chkP N scope q tg) && ((noSet iter && (match srcShape sc ik iter with
        | some args => chkL lm N sc es args
        | none => false)) && ((match ifs with
          | [] => (match c with | .k (.bl true) => true | _ => false)
          | [y] => chkE false N (relS scope sc) c y
          | _ => false) && chkE false N (relS scope sc) el x))
    | _ => false
  | .told f b, e => match toldSh e with
    | some q => lm && ((decide (q.1 = f) && (glB sc f && okN f)) && (LamX.lamSB sc q.2.2 && chkE false N q.2.2 b q.2.1))
    | none => false
  | .nev, _ => true
def chkL (lm : Bool) (N : List Str) (sc : Scope) : Es → List Expr → Bool
  | .nil, l => match l with
    | [] => true
    | _ => false
  | .cons e r, l => match l with
    | x :: xs => noStar x && (chkE lm N sc e x && chkL lm N sc r xs)
    | _ => false
  | .star _ _, _ => false
def chkO (lm : Bool) (N : List Str) (sc : Scope) : Op → Option Expr → Bool
  | .no, o => match o with
    | none => true
    | _ => false
  | .so e, o => match o with
    | some x => chkE lm N sc e x
    | _ => false
end
structure Hyp (X : Cx) (W : WX) (C : Ev) (k : Nat) : Prop where
  calm : X.calm = true
  nd : X.N.Nodup
  room : RoomG k X.A
  tk : Takes X W
  kind : X.env.scope.kind = .function
  free : ∀ x ∈ freeNames, X.mg x = none
  gt : ∀ x d, C.gt x = some d → ∃ v u, X.mg x = some u ∧ RelV v u ∧ TopR X.mg X.K d v
  gd : ∀ x kvs, C.gd x = some kvs → ∃ a, X.mg x = some (.ref a) ∧ GdOk X.K X.mg a kvs ∧ ∀ q d, kval kvs q = some d → ∃ i, q = .inl i
  cf : ∀ f, C.fn Str.empty f = true → ∃ a, X.mg f = some (.ref a) ∧ PySem.W.keepIn X.K (.ref a) = true ∧ CallOk X.prog X.w X.K X.mg X.base k (C.cf Str.empty f) a
  ins : ∀ c Ca m, X.mg c = some (.ref Ca) → ClsZ X.K Ca → C.fn c m = true → ∃ f, Meth X.K Ca m f ∧ CallOk X.prog X.w X.K X.mg X.base k (C.cf c m) f
  make : ∀ c, C.fn c "__init__" = true → ∃ Ca f, X.mg c = some (.ref Ca) ∧ ClsZ X.K Ca ∧ Mk X.K Ca f ∧ ((∀ ds kw S, C.cm c "__init__" ds kw S = .st) ∨ ∃ j, j + 1 ≤ k ∧ CallOk X.prog X.w X.K X.mg X.base j (C.cm c "__init__") f)
  xf : ∀ c f, C.xf c = some f → ∃ Ca fI, X.mg c = some (.ref Ca) ∧ ExZ X.prog X.K X.mg Ca f fI ∧ 1 ≤ k
  xm : ∀ c d b, C.xm c d = some b → ∃ Ca Da, X.mg c = some (.ref Ca) ∧ X.mg d = some (.ref Da) ∧ PySem.W.exmOne X.K (.ref Ca) (.ref Da) = some b ∧ XfC X.K Ca ∧ ∀ f, ATTRS.contains f = true → PySem.W.findIn X.K (.ref Ca) f = some none
  td : ∀ f t, C.td f = some t → ToldOk X.K X.mg f t
  low : LowOk X.prog X.w X.K X.mg X.base k chkE C.low
  uq : ∀ p ∈ tabsK X.K, ∀ q ∈ tabsK X.K, p.1 = q.1 → p.2 = q.2
  tb : X.fn Str.empty = true → ∃ c P, X.env.code = .ref c ∧ LamX.TabB X.base X.mg c P ∧ (P, X.env.qual ++ "<lambda>") ∈ tabsK X.K
end Z
set_option maxHeartbeats 4000000
/-! Z16: binding -/
namespace Z
open PySem PySem.Spec PyProof.Rows L2
section
variable {α : Type}
theorem lookup_app {n : Str} : ∀ (l r : List (Str × α)), (l ++ r).lookup n = (l.lookup n).or (r.lookup n)
  | [], r => by simp
  | (a, b) :: l, r => by
    simp only [List.cons_append, List.lookup_cons]
    cases n == a
    · exact lookup_app l r
    · rfl
theorem lookup_none {n : Str} : ∀ {l : List (Str × α)}, n ∉ l.map (·.1) → l.lookup n = none
  | [], _ => rfl
  | (a, b) :: l, h => by
    simp only [List.map_cons, List.mem_cons, not_or] at h
    rw [List.lookup_cons]
    have : (n == a) = false := by simp [h.1]
    rw [this]
    exact lookup_none h.2
theorem lookup_zip : ∀ {ps : List Str} {us : List α} {i : Nat} (hi : i < ps.length), ps.Nodup → (ps.zip us).lookup ps[i] = us[i]?
  | p :: ps, [], i, hi, _ => by simp
  | p :: ps, u :: us, 0, hi, _ => by simp
  | p :: ps, u :: us, i + 1, hi, h => by
    rw [List.nodup_cons] at h
    simp only [List.getElem_cons_succ, List.zip_cons_cons, List.lookup_cons, List.getElem?_cons_succ]
    have : (ps[i]'(by simpa using hi) == p) = false := by
      simp only [beq_eq_false_iff_ne]
      exact fun z => h.1 (z ▸ List.getElem_mem _)
    rw [this]
    exact lookup_zip (by simpa using hi) h.2
/-- the keywords' loop -/
theorem kw_loop {f : Str × Value → List (Str × Value) × List (Str × Value) → Sem (ForInStep (List (Str × Value) × List (Str × Value)))} : ∀ (kw sl : List (Str × Value)), (∀ q ∈ kw, ∀ sl : List (Str × Value), sl.lookup q.1 = none → f q (sl, []) = pure (.yield (sl ++ [q], []))) → (∀ q ∈ kw, sl.lookup q.1 = none) → (kw.map (·.1)).Nodup →
    forIn kw (sl, ([] : List (Str × Value))) f = pure (sl ++ kw, [])
  | [], sl, _, _, _ => by rw [List.forIn_nil, List.append_nil]
  | q :: kw, sl, hf, hl, hn => by
    rw [List.map_cons, List.nodup_cons] at hn
    rw [List.forIn_cons, hf q (by simp) sl (hl q (by simp)), pure_bind]
    show forIn kw (sl ++ [q], ([] : List (Str × Value))) f = _
    rw [kw_loop kw (sl ++ [q]) (fun p hp => hf p (by simp [hp])) (fun p hp => ?_) hn.2]
    · simp
    · rw [lookup_app, hl p (by simp [hp]), Option.none_or]
      exact lookup_none (by simp; exact fun z => hn.1 (z ▸ List.mem_map_of_mem (f := (·.1)) hp))
def addD (S : List (Str × Value)) (q : Str × Value) : List (Str × Value) := if (S.lookup q.1).isNone then S ++ [q] else S
theorem d_loop {f : Str × Value → List (Str × Value) → Sem (ForInStep (List (Str × Value)))} (hf : ∀ q S, f q S = pure (.yield (addD S q))) : ∀ (l S : List (Str × Value)), forIn l S f = pure (l.foldl addD S)
  | [], S => by rw [List.forIn_nil]; rfl
  | q :: l, S => by
    rw [List.forIn_cons, hf, pure_bind]
    exact d_loop hf l (addD S q)
theorem fold_lookup {n : Str} : ∀ (l S : List (Str × Value)), (l.foldl addD S).lookup n = (S.lookup n).or (l.lookup n)
  | [], S => by simp
  | (a, b) :: l, S => by
    rw [List.foldl_cons, fold_lookup l, List.lookup_cons]
    unfold addD
    by_cases hS : (S.lookup a).isNone
    · rw [if_pos hS, lookup_app, List.lookup_cons, Option.or_assoc]
      cases n == a <;> simp
    · rw [if_neg hS]
      cases hn : n == a with
      | false => rfl
      | true =>
        have hna : n = a := by simpa using hn
        subst hna
        cases hq : S.lookup n with
        | none => rw [hq] at hS; simp at hS
        | some v => simp
theorem filt_zip {g : Str → Option α} : ∀ {ps : List Str} {vs : List α}, ps.length = vs.length → (∀ (i : Nat) (h1 : i < ps.length) (h2 : i < vs.length), g ps[i] = some vs[i]) → ps.filterMap (fun n => (g n).map (fun v => (n, v))) = ps.zip vs
  | [], [], _, _ => rfl
  | p :: ps, v :: vs, hl, h => by
    have h0 := h 0 (by simp) (by simp)
    simp only [List.getElem_cons_zero] at h0
    rw [List.filterMap_cons, h0]
    simp only [Option.map_some, List.zip_cons_cons]
    rw [filt_zip (ps := ps) (vs := vs) (by simpa using hl) fun i h1 h2 => h (i + 1) (by simpa using h1) (by simpa using h2)]
/-- where the values come from -/
def lookZ (ps : List Str) (dfl us : List α) (kw : List (Str × α)) (n : Str) : Option α := ((ps.zip us ++ kw).lookup n).or (((ps.drop (ps.length - dfl.length)).zip dfl).lookup n)
theorem mapM_some {β : Type} {g : α → Option β} : ∀ {l : List α} {vs : List β}, l.mapM g = some vs → l.length = vs.length ∧ ∀ (i : Nat) (h1 : i < l.length) (h2 : i < vs.length), g l[i] = some vs[i]
  | [], vs, h => by simp at h; subst h; exact ⟨rfl, fun i h1 => absurd h1 (by simp)⟩
  | a :: l, vs, h => by
    rw [List.mapM_cons] at h
    cases ha : g a with
    | none => rw [ha] at h; simp at h
    | some v =>
      cases hl : l.mapM g with
      | none => rw [ha, hl] at h; simp at h
      | some ws =>
        rw [ha, hl] at h
        simp at h
        subst h
        obtain ⟨h1, h2⟩ := mapM_some hl
        refine ⟨by simp [h1], fun i h3 h4 => ?_⟩
        cases i with
        | zero => exact ha
        | succ i => exact h2 i (by simpa using h3) (by simpa using h4)
theorem bindZ_look {ps : List Str} {dfl us : List α} {kw : List (Str × α)} {vs : List α} (nd : ps.Nodup) (h : bindZ ps dfl us kw = some vs) : us.length ≤ ps.length ∧ dfl.length ≤ ps.length ∧ (∀ q ∈ kw, q.1 ∈ ps.drop us.length) ∧ (kw.map (·.1)).Nodup ∧ ps.length = vs.length ∧ ∀ (i : Nat) (h1 : i < ps.length) (h2 : i < vs.length), lookZ ps dfl us kw ps[i] = some vs[i] := by
  unfold bindZ at h
  split at h
  · split at h
    · rename_i hc
      obtain ⟨h1, h2, h3⟩ := hc
      cases h
      have hl : ps.length = (us ++ dfl.drop (dfl.length - (ps.length - us.length))).length := by
        simp only [List.length_append, List.length_drop]; omega
      refine ⟨h1, h3, fun q hq => absurd hq (by simp), by simp, hl, fun i hi hi2 => ?_⟩
      unfold lookZ
      rw [List.append_nil, lookup_zip hi nd]
      by_cases hu : i < us.length
      · rw [List.getElem_append_left hu]
        simp [hu]
      · rw [List.getElem?_eq_none (by omega), Option.none_or, List.getElem_append_right (by omega)]
        have e : ps[i] = (ps.drop (ps.length - dfl.length))[i - (ps.length - dfl.length)]'(by simp; omega) := by
          rw [List.getElem_drop]
          congr 1
          omega
        rw [e, lookup_zip (by simp; omega) (nd.sublist (List.drop_sublist _ _)), List.getElem_drop]
        rw [List.getElem?_eq_getElem (by omega)]
        congr 2
        omega
    · cases h
  · split at h
    · rename_i hc
      obtain ⟨h1, h2, h3, h4⟩ := hc
      obtain ⟨h5, h6⟩ := mapM_some h
      refine ⟨h1, h2, fun q hq => ?_, h4, h5, h6⟩
      simp only [List.all_eq_true] at h3
      simpa using h3 q hq
    · cases h
end
theorem bind_looks {K : PySem.W.Frag} {x qual : Str} {params : Arguments} {body : List Stmt} {scope : Scope} {dV kV doc pm cdv ct : Value} {an : Option Addr} {ps : List Str} {us : List Value} {kw : List (Str × Value)} {M : Model} {h : Heap} {vs its : List Value}
   (P : Plain params ps) (nd : ps.Nodup) (hK : K.In h) (hd : (its = [] ∧ dV = .none) ∨ (∃ (T : Addr) (o : Obj) (n : Nat), dV = .ref T ∧ K.lookup T = some o ∧ o.data = .seq its.toArray n)) (hb : bindZ ps its us kw = some vs) :
   PySem.W.Looks M h (bindArgs (PySem.W.fnOf x qual params body scope dV kV doc pm an cdv ct) ⟨us, kw⟩) (ps.zip vs) := by
  obtain ⟨h1, h2, h3, h4, h5⟩ := P
  obtain ⟨b1, b2, b3, b4, b5, b6⟩ := bindZ_look nd hb
  unfold bindArgs
  simp only [PySem.W.fnOf, h1, h2, h3, h4, h5, List.map_nil, List.nil_append, List.append_nil, List.contains_nil, Bool.or_false, Option.isSome_none, Option.isNone_none, Bool.and_true, List.forIn_nil]
  rw [kw_loop kw (ps.zip us) (fun q hq sl hs => ?_) (fun q hq => ?_) b4]
  · rw [pure_bind]
    have fin : ∀ (k : Option (Array Value) → Sem (List (Str × Value))), (∀ o : Option (Array Value), (o.getD #[]).toList = its → k o = pure (ps.zip vs)) → PySem.W.Looks M h (seqItems? dV >>= k) (ps.zip vs) := by
      intro k hk
      rcases hd with ⟨rfl, rfl⟩ | ⟨T, o, n, rfl, lT, oT⟩
      · have : seqItems? Value.none = pure none := rfl
        rw [this, pure_bind, hk none rfl]
        exact .of_pure rfl
      · exact looks_items hK lT oT (.of_pure (hk _ rfl))
    refine fin _ fun o ho => ?_
    simp only [ho]
    rw [if_neg (by simp; omega)]
    have e0 : its.drop (its.length - ps.length) = its := by
      rw [show its.length - ps.length = 0 by omega]; rfl
    rw [e0]
    have em : List.filter (fun n => (List.lookup n (ps.zip us ++ kw)).isNone) (List.take (ps.length - its.length) ps) = [] := by
      rw [List.filter_eq_nil_iff]
      intro n hn
      obtain ⟨i, hi, e⟩ := List.mem_iff_getElem.mp hn
      simp only [List.length_take] at hi
      rw [List.getElem_take] at e
      have hi2 : i < ps.length := by omega
      have q := b6 i hi2 (by omega)
      unfold lookZ at q
      have e2 : ((ps.drop (ps.length - its.length)).zip its).lookup ps[i] = none := by
        refine lookup_none fun hm => ?_
        obtain ⟨p, hp, ep⟩ := List.mem_map.mp hm
        have hp1 := (List.of_mem_zip (a := p.1) (b := p.2) hp).1
        rw [ep] at hp1
        obtain ⟨j, hj, ej⟩ := List.mem_iff_getElem.mp hp1
        rw [List.getElem_drop] at ej
        have := (List.getElem_inj nd).mp ej
        omega
      rw [e2, Option.or_none, e] at q
      rw [q]
      simp
    rw [em]
    simp only [List.isEmpty_nil, Bool.not_true, Bool.false_eq_true, if_false]
    rw [d_loop (fun q S => by unfold addD; split <;> rfl), pure_bind]
    refine congrArg (fun l : List (Str × Value) => (pure l : Sem (List (Str × Value)))) ?_
    refine filt_zip b5 fun i g1 g2 => ?_
    rw [fold_lookup]
    exact b6 i g1 g2
  · have hm : ps.contains q.1 = true := by simpa using List.mem_of_mem_drop (b3 q hq)
    rw [if_pos hm, hs]
    rfl
  · refine lookup_none fun hm => ?_
    obtain ⟨p, hp, ep⟩ := List.mem_map.mp hm
    obtain ⟨i, hi, e⟩ := List.mem_iff_getElem.mp hp
    simp only [List.length_zip] at hi
    rw [List.getElem_zip] at e
    have hq := b3 q hq
    rw [← ep, ← e] at hq
    obtain ⟨j, hj, ej⟩ := List.mem_iff_getElem.mp hq
    rw [List.getElem_drop] at ej
    have := (List.getElem_inj nd).mp ej
    omega
end Z
set_option maxHeartbeats 4000000
/-! Z20: own exceptions with super().__init__(given), raised -/
namespace Z
open PySem PySem.Spec PyProof.Rows L2
open PySem.Calls
/-- the wrapper of ValueError.__init__ called -/
theorem mw_call {prog : Program} {w : World} {A : Around} {E : Value → Shared → Prop} {h : Heap} {g : Array GenState} {d : Drawn} {t : Nat} {os : OsState} {K : PySem.W.Frag} {C u e t0 : Addr} {rest : List Value} {Q : Value → Shared → Prop} (T : OexC K C) (X : K.In h)
    (he : h.get? e = some (PySem.HandSPX.excO C t0)) (hu : h.get? u = some (PySem.W.kxs_mw "ValueError.__init__" e)) (hz : rest.length ≤ sizeLine)
    (hq : ∀ h' t1, (∀ b o, b ≠ e → h.get? b = some o → h'.get? b = some o) → h'.get? e = some (PySem.HandSPX.excO C t1) → Q .none ⟨h', g, d, t, os⟩) :
    wpAny (model prog w) A (call (.ref u) rest) Q E ⟨h, g, d, t, os⟩ := by
  obtain ⟨nm, q, N, bs, bm, sn, sub, ab, col, dd, k0, k1, k2, k3, k5, lC, hbm⟩ := T.cls
  have hC := X _ _ lC
  refine wpAny_call (codeAny_of_tree ?_)
  show wpAny _ A.in1 (callAny (.ref u) ⟨rest, []⟩) _ _ _
  simp only [callAny]
  refine wpAny_bind (wpAny_load hu ?_)
  simp only [PySem.W.kxs_mw, show (Value.type "method-wrapper" == Value.type "method" || Value.type "method-wrapper" == Value.type "builtin_function_or_method" || Value.type "method-wrapper" == Value.type "method-wrapper") = true by decide, if_true]
  refine PySem.W.KFB.if_so (by decide) ?_
  refine wpAny_bind (PySem.W.check_bound_init F.excBase_ValueError.toExcCallFacts hC he rfl ?_)
  refine wpAny_bind (wpAny_pure (wpAny_pure ?_))
  refine ⟨plainId_quiet F.excBase_ValueError.init.plain _, codeAny_builtin F.excBase_ValueError.initEntry ?_⟩
  exact PySem.W.exc_init_tree (cls := .ref C) (t0 := t0) (dv := none) (c2 := .none) (c3 := .none) (b4 := .bool false) he hz fun h' k e' t' => hq h' _ k e'
theorem init_raw {P : Program} {w : World} {K : PySem.W.Frag} {mg mb : MG} {C fI e t0 : Addr} {f : Str} {A : Around} {R : Result → Shared → Prop} {s : Shared} {u : Value} (T : ExZ P K mg C f fI) (X : K.In s.heap) (G : s.heap.Ns mainGlobals mg) (B : s.heap.Ns builtinsNs mb) (BB : ∀ x : Str, x ≠ "__name__" → mb x = bootBuiltins x) (lim : s.heap.NoLimit)
    (hroom : A.depth < recursionLimit) (he : s.heap.get? e = some (PySem.HandSPX.excO C t0)) (hKe : K.lookup e = none)
    (hq : ∀ h' tk dx t1, (∀ b o, b ≠ e → s.heap.get? b = some o → h'.get? b = some o) → s.heap.objs.size ≤ dx → h'.get? e = some { cls := .ref C, dict := some dx, data := .fields #[.ref t1, .none, .none, .none, .bool false, .none] } → h'.Ns1 dx (fun y => if y = f then some u else none) → R (.ok (.ret .none)) { s with heap := h', toks := tk }) :
    codeAny (model P w) A (.call (.ref fI) ⟨[.ref e, u], []⟩) R s := by
  obtain ⟨name, qual, params, scope, oc, od, dV, kV, doc, pm, an, cda, ct, osl, cc, self, g, vs, file, tf, ccl, cdd, ccs, cl, cld, csl, p0, p1, p2, p3, p4, p5, ap, cp, ep, sp, lk, hcd, lcd, hvs, hfile, lcc, hpl, rfl, hsg, hcell, hco, hgen, hk, ks, kg, ksup, kcls, ds, dg, hline⟩ := T.ex
  obtain ⟨nm, q, N, bs, bm, sn, sub, ab, col, dd, k0, k1, k2, k3, k5, lC, hbm⟩ := T.oex.cls
  have hcl : PySem.W.clsIn K C = some { name := nm, bases := bs, mro := .ref C :: bm, ns := N, qualname := q, hasDict := true, slotNames := sn, subclasses := sub, abstract := ab, collection := col, hasDel := false } := by unfold PySem.W.clsIn; rw [lC] <;> rfl
  have nd2 : [self, g].Nodup := by simp [hsg]
  have hbz : bindZ [self, g] [] [Value.ref e, u] [] = some [Value.ref e, u] := by
    unfold bindZ
    simp
  have hb : BindsTo s (PySem.W.ksFn name qual params [.Expr (.Call (.Attribute (.Call (.Name "super" p0) [] [] p1) "__init__" ap) [.Name g p2] [] cp) ep, .Assign [.Attribute (.Name self p3) f p4] (.Name g p5) sp] scope .none kV doc pm an (.ref cda) ct cc) ⟨[.ref e, u], []⟩ [(self, .ref e), (g, u)] := by
    refine BindsTo.of_looks fun M => ?_
    exact bind_looks (x := name) (qual := qual) (body := []) (scope := scope) (kV := kV) (doc := doc) (pm := pm) (cdv := .none) (ct := ct) (an := an) hpl nd2 X (.inl ⟨rfl, rfl⟩) hbz
  obtain ⟨hh, gg, d0, tt, os⟩ := s
  simp only at X G B lim he
  refine ks_codeAny_call_defAt (s := ⟨hh, gg, d0, tt, os⟩) (fd := PySem.W.ksFn name qual params _ scope .none kV doc pm an (.ref cda) ct cc) (binds := [(self, .ref e), (g, u)]) hroom (X _ _ lk) rfl lim (PySem.W.codeRec_of X hcd) rfl hb hcell (fun x hx => ?_) (fun h₀ hns hkeep => ?_) hco hgen hk
  · rcases List.mem_cons.mp hx with rfl | hx
    · exact ks
    · rcases List.mem_cons.mp hx with rfl | hx
      · exact kg
      · cases hx
  -- the frame
  have hf1 : ([(self, Value.ref e), (g, u)].reverse.lookup self) = some (.ref e) := by
    show List.lookup self [(g, u), (self, Value.ref e)] = _
    have : (self == g) = false := by simp [hsg]
    rw [List.lookup_cons, this, List.lookup_cons, beq_self_eq_true]
  have hf2 : ([(self, Value.ref e), (g, u)].reverse.lookup g) = some u := by
    show List.lookup g [(g, u), (self, Value.ref e)] = _
    rw [List.lookup_cons, beq_self_eq_true]
  have X1 : K.In h₀ := X.keeps hkeep
  have G1 : h₀.Ns mainGlobals mg := G.keeps hkeep
  have B1 : h₀.Ns builtinsNs mb := B.keeps hkeep
  have e1 := hkeep _ _ he
  have hC1 := X1 _ _ lC
  have I1 : PySem.W.InstAt h₀ e (PySem.HandSPX.excO C t0) C none := ⟨e1, rfl, rfl, trivial⟩
  have nC : e ≠ C := PySem.W.ks_ne X1 I1 hcl
  have hhead : (params.posonlyargs ++ params.args).head?.map (·.arg) = some self := by
    have h5 := hpl.h5
    rw [hpl.h1]
    cases ha : params.args with
    | nil => rw [ha] at h5; cases h5
    | cons a r => rw [ha] at h5; simp at h5; simp [h5.1]
  obtain ⟨ar, har, has⟩ : ∃ ar, (params.posonlyargs ++ params.args).head? = some ar ∧ ar.arg = self := by
    cases hx : (params.posonlyargs ++ params.args).head? with
    | none => rw [hx] at hhead; cases hhead
    | some ar => rw [hx] at hhead; simp at hhead; exact ⟨ar, rfl, hhead⟩
  generalize henv : callEnv (PySem.W.ksFn name qual params [.Expr (.Call (.Attribute (.Call (.Name "super" p0) [] [] p1) "__init__" ap) [.Name g p2] [] cp) ep, .Assign [.Attribute (.Name self p3) f p4] (.Name g p5) sp] scope .none kV doc pm an (.ref cda) ct cc) hh.objs.size fI = env
  have kind : ∀ x, env.kindOf x = scope.names.lookup x := fun x => by rw [← henv]; rfl
  have ek : env.scope.kind = .function := by rw [← henv]; exact hk
  have ecl : env.cells.lookup ("__class__" : Str) = some cc := by rw [← henv]; rfl
  have eL : env.locals = hh.objs.size := by rw [← henv]; rfl
  have eF : env.func = some fI := by rw [← henv]; rfl
  have eC : env.code = .ref cda := by rw [← henv]; rfl
  have eG : env.globals = mainGlobals := by rw [← henv]; rfl
  have eB : env.builtins = builtinsNs := by rw [← henv]; rfl
  rw [← eL] at hns
  have inter : interactive env = false := by simp [interactive, ek]
  refine ks_wpAt_execs_cons (ks_wpAt_Expr_any (ks_wpAt_MethodCall (pl := plainOf (.Call (.Name "super" p0) [] [] p1) env) (ks_wpAt_super_base (by rw [kind]; exact ksup) (by rw [kind]; exact kcls) (by decide) eF (X1 _ _ lk) rfl har eC (X1 _ _ lcd) rfl hvs hfile T.top ?_) ?_) inter rfl)
  · refine PySem.W.ks_loadName_global ek (by rw [kind]; exact ksup) (loadGlobal_builtin (env := env) (by rw [eG]; exact G1) T.ns (by rw [eB]; exact B1) ((BB _ (by decide)).trans PyProof.Rows.Boot.«super») ⟨rfl, ?_⟩)
    refine wpAny_loadName_free ek (by rw [kind]; exact kcls) ecl ⟨_, X1 _ _ lcc, rfl⟩ ?_
    rw [has]
    refine wpAny_loadName_local ek (by rw [kind]; exact ks) hns hf1 ?_
    refine ks_wpAny_isType_cls hC1 rfl ⟨rfl, ?_⟩
    refine ks_wpAny_call_super hC1 rfl e1 rfl (fun c z => by cases z) (PySem.W.looks_mroIn X1 T.mro) (fun h2 so2 k2 => ?_)
    have X2 : K.In h2 := X1.keeps k2
    have e2 := k2 _ _ e1
    have I2 : PySem.W.InstAt h2 e (PySem.HandSPX.excO C t0) C none := ⟨e2, rfl, rfl, trivial⟩
    have hm : PySem.W.alongIn K "__init__" (((Value.ref C :: bm).dropWhile (· != .ref C)).drop 1) = some (some (.builtin "ValueError.__init__")) := by
      have h0 := T.sup
      unfold PySem.W.ks_superIn at h0
      rw [hcl] at h0
      exact h0
    refine PySem.W.kxs_getMethod PySem.W.kxs_ValueError so2 (PySem.W.looks_opaque X2 T.st) (l₀ := .ref C :: bm) (fun A Q E s k q => wpAny_bind ((PySem.W.looks_clsIn X2 hcl) A _ E s k (wpAny_pure q))) rfl X2 hm (I2.type.andThen (PySem.W.looks_subIn X2 T.isV)) nC (by decide) ?_
    have k3 : ∀ b o, h2.get? b = some o → (h2.push (PySem.W.kxs_mw "ValueError.__init__" e)).get? b = some o := fun b o z => Heap.get?_push_of_some _ z
    have u3 : (h2.push (PySem.W.kxs_mw "ValueError.__init__" e)).get? h2.objs.size = some (PySem.W.kxs_mw "ValueError.__init__" e) := Heap.get?_push_size _ rfl
    have ns3 := (hns.keeps k2).keeps k3
    refine PySem.W.kxs_callWith (i := "ValueError.__init__") (x := e) rfl ?_
    refine evalArgs_plain (spliced_cons (wpAny_Name (wpAny_loadName_local ek (by rw [kind]; exact kg) ns3 hf2 (spliced_nil ⟨u3, ?_⟩)) dg))
    refine mw_call T.oex (X2.keeps k3) (k3 _ _ e2) u3 (by show 1 ≤ sizeLine; rw [sizeLine_eq]; decide) fun h4 t4 k4 e4 => ?_
    -- the field
    have eb : hh.objs.size ≠ e := Nat.ne_of_gt (Heap.lt_size he)
    have kAll : ∀ b o, b ≠ e → hh.get? b = some o → h4.get? b = some o := fun b o hb z => k4 b o hb (k3 _ _ (k2 _ _ (hkeep _ _ z)))
    have ns4 : h4.Ns env.locals fun x => [(self, Value.ref e), (g, u)].reverse.lookup x := by
      obtain ⟨oL, es, ep, q1, q2⟩ := ns3
      exact ⟨oL, es, ep, k4 _ _ (by rw [eL]; exact eb) q1, q2⟩
    have X4 : K.In h4 := fun b o z => k4 b o (fun y => by
      subst y
      rw [hKe] at z
      cases z) ((X2.keeps k3) b o z)
    refine ks_wpAt_execs_cons (ks_wpAt_Assign_Attr (wpAt_of_wpAny (wpAny_Name (wpAny_loadName_local ek (by rw [kind]; exact kg) ns4 hf2 (wpAny_Name (wpAny_loadName_local ek (by rw [kind]; exact ks) ns4 hf1 ?_) ds)) dg)) rfl)
    refine PySem.W.set_plain X4 (ox := PySem.HandSPX.excO C t4) (od := none) ⟨e4, rfl, rfl, trivial⟩ T.oex.sa ?_
    refine PySem.HandSPX.exc_osa X4 e4 hcl (show PySem.HandSPX.refsVE (.ref C :: bm) = true from hbm) rfl T.nf (fun h5 tk5 dx k5 dn dne hx hn => ?_)
    refine wpAt_of_wpAny (wpAny_execs_nil ?_)
    refine hq h5 _ dx t4 (fun b o hb z => k5 b o hb (kAll b o hb z)) ?_ hx hn
    have hle : hh.objs.size < h4.objs.size := by
      obtain ⟨oL, es, ep, q1, q2⟩ := ns4
      rw [eL] at q1
      exact Heap.lt_size q1
    exact Nat.le_trans (Nat.le_of_lt hle) dn
  · rw [arm_eval_Call]
    refine congrArg (fun k => attributeBase (.Call (.Name "super" p0) [] [] p1) "__init__" env (eval (.Call (.Name "super" p0) [] [] p1) env) >>= k) (funext fun ov => ?_)
    rw [mcall_line rfl hline]
    rfl
/-- C(e) is made, to be raised -/
theorem pmk_z {X : Cx} {x f : Str} {C fI : Addr} {k : Nat} {e : Expr} {ta : TA} {p pos : Pos} (T : ExZ X.prog X.K X.mg C f fI) (hr : Room (k + 1) X.A) (hg : Gl X x) (hm : X.mg x = some (.ref C)) (ha : PA X [e] ta)
    (hdb : (x == ("__debug__" : Str)) = false) (hs : noStar e = true) :
    PMk X (.Call (.Name x p) [e] [] pos) (fun σ H Q => ta σ H fun vs H1 => ∃ v, vs = [v] ∧ ∀ d, H1 d = none → Q (.ref C) (some d) (upd H1 d (.xd [(f, v)]))) := by
  intro pins s σ H Q I h
  obtain ⟨nm, q, N, bs, bm, sn, sub, ab, col, dd, k0, k1, k2, k3, k5, hC, hbm⟩ := T.oex.cls
  refine wpAny_Call_Name_kw (ld_glob I hg hm ?_ hdb)
  refine PySem.W.callWith_K (h₀ := X.base) I.ok.mod.kin T.oex.kC (thn (ha.run pos pins s σ H _ I h) fun us s1 ⟨vs, H1, I1, r1, v, ev, q1⟩ => ⟨I1.kIn, ?_⟩) (star_of hs) rfl
  subst ev
  obtain ⟨u, rfl, ru⟩ := vals1 r1
  show wpAny _ _ (call (.ref C) [u]) _ _ _
  obtain ⟨hp, g, dr, tk, os⟩ := s1
  have hsz : hp.objs.size ≤ hp.objs.size + 1 := Nat.le_succ _
  have hn : H1 (hp.objs.size + 1) = none := I1.hok.fresh hsz
  have kk : ∀ b o, hp.get? b = some o → ((hp.push (PySem.W.kdv_tup [u])).push (PySem.HandSPX.excO C hp.objs.size)).get? b = some o := fun b o e => Heap.get?_push_of_some _ (Heap.get?_push_of_some _ e)
  have hget : ((hp.push (PySem.W.kdv_tup [u])).push (PySem.HandSPX.excO C hp.objs.size)).get? (hp.objs.size + 1) = some (PySem.HandSPX.excO C hp.objs.size) := by heap_get
  have I2 : Inv X pins σ (upd H1 (hp.objs.size + 1) (exo (hp.objs.size + 1) C none)) ⟨(hp.push (PySem.W.kdv_tup [u])).push (PySem.HandSPX.excO C hp.objs.size), g, dr, tk, os⟩ :=
    I1.laid (t' := tk) (a := hp.objs.size + 1) (o := exo (hp.objs.size + 1) C none) (h' := (hp.push (PySem.W.kdv_tup [u])).push (PySem.HandSPX.excO C hp.objs.size)) kk hsz (exo_ok hget)
  obtain ⟨mb, gb, hbb⟩ := I2.ok.mod.blt
  have hKe : X.K.lookup (hp.objs.size + 1) = none := by
    cases z : X.K.lookup (hp.objs.size + 1) with
    | none => rfl
    | some o => exact absurd (show hp.objs.size + 1 < hp.objs.size from Heap.lt_size (I1.kIn _ _ z)) (by omega)
  refine wpAny_call (PySem.HandSPX.call_own F.excBase_ValueError (fun Y => PySem.HandSPX.refsVE_contains Y bm hbm) (I1.kIn _ _ hC) (PySem.W.looks_findIn I1.kIn T.iC) (fun self => PySem.W.bind_fn I1.kIn self T.tI) (by show 1 ≤ sizeLine; rw [sizeLine_eq]; decide)
    (init_raw T I2.kIn (I2.ok.mod.glob.keeps I2.bk) (gb.keeps I2.bk) hbb I2.nolimit (hr.make C [u] []).depth hget hKe fun h' tk' dx t1 kp dn hx hns => ?_))
  have hd1 : H1 dx = none := I1.hok.fresh (by
    rw [Heap.size_push, Heap.size_push] at dn
    show hp.objs.size ≤ dx
    omega)
  have da : dx ≠ hp.objs.size + 1 := by
    rw [Heap.size_push, Heap.size_push] at dn
    omega
  have hsz2 : ((hp.push (PySem.W.kdv_tup [u])).push (PySem.HandSPX.excO C hp.objs.size)).objs.size = hp.objs.size + 2 := by rw [Heap.size_push, Heap.size_push]
  have na : ∀ {b : Addr}, upd H1 (hp.objs.size + 1) (exo (hp.objs.size + 1) C none) b = none → b ≠ hp.objs.size + 1 := fun {b} n z => by
    rw [z, upd_same] at n
    cases n
  have nd : ∀ {b : Addr} {o : PySem.Obj}, ((hp.push (PySem.W.kdv_tup [u])).push (PySem.HandSPX.excO C hp.objs.size)).get? b = some o → b ≠ dx := fun {b o} z => Nat.ne_of_lt (Nat.lt_of_lt_of_le (Heap.lt_size z) dn)
  have h2n : upd H1 (hp.objs.size + 1) (exo (hp.objs.size + 1) C none) dx = none := by rw [upd_ne da]; exact hd1
  have ea0 : upd H1 (hp.objs.size + 1) (exo (hp.objs.size + 1) C none) (hp.objs.size + 1) = some (exo (hp.objs.size + 1) C none) := upd_same
  generalize hH : upd H1 (hp.objs.size + 1) (exo (hp.objs.size + 1) C none) = HA at *
  have un : Un (frs X.stack) [] HA (upd (upd HA dx (exd dx [(f, v)])) (hp.objs.size + 1) (exo (hp.objs.size + 1) C (some dx))) ((hp.push (PySem.W.kdv_tup [u])).push (PySem.HandSPX.excO C hp.objs.size)) h' := {
    keep := fun b o q n _ _ => kp b o (na n) q
    slot := fun b o q n _ _ => ⟨o.slots, kp b o (na n) q⟩
    free := fun b o q n _ => by rw [upd_ne (na n), upd_ne (nd q)]; exact n
    there := fun b o q _ => by
      by_cases hb : b = hp.objs.size + 1
      · exact ⟨_, by rw [hb]; exact hx⟩
      · exact ⟨o, kp b o hb q⟩
    tups := fun b xs q => by rw [upd_ne (at_ne ea0 q exo_tup), upd_ne (ne_of_none q h2n)]; exact q
    frzs := fun b o v q => by rw [upd_ne (at_ne ea0 q exo_frz), upd_ne (ne_of_none q h2n)]; exact q
    tbls := fun b ps q => ⟨#[], by rw [upd_ne (at_ne ea0 q exo_tbl), upd_ne (ne_of_none q h2n), q]; simp⟩ }
  have hok : HOk X.prog X.w (upd (upd HA dx (exd dx [(f, v)])) (hp.objs.size + 1) (exo (hp.objs.size + 1) C (some dx))) h' := fun b o z => by
    by_cases hb : b = hp.objs.size + 1
    · subst hb
      rw [upd_same] at z
      cases z
      exact exo_ok hx
    · rw [upd_ne hb] at z
      by_cases hd : b = dx
      · subst hd
        rw [upd_same] at z
        cases z
        exact exd_ok hns (relO_put (fs := []) ru fun g => True.intro)
      · rw [upd_ne hd] at z
        exact (I2.hok b o z).stay (fun c v hc y => kp c v (by
            rcases hc with hc | hc
            · rw [hc]
              exact hb
            · exact at_ne ea0 hc exo_own) y)
          (fun c hc => by rw [upd_ne (at_ne ea0 hc exo_own), upd_ne (ne_of_none hc h2n)]; exact hc) (fun c xs hc => by rw [upd_ne (at_ne ea0 hc exo_tup), upd_ne (ne_of_none hc h2n)]; exact hc)
  subst hH
  refine ⟨rfl, ?_⟩
  have hfin : upd (del (upd (upd (upd H1 (hp.objs.size + 1) (exo (hp.objs.size + 1) C none)) dx (exd dx [(f, v)])) (hp.objs.size + 1) (exo (hp.objs.size + 1) C (some dx))) (hp.objs.size + 1)) dx (.xd [(f, v)]) = upd H1 dx (.xd [(f, v)]) := by
    funext b
    by_cases hb : b = dx
    · subst hb; rw [upd_same, upd_same]
    · rw [upd_ne hb, upd_ne hb]
      by_cases hb2 : b = hp.objs.size + 1
      · subst hb2; rw [del_same, hn]
      · rw [del_ne hb2, upd_ne hb2, upd_ne hb, upd_ne hb2]
  exact mk_end (raises_own T.oex.exC T.oex.tyC) I1 hsz kk un hok rfl I1.bare upd_same (by rw [upd_ne da, upd_same]) hd1 (by rw [hfin]; exact q1 dx hd1)
end Z
set_option maxHeartbeats 4000000
/-! Z21: try with several clauses `except C as e` -/
namespace Z
open PySem PySem.Spec PyProof.Rows L2
abbrev Suite := Addr → Value → Option Addr → TS
/-- behind a suite the name is gone -/
def goneE (i : Nat) (D : Ends) : Ends := { nx := fun σ H => D.nx (σ.set i none) H, rt := D.rt, bk := fun σ H => D.bk (σ.set i none) H, ct := fun σ H => D.ct (σ.set i none) H }
/-- the clauses' wishes, the first that takes it -/
def wClauses (K : PySem.W.Frag) (i : Nat) (Wout : WX) (D : Ends) : List (Value × Suite) → WX
  | [] => Wout
  | q :: r => fun cls d σ H => ∃ b, PySem.W.exmOne K cls q.1 = some b ∧ (b = true → ∀ a, H a = none → q.2 a cls d (goneE i D) (σ.set i (some (.ref a))) H) ∧ (b = false → wClauses K i Wout D r cls d σ H)
inductive Clauses (X : Cx) (n : Str) : List ExceptHandler → List (Value × Suite) → Prop
  | nil : Clauses X n [] []
  | cons {x : Str} {c : Value} {ts : Suite} {b₀ : Stmt} {suite : List Stmt} {p1 p2 : Pos} {hds : List ExceptHandler} {l : List (Value × Suite)} (hc : Names X x c)
      (run : ∀ (a : Addr) (oe : PySem.Obj) (cls : Value) (d : Option Addr) (pn : List (Addr × PySem.Obj)), Zc cls d oe → (∃ vs, oe.data = .fields vs) → PSs (X.suite a ((a, oe) :: pn)) (b₀ :: suite) (ts a cls d)) (r : Clauses X n hds l) :
      Clauses X n (.ExceptHandler (some (.Name x p1)) (some n) (b₀ :: suite) p2 :: hds) ((c, ts) :: l)
section
variable {X : Cx} {n : Str} {i : Nat} {body : List Stmt} {h₀ : ExceptHandler} {hds : List ExceptHandler} {l : List (Value × Suite)} {pos : Pos} {tb : WX → TS} {Wout : WX}
theorem ps_clauses (hs : X.stack = X.env :: X.outer) (hf : X.env.frame = some X.env.locals) (hN : X.N.Nodup) (hi : X.N[i]? = some n) (hln : X.env.kindOf n = some .local) (tk : Takes X Wout)
    (hb : ∀ (W : WX) (pn : List (Addr × PySem.Obj)) (xe : Value → Shared → Prop), Takes (X.tr pn xe) W → PassesOwn (model X.prog X.w) X.A X.env xe → PSs (X.tr pn xe) body (tb W))
    (hh : Clauses X n (h₀ :: hds) l) : PS X (.Try body (h₀ :: hds) [] [] pos) (fun D σ H => tb (wClauses X.K i Wout D l) D σ H) := by
  refine ⟨fun pins s σ H D I h => ?_⟩
  have ok := I.ok
  have frames : X.A.frames = some (X.env :: X.outer) := by rw [ok.frames, hs]
  have hloc : Loc X.env.scope n := .inl hln
  refine wpAny_Try_except ?_
  refine wpAny_mono ((hb (wClauses X.K i Wout D l) (X.pn ++ pins) (fun e s₁ => wpAny (model X.prog X.w) X.A (noteFrame e X.env) (fun _ s₂ => wpAny (model X.prog X.w) X.A (setFlight e none) (fun _ s₃ =>
    wpAny (model X.prog X.w) X.A (handleBy e X.env (h₀ :: hds)) (SP X pins D) X.xe s₃) X.xe s₂) X.xe s₁) (fun u s' air => ?_) PassesOwn.looking).run [] s σ H D (I.toTry _) h) (fun f s1 end_ => ?_) (fun e s1 z => z)
  · obtain ⟨a, B, sI, pins', σ', H', cls, d, rfl, Jt, nb, up, sky, na, os, ag, wish⟩ := air
    have J : Inv X pins σ' H' sI := Jt.ofTry ok
    rw [hs] at sky
    show wpAny (model X.prog X.w) X.A (noteFrame (.ref a) X.env) _ _ _
    refine Sky.land Zc.steady frames hf sky fun h3 fl3 up3 => ?_
    have J3 : Inv X pins σ' H' { s' with heap := h3 } := J.landed nb fl3.1 (up.trans up3) os ag
    obtain ⟨oe3, vs3, he3, hz3, hd3⟩ := fl3.there
    have away : a ∉ frs (X.env :: X.outer) := fun hm => by
      obtain ⟨_, o', e', hnf⟩ := fl3.2.2.1.mem hm
      rw [he3] at e'
      cases e'
      exact hnf _ hd3
    have nL : a ≠ X.env.locals := fun z => away (List.mem_filterMap.mpr ⟨X.env, List.mem_cons_self, by rw [hf, z]⟩)
    have nF : a ∉ X.fs := fun hm => by
      obtain ⟨e, he, q⟩ := List.mem_filterMap.mp hm
      exact away (List.mem_filterMap.mpr ⟨e, List.mem_cons_of_mem _ he, q⟩)
    have S3 := J3.suite he3 hd3 na nL nF
    have walk : ∀ {hds' : List ExceptHandler} {l' : List (Value × Suite)}, Clauses X n hds' l' → wClauses X.K i Wout D l' cls d σ' H' →
        wpAny (model X.prog X.w) X.A (handleBy (.ref a) X.env hds') (SP X pins D) X.xe { s' with heap := h3 } := by
      intro hds' l' hk
      induction hk with
      | nil =>
        intro wish
        refine wpAny_handleBy_nil ?_
        obtain ⟨_, _, _, oe, vs, T, oT, ts', he, hz, hd, h1, hr⟩ := id fl3
        unfold PySem.passOn
        refine wpAny_bind (wpAny_field he hd h1 ?_)
        rw [if_neg (show ¬ ((Value.ref T == Value.none) = true) from by simp)]
        have up_on : wpAny (model X.prog X.w) X.A (setFlight (.ref a) X.env.frame) (fun _ s4 => wpAny (model X.prog X.w) X.A (throw (.ref a) : Sem Flow) (SP X pins D) X.xe s4) X.xe { s' with heap := h3 } := by
          rw [hf]
          refine HandSPX.setFlight_upZ fl3 fun h4 hh4 up4 => wpAny_throw (tk _ _ ?_)
          exact ⟨a, B, sI, pins, σ', H', cls, d, rfl, J, nb, (up.trans up3).trans up4, .inr (.inr (by rw [hs]; exact hh4)), na, os, ag, wish⟩
        first
          | exact wpAny_bind (wpAny_pure (wpAny_bind up_on))
          | exact wpAny_bind up_on
      | @cons x c ts b₀ suite p1 p2 hds2 l2 hc run r ih =>
        intro wish
        obtain ⟨b, hb1, yes, no⟩ := wish
        refine wpAny_handleBy_cons (codeAny_handlers_test ?_) (by intro q; cases q)
        have LT : PySem.W.Looks (model X.prog X.w) h3 (typeOf (.ref a)) cls := fun A Q E s k q => wpAny_typeOf_ref (k _ _ he3) (by rw [hz3.1]; exact q)
        have LM := PySem.W.exm_one (M := model X.prog X.w) (J3.kIn) LT hb1
        have named : ∀ {Q : Value → Shared → Prop} {E : Value → Shared → Prop}, Q c { s' with heap := h3 } → wpAny (model X.prog X.w) (X.A.mark (some (.ref a))) (eval (.Name x p1) X.env) Q E { s' with heap := h3 } := fun {Q E} q => by
          obtain ⟨hg, hdbg, hm | ⟨hm, hv, hnn⟩⟩ := hc
          · exact ld_glob (X := X.suite a ((a, oe3) :: (X.pn ++ pins))) S3 hg hm q hdbg
          · exact ld_blt (X := X.suite a ((a, oe3) :: (X.pn ++ pins))) S3 hg hm hv q hnn hdbg
        refine named (LM.here ?_)
        cases b with
        | false =>
          show wpAny _ X.A (handleBy (.ref a) X.env hds2) _ _ _
          exact ih (no rfl)
        | true =>
          refine codeAny_handlers_suite_as ?_
          refine HandSPX.lands_againZ fl3 fun h4 fl4 up4 => ?_
          have J4 : Inv X pins σ' H' { s' with heap := h4 } := J.landed nb fl4.1 ((up.trans up3).trans up4) os ag
          obtain ⟨oe4, vs4, he4, hz4, hd4⟩ := fl4.there
          have S4 := J4.suite he4 hd4 na nL nF
          refine store_ok (X := X.suite a ((a, oe4) :: (X.pn ++ pins))) (v := .ref a) S4 hN hi hloc rfl (fun s5 S5 => ?_) (.inr hln)
          refine wpAny_mono ((run a oe4 cls d (X.pn ++ pins) hz4 ⟨_, hd4⟩).run [] s5 _ H' _ S5 (yes rfl a na)) (fun f s6 hsp => ?_) (fun _ _ z => False.elim z)
          have forget : ∀ {σ6 : L2.St} {H6 : Hp} {Q : Shared → Prop}, Inv (X.suite a ((a, oe4) :: (X.pn ++ pins))) [] σ6 H6 s6 → (∀ s7, Inv X pins (σ6.set i none) H6 s7 → Q s7) →
              wpAny (model X.prog X.w) X.A (do bindName X.env n .none; unbindBehindTheSuite X.env n p2) (fun _ s7 => Q s7) X.xe s6 := fun {σ6 H6 Q} S6 hq => gone_ok (S6.unsuite ok) hN hi hln hq
          cases f with
          | next =>
            obtain ⟨σ6, H6, S6, q6⟩ := hsp
            exact forget S6 fun s7 J7 => ⟨_, _, J7, q6⟩
          | brk =>
            obtain ⟨σ6, H6, S6, q6⟩ := hsp
            exact forget S6 fun s7 J7 => ⟨_, _, J7, q6⟩
          | cont =>
            obtain ⟨σ6, H6, S6, q6⟩ := hsp
            exact forget S6 fun s7 J7 => ⟨_, _, J7, q6⟩
          | ret u =>
            obtain ⟨v6, σ6, H6, S6, r6, q6⟩ := hsp
            exact forget S6 fun s7 J7 => ⟨_, _, _, J7, r6, q6⟩
    exact walk hh wish
  · cases f with
    | next =>
      obtain ⟨σ', H', J', q⟩ := end_
      exact wpAny_execs_nil ⟨σ', H', J'.ofTry ok, q⟩
    | brk =>
      obtain ⟨σ', H', J', q⟩ := end_
      exact ⟨σ', H', J'.ofTry ok, q⟩
    | cont =>
      obtain ⟨σ', H', J', q⟩ := end_
      exact ⟨σ', H', J'.ofTry ok, q⟩
    | ret u =>
      obtain ⟨v, σ', H', J', r, q⟩ := end_
      exact ⟨v, σ', H', J'.ofTry ok, r, q⟩
end
end Z
set_option maxHeartbeats 4000000
/-! Z7: expressions do as the evaluator says: one lemma a construct -/
namespace Z
open PySem PySem.Spec PyProof.Rows L2
section
variable {X : Cx}
theorem peI {e : Expr} {t t' : TE} (h : PE X e t) (k : ∀ σ H Q, t' σ H Q → t σ H Q) : PE X e t' := ⟨fun pins s σ H Q I q => h.run pins s σ H Q I (k σ H Q q)⟩
theorem ptI {e : Expr} {t t' : TT} (h : PT X e t) (k : ∀ σ H Q, t' σ H Q → t σ H Q) : PT X e t' := ⟨fun pins s σ H Q I q => h.run pins s σ H Q I (k σ H Q q)⟩
theorem pwI {e : Expr} {t t' : TT} (h : PW X e t) (k : ∀ σ H Q, t' σ H Q → t σ H Q) : PW X e t' := ⟨fun wh pins s σ H Q I q => h.run wh pins s σ H Q I (k σ H Q q)⟩
theorem paI {e : List Expr} {t t' : TA} (h : PA X e t) (k : ∀ σ H Q, t' σ H Q → t σ H Q) : PA X e t' := ⟨fun pos pins s σ H Q I q => h.run pos pins s σ H Q I (k σ H Q q)⟩
end
def isBO : Expr → Bool
  | .BoolOp _ _ _ => true
  | _ => false
section
variable (X : Cx) (W : WX) (C : Ev)
abbrev TZ (m : E) : TE := tE X.K X.mg W C m
abbrev BZ (m : E) : TT := tB (tE X.K X.mg W C m)
abbrev LZ (m : Es) : TA := tL X.K X.mg W C m
structure Snd (m : E) (e : Expr) : Prop where
  pe : PE X e (TZ X W C m)
  pt : PT X e (BZ X W C m)
  pw : isBO e = true → PW X e (BZ X W C m)
end
section
variable {X : Cx} {W : WX} {C : Ev} {k : Nat}
/-- an expression whose truth is asked of its value -/
theorem Snd.of {m : E} {e : Expr} (h : PE X e (TZ X W C m)) (hb : isBO e = false) (he : ∀ whole, isTrue e X.env whole = (do let v ← whole; standAt e.pos; holding [v] (truthy v))) : Snd X W C m e :=
  ⟨h, pt_val h he, fun z => by rw [hb] at z; cases z⟩
theorem z_k {c : K0} {v : Const} {j : Nat} {pos : Pos} (h : (match c, v with
      | .non, .none => true
      | .bl a, .bool b => a == b
      | .int a, .int b => decide (a = b)
      | .str a, .str b => decide (a = b)
      | _, _ => false) = true) : PE X (.Constant v j pos) (TZ X W C (.k c)) := by
  cases c with
  | non =>
    cases v <;> try cases h
    refine peI pe_non fun σ H Q h => ?_
    obtain ⟨μ, S, ρ, A, En, h⟩ := h
    rw [evE] at h
    exact h μ _ H (Gr.refl _ _) A (by simp [Rep])
  | bl b =>
    cases v <;> try cases h
    rename_i b'
    have : b = b' := by simpa using h
    subst this
    refine peI pe_bl fun σ H Q h => ?_
    obtain ⟨μ, S, ρ, A, En, h⟩ := h
    rw [evE] at h
    exact h μ _ H (Gr.refl _ _) A (by simp [Rep])
  | int b =>
    cases v <;> try cases h
    rename_i b'
    have : b = b' := by simpa using h
    subst this
    refine peI pe_int fun σ H Q h => ?_
    obtain ⟨μ, S, ρ, A, En, h⟩ := h
    rw [evE] at h
    exact h μ _ H (Gr.refl _ _) A (by simp [Rep])
  | str b =>
    cases v <;> try cases h
    rename_i b'
    have : b = b' := by simpa using h
    subst this
    refine peI pe_str fun σ H Q h => ?_
    obtain ⟨μ, S, ρ, A, En, h⟩ := h
    rw [evE] at h
    exact h μ _ H (Gr.refl _ _) A (by simp [Rep])
theorem z_v {i : Nat} {x : Str} {pos : Pos} (hN : X.N[i]? = some x) (hv : Vis X.env.scope x) (ok : OkN x) : PE X (.Name x pos) (TZ X W C (.v i)) := by
  refine peI (pe_var hN hv ok.db ok.cd) fun σ H Q h => ?_
  obtain ⟨μ, S, ρ, A, En, h⟩ := h
  rw [evE] at h
  split at h
  · rename_i d hd
    obtain ⟨v, e, r⟩ := En.at_ i d hd
    exact ⟨v, e, h μ v H (Gr.refl _ _) A r⟩
  · exact h.elim
theorem z_g (hy : Hyp X W C k) {x : Str} {pos : Pos} (hg : Gl X x) (ok : OkN x) : PE X (.Name x pos) (TZ X W C (.g x)) := by
  cases hx : C.gt x with
  | none =>
    refine ⟨fun pins s σ H Q I h => ?_⟩
    obtain ⟨μ, S, ρ, A, En, h⟩ := h
    rw [evE, hx] at h
    exact h.elim
  | some d =>
    obtain ⟨v, u, e, r, t⟩ := hy.gt x d hx
    refine peI (pe_glob hg e r ok.db) fun σ H Q h => ?_
    obtain ⟨μ, S, ρ, A, En, h⟩ := h
    rw [evE, hx] at h
    exact h μ v H (Gr.refl _ _) A (t μ H)
theorem z_bin {o : BO} {a b : E} {l r : Expr} {pos : Pos} (ha : PE X l (TZ X W C a)) (hb : PE X r (TZ X W C b)) : PE X (.BinOp l (opO o) r pos) (TZ X W C (.bin o a b)) := by
  refine peI (pe_op (op_bin o) ha hb) fun σ H Q h => ?_
  obtain ⟨μ, S, ρ, A, En, h⟩ := h
  rw [evE] at h
  exact ⟨μ, S, ρ, A, En, h.bind fun d S1 μ1 v H1 g1 A1 r1 h1 => ⟨μ1, S1, ρ, A1, En.mono g1, h1.bind fun e S2 μ2 w H2 g2 A2 r2 h2 => ⟨μ2, S2, d, e, A2, r1.mono g2, r2, h2.okV (bin_nx _ _ _ _)⟩⟩⟩
theorem z_neg {a : E} {l : Expr} {pos : Pos} (ha : PE X l (TZ X W C a)) : PE X (.UnaryOp .USub l pos) (TZ X W C (.neg a)) := by
  refine peI (pe_un un_neg ha) fun σ H Q h => ?_
  obtain ⟨μ, S, ρ, A, En, h⟩ := h
  rw [evE] at h
  refine ⟨μ, S, ρ, A, En, h.bind fun d S1 μ1 v H1 g1 A1 r1 h1 => ?_⟩
  cases d <;> try exact h1.elim
  rename_i i
  simp only [Rep] at r1
  exact ⟨i, r1, h1 μ1 _ H1 (Gr.refl _ _) A1 (by simp [Rep])⟩
theorem z_cmpT {o : CO} {a b : E} {l r : Expr} (hu : X.A.units + 64 < cLine) : ∀ σ H Q, TZ X W C (.cmp o a b) σ H Q → tOp (rZ2 X.K X.mg (cmpR o)) (TZ X W C a) (TZ X W C b) σ H Q := by
  intro σ H Q h
  obtain ⟨μ, S, ρ, A, En, h⟩ := h
  rw [evE] at h
  exact ⟨μ, S, ρ, A, En, h.bind fun d S1 μ1 v H1 g1 A1 r1 h1 => ⟨μ1, S1, ρ, A1, En.mono g1, h1.bind fun e S2 μ2 w H2 g2 A2 r2 h2 => ⟨μ2, S2, d, e, A2, r1.mono g2, r2, h2.okV (cmpR_nx _ _ _ _)⟩⟩⟩
theorem z_cmp (hy : Hyp X W C k) {o : CO} {a b : E} {l r : Expr} {pos : Pos} (ha : PE X l (TZ X W C a)) (hb : PE X r (TZ X W C b)) (hs : noSet r = true) : Snd X W C (.cmp o a b) (.Compare l [opC o] [r] pos) :=
  have hu := hy.room.r.units
  ⟨peI (pe_cmpR (op_cmp o hu) ha hb (marks_of hs)) (z_cmpT (l := l) (r := r) hu), ptI (pt_cmpR (op_cmp o hu) ha hb (marks_of hs)) fun σ H Q h => z_cmpT (l := l) (r := r) hu σ H _ h, fun z => nomatch z⟩
theorem z_isN {a : E} {l : Expr} {j : Nat} {p pos : Pos} (ha : PE X l (TZ X W C a)) : Snd X W C (.isN a) (.Compare l [.Is] [.Constant .none j p] pos) := by
  have key : ∀ σ H Q, TZ X W C (.isN a) σ H Q → tIsN (TZ X W C a) σ H Q := by
    intro σ H Q h
    obtain ⟨μ, S, ρ, A, En, h⟩ := h
    rw [evE] at h
    refine ⟨μ, S, ρ, A, En, h.bind fun d S1 μ1 v H1 g1 A1 r1 h1 => ?_⟩
    have e : decide (v = V.non) = d.isNon := by
      cases d <;> simp only [Rep] at r1
      case non => subst r1; rfl
      case tup => obtain ⟨a, xs, rfl, _⟩ := r1; rfl
      case ref => obtain ⟨a, _, rfl⟩ := r1; rfl
      case fn => obtain ⟨a, _, rfl⟩ := r1; rfl
      case gd => obtain ⟨a, _, rfl⟩ := r1; rfl
      all_goals (subst r1; rfl)
    rw [e]
    exact h1 μ1 _ H1 (Gr.refl _ _) A1 (by simp [Rep])
  exact ⟨peI (pe_cmp (pc_isN ha)) key, ptI (pt_cmp (pc_isN ha)) fun σ H Q h => key σ H _ h, fun z => nomatch z⟩
theorem z_notN {a : E} {l : Expr} {j : Nat} {p pos : Pos} (ha : PE X l (TZ X W C a)) : Snd X W C (.notN a) (.Compare l [.IsNot] [.Constant .none j p] pos) := by
  have key : ∀ σ H Q, TZ X W C (.notN a) σ H Q → tNotN (TZ X W C a) σ H Q := by
    intro σ H Q h
    obtain ⟨μ, S, ρ, A, En, h⟩ := h
    rw [evE] at h
    refine ⟨μ, S, ρ, A, En, h.bind fun d S1 μ1 v H1 g1 A1 r1 h1 => ?_⟩
    have e : decide (v = V.non) = d.isNon := by
      cases d <;> simp only [Rep] at r1
      case non => subst r1; rfl
      case tup => obtain ⟨a, xs, rfl, _⟩ := r1; rfl
      case ref => obtain ⟨a, _, rfl⟩ := r1; rfl
      case fn => obtain ⟨a, _, rfl⟩ := r1; rfl
      case gd => obtain ⟨a, _, rfl⟩ := r1; rfl
      all_goals (subst r1; rfl)
    rw [e]
    exact h1 μ1 _ H1 (Gr.refl _ _) A1 (by simp [Rep])
  exact ⟨peI (pe_cmp (pc_notN ha)) key, ptI (pt_cmp (pc_notN ha)) fun σ H Q h => key σ H _ h, fun z => nomatch z⟩
theorem z_chain (hy : Hyp X W C k) {o q : CO} {a b c : E} {x y z : Expr} {pos : Pos} (ha : PE X x (TZ X W C a)) (hb : PE X y (TZ X W C b)) (hc : PE X z (TZ X W C c)) (hs : noSet y = true) (hs2 : noSet z = true) : Snd X W C (.chain o q a b c) (.Compare x [opC o, opC q] [y, z] pos) := by
  have hu := hy.room.r.units
  have key : ∀ σ H Q, TZ X W C (.chain o q a b c) σ H Q → tChain (rZ2 X.K X.mg (cmpR o)) (rZ2 X.K X.mg (cmpR q)) (TZ X W C a) (TZ X W C b) (TZ X W C c) σ H Q := by
    intro σ H Q h
    obtain ⟨μ, S, ρ, A, En, h⟩ := h
    rw [evE] at h
    refine ⟨μ, S, ρ, A, En, h.bind fun d S1 μ1 v H1 g1 A1 r1 h1 => ⟨μ1, S1, ρ, A1, En.mono g1, h1.bind fun e S2 μ2 w H2 g2 A2 r2 h2 => ⟨μ2, S2, d, e, A2, r1.mono g2, r2, ?_⟩⟩⟩
    unfold cmpR
    cases hcmp : cmp o d e S2 with
    | none => rw [hcmp] at h2; exact h2.elim
    | some t =>
      rw [hcmp] at h2
      intro μ3 v3 H3 g3 A3 r3
      simp only [Rep] at r3
      refine ⟨t, r3, ?_⟩
      cases t with
      | true =>
        rw [if_pos rfl]
        exact ⟨μ3, S2, ρ, A3, (En.mono g1).mono (g2.trans g3), (RZ.gr g3 h2).bind fun f S4 μ4 u H4 g4 A4 r4 h4 => ⟨μ4, S4, e, f, A4, r2.mono (g3.trans g4), r4, h4.okV (cmpR_nx _ _ _ _)⟩⟩
      | false =>
        rw [if_neg Bool.false_ne_true]
        exact h2 μ3 _ H3 g3 A3 (by simp [Rep])
  have hm : lastMarks [opC o, opC q] [y, z] = false := by
    show lastMarks [opC q] [z] = false
    exact marks_of hs2
  exact ⟨peI (pe_chain (op_cmp o hu) (op_cmp q hu) ha hb hc hm) key, ptI (pt_chain (op_cmp o hu) (op_cmp q hu) ha hb hc hm) fun σ H Q h => key σ H _ h, fun z => nomatch z⟩
/-! ### and, or, not, if -/
theorem z_andT {a b : E} : ∀ σ H Q, TZ X W C (.and a b) σ H Q → tAndV (TZ X W C a) (TZ X W C b) σ H Q := by
  intro σ H Q h
  obtain ⟨μ, S, ρ, A, En, h⟩ := h
  rw [evE] at h
  refine ⟨μ, S, ρ, A, En, h.bind fun d S1 μ1 v H1 g1 A1 r1 h1 => ?_⟩
  cases d <;> try exact h1.elim
  rename_i b
  simp only [Rep] at r1
  refine ⟨b, r1, ?_⟩
  cases b with
  | true => rw [if_pos rfl]; exact ⟨μ1, S1, ρ, A1, En.mono g1, h1⟩
  | false => rw [if_neg Bool.false_ne_true]; exact h1 μ1 _ H1 (Gr.refl _ _) A1 (by simp [Rep])
theorem z_orT {a b : E} : ∀ σ H Q, TZ X W C (.or a b) σ H Q → tOrV (TZ X W C a) (TZ X W C b) σ H Q := by
  intro σ H Q h
  obtain ⟨μ, S, ρ, A, En, h⟩ := h
  rw [evE] at h
  refine ⟨μ, S, ρ, A, En, h.bind fun d S1 μ1 v H1 g1 A1 r1 h1 => ?_⟩
  cases d <;> try exact h1.elim
  rename_i b
  simp only [Rep] at r1
  refine ⟨b, r1, ?_⟩
  cases b with
  | false => rw [if_neg Bool.false_ne_true]; exact ⟨μ1, S1, ρ, A1, En.mono g1, h1⟩
  | true => rw [if_pos rfl]; exact h1 μ1 _ H1 (Gr.refl _ _) A1 (by simp [Rep])
theorem z_andB {a b : E} : ∀ σ H Q, BZ X W C (.and a b) σ H Q → tAnd (BZ X W C a) (BZ X W C b) σ H Q := by
  intro σ H Q h
  obtain ⟨μ, S, ρ, A, En, h⟩ := h
  rw [evE] at h
  refine ⟨μ, S, ρ, A, En, h.bind fun d S1 μ1 v H1 g1 A1 r1 h1 => ?_⟩
  cases d <;> try exact h1.elim
  rename_i b
  simp only [Rep] at r1
  refine ⟨b, r1, ?_⟩
  cases b with
  | true => rw [if_pos rfl]; exact ⟨μ1, S1, ρ, A1, En.mono g1, h1⟩
  | false =>
    rw [if_neg Bool.false_ne_true]
    obtain ⟨c, e, q⟩ := h1 μ1 (.bl false) H1 (Gr.refl _ _) A1 (by simp [Rep])
    cases e
    exact q
theorem z_orB {a b : E} : ∀ σ H Q, BZ X W C (.or a b) σ H Q → tOr (BZ X W C a) (BZ X W C b) σ H Q := by
  intro σ H Q h
  obtain ⟨μ, S, ρ, A, En, h⟩ := h
  rw [evE] at h
  refine ⟨μ, S, ρ, A, En, h.bind fun d S1 μ1 v H1 g1 A1 r1 h1 => ?_⟩
  cases d <;> try exact h1.elim
  rename_i b
  simp only [Rep] at r1
  refine ⟨b, r1, ?_⟩
  cases b with
  | false => rw [if_neg Bool.false_ne_true]; exact ⟨μ1, S1, ρ, A1, En.mono g1, h1⟩
  | true =>
    rw [if_pos rfl]
    obtain ⟨c, e, q⟩ := h1 μ1 (.bl true) H1 (Gr.refl _ _) A1 (by simp [Rep])
    cases e
    exact q
theorem z_and2 {a b : E} {x y : Expr} {pos : Pos} (ha : Snd X W C a x) (hb : Snd X W C b y) : Snd X W C (.and a b) (.BoolOp .And [x, y] pos) :=
  have w : PW X (.BoolOp .And [x, y] pos) (BZ X W C (.and a b)) := pwI (pw_and ha.pt (pw_and1 hb.pt)) z_andB
  ⟨peI (pe_and ha.pe (pe_one hb.pe)) z_andT, w.pt, fun _ => w⟩
theorem z_and3 {a b : E} {x y z : Expr} {r : List Expr} {pos : Pos} (ha : Snd X W C a x) (hb : Snd X W C b (.BoolOp .And (y :: z :: r) pos)) : Snd X W C (.and a b) (.BoolOp .And (x :: y :: z :: r) pos) :=
  have w : PW X (.BoolOp .And (x :: y :: z :: r) pos) (BZ X W C (.and a b)) := pwI (pw_and ha.pt (hb.pw rfl)) z_andB
  ⟨peI (pe_and ha.pe hb.pe) z_andT, w.pt, fun _ => w⟩
theorem z_or2 {a b : E} {x y : Expr} {pos : Pos} (ha : Snd X W C a x) (hb : Snd X W C b y) : Snd X W C (.or a b) (.BoolOp .Or [x, y] pos) :=
  have w : PW X (.BoolOp .Or [x, y] pos) (BZ X W C (.or a b)) := pwI (pw_or ha.pt (pw_or1 hb.pt)) z_orB
  ⟨peI (pe_or ha.pe (pe_one hb.pe)) z_orT, w.pt, fun _ => w⟩
theorem z_or3 {a b : E} {x y z : Expr} {r : List Expr} {pos : Pos} (ha : Snd X W C a x) (hb : Snd X W C b (.BoolOp .Or (y :: z :: r) pos)) : Snd X W C (.or a b) (.BoolOp .Or (x :: y :: z :: r) pos) :=
  have w : PW X (.BoolOp .Or (x :: y :: z :: r) pos) (BZ X W C (.or a b)) := pwI (pw_or ha.pt (hb.pw rfl)) z_orB
  ⟨peI (pe_or ha.pe hb.pe) z_orT, w.pt, fun _ => w⟩
theorem z_not {a : E} {x : Expr} {pos : Pos} (ha : Snd X W C a x) : Snd X W C (.not a) (.UnaryOp .Not x pos) := by
  refine ⟨peI (pe_not ha.pe) fun σ H Q h => ?_, ptI (pt_not ha.pt) fun σ H Q h => ?_, fun z => nomatch z⟩
  · obtain ⟨μ, S, ρ, A, En, h⟩ := h
    rw [evE] at h
    refine ⟨μ, S, ρ, A, En, h.bind fun d S1 μ1 v H1 g1 A1 r1 h1 => ?_⟩
    cases d <;> try exact h1.elim
    rename_i b
    simp only [Rep] at r1
    exact ⟨b, r1, h1 μ1 _ H1 (Gr.refl _ _) A1 (by simp [Rep])⟩
  · obtain ⟨μ, S, ρ, A, En, h⟩ := h
    rw [evE] at h
    refine ⟨μ, S, ρ, A, En, h.bind fun d S1 μ1 v H1 g1 A1 r1 h1 => ?_⟩
    cases d <;> try exact h1.elim
    rename_i b
    simp only [Rep] at r1
    refine ⟨b, r1, ?_⟩
    obtain ⟨c, e, q⟩ := h1 μ1 (.bl (!b)) H1 (Gr.refl _ _) A1 (by simp [Rep])
    cases e
    exact q
theorem pt_ifE {c a b : Expr} {tc ta tb : TT} {pos : Pos} (hc : PT X c tc) (ha : PT X a ta) (hb : PT X b tb) : PT X (.IfExp c a b pos) (fun σ H Q => tc σ H fun k H1 => if k = true then ta σ H1 Q else tb σ H1 Q) := by
  refine ⟨fun pins s σ H Q I h => ?_⟩
  refine isTrue_IfExp (thn (hc.run pins s σ H _ I h) fun d s1 ⟨H1, I1, q1⟩ => ?_)
  cases d with
  | true => exact ha.run pins s1 σ H1 Q I1 q1
  | false => exact hb.run pins s1 σ H1 Q I1 q1
theorem z_ife {c a b : E} {x y z : Expr} {pos : Pos} (hc : Snd X W C c x) (ha : Snd X W C a y) (hb : Snd X W C b z) : Snd X W C (.ife c a b) (.IfExp x y z pos) := by
  refine ⟨peI (pe_ifExp hc.pt ha.pe hb.pe) fun σ H Q h => ?_, ptI (pt_ifE hc.pt ha.pt hb.pt) fun σ H Q h => ?_, fun z => nomatch z⟩
  · obtain ⟨μ, S, ρ, A, En, h⟩ := h
    rw [evE] at h
    refine ⟨μ, S, ρ, A, En, h.bind fun d S1 μ1 v H1 g1 A1 r1 h1 => ?_⟩
    cases d <;> try exact h1.elim
    rename_i b
    simp only [Rep] at r1
    refine ⟨b, r1, ?_⟩
    cases b with
    | true => rw [if_pos rfl]; exact ⟨μ1, S1, ρ, A1, En.mono g1, h1⟩
    | false => rw [if_neg Bool.false_ne_true]; exact ⟨μ1, S1, ρ, A1, En.mono g1, h1⟩
  · obtain ⟨μ, S, ρ, A, En, h⟩ := h
    rw [evE] at h
    refine ⟨μ, S, ρ, A, En, h.bind fun d S1 μ1 v H1 g1 A1 r1 h1 => ?_⟩
    cases d <;> try exact h1.elim
    rename_i b
    simp only [Rep] at r1
    refine ⟨b, r1, ?_⟩
    cases b with
    | true => rw [if_pos rfl]; exact ⟨μ1, S1, ρ, A1, En.mono g1, h1⟩
    | false => rw [if_neg Bool.false_ne_true]; exact ⟨μ1, S1, ρ, A1, En.mono g1, h1⟩
/-! ### displays, attributes, subscripts, slices -/
theorem z_tup {es : Es} {l : List Expr} {j : Nat} {pos : Pos} (h : PA X l (LZ X W C es)) : PE X (.Tuple l j pos) (TZ X W C (.tup es)) := by
  refine peI (pe_tup h) fun σ H Q h => ?_
  obtain ⟨μ, S, ρ, A, En, h⟩ := h
  rw [evE] at h
  refine ⟨μ, S, ρ, A, En, RZL.bind h fun ds S1 μ1 vs H1 g1 A1 r1 h1 => ?_⟩
  split at h1
  · rename_i hl
    exact ⟨by rw [← LINE_eq, ← r1.length]; exact hl, fun p hp => OkV.tup A1 (h1.okV fun _ _ _ z => nomatch z) r1 hp⟩
  · exact h1.elim
theorem z_lst {es : Es} {l : List Expr} {pos : Pos} (h : PA X l (LZ X W C es)) : PE X (.List l pos) (TZ X W C (.lst es)) := by
  refine peI (pe_lst h) fun σ H Q h => ?_
  obtain ⟨μ, S, ρ, A, En, h⟩ := h
  rw [evE] at h
  refine ⟨μ, S, ρ, A, En, RZL.bind h fun ds S1 μ1 vs H1 g1 A1 r1 h1 => ?_⟩
  split at h1
  · rename_i hl
    exact ⟨by rw [← LINE_eq, ← r1.length]; exact hl, fun p hp => OkV.lst A1 (h1.okV fun _ _ _ z => nomatch z) r1 hp⟩
  · exact h1.elim
theorem RepF.look {K : PySem.W.Frag} {mg : MG} {μ : List Addr} {H : Hp} : ∀ {fs : List (Str × D)} {gs : List (Str × V)} {f : Str}, RepF K mg μ H fs gs →
    (fs.lookup f = none → gs.lookup f = none) ∧ ∀ d, fs.lookup f = some d → ∃ v, gs.lookup f = some v ∧ Rep K mg μ H d v
  | [], gs, f, h => by
    simp only [RepF] at h
    subst h
    exact ⟨fun _ => rfl, fun d e => by simp at e⟩
  | (g, d) :: fs, gs, f, h => by
    simp only [RepF] at h
    obtain ⟨y, ys, rfl, r, q⟩ := h
    have ih := RepF.look (f := f) q
    cases hf : (f == g) with
    | true =>
      refine ⟨fun z => ?_, fun d' e => ?_⟩
      · simp only [List.lookup, hf] at z
        cases z
      · simp only [List.lookup, hf] at e ⊢
        cases e
        exact ⟨y, rfl, r⟩
    | false =>
      simp only [List.lookup, hf]
      exact ih
theorem getF_ok {K : PySem.W.Frag} {mg : MG} {μ : List Addr} {H : Hp} {S : Sto} {x d : D} {v : V} {f : Str} (A : AbS K mg μ S H) (r : Rep K mg μ H x v) (h : getF S x f = some d) :
    ∃ a C dx gs w, v = .ref a ∧ H a = some (.ins C dx gs) ∧ ClsZ K C ∧ gs.lookup f = some w ∧ Rep K mg μ H d w := by
  unfold getF at h
  split at h
  · rename_i n
    simp only [Rep] at r
    obtain ⟨a, e, rfl⟩ := r
    split at h
    · rename_i c fs hs
      obtain ⟨Ca, dx, gs, h1, h2, ⟨h3, h4⟩, h5⟩ := A.ob n a _ e hs
      obtain ⟨w, h6, h7⟩ := (RepF.look (f := f) h5).2 d h
      exact ⟨a, Ca, dx, gs, w, rfl, h1, h4, h6, h7⟩
    · cases h
  · cases h
theorem z_att {a : E} {f : Str} {x : Expr} {pos : Pos} (ha : PE X x (TZ X W C a)) (hf : ATTRS.contains f = true) (hs : noSuper x = true) : PE X (.Attribute x f pos) (TZ X W C (.att a f)) := by
  refine peI (pe_fld ha (base_of hs)) fun σ H Q h => ?_
  obtain ⟨μ, S, ρ, A, En, h⟩ := h
  rw [evE] at h
  refine ⟨μ, S, ρ, A, En, h.bind fun d S1 μ1 v H1 g1 A1 r1 h1 => ?_⟩
  cases hg : getF S1 d f with
  | none => rw [hg] at h1; exact h1.elim
  | some d' =>
    rw [hg] at h1
    obtain ⟨a, Ca, dx, gs, w, e1, e2, e3, e4, e5⟩ := getF_ok A1 r1 hg
    exact ⟨a, Ca, dx, gs, w, e1, e2, e3.cls, e3.no f hf, e4, h1 μ1 w H1 (Gr.refl _ _) A1 e5⟩
theorem z_idx (hy : Hyp X W C k) {a i : E} {x y : Expr} {pos : Pos} (ha : PE X x (TZ X W C a)) (hi : PE X y (TZ X W C i)) (hs : noSlice y = true) : PE X (.Subscript x y pos) (TZ X W C (.idx a i)) := by
  refine peI (pe_ix (ix_get C hy.gd) ha hi (ix_of hs)) fun σ H Q h => ?_
  obtain ⟨μ, S, ρ, A, En, h⟩ := h
  rw [evE] at h
  exact ⟨μ, S, ρ, A, En, h.bind fun d S1 μ1 v H1 g1 A1 r1 h1 => ⟨μ1, S1, ρ, A1, En.mono g1, h1.bind fun e S2 μ2 w H2 g2 A2 r2 h2 => ⟨μ2, S2, d, e, A2, r1.mono g2, r2, h2.okV (get_nx _ _ _ _)⟩⟩⟩
theorem z_sl {a : E} {lo hi : Op} {x : Expr} {l h : Option Expr} {p2 pos : Pos} (ha : PE X x (TZ X W C a)) (hl : PO X l (tO X.K X.mg W C lo)) (hh : PO X h (tO X.K X.mg W C hi)) : PE X (.Subscript x (.Slice l h none p2) pos) (TZ X W C (.sl a lo hi)) := by
  refine peI (pe_slice sl_slc ha hl hh) fun σ H Q h => ?_
  obtain ⟨μ, S, ρ, A, En, h⟩ := h
  rw [evE] at h
  refine ⟨μ, S, ρ, A, En, h.bind fun d S1 μ1 v H1 g1 A1 r1 h1 => ⟨μ1, S1, ρ, A1, En.mono g1, h1.bindE fun e S2 μ2 w H2 q2 g2 A2 r2 h2 => ?_⟩⟩
  obtain ⟨o, eo, so⟩ := optI_rep r2 (evO_shape q2)
  refine ⟨o, eo, μ2, S2, ρ, A2, (En.mono g1).mono g2, h2.bindE fun f S3 μ3 u H3 q3 g3 A3 r3 h3 => ?_⟩
  obtain ⟨o', eo', so'⟩ := optI_rep r3 (evO_shape q3)
  refine ⟨o', eo', μ3, S3, d, A3, r1.mono (g2.trans g3), ?_⟩
  rcases so with ⟨rfl, rfl⟩ | ⟨i, rfl, rfl⟩ <;> rcases so' with ⟨rfl, rfl⟩ | ⟨j, rfl, rfl⟩ <;> exact h3.okV (slc_nx _ _ _ _)
theorem z_no : PO X none (tO X.K X.mg W C .no) := by
  refine ⟨fun pins s σ H Q I h => po_none.run pins s σ H Q I ?_⟩
  obtain ⟨μ, S, ρ, A, En, h⟩ := h
  rw [evO] at h
  obtain ⟨o, e, q⟩ := h μ .non H (Gr.refl _ _) A (by simp [Rep])
  cases e
  exact q
theorem z_so {e : E} {x : Expr} (h : PE X x (TZ X W C e)) : PO X (some x) (tO X.K X.mg W C (.so e)) := by
  refine ⟨fun pins s σ H Q I q => (po_some h).run pins s σ H Q I ?_⟩
  obtain ⟨μ, S, ρ, A, En, q⟩ := q
  rw [evO] at q
  refine ⟨μ, S, ρ, A, En, q.bind fun d S1 μ1 v H1 g1 A1 r1 h1 => ?_⟩
  cases d <;> try exact h1.elim
  rename_i i
  simp only [Rep] at r1
  obtain ⟨o, e, q⟩ := h1 μ1 (.int i) H1 (Gr.refl _ _) A1 (by simp [Rep])
  cases e
  exact ⟨i, r1, q⟩
/-! ### argument lists -/
theorem z_nil : PA X [] (LZ X W C .nil) := by
  refine paI pa_nil fun σ H Q h => ?_
  obtain ⟨μ, S, ρ, A, En, h⟩ := h
  rw [evL] at h
  exact h μ [] H (Gr.refl _ _) A .nil
theorem z_cons {e : E} {r : Es} {x : Expr} {xs : List Expr} (h : PE X x (TZ X W C e)) (hr : PA X xs (LZ X W C r)) (hs : noStar x = true) : PA X (x :: xs) (LZ X W C (.cons e r)) := by
  refine paI (pa_cons h hr (star_of hs)) fun σ H Q h => ?_
  obtain ⟨μ, S, ρ, A, En, h⟩ := h
  rw [evL] at h
  refine ⟨μ, S, ρ, A, En, RZ.bindL h fun d S1 μ1 v H1 g1 A1 r1 h1 => ⟨μ1, S1, ρ, A1, En.mono g1, RZL.bindL h1 fun ds S2 μ2 vs H2 g2 A2 r2 h2 => ?_⟩⟩
  exact h2 μ2 _ H2 (Gr.refl _ _) A2 (.cons (r1.mono g2) r2)
/-! ### built-in functions, isinstance, methods of built-in types -/
theorem bi_free {b : BI} : biN b ∈ freeNames := by cases b <;> decide
theorem biN_ok (b : BI) : biN b ≠ "__name__" ∧ (biN b == ("__debug__" : Str)) = false := by cases b <;> decide
theorem z_bi (hy : Hyp X W C k) {b : BI} {es : Es} {e : Expr} {xs : List Expr} {p pos : Pos} (hg : Gl X (biN b)) (hs : allNoStar (e :: xs) = true) (ha : PA X (e :: xs) (LZ X W C es)) : PE X (.Call (.Name (biN b) p) (e :: xs) [] pos) (TZ X W C (.bi b es)) := by
  have hm := hy.free _ (bi_free (b := b))
  simp only [allNoStar, Bool.and_eq_true] at hs
  have key : ∀ σ H Q, TZ X W C (.bi b es) σ H Q → tCB (rZL X.K X.mg (bi b)) (LZ X W C es) σ H Q := by
    intro σ H Q h
    obtain ⟨μ, S, ρ, A, En, h⟩ := h
    rw [evE] at h
    exact ⟨μ, S, ρ, A, En, RZL.bind h fun ds S1 μ1 vs H1 g1 A1 r1 h1 => ⟨μ1, S1, ds, A1, r1, h1.okV (bi_nx _ _ _)⟩⟩
  have hc := call_bi (X := X) b hy.calm hy.room.g hy.room.r.units
  have hb := biN_boot b
  have hn := biN_ok b
  have fin : ∀ {id : String}, biV b = .builtin id → PE X (.Call (.Name (biN b) p) (e :: xs) [] pos) (TZ X W C (.bi b es)) := fun {id} q =>
    peI (pe_callB (id := id) (by rw [← q]; exact hc) hg hm (by rw [← q]; exact hb) ha hn.1 hn.2 (star_of hs.1) (plain_of hs.2)) key
  have fin2 : ∀ {id : String}, biV b = .type id → PE X (.Call (.Name (biN b) p) (e :: xs) [] pos) (TZ X W C (.bi b es)) := fun {id} q =>
    peI (pe_callTy (T := id) (by rw [← q]; exact hc) hg hm (by rw [← q]; exact hb) ha hn.1 hn.2 (star_of hs.1) (plain_of hs.2)) key
  cases b <;> first | exact fin rfl | exact fin2 rfl
theorem ty_boot (c : TY) : bootBuiltins (PySem.Str.ofString c.nm) = some (.type c.nm) := by cases c <;> decide +kernel
theorem ty_free (c : TY) : PySem.Str.ofString c.nm ∈ freeNames := by cases c <;> decide
theorem ty_ok (c : TY) : PySem.Str.ofString c.nm ≠ "__name__" ∧ (PySem.Str.ofString c.nm == ("__debug__" : Str)) = false := by cases c <;> decide
theorem isTyN_of (hy : Hyp X W C k) {t : Expr} {c : TY} (h : isTyN X.env.scope t c = true) : PE X t (tC (.ty c.nm)) ∧ noStar t = true := by
  unfold isTyN at h
  split at h
  · simp only [Bool.and_eq_true, decide_eq_true_eq] at h
    obtain ⟨rfl, hg⟩ := h
    exact ⟨pe_bltn (gl_of hg) (hy.free _ (ty_free c)) (ty_boot c) rfl (ty_ok c).1 (ty_ok c).2, rfl⟩
  · cases h
def tTys : List TY → TA
  | [] => tNil
  | c :: r => tCons (tC (.ty c.nm)) (tTys r)
theorem tysN_of (hy : Hyp X W C k) : ∀ {ts : List Expr} {cs : List TY}, tysN X.env.scope ts cs = true → PA X ts (tTys cs)
  | [], [], _ => pa_nil
  | t :: ts, c :: cs, h => by
    simp only [tysN, Bool.and_eq_true] at h
    obtain ⟨h1, h2⟩ := isTyN_of hy h.1
    exact pa_cons h1 (tysN_of hy h.2) (star_of h2)
  | [], _ :: _, h => by cases h
  | _ :: _, [], h => by cases h
theorem tTys_run : ∀ (cs : List TY) (σ : L2.St) (H : Hp) (Q : List V → Hp → Prop), Q (cs.map fun c => .ty c.nm) H → tTys cs σ H Q
  | [], _, _, _, h => h
  | c :: r, σ, H, Q, h => tTys_run r σ H _ h
theorem z_isi1 (hy : Hyp X W C k) {a : E} {c : TY} {x t : Expr} {p pos : Pos} (hg : Gl X "isinstance") (ha : PE X x (TZ X W C a)) (hs : noStar x = true) (ht : isTyN X.env.scope t c = true) : PE X (.Call (.Name "isinstance" p) [x, t] [] pos) (TZ X W C (.isi a [c])) := by
  obtain ⟨h1, h2⟩ := isTyN_of hy ht
  refine peI (pe_callB (call_isiZ c) hg (hy.free _ (by decide)) boot_isinstance (pa_cons ha (pa_cons h1 pa_nil (star_of h2)) (star_of hs)) (by decide) (by decide) (star_of hs) (plain_of (es := [t]) (by simp [allNoStar, h2]))) fun σ H Q h => ?_
  obtain ⟨μ, S, ρ, A, En, h⟩ := h
  rw [evE] at h
  exact ⟨μ, S, ρ, A, En, h.bind fun d S1 μ1 v H1 g1 A1 r1 h1 => ⟨v, rfl, μ1, S1, d, A1, r1, h1.okV (isi_nx _ _ _)⟩⟩
theorem z_isiT (hy : Hyp X W C k) {a : E} {cs : List TY} {x : Expr} {ts : List Expr} {j : Nat} {p p2 pos : Pos} (hg : Gl X "isinstance") (ha : PE X x (TZ X W C a)) (hs : noStar x = true) (hl : cs.length ≤ 100) (ht : tysN X.env.scope ts cs = true) : PE X (.Call (.Name "isinstance" p) [x, .Tuple ts j p2] [] pos) (TZ X W C (.isi a cs)) := by
  refine peI (pe_callB (call_isiTZ cs) hg (hy.free _ (by decide)) boot_isinstance (pa_cons ha (pa_cons (pe_tup (tysN_of hy ht)) pa_nil (by rfl)) (star_of hs)) (by decide) (by decide) (star_of hs) (plain_of (es := [.Tuple ts j p2]) rfl)) fun σ H Q h => ?_
  obtain ⟨μ, S, ρ, A, En, h⟩ := h
  rw [evE] at h
  refine ⟨μ, S, ρ, A, En, h.bind fun d S1 μ1 v H1 g1 A1 r1 h1 => ?_⟩
  refine tTys_run cs σ H1 _ ⟨?_, fun q hq => ⟨v, q, rfl, upd_same, μ1, S1, d, A1.ext (Ext.new hq), r1.mono (Gr.ext (Ext.new hq)), ?_⟩⟩
  · rw [List.length_map, sizeLine_eq]; omega
  · have h2 := RZ.gr (Gr.ext (μ := μ1) (Ext.new (o := .tup (cs.map fun c => V.ty c.nm)) hq)) h1
    exact h2.okV (isi_nx _ _ _)
end
end Z
set_option maxHeartbeats 4000000
/-! Z8: calls of own defs, methods, makings -/
namespace Z
open PySem PySem.Spec PyProof.Rows L2
section
variable {X : Cx} {W : WX} {C : Ev} {k : Nat}
theorem RoomG.mono {j k : Nat} {A : Around} (h : RoomG k A) (hj : j ≤ k) : RoomG j A := ⟨h.r.mono hj, h.g⟩
theorem make_guards {A : Around} {c : Addr} {us : List Value} {kw : List (Str × Value)} : (A.under (.builtin "type.__call__" ⟨.ref c :: us, kw⟩)).guards = A.guards := by
  first | rfl | simp [Around.under, Code.weight, Code.isCreation, Code.isGuard, Code.isCaller, Code.frames, Code.isFrame, guardIds]
theorem RoomG.make {A : Around} (r : RoomG (k + 1) A) (c : Addr) (us : List Value) (kw : List (Str × Value)) : RoomG k (A.under (.builtin "type.__call__" ⟨.ref c :: us, kw⟩)) := ⟨r.r.make c us kw, by rw [make_guards]; exact r.g⟩
theorem RoomG.deeper {A : Around} (r : RoomG (k + 1) A) (env : Env) : RoomG k (A.deeper env) := ⟨r.r.deeper env, r.g⟩
theorem RZ.rf {K : PySem.W.Frag} {mg : MG} {μ : List Addr} {σ : L2.St} {H : Hp} {r : R} {Q : VK} (h : RZ K mg W μ σ H r Q) : RF K mg μ H r Q (fun cls dd H' => W cls dd σ H') := by
  cases r with
  | ok d S => exact h
  | ex c fs S => exact h
  | st => exact h
/-- the callee runs -/
theorem run_callZ (hy : Hyp X W C k) {j : Nat} (hj : j ≤ k) {cf : List D → List (Str × D) → Sto → R} {f : Addr} (F : CallOk X.prog X.w X.K X.mg X.base j cf f) {pins : List (Addr × Obj)} {σ : L2.St} {H : Hp} {s : Shared} {Q : VK} {us ws : List Value} {ks : List Str} {vs zs : List V} {μ : List Addr} {S : Sto} {ds es : List D}
    (I : Inv X pins σ H s) (A : AbS X.K X.mg μ S H) (r : Vals vs us) (rd : Reps X.K X.mg μ H ds vs) (r2 : Vals zs ws) (re : Reps X.K X.mg μ H es zs) (hk : ks.length = ws.length) (h : RZ X.K X.mg W μ σ H (cf ds (ks.zip es) S) Q) :
    wpAny (model X.prog X.w) X.A (call (.ref f) us (ks.zip ws)) (EP X pins σ Q) X.xe s := by
  refine wpAny_call (codeAny_mono (F.run X.A X.stack s H us ks ws vs zs Q (fun cls dd H' => W cls dd σ H') (hy.room.mono hj) I.env0 r r2 hk ⟨μ, S, ds, es, A, rd, re, h.rf⟩) fun r s' hq => ?_)
  cases r with
  | error e => exact hy.tk e s' (XE.of_call I (fun _ _ _ z => z) hq)
  | ok fl =>
    cases fl with
    | ret u => exact I.after hq
    | next => exact False.elim hq
    | brk => exact False.elim hq
    | cont => exact False.elim hq
theorem run_callZ0 (hy : Hyp X W C k) {j : Nat} (hj : j ≤ k) {cf : List D → List (Str × D) → Sto → R} {f : Addr} (F : CallOk X.prog X.w X.K X.mg X.base j cf f) {pins : List (Addr × Obj)} {σ : L2.St} {H : Hp} {s : Shared} {Q : VK} {us : List Value} {vs : List V} {μ : List Addr} {S : Sto} {ds : List D}
    (I : Inv X pins σ H s) (A : AbS X.K X.mg μ S H) (r : Vals vs us) (rd : Reps X.K X.mg μ H ds vs) (h : RZ X.K X.mg W μ σ H (cf ds [] S) Q) :
    wpAny (model X.prog X.w) X.A (call (.ref f) us) (EP X pins σ Q) X.xe s := run_callZ (ks := []) (es := []) (zs := []) (ws := []) hy hj F I A r rd .nil .nil rfl h
/-- the arguments, then the call -/
theorem callW {f : Value} {es : Es} {l : List Expr} {pos : Pos} {first : List Value} {pins : List (Addr × Obj)} {σ : L2.St} {H : Hp} {s : Shared} {Q : Value → Shared → Prop} {R : List V → Hp → Prop} (hk : PySem.W.keepIn X.K f = true) (hs : allNoStar l = true) (hn : l = [] → es = .nil) (ha : PA X l (LZ X W C es))
    (I : Inv X pins σ H s) (h : LZ X W C es σ H R) (fin : ∀ vs us H1 s1, Inv X pins σ H1 s1 → Vals vs us → R vs H1 → wpAny (model X.prog X.w) X.A (call f (first ++ us)) Q X.xe s1) :
    wpAny (model X.prog X.w) X.A (callWith pos f first (backTo pos (starEach l X.env)) (backToKw pos (keywordEach [] X.env))) Q X.xe s := by
  cases l with
  | nil =>
    obtain ⟨μ, S, ρ, A, En, h⟩ := h
    rw [hn rfl, evL] at h
    exact PySem.W.callWith_K0 I.kIn hk (fin [] [] H s I .nil (h μ [] H (Gr.refl _ _) A .nil))
  | cons e r =>
    simp only [allNoStar, Bool.and_eq_true] at hs
    exact PySem.W.callWith_K (h₀ := X.base) I.ok.mod.kin hk (thn (ha.run pos pins s σ H _ I h) fun us s1 ⟨vs, H1, I1, r, q⟩ => ⟨I1.kIn, fin vs us H1 s1 I1 r q⟩) (star_of hs.1) (plain_of hs.2)
theorem z_call (hy : Hyp X W C k) {f : Str} {es : Es} {l : List Expr} {p pos : Pos} (hg : Gl X f) (ok : OkN f) (hs : allNoStar l = true) (hn : l = [] → es = .nil) (ha : PA X l (LZ X W C es)) : PE X (.Call (.Name f p) l [] pos) (TZ X W C (.call f es)) := by
  refine ⟨fun pins s σ H Q I h => ?_⟩
  obtain ⟨μ, S, ρ, A, En, h⟩ := h
  rw [evE] at h
  split at h
  · rename_i hf
    obtain ⟨a, hm, hk, F⟩ := hy.cf f hf
    refine wpAny_Call_Name_kw (ld_glob I hg hm ?_ ok.db)
    exact callW (first := []) hk hs hn ha I ⟨μ, S, ρ, A, En, RZL.bind h fun ds S1 μ1 vs H1 g1 A1 r1 h1 => (⟨μ1, S1, ds, A1, r1, h1⟩ : ∃ μ1 S1 ds, AbS X.K X.mg μ1 S1 H1 ∧ Reps X.K X.mg μ1 H1 ds vs ∧ RZ X.K X.mg W μ1 σ H1 (C.cf Str.empty f ds [] S1) Q)⟩
      fun vs us H1 s1 I1 r ⟨μ1, S1, ds, A1, r1, h1⟩ => run_callZ0 hy (Nat.le_refl _) F I1 A1 r r1 h1
  · exact h.elim
/-- a def in a local name -/
theorem z_calv (hy : Hyp X W C k) {i : Nat} {x : Str} {es : Es} {l : List Expr} {p pos : Pos} (hN : X.N[i]? = some x) (hv : Vis X.env.scope x) (ok : OkN x) (hs : allNoStar l = true) (hn : l = [] → es = .nil) (ha : PA X l (LZ X W C es)) : PE X (.Call (.Name x p) l [] pos) (TZ X W C (.calv i es)) := by
  refine ⟨fun pins s σ H Q I h => ?_⟩
  obtain ⟨μ, S, ρ, A, En, h⟩ := h
  rw [evE] at h
  split at h
  · rename_i f hd
    obtain ⟨v, e, r⟩ := En.at_ i _ hd
    simp only [Rep] at r
    obtain ⟨a', hm', rfl⟩ := r
    split at h
    · rename_i hf
      obtain ⟨a, hm, hk, F⟩ := hy.cf f hf
      obtain rfl : a' = a := by rw [hm] at hm'; injection hm' with e3; injection e3 with e4; exact e4.symm
      refine wpAny_Call_Name_kw (thn ((pe_var hN hv ok.db ok.cd).run pins s σ H (fun u H' => u = .ref a' ∧ AbS X.K X.mg μ S H' ∧ EnvR X.K X.mg μ H' ρ σ ∧ RZ X.K X.mg W μ σ H' ((evL C es ρ S).bind fun ds S1 => C.cf Str.empty f ds [] S1) Q) I ⟨.ref a', e, rfl, A, En, h⟩) fun u s1 ⟨v1, H0, I1, rv, hv, A, En, h⟩ => ?_)
      subst hv
      cases rv
      exact callW (first := []) hk hs hn ha I1 ⟨μ, S, ρ, A, En, RZL.bind h fun ds S1 μ1 vs H1 g1 A1 r1 h1 => (⟨μ1, S1, ds, A1, r1, h1⟩ : ∃ μ1 S1 ds, AbS X.K X.mg μ1 S1 H1 ∧ Reps X.K X.mg μ1 H1 ds vs ∧ RZ X.K X.mg W μ1 σ H1 (C.cf Str.empty f ds [] S1) Q)⟩
        fun vs us H1 s1 I1 r ⟨μ1, S1, ds, A1, r1, h1⟩ => run_callZ0 hy (Nat.le_refl _) F I1 A1 r r1 h1
    · exact h.elim
  · exact h.elim
theorem call_form {l : List Expr} {env : Env} {pos : Pos} (hs : allNoStar l = true) (hl : l.length < 30) : methodCallForm (l.length + ([] : List Keyword).length) (backTo pos (starEach l env)) (backToKw pos (keywordEach [] env)) = true := by
  have := few_of (pos := pos) (env := env) hs hl
  unfold methodCallForm
  simp only [backToKw, keywordEach] at this ⊢
  simpa using this
theorem z_met (hy : Hyp X W C k) {o : E} {m : Str} {es : Es} {e : Expr} {l : List Expr} {apos pos : Pos} (ho : PE X e (TZ X W C o)) (hb : noSuper e = true) (hline : (apos.endLine == pos.line) = true) (hs : allNoStar l = true) (hl : l.length < 30) (hn : l = [] → es = .nil) (ha : PA X l (LZ X W C es)) :
    PE X (.Call (.Attribute e m apos) l [] pos) (TZ X W C (.met o m es)) := by
  refine ⟨fun pins s σ H Q I h => ?_⟩
  obtain ⟨μ, S, ρ, A, En, h⟩ := h
  rw [evE] at h
  refine methcall_of (pl := plainOf e X.env) ho I ⟨μ, S, ρ, A, En, RZ.bind h fun d S1 μ1 v H1 g1 A1 r1 h1 => ?_⟩ (mcall_of (base_of hb) fun ov => mcall_line (call_form hs hl) hline)
  split at h1
  · rename_i c hc hf
    split at h1
    · rename_i hfn
      unfold clsOf at hc
      split at hc
      · rename_i n
        have r1' := r1
        simp only [Rep] at r1
        obtain ⟨a, e1, rfl⟩ := r1
        split at hc
        · rename_i c' fs hS
          cases hc
          obtain ⟨Ca, dx, gs, h2, h3, ⟨h4, h5⟩, h6⟩ := A1.ob n a _ e1 hS
          obtain ⟨f, M, F⟩ := hy.ins c Ca m h4 h5 hfn
          have hl0 : fs.lookup m = none := by
            simp only [getF, hS] at hf
            exact hf
          refine ⟨a, Ca, dx, gs, f, rfl, h2, h5.cls, M, (RepF.look h6).1 hl0, fun s1 I1 => ?_⟩
          exact callW (first := [.ref a]) M.kp hs hn ha I1 ⟨μ1, S1, ρ, A1, En.mono g1, RZL.bind h1 fun ds S2 μ2 vs H2 g2 A2 r2 h7 => (⟨μ2, S2, ds, A2, r1'.mono g2, r2, h7⟩ : ∃ μ2 S2 ds, AbS X.K X.mg μ2 S2 H2 ∧ Rep X.K X.mg μ2 H2 (.ref n) (.ref a) ∧ Reps X.K X.mg μ2 H2 ds vs ∧ RZ X.K X.mg W μ2 σ H2 (C.cf c m (.ref n :: ds) [] S2) Q)⟩
            fun vs us H2 s2 I2 r ⟨μ2, S2, ds, A2, rr, r2, h7⟩ => run_callZ0 (us := .ref a :: us) (vs := .ref a :: vs) hy (Nat.le_refl _) F I2 A2 (.cons rfl r) (.cons rr r2) h7
        · cases hc
      · cases hc
    · exact h1.elim
  · exact h1.elim
theorem run_makeZ (hy : Hyp X W C k) {c : Str} {Ca f : Addr} (hm : X.mg c = some (.ref Ca)) (hz : ClsZ X.K Ca) (M : Mk X.K Ca f) {j : Nat} (hj : j + 1 ≤ k) {cf : List D → List (Str × D) → Sto → R} (F : CallOk X.prog X.w X.K X.mg X.base j cf f) {pins : List (Addr × Obj)} {σ : L2.St} {H : Hp} {s : Shared} {Q : VK} {us : List Value} {vs : List V} {μ : List Addr} {S : Sto} {ds : List D}
    (I : Inv X pins σ H s) (A : AbS X.K X.mg μ S H) (r : Vals vs us) (rd : Reps X.K X.mg μ H ds vs) (h : RZ X.K X.mg W μ σ H ((cf (.ref S.length :: ds) [] (S ++ [.ins c []])).bind fun x S2 => match x with
      | .non => .ok (.ref S.length) S2
      | _ => .st) Q) :
    wpAny (model X.prog X.w) X.A (call (.ref Ca) us) (EP X pins σ Q) X.xe s := by
  have f1 : H (s.heap.objs.size + 1) = none := I.hok.fresh (Nat.le_succ _)
  have f2 : H s.heap.objs.size = none := I.hok.fresh (Nat.le_refl _)
  have ne : s.heap.objs.size ≠ s.heap.objs.size + 1 := Nat.ne_of_lt (Nat.lt_succ_self _)
  have I2 := Inv.made (C := Ca) I
  have x1 : Ext H (upd H s.heap.objs.size (.own (s.heap.objs.size + 1))) := Ext.new f2
  have x2 : Ext (upd H s.heap.objs.size (.own (s.heap.objs.size + 1))) (upd (upd H s.heap.objs.size (.own (s.heap.objs.size + 1))) (s.heap.objs.size + 1) (.ins Ca s.heap.objs.size [])) := Ext.new (by rw [upd_ne (Ne.symm ne)]; exact f1)
  have xx := x1.trans x2
  have gg : Gr μ H (μ ++ [s.heap.objs.size + 1]) (upd (upd H s.heap.objs.size (.own (s.heap.objs.size + 1))) (s.heap.objs.size + 1) (.ins Ca s.heap.objs.size [])) := Gr.snoc xx
  have A2 := A.snoc (o := .ins c []) xx (A.notin f1) ⟨Ca, s.heap.objs.size, [], upd_same, by rw [upd_ne ne, upd_same], ⟨hm, hz⟩, by simp [RepF]⟩
  have r2 : Vals (V.ref (s.heap.objs.size + 1) :: vs) (Value.ref (s.heap.objs.size + 1) :: us) := .cons rfl r
  have rr : Rep X.K X.mg (μ ++ [s.heap.objs.size + 1]) (upd (upd H s.heap.objs.size (.own (s.heap.objs.size + 1))) (s.heap.objs.size + 1) (.ins Ca s.heap.objs.size [])) (.ref S.length) (.ref (s.heap.objs.size + 1)) := by
    simp only [Rep]
    exact ⟨_, by rw [← A.len]; simp, rfl⟩
  have rd2 := Reps.cons rr (rd.mono gg)
  have hr := (hy.room.mono hj).make Ca us []
  have h2 := RZ.gr gg h
  have h3 := h2.bind (Q' := fun v H2 => v = .non ∧ Q (.ref (s.heap.objs.size + 1)) H2) fun d S' μ' v H' g' A' rv hh => by
    cases d <;> try exact hh.elim
    simp only [Rep] at rv
    exact ⟨rv, hh μ' _ H' (Gr.refl _ _) A' (rr.mono g')⟩
  refine wpAny_call (make_map (f := f) I.kIn M.makes M.init (beq_iff_eq.mp M.fn) (codeAny_mono (F.run _ X.stack _ _ (Value.ref (s.heap.objs.size + 1) :: us) [] [] (V.ref (s.heap.objs.size + 1) :: vs) [] _ (fun cls dd H' => W cls dd σ H') hr (I2.env0.make Ca us []) r2 .nil rfl ⟨_, _, _, [], A2, rd2, .nil, h3.rf⟩) fun r s' hq' => ?_))
  cases r with
  | error e => exact hy.tk e s' (XE.of_call I2 (fun _ _ _ z => z) hq')
  | ok fl =>
    cases fl with
    | ret u =>
      obtain ⟨v, H', I3, rv, ev, q3⟩ := I2.after hq'
      subst ev
      exact ⟨rv, ⟨V.ref (s.heap.objs.size + 1), H', I3, rfl, q3⟩⟩
    | next => exact False.elim hq'
    | brk => exact False.elim hq'
    | cont => exact False.elim hq'
theorem z_mk (hy : Hyp X W C k) {c : Str} {es : Es} {l : List Expr} {p pos : Pos} (hg : Gl X c) (ok : OkN c) (hs : allNoStar l = true) (hn : l = [] → es = .nil) (ha : PA X l (LZ X W C es)) : PE X (.Call (.Name c p) l [] pos) (TZ X W C (.mk c es)) := by
  refine ⟨fun pins s σ H Q I h => ?_⟩
  obtain ⟨μ, S, ρ, A, En, h⟩ := h
  rw [evE] at h
  split at h
  · rename_i hf
    obtain ⟨Ca, f, hm, hz, M, hc⟩ := hy.make c hf
    refine wpAny_Call_Name_kw (ld_glob I hg hm ?_ ok.db)
    refine callW (first := []) M.kp hs hn ha I ⟨μ, S, ρ, A, En, RZL.bind h fun ds S1 μ1 vs H1 g1 A1 r1 h1 => (⟨μ1, S1, ds, A1, r1, h1⟩ : ∃ μ1 S1 ds, AbS X.K X.mg μ1 S1 H1 ∧ Reps X.K X.mg μ1 H1 ds vs ∧ RZ X.K X.mg W μ1 σ H1 ((C.cm c "__init__" (.ref S1.length :: ds) [] (S1 ++ [.ins c []])).bind fun x S2 => match x with
      | .non => .ok (.ref S1.length) S2
      | _ => .st) Q)⟩ fun vs us H1 s1 I1 r ⟨μ1, S1, ds, A1, r1, h1⟩ => ?_
    rcases hc with hc | ⟨j, hj, F⟩
    · rw [hc] at h1
      exact h1.elim
    · exact run_makeZ hy hm hz M hj F I1 A1 r r1 h1
  · exact h.elim
theorem kw_names {pos : Pos} {env : Env} : ∀ kws : List Keyword, (backToKw pos (keywordEach kws env)).map (·.1) = kws.map (·.arg)
  | [] => rfl
  | ⟨n, v, p⟩ :: r => by
    have ih := kw_names (pos := pos) (env := env) r
    simp only [keywordEach, backToKw, List.map_cons] at ih ⊢
    rw [ih]
theorem kw_all {pos : Pos} {env : Env} {kws : List Keyword} {ks : List Str} (h : kws.map (·.arg) = ks.map some) : (backToKw pos (keywordEach kws env)).all (·.1.isSome) = true := by
  have e := kw_names (pos := pos) (env := env) kws
  rw [h] at e
  rw [List.all_eq_true]
  intro q hq
  have : q.1 ∈ ks.map some := by rw [← e]; exact List.mem_map_of_mem (f := (·.1)) hq
  obtain ⟨n, _, hn⟩ := List.mem_map.mp this
  rw [← hn]
  rfl
theorem kw_any {pos : Pos} {env : Env} {kws : List Keyword} {ks : List Str} (h : kws.map (·.arg) = ks.map some) : (backToKw pos (keywordEach kws env)).any (·.1.isNone) = false := by
  have := kw_all (pos := pos) (env := env) h
  rw [List.any_eq_false]
  rw [List.all_eq_true] at this
  intro q hq
  have z := this q hq
  cases hh : q.1 with
  | none => rw [hh] at z; cases z
  | some v => simp
theorem filt_some {γ : Type} {ks : List Str} : ∀ {l : List (Option Str × γ)}, l.map (·.1) = ks.map some → l.filterMap (·.1) = ks := by
  induction ks with
  | nil => intro l h; cases l with
    | nil => rfl
    | cons a r => simp at h
  | cons k ks ih => intro l h; cases l with
    | nil => simp at h
    | cons a r =>
      simp only [List.map_cons, List.cons.injEq] at h
      rw [List.filterMap_cons, h.1]
      simp only
      rw [ih h.2]
theorem z_callk (hy : Hyp X W C k) {f : Str} {es vs : Es} {ks : List Str} {l : List Expr} {kws : List Keyword} {p pos : Pos} (hg : Gl X f) (ok : OkN f) (hs : allNoStar l = true) (hn : l = [] → es = .nil) (hk : kws.map (·.arg) = ks.map some) (ha : PA X l (LZ X W C es)) (hv : PK X kws (LZ X W C vs)) : PE X (.Call (.Name f p) l kws pos) (TZ X W C (.callk f es ks vs)) := by
  refine ⟨fun pins s σ H Q I h => ?_⟩
  obtain ⟨μ, S, ρ, A, En, h⟩ := h
  rw [evE] at h
  split at h
  · rename_i hf
    obtain ⟨a, hm, hkp, F⟩ := hy.cf f hf
    have fin : ∀ (ds : List D) (S1 : Sto) (μ1 : List Addr) (H1 : Hp) (us : List Value) (vs1 : List V) (s1 : Shared), Inv X pins σ H1 s1 → Vals vs1 us → AbS X.K X.mg μ1 S1 H1 → EnvR X.K X.mg μ1 H1 ρ σ → Reps X.K X.mg μ1 H1 ds vs1 → RZ X.K X.mg W μ1 σ H1 ((evL C vs ρ S1).bind fun ws S2 => if ws.length = ks.length then C.cf Str.empty f ds (ks.zip ws) S2 else .st) Q →
        wpAny (model X.prog X.w) X.A (evalAll ((backToKw pos (keywordEach kws X.env)).map (·.2))) (fun ws s₂ => X.K.In s₂.heap ∧ wpAny (model X.prog X.w) X.A (call (.ref a) ([] ++ us) (((backToKw pos (keywordEach kws X.env)).filterMap (·.1)).zip ws)) (EP X pins σ Q) X.xe s₂) X.xe s1 := by
      intro ds S1 μ1 H1 us vs1 s1 I1 rv A1 En1 rd h1
      refine thn (hv.run pos pins s1 σ H1 (fun zs H2 => ∃ μ2 S2 ws, AbS X.K X.mg μ2 S2 H2 ∧ Reps X.K X.mg μ2 H2 ds vs1 ∧ Reps X.K X.mg μ2 H2 ws zs ∧ RZ X.K X.mg W μ2 σ H2 (C.cf Str.empty f ds (ks.zip ws) S2) Q ∧ zs.length = kws.length) I1 ⟨μ1, S1, ρ, A1, En1, RZL.bind h1 fun ws S2 μ2 zs H2 g2 A2 r2 h2 => ?_⟩) fun ws' s2 ⟨zs, H2, I2, rz, μ2, S2, ws, A2, rd2, rw2, h2, hl⟩ => ⟨I2.kIn, ?_⟩
      · split at h2
        · rename_i hl
          refine ⟨μ2, S2, ws, A2, rd.mono g2, r2, h2, ?_⟩
          rw [← r2.length, hl]
          have := congrArg List.length hk
          simpa using this.symm
        · exact h2.elim
      · rw [filt_some (by rw [kw_names, hk])]
        refine run_callZ hy (Nat.le_refl _) F I2 A2 rv rd2 rz rw2 ?_ h2
        have e1 : ks.length = kws.length := by
          have := congrArg List.length hk
          simpa using this.symm
        rw [← rz.length, hl, e1]
    refine wpAny_Call_Name_kw (ld_glob I hg hm ?_ ok.db)
    cases l with
    | nil =>
      rw [hn rfl, evL] at h
      exact PySem.W.callWith_KW0 (h₀ := X.base) I.ok.mod.kin hkp (kw_all hk) (fin [] S μ H [] [] s I .nil A En .nil h) (by rw [kw_any hk]; rfl)
    | cons e r =>
      simp only [allNoStar, Bool.and_eq_true] at hs
      refine PySem.W.callWith_KW (h₀ := X.base) I.ok.mod.kin hkp (kw_all hk) (thn (ha.run pos pins s σ H (fun vs1 H1 => ∃ μ1 S1 ds, AbS X.K X.mg μ1 S1 H1 ∧ EnvR X.K X.mg μ1 H1 ρ σ ∧ Reps X.K X.mg μ1 H1 ds vs1 ∧ RZ X.K X.mg W μ1 σ H1 ((evL C vs ρ S1).bind fun ws S2 => if ws.length = ks.length then C.cf Str.empty f ds (ks.zip ws) S2 else .st) Q) I ⟨μ, S, ρ, A, En, RZL.bind h fun ds S1 μ1 vs1 H1 g1 A1 r1 h1 => ⟨μ1, S1, ds, A1, En.mono g1, r1, h1⟩⟩) fun us s1 ⟨vs1, H1, I1, rv, μ1, S1, ds, A1, En1, rd, h1⟩ => fin ds S1 μ1 H1 us vs1 s1 I1 rv A1 En1 rd h1) ?_ (star_of hs.1)
      rw [kw_any hk, Bool.or_false, star_of hs.1]
      show (false || (backTo pos (starEach r X.env)).any (·.1)) = false
      rw [plain_of hs.2]
      rfl
  · exact h.elim
end
end Z
set_option maxHeartbeats 4000000
/-! Z22: f(lambda: ..), f a def that calls it and tells how it went -/
namespace Z
open PySem PySem.Spec PyProof.Rows L2
section
variable {X : Cx} {pins : List (Addr × PySem.Obj)} {σ : L2.St} {H : Hp} {s : Shared}
/-- the lambda is called in the def that got it; what is known of its body is asked at this place alone -/
theorem lam_act {CXg : CXT} {Eg : XK} {Ng : List Str} {qg : Str} {sg : Scope} {g f c' : Addr} {cdg pm ctv : Value} {params : Arguments} {body : Expr} {scope : Scope} {k i : Nat} {a : Str} {pn : List (Addr × PySem.Obj)} {xe : Value → Shared → Prop} {W : WX} {E : XK} {tb : TE} {p1 p2 : Pos}
    (I : Inv X pins σ H s) (L : LamX.LamS X.env.scope scope)
    (hf : s.heap.get? f = some (PySem.W.kla_obj "<lambda>" (X.env.qual ++ "<lambda>") params body scope (cloFrom X.env.cells scope.names []) pm c' ctv))
    (hfn : H f = none) (hfr : f ∉ frs X.stack)
    (hbind : bindArgs (PySem.W.kla_fn "<lambda>" (X.env.qual ++ "<lambda>") params body scope (cloFrom X.env.cells scope.names []) pm (.ref c') ctv) ⟨[], []⟩ = pure [])
    (tk : Takes ((cxOf CXg X.prog X.w X.K X.mg X.base Ng qg sg g cdg X.A X.stack s H Eg).tr pn xe) W) (hW : ∀ cls d σ' H', E cls d H' → W cls d σ' H')
    (hr : Room (k + 1) (X.A.deeper (envOfC qg sg s.heap.objs.size g cdg)))
    (hbody : ∀ (s1 : Shared) (HZ : Hp), PE (LamX.lamCx X (X.A.deeper (envOfC qg sg s.heap.objs.size g cdg)) (envOfC qg sg s.heap.objs.size g cdg :: X.stack) s1 HZ E scope f c') body tb)
    (hN : Ng[i]? = some a) (hv : Vis sg a) (oka : OkN a) :
    PE ((cxOf CXg X.prog X.w X.K X.mg X.base Ng qg sg g cdg X.A X.stack s H Eg).tr pn xe) (.Call (.Name a p1) [] [] p2)
      (fun σZ HZ Q => σZ[i]? = some (some (.ref f)) ∧ HZ c' = some (LamX.CodeO c' (X.env.qual ++ "<lambda>")) ∧ tb σ HZ Q) := by
  refine ⟨fun pinsZ sZ σZ HZ Q IZ ⟨hs, hc, ht⟩ => ?_⟩
  have ld := (pe_var (pos := p1) (i := i) hN hv oka.db oka.cd).run pinsZ sZ σZ HZ (fun v H1 => v = .ref f ∧ H1 = HZ) IZ ⟨.ref f, hs, rfl, rfl⟩
  refine wpAny_Call_Name_kw (thn ld fun u s1 ⟨v, H1, I1, r1, e1, e2⟩ => ?_)
  subst e1; subst e2
  obtain rfl : u = Value.ref f := r1
  have un := I1.base
  have of1 := un.keep f _ hf hfn hfr (fun z => nomatch (show f ∈ ([] : List Addr) from z))
  obtain ⟨⟨oc, vs, t, hoc, hdc, hvc⟩, _, _⟩ := I1.hok c' _ hc
  have rc : codeAny (model X.prog X.w) (X.A.deeper (envOfC qg sg s.heap.objs.size g cdg)) (.call (.ref f) ⟨[], []⟩) (CR (L2.CX X.prog X.w) (envOfC qg sg s.heap.objs.size g cdg :: X.stack) X.prog X.w H1 s1 Q E) s1 := by
    refine PySem.W.kla_callFunE hr.depth of1 rfl L.co L.gen rfl ⟨c', oc, vs, t, rfl, hoc, hdc, hvc⟩ ?_
    rw [hbind]
    refine wpAny_pure (wpAny_newFunctionEnv (fun y hy => (L.own y hy).2) (fun y hy => absurd hy (by simp)) (fun h₁ hns hsb => ⟨I1.nolimit.fresh _ hsb, ?_⟩) L.kind)
    show codeAny _ _ (.expr body (LamX.lamEnv X scope s1.heap.objs.size f c')) _ _
    have kp : ∀ b o, s1.heap.get? b = some o → h₁.get? b = some o := fun b o e => hsb.extBut b o (Nat.ne_of_lt (Heap.lt_size e)) (Heap.get?_push_of_some _ e)
    have J : Inv (LamX.lamCx X (X.A.deeper (envOfC qg sg s.heap.objs.size g cdg)) (envOfC qg sg s.heap.objs.size g cdg :: X.stack) s1 H1 E scope f c') [] σ H1 { s1 with heap := h₁, toks := s1.toks + ([] : List (Str × Value)).length } := LamX.lam_start2 I L I1.env0 hr.hd un hns kp
    refine PySem.W.kla_codeExpr (wpAny_mono ((hbody s1 H1).run [] _ _ H1 Q J ht) (fun v s' ⟨w', H', J', rv, q⟩ => ?_) fun e s' hq => hq)
    exact ⟨w', H', J'.os, J'.bare, J'.base, J'.hok, rv, q⟩
  have hx : Passes (L2.CX X.prog X.w) ((cxOf CXg X.prog X.w X.K X.mg X.base Ng qg sg g cdg X.A X.stack s H Eg).tr pn xe) E := passes_call tk hW
  refine PySem.W.callWith_F0 ⟨_, _, _, _, of1⟩ (wpAny_call (codeAny_mono rc fun r s' hq => ?_))
  cases r with
  | error e => exact hx pinsZ σZ H1 s1 e s' I1 hq
  | ok fl =>
    cases fl with
    | ret u => exact I1.after hq
    | next => exact False.elim hq
    | brk => exact False.elim hq
    | cont => exact False.elim hq
end
/-! ### the suites -/
/-- what the items of a told exception are -/
def ItV (K : PySem.W.Frag) (cls : Value) (dd : Option Addr) (H : Hp) : List HI → List V → Prop
  | [], vs => vs = []
  | .s x :: r, vs => ∃ ws, vs = .str x :: ws ∧ ItV K cls dd H r ws
  | .f x :: r, vs => ∃ C d gs v ws, cls = .ref C ∧ XfC K C ∧ (∀ y, ATTRS.contains y = true → PySem.W.findIn K (.ref C) y = some none) ∧ dd = some d ∧ H d = some (.xd gs) ∧ gs.lookup x = some v ∧ vs = v :: ws ∧ ItV K cls dd H r ws
def tIt (K : PySem.W.Frag) (a : Addr) (cls : Value) (dd : Option Addr) (its : List HI) : TA := fun σ H Q => σ[1]? = some (some (.ref a)) ∧ ∃ vs, ItV K cls dd H its vs ∧ Q vs H
section
variable {X : Cx}
theorem pa_items {a : Addr} {oe : PySem.Obj} {cls : Value} {d : Option Addr} {pn : List (Addr × PySem.Obj)} {e : Str} (hz : Zc cls d oe) (hf : ∃ vs, oe.data = .fields vs) (hN : X.N[1]? = some e) (hv : Vis X.env.scope e) (oke : OkN e) : ∀ {its : List HI} {es : List Expr}, itemsB e its es = true →
    PA (X.suite a ((a, oe) :: pn)) es (tIt X.K a cls d its)
  | [], [], _ => paI pa_nil fun σ H Q ⟨_, vs, h1, h2⟩ => by
    simp only [ItV] at h1
    subst h1
    exact h2
  | .s x :: r, es, h => by
    cases es with
    | nil => simp [itemsB] at h
    | cons e1 es =>
      unfold itemsB at h
      split at h
      · rename_i hh _; cases hh
      · rename_i x' r' y _ _ es' h1 h2
        cases h1; cases h2
        simp only [Bool.and_eq_true, decide_eq_true_eq] at h
        obtain ⟨rfl, h⟩ := h
        refine paI (pa_cons pe_str (pa_items hz hf hN hv oke h) (by rfl)) fun σ H Q ⟨hs, vs, h1, h2⟩ => ?_
        simp only [ItV] at h1
        obtain ⟨ws, rfl, h1⟩ := h1
        exact ⟨hs, ws, h1, h2⟩
      · rename_i hh _; cases hh
      · cases h
  | .f x :: r, es, h => by
    cases es with
    | nil => simp [itemsB] at h
    | cons e1 es =>
      unfold itemsB at h
      split at h
      · rename_i hh _; cases hh
      · rename_i hh _; cases hh
      · rename_i x' r' e' pp1 y pp2 es' h1 h2
        cases h1; cases h2
        simp only [Bool.and_eq_true, decide_eq_true_eq] at h
        obtain ⟨⟨rfl, rfl, hat⟩, h⟩ := h
        have ih := pa_items (a := a) (pn := pn) hz hf hN hv oke h
        refine ⟨fun pos pins s σ H Q I q => ?_⟩
        obtain ⟨hs, vs, h1, h2⟩ := q
        simp only [ItV] at h1
        obtain ⟨C, d', gs, v, ws, rfl, hx, hno, rfl, hd, hl, rfl, h1⟩ := h1
        have pn1 := pe_var (X := X.suite a ((a, oe) :: pn)) (pos := pp1) (i := 1) hN hv oke.db oke.cd
        refine (pa_cons (pe_xf hx (hno _ hat) hz hf pn1) ih (by rfl)).run pos pins s σ H Q I ?_
        exact ⟨.ref a, hs, rfl, rfl, d', gs, v, rfl, hd, hl, hs, ws, h1, h2⟩
      · cases h
end
def tSui (K : PySem.W.Frag) (its : List HI) : Suite := fun a cls dd D σ H => σ.length = 2 → σ[1]? = some (some (.ref a)) ∧ ∃ vs, ItV K cls dd H its vs ∧ vs.length ≤ sizeLine ∧ ∀ p, H p = none → D.rt (.ref p) (upd H p (.lst vs))
def lCl (K : PySem.W.Frag) (mg : MG) (hs : List (Str × List HI)) : List (Value × Suite) := hs.map fun q => ((mg q.1).getD .none, tSui K q.2)
theorem clauses_of {X : Cx} {e : Str} (hN : X.N[1]? = some e) (hN2 : X.N.length = 2) (hv : Vis X.env.scope e) (oke : OkN e) : ∀ {hs : List (Str × List HI)} {hds : List ExceptHandler}, clausesB (glB X.env.scope) okN e hs hds = true → (∀ q ∈ hs, ∃ Da, X.mg q.1 = some (.ref Da)) → Clauses X e hds (lCl X.K X.mg hs)
  | [], hds, h, _ => by
    cases hds with
    | nil => exact .nil
    | cons h1 hds => simp [clausesB] at h
  | q :: hs, [], h, _ => by simp [clausesB] at h
  | q :: hs, hd :: hds, h, hm => by
    unfold clausesB at h
    split at h
    · rename_i hh _; cases hh
    · rename_i d its r d' p1 e' es p2 p3 p4 hs' h1 h2
      cases h1; cases h2
      simp only [Bool.and_eq_true, decide_eq_true_eq] at h
      obtain ⟨⟨⟨rfl, rfl⟩, ⟨hg, hok⟩, hi⟩, hr⟩ := h
      obtain ⟨Da, hDa⟩ := hm (d', its) List.mem_cons_self
      refine .cons (c := (X.mg d').getD .none) ⟨gl_of hg, (okN_of hok).db, .inl (by simp only at hDa; rw [hDa]; rfl)⟩ (fun a oe cls d pn hz hf => ?_) (clauses_of hN hN2 hv oke hr fun q hq => hm q (by simp [hq]))
      refine ⟨fun pins s σ H D I h => ?_⟩
      obtain ⟨hs, vs, h1, h2, h3⟩ := h (I.len.trans hN2)
      exact (pss_one (ps_ret (pe_lst (pa_items hz hf hN hv oke hi)))).run pins s σ H D I ⟨hs, vs, h1, h2, fun p hp => h3 p hp⟩
    · cases h
/-! ### what the clauses wish -/
def wEx (K : PySem.W.Frag) (mg : MG) (Q : VK) : List (Str × List HI) → XK
  | [], _, _, _ => False
  | q :: r, cls, dd, H => ∃ b, PySem.W.exmOne K cls ((mg q.1).getD .none) = some b ∧ (b = true → ∃ vs, ItV K cls dd H q.2 vs ∧ vs.length ≤ sizeLine ∧ ∀ p, H p = none → Q (.ref p) (upd H p (.lst vs))) ∧ (b = false → wEx K mg Q r cls dd H)
theorem wEx_cl {K : PySem.W.Frag} {mg : MG} {Q : VK} {D : Ends} (hD : D.rt = Q) : ∀ {hs : List (Str × List HI)} {cls : Value} {dd : Option Addr} {σ : L2.St} {H : Hp}, wEx K mg Q hs cls dd H → wClauses K 1 (fun _ _ _ _ => False) D (lCl K mg hs) cls dd σ H
  | [], _, _, _, _, h => h
  | q :: r, cls, dd, σ, H, h => by
    unfold wEx at h
    obtain ⟨b, h1, h2, h3⟩ := h
    refine ⟨b, h1, fun hb a ha hl => ?_, fun hb => wEx_cl hD (h3 hb)⟩
    obtain ⟨vs, q1, q2, q3⟩ := h2 hb
    refine ⟨List.getElem?_set_self (by rw [List.length_set] at hl; omega), vs, q1, q2, ?_⟩
    rw [← hD] at q3
    exact q3
theorem items_ok {K : PySem.W.Frag} {mg : MG} {μ : List Addr} {H : Hp} {C : Addr} {dd : Option Addr} {fs : List (Str × D)} (hx : XfC K C) (hno : ∀ y, ATTRS.contains y = true → PySem.W.findIn K (.ref C) y = some none)
    (hd : (fs = [] ∧ dd = none) ∨ ∃ d gs, dd = some d ∧ H d = some (.xd gs) ∧ RepF K mg μ H fs gs) : ∀ {its : List HI} {ds : List D}, itemsZ fs its = some ds → ∃ vs, ItV K (.ref C) dd H its vs ∧ Reps K mg μ H ds vs
  | [], ds, h => by
    simp only [itemsZ] at h
    cases h
    exact ⟨[], rfl, .nil⟩
  | .s x :: r, ds, h => by
    simp only [itemsZ, Option.map_eq_some_iff] at h
    obtain ⟨es, h, rfl⟩ := h
    obtain ⟨vs, h1, h2⟩ := items_ok hx hno hd h
    exact ⟨.str x :: vs, ⟨vs, rfl, h1⟩, .cons (by simp [Rep]) h2⟩
  | .f x :: r, ds, h => by
    simp only [itemsZ] at h
    split at h
    · rename_i d es h1 h2
      cases h
      rcases hd with ⟨rfl, _⟩ | ⟨d', gs, e1, e2, e3⟩
      · simp at h1
      · obtain ⟨v, h3, h4⟩ := (RepF.look (f := x) e3).2 d h1
        obtain ⟨vs, h5, h6⟩ := items_ok hx hno (.inr ⟨d', gs, e1, e2, e3⟩) h2
        exact ⟨v :: vs, ⟨C, d', gs, v, vs, rfl, hx, hno, e1, e2, h3, rfl, h5⟩, .cons h4 h6⟩
    · cases h
section
variable {X : Cx} {W : WX} {C : Ev} {k : Nat}
theorem told_ex (hy : Hyp X W C k) {μ : List Addr} {σ : L2.St} {H : Hp} {S : Sto} {Q : VK} {c : Str} {fs : List (Str × D)} {cls : Value} {dd : Option Addr} (A : AbS X.K X.mg μ S H) (x : XR X.K X.mg μ H c fs cls dd) : ∀ {hs : List (Str × List HI)},
    RZ X.K X.mg W μ σ H (match pickZ C.xm c hs with
      | some its => match itemsZ fs its with
        | some ds => if ds.length ≤ 1000 then new S (.lst ds) else .st
        | none => .st
      | none => .st) Q → wEx X.K X.mg Q hs cls dd H
  | [], h => by
    simp only [pickZ] at h
    exact h.elim
  | (d, its) :: r, h => by
    simp only [pickZ] at h
    obtain ⟨C', hc, rfl, hd⟩ := x
    cases hx : C.xm c d with
    | none => rw [hx] at h; exact h.elim
    | some b =>
      rw [hx] at h
      obtain ⟨Ca, Da, h1, h2, h3, h4, h5⟩ := hy.xm c d b hx
      obtain rfl : Ca = C' := by rw [h1] at hc; injection hc with e; injection e
      refine ⟨b, by rw [h2]; exact h3, fun hb => ?_, fun hb => ?_⟩
      · subst hb
        simp only at h
        cases hi : itemsZ fs its with
        | none => rw [hi] at h; exact h.elim
        | some ds =>
          rw [hi] at h
          simp only at h
          obtain ⟨vs, q1, q2⟩ := items_ok h4 h5 hd hi
          split at h
          · rename_i hl
            refine ⟨vs, q1, by rw [← q2.length, sizeLine_eq]; omega, fun p hp => OkV.lst A (h.okV new_nx) q2 hp⟩
          · exact h.elim
      · subst hb
        exact told_ex hy A ⟨Ca, hc, rfl, hd⟩ h
theorem AbS.extN {K : PySem.W.Frag} {mg : MG} {μ : List Addr} {S : Sto} {H H' : Hp} (A : AbS K mg μ S H) (e : LamX.ExtN H H') (t : LamX.Tabs (tabsK K) H') : AbS K mg μ S H' ∧ Gr μ H μ H' := by
  have g : Gr μ H μ H' := ⟨fun _ _ h => h, fun a xs h => e _ _ h (fun _ z => by cases z), fun a o u h => e _ _ h (fun _ z => by cases z)⟩
  refine ⟨⟨t, A.len, A.nd, fun n a o h1 h2 => ?_⟩, g⟩
  have r := A.ob n a o h1 h2
  cases o with
  | lst ds =>
    obtain ⟨vs, q, r⟩ := r
    exact ⟨vs, e _ _ q (fun _ z => by cases z), r.mono g⟩
  | frz ds =>
    obtain ⟨o, vs, q, r⟩ := r
    exact ⟨o, vs, e _ _ q (fun _ z => by cases z), r.mono g⟩
  | ins c fs =>
    obtain ⟨Ca, dx, gs, q, q2, q3, r⟩ := r
    exact ⟨Ca, dx, gs, e _ _ q (fun _ z => by cases z), e _ _ q2 (fun _ z => by cases z), q3, r.mono g⟩
theorem z_told (hy : Hyp X W C k) {f : Str} {b : E} {body : Expr} {scope : Scope} {p lp pos : Pos} (hg : Gl X f) (ok : OkN f) (hfn : X.fn Str.empty = true) (hL : LamX.lamSB X.env.scope scope = true) (hc : chkE false X.N scope b body = true) :
    PE X (.Call (.Name f p) [.Lambda ⟨[], [], none, [], [], none, []⟩ body scope lp] [] pos) (TZ X W C (.told f b)) := by
  refine ⟨fun pins s σ H Q I h => ?_⟩
  obtain ⟨μ, S, ρ, A, En, h⟩ := h
  rw [evE] at h
  cases htd : C.td f with
  | none => rw [htd] at h; exact h.elim
  | some t =>
    rw [htd] at h
    simp only at h
    have TO := hy.td f t htd
    obtain ⟨g, name, qual, params, gbody, sg, oc, od, dV, kV, doc, pm, an, cdv, ct, osl, a, e, hm, hk, lk, hcd, hpl, rfl, Sg, oka, oke, la, le, hB⟩ := TO.ex
    rcases hy.low.ok with hst | ⟨j, hj, hlow⟩
    · rw [hst] at h; exact h.elim
    obtain ⟨c, P, hcode, TB, hmT⟩ := hy.tb hfn
    have L := LamX.lamS_by hL
    refine wpAny_Call_Name_kw (ld_glob I hg hm ?_ ok.db)
    refine PySem.W.callWith_K (h₀ := X.base) I.ok.mod.kin hk ?_ (by rfl) (by rfl)
    show wpAny _ _ (spliced ((false, eval (.Lambda ⟨[], [], none, [], [], none, []⟩ body scope lp) X.env) :: backTo pos (starEach [] X.env))) _ _ s
    refine Calls.spliced_cons (LamX.lam_make2 I TB hcode hmT (fun q hq z => hy.uq q hq _ hmT z) A.tab rfl (L.has I.ok) fun fl c' pm' ctv H1 s' I1 eN T1 hf hfn hfr hco => ?_)
    refine Calls.spliced_nil ⟨I1.kIn, ?_⟩
    obtain ⟨A1, g1⟩ := A.extN eN T1
    have En1 := En.mono g1
    have h1 := RZ.gr g1 h
    have hrG : RoomG (j + 2) X.A := hy.room.mono hj
    have nd2 : [a].Nodup := by simp
    have hbz : bindZ [a] [] [Value.ref fl] [] = some [Value.ref fl] := by
      unfold bindZ
      simp
    have hbnd : BindsTo s' (PySem.W.fnOf name qual params gbody sg .none kV doc pm an cdv ct) ⟨[.ref fl], []⟩ ([a].zip [Value.ref fl]) :=
      BindsTo.of_looks fun M => bind_looks hpl nd2 I1.kIn (.inl ⟨rfl, rfl⟩) hbz
    have hbody : ∀ (Ech : XK), Room (j + 1) (X.A.deeper (envOfC qual sg s'.heap.objs.size g cdv)) → ∀ (s1 : Shared) (HZ : Hp), PE (LamX.lamCx X (X.A.deeper (envOfC qual sg s'.heap.objs.size g cdv)) (envOfC qual sg s'.heap.objs.size g cdv :: X.stack) s1 HZ Ech scope fl c') body
        (fun σ H Q => ∃ μ S ρ, AbS X.K X.mg μ S H ∧ EnvR X.K X.mg μ H ρ σ ∧ RZ X.K X.mg (fun cls dd _ H => Ech cls dd H) μ σ H (C.low b ρ S) Q) := fun Ech hr s1 HZ =>
      hlow (LamX.lamCx X (X.A.deeper (envOfC qual sg s'.heap.objs.size g cdv)) (envOfC qual sg s'.heap.objs.size g cdv :: X.stack) s1 HZ Ech scope fl c') (fun cls dd _ H => Ech cls dd H) rfl rfl rfl rfl rfl rfl hy.nd ((RoomG.mk hr hrG.g).deeper _) (takes_of rfl rfl rfl rfl) L.kind rfl b body hc
    have hN2 : ∀ (hds : List ExceptHandler), clausesB (glB sg) okN e t.hs hds = true → Clauses (cxOf C8.CX0 X.prog X.w X.K X.mg X.base [a, e] qual sg g cdv X.A X.stack s' H1 C8.E0) e hds (lCl X.K X.mg t.hs) := fun hds h =>
      clauses_of (X := cxOf C8.CX0 X.prog X.w X.K X.mg X.base [a, e] qual sg g cdv X.A X.stack s' H1 C8.E0) rfl rfl (.inl le) (okN_of oke) h TO.cl
    -- what the exceptions come to
    have hex : ∀ (q : V → Hp → Prop), (∀ d S' μ' v H', t.ok.isSome = t.ok.isSome → C.low b ρ S = .ok d S' → Gr μ H1 μ' H' → AbS X.K X.mg μ' S' H' → Rep X.K X.mg μ' H' d v → RZ X.K X.mg W μ' σ H' (match t.ok with
          | some tag => new S' (.lst [.str tag, d])
          | none => .ok .non S') Q → q v H') → RZ X.K X.mg (fun cls dd _ H => wEx X.K X.mg Q t.hs cls dd H) μ σ H1 (C.low b ρ S) q := by
      intro q hq
      cases hr : C.low b ρ S with
      | ok d S' =>
        intro μ' v H' gg A' r
        have h2 := RZ.gr gg h1
        rw [hr] at h2
        exact hq d S' μ' v H' rfl hr gg A' r h2
      | ex c fs S' =>
        intro μ' H' cls dd gg A' x
        have h2 := RZ.gr gg h1
        rw [hr] at h2
        exact told_ex hy A' x h2
      | st => rw [hr] at h1; exact h1.elim
    have rc : codeAny (model X.prog X.w) X.A (.call (.ref g) ⟨[.ref fl], []⟩) (CR C8.CX0 X.stack X.prog X.w H1 s' Q C8.E0) s' := by
      refine LamX.run_ofS (k := j + 1) (N := [a, e]) (ps := [a]) (us := [.ref fl]) (vs := [.ref fl]) lk hcd Sg hrG.r I1.env0 hbnd (.cons rfl .nil) rfl fun hr' => ?_
      unfold toldB at hB
      split at hB
      · -- try: return [tag, a()]
        rename_i tag tg kc pc a' pnm pcl pl pr hds pt hok
        simp only [Bool.and_eq_true, decide_eq_true_eq, Bool.not_eq_true'] at hB
        obtain ⟨⟨rfl, rfl⟩, hne, hB⟩ := hB
        cases hds with
        | nil => cases hne
        | cons h₀ hds =>
          refine ⟨_, pss_one (ps_clauses (X := cxOf C8.CX0 X.prog X.w X.K X.mg X.base [a', e] qual sg g cdv X.A X.stack s' H1 C8.E0) (i := 1) (Wout := fun _ _ _ _ => False)
            (tb := fun W D σZ HZ => ∃ Ech : XK, (∀ cls d σ' H', Ech cls d H' → W cls d σ' H') ∧ σZ[0]? = some (some (.ref fl)) ∧ HZ c' = some (LamX.CodeO c' (X.env.qual ++ "<lambda>")) ∧ ∃ μ S ρ, AbS X.K X.mg μ S HZ ∧ EnvR X.K X.mg μ HZ ρ σ ∧ RZ X.K X.mg (fun cls dd _ H => Ech cls dd H) μ σ HZ (C.low b ρ S) (fun v H2 => 2 ≤ sizeLine ∧ ∀ p, H2 p = none → D.rt (.ref p) (upd H2 p (.lst [.str tg, v]))))
            rfl rfl Sg.nd rfl le LamX.takes0 (fun W' pn xe tk _ => ⟨fun pins s2 σZ H' D IZ ⟨Ech, hW, q1, q2, q3⟩ => ?_⟩) (hN2 _ hB)), ?_⟩
          · have hp := lam_act (i := 0) (p1 := pnm) (p2 := pcl) I1 L hf hfn hfr (by rfl) tk hW hr' (hbody Ech hr') rfl (.inl la) (okN_of oka)
            exact (pss_one (ps_ret (pe_lst (pa_cons pe_str (pa_cons hp pa_nil (by rfl)) (by rfl))))).run pins s2 σZ H' D IZ ⟨q1, q2, q3⟩
          · refine ⟨wEx X.K X.mg Q t.hs, fun cls d σ' H' hw => wEx_cl rfl hw, rfl, hco, μ, S, ρ, A1, En1, hex _ fun d S' μ' v H' _ _ gg A' r h2 => ⟨by rw [sizeLine_eq]; omega, fun p hp => ?_⟩⟩
            rw [hok] at h2
            exact OkV.lst A' (h2.okV new_nx) (.cons (by simp [Rep]) (.cons r .nil)) hp
      · -- try: a()
        rename_i a' pnm pcl pe hds pt kc pc pr hok
        simp only [Bool.and_eq_true, decide_eq_true_eq, Bool.not_eq_true'] at hB
        obtain ⟨rfl, hne, hB⟩ := hB
        cases hds with
        | nil => cases hne
        | cons h₀ hds =>
          refine ⟨_, pss_cons (ps_clauses (X := cxOf C8.CX0 X.prog X.w X.K X.mg X.base [a', e] qual sg g cdv X.A X.stack s' H1 C8.E0) (i := 1) (Wout := fun _ _ _ _ => False)
            (tb := fun W D σZ HZ => ∃ Ech : XK, (∀ cls d σ' H', Ech cls d H' → W cls d σ' H') ∧ σZ[0]? = some (some (.ref fl)) ∧ HZ c' = some (LamX.CodeO c' (X.env.qual ++ "<lambda>")) ∧ ∃ μ S ρ, AbS X.K X.mg μ S HZ ∧ EnvR X.K X.mg μ HZ ρ σ ∧ RZ X.K X.mg (fun cls dd _ H => Ech cls dd H) μ σ HZ (C.low b ρ S) (fun v H2 => D.nx σZ H2))
            rfl rfl Sg.nd rfl le LamX.takes0 (fun W' pn xe tk _ => ⟨fun pins s2 σZ H' D IZ ⟨Ech, hW, q1, q2, q3⟩ => ?_⟩) (hN2 _ hB)) (pss_one (ps_ret pe_non)), ?_⟩
          · have hp := lam_act (i := 0) (p1 := pnm) (p2 := pcl) I1 L hf hfn hfr (by rfl) tk hW hr' (hbody Ech hr') rfl (.inl la) (okN_of oka)
            exact (pss_one (ps_expr hp)).run pins s2 σZ H' D IZ ⟨q1, q2, q3⟩
          · refine ⟨wEx X.K X.mg Q t.hs, fun cls d σ' H' hw => wEx_cl rfl hw, rfl, hco, μ, S, ρ, A1, En1, hex _ fun d S' μ' v H' _ _ gg A' r h2 => ?_⟩
            rw [hok] at h2
            exact h2 μ' _ H' (Gr.refl _ _) A' (by simp [Rep])
      · cases hB
    refine wpAny_call (codeAny_mono rc fun r s2 hq => ?_)
    cases r with
    | error e => exact (show False from hq).elim
    | ok fl =>
      cases fl with
      | ret u => exact I1.after hq
      | next => exact False.elim hq
      | brk => exact False.elim hq
      | cont => exact False.elim hq
end
end Z
set_option maxHeartbeats 4000000
/-! Z9: methods of built-in types, patterns, what is walked, comprehensions -/
namespace Z
open PySem PySem.Spec PyProof.Rows L2
section
variable {X : Cx} {W : WX} {C : Ev} {k : Nat}
theorem z_bmG {b : BM} {o : E} {es : Es} {e : Expr} {l : List Expr} {apos pos : Pos} {id : String} (slot : Slot "list" (bmN b) id) (hty : typeOf (.builtin id) = pure (.type "method_descriptor")) (hm : MtR X id (rZM X.K X.mg (bm C b))) (hat : ∀ S x, bmAt S b x = (isLst S x).isSome)
    (ho : PE X e (TZ X W C o)) (hb : noSuper e = true) (hline : (apos.endLine == pos.line) = true) (hs : allNoStar l = true) (hl : l.length < 30) (hn : l = [] → es = .nil) (ha : PA X l (LZ X W C es)) :
    PE X (.Call (.Attribute e (bmN b) apos) l [] pos) (TZ X W C (.bm b o es)) := by
  have tyq : ∀ {μ : List Addr} {S : Sto} {H : Hp} {d : D} {v : V}, AbS X.K X.mg μ S H → Rep X.K X.mg μ H d v → bmAt S b d = true → tyV X.K "list" v H := by
    intro μ S H d v A r h
    rw [hat] at h
    cases d <;> simp only [isLst] at h <;> first | (cases h; done) | skip
    rename_i n
    cases hr : rdL S n with
    | none => rw [hr] at h; cases h
    | some ds =>
      simp only [Rep] at r
      obtain ⟨a, e1, rfl⟩ := r
      obtain ⟨xs, q, _⟩ := A.rd hr e1
      exact .inl ⟨rfl, xs, q⟩
  cases l with
  | nil =>
    refine peI (pe_bm0 PySem.F.plainAttrs_list slot hty hm ho (base_of hb) hline) fun σ H Q h => ?_
    obtain ⟨μ, S, ρ, A, En, h⟩ := h
    rw [evE] at h
    refine ⟨μ, S, ρ, A, En, h.bind fun d S1 μ1 v H1 g1 A1 r1 h1 => ?_⟩
    split at h1
    · rename_i hq
      refine ⟨tyq A1 r1 hq, μ1, S1, d, [], A1, r1, .nil, ?_⟩
      rw [hn rfl, evL] at h1
      exact h1.okV (bm_nx _ _ _ _ _)
    · exact h1.elim
  | cons x xs =>
    have hs' := hs
    simp only [allNoStar, Bool.and_eq_true] at hs
    refine peI (pe_bm PySem.F.plainAttrs_list slot hty hm ho ha (base_of hb) (few_of hs' hl) hline (star_of hs.1) (plain_of hs.2)) fun σ H Q h => ?_
    obtain ⟨μ, S, ρ, A, En, h⟩ := h
    rw [evE] at h
    refine ⟨μ, S, ρ, A, En, h.bind fun d S1 μ1 v H1 g1 A1 r1 h1 => ?_⟩
    split at h1
    · rename_i hq
      exact ⟨tyq A1 r1 hq, μ1, S1, ρ, A1, En.mono g1, RZL.bind h1 fun ds S2 μ2 vs H2 g2 A2 r2 h2 => ⟨μ2, S2, d, ds, A2, r1.mono g2, r2, h2.okV (bm_nx _ _ _ _ _)⟩⟩
    · exact h1.elim
theorem z_bmGS {b : BM} {o : E} {es : Es} {e : Expr} {l : List Expr} {apos pos : Pos} {id : String} (slot : Slot "str" (bmN b) id) (hty : typeOf (.builtin id) = pure (.type "method_descriptor")) (hm : MtR X id (rZM X.K X.mg (bm C b))) (hat : ∀ S x, bmAt S b x = (match x with | .str _ => true | _ => false))
    (ho : PE X e (TZ X W C o)) (hb : noSuper e = true) (hline : (apos.endLine == pos.line) = true) (hs : allNoStar l = true) (hl : l.length < 30) (hn : l = [] → es = .nil) (ha : PA X l (LZ X W C es)) :
    PE X (.Call (.Attribute e (bmN b) apos) l [] pos) (TZ X W C (.bm b o es)) := by
  have tyq : ∀ {μ : List Addr} {S : Sto} {H : Hp} {d : D} {v : V}, AbS X.K X.mg μ S H → Rep X.K X.mg μ H d v → bmAt S b d = true → tyV X.K "str" v H := by
    intro μ S H d v A r h
    rw [hat] at h
    cases d <;> first | (cases h; done) | skip
    simp only [Rep] at r
    subst r
    rfl
  cases l with
  | nil =>
    refine peI (pe_bm0 PySem.F.plainAttrs_str slot hty hm ho (base_of hb) hline) fun σ H Q h => ?_
    obtain ⟨μ, S, ρ, A, En, h⟩ := h
    rw [evE] at h
    refine ⟨μ, S, ρ, A, En, h.bind fun d S1 μ1 v H1 g1 A1 r1 h1 => ?_⟩
    split at h1
    · rename_i hq
      refine ⟨tyq A1 r1 hq, μ1, S1, d, [], A1, r1, .nil, ?_⟩
      rw [hn rfl, evL] at h1
      exact h1.okV (bm_nx _ _ _ _ _)
    · exact h1.elim
  | cons x xs =>
    have hs' := hs
    simp only [allNoStar, Bool.and_eq_true] at hs
    refine peI (pe_bm PySem.F.plainAttrs_str slot hty hm ho ha (base_of hb) (few_of hs' hl) hline (star_of hs.1) (plain_of hs.2)) fun σ H Q h => ?_
    obtain ⟨μ, S, ρ, A, En, h⟩ := h
    rw [evE] at h
    refine ⟨μ, S, ρ, A, En, h.bind fun d S1 μ1 v H1 g1 A1 r1 h1 => ?_⟩
    split at h1
    · rename_i hq
      exact ⟨tyq A1 r1 hq, μ1, S1, ρ, A1, En.mono g1, RZL.bind h1 fun ds S2 μ2 vs H2 g2 A2 r2 h2 => ⟨μ2, S2, d, ds, A2, r1.mono g2, r2, h2.okV (bm_nx _ _ _ _ _)⟩⟩
    · exact h1.elim
theorem z_bm {b : BM} {o : E} {es : Es} {e : Expr} {l : List Expr} {apos pos : Pos} (hok : bmOk b = true)
    (ho : PE X e (TZ X W C o)) (hb : noSuper e = true) (hline : (apos.endLine == pos.line) = true) (hs : allNoStar l = true) (hl : l.length < 30) (hn : l = [] → es = .nil) (ha : PA X l (LZ X W C es)) :
    PE X (.Call (.Attribute e (bmN b) apos) l [] pos) (TZ X W C (.bm b o es)) := by
  cases b <;> first | (cases hok; done) | skip
  · exact z_bmG PySem.F.slot_list_append PySem.F.type_list_append (mt_bm C .append (.inl rfl) _ (by decide)) (fun _ _ => rfl) ho hb hline hs hl hn ha
  · exact z_bmG PySem.F.slot_list_extend PySem.F.type_list_extend (mt_bm C .extend (.inr (.inl rfl)) _ (by decide)) (fun _ _ => rfl) ho hb hline hs hl hn ha
  · exact z_bmG PySem.F.slot_list_pop PySem.F.type_list_pop (mt_bm C .pop (.inr (.inr rfl)) _ (by decide)) (fun _ _ => rfl) ho hb hline hs hl hn ha
  · exact z_bmGS PySem.F.slot_str_split PySem.F.type_str_split (mt_bmS C .split (.inl rfl) _ (by decide)) (fun _ _ => rfl) ho hb hline hs hl hn ha
  · exact z_bmGS PySem.F.slot_str_join PySem.F.type_str_join (mt_bmS C .join (.inr (.inr rfl)) _ (by decide)) (fun _ _ => rfl) ho hb hline hs hl hn ha
  · exact z_bmGS PySem.F.slot_str_isalnum PySem.F.type_str_isalnum (mt_bmS C .isalnum (.inr (.inl rfl)) _ (by decide)) (fun _ _ => rfl) ho hb hline hs hl hn ha
end
/-! ### patterns -/
mutual
def P.vars : P → List Nat
  | .v i => [i]
  | .tp ps => P.varsL ps
def P.varsL : List P → List Nat
  | [] => []
  | p :: ps => P.vars p ++ P.varsL ps
end
theorem wipe_get : ∀ (σ : L2.St) (vs : List Nat) (j : Nat), (L2.wipe σ vs)[j]? = if j ∈ vs then (if j < σ.length then some none else none) else σ[j]?
  | σ, [], j => by simp [L2.wipe]
  | σ, v :: vs, j => by
    unfold L2.wipe
    have ih := wipe_get σ vs j
    by_cases hj : v = j
    · subst hj
      by_cases hl : v < σ.length
      · rw [List.getElem?_set_self (by rw [wipe_length]; exact hl)]
        simp [hl]
      · rw [List.getElem?_eq_none (by rw [List.length_set, wipe_length]; omega)]
        simp [hl]
    · rw [List.getElem?_set_ne hj, ih]
      have : j ≠ v := fun z => hj z.symm
      simp [this]
theorem wipe_set {σ : L2.St} {vs : List Nat} {i : Nat} {x : Option V} (h : i ∈ vs) : L2.wipe (σ.set i x) vs = L2.wipe σ vs := by
  apply List.ext_getElem?
  intro j
  rw [wipe_get, wipe_get]
  by_cases hj : j ∈ vs
  · simp [hj]
  · have : i ≠ j := fun z => hj (z ▸ h)
    simp [hj, List.getElem?_set_ne this]
section
variable {K : PySem.W.Frag} {mg : MG} {μ : List Addr} {H : Hp} {ρ : Rho} {σ : L2.St}
theorem EnvR.set (h : EnvR K mg μ H ρ σ) {d : D} {v : V} (r : Rep K mg μ H d v) (i : Nat) : EnvR K mg μ H (ρ.set i (some d)) (σ.set i (some v)) := by
  refine ⟨by rw [List.length_set, List.length_set]; exact h.len, fun j d' e => ?_⟩
  by_cases hj : i = j
  · subst hj
    by_cases hl : i < ρ.length
    · rw [List.getElem?_set_self hl] at e
      cases e
      exact ⟨v, List.getElem?_set_self (by rw [← h.len]; exact hl), r⟩
    · rw [List.getElem?_eq_none (by rw [List.length_set]; omega)] at e
      cases e
  · rw [List.getElem?_set_ne hj] at e ⊢
    exact h.at_ j d' e
theorem EnvR.unset (h : EnvR K mg μ H ρ σ) (i : Nat) : EnvR K mg μ H (ρ.set i none) (σ.set i none) := by
  refine ⟨by rw [List.length_set, List.length_set]; exact h.len, fun j d' e => ?_⟩
  by_cases hj : i = j
  · subst hj
    by_cases hl : i < ρ.length
    · rw [List.getElem?_set_self hl] at e
      cases e
    · rw [List.getElem?_eq_none (by rw [List.length_set]; omega)] at e
      cases e
  · rw [List.getElem?_set_ne hj] at e ⊢
    exact h.at_ j d' e
theorem EnvR.wipe (h : EnvR K mg μ H ρ σ) : ∀ vs : List Nat, EnvR K mg μ H (Z.wipe ρ vs) (L2.wipe σ vs)
  | [] => h
  | v :: vs => by
    unfold Z.wipe L2.wipe
    exact (EnvR.wipe h vs).unset v
end
def tP (K : PySem.W.Frag) (mg : MG) (p : P) : TG := fun v σ H Q => ∃ μ d ρ ρ', Rep K mg μ H d v ∧ EnvR K mg μ H ρ σ ∧ asgP p d ρ = some ρ' ∧
  ∀ σ', EnvR K mg μ H ρ' σ' → (∀ vs, (∀ i ∈ P.vars p, i ∈ vs) → L2.wipe σ' vs = L2.wipe σ vs) → Q σ' H
def tPs (K : PySem.W.Frag) (mg : MG) (ps : List P) : TGs := fun v σ H Q => ∃ μ ds ρ ρ', Reps K mg μ H ds v ∧ EnvR K mg μ H ρ σ ∧ asgP.go ps ds ρ = some ρ' ∧
  ∀ σ', EnvR K mg μ H ρ' σ' → (∀ vs, (∀ i ∈ P.varsL ps, i ∈ vs) → L2.wipe σ' vs = L2.wipe σ vs) → Q σ' H
theorem pgI {X : Cx} {e : Expr} {t t' : TG} (h : PG X e t) (k : ∀ v σ H Q, t' v σ H Q → t v σ H Q) : PG X e t' := ⟨fun pins s σ H v u Q I r q => h.run pins s σ H v u Q I r (k v σ H Q q)⟩
theorem pgsI {X : Cx} {e : List Expr} {t t' : TGs} (h : PGs X e t) (k : ∀ v σ H Q, t' v σ H Q → t v σ H Q) : PGs X e t' := ⟨fun pins s σ H v u Q I r q => h.run pins s σ H v u Q I r (k v σ H Q q)⟩
def locB (sc : Scope) (x : Str) : Bool := match sc.names.lookup x with
  | some .local => true
  | some .cell => true
  | _ => false
theorem assign_of {N : List Str} {sc : Scope} {p : P} {e : Expr} {es : List Expr} {env : Env} (h : chkP N sc p e = true) : assignEach (e :: es) env = (false, assign e env) :: assignEach es env := by
  cases p with
  | v i => cases e <;> first | rfl | (simp only [chkP] at h; cases h)
  | tp ps => cases e <;> first | rfl | (simp only [chkP] at h; cases h)
theorem assigns_of {N : List Str} {sc : Scope} {env : Env} : ∀ {ps : List P} {es : List Expr}, chkP.go N sc ps es = true → (assignEach es env).length = es.length ∧ (assignEach es env).findIdx? (·.1) = none ∧ ps.length = es.length
  | [], [], _ => ⟨rfl, rfl, rfl⟩
  | [], _ :: _, h => by simp [chkP.go] at h
  | _ :: _, [], h => by simp [chkP.go] at h
  | p :: ps, e :: es, h => by
    simp only [chkP.go, Bool.and_eq_true] at h
    obtain ⟨h1, h2, h3⟩ := assigns_of (env := env) h.2
    rw [assign_of h.1]
    refine ⟨by simp [h1], ?_, by simp [h3]⟩
    rw [List.findIdx?_cons, h2]
    rfl
mutual
theorem pgP {X : Cx} (hc : X.calm = true) (hN : X.N.Nodup) {sc : Scope} (hL : ∀ x, locB sc x = true → Loc X.env.scope x ∧ (X.fn x = true ∨ X.env.scope.names.lookup x = some .local)) : ∀ (p : P) (e : Expr), chkP X.N sc p e = true → PG X e (tP X.K X.mg p)
  | .v i, e, h => by
    simp only [chkP] at h
    split at h
    · rename_i x pos
      simp only [Bool.and_eq_true, decide_eq_true_eq] at h
      obtain ⟨l1, l2⟩ := hL x (by unfold locB; exact h.2)
      refine pgI (pg_name hN h.1 l1 l2) fun v σ H Q q => ?_
      obtain ⟨μ, d, ρ, ρ', r, En, e, q⟩ := q
      simp only [asgP] at e
      cases e
      exact q _ (En.set r i) fun vs hv => wipe_set (hv i (by simp [P.vars]))
    · cases h
  | .tp ps, e, h => by
    simp only [chkP] at h
    split at h
    · rename_i es j pos
      obtain ⟨h1, h2, h3⟩ := assigns_of (env := X.env) h
      refine pgI (pg_tup hc (pgsP hc hN hL ps es h) h1 h2) fun v σ H Q q => ?_
      obtain ⟨μ, d, ρ, ρ', r, En, e, q⟩ := q
      simp only [asgP] at e
      split at e
      · rename_i ds
        simp only [Rep] at r
        obtain ⟨a, xs, rfl, sq, rs⟩ := r
        refine ⟨a, xs, rfl, sq, ?_, μ, ds, ρ, ρ', rs, En, e, q⟩
        rw [← rs.length, ← h3]
        exact go_len ps ds ρ e
      · cases e
    · cases h
theorem pgsP {X : Cx} (hc : X.calm = true) (hN : X.N.Nodup) {sc : Scope} (hL : ∀ x, locB sc x = true → Loc X.env.scope x ∧ (X.fn x = true ∨ X.env.scope.names.lookup x = some .local)) : ∀ (ps : List P) (es : List Expr), chkP.go X.N sc ps es = true → PGs X es (tPs X.K X.mg ps)
  | [], [], h => by
    refine pgsI pgs_nil fun v σ H Q q => ?_
    obtain ⟨μ, ds, ρ, ρ', r, En, e, q⟩ := q
    cases ds with
    | nil =>
      simp only [Reps] at r
      simp only [asgP.go] at e
      cases e
      exact ⟨r, q σ En fun _ _ => rfl⟩
    | cons d ds => simp [asgP.go] at e
  | [], _ :: _, h => by simp [chkP.go] at h
  | _ :: _, [], h => by simp [chkP.go] at h
  | p :: ps, e :: es, h => by
    simp only [chkP.go, Bool.and_eq_true] at h
    refine pgsI (pgs_cons (pgP hc hN hL p e h.1) (pgsP hc hN hL ps es h.2) (by rw [assign_of h.1]; rfl)) fun v σ H Q q => ?_
    obtain ⟨μ, ds, ρ, ρ', r, En, e, q⟩ := q
    cases ds with
    | nil => simp [asgP.go] at e
    | cons d ds =>
      simp only [Reps] at r
      obtain ⟨y, ys, rfl, r1, r2⟩ := r
      simp only [asgP.go] at e
      split at e
      · rename_i ρ1 h1
        refine ⟨y, ys, rfl, μ, d, ρ, ρ1, r1, En, h1, fun σ1 En1 w1 => ⟨μ, ds, ρ1, ρ', r2, En1, e, fun σ2 En2 w2 => q σ2 En2 fun vs hv => ?_⟩⟩
        simp only [P.varsL, List.mem_append] at hv
        rw [w2 vs fun i hi => hv i (.inr hi), w1 vs fun i hi => hv i (.inl hi)]
      · cases e
theorem go_len : ∀ (ps : List P) (ds : List D) (ρ : Rho) {ρ' : Rho}, asgP.go ps ds ρ = some ρ' → ds.length = ps.length
  | [], [], _, _, _ => rfl
  | [], _ :: _, _, _, h => by simp [asgP.go] at h
  | _ :: _, [], _, _, h => by simp [asgP.go] at h
  | p :: ps, d :: ds, ρ, ρ', h => by
    simp only [asgP.go] at h
    split at h
    · simp [go_len ps ds _ h]
    · cases h
end
mutual
theorem vars_of {N : List Str} {sc : Scope} : ∀ (p : P) (e : Expr), chkP N sc p e = true → ∀ i ∈ P.vars p, ∃ x, N[i]? = some x ∧ locB sc x = true
  | .v i, e, h, j, hj => by
    simp only [chkP] at h
    split at h
    · rename_i x pos
      simp only [Bool.and_eq_true, decide_eq_true_eq] at h
      simp only [P.vars, List.mem_singleton] at hj
      subst hj
      exact ⟨x, h.1, h.2⟩
    · cases h
  | .tp ps, e, h, j, hj => by
    simp only [chkP] at h
    split at h
    · rename_i es q pos
      simp only [P.vars] at hj
      exact varsL_of ps es h j hj
    · cases h
theorem varsL_of {N : List Str} {sc : Scope} : ∀ (ps : List P) (es : List Expr), chkP.go N sc ps es = true → ∀ i ∈ P.varsL ps, ∃ x, N[i]? = some x ∧ locB sc x = true
  | [], _, h, i, hi => by simp [P.varsL] at hi
  | _ :: _, [], h, _, _ => by simp [chkP.go] at h
  | p :: ps, e :: es, h, i, hi => by
    simp only [chkP.go, Bool.and_eq_true] at h
    simp only [P.varsL, List.mem_append] at hi
    rcases hi with hi | hi
    · exact vars_of p e h.1 i hi
    · exact varsL_of ps es h.2 i hi
end
end Z
set_option maxHeartbeats 4000000
/-! Z10: what is walked, comprehensions -/
namespace Z
open PySem PySem.Spec PyProof.Rows L2
/-- J serves the items l as long as g stands -/
structure Srv (K : PySem.W.Frag) (mg : MG) (μ0 : List Addr) (H0 : Hp) (J : It) (l : List D) (g : Option (Nat × List D)) : Prop where
  go : ∀ (μ : List Addr) (S : Sto) (H : Hp) (i : Nat) (d : D), Gr μ0 H0 μ H → AbS K mg μ S H → stays S g = true → l[i]? = some d → J.go i H ∧ ∀ x H', J.yld i H x H' → Ext H H' ∧ Rep K mg μ H' d x
  stop : ∀ (μ : List Addr) (S : Sto) (H : Hp), Gr μ0 H0 μ H → AbS K mg μ S H → stays S g = true → J.stop l.length H
section
variable {K : PySem.W.Frag} {mg : MG} {μ : List Addr} {H : Hp}
theorem srv_tup {ds : List D} {a : Addr} {xs : List V} (sq : SqT K H a xs) (r : Reps K mg μ H ds xs) : Srv K mg μ H (Itt K a) ds none := by
  refine ⟨fun μ' S' H' i d g A _ e => ?_, fun μ' S' H' g A _ => ⟨xs, g.sqt sq, by rw [r.length]; exact Nat.le_refl _⟩⟩
  obtain ⟨x, hx, rx⟩ := (r.mono g).get e
  refine ⟨⟨xs, x, g.sqt sq, hx⟩, fun y H2 hy => ?_⟩
  obtain ⟨rfl, hy⟩ := hy
  have := hy xs (g.sqt sq)
  rw [hx] at this
  cases this
  exact ⟨Ext.refl _, rx⟩
theorem stays_eq {S : Sto} {n : Nat} {l : List D} (h : stays S (some (n, l)) = true) : rdL S n = some l := by
  simp only [stays] at h
  split at h
  · rename_i r hr
    rw [hr, D.eqL_eq h]
  · cases h
theorem srv_lst {n : Nat} {ds : List D} {a : Addr} (hn : μ[n]? = some a) : Srv K mg μ H (Itl K a) ds (some (n, ds)) := by
  refine ⟨fun μ' S' H' i d g A st e => ?_, fun μ' S' H' g A st => ?_⟩
  · obtain ⟨xs, q, r⟩ := A.rd (stays_eq st) (g.pre _ _ hn)
    obtain ⟨x, hx, rx⟩ := r.get e
    refine ⟨⟨xs, x, q, hx⟩, fun y H2 hy => ?_⟩
    obtain ⟨rfl, hy⟩ := hy
    have := hy xs q
    rw [hx] at this
    cases this
    exact ⟨Ext.refl _, rx⟩
  · obtain ⟨xs, q, r⟩ := A.rd (stays_eq st) (g.pre _ _ hn)
    exact ⟨xs, q, by rw [r.length]; exact Nat.le_refl _⟩
theorem srv_str {z : Str} : Srv K mg μ H (Its z) (z.cps.toList.map fun c => .str ⟨#[c]⟩) none := by
  refine ⟨fun μ' S' H' i d g A _ e => ?_, fun μ' S' H' g A _ => by simp [Its]⟩
  simp only [List.getElem?_map, Option.map_eq_some_iff] at e
  obtain ⟨c, hc, rfl⟩ := e
  have hc' : z.cps[i]? = some c := by simpa using hc
  refine ⟨(Array.getElem?_eq_some_iff.mp hc').1, fun x H2 hy => ?_⟩
  obtain ⟨rfl, c', h1, rfl⟩ := hy
  rw [hc'] at h1
  cases h1
  exact ⟨Ext.refl _, by simp [Rep]⟩
theorem srv_rng {lo : Int} {n : Nat} : Srv K mg μ H (Itr lo n) ((List.range n).map fun (k : Nat) => .int (lo + (k : Int))) none := by
  refine ⟨fun μ' S' H' i d g A _ e => ?_, fun μ' S' H' g A _ => by simp [Itr]⟩
  simp only [List.getElem?_map, Option.map_eq_some_iff] at e
  obtain ⟨c, hc, rfl⟩ := e
  obtain ⟨h1, h2⟩ := List.getElem?_eq_some_iff.mp hc
  simp only [List.length_range] at h1
  simp only [List.getElem_range] at h2
  subst h2
  refine ⟨h1, fun x H2 hy => ?_⟩
  obtain ⟨rfl, rfl⟩ := hy
  exact ⟨Ext.refl _, by simp [Rep]⟩
end
def RZI (K : PySem.W.Frag) (mg : MG) (W : WX) (μ : List Addr) (σ : L2.St) (H : Hp) (ik : IK) (r : RL) (R : It → Hp → Prop) : Prop := match r with
  | .ok ds S' => ∃ l g, src ik ds S' = some (l, g) ∧ ∀ μ' H', Gr μ H μ' H' → AbS K mg μ' S' H' → ∀ J, Srv K mg μ' H' J l g → R J H'
  | .ex c fs S' => ∀ μ' H' cls dd, Gr μ H μ' H' → AbS K mg μ' S' H' → XR K mg μ' H' c fs cls dd → W cls dd σ H'
  | .st => False
def tSrc (K : PySem.W.Frag) (mg : MG) (W : WX) (C : Ev) (ik : IK) (es : Es) : TI := fun σ H R => ∃ μ S ρ, AbS K mg μ S H ∧ EnvR K mg μ H ρ σ ∧ RZI K mg W μ σ H ik (evL C es ρ S) R
section
variable {X : Cx} {W : WX} {C : Ev} {k : Nat}
theorem piI {tg e : Expr} {t t' : TI} (h : PI X tg e t) (k : ∀ σ H R, t' σ H R → t σ H R) : PI X tg e t' := ⟨fun pins s σ H R I q => h.run pins s σ H R I (k σ H R q)⟩
theorem evL_nil (ρ : Rho) (S : Sto) : evL C .nil ρ S = .ok [] S := by rw [evL]
theorem evL1_ok {m : E} {ρ : Rho} {S S1 : Sto} {d : D} (h : evE C m ρ S = .ok d S1) : evL C (.cons m .nil) ρ S = .ok [d] S1 := by
  rw [evL, h]
  simp only [R.bindL, evL_nil, RL.bindL]
theorem evL1_ex {m : E} {ρ : Rho} {S S1 : Sto} {c : Str} {fs : List (Str × D)} (h : evE C m ρ S = .ex c fs S1) : evL C (.cons m .nil) ρ S = .ex c fs S1 := by
  rw [evL, h]
  simp only [R.bindL]
theorem evL1_st {m : E} {ρ : Rho} {S : Sto} (h : evE C m ρ S = .st) : evL C (.cons m .nil) ρ S = .st := by
  rw [evL, h]
  simp only [R.bindL]
theorem z_seq {m : E} {tg e : Expr} (he : PE X e (TZ X W C m)) : PI X tg e (tSrc X.K X.mg W C .seq (.cons m .nil)) := by
  refine ⟨fun pins s σ H R I h => ?_⟩
  obtain ⟨μ, S, ρ, A, En, h⟩ := h
  cases hr : evE C m ρ S with
  | st => rw [evL1_st hr] at h; exact h.elim
  | ex c fs S1 =>
    rw [evL1_ex hr] at h
    exact (pi_tup he).run pins s σ H R I ⟨μ, S, ρ, A, En, by rw [hr]; exact h⟩
  | ok d S1 =>
    rw [evL1_ok hr] at h
    obtain ⟨l, g, hs, q⟩ := h
    unfold src at hs
    split at hs <;> rename_i hik hds <;> first | (cases hik; done) | skip
    · -- tuple
      cases hds
      cases hs
      refine (pi_tup he).run pins s σ H R I ⟨μ, S, ρ, A, En, ?_⟩
      rw [hr]
      intro μ' v H' g' A' r
      simp only [Rep] at r
      obtain ⟨a, xs, rfl, sq, rs⟩ := r
      exact ⟨a, rfl, ⟨xs, sq⟩, q μ' H' g' A' _ (srv_tup sq rs)⟩
    · cases hds
      cases hs
      refine (pi_str he).run pins s σ H R I ⟨μ, S, ρ, A, En, ?_⟩
      rw [hr]
      intro μ' v H' g' A' r
      simp only [Rep] at r
      subst r
      exact ⟨_, rfl, q μ' H' g' A' _ srv_str⟩
    · cases hds
      split at hs
      · rename_i n l' hl
        cases hs
        refine (pi_list he).run pins s σ H R I ⟨μ, S, ρ, A, En, ?_⟩
        rw [hr]
        intro μ' v H' g' A' r
        simp only [Rep] at r
        obtain ⟨a, e1, rfl⟩ := r
        obtain ⟨xs, sq, _⟩ := A'.rd hl e1
        exact ⟨a, rfl, ⟨xs, sq⟩, q μ' H' g' A' _ (srv_lst e1)⟩
      · cases hs
    · cases hs
theorem z_range1 (hy : Hyp X W C k) {m : E} {tg a : Expr} {p pos : Pos} (hg : Gl X "range") (hs : noStar a = true) (ha : PA X [a] (LZ X W C (.cons m .nil))) : PI X tg (.Call (.Name "range" p) [a] [] pos) (tSrc X.K X.mg W C .range (.cons m .nil)) := by
  refine piI (pi_range1 hg (hy.free _ (by decide)) ha (star_of hs)) fun σ H R h => ?_
  obtain ⟨μ, S, ρ, A, En, h⟩ := h
  refine ⟨μ, S, ρ, A, En, ?_⟩
  cases hr : evE C m ρ S with
  | st => rw [evL1_st hr] at h; exact h.elim
  | ex c fs S1 => rw [evL1_ex hr] at h ⊢; exact h
  | ok d S1 =>
    rw [evL1_ok hr] at h ⊢
    obtain ⟨l, g, hs, q⟩ := h
    intro μ' vs H' g' A' r
    obtain ⟨v, rfl, r1⟩ := r.inv1
    unfold src at hs
    split at hs <;> rename_i hik hds <;> first | (cases hik; done) | skip
    · cases hds
      split at hs
      · rename_i hh
        cases hs
        simp only [Rep] at r1
        subst r1
        refine ⟨_, rfl, hh.1, hh.2, q μ' H' g' A' _ ?_⟩
        rename_i i
        have := srv_rng (K := X.K) (mg := X.mg) (μ := μ') (H := H') (lo := 0) (n := i.toNat)
        simpa using this
      · cases hs
    · cases hds
    · cases hs
theorem evL2_ok {m m2 : E} {ρ : Rho} {S S' : Sto} {ds : List D} (h : evL C (.cons m (.cons m2 .nil)) ρ S = .ok ds S') : ∃ d e, ds = [d, e] := by
  rw [evL] at h
  cases hr : evE C m ρ S with
  | st => rw [hr] at h; cases h
  | ex c fs S1 => rw [hr] at h; cases h
  | ok d S1 =>
    rw [hr] at h
    simp only [R.bindL] at h
    cases hr2 : evE C m2 ρ S1 with
    | st => rw [evL1_st hr2] at h; cases h
    | ex c fs S1 => rw [evL1_ex hr2] at h; cases h
    | ok e S2 =>
      rw [evL1_ok hr2] at h
      simp only [RL.bindL] at h
      cases h
      exact ⟨d, e, rfl⟩
theorem z_range2 (hy : Hyp X W C k) {m m2 : E} {tg a b : Expr} {p pos : Pos} (hg : Gl X "range") (hs : noStar a = true) (hs2 : noStar b = true) (ha : PA X [a, b] (LZ X W C (.cons m (.cons m2 .nil)))) : PI X tg (.Call (.Name "range" p) [a, b] [] pos) (tSrc X.K X.mg W C .range (.cons m (.cons m2 .nil))) := by
  refine piI (pi_range2 hg (hy.free _ (by decide)) ha (by rw [star_of hs, star_of hs2]; rfl) (by rw [star_of hs2]; rfl)) fun σ H R h => ?_
  obtain ⟨μ, S, ρ, A, En, h⟩ := h
  refine ⟨μ, S, ρ, A, En, ?_⟩
  cases hr : evL C (.cons m (.cons m2 .nil)) ρ S with
  | st => rw [hr] at h; exact h.elim
  | ex c fs S1 => rw [hr] at h; exact h
  | ok ds S1 =>
    rw [hr] at h
    obtain ⟨d, e, rfl⟩ := evL2_ok hr
    obtain ⟨l, g, hs, q⟩ := h
    intro μ' vs H' g' A' r
    obtain ⟨v, v2, rfl, r1, r2⟩ := r.inv2
    unfold src at hs
    split at hs <;> rename_i hik hds <;> first | (cases hik; done) | skip
    · cases hds
    · cases hds
      split at hs
      · rename_i hh
        cases hs
        simp only [Rep] at r1 r2
        subst r1
        subst r2
        exact ⟨_, _, rfl, ⟨hh.1.1, hh.1.2, hh.2.1, hh.2.2⟩, q μ' H' g' A' _ srv_rng⟩
      · cases hs
    · cases hs
/-! ### comprehensions -/
theorem wipe_wipe {σ : L2.St} {vs : List Nat} : L2.wipe (L2.wipe σ vs) vs = L2.wipe σ vs := by
  apply List.ext_getElem?
  intro j
  rw [wipe_get, wipe_get, wipe_length]
  by_cases hj : j ∈ vs
  · simp [hj]
  · simp [hj]
theorem Gl.blk {s : Shared} {H : Hp} {scope : Scope} {cenv : Env} {fp : List Addr} {x : Str} (h : cenv.scope.names.lookup x = some .globalImplicit) : Gl (X.blk s H scope cenv fp) x := h
/-- no exception gets out of a comprehension -/
def W0 : WX := fun _ _ _ _ => False
theorem Hyp.blk (hy : Hyp X W C k) {s : Shared} {H : Hp} {scope : Scope} {cl : List (Str × Addr)} {L : Addr} {fp : List Addr} (hk : scope.kind = .function) (he : (scope.names.lookup Str.empty == some NameKind.cell) = false) : Hyp (X.blk s H scope (compEnvC scope cl L X.env) fp) W0 C k :=
  ⟨hy.calm, hy.nd, hy.room, fun u s' ⟨_, _, _, _, _, _, _, _, _, _, _, _, _, _, _, _, w⟩ => w, hk, hy.free, hy.gt, hy.gd, hy.cf, hy.ins, hy.make, hy.xf, hy.xm, hy.td, hy.low, hy.uq, fun z => by
    have z' : (scope.names.lookup Str.empty == some NameKind.cell) = true := z
    rw [he] at z'
    cases z'⟩
/-- one clause -/
def tIfs (X : Cx) (C : Ev) (c : E) : TT := BZ X W0 C c
theorem lc_pg (hy : Hyp X W C k) {q : P} {tg : Expr} {scope : Scope} (hq : chkP X.N scope q tg = true) : ∀ (s : Shared) (H : Hp) (L : Addr) (cl : List (Str × Addr)) (fp : List Addr), PG (X.blk s H scope (compEnvC scope cl L X.env) fp) tg (tP X.K X.mg q) := by
    intro s H L cl fp
    refine pgP (X := X.blk s H scope (compEnvC scope cl L X.env) fp) hy.calm hy.nd (sc := scope) (fun y hy => ?_) q tg hq
    unfold locB at hy
    split at hy
    · rename_i e
      have e2 := lookup_relS_keep (sc := X.env.scope) (by decide) e
      exact ⟨.inl e2, .inr e2⟩
    · rename_i e
      have e2 := lookup_relS_keep (sc := X.env.scope) (by decide) e
      exact ⟨.inr e2, .inl (by show (scope.names.lookup y == some NameKind.cell) = true; rw [e]; rfl)⟩
    · cases hy
theorem lcT (hy : Hyp X W C k) {own : List (Str × Nat)} {q : P} {ik : IK} {es : Es} {c el : E} {tg : Expr} {scope : Scope} (hb : blkC X.N X.env.scope scope own = true) (hq : chkP X.N scope q tg = true) :
    ∀ σ H Q, TZ X W C (.lc own q ik es c el) σ H Q → tLc (tSrc X.K X.mg W C ik es) (tP X.K X.mg q) (BZ X W0 C c) (TZ X W0 C el) (own.map (·.2)) σ H Q := by
  have ok := blkOk_by hb
  have hown : ∀ i ∈ P.vars q, i ∈ own.map (·.2) := by
    intro i hi
    obtain ⟨y, h1, h2⟩ := vars_of q tg hq i hi
    have hm : ∃ kd, (y, kd) ∈ scope.names ∧ (kd = .local ∨ kd = .cell) := by
      unfold locB at h2
      split at h2
      · rename_i e; exact ⟨_, PySem.mem_of_lookup e, .inl rfl⟩
      · rename_i e; exact ⟨_, PySem.mem_of_lookup e, .inr rfl⟩
      · cases h2
    obtain ⟨kd, h3, h4⟩ := hm
    rcases ok.own (y, kd) h3 h4 with h5 | h5
    · obtain ⟨p, hp, e⟩ := List.mem_map.mp h5
      have := ok.ix p hp
      have e' : p.1 = y := e
      rw [e'] at this
      have hi2 : p.2 = i := by
        obtain ⟨l1, e1⟩ := List.getElem?_eq_some_iff.mp this
        obtain ⟨l2, e2⟩ := List.getElem?_eq_some_iff.mp h1
        exact (List.getElem_inj hy.nd).mp (e1.trans e2.symm)
      exact List.mem_map.mpr ⟨p, hp, hi2⟩
    · exact absurd (List.mem_iff_getElem?.mpr ⟨i, h1⟩) h5
  intro σ H Q h
  obtain ⟨μ, S, ρ, A, En, h⟩ := h
  rw [evE] at h
  refine ⟨μ, S, ρ, A, En, ?_⟩
  cases hr : evL C es ρ S with
  | st => rw [hr] at h; exact h.elim
  | ex c fs S1 => rw [hr] at h; exact h
  | ok ds S1 =>
    rw [hr] at h
    simp only [RL.bind] at h
    cases hsrc : src ik ds S1 with
    | none => rw [hsrc] at h; exact h.elim
    | some lg =>
      obtain ⟨l, g⟩ := lg
      rw [hsrc] at h
      refine ⟨l, g, hsrc, fun μ1 H1 g1 A1 J sv D hD => ?_⟩
      have xt : Ext H1 (upd H1 D (.lst [])) := Ext.new hD
      have A2 := A1.newL (ds := []) (vs := []) hD .nil
      have gg : Gr μ1 H1 (μ1 ++ [D]) (upd H1 D (.lst [])) := Gr.snoc xt
      have hn : (μ1 ++ [D])[S1.length]? = some D := by rw [← A1.len]; simp
      have En2 := ((En.mono g1).wipe (own.map (·.2))).mono gg
      have h2 : RZ X.K X.mg W (μ1 ++ [D]) σ (upd H1 D (.lst [])) (lcGo q (evE C c) (evE C el) (wipe ρ (own.map (·.2))) S1.length g l (S1 ++ [.lst []])) Q := RZ.gr (g1.trans gg) h
      refine ⟨fun i m H => m = l.length - i ∧ i ≤ l.length ∧ ∃ μ S, Gr (μ1 ++ [D]) (upd H1 D (.lst [])) μ H ∧ AbS X.K X.mg μ S H ∧ RZ X.K X.mg W μ σ H (lcGo q (evE C c) (evE C el) (wipe ρ (own.map (·.2))) S1.length g (l.drop i) S) Q,
        ⟨l.length, by simp, Nat.zero_le _, _, _, Gr.refl _ _, A2, by simpa using h2⟩, ?_⟩
      rintro i m H ⟨rfl, hi, μ, S, gr, A, h⟩
      have hn' := gr.pre _ _ hn
      by_cases hlt : i < l.length
      · refine .inr ?_
        rw [List.drop_eq_getElem_cons hlt, lcGo] at h
        split at h
        · rename_i hst
          obtain ⟨sg, sy⟩ := sv.go μ S H i l[i] (gg.trans gr) A hst (by simp [hlt])
          refine ⟨sg, fun H' => ∃ μ' S', Gr (μ1 ++ [D]) (upd H1 D (.lst [])) μ' H' ∧ AbS X.K X.mg μ' S' H' ∧ RZ X.K X.mg W μ' σ H' (lcGo q (evE C c) (evE C el) (wipe ρ (own.map (·.2))) S1.length g (l.drop (i + 1)) S') Q,
            fun H' ⟨μ', S', p1, p2, p3⟩ => ⟨l.length - (i + 1), by omega, rfl, hlt, μ', S', p1, p2, p3⟩, fun x H' yl => ?_⟩
          obtain ⟨xe, rx⟩ := sy x H' yl
          have g3 : Gr μ H μ H' := Gr.ext xe
          have A3 := A.ext xe
          split at h
          · rename_i ρ' ha
            refine ⟨μ, l[i], _, ρ', rx, (En2.mono gr).mono g3, ha, fun σ2 En3 hw => ⟨(hw _ hown).trans wipe_wipe, μ, S, ρ', A3, En3, ?_⟩⟩
            have h4 := RZ.gr g3 h
            cases hc : evE C c ρ' S with
            | st => rw [hc] at h4; exact h4.elim
            | ex c fs S1 => rw [hc] at h4; exact h4.elim
            | ok d S4 =>
              intro μ5 v H5 g5 A5 r5
              rw [hc] at h4
              cases d <;> try exact h4.elim
              rename_i b
              simp only [Rep] at r5
              refine ⟨b, r5, ?_⟩
              cases b with
              | false =>
                rw [if_neg Bool.false_ne_true]
                exact ⟨μ5, S4, gr.trans (g3.trans g5), A5, RZ.gr g5 h4⟩
              | true =>
                rw [if_pos rfl]
                refine ⟨μ5, S4, ρ', A5, En3.mono g5, ?_⟩
                have h5 := RZ.gr g5 h4
                simp only at h5
                cases he : evE C el ρ' S4 with
                | st => rw [he] at h5; exact h5.elim
                | ex c fs S1 => rw [he] at h5; exact h5.elim
                | ok y S6 =>
                  intro μ6 w H6 g6 A6 r6
                  rw [he] at h5
                  simp only at h5
                  have hn6 := g6.pre _ _ (g5.pre _ _ (g3.pre _ _ hn'))
                  split at h5
                  · rename_i acc hacc
                    split at h5
                    · rename_i hz
                      obtain ⟨vs, ev, rv⟩ := A6.lst hacc hn6
                      refine ⟨vs, ev, by rw [← LINE_eq, ← rv.length]; exact hz, ?_⟩
                      have gput : Gr μ6 H6 μ6 (upd H6 D (.lst (vs ++ [w]))) := ⟨fun _ _ h => h, fun b xs h => by
                        rw [upd_ne (fun z => by subst z; rw [ev] at h; cases h)]; exact h, fun b o w h => by
                        rw [upd_ne (fun z => by subst z; rw [ev] at h; cases h)]; exact h⟩
                      obtain ⟨A7, g7⟩ := A6.put (o := .lst (acc ++ [y])) hn6 ev (fun _ z => nomatch z) (fun _ _ z => nomatch z) (fun _ z => nomatch z) noTab_lst ⟨vs ++ [w], upd_same, (rv.app (.cons r6 .nil)).mono gput⟩
                      exact ⟨μ6, _, gr.trans (g3.trans (g5.trans (g6.trans g7))), A7, RZ.gr (g6.trans g7) h5⟩
                    · exact h5.elim
                  · exact h5.elim
          · exact h.elim
        · exact h.elim
      · have hi' : i = l.length := by omega
        subst hi'
        rw [List.drop_length, lcGo] at h
        split at h
        · rename_i hst
          refine .inl ⟨sv.stop μ S H (gg.trans gr) A hst, h μ (.ref D) H (Gr.refl _ _) A ?_⟩
          simp only [Rep]
          exact ⟨D, hn', rfl⟩
        · exact h.elim
theorem z_lc (hy : Hyp X W C k) {own : List (Str × Nat)} {q : P} {ik : IK} {es : Es} {c el : E} {x tg iter : Expr} {ifs : List Expr} {scope : Scope} {pos : Pos} (hi : PI X tg iter (tSrc X.K X.mg W C ik es)) (hb : blkC X.N X.env.scope scope own = true) (hq : chkP X.N scope q tg = true) (hs : noSet iter = true)
    (ht : ∀ (s : Shared) (H : Hp) (L : Addr) (cl : List (Str × Addr)) (fp : List Addr), PTs (X.blk s H scope (compEnvC scope cl L X.env) fp) ifs (BZ X W0 C c))
    (he : ∀ (s : Shared) (H : Hp) (L : Addr) (cl : List (Str × Addr)) (fp : List Addr), PE (X.blk s H scope (compEnvC scope cl L X.env) fp) x (TZ X W0 C el)) :
    PE X (.ListComp x [⟨tg, iter, ifs, 0⟩] scope pos) (TZ X W C (.lc own q ik es c el)) :=
  peI (pe_lc hy.calm hy.nd hi (blkOk_by hb) (lc_pg hy hq) ht he (folded_of hs)) (lcT hy hb hq)
theorem z_setLc (hy : Hyp X W C k) {i : Nat} {y : Str} {py : Pos} {spos : Pos} {own : List (Str × Nat)} {q : P} {ik : IK} {es : Es} {c el : E} {x tg iter : Expr} {ifs : List Expr} {scope : Scope} {pos : Pos} (hN : X.N[i]? = some y) (hyl : X.env.scope.names.lookup y = some .local) (hsw : swapsWith (.ListComp x [⟨tg, iter, ifs, 0⟩] scope pos) (some (.Name y py)) spos.line X.env = pure true)
    (hi : PI X tg iter (tSrc X.K X.mg W C ik es)) (hb : blkC X.N X.env.scope scope own = true) (hq : chkP X.N scope q tg = true) (hs : noSet iter = true)
    (ht : ∀ (s : Shared) (H : Hp) (L : Addr) (cl : List (Str × Addr)) (fp : List Addr), PTs (X.blk s H scope (compEnvC scope cl L X.env) fp) ifs (BZ X W0 C c))
    (he : ∀ (s : Shared) (H : Hp) (L : Addr) (cl : List (Str × Addr)) (fp : List Addr), PE (X.blk s H scope (compEnvC scope cl L X.env) fp) x (TZ X W0 C el)) :
    PS X (.Assign [.Name y py] (.ListComp x [⟨tg, iter, ifs, 0⟩] scope pos) spos) (tAsg (TZ X W C (.lc own q ik es c el)) (gName i)) :=
  ⟨fun pins s σ H D I h => (ps_setLc hy.calm hy.nd hN hyl hsw hi (blkOk_by hb) (lc_pg hy hq) ht he (folded_of hs)).run pins s σ H D I (lcT hy hb hq _ _ _ h)⟩
end
end Z
set_option maxHeartbeats 4000000
/-! Z11: what is checked does as the evaluator says: expressions -/
namespace Z
open PySem PySem.Spec PyProof.Rows L2
structure SndL (X : Cx) (W : WX) (C : Ev) (es : Es) (l : List Expr) : Prop where
  pa : PA X l (LZ X W C es)
  hd : ∀ m r, es = .cons m r → ∃ x xs, l = x :: xs ∧ noStar x = true ∧ PE X x (TZ X W C m)
  nil : l = [] → es = .nil
  two : ∀ m r, es = .cons m r → ∀ m2 r2, r = .cons m2 r2 → ∃ x y xs, l = x :: y :: xs ∧ noStar x = true ∧ noStar y = true
section
variable {X : Cx} {W : WX} {C : Ev} {k : Nat}
theorem z_src (hy : Hyp X W C k) {ik : IK} {tg iter : Expr} {es : Es} {args : List Expr} (hs : srcShape X.env.scope ik iter = some args) (h : SndL X W C es args) (hc : chkL (X.fn Str.empty) X.N X.env.scope es args = true) : PI X tg iter (tSrc X.K X.mg W C ik es) := by
  unfold srcShape at hs
  split at hs
  · cases hs
    cases es with
    | nil => simp [chkL] at hc
    | star e r => simp [chkL] at hc
    | cons m r =>
      cases r with
      | cons m2 r => simp [chkL] at hc
      | star m2 r => simp [chkL] at hc
      | nil =>
        obtain ⟨x, xs, e, _, p⟩ := h.hd m .nil rfl
        cases e
        exact z_seq p
  · split at hs
    · split at hs
      · rename_i hh
        cases hs
        simp only [Bool.and_eq_true, decide_eq_true_eq, Bool.or_eq_true, beq_iff_eq] at hh
        obtain ⟨rfl, hg, hn, hl⟩ := hh
        have hg := gl_of hg
        cases es with
        | nil => cases args with
          | nil => simp at hl
          | cons a r => simp [chkL] at hc
        | star e r => simp [chkL] at hc
        | cons m r =>
          cases r with
          | star m2 r => cases args with
            | nil => simp at hl
            | cons a r => simp [chkL] at hc
          | nil =>
            cases args with
            | nil => simp at hl
            | cons a r =>
              cases r with
              | cons b r => simp [chkL] at hc
              | nil =>
                simp only [allNoStar, Bool.and_eq_true] at hn
                exact z_range1 hy hg hn.1 h.pa
          | cons m2 r =>
            cases args with
            | nil => simp at hl
            | cons a r1 =>
              cases r1 with
              | nil => simp [chkL] at hc
              | cons b r2 =>
                cases r2 with
                | cons c r2 => simp at hl
                | nil =>
                  cases r with
                  | cons m3 r => simp [chkL] at hc
                  | star m3 r => simp [chkL] at hc
                  | nil =>
                    simp only [allNoStar, Bool.and_eq_true] at hn
                    exact z_range2 hy hg hn.1 hn.2.1 h.pa
      · cases hs
    · cases hs
  · cases hs
theorem ptsI {ifs : List Expr} {t t' : TT} (h : PTs X ifs t) (k : ∀ σ H Q, t' σ H Q → t σ H Q) : PTs X ifs t' := ⟨fun pins s σ H Q I q => h.run pins s σ H Q I (k σ H Q q)⟩
theorem pts_true : PTs X [] (BZ X W C (.k (.bl true))) := by
  refine ptsI pts_nil fun σ H Q h => ?_
  obtain ⟨μ, S, ρ, A, En, h⟩ := h
  rw [evE] at h
  obtain ⟨c, e, q⟩ := h μ (.bl true) H (Gr.refl _ _) A (by simp [Rep])
  cases e
  exact q
theorem pkI {kws : List Keyword} {t t' : TA} (h : PK X kws t) (k : ∀ σ H Q, t' σ H Q → t σ H Q) : PK X kws t' := ⟨fun pos pins s σ H Q I q => h.run pos pins s σ H Q I (k σ H Q q)⟩
theorem z_nilT {σ : L2.St} {H : Hp} {Q : List V → Hp → Prop} (h : LZ X W C .nil σ H Q) : tNil σ H Q := by
  obtain ⟨μ, S, ρ, A, En, h⟩ := h
  rw [evL] at h
  exact h μ [] H (Gr.refl _ _) A .nil
theorem z_consT {e : E} {r : Es} {σ : L2.St} {H : Hp} {Q : List V → Hp → Prop} (h : LZ X W C (.cons e r) σ H Q) : tCons (TZ X W C e) (LZ X W C r) σ H Q := by
  obtain ⟨μ, S, ρ, A, En, h⟩ := h
  rw [evL] at h
  exact ⟨μ, S, ρ, A, En, RZ.bindL h fun d S1 μ1 v H1 g1 A1 r1 h1 => ⟨μ1, S1, ρ, A1, En.mono g1, RZL.bindL h1 fun ds S2 μ2 vs H2 g2 A2 r2 h2 => h2 μ2 _ H2 (Gr.refl _ _) A2 (.cons (r1.mono g2) r2)⟩⟩
mutual
theorem sE (C : Ev) (k : Nat) : ∀ (m : E) (X : Cx) (W : WX) (e : Expr), Hyp X W C k → chkE (X.fn Str.empty) X.N X.env.scope m e = true → Snd X W C m e
  | .k c, X, W, e, hy, h => by
    simp only [chkE] at h
    split at h
    · exact Snd.of (z_k h) rfl fun _ => rfl
    · cases h
  | .v i, X, W, e, hy, h => by
    simp only [chkE] at h
    split at h
    · simp only [Bool.and_eq_true, decide_eq_true_eq] at h
      exact Snd.of (z_v h.1 (vis_of h.2.1) (okN_of h.2.2)) rfl fun _ => rfl
    · cases h
  | .g x, X, W, e, hy, h => by
    simp only [chkE] at h
    split at h
    · simp only [Bool.and_eq_true, decide_eq_true_eq] at h
      obtain ⟨rfl, h1, h2⟩ := h
      exact Snd.of (z_g hy (gl_of h1) (okN_of h2)) rfl fun _ => rfl
    · cases h
  | .bin o a b, X, W, e, hy, h => by
    simp only [chkE] at h
    split at h
    · simp only [Bool.and_eq_true] at h
      obtain ⟨h1, h2, h3⟩ := h
      rw [bo_of h1]
      exact Snd.of (z_bin (sE C k a X W _ hy h2).pe (sE C k b X W _ hy h3).pe) rfl fun _ => rfl
    · cases h
  | .neg a, X, W, e, hy, h => by
    simp only [chkE] at h
    split at h
    · exact Snd.of (z_neg (sE C k a X W _ hy h).pe) rfl fun _ => rfl
    · cases h
  | .cmp o a b, X, W, e, hy, h => by
    simp only [chkE] at h
    split at h
    · simp only [Bool.and_eq_true] at h
      obtain ⟨h1, h2, h3, h4⟩ := h
      rw [co_of h1]
      exact z_cmp hy (sE C k a X W _ hy h3).pe (sE C k b X W _ hy h4).pe h2
    · cases h
  | .isN a, X, W, e, hy, h => by
    simp only [chkE] at h
    split at h
    · exact z_isN (sE C k a X W _ hy h).pe
    · cases h
  | .notN a, X, W, e, hy, h => by
    simp only [chkE] at h
    split at h
    · exact z_notN (sE C k a X W _ hy h).pe
    · cases h
  | .chain o q a b c, X, W, e, hy, h => by
    simp only [chkE] at h
    split at h
    · simp only [Bool.and_eq_true] at h
      obtain ⟨⟨h1, h2⟩, ⟨h3, h4⟩, h5, h6, h7⟩ := h
      rw [co_of h1, co_of h2]
      exact z_chain hy (sE C k a X W _ hy h5).pe (sE C k b X W _ hy h6).pe (sE C k c X W _ hy h7).pe h3 h4
    · cases h
  | .and a b, X, W, e, hy, h => by
    simp only [chkE] at h
    split at h
    · simp only [Bool.and_eq_true] at h
      exact z_and2 (sE C k a X W _ hy h.1) (sE C k b X W _ hy h.2)
    · simp only [Bool.and_eq_true] at h
      exact z_and3 (sE C k a X W _ hy h.1) (sE C k b X W _ hy h.2)
    · cases h
  | .or a b, X, W, e, hy, h => by
    simp only [chkE] at h
    split at h
    · simp only [Bool.and_eq_true] at h
      exact z_or2 (sE C k a X W _ hy h.1) (sE C k b X W _ hy h.2)
    · simp only [Bool.and_eq_true] at h
      exact z_or3 (sE C k a X W _ hy h.1) (sE C k b X W _ hy h.2)
    · cases h
  | .not a, X, W, e, hy, h => by
    simp only [chkE] at h
    split at h
    · exact z_not (sE C k a X W _ hy h)
    · cases h
  | .ife c a b, X, W, e, hy, h => by
    simp only [chkE] at h
    split at h
    · simp only [Bool.and_eq_true] at h
      obtain ⟨h1, h2, h3⟩ := h
      exact z_ife (sE C k c X W _ hy h1) (sE C k a X W _ hy h2) (sE C k b X W _ hy h3)
    · cases h
  | .tup es, X, W, e, hy, h => by
    simp only [chkE] at h
    split at h
    · exact Snd.of (z_tup (sL C k es X W _ hy h).pa) rfl fun _ => rfl
    · cases h
  | .lst es, X, W, e, hy, h => by
    simp only [chkE] at h
    split at h
    · exact Snd.of (z_lst (sL C k es X W _ hy h).pa) rfl fun _ => rfl
    · cases h
  | .att a f, X, W, e, hy, h => by
    simp only [chkE] at h
    split at h
    · simp only [Bool.and_eq_true, decide_eq_true_eq] at h
      obtain ⟨rfl, h1, h2, h3⟩ := h
      exact Snd.of (z_att (sE C k a X W _ hy h3).pe h1 h2) rfl fun _ => rfl
    · cases h
  | .idx a i, X, W, e, hy, h => by
    simp only [chkE] at h
    split at h
    · simp only [Bool.and_eq_true] at h
      obtain ⟨h1, h2, h3⟩ := h
      exact Snd.of (z_idx hy (sE C k a X W _ hy h2).pe (sE C k i X W _ hy h3).pe h1) rfl fun _ => rfl
    · cases h
  | .sl a lo hi, X, W, e, hy, h => by
    simp only [chkE] at h
    split at h
    · simp only [Bool.and_eq_true] at h
      obtain ⟨h1, h2, h3⟩ := h
      exact Snd.of (z_sl (sE C k a X W _ hy h1).pe (sO C k lo X W _ hy h2) (sO C k hi X W _ hy h3)) rfl fun _ => rfl
    · cases h
  | .call f es, X, W, e, hy, h => by
    simp only [chkE] at h
    split at h
    · simp only [Bool.and_eq_true, decide_eq_true_eq] at h
      obtain ⟨rfl, ⟨h1, h2⟩, h3, h4⟩ := h
      have q := sL C k es X W _ hy h4
      exact Snd.of (z_call hy (gl_of h1) (okN_of h2) h3 q.nil q.pa) rfl fun _ => rfl
    · cases h
  | .callk f es ks vs, X, W, e, hy, h => by
    simp only [chkE] at h
    split at h
    · rename_i q hq
      obtain ⟨p, pos, rfl⟩ := callSh_of hq
      simp only [Bool.and_eq_true, decide_eq_true_eq] at h
      obtain ⟨rfl, ⟨h1, h2⟩, ⟨h3, h5⟩, h4, h6⟩ := h
      have q1 := sL C k es X W _ hy h4
      exact Snd.of (z_callk hy (gl_of h1) (okN_of h2) h3 q1.nil h5 q1.pa (sK C k vs X W _ hy h6)) rfl fun _ => rfl
    · cases h
  | .told f b, X, W, e, hy, h => by
    simp only [chkE] at h
    split at h
    · rename_i q hq
      obtain ⟨p, lp, pos, rfl⟩ := toldSh_of hq
      simp only [Bool.and_eq_true, decide_eq_true_eq] at h
      obtain ⟨h0, ⟨rfl, h1, h2⟩, h3, h4⟩ := h
      exact Snd.of (z_told hy (gl_of h1) (okN_of h2) h0 h3 h4) rfl fun _ => rfl
    · cases h
  | .mk c es, X, W, e, hy, h => by
    simp only [chkE] at h
    split at h
    · simp only [Bool.and_eq_true, decide_eq_true_eq] at h
      obtain ⟨rfl, ⟨h1, h2⟩, h3, h4⟩ := h
      have q := sL C k es X W _ hy h4
      exact Snd.of (z_mk hy (gl_of h1) (okN_of h2) h3 q.nil q.pa) rfl fun _ => rfl
    · cases h
  | .calv i es, X, W, e, hy, h => by
    simp only [chkE] at h
    split at h
    · simp only [Bool.and_eq_true, decide_eq_true_eq] at h
      obtain ⟨⟨h0, h1, h2⟩, h3, h5, h4⟩ := h
      have q := sL C k es X W _ hy h4
      exact Snd.of (z_calv hy h0 (vis_of h1) (okN_of h2) h3 q.nil q.pa) rfl fun _ => rfl
    · cases h
  | .met o m es, X, W, e, hy, h => by
    simp only [chkE] at h
    split at h
    · simp only [Bool.and_eq_true, decide_eq_true_eq] at h
      obtain ⟨⟨rfl, h1⟩, h2, ⟨h3, h4⟩, h5, h6⟩ := h
      have q := sL C k es X W _ hy h6
      exact Snd.of (z_met hy (sE C k o X W _ hy h5).pe h1 h2 h3 h4 q.nil q.pa) rfl fun _ => rfl
    · cases h
  | .bi b es, X, W, e, hy, h => by
    simp only [chkE] at h
    split at h
    · simp only [Bool.and_eq_true, decide_eq_true_eq] at h
      obtain ⟨rfl, ⟨h1, h2⟩, h3, h4⟩ := h
      have q := sL C k es X W _ hy h4
      rename_i args _
      cases args with
      | nil => simp at h2
      | cons a r => exact Snd.of (z_bi hy (gl_of h1) h3 q.pa) rfl fun _ => rfl
    · cases h
  | .isi a cs, X, W, e, hy, h => by
    simp only [chkE] at h
    split at h
    · simp only [Bool.and_eq_true, decide_eq_true_eq] at h
      obtain ⟨rfl, ⟨h1, h2, h3⟩, h4, h5⟩ := h
      have q := sE C k a X W _ hy h4
      split at h5
      · simp only [Bool.and_eq_true, decide_eq_true_eq] at h5
        exact Snd.of (z_isiT hy (gl_of h1) q.pe h2 h5.1 h5.2) rfl fun _ => rfl
      · split at h5
        · exact Snd.of (z_isi1 hy (gl_of h1) q.pe h2 h5) rfl fun _ => rfl
        · cases h5
    · cases h
  | .bm b o es, X, W, e, hy, h => by
    simp only [chkE] at h
    split at h
    · simp only [Bool.and_eq_true, decide_eq_true_eq] at h
      obtain ⟨⟨rfl, h0, h1⟩, h2, ⟨h3, h4⟩, h5, h6⟩ := h
      have q := sL C k es X W _ hy h6
      exact Snd.of (z_bm h0 (sE C k o X W _ hy h5).pe h1 h2 h3 h4 q.nil q.pa) rfl fun _ => rfl
    · cases h
  | .lc own q ik es c el, X, W, e, hy, h => by
    simp only [chkE] at h
    split at h
    · rename_i x tg iter ifs scope pos
      simp only [Bool.and_eq_true] at h
      obtain ⟨⟨⟨h1, h0⟩, h2⟩, ⟨h3, h4⟩, h5, h6⟩ := h
      have h0 : (scope.names.lookup Str.empty == some NameKind.cell) = false := by simpa using h0
      split at h4
      · rename_i args ha
        have hk := (blkOk_by h1).kind
        refine Snd.of (z_lc hy (z_src hy ha (sL C k es X W _ hy h4) h4) h1 h2 h3 (fun s H L cl fp => ?_) fun s H L cl fp => (sE C k el (X.blk s H scope (compEnvC scope cl L X.env) fp) W0 x (hy.blk hk h0) (by rw [show (X.blk s H scope (compEnvC scope cl L X.env) fp).fn Str.empty = false from h0]; exact h6)).pe) rfl fun _ => rfl
        split at h5
        · split at h5
          · exact pts_true
          · cases h5
        · exact pts_one (sE C k c (X.blk s H scope (compEnvC scope cl L X.env) fp) W0 _ (hy.blk hk h0) (by rw [show (X.blk s H scope (compEnvC scope cl L X.env) fp).fn Str.empty = false from h0]; exact h5)).pt
        · cases h5
      · cases h4
    · cases h
  | .nev, X, W, e, hy, h => by
    have no : ∀ σ H Q, TZ X W C .nev σ H Q → False := fun σ H Q ⟨μ, S, ρ, A, En, h⟩ => by rw [evE] at h; exact h
    exact ⟨⟨fun pins s σ H Q I h => (no σ H Q h).elim⟩, ⟨fun pins s σ H Q I h => (no σ H _ h).elim⟩, fun _ => ⟨fun wh pins s σ H Q I h => (no σ H _ h).elim⟩⟩
theorem sL (C : Ev) (k : Nat) : ∀ (m : Es) (X : Cx) (W : WX) (e : List Expr), Hyp X W C k → chkL (X.fn Str.empty) X.N X.env.scope m e = true → SndL X W C m e
  | .nil, X, W, e, hy, h => by
    simp only [chkL] at h
    split at h
    · exact ⟨z_nil, fun _ _ z => (nomatch z), fun _ => rfl, fun _ _ z => (nomatch z)⟩
    · cases h
  | .cons a r, X, W, e, hy, h => by
    simp only [chkL] at h
    split at h
    · rename_i x xs
      simp only [Bool.and_eq_true] at h
      have q1 := sE C k a X W _ hy h.2.1
      have q2 := sL C k r X W _ hy h.2.2
      refine ⟨z_cons q1.pe q2.pa h.1, fun m r e => ?_, fun z => (nomatch z), fun m r e m2 r2 e2 => ?_⟩
      · cases e
        exact ⟨x, xs, rfl, h.1, q1.pe⟩
      · cases e
        obtain ⟨y, ys, e3, h3, _⟩ := q2.hd m2 r2 e2
        exact ⟨x, y, ys, by rw [e3], h.1, h3⟩
    · cases h
  | .star a r, X, W, e, hy, h => by
    simp only [chkL] at h
    cases h
theorem sK (C : Ev) (k : Nat) : ∀ (m : Es) (X : Cx) (W : WX) (kws : List Keyword), Hyp X W C k → chkL (X.fn Str.empty) X.N X.env.scope m (kws.map (·.value)) = true → PK X kws (LZ X W C m)
  | .nil, X, W, kws, hy, h => by
    cases kws with
    | nil => exact pkI pk_nil fun σ H Q h => z_nilT h
    | cons w ws => simp [chkL] at h
  | .cons a r, X, W, kws, hy, h => by
    cases kws with
    | nil => simp [chkL] at h
    | cons w ws =>
      obtain ⟨nm, v, kp⟩ := w
      simp only [List.map_cons, chkL, Bool.and_eq_true] at h
      exact pkI (pk_cons (sE C k a X W _ hy h.2.1).pe (sK C k r X W ws hy h.2.2)) fun σ H Q h => z_consT h
  | .star a r, X, W, kws, hy, h => by
    simp only [chkL] at h
    cases h
theorem sO (C : Ev) (k : Nat) : ∀ (m : Op) (X : Cx) (W : WX) (e : Option Expr), Hyp X W C k → chkO (X.fn Str.empty) X.N X.env.scope m e = true → PO X e (tO X.K X.mg W C m)
  | .no, X, W, e, hy, h => by
    simp only [chkO] at h
    split at h
    · exact z_no
    · cases h
  | .so a, X, W, e, hy, h => by
    simp only [chkO] at h
    split at h
    · exact z_so (sE C k a X W _ hy h).pe
    · cases h
end
end
end Z
set_option maxHeartbeats 4000000
/-! Z12: statements -/
namespace Z
open PySem PySem.Spec PyProof.Rows L2
def RZS (K : PySem.W.Frag) (mg : MG) (W : WX) (μ : List Addr) (H : Hp) (r : RS) (D : Ends) : Prop := match r with
  | .nx ρ' S' => ∀ μ' σ' H', Gr μ H μ' H' → AbS K mg μ' S' H' → EnvR K mg μ' H' ρ' σ' → D.nx σ' H'
  | .rt d S' => ∀ μ' v H', Gr μ H μ' H' → AbS K mg μ' S' H' → Rep K mg μ' H' d v → D.rt v H'
  | .bk ρ' S' => ∀ μ' σ' H', Gr μ H μ' H' → AbS K mg μ' S' H' → EnvR K mg μ' H' ρ' σ' → D.bk σ' H'
  | .ct ρ' S' => ∀ μ' σ' H', Gr μ H μ' H' → AbS K mg μ' S' H' → EnvR K mg μ' H' ρ' σ' → D.ct σ' H'
  | .ex c fs ρ' S' => ∀ μ' σ' H' cls dd, Gr μ H μ' H' → AbS K mg μ' S' H' → EnvR K mg μ' H' ρ' σ' → XR K mg μ' H' c fs cls dd → W cls dd σ' H'
  | .st => False
section
variable {K : PySem.W.Frag} {mg : MG} {W : WX} {μ μ' : List Addr} {σ : L2.St} {ρ : Rho} {H H' : Hp} {S : Sto} {Y Y' : Ends} {Q' : VK}
theorem RZS.gr (g : Gr μ H μ' H') {r : RS} (h : RZS K mg W μ H r Y) : RZS K mg W μ' H' r Y := by
  cases r with
  | nx ρ S => exact fun a b c d e f => h a b c (g.trans d) e f
  | rt d S => exact fun a b c d e f => h a b c (g.trans d) e f
  | bk ρ S => exact fun a b c d e f => h a b c (g.trans d) e f
  | ct ρ S => exact fun a b c d e f => h a b c (g.trans d) e f
  | ex c fs ρ S => exact fun a b c d e f => h a b c d e (g.trans f)
  | st => exact h.elim
theorem RZS.bindS {r : R} {f : D → Sto → RS} (En : EnvR K mg μ H ρ σ) (h : RZS K mg W μ H (r.bindS ρ f) Y)
    (k : ∀ d S' μ' v H', r = .ok d S' → Gr μ H μ' H' → AbS K mg μ' S' H' → Rep K mg μ' H' d v → RZS K mg W μ' H' (f d S') Y → Q' v H') : RZ K mg W μ σ H r Q' := by
  cases r with
  | ok d S => exact fun μ' v H' g A rv => k d S μ' v H' rfl g A rv (RZS.gr g h)
  | ex c fs S => exact fun μ' H' cls dd g A x => h μ' σ H' cls dd g A (En.mono g) x
  | st => exact h
theorem RZS.bindSL {r : RL} {f : List D → Sto → RS} {Q' : List V → Hp → Prop} (En : EnvR K mg μ H ρ σ) (h : RZS K mg W μ H (r.bindS ρ f) Y)
    (k : ∀ d S' μ' v H', r = .ok d S' → Gr μ H μ' H' → AbS K mg μ' S' H' → Reps K mg μ' H' d v → RZS K mg W μ' H' (f d S') Y → Q' v H') : RZL K mg W μ σ H r Q' := by
  cases r with
  | ok d S => exact fun μ' v H' g A rv => k d S μ' v H' rfl g A rv (RZS.gr g h)
  | ex c fs S => exact fun μ' H' cls dd g A x => h μ' σ H' cls dd g A (En.mono g) x
  | st => exact h
theorem RZS.bind {r : RS} {f : Rho → Sto → RS} (h : RZS K mg W μ H (r.bind f) Y)
    (k : ∀ ρ' S' μ' σ' H', Gr μ H μ' H' → AbS K mg μ' S' H' → EnvR K mg μ' H' ρ' σ' → RZS K mg W μ' H' (f ρ' S') Y → Y'.nx σ' H') (e1 : Y'.rt = Y.rt) (e2 : Y'.bk = Y.bk) (e3 : Y'.ct = Y.ct) : RZS K mg W μ H r Y' := by
  cases r with
  | nx ρ' S' => exact fun μ' σ' H' g A En => k ρ' S' μ' σ' H' g A En (RZS.gr g h)
  | rt d S => intro a b c d e f; rw [e1]; exact h a b c d e f
  | bk ρ S => intro a b c d e f; rw [e2]; exact h a b c d e f
  | ct ρ S => intro a b c d e f; rw [e3]; exact h a b c d e f
  | ex c fs ρ S => exact h
  | st => exact h
end
structure HypS (X : Cx) (W : WX) (C : Ev) (k : Nat) : Prop where
  h : Hyp X W C k
  own : PassesOwn (model X.prog X.w) X.A X.env X.xe
  fn : ∀ x, X.env.scope.names.lookup x = some .cell → X.fn x = true
def endG (Q : L2.St → Hp → Prop) : Ends := { nx := Q, rt := fun _ _ => False }
section
variable (X : Cx) (W : WX) (C : Ev)
/-- targets -/
def tT (t : T) : TG := fun v σ H Q => ∃ μ S d ρ, AbS X.K X.mg μ S H ∧ EnvR X.K X.mg μ H ρ σ ∧ Rep X.K X.mg μ H d v ∧ RZS X.K X.mg W μ H (asgT C t d ρ S) (endG Q)
def tTs (t : Ts) : TGs := fun v σ H Q => ∃ μ S d ρ, AbS X.K X.mg μ S H ∧ EnvR X.K X.mg μ H ρ σ ∧ Reps X.K X.mg μ H d v ∧ RZS X.K X.mg W μ H (asgTs C t d ρ S) (endG Q)
def tS (m : S) : TS := fun D σ H => ∃ μ S ρ, AbS X.K X.mg μ S H ∧ EnvR X.K X.mg μ H ρ σ ∧ RZS X.K X.mg W μ H (evS C m ρ S) D
def tSs (m : Ss) : TS := fun D σ H => ∃ μ S ρ, AbS X.K X.mg μ S H ∧ EnvR X.K X.mg μ H ρ σ ∧ RZS X.K X.mg W μ H (evB C m ρ S) D
end
theorem psI {X : Cx} {e : Stmt} {t t' : TS} (h : PS X e t) (k : ∀ D σ H, t' D σ H → t D σ H) : PS X e t' := ⟨fun pins s σ H D I q => h.run pins s σ H D I (k D σ H q)⟩
theorem pssI {X : Cx} {e : List Stmt} {t t' : TS} (h : PSs X e t) (k : ∀ D σ H, t' D σ H → t D σ H) : PSs X e t' := ⟨fun pins s σ H D I q => h.run pins s σ H D I (k D σ H q)⟩
/-! ### the checks -/
def noStarT : Expr → Bool
  | .Starred _ _ => false
  | _ => true
mutual
def chkT (lm : Bool) (N : List Str) (sc : Scope) : T → Expr → Bool
  | .v i, e => match e with
    | .Name x _ => decide (N[i]? = some x) && locB sc x
    | _ => false
  | .at o f, e => match e with
    | .Attribute x g _ => decide (g = f) && (ATTRS.contains f && chkE lm N sc o x)
    | _ => false
  | .ix o i, e => match e with
    | .Subscript x y _ => noSlice y && (chkE lm N sc o x && chkE lm N sc i y)
    | _ => false
  | .tp ts, e => match e with
    | .Tuple es _ _ => chkTs lm N sc ts es
    | _ => false
def chkTs (lm : Bool) (N : List Str) (sc : Scope) : Ts → List Expr → Bool
  | .nil, l => match l with
    | [] => true
    | _ => false
  | .cons t r, l => match l with
    | e :: es => noStarT e && (chkT lm N sc t e && chkTs lm N sc r es)
    | _ => false
end
def isComp : Expr → Bool
  | .ListComp _ _ _ _ => true
  | .SetComp _ _ _ _ => true
  | .DictComp _ _ _ _ _ => true
  | _ => false
def isTupE : Expr → Bool
  | .Tuple _ _ _ => true
  | .List _ _ => true
  | _ => false
/-- no swap of a comprehension's store -/
def swN (sc : Scope) (value tgt : Expr) : Bool := !isComp value || (match value, tgt with
  | .ListComp _ _ _ vp, .Name t p => !(sc.names.lookup t == some .local) || !(p.line == vp.line)
  | .ListComp _ _ _ _, _ => true
  | _, _ => false)
/-- the names of a target that the machine may store from the right -/
def swNames (sc : Scope) (ts : List Expr) : List Str := ts.filterMap fun
    | .Name id pos => if sc.names.lookup id == some .local && pos.line == (ts.head?.map (·.pos.line)).getD 0 then some id else none
    | _ => none
def swT (sc : Scope) (tgt value : Expr) : Bool := match tgt, value with
  | .Tuple ts _ _, .Tuple vs _ _ => (!(ts.length == 2 || ts.length == 3) || vs.length != ts.length) || (swNames sc ts).length != ts.length
  | .List _ _, _ => false
  | _, _ => true
def isLocal (sc : Scope) (x : Str) : Bool := sc.names.lookup x == some .local
/-- a comprehension that goes into a local name on the same line -/
def swY (sc : Scope) (value tgt : Expr) : Bool := match value, tgt with
  | .ListComp _ _ s vp, .Name t p => (isLocal sc t && (p.line == vp.line)) && !(s.names.any fun (n, k) => n == t && (k == .local || k == .cell))
  | _, _ => false
mutual
def chkS (lm : Bool) (N : List Str) (sc : Scope) : S → Stmt → Bool
  | .set t e, st => match st with
    | .Assign [tg] v _ => chkE lm N sc e v && ((swN sc v tg && (swT sc tg v && chkT lm N sc t tg)) || (swY sc v tg && (match t, tg with
      | .v i, .Name x _ => decide (N[i]? = some x)
      | _, _ => false)))
    | _ => false
  | .par i j a b, st => match st with
    | .Assign [.Tuple [.Name x px, .Name y py] _ _] (.Tuple [l, r] _ _) _ => ((decide (N[i]? = some x) && decide (N[j]? = some y)) && (decide (i ≠ j) && decide (x ≠ y))) && (((isLocal sc x && isLocal sc y) && (py.line == px.line)) && (((noStar l && noStar r) && (!([l, r].all (foldedForSure 8)) && !([l, r].all (constantsAlone 8)))) && (chkE lm N sc a l && chkE lm N sc b r)))
    | _ => false
  | .par3 i j l a b c, st => match st with
    | .Assign [.Tuple [.Name x px, .Name y py, .Name z pz] _ _] (.Tuple [e, f, g] _ _) _ => ((decide (N[i]? = some x) && (decide (N[j]? = some y) && decide (N[l]? = some z))) && ((decide (i ≠ j) && (decide (i ≠ l) && decide (j ≠ l))) && (decide (x ≠ y) && (decide (x ≠ z) && decide (y ≠ z))))) && (((isLocal sc x && (isLocal sc y && isLocal sc z)) && ((py.line == px.line) && (pz.line == px.line))) && (((noStar e && (noStar f && noStar g)) && (!([e, f, g].all (foldedForSure 8)) && !([e, f, g].all (constantsAlone 8)))) && (chkE lm N sc a e && (chkE lm N sc b f && chkE lm N sc c g))))
    | _ => false
  | .ex e, st => match st with
    | .Expr x _ => !isComp x && chkE lm N sc e x
    | _ => false
  | .ret e, st => match st with
    | .Return (some x) _ => chkE lm N sc e x
    | _ => false
  | .retN, st => match st with
    | .Return none _ => true
    | _ => false
  | .iff c a b, st => match st with
    | .If x p q _ => chkE lm N sc c x && (chkB lm N sc a p && chkB lm N sc b q)
    | _ => false
  | .whl c b, st => match st with
    | .While x p [] _ => chkE lm N sc c x && chkB lm N sc b p
    | _ => false
  | .for q ik es b, st => match st with
    | .For tg iter p [] _ => (chkP N sc q tg && noSet iter) && ((match srcShape sc ik iter with
        | some args => chkL lm N sc es args
        | none => false) && chkB lm N sc b p)
    | _ => false
  | .pass, st => match st with
    | .Pass _ => true
    | _ => false
  | .brk, st => match st with
    | .Break _ => true
    | _ => false
  | .cnt, st => match st with
    | .Continue _ => true
    | _ => false
  | .rai c es, st => match st with
    | .Raise (some (.Call (.Name g _) [x] [] _)) none _ => decide (g = c) && ((glB sc c && okN c) && (noStar x && chkL lm N sc es [x]))
    | _ => false
  | .nev, _ => true
def chkB (lm : Bool) (N : List Str) (sc : Scope) : Ss → List Stmt → Bool
  | .nil, l => match l with
    | [] => true
    | _ => false
  | .cons s r, l => match l with
    | x :: xs => chkS lm N sc s x && chkB lm N sc r xs
    | _ => false
end
section
variable {X : Cx} {W : WX} {C : Ev} {k : Nat}
theorem sw_no {value : Expr} {t : Option Expr} {l : Nat} {env : Env} (h : isComp value = false) : swapsWith value t l env = pure false := by
  cases value <;> first | rfl | cases h
theorem blockKind_of {env : Env} (hk : env.scope.kind = .function) : env.blockKind = .function := by unfold Env.blockKind; rw [hk]; rfl
theorem sw_of {value tgt : Expr} {l : Nat} {env : Env} (hk : env.scope.kind = .function) (h : swN env.scope value tgt = true) : swapsWithSole [tgt] value l env = pure false := by
  show swapsWith value (some tgt) l env = pure false
  unfold swN at h
  cases hc : isComp value with
  | false => exact sw_no hc
  | true =>
    rw [hc] at h
    simp only [Bool.not_true, Bool.false_or] at h
    cases value with
    | ListComp a b s vp =>
      cases tgt with
      | Name t p =>
        have e : env.kindOf t = env.scope.names.lookup t := rfl
        unfold swapsWith
        simp only [blockKind_of hk, Expr.pos, e]
        simp only [Bool.or_eq_true, Bool.not_eq_true'] at h
        rcases h with h | h
        · rw [h]; rfl
        · rw [h]
          cases (env.scope.names.lookup t == some NameKind.local) <;> rfl
      | _ => rfl
    | _ => first | (cases h; done) | (cases tgt <;> cases h; done)
theorem st_of {value tgt : Expr} {env : Env} (hk : env.scope.kind = .function) (h : swT env.scope tgt value = true) : swappedStores [tgt] value env = pure none := by
  unfold swT at h
  split at h
  · rename_i ts j p vs j2 p2
    unfold swappedStores
    simp only [Bool.or_eq_true] at h
    simp only [blockKind_of hk]
    rcases h with h | h
    · have h' : ((!(ts.length == 2 || ts.length == 3) || vs.length != ts.length) || (ScopeKind.function != ScopeKind.function)) = true := by
        simp only [Bool.or_eq_true]; exact .inl h
      rw [if_pos h']
    · by_cases h1 : ((!(ts.length == 2 || ts.length == 3) || vs.length != ts.length) || (ScopeKind.function != ScopeKind.function)) = true
      · rw [if_pos h1]
      · rw [if_neg h1]
        split
        · rfl
        · have h2 : ((ts.filterMap fun
    | .Name id pos => if env.kindOf id == some .local && pos.line == (ts.head?.map (·.pos.line)).getD 0 then some id else none
    | _ => none).length != ts.length) = true := h
          split
          · rfl
          · rename_i h3
            simp only [Bool.or_eq_true, not_or] at h3
            exact absurd h2 h3.1
  · cases h
  · rename_i n1 n2
    cases tgt with
    | Tuple ts j p =>
      cases value with
      | Tuple vs j2 p2 => exact (n2 _ _ _ _ _ _ rfl rfl).elim
      | _ => rfl
    | List ts p => exact (n1 _ _ rfl).elim
    | _ => rfl
end
end Z
set_option maxHeartbeats 4000000
/-! Z13: targets and statements do as the evaluator says -/
namespace Z
open PySem PySem.Spec PyProof.Rows L2
section
variable {K : PySem.W.Frag} {mg : MG} {μ : List Addr} {H : Hp} {S : Sto}
theorem RepF.put {f : Str} {d : D} {v : V} (r : Rep K mg μ H d v) : ∀ {fs : List (Str × D)} {gs : List (Str × V)}, RepF K mg μ H fs gs → RepF K mg μ H (Z.putF f d fs) (L2.putF f v gs)
  | [], gs, h => by
    simp only [RepF] at h
    subst h
    simp only [Z.putF, L2.putF, RepF]
    exact ⟨v, [], rfl, r, rfl⟩
  | (g, e) :: fs, gs, h => by
    simp only [RepF] at h
    obtain ⟨y, ys, rfl, r1, q⟩ := h
    simp only [Z.putF, L2.putF]
    by_cases hg : g = f
    · subst hg
      rw [if_pos rfl, if_pos rfl]
      simp only [RepF]
      exact ⟨v, ys, rfl, r, q⟩
    · rw [if_neg hg, if_neg hg]
      simp only [RepF]
      exact ⟨y, _, rfl, r1, RepF.put r q⟩
theorem RepF.length : ∀ {fs : List (Str × D)} {gs : List (Str × V)}, RepF K mg μ H fs gs → fs.length = gs.length
  | [], gs, h => by simp only [RepF] at h; rw [h]; rfl
  | (g, e) :: fs, gs, h => by
    simp only [RepF] at h
    obtain ⟨y, ys, rfl, r1, q⟩ := h
    simp [RepF.length q]
theorem setA_ok {x d : D} {v w : V} {f : Str} {S' : Sto} (A : AbS K mg μ S H) (r : Rep K mg μ H x v) (rw_ : Rep K mg μ H d w) (h : setA x f d S = some S') :
    ∃ a C dx gs, v = .ref a ∧ H a = some (.ins C dx gs) ∧ ClsZ K C ∧ gs.length < 1000 ∧ AbS K mg μ S' (upd H a (.ins C dx (L2.putF f w gs))) ∧ Gr μ H μ (upd H a (.ins C dx (L2.putF f w gs))) := by
  unfold setA at h
  split at h
  · rename_i n
    simp only [Rep] at r
    obtain ⟨a, e, rfl⟩ := r
    split at h
    · rename_i c fs hs
      split at h
      · rename_i hl
        cases h
        obtain ⟨Ca, dx, gs, h1, h2, ⟨h3, h4⟩, h5⟩ := A.ob n a _ e hs
        have g : Gr μ H μ (upd H a (.ins Ca dx (L2.putF f w gs))) := ⟨fun _ _ h => h, fun b xs h => by
          rw [upd_ne (fun z => by subst z; rw [h1] at h; cases h)]; exact h, fun b o w h => by
          rw [upd_ne (fun z => by subst z; rw [h1] at h; cases h)]; exact h⟩
        obtain ⟨A2, g2⟩ := A.put (o := .ins c (Z.putF f d fs)) e h1 (fun _ z => nomatch z) (fun _ _ z => nomatch z) (fun _ z => nomatch z) noTab_ins ⟨Ca, dx, L2.putF f w gs, upd_same, by
          rw [upd_ne (fun z => by subst z; rw [h1] at h2; cases h2)]; exact h2, ⟨h3, h4⟩, (RepF.put rw_ h5).mono g⟩
        exact ⟨a, Ca, dx, gs, rfl, h1, h4, by rw [← h5.length]; exact hl, A2, g2⟩
      · cases h
    · cases h
  · cases h
theorem setI_ok {x i d : D} {v u w : V} {S' : Sto} {Q : Hp → Prop} (A : AbS K mg μ S H) (r : Rep K mg μ H x v) (ri : Rep K mg μ H i u) (rw_ : Rep K mg μ H d w) (h : setI x i d S = some S')
    (q : ∀ H', AbS K mg μ S' H' → Gr μ H μ H' → Q H') : rSetL v u w H Q := by
  unfold setI at h
  split at h
  · rename_i n k
    simp only [Rep] at r ri
    obtain ⟨a, e, rfl⟩ := r
    subst ri
    split at h
    · rename_i l hs
      split at h
      · rename_i j hj
        cases h
        obtain ⟨vs, h1, r1⟩ := A.lst hs e
        have g : Gr μ H μ (upd H a (.lst (vs.set j w))) := ⟨fun _ _ h => h, fun b xs h => by
          rw [upd_ne (fun z => by subst z; rw [h1] at h; cases h)]; exact h, fun b o w h => by
          rw [upd_ne (fun z => by subst z; rw [h1] at h; cases h)]; exact h⟩
        obtain ⟨A2, g2⟩ := A.put (o := .lst (l.set j d)) e h1 (fun _ z => nomatch z) (fun _ _ z => nomatch z) (fun _ z => nomatch z) noTab_lst ⟨vs.set j w, upd_same, (r1.set j rw_).mono g⟩
        exact ⟨a, vs, k, j, rfl, rfl, h1, by rw [← r1.length]; exact hj, q _ A2 g2⟩
      · cases h
    · cases h
  · cases h
end
section
variable {X : Cx} {W : WX} {C : Ev} {k : Nat}
theorem HypS.loc (hy : HypS X W C k) (x : Str) (h : locB X.env.scope x = true) : Loc X.env.scope x ∧ (X.fn x = true ∨ X.env.scope.names.lookup x = some .local) := by
  unfold locB at h
  split at h
  · rename_i e; exact ⟨.inl e, .inr e⟩
  · rename_i e; exact ⟨.inr e, .inl (hy.fn x e)⟩
  · cases h
/-- o.f = .. -/
theorem pg_attZ {o : E} {f : Str} {e : Expr} {pos : Pos} (hf : ATTRS.contains f = true) (ho : PE X e (TZ X W C o)) : PG X (.Attribute e f pos) (tT X W C (.at o f)) := by
  refine ⟨fun pins s σ H v u Q I r h => ?_⟩
  obtain ⟨μ, S, d, ρ, A, En, rd, h⟩ := h
  rw [asgT] at h
  rw [assign_Attribute]
  refine wpAny_bind (wpAny_holding (thn (ho.run pins s σ H (fun x H1 => ∃ a Ca dx gs, x = .ref a ∧ H1 a = some (.ins Ca dx gs) ∧ ClsZ X.K Ca ∧ gs.length < 1000 ∧ Q σ (upd H1 a (.ins Ca dx (L2.putF f v gs)))) I ⟨μ, S, ρ, A, En, RZS.bindS En h fun x S1 μ1 v1 H1 _ g1 A1 r1 h1 => ?_⟩) fun ov s1 ⟨x, H1, I1, r1, a, Ca, dx, gs, ex, ea, hz, hl, q⟩ => ?_))
  · cases hs : setA x f d S1 with
    | none => rw [hs] at h1; exact h1.elim
    | some S2 =>
      rw [hs] at h1
      obtain ⟨a, Ca, dx, gs, e1, e2, e3, e4, A2, g2⟩ := setA_ok A1 r1 (rd.mono g1) hs
      exact ⟨a, Ca, dx, gs, e1, e2, e3, e4, h1 μ1 σ _ g2 A2 ((En.mono g1).mono g2)⟩
  · subst ex
    obtain rfl : ov = Value.ref a := r1
    refine wpAny_bind (wpAny_standAt (wpAny_bind (wpAny_holding (setattr_ok I1 ea hz.cls (hz.no f hf) hl r fun s3 I3 => ?_))))
    exact wpAny_release ⟨σ, _, I3, q⟩
theorem sub_assign {o i : Expr} {pos : Pos} {env : Env} (h : noSlice i = true) (v : Value) : assign (.Subscript o i pos) env v = (do
      let ov ← holding [v] (eval o env)
      let iv ← holding [v, ov] (eval i env)
      standAt pos
      holding [v, ov, iv] (setItem ov iv v)
      release [v, ov, iv] []) := by
  cases i <;> first | rfl | cases h
theorem pg_ixZ {o i : E} {e y : Expr} {pos : Pos} (hs : noSlice y = true) (ho : PE X e (TZ X W C o)) (hi : PE X y (TZ X W C i)) : PG X (.Subscript e y pos) (tT X W C (.ix o i)) := by
  refine pgI (pg_sub ho hi set_list (sub_assign hs)) fun v σ H Q h => ?_
  obtain ⟨μ, S, d, ρ, A, En, rd, h⟩ := h
  rw [asgT] at h
  refine ⟨μ, S, ρ, A, En, RZS.bindS En h fun x S1 μ1 v1 H1 _ g1 A1 r1 h1 => ⟨μ1, S1, ρ, A1, En.mono g1, RZS.bindS (En.mono g1) h1 fun i S2 μ2 v2 H2 _ g2 A2 r2 h2 => ?_⟩⟩
  cases hs : setI x i d S2 with
  | none => rw [hs] at h2; exact h2.elim
  | some S3 =>
    rw [hs] at h2
    exact setI_ok A2 (r1.mono g2) r2 (rd.mono (g1.trans g2)) hs fun H' A3 g3 => h2 μ2 σ H' g3 A3 (((En.mono g1).mono g2).mono g3)
theorem assignT_of {e : Expr} {es : List Expr} {env : Env} (h : noStarT e = true) : assignEach (e :: es) env = (false, assign e env) :: assignEach es env := by
  cases e <;> first | rfl | cases h
theorem assignsT_of {lm : Bool} {N : List Str} {sc : Scope} {env : Env} : ∀ {ts : Ts} {es : List Expr}, chkTs lm N sc ts es = true → (assignEach es env).length = es.length ∧ (assignEach es env).findIdx? (·.1) = none
  | .nil, [], _ => ⟨rfl, rfl⟩
  | .nil, _ :: _, h => by simp [chkTs] at h
  | .cons _ _, [], h => by simp [chkTs] at h
  | .cons p ps, e :: es, h => by
    simp only [chkTs, Bool.and_eq_true] at h
    obtain ⟨h1, h2⟩ := assignsT_of (env := env) h.2.2
    rw [assignT_of h.1]
    refine ⟨by simp [h1], ?_⟩
    rw [List.findIdx?_cons, h2]
    rfl
theorem chkTs_len {lm : Bool} {N : List Str} {sc : Scope} : ∀ {ts : Ts} {es : List Expr}, chkTs lm N sc ts es = true → Ts.len ts = es.length
  | .nil, [], _ => rfl
  | .nil, _ :: _, h => by simp [chkTs] at h
  | .cons _ _, [], h => by simp [chkTs] at h
  | .cons p ps, e :: es, h => by
    simp only [chkTs, Bool.and_eq_true] at h
    simp [Ts.len, chkTs_len h.2.2]
mutual
theorem sT (hy : HypS X W C k) : ∀ (t : T) (e : Expr), chkT (X.fn Str.empty) X.N X.env.scope t e = true → PG X e (tT X W C t)
  | .v i, e, h => by
    simp only [chkT] at h
    split at h
    · simp only [Bool.and_eq_true, decide_eq_true_eq] at h
      obtain ⟨l1, l2⟩ := hy.loc _ h.2
      refine pgI (pg_name hy.h.nd h.1 l1 l2) fun v σ H Q h => ?_
      obtain ⟨μ, S, d, ρ, A, En, rd, h⟩ := h
      rw [asgT] at h
      exact h μ _ H (Gr.refl _ _) A (En.set rd i)
    · cases h
  | .at o f, e, h => by
    simp only [chkT] at h
    split at h
    · simp only [Bool.and_eq_true, decide_eq_true_eq] at h
      obtain ⟨rfl, h1, h2⟩ := h
      exact pg_attZ h1 (sE C k o X W _ hy.h h2).pe
    · cases h
  | .ix o i, e, h => by
    simp only [chkT] at h
    split at h
    · simp only [Bool.and_eq_true] at h
      obtain ⟨h0, h1, h2⟩ := h
      exact pg_ixZ h0 (sE C k o X W _ hy.h h1).pe (sE C k i X W _ hy.h h2).pe
    · cases h
  | .tp ts, e, h => by
    simp only [chkT] at h
    split at h
    · rename_i es j pos
      obtain ⟨h1, h2⟩ := assignsT_of (env := X.env) h
      refine pgI (pg_tup hy.h.calm (sTs hy ts es h) h1 h2) fun v σ H Q q => ?_
      obtain ⟨μ, S, d, ρ, A, En, rd, q⟩ := q
      cases d <;> simp only [asgT] at q <;> first | exact q.elim | skip
      rename_i ds
      split at q
      · rename_i hl
        simp only [Rep] at rd
        obtain ⟨a, xs, rfl, sq, rs⟩ := rd
        exact ⟨a, xs, rfl, sq, by rw [← rs.length, hl, chkTs_len h], μ, S, ds, ρ, A, En, rs, q⟩
      · exact q.elim
    · cases h
theorem sTs (hy : HypS X W C k) : ∀ (t : Ts) (e : List Expr), chkTs (X.fn Str.empty) X.N X.env.scope t e = true → PGs X e (tTs X W C t)
  | .nil, [], h => by
    refine pgsI pgs_nil fun v σ H Q q => ?_
    obtain ⟨μ, S, ds, ρ, A, En, rd, q⟩ := q
    cases ds with
    | nil =>
      rw [asgTs] at q
      simp only [Reps] at rd
      exact ⟨rd, q μ σ H (Gr.refl _ _) A En⟩
    | cons d ds => simp only [asgTs] at q; exact q.elim
  | .nil, _ :: _, h => by simp [chkTs] at h
  | .cons _ _, [], h => by simp [chkTs] at h
  | .cons t ts, e :: es, h => by
    simp only [chkTs, Bool.and_eq_true] at h
    refine pgsI (pgs_cons (sT hy t e h.2.1) (sTs hy ts es h.2.2) (by rw [assignT_of h.1]; rfl)) fun v σ H Q q => ?_
    obtain ⟨μ, S, ds, ρ, A, En, rd, q⟩ := q
    cases ds with
    | nil => simp only [asgTs] at q; exact q.elim
    | cons d ds =>
      simp only [Reps] at rd
      obtain ⟨y, ys, rfl, r1, r2⟩ := rd
      rw [asgTs] at q
      refine ⟨y, ys, rfl, μ, S, d, ρ, A, En, r1, ?_⟩
      cases hr : asgT C t d ρ S with
      | nx ρ' S' =>
        rw [hr] at q
        intro μ' σ' H' g A' En'
        exact ⟨μ', S', ds, ρ', A', En', r2.mono g, RZS.gr g q⟩
      | rt d S => rw [hr] at q; intro a b c d e f; exact q a b c d e f
      | bk ρ S => rw [hr] at q; intro a b c d e f; exact q a b c d e f
      | ct ρ S => rw [hr] at q; intro a b c d e f; exact q a b c d e f
      | ex c fs ρ S => rw [hr] at q; exact q
      | st => rw [hr] at q; exact q.elim
end
end
end Z
set_option maxHeartbeats 4000000
/-! Z14: statements do as the evaluator says -/
namespace Z
open PySem PySem.Spec PyProof.Rows L2
/-- no target returns, breaks or goes on -/
def RS.odd : RS → Bool
  | .rt _ _ => true
  | .bk _ _ => true
  | .ct _ _ => true
  | _ => false
mutual
theorem asgT_odd (C : Ev) : ∀ (t : T) (d : D) (ρ : Rho) (S : Sto), (asgT C t d ρ S).odd = false
  | .v i, d, ρ, S => by rw [asgT]; rfl
  | .at o f, d, ρ, S => by
    rw [asgT]
    cases evE C o ρ S with
    | ok x S1 => simp only [R.bindS]; cases setA x f d S1 <;> rfl
    | ex c fs S1 => rfl
    | st => rfl
  | .ix o i, d, ρ, S => by
    rw [asgT]
    cases evE C o ρ S with
    | ok x S1 =>
      simp only [R.bindS]
      cases evE C i ρ S1 with
      | ok y S2 => simp only []; cases setI x y d S2 <;> rfl
      | ex c fs S1 => rfl
      | st => rfl
    | ex c fs S1 => rfl
    | st => rfl
  | .tp ts, d, ρ, S => by
    cases d <;> simp only [asgT] <;> first | rfl | skip
    split
    · exact asgTs_odd C ts _ ρ S
    · rfl
theorem asgTs_odd (C : Ev) : ∀ (t : Ts) (d : List D) (ρ : Rho) (S : Sto), (asgTs C t d ρ S).odd = false
  | .nil, [], ρ, S => by rw [asgTs]; rfl
  | .nil, _ :: _, ρ, S => by simp only [asgTs]; rfl
  | .cons _ _, [], ρ, S => by simp only [asgTs]; rfl
  | .cons t ts, d :: ds, ρ, S => by
    rw [asgTs]
    have h1 := asgT_odd C t d ρ S
    cases hr : asgT C t d ρ S with
    | nx ρ' S' => simp only [RS.bind]; exact asgTs_odd C ts ds ρ' S'
    | rt d S => rw [hr] at h1; cases h1
    | bk ρ S => rw [hr] at h1; cases h1
    | ct ρ S => rw [hr] at h1; cases h1
    | ex c fs ρ S => rfl
    | st => rfl
end
theorem asgT_no {C : Ev} {t : T} {d : D} {ρ : Rho} {S : Sto} {r : RS} (h : asgT C t d ρ S = r) (ho : r.odd = true) : False := by
  have := asgT_odd C t d ρ S
  rw [h, ho] at this
  cases this
section
variable {X : Cx} {W : WX} {C : Ev} {k : Nat}
/-- target = value -/
theorem z_set (hy : HypS X W C k) {t : T} {e : E} {tg v : Expr} {pos : Pos} (he : PE X v (TZ X W C e)) (hg : PG X tg (tT X W C t)) (hs : swN X.env.scope v tg = true) (hw : swT X.env.scope tg v = true) (hn : noStarT tg = true) : PS X (.Assign [tg] v pos) (tS X W C (.set t e)) := by
  refine psI (ps_asg he hg (sw_of hy.h.kind hs) (st_of hy.h.kind hw) (by rw [assignT_of hn]; rfl)) fun D σ H h => ?_
  obtain ⟨μ, S, ρ, A, En, h⟩ := h
  rw [evS] at h
  refine ⟨μ, S, ρ, A, En, RZS.bindS En h fun d S1 μ1 v H1 q1 g1 A1 r1 h1 => ⟨μ1, S1, d, ρ, A1, En.mono g1, r1, ?_⟩⟩
  cases hr : asgT C t d ρ S1 with
  | nx ρ' S' => rw [hr] at h1; exact h1
  | ex c fs ρ S => rw [hr] at h1; exact h1
  | st => rw [hr] at h1; exact h1
  | rt d S => exact (asgT_no hr rfl).elim
  | bk ρ S => exact (asgT_no hr rfl).elim
  | ct ρ S => exact (asgT_no hr rfl).elim
theorem bnot {b : Bool} (h : (!b) = true) : b = false := by cases b <;> first | rfl | cases h
theorem sw_par2 {env : Env} {x y : Str} {px py pt pt2 : Pos} {kt k2 : Nat} {a b : Expr} (hk : env.scope.kind = .function) (hx : isLocal env.scope x = true) (hy : isLocal env.scope y = true) (hl : (py.line == px.line) = true) (hxy : x ≠ y) (n1 : noStar a = true) (n2 : noStar b = true) (f1 : (!([a, b].all (foldedForSure 8))) = true) (f2 : (!([a, b].all (constantsAlone 8))) = true) :
    swappedStores [.Tuple [.Name x px, .Name y py] kt pt] (.Tuple [a, b] k2 pt2) env = pure (some [x, y]) := by
  have e : ∀ t, env.kindOf t = env.scope.names.lookup t := fun _ => rfl
  unfold isLocal at hx hy
  have hne : (y == x) = false := by simp [Ne.symm hxy]
  have hd : [x, y].eraseDups.length = 2 := by simp [List.eraseDups_cons, hne, Ne.symm hxy]
  unfold swappedStores
  simp only [blockKind_of hk, List.any_cons, List.any_nil, List.filterMap_cons, List.filterMap_nil, e, hx, hy, List.head?_cons, Option.map_some, Option.getD_some, Expr.pos, hl, beq_self_eq_true, Bool.and_self, if_true, hd, bnot f1, bnot f2]
  refine (if_neg (fun z => Bool.false_ne_true z)).trans ((if_neg ?_).trans rfl)
  · rw [Bool.or_false, Bool.or_eq_true]
    rintro (h | h)
    · cases a <;> first | (cases h; done) | (cases n1; done)
    · cases b <;> first | (cases h; done) | (cases n2; done)
theorem z_par (hy : Hyp X W C k) {i j : Nat} {x y : Str} {a b : E} {e f : Expr} {px py pt pt2 pos : Pos} {kt k2 : Nat} (hi : X.N[i]? = some x) (hj : X.N[j]? = some y) (hij : i ≠ j) (hx : isLocal X.env.scope x = true) (hyl : isLocal X.env.scope y = true) (hl : (py.line == px.line) = true) (hxy : x ≠ y) (n1 : noStar e = true) (n2 : noStar f = true) (f1 : (!([e, f].all (foldedForSure 8))) = true) (f2 : (!([e, f].all (constantsAlone 8))) = true)
    (ha : PE X e (TZ X W C a)) (hb : PE X f (TZ X W C b)) : PS X (.Assign [.Tuple [.Name x px, .Name y py] kt pt] (.Tuple [e, f] k2 pt2) pos) (tS X W C (.par i j a b)) := by
  refine psI (ps_par hy.calm hy.nd hi hj hij (by simpa [isLocal] using hx) (by simpa [isLocal] using hyl) (pa_cons ha (pa_cons hb pa_nil (star_of n2)) (star_of n1)) (sw_par2 hy.kind hx hyl hl hxy n1 n2 f1 f2) rfl) fun D σ H h => ?_
  obtain ⟨μ, S, ρ, A, En, h⟩ := h
  rw [evS] at h
  refine ⟨μ, S, ρ, A, En, RZS.bindS En h fun d S1 μ1 v H1 q1 g1 A1 r1 h1 => ⟨μ1, S1, ρ, A1, En.mono g1, RZS.bindS (En.mono g1) h1 fun d2 S2 μ2 v2 H2 q2 g2 A2 r2 h2 => ?_⟩⟩
  exact ⟨v, v2, rfl, h2 μ2 _ H2 (Gr.refl _ _) A2 ((((En.mono g1).mono g2).set (r1.mono g2) i).set r2 j)⟩
theorem sw_par3 {env : Env} {x y z : Str} {px py pz pt pt2 : Pos} {kt k2 : Nat} {a b c : Expr} (hk : env.scope.kind = .function) (hx : isLocal env.scope x = true) (hy : isLocal env.scope y = true) (hz : isLocal env.scope z = true) (hl : (py.line == px.line) = true) (hl2 : (pz.line == px.line) = true) (hxy : x ≠ y) (hxz : x ≠ z) (hyz : y ≠ z) (n1 : noStar a = true) (n2 : noStar b = true) (n3 : noStar c = true) (f1 : (!([a, b, c].all (foldedForSure 8))) = true) (f2 : (!([a, b, c].all (constantsAlone 8))) = true) :
    swappedStores [.Tuple [.Name x px, .Name y py, .Name z pz] kt pt] (.Tuple [a, b, c] k2 pt2) env = pure (some [x, y, z]) := by
  have e : ∀ t, env.kindOf t = env.scope.names.lookup t := fun _ => rfl
  unfold isLocal at hx hy hz
  have h1 : (y == x) = false := by simp [Ne.symm hxy]
  have h2 : (z == x) = false := by simp [Ne.symm hxz]
  have h3 : (z == y) = false := by simp [Ne.symm hyz]
  have hd : [x, y, z].eraseDups.length = 3 := by simp [List.eraseDups_cons, h1, h2, h3, Ne.symm hxy, Ne.symm hxz, Ne.symm hyz]
  unfold swappedStores
  simp only [blockKind_of hk, List.any_cons, List.any_nil, List.filterMap_cons, List.filterMap_nil, e, hx, hy, hz, List.head?_cons, Option.map_some, Option.getD_some, Expr.pos, hl, hl2, beq_self_eq_true, Bool.and_self, if_true, hd, bnot f1, bnot f2]
  refine (if_neg (fun z => Bool.false_ne_true z)).trans ((if_neg ?_).trans rfl)
  · rw [Bool.or_false, Bool.or_eq_true, Bool.or_eq_true]
    rintro (h | h | h)
    · cases a <;> first | (cases h; done) | (cases n1; done)
    · cases b <;> first | (cases h; done) | (cases n2; done)
    · cases c <;> first | (cases h; done) | (cases n3; done)
theorem z_par3 (hy : Hyp X W C k) {i j l : Nat} {x y z : Str} {a b c : E} {e f g : Expr} {px py pz pt pt2 pos : Pos} {kt k2 : Nat} (hi : X.N[i]? = some x) (hj : X.N[j]? = some y) (hlN : X.N[l]? = some z) (hij : i ≠ j) (hil : i ≠ l) (hjl : j ≠ l) (hx : isLocal X.env.scope x = true) (hyl : isLocal X.env.scope y = true) (hz : isLocal X.env.scope z = true) (hl : (py.line == px.line) = true) (hl2 : (pz.line == px.line) = true) (hxy : x ≠ y) (hxz : x ≠ z) (hyz : y ≠ z) (n1 : noStar e = true) (n2 : noStar f = true) (n3 : noStar g = true) (f1 : (!([e, f, g].all (foldedForSure 8))) = true) (f2 : (!([e, f, g].all (constantsAlone 8))) = true)
    (ha : PE X e (TZ X W C a)) (hb : PE X f (TZ X W C b)) (hc : PE X g (TZ X W C c)) : PS X (.Assign [.Tuple [.Name x px, .Name y py, .Name z pz] kt pt] (.Tuple [e, f, g] k2 pt2) pos) (tS X W C (.par3 i j l a b c)) := by
  refine psI (ps_par3 hy.calm hy.nd hi hj hlN hij hil hjl (by simpa [isLocal] using hx) (by simpa [isLocal] using hyl) (by simpa [isLocal] using hz) (pa_cons ha (pa_cons hb (pa_cons hc pa_nil (star_of n3)) (star_of n2)) (star_of n1)) (sw_par3 hy.kind hx hyl hz hl hl2 hxy hxz hyz n1 n2 n3 f1 f2) rfl) fun D σ H h => ?_
  obtain ⟨μ, S, ρ, A, En, h⟩ := h
  rw [evS] at h
  refine ⟨μ, S, ρ, A, En, RZS.bindS En h fun d S1 μ1 v H1 q1 g1 A1 r1 h1 => ⟨μ1, S1, ρ, A1, En.mono g1, RZS.bindS (En.mono g1) h1 fun d2 S2 μ2 v2 H2 q2 g2 A2 r2 h2 => ⟨μ2, S2, ρ, A2, (En.mono g1).mono g2, RZS.bindS ((En.mono g1).mono g2) h2 fun d3 S3 μ3 v3 H3 q3 g3 A3 r3 h3 => ?_⟩⟩⟩
  exact ⟨v, v2, v3, rfl, h3 μ3 _ H3 (Gr.refl _ _) A3 ((((((En.mono g1).mono g2).mono g3).set (r1.mono (g2.trans g3)) i).set (r2.mono g3) j).set r3 l)⟩
theorem z_rai (hy : Hyp X W C k) {c : Str} {es : Es} {x : Expr} {p pos pos2 : Pos} (hg : Gl X c) (ok : OkN c) (hs : noStar x = true) (ha : PA X [x] (LZ X W C es)) : PS X (.Raise (some (.Call (.Name c p) [x] [] pos)) none pos2) (tS X W C (.rai c es)) := by
  refine ⟨fun pins s σ H D I h => ?_⟩
  obtain ⟨μ, S, ρ, A, En, h⟩ := h
  rw [evS] at h
  cases hx : C.xf c with
  | none => rw [hx] at h; exact h.elim
  | some f =>
    rw [hx] at h
    simp only at h
    obtain ⟨Ca, fI, hm, T, hk⟩ := hy.xf c f hx
    refine (ps_raise hy.calm hy.tk (pmk_z (k := 0) T (hy.room.r.mono hk) hg hm ha ok.db hs)).run pins s σ H D I ⟨μ, S, ρ, A, En, RZS.bindSL En h fun ds S1 μ1 vs H1 _ g1 A1 r1 h1 => ?_⟩
    cases ds with
    | nil => exact h1.elim
    | cons d ds =>
      cases ds with
      | cons d2 ds => exact h1.elim
      | nil =>
        obtain ⟨v, rfl, r2⟩ := r1.inv1
        refine ⟨v, rfl, fun dd hd => ?_⟩
        have e := Ext.new (o := .xd [(f, v)]) hd
        refine h1 μ1 σ _ _ _ (Gr.ext e) (A1.ext e) ((En.mono g1).mono (Gr.ext e)) ⟨Ca, hm, rfl, .inr ⟨dd, _, rfl, upd_same, ?_⟩⟩
        simp only [RepF]
        exact ⟨v, [], rfl, r2.mono (Gr.ext e), rfl⟩
theorem z_ex {e : E} {x : Expr} {pos : Pos} (he : PE X x (TZ X W C e)) (hc : isComp x = false) : PS X (.Expr x pos) (tS X W C (.ex e)) := by
  refine psI (ps_expr he (sw_no hc)) fun D σ H h => ?_
  obtain ⟨μ, S, ρ, A, En, h⟩ := h
  rw [evS] at h
  exact ⟨μ, S, ρ, A, En, RZS.bindS En h fun d S1 μ1 v H1 q1 g1 A1 r1 h1 => h1 μ1 σ H1 (Gr.refl _ _) A1 (En.mono g1)⟩
theorem z_ret {e : E} {x : Expr} {pos : Pos} (he : PE X x (TZ X W C e)) : PS X (.Return (some x) pos) (tS X W C (.ret e)) := by
  refine psI (ps_ret he) fun D σ H h => ?_
  obtain ⟨μ, S, ρ, A, En, h⟩ := h
  rw [evS] at h
  exact ⟨μ, S, ρ, A, En, RZS.bindS En h fun d S1 μ1 v H1 q1 g1 A1 r1 h1 => h1 μ1 v H1 (Gr.refl _ _) A1 r1⟩
theorem z_retN {pos : Pos} : PS X (.Return none pos) (tS X W C .retN) := by
  refine psI ps_retN fun D σ H h => ?_
  obtain ⟨μ, S, ρ, A, En, h⟩ := h
  rw [evS] at h
  exact h μ .non H (Gr.refl _ _) A (by simp [Rep])
theorem z_iff {c : E} {a b : Ss} {x : Expr} {p q : List Stmt} {pos : Pos} (hc : PT X x (BZ X W C c)) (ha : PSs X p (tSs X W C a)) (hb : PSs X q (tSs X W C b)) : PS X (.If x p q pos) (tS X W C (.iff c a b)) := by
  refine psI (ps_if hc ha hb) fun D σ H h => ?_
  obtain ⟨μ, S, ρ, A, En, h⟩ := h
  rw [evS] at h
  refine ⟨μ, S, ρ, A, En, RZS.bindS En h fun d S1 μ1 v H1 q1 g1 A1 r1 h1 => ?_⟩
  cases d <;> try exact h1.elim
  rename_i b
  simp only [Rep] at r1
  refine ⟨b, r1, ?_⟩
  cases b with
  | true => rw [if_pos rfl]; exact ⟨μ1, S1, ρ, A1, En.mono g1, h1⟩
  | false => rw [if_neg Bool.false_ne_true]; exact ⟨μ1, S1, ρ, A1, En.mono g1, h1⟩
theorem z_whl (hy : HypS X W C k) {c : E} {b : Ss} {x : Expr} {p : List Stmt} {pos : Pos} (hc : PT X x (BZ X W C c)) (hb : PSs X p (tSs X W C b)) : PS X (.While x p [] pos) (tS X W C (.whl c b)) := by
  refine psI (ps_while hy.own hc hb) fun D σ H h => ?_
  obtain ⟨μ, S, ρ, A, En, h⟩ := h
  rw [evS] at h
  refine ⟨fun m σ H => ∃ μ S ρ, AbS X.K X.mg μ S H ∧ EnvR X.K X.mg μ H ρ σ ∧ RZS X.K X.mg W μ H (whlGo (evE C c) (evB C b) m ρ S) D, ⟨TURNS, μ, S, ρ, A, En, h⟩, ?_⟩
  rintro m σ H ⟨μ, S, ρ, A, En, h⟩
  cases m with
  | zero => rw [whlGo] at h; exact h.elim
  | succ n =>
    rw [whlGo] at h
    refine ⟨μ, S, ρ, A, En, ?_⟩
    cases hr : evE C c ρ S with
    | st => rw [hr] at h; exact h.elim
    | ex c fs S1 =>
      rw [hr] at h
      exact fun μ' H' cls dd g A x => h μ' σ H' cls dd g A (En.mono g) x
    | ok d S1 =>
      rw [hr] at h
      intro μ1 v H1 g1 A1 r1
      cases d <;> try exact h.elim
      rename_i t
      simp only [Rep] at r1
      refine ⟨t, r1, ?_⟩
      have En1 := En.mono g1
      have h1 := RZS.gr g1 h
      cases t with
      | false =>
        show D.nx σ H1
        exact h1 μ1 σ H1 (Gr.refl _ _) A1 En1
      | true =>
        refine (if_pos rfl).mpr ?_
        refine ⟨fun σ' H' => ∃ μ S ρ, AbS X.K X.mg μ S H' ∧ EnvR X.K X.mg μ H' ρ σ' ∧ RZS X.K X.mg W μ H' (whlGo (evE C c) (evB C b) n ρ S) D, fun σ' H' q => ⟨n, Nat.lt_succ_self n, q⟩, μ1, S1, ρ, A1, En1, ?_⟩
        simp only at h1
        cases hb : evB C b ρ S1 with
        | st => rw [hb] at h1; exact h1.elim
        | ex c fs ρ' S' => rw [hb] at h1; exact h1
        | rt d S' => rw [hb] at h1; exact h1
        | bk ρ' S' => rw [hb] at h1; exact h1
        | nx ρ' S' => rw [hb] at h1; exact fun μ' σ' H' g A En => ⟨μ', S', ρ', A, En, RZS.gr g h1⟩
        | ct ρ' S' => rw [hb] at h1; exact fun μ' σ' H' g A En => ⟨μ', S', ρ', A, En, RZS.gr g h1⟩
theorem z_for (hy : HypS X W C k) {q : P} {ik : IK} {es : Es} {b : Ss} {tg iter : Expr} {p : List Stmt} {pos : Pos} (hi : PI X tg iter (tSrc X.K X.mg W C ik es)) (hg : PG X tg (tP X.K X.mg q)) (hb : PSs X p (tSs X W C b)) (hs : noSet iter = true) : PS X (.For tg iter p [] pos) (tS X W C (.for q ik es b)) := by
  refine psI (ps_for hy.own hy.h.calm hi hg hb (folded_of hs)) fun D σ H h => ?_
  obtain ⟨μ, S, ρ, A, En, h⟩ := h
  rw [evS] at h
  refine ⟨μ, S, ρ, A, En, ?_⟩
  cases hr : evL C es ρ S with
  | st => rw [hr] at h; exact h.elim
  | ex c fs S1 =>
    rw [hr] at h
    exact fun μ' H' cls dd g A x => h μ' σ H' cls dd g A (En.mono g) x
  | ok ds S1 =>
    rw [hr] at h
    simp only [RL.bindS] at h
    cases hsrc : src ik ds S1 with
    | none => rw [hsrc] at h; exact h.elim
    | some lg =>
      obtain ⟨l, g⟩ := lg
      rw [hsrc] at h
      refine ⟨l, g, hsrc, fun μ1 H1 g1 A1 J sv => ?_⟩
      refine ⟨fun i m σ H => m = l.length - i ∧ i ≤ l.length ∧ ∃ μ S ρ, Gr μ1 H1 μ H ∧ AbS X.K X.mg μ S H ∧ EnvR X.K X.mg μ H ρ σ ∧ RZS X.K X.mg W μ H (forGo q (evB C b) g (l.drop i) ρ S) D,
        ⟨l.length, by simp, Nat.zero_le _, _, _, _, Gr.refl _ _, A1, En.mono g1, by simpa using RZS.gr g1 h⟩, ?_⟩
      rintro i m σ H ⟨rfl, hi, μ, S, ρ, gr, A, En, h⟩
      by_cases hlt : i < l.length
      · refine .inr ?_
        rw [List.drop_eq_getElem_cons hlt, forGo] at h
        split at h
        · rename_i hst
          obtain ⟨sg, sy⟩ := sv.go μ S H i l[i] gr A hst (by simp [hlt])
          refine ⟨sg, fun σ' H' => ∃ μ' S' ρ', Gr μ1 H1 μ' H' ∧ AbS X.K X.mg μ' S' H' ∧ EnvR X.K X.mg μ' H' ρ' σ' ∧ RZS X.K X.mg W μ' H' (forGo q (evB C b) g (l.drop (i + 1)) ρ' S') D,
            fun σ' H' ⟨μ', S', ρ', p1, p2, p3, p4⟩ => ⟨l.length - (i + 1), by omega, rfl, hlt, μ', S', ρ', p1, p2, p3, p4⟩, fun x H' yl => ?_⟩
          obtain ⟨xe, rx⟩ := sy x H' yl
          have g3 : Gr μ H μ H' := Gr.ext xe
          have A3 := A.ext xe
          split at h
          · rename_i ρ' ha
            refine ⟨μ, l[i], _, ρ', rx, En.mono g3, ha, fun σ2 En3 hw => ⟨μ, S, ρ', A3, En3, ?_⟩⟩
            have h4 := RZS.gr g3 h
            have gr3 := gr.trans g3
            cases hb : evB C b ρ' S with
            | st => rw [hb] at h4; exact h4.elim
            | ex c fs ρ' S' => rw [hb] at h4; exact h4
            | rt d S' => rw [hb] at h4; exact h4
            | bk ρ' S' => rw [hb] at h4; exact h4
            | nx ρ' S' => rw [hb] at h4; exact fun μ' σ' H' g A En => ⟨μ', S', ρ', gr3.trans g, A, En, RZS.gr g h4⟩
            | ct ρ' S' => rw [hb] at h4; exact fun μ' σ' H' g A En => ⟨μ', S', ρ', gr3.trans g, A, En, RZS.gr g h4⟩
          · exact h.elim
        · exact h.elim
      · have hi' : i = l.length := by omega
        subst hi'
        rw [List.drop_length, forGo] at h
        split at h
        · rename_i hst
          exact .inl ⟨sv.stop μ S H gr A hst, h μ σ H (Gr.refl _ _) A En⟩
        · exact h.elim
theorem z_nevS {st : Stmt} {m : S} (hm : ∀ ρ S, evS C m ρ S = .st) : PS X st (tS X W C m) := psI ps_never fun D σ H ⟨μ, S, ρ, A, En, h⟩ => by rw [hm] at h; exact h.elim
theorem z_nilB : PSs X [] (tSs X W C .nil) := by
  refine pssI pss_nil fun D σ H h => ?_
  obtain ⟨μ, S, ρ, A, En, h⟩ := h
  rw [evB] at h
  exact h μ σ H (Gr.refl _ _) A En
theorem z_consB {m : S} {r : Ss} {st : Stmt} {sts : List Stmt} (h1 : PS X st (tS X W C m)) (h2 : PSs X sts (tSs X W C r)) : PSs X (st :: sts) (tSs X W C (.cons m r)) := by
  refine pssI (pss_cons h1 h2) fun D σ H h => ?_
  obtain ⟨μ, S, ρ, A, En, h⟩ := h
  rw [evB] at h
  exact ⟨μ, S, ρ, A, En, RZS.bind h (fun ρ' S' μ' σ' H' g A' En' h' => ⟨μ', S', ρ', A', En', h'⟩) rfl rfl rfl⟩
end
end Z
set_option maxHeartbeats 4000000
/-! Z15: what is checked does as the evaluator says: statements -/
namespace Z
open PySem PySem.Spec PyProof.Rows L2
section
variable {X : Cx} {W : WX} {C : Ev} {k : Nat}
theorem noStarT_of {lm : Bool} {N : List Str} {sc : Scope} {t : T} {e : Expr} (h : chkT lm N sc t e = true) : noStarT e = true := by
  cases e <;> first | rfl | (cases t <;> simp only [chkT] at h <;> cases h)
/-- name = [..] stored within the block -/
theorem z_setY (hy : HypS X W C k) {i : Nat} {e : E} {v tg : Expr} {pos : Pos} {x : Str} {p : Pos} (htg : tg = .Name x p) (hsw : swY X.env.scope v tg = true) (hN : X.N[i]? = some x) (hc : chkE (X.fn Str.empty) X.N X.env.scope e v = true) : PS X (.Assign [tg] v pos) (tS X W C (.set (.v i) e)) := by
  subst htg
  unfold swY at hsw
  split at hsw
  · rename_i a gs s vp t p' heq
    cases heq
    simp only [Bool.and_eq_true, Bool.not_eq_true'] at hsw
    obtain ⟨⟨h1, h2⟩, h3⟩ := hsw
    have hl : X.env.scope.names.lookup x = some .local := by simpa [isLocal] using h1
    cases e <;> simp only [chkE] at hc <;> first | (split at hc <;> cases hc; done) | (cases hc; done) | skip
    · rename_i own q ik es c el
      split at hc
      · rename_i x' tg' iter ifs scope pos' heq2
        cases heq2
        simp only [Bool.and_eq_true] at hc
        obtain ⟨⟨⟨g1, g0⟩, g2⟩, ⟨g3, g4⟩, g5, g6⟩ := hc
        have g0 : (s.names.lookup Str.empty == some NameKind.cell) = false := by simpa using g0
        split at g4
        · rename_i args ha
          have hk := (blkOk_by g1).kind
          refine psI (z_setLc (W := W) (C := C) (c := c) (el := el) hy.h hN hl (sw_true hy.h.kind hl h2 h3) (z_src hy.h ha (sL C k es X W _ hy.h g4) g4) g1 g2 g3 (fun s1 H L cl fp => ?_) fun s1 H L cl fp => (sE C k el (X.blk s1 H s (compEnvC s cl L X.env) fp) W0 a (hy.h.blk hk g0) (by rw [show (X.blk s1 H s (compEnvC s cl L X.env) fp).fn Str.empty = false from g0]; exact g6)).pe) fun D σ H h => ?_
          · split at g5
            · split at g5
              · exact pts_true
              · cases g5
            · exact pts_one (sE C k c (X.blk s1 H s (compEnvC s cl L X.env) fp) W0 _ (hy.h.blk hk g0) (by rw [show (X.blk s1 H s (compEnvC s cl L X.env) fp).fn Str.empty = false from g0]; exact g5)).pt
            · cases g5
          · obtain ⟨μ, S, ρ, A, En, h⟩ := h
            rw [evS] at h
            refine ⟨μ, S, ρ, A, En, RZS.bindS En h fun d S1 μ1 v H1 q1 g1 A1 r1 h1 => ?_⟩
            rw [asgT] at h1
            exact h1 μ1 _ H1 (Gr.refl _ _) A1 ((En.mono g1).set r1 i)
        · cases g4
      · cases hc
    · -- never
      exact psI ps_never fun D σ H h => by
        obtain ⟨μ, S, ρ, A, En, h⟩ := h
        rw [evS, evE] at h
        exact h
  · cases hsw
mutual
theorem sS (hy : HypS X W C k) : ∀ (m : S) (st : Stmt), chkS (X.fn Str.empty) X.N X.env.scope m st = true → PS X st (tS X W C m)
  | .set t e, st, h => by
    simp only [chkS] at h
    split at h
    · rename_i tg v pos
      simp only [Bool.and_eq_true, Bool.or_eq_true] at h
      obtain ⟨h1, ⟨h2, h3, h4⟩ | ⟨h2, h3⟩⟩ := h
      · exact z_set hy (sE C k e X W _ hy.h h1).pe (sT hy t tg h4) h2 h3 (noStarT_of h4)
      · split at h3
        · exact z_setY hy rfl h2 (of_decide_eq_true h3) h1
        · cases h3
    · cases h
  | .par i j a b, st, h => by
    simp only [chkS] at h
    split at h
    · simp only [Bool.and_eq_true, decide_eq_true_eq] at h
      obtain ⟨⟨⟨h1, h2⟩, h3, h4⟩, ⟨⟨h5, h6⟩, h7⟩, ⟨⟨h8, h9⟩, h10, h11⟩, h12, h13⟩ := h
      exact z_par hy.h h1 h2 h3 h5 h6 h7 h4 h8 h9 h10 h11 (sE C k a X W _ hy.h h12).pe (sE C k b X W _ hy.h h13).pe
    · cases h
  | .par3 i j l a b c, st, h => by
    simp only [chkS] at h
    split at h
    · simp only [Bool.and_eq_true, decide_eq_true_eq] at h
      obtain ⟨⟨⟨h1, h2, h3⟩, ⟨h4, h5, h6⟩, h7, h8, h9⟩, ⟨⟨h10, h11, h12⟩, h13, h14⟩, ⟨⟨h15, h16, h17⟩, h18, h19⟩, h20, h21, h22⟩ := h
      exact z_par3 hy.h h1 h2 h3 h4 h5 h6 h10 h11 h12 h13 h14 h7 h8 h9 h15 h16 h17 h18 h19 (sE C k a X W _ hy.h h20).pe (sE C k b X W _ hy.h h21).pe (sE C k c X W _ hy.h h22).pe
    · cases h
  | .ex e, st, h => by
    simp only [chkS] at h
    split at h
    · simp only [Bool.and_eq_true, Bool.not_eq_true'] at h
      exact z_ex (sE C k e X W _ hy.h h.2).pe h.1
    · cases h
  | .ret e, st, h => by
    simp only [chkS] at h
    split at h
    · exact z_ret (sE C k e X W _ hy.h h).pe
    · cases h
  | .retN, st, h => by
    simp only [chkS] at h
    split at h
    · exact z_retN
    · cases h
  | .iff c a b, st, h => by
    simp only [chkS] at h
    split at h
    · simp only [Bool.and_eq_true] at h
      exact z_iff (sE C k c X W _ hy.h h.1).pt (sB hy a _ h.2.1) (sB hy b _ h.2.2)
    · cases h
  | .whl c b, st, h => by
    simp only [chkS] at h
    split at h
    · simp only [Bool.and_eq_true] at h
      exact z_whl hy (sE C k c X W _ hy.h h.1).pt (sB hy b _ h.2)
    · cases h
  | .for q ik es b, st, h => by
    simp only [chkS] at h
    split at h
    · simp only [Bool.and_eq_true] at h
      obtain ⟨⟨h1, h2⟩, h3, h4⟩ := h
      split at h3
      · rename_i args ha
        exact z_for hy (z_src hy.h ha (sL C k es X W _ hy.h h3) h3) (pgP hy.h.calm hy.h.nd hy.loc q _ h1) (sB hy b _ h4) h2
      · cases h3
    · cases h
  | .pass, st, h => by
    simp only [chkS] at h
    split at h
    · refine psI ps_pass fun D σ H h => ?_
      obtain ⟨μ, S, ρ, A, En, h⟩ := h
      rw [evS] at h
      exact h μ σ H (Gr.refl _ _) A En
    · cases h
  | .brk, st, h => by
    simp only [chkS] at h
    split at h
    · refine psI ps_break fun D σ H h => ?_
      obtain ⟨μ, S, ρ, A, En, h⟩ := h
      rw [evS] at h
      exact h μ σ H (Gr.refl _ _) A En
    · cases h
  | .cnt, st, h => by
    simp only [chkS] at h
    split at h
    · refine psI ps_continue fun D σ H h => ?_
      obtain ⟨μ, S, ρ, A, En, h⟩ := h
      rw [evS] at h
      exact h μ σ H (Gr.refl _ _) A En
    · cases h
  | .rai c es, st, h => by
    simp only [chkS] at h
    split at h
    · simp only [Bool.and_eq_true, decide_eq_true_eq] at h
      obtain ⟨rfl, ⟨h1, h2⟩, h3, h4⟩ := h
      exact z_rai hy.h (gl_of h1) (okN_of h2) h3 (sL C k es X W _ hy.h h4).pa
    · cases h
  | .nev, st, h => z_nevS fun _ _ => by rw [evS]
theorem sB (hy : HypS X W C k) : ∀ (m : Ss) (st : List Stmt), chkB (X.fn Str.empty) X.N X.env.scope m st = true → PSs X st (tSs X W C m)
  | .nil, st, h => by
    simp only [chkB] at h
    split at h
    · exact z_nilB
    · cases h
  | .cons m r, st, h => by
    simp only [chkB] at h
    split at h
    · simp only [Bool.and_eq_true] at h
      exact z_consB (sS hy m _ h.1) (sB hy r _ h.2)
    · cases h
end
end
end Z
set_option maxHeartbeats 4000000
/-! Z17: defs do as the evaluator says -/
namespace Z
open PySem PySem.Spec PyProof.Rows L2
/-! ### binding, by relation -/
section
variable {α β : Type} {R : α → β → Prop}
def RP (R : α → β → Prop) (a : Str × α) (b : Str × β) : Prop := a.1 = b.1 ∧ R a.2 b.2
inductive RO (R : α → β → Prop) : Option α → Option β → Prop where
  | non : RO R none none
  | som {a b} (h : R a b) : RO R (some a) (some b)
theorem Pd.len {R : α → β → Prop} {l : List α} {r : List β} (h : Paired R l r) : l.length = r.length := Paired.length h
theorem Pd.app {l l' : List α} {r r' : List β} (h : Paired R l r) (k : Paired R l' r') : Paired R (l ++ l') (r ++ r') := by
  induction h with
  | nil => exact k
  | cons a _ ih => exact .cons a ih
theorem Pd.drop {l : List α} {r : List β} (h : Paired R l r) (n : Nat) : Paired R (l.drop n) (r.drop n) := by
  induction h generalizing n with
  | nil => simp; exact .nil
  | cons a t ih => cases n with
    | zero => exact .cons a t
    | succ n => exact ih n
theorem Pd.zip {l : List α} {r : List β} (h : Paired R l r) : ∀ ps : List Str, Paired (RP R) (ps.zip l) (ps.zip r) := by
  induction h with
  | nil => intro ps; simp; exact .nil
  | cons a t ih => intro ps; cases ps with
    | nil => exact .nil
    | cons p ps => exact .cons ⟨rfl, a⟩ (ih ps)
theorem Pd.look {l : List (Str × α)} {r : List (Str × β)} (h : Paired (RP R) l r) (n : Str) : RO R (l.lookup n) (r.lookup n) := by
  induction h with
  | nil => exact .non
  | cons a t ih =>
    rename_i p q l r
    obtain ⟨p1, p2⟩ := p
    obtain ⟨q1, q2⟩ := q
    obtain ⟨a1, a2⟩ := a
    simp only at a1
    subst a1
    rw [List.lookup_cons, List.lookup_cons]
    cases n == p1
    · exact ih
    · exact .som a2
theorem RO.or {a c : Option α} {b d : Option β} (h : RO R a b) (k : RO R c d) : RO R (a.or c) (b.or d) := by
  cases h with
  | non => simpa using k
  | som h => simpa using .som h
theorem Pd.mapM {f : Str → Option α} {g : Str → Option β} (h : ∀ n, RO R (f n) (g n)) : ∀ {ps : List Str} {vs : List α}, ps.mapM f = some vs → ∃ ws, ps.mapM g = some ws ∧ Paired R vs ws
  | [], vs, e => by simp at e; subst e; exact ⟨[], rfl, .nil⟩
  | p :: ps, vs, e => by
    rw [List.mapM_cons] at e
    cases hp : f p with
    | none => rw [hp] at e; simp at e
    | some v =>
      cases hl : ps.mapM f with
      | none => rw [hp, hl] at e; simp at e
      | some us =>
        rw [hp, hl] at e
        simp at e
        subst e
        obtain ⟨ws, e1, e2⟩ := Pd.mapM h hl
        have := h p
        rw [hp] at this
        cases hg : g p with
        | none => rw [hg] at this; cases this
        | some w =>
          rw [hg] at this
          cases this with
          | som hr => exact ⟨w :: ws, by rw [List.mapM_cons, hg, e1]; rfl, .cons hr e2⟩
theorem Pd.keys {l : List (Str × α)} {r : List (Str × β)} (h : Paired (RP R) l r) : l.map (·.1) = r.map (·.1) := by
  induction h with
  | nil => rfl
  | cons a t ih => rw [List.map_cons, List.map_cons, a.1, ih]
theorem all_keys {γ : Type} {f : Str → Bool} : ∀ (l : List (Str × γ)), l.all (fun q => f q.1) = (l.map (·.1)).all f
  | [] => rfl
  | q :: l => by simp [all_keys l]
theorem bindZ_rel {ps : List Str} {dfl us : List α} {dfl' us' : List β} {kw : List (Str × α)} {kw' : List (Str × β)} {vs : List α} (hd : Paired R dfl dfl') (hu : Paired R us us') (hk : Paired (RP R) kw kw') (h : bindZ ps dfl us kw = some vs) :
    ∃ vs', bindZ ps dfl' us' kw' = some vs' ∧ Paired R vs vs' := by
  have l1 := Pd.len hd
  have l2 := Pd.len hu
  unfold bindZ at h ⊢
  cases hk with
  | nil =>
    simp only at h ⊢
    split at h
    · rename_i hc
      cases h
      rw [← l1, ← l2, if_pos hc]
      exact ⟨_, rfl, Pd.app hu (Pd.drop hd _)⟩
    · cases h
  | cons a t =>
    have hk' := Paired.cons a t
    have ek := Pd.keys hk'
    simp only at h ⊢
    split at h
    · rename_i hc
      rw [if_pos (by
        obtain ⟨c1, c2, c3, c4⟩ := hc
        refine ⟨by omega, by omega, ?_, by rw [← ek]; exact c4⟩
        rw [← l2, all_keys, ← ek, ← all_keys]
        exact c3)]
      rw [← l1]
      exact Pd.mapM (fun n => RO.or (Pd.look (Pd.app (Pd.zip hu _) hk') n) (Pd.look (Pd.zip hd _) n)) h
    · cases h
end
section
variable {K : PySem.W.Frag} {mg : MG} {μ : List Addr} {H : Hp}
def RDV (K : PySem.W.Frag) (mg : MG) (μ : List Addr) (H : Hp) (d : D) (u : Value) : Prop := ∃ v, Rep K mg μ H d v ∧ RelV v u
theorem rdv_of : ∀ {ds : List D} {vs : List V} {us : List Value}, Reps K mg μ H ds vs → Vals vs us → Paired (RDV K mg μ H) ds us
  | [], vs, us, h, k => by simp only [Reps] at h; subst h; cases k; exact .nil
  | d :: ds, vs, us, h, k => by
    simp only [Reps] at h
    obtain ⟨y, ys, rfl, r, q⟩ := h
    cases k with
    | cons a t => exact .cons ⟨y, r, a⟩ (rdv_of q t)
theorem rdv_to : ∀ {ds : List D} {us : List Value}, Paired (RDV K mg μ H) ds us → ∃ vs, Reps K mg μ H ds vs ∧ Vals vs us
  | [], us, h => by cases h; exact ⟨[], .nil, .nil⟩
  | d :: ds, us, h => by
    cases h with
    | cons a t =>
      obtain ⟨v, r, q⟩ := a
      obtain ⟨vs, r2, q2⟩ := rdv_to t
      exact ⟨v :: vs, .cons r r2, .cons q q2⟩
theorem rdv_kw : ∀ {ks : List Str} {ds : List D} {vs : List V} {us : List Value}, Reps K mg μ H ds vs → Vals vs us → Paired (RP (RDV K mg μ H)) (ks.zip ds) (ks.zip us) := fun h k => Pd.zip (rdv_of h k) _
/-! ### the start -/
theorem start_get {N : List Str} {vs : List V} {i : Nat} : (L2.start N vs)[i]? = if i < vs.length then (vs[i]?).map some else if i < N.length then some none else none := by
  unfold L2.start
  by_cases h : i < vs.length
  · rw [List.getElem?_append_left (by simpa using h), List.getElem?_map, if_pos h]
  · rw [if_neg h, List.getElem?_append_right (by simpa using h)]
    simp only [List.length_map, List.getElem?_replicate]
    by_cases h2 : i < N.length
    · rw [if_pos h2, if_pos (by omega)]
    · rw [if_neg h2, if_neg (by omega)]
theorem envR_start {N : List Str} {ds : List D} {vs : List V} (r : Reps K mg μ H ds vs) : EnvR K mg μ H (ds.map some ++ List.replicate (N.length - ds.length) none) (L2.start N vs) := by
  have l := r.length
  refine ⟨by simp [L2.start, l], fun i d e => ?_⟩
  by_cases h : i < ds.length
  · rw [List.getElem?_append_left (by simpa using h), List.getElem?_map] at e
    cases hd : ds[i]? with
    | none => rw [hd] at e; cases e
    | some d' =>
      rw [hd] at e
      simp at e
      subst e
      obtain ⟨v, hv, rv⟩ := r.get hd
      refine ⟨v, ?_, rv⟩
      rw [start_get, if_pos (by omega), hv]
      rfl
  · rw [List.getElem?_append_right (by simpa using h)] at e
    simp only [List.length_map, List.getElem?_replicate] at e
    split at e <;> cases e
end
/-! ### what is let go -/
section
variable {K : PySem.W.Frag} {mg : MG} {μ μ' : List Addr} {H H' : Hp} {S S' : Sto}
mutual
/-- told of the first n alone -/
theorem Rep.low {n : Nat} (hn : μ.length ≤ n) : ∀ {d : D} {v v' : V}, Rep K mg μ H d v → Rep K mg μ' H' d v' → Rep K mg (μ'.take n) H' d v'
  | .non, _, _, _, h => by simp only [Rep] at h ⊢; exact h
  | .bl _, _, _, _, h => by simp only [Rep] at h ⊢; exact h
  | .int _, _, _, _, h => by simp only [Rep] at h ⊢; exact h
  | .str _, _, _, _, h => by simp only [Rep] at h ⊢; exact h
  | .tup ds, _, _, h, k => by
    simp only [Rep] at h k ⊢
    obtain ⟨a, xs, _, _, r⟩ := h
    obtain ⟨a', xs', e, q, r'⟩ := k
    exact ⟨a', xs', e, q, Reps.low hn r r'⟩
  | .ref m, _, _, h, k => by
    simp only [Rep] at h k ⊢
    obtain ⟨a, e, _⟩ := h
    obtain ⟨a', e', q⟩ := k
    refine ⟨a', ?_, q⟩
    have := (List.getElem?_eq_some_iff.mp e).1
    rw [List.getElem?_take_of_lt (by omega)]
    exact e'
  | .fn _, _, _, _, h => by simp only [Rep] at h ⊢; exact h
  | .gd _, _, _, _, h => by simp only [Rep] at h ⊢; exact h
theorem Reps.low {n : Nat} (hn : μ.length ≤ n) : ∀ {d : List D} {v v' : List V}, Reps K mg μ H d v → Reps K mg μ' H' d v' → Reps K mg (μ'.take n) H' d v'
  | [], _, _, _, h => by simp only [Reps] at h ⊢; exact h
  | d :: ds, _, _, h, k => by
    simp only [Reps] at h k ⊢
    obtain ⟨y, ys, _, r, q⟩ := h
    obtain ⟨y', ys', e, r', q'⟩ := k
    exact ⟨y', ys', e, Rep.low hn r r', Reps.low hn q q'⟩
end
theorem RepF.low {n : Nat} (hn : μ.length ≤ n) : ∀ {d : List (Str × D)} {v v' : List (Str × V)}, RepF K mg μ H d v → RepF K mg μ' H' d v' → RepF K mg (μ'.take n) H' d v'
  | [], _, _, _, h => by simp only [RepF] at h ⊢; exact h
  | (f, d) :: ds, _, _, h, k => by
    simp only [RepF] at h k ⊢
    obtain ⟨y, ys, _, r, q⟩ := h
    obtain ⟨y', ys', e, r', q'⟩ := k
    exact ⟨y', ys', e, Rep.low hn r r', RepF.low hn q q'⟩
mutual
theorem Rep.pureAny (μ2 : List Addr) : ∀ {d : D} {v : V}, d.pure = true → Rep K mg μ H d v → Rep K mg μ2 H d v
  | .non, _, _, h => by simp only [Rep] at h ⊢; exact h
  | .bl _, _, _, h => by simp only [Rep] at h ⊢; exact h
  | .int _, _, _, h => by simp only [Rep] at h ⊢; exact h
  | .str _, _, _, h => by simp only [Rep] at h ⊢; exact h
  | .tup ds, _, p, k => by
    simp only [D.pure] at p
    simp only [Rep] at k ⊢
    obtain ⟨a', xs', e, q, r'⟩ := k
    exact ⟨a', xs', e, q, Reps.pureAny μ2 p r'⟩
  | .ref m, _, p, _ => by simp [D.pure] at p
  | .fn _, _, _, h => by simp only [Rep] at h ⊢; exact h
  | .gd _, _, _, h => by simp only [Rep] at h ⊢; exact h
theorem Reps.pureAny (μ2 : List Addr) : ∀ {d : List D} {v : List V}, D.pureL d = true → Reps K mg μ H d v → Reps K mg μ2 H d v
  | [], _, _, h => by simp only [Reps] at h ⊢; exact h
  | d :: ds, _, p, k => by
    simp only [D.pureL, Bool.and_eq_true] at p
    simp only [Reps] at k ⊢
    obtain ⟨y', ys', e, r', q'⟩ := k
    exact ⟨y', ys', e, Rep.pureAny μ2 p.1 r', Reps.pureAny μ2 p.2 q'⟩
end
theorem Gr.take (g : Gr μ H μ' H') : μ'.take μ.length = μ := by
  apply List.ext_getElem?
  intro i
  by_cases h : i < μ.length
  · rw [List.getElem?_take_of_lt h]
    have := g.pre i μ[i] (by simp [h])
    rw [this]
    simp [h]
  · rw [List.getElem?_eq_none (by simp; omega), List.getElem?_eq_none (by omega)]
/-- the old store, at the new heap -/
theorem AbS.back (A : AbS K mg μ S H) (g : Gr μ H μ' H') (A' : AbS K mg μ' S' H') (e : S'.take S.length = S) : AbS K mg μ S H' ∧ Gr μ H μ H' := by
  have ht := g.take
  refine ⟨⟨A'.tab, A.len, A.nd, fun n a o h1 h2 => ?_⟩, ⟨fun _ _ h => h, g.kt, g.kf⟩⟩
  have hn : n < S.length := (List.getElem?_eq_some_iff.mp h2).1
  have h3 : S'[n]? = some o := by
    rw [← e, List.getElem?_take_of_lt hn] at h2
    exact h2
  have r := A'.ob n a o (g.pre n a h1) h3
  have r0 := A.ob n a o h1 h2
  rw [← ht]
  cases o with
  | lst ds =>
    obtain ⟨vs, q1, q2⟩ := r
    obtain ⟨vs0, _, q20⟩ := r0
    exact ⟨vs, q1, Reps.low (Nat.le_refl _) q20 q2⟩
  | frz ds =>
    obtain ⟨o, vs, q1, q2⟩ := r
    obtain ⟨_, vs0, _, q20⟩ := r0
    exact ⟨o, vs, q1, Reps.low (Nat.le_refl _) q20 q2⟩
  | ins c fs =>
    obtain ⟨C, dx, gs, q1, q2, q3, q4⟩ := r
    obtain ⟨_, _, gs0, _, _, _, q40⟩ := r0
    exact ⟨C, dx, gs, q1, q2, q3, RepF.low (Nat.le_refl _) q40 q4⟩
theorem gc_ok {W : WX} {d : D} {v : V} {Q : VK} {E : XK} (A : AbS K mg μ S H) (g : Gr μ H μ' H') (A' : AbS K mg μ' S' H') (r : Rep K mg μ' H' d v) (h : RF K mg μ H (gc S d S') Q E) : Q v H' := by
  unfold gc at h
  split at h
  · rename_i he
    have e := eqS_eq he
    obtain ⟨A2, g2⟩ := A.back g A' e
    split at h
    · rename_i hp
      exact h μ v H' g2 A2 (r.pureAny μ hp)
    · split at h
      · rename_i m
        split at h
        · split at h
          · rename_i hm ds hS
            split at h
            · rename_i hp
              simp only [Rep] at r
              obtain ⟨a, e1, rfl⟩ := r
              obtain ⟨vs, q1, q2⟩ := A'.lst hS e1
              have hn : a ∉ μ := fun hmem => by
                obtain ⟨i, hi⟩ := List.mem_iff_getElem?.mp hmem
                have h2 := g.pre i a hi
                obtain ⟨l1, e3⟩ := List.getElem?_eq_some_iff.mp h2
                obtain ⟨l2, e4⟩ := List.getElem?_eq_some_iff.mp e1
                have := (List.getElem_inj A'.nd).mp (e3.trans e4.symm)
                have hi' := (List.getElem?_eq_some_iff.mp hi).1
                rw [A.len] at hi'
                omega
              refine h (μ ++ [a]) (.ref a) H' (g2.trans (Gr.snoc (Ext.refl _))) (A2.snoc (o := .lst ds) (Ext.refl _) hn ⟨vs, q1, q2.pureAny _ hp⟩) ?_
              simp only [Rep]
              exact ⟨a, by rw [← A.len]; simp, rfl⟩
            · exact h μ' v H' g A' r
          · exact h μ' v H' g A' r
        · exact h μ' v H' g A' r
      · exact h μ' v H' g A' r
  · exact h μ' v H' g A' r
end
/-! ### defs -/
theorem look_mem {α β : Type} [BEq α] [LawfulBEq α] {a : α} {b : β} : ∀ {l : List (α × β)}, l.lookup a = some b → (a, b) ∈ l
  | [], h => by simp at h
  | (c, d) :: r, h => by
    rw [List.lookup_cons] at h
    cases q : (a == c) with
    | true =>
      rw [q] at h
      have e : d = b := Option.some.inj h
      have e2 : a = c := by simpa using q
      rw [e2, e]
      exact List.mem_cons_self
    | false =>
      rw [q] at h
      exact List.mem_cons_of_mem _ (look_mem h)
theorem codes_mem {K : PySem.W.Frag} {fa c T : Addr} {oc : Value} {od : Option Addr} {fd : FuncData} {sl : Array (Option Value)} (h : K.lookup fa = some ⟨oc, od, .func fd, sl⟩) (hc : fd.code = .ref c) (ht : tabAt K fd.code = some T) :
    (c, T) ∈ codesK K ∧ (T, (fd.qualname ++ ".<locals>.") ++ "<lambda>") ∈ tabsK K := by
  have hm := look_mem h
  refine ⟨List.mem_filterMap.mpr ⟨_, hm, ?_⟩, List.mem_filterMap.mpr ⟨_, hm, ?_⟩⟩
  · simp only [ht]
    rw [hc]
  · simp only [ht]
/-- what a context has, whichever it is -/
structure GHyp (P : Program) (w : World) (K : PySem.W.Frag) (mg : MG) (base : Heap) (C : Ev) (k : Nat) : Prop where
  free : ∀ x ∈ freeNames, mg x = none
  gt : ∀ x d, C.gt x = some d → ∃ v u, mg x = some u ∧ RelV v u ∧ TopR mg K d v
  gd : ∀ x kvs, C.gd x = some kvs → ∃ a, mg x = some (.ref a) ∧ GdOk K mg a kvs ∧ ∀ q d, kval kvs q = some d → ∃ i, q = .inl i
  cf : ∀ f, C.fn Str.empty f = true → ∃ a, mg f = some (.ref a) ∧ PySem.W.keepIn K (.ref a) = true ∧ CallOk P w K mg base k (C.cf Str.empty f) a
  ins : ∀ c Ca m, mg c = some (.ref Ca) → ClsZ K Ca → C.fn c m = true → ∃ f, Meth K Ca m f ∧ CallOk P w K mg base k (C.cf c m) f
  make : ∀ c, C.fn c "__init__" = true → ∃ Ca f, mg c = some (.ref Ca) ∧ ClsZ K Ca ∧ Mk K Ca f ∧ ((∀ ds kw S, C.cm c "__init__" ds kw S = .st) ∨ ∃ j, j + 1 ≤ k ∧ CallOk P w K mg base j (C.cm c "__init__") f)
  xf : ∀ c f, C.xf c = some f → ∃ Ca fI, mg c = some (.ref Ca) ∧ ExZ P K mg Ca f fI ∧ 1 ≤ k
  xm : ∀ c d b, C.xm c d = some b → ∃ Ca Da, mg c = some (.ref Ca) ∧ mg d = some (.ref Da) ∧ PySem.W.exmOne K (.ref Ca) (.ref Da) = some b ∧ XfC K Ca ∧ ∀ f, ATTRS.contains f = true → PySem.W.findIn K (.ref Ca) f = some none
  td : ∀ f t, C.td f = some t → ToldOk K mg f t
  low : LowOk P w K mg base k chkE C.low
  uq : ∀ p ∈ tabsK K, ∀ q ∈ tabsK K, p.1 = q.1 → p.2 = q.2
  tabs : ∀ p ∈ codesK K, LamX.TabB base mg p.1 p.2
theorem GHyp.hyp {X : Cx} {C : Ev} {k : Nat} {W : WX} (G : GHyp X.prog X.w X.K X.mg X.base C k) (calm : X.calm = true) (nd : X.N.Nodup) (room : RoomG k X.A) (tk : Takes X W) (kind : X.env.scope.kind = .function)
    (tb : X.fn Str.empty = true → ∃ c P, X.env.code = .ref c ∧ LamX.TabB X.base X.mg c P ∧ (P, X.env.qual ++ "<lambda>") ∈ tabsK X.K) : Hyp X W C k :=
  ⟨calm, nd, room, tk, kind, G.free, G.gt, G.gd, G.cf, G.ins, G.make, G.xf, G.xm, G.td, G.low, G.uq, tb⟩
/-- a def as it stands -/
structure FnZ (K : PySem.W.Frag) (mg : MG) (fa : Addr) (fd : FD) : Prop where
  ex : ∃ (name qual : Str) (params : Arguments) (body : List Stmt) (scope : Scope) (oc : Value) (od : Option Addr) (dV kV doc pm : Value) (an : Option Addr) (c T : Addr) (ct : Value) (osl : Array (Option Value)),
    K.lookup fa = some ⟨oc, od, .func (PySem.W.fnOf name qual params body scope dV kV doc pm an (.ref c) ct), osl⟩ ∧ PySem.W.codeIn K (.ref c) qual = true ∧ tabAt K (.ref c) = some T ∧ FnScope fd.N (fd.N.take fd.np) scope ∧ Plain params (fd.N.take fd.np) ∧
    ((fd.dfl = [] ∧ dV = .none) ∨ (∃ (T : Addr) (o : PySem.Obj) (n : Nat) (its : List Value) (dvs : List V), dV = .ref T ∧ K.lookup T = some o ∧ o.data = .seq its.toArray n ∧ Vals dvs its ∧ ∀ μ H, Reps K mg μ H fd.dfl dvs)) ∧
    chkB true fd.N scope fd.body body = true
theorem callOk_of {P : Program} {w : World} {K : PySem.W.Frag} {mg : MG} {base : Heap} {C : Ev} {k : Nat} {fa : Addr} {fd : FD} (G : GHyp P w K mg base C k) (F : FnZ K mg fa fd) : CallOk P w K mg base (k + 1) (runF C fd) fa := by
  obtain ⟨name, qual, params, body, scope, oc, od, dV, kV, doc, pm, an, cda, T, ct, osl, lk, hcd, htab, Sc, Pl, hdf, hchk⟩ := F.ex
  refine ⟨fun A outer s H us ks ws vs zs Q E hr e0 rv rz hk h => ?_⟩
  obtain ⟨μ, S, ds, es, AS, rd, re, h⟩ := h
  unfold runF at h
  have hdfl : ∃ its : List Value, ((its = [] ∧ dV = .none) ∨ (∃ (T : Addr) (o : PySem.Obj) (n : Nat), dV = .ref T ∧ K.lookup T = some o ∧ o.data = .seq its.toArray n)) ∧ Paired (RDV K mg μ H) fd.dfl its := by
    rcases hdf with ⟨e, rfl⟩ | ⟨T, o, n, its, dvs, rfl, lT, oT, vd, rr⟩
    · exact ⟨[], .inl ⟨rfl, rfl⟩, by rw [e]; exact .nil⟩
    · exact ⟨its, .inr ⟨T, o, n, rfl, lT, oT⟩, rdv_of (rr μ H) vd⟩
  obtain ⟨its, hits, pd⟩ := hdfl
  cases hb : bindZ (fd.N.take fd.np) fd.dfl ds (ks.zip es) with
  | none => rw [hb] at h; exact h.elim
  | some xs =>
    rw [hb] at h
    obtain ⟨us', hb', pu⟩ := bindZ_rel pd (rdv_of rd rv) (rdv_kw (ks := ks) re rz) hb
    obtain ⟨vs', rr, rv'⟩ := rdv_to pu
    have hlen : (fd.N.take fd.np).length = us'.length := (bindZ_look (Sc.nd.sublist (List.take_sublist _ _)) hb').2.2.2.2.1
    have KX : K.In s.heap := e0.mod.kin.keeps fun b o e => (e0.bs b o e).1
    obtain ⟨m1, m2⟩ := codes_mem lk rfl htab
    refine LamX.run_ofS lk hcd Sc hr.r e0 (BindsTo.of_looks fun M => bind_looks Pl (Sc.nd.sublist (List.take_sublist _ _)) KX hits hb') rv' (by rw [rv'.length, hlen]) fun hr' => ?_
    have hy : Hyp (cxOf (L2.CX P w) P w K mg base fd.N qual scope fa (.ref cda) A outer s H E) (fun cls dd _ H => E cls dd H) C k :=
      GHyp.hyp (X := cxOf (L2.CX P w) P w K mg base fd.N qual scope fa (.ref cda) A outer s H E) G rfl Sc.nd ⟨hr', (RoomG.deeper hr _).g⟩ (takes_of rfl rfl rfl rfl) Sc.kind fun _ => ⟨cda, T, rfl, G.tabs _ m1, m2⟩
    have hyS : HypS (cxOf (L2.CX P w) P w K mg base fd.N qual scope fa (.ref cda) A outer s H E) (fun cls dd _ H => E cls dd H) C k := ⟨hy, passes_of rfl, fun _ _ => rfl⟩
    refine ⟨_, sB hyS fd.body body hchk, μ, S, _, AS, envR_start rr, ?_⟩
    have hl : vs'.length = xs.length := rr.length.symm
    simp only at h
    cases hev : evB C fd.body (xs.map some ++ List.replicate (fd.N.length - xs.length) none) S with
    | st => rw [hev] at h; exact h.elim
    | bk ρ S' => rw [hev] at h; exact h.elim
    | ct ρ S' => rw [hev] at h; exact h.elim
    | nx ρ S' =>
      rw [hev] at h
      exact fun μ' σ' H' g A' En => gc_ok (W := fun _ _ _ _ => True) AS g A' (show Rep K mg μ' H' .non .non by simp [Rep]) h
    | rt d S' =>
      rw [hev] at h
      exact fun μ' v H' g A' r => gc_ok (W := fun _ _ _ _ => True) AS g A' r h
    | ex c fs ρ S' =>
      rw [hev] at h
      exact fun μ' σ' H' cls dd g A' En x => h μ' H' cls dd g A' x
/-! ### programs -/
structure PgOk (P : Program) (K : PySem.W.Frag) (mg : MG) (p : Pg) : Prop where
  free : ∀ x ∈ freeNames, mg x = none
  gt : ∀ x d, p.gt.lookup x = some d → ∃ v u, mg x = some u ∧ RelV v u ∧ TopR mg K d v
  gd : ∀ x kvs, p.gd.lookup x = some kvs → ∃ a, mg x = some (.ref a) ∧ GdOk K mg a kvs ∧ ∀ q d, kval kvs q = some d → ∃ i, q = .inl i
  cf : ∀ f fd, p.fs.lookup (Str.empty, f) = some fd → ∃ a, mg f = some (.ref a) ∧ PySem.W.keepIn K (.ref a) = true ∧ FnZ K mg a fd
  ins : ∀ c Ca m fd, mg c = some (.ref Ca) → ClsZ K Ca → p.fs.lookup (c, m) = some fd → ∃ f, Meth K Ca m f ∧ FnZ K mg f fd
  make : ∀ c fd, p.fs.lookup (c, ("__init__" : Str)) = some fd → ∃ Ca f, mg c = some (.ref Ca) ∧ ClsZ K Ca ∧ Mk K Ca f ∧ FnZ K mg f fd
  xf : ∀ c f, p.xf.lookup c = some f → ∃ Ca fI, mg c = some (.ref Ca) ∧ ExZ P K mg Ca f fI
  xm : ∀ c d b, p.xm.lookup (c, d) = some b → ∃ Ca Da, mg c = some (.ref Ca) ∧ mg d = some (.ref Da) ∧ PySem.W.exmOne K (.ref Ca) (.ref Da) = some b ∧ XfC K Ca ∧ ∀ f, ATTRS.contains f = true → PySem.W.findIn K (.ref Ca) f = some none
  td : ∀ f t, p.td.lookup f = some t → ToldOk K mg f t
  uq : ∀ p ∈ tabsK K, ∀ q ∈ tabsK K, p.1 = q.1 → p.2 = q.2
section
variable {P : Program} {w : World} {K : PySem.W.Frag} {mg : MG} {base : Heap} {p : Pg}
theorem CallOk.st {k : Nat} {cf : List D → List (Str × D) → Sto → R} {f : Addr} (h : ∀ ds kw S, cf ds kw S = .st) : CallOk P w K mg base k cf f := ⟨fun A outer s H us ks ws vs zs Q E hr e0 rv rz hk ⟨μ, S, ds, es, AS, rd, re, q⟩ => by rw [h] at q; exact q.elim⟩
theorem callN_eq (p : Pg) (k : Nat) (c f : Str) (ds : List D) (kw : List (Str × D)) (S : Sto) : callN p (k + 1) c f ds kw S = (match p.fs.lookup (c, f) with
  | some fd => runF (evAt p k) fd ds kw S
  | none => .st) := rfl
theorem callN_none {k : Nat} {c f : Str} (h : p.fs.lookup (c, f) = none) (ds kw S) : callN p k c f ds kw S = .st := by
  cases k with
  | zero => rfl
  | succ k => rw [callN_eq, h]
theorem callN_some {k : Nat} {c f : Str} {fd : FD} (h : p.fs.lookup (c, f) = some fd) : callN p (k + 1) c f = runF (evAt p k) fd := by
  funext ds kw S
  rw [callN_eq, h]
theorem ev_fn (k : Nat) : (evAt p k).fn = fun c f => (p.fs.lookup (c, f)).isSome := by cases k <;> rfl
theorem ev_gt (k : Nat) : (evAt p k).gt = fun x => p.gt.lookup x := by cases k <;> rfl
theorem ev_gd (k : Nat) : (evAt p k).gd = fun x => p.gd.lookup x := by cases k <;> rfl
theorem ev_xm (k : Nat) : (evAt p k).xm = fun c d => p.xm.lookup (c, d) := by cases k <;> rfl
theorem ev_td (k : Nat) : (evAt p k).td = fun x => p.td.lookup x := by cases k <;> rfl
/-- lambdas' bodies, two levels lower -/
theorem low_ok {j : Nat} (G : GHyp P w K mg base (evAt p j) j) : LowOk P w K mg base (j + 2) chkE (evE (evAt p j)) := by
  refine ⟨.inr ⟨j, Nat.le_refl _, fun X W e1 e2 e3 e4 e5 calm nd room tk kind hfn b e hc => ?_⟩⟩
  subst e1; subst e2; subst e3; subst e4; subst e5
  exact (sE (evAt p j) j b X W e (G.hyp calm nd room tk kind fun z => by rw [hfn] at z; cases z) (by rw [hfn]; exact hc)).pe
/-- every def, at every depth -/
theorem ghyp (O : PgOk P K mg p) (TB : ∀ q ∈ codesK K, LamX.TabB base mg q.1 q.2) : ∀ k, GHyp P w K mg base (evAt p k) k := by
  have key : ∀ k, (∀ j, j < k → GHyp P w K mg base (evAt p j) j) → ∀ {c f : Str} {fd : FD} {a : Addr}, p.fs.lookup (c, f) = some fd → FnZ K mg a fd → CallOk P w K mg base k (callN p k c f) a := by
    intro k ih c f fd a h F
    cases k with
    | zero => exact .st fun _ _ _ => rfl
    | succ k =>
      rw [callN_some h]
      exact callOk_of (ih k (Nat.lt_succ_self k)) F
  intro k
  induction k using Nat.strongRecOn with
  | ind k ih =>
    refine ⟨O.free, ?_, ?_, fun f hf => ?_, fun c Ca m h1 h2 hf => ?_, fun c hf => ?_, fun c f hf => ?_, ?_, ?_, ?_, O.uq, TB⟩
    · rw [ev_gt]; exact O.gt
    · rw [ev_gd]; exact O.gd
    · rw [ev_fn] at hf
      obtain ⟨fd, h⟩ := Option.isSome_iff_exists.mp hf
      obtain ⟨a, q1, q2, q3⟩ := O.cf f fd h
      exact ⟨a, q1, q2, key k ih h q3⟩
    · rw [ev_fn] at hf
      obtain ⟨fd, h⟩ := Option.isSome_iff_exists.mp hf
      obtain ⟨f, q1, q2⟩ := O.ins c Ca m fd h1 h2 h
      exact ⟨f, q1, key k ih h q2⟩
    · rw [ev_fn] at hf
      obtain ⟨fd, h⟩ := Option.isSome_iff_exists.mp hf
      obtain ⟨Ca, f, q1, q2, q3, q4⟩ := O.make c fd h
      refine ⟨Ca, f, q1, q2, q3, ?_⟩
      cases k with
      | zero => exact .inl fun _ _ _ => rfl
      | succ j => exact .inr ⟨j, Nat.le_refl _, key j (fun i hi => ih i (by omega)) h q4⟩
    · cases k with
      | zero => cases hf
      | succ j =>
        obtain ⟨Ca, fI, q1, q2⟩ := O.xf c f hf
        exact ⟨Ca, fI, q1, q2, Nat.succ_le_succ (Nat.zero_le _)⟩
    · rw [ev_xm]; exact O.xm
    · rw [ev_td]; exact O.td
    · cases k with
      | zero => exact ⟨.inl fun _ _ _ => rfl⟩
      | succ j =>
        cases j with
        | zero => exact ⟨.inl fun _ _ _ => rfl⟩
        | succ i => exact low_ok (ih i (by omega))
theorem callOk (O : PgOk P K mg p) (TB : ∀ q ∈ codesK K, LamX.TabB base mg q.1 q.2) {k : Nat} {c f : Str} {fd : FD} {a : Addr} (h : p.fs.lookup (c, f) = some fd) (F : FnZ K mg a fd) : CallOk P w K mg base k (callN p k c f) a := by
  cases k with
  | zero => exact .st fun _ _ _ => rfl
  | succ k =>
    rw [callN_some h]
    exact callOk_of (ghyp O TB k) F
end
end Z
set_option maxHeartbeats 4000000
/-! Z18: the top's facts by one Bool; the head, the end -/
namespace Z
open PySem PySem.Spec PyProof.Rows L2
theorem ba {a b : Bool} (h : (a && b) = true) : a = true ∧ b = true := Bool.and_eq_true_iff.mp h
theorem pair_mem {α β : Type} [BEq α] [LawfulBEq α] {a : α} {b : β} : ∀ {l : List (α × β)}, l.lookup a = some b → (a, b) ∈ l
  | [], h => by simp at h
  | (c, d) :: r, h => by
    rw [List.lookup_cons] at h
    cases q : (a == c) with
    | true =>
      rw [q] at h
      have e : d = b := Option.some.inj h
      have e2 : a = c := by simpa using q
      rw [e2, e]
      exact List.mem_cons_self
    | false =>
      rw [q] at h
      exact List.mem_cons_of_mem _ (pair_mem h)
def gB (K : PySem.W.Frag) (x : Str) : Option Value := match PySem.W.nsIn K mainGlobals x with
  | some (some v) => some v
  | _ => none
def gA (K : PySem.W.Frag) (x : Str) : Option Addr := match PySem.W.nsIn K mainGlobals x with
  | some (some (.ref a)) => some a
  | _ => none
def freeB (K : PySem.W.Frag) (x : Str) : Bool := match PySem.W.nsIn K mainGlobals x with
  | some none => true
  | _ => false
mutual
/-- u stands for d -/
def topB (K : PySem.W.Frag) : D → Value → Bool
  | .non, u => match u with
    | .none => true
    | _ => false
  | .bl b, u => match u with
    | .bool c => b == c
    | _ => false
  | .int i, u => match u with
    | .int j _ => decide (i = j)
    | _ => false
  | .str i, u => match u with
    | .str j _ => decide (i = j)
    | _ => false
  | .tup ds, u => match u with
    | .ref a => (match K.lookup a with
      | some ⟨.type c, _, .seq its _, _⟩ => decide (c = "tuple") && (decide (its.size ≤ sizeLine) && topsB K ds its.toList)
      | _ => false)
    | _ => false
  | .ref _, _ => false
  | .fn x, u => match u with
    | .ref a => decide (gA K x = some a)
    | _ => false
  | .gd x, u => match u with
    | .ref a => decide (gA K x = some a)
    | _ => false
def topsB (K : PySem.W.Frag) : List D → List Value → Bool
  | [], us => match us with
    | [] => true
    | _ => false
  | d :: ds, us => match us with
    | u :: us => topB K d u && topsB K ds us
    | _ => false
end
section
variable {K : PySem.W.Frag} {mg : MG} {h : Heap}
theorem gB_ok (X : K.In h) (G : h.Ns mainGlobals mg) {x : Str} {v : Value} (c : gB K x = some v) : mg x = some v := by
  unfold gB at c
  split at c
  · cases c
    exact PySem.W.mg_of X G (by assumption)
  · cases c
theorem gA_ok (X : K.In h) (G : h.Ns mainGlobals mg) {x : Str} {a : Addr} (c : gA K x = some a) : mg x = some (.ref a) := by
  unfold gA at c
  split at c
  · cases c
    exact PySem.W.mg_of X G (by assumption)
  · cases c
theorem freeB_ok (X : K.In h) (G : h.Ns mainGlobals mg) {x : Str} (c : freeB K x = true) : mg x = none := by
  unfold freeB at c
  split at c
  · exact PySem.W.mg_none_of X G (by assumption)
  · cases c
mutual
theorem topB_ok (X : K.In h) (G : h.Ns mainGlobals mg) : ∀ (d : D) (u : Value), topB K d u = true → ∃ v, RelV v u ∧ TopR mg K d v
  | .non, u, c => by
    simp only [topB] at c
    split at c
    · exact ⟨.non, rfl, fun _ _ => by simp [Rep]⟩
    · cases c
  | .bl b, u, c => by
    simp only [topB] at c
    split at c
    · rename_i b'
      have : b = b' := by simpa using c
      subst this
      exact ⟨.bl b, rfl, fun _ _ => by simp [Rep]⟩
    · cases c
  | .int b, u, c => by
    simp only [topB] at c
    split at c
    · rename_i b' t
      have : b = b' := by simpa using c
      subst this
      exact ⟨.int b, ⟨t, rfl⟩, fun _ _ => by simp [Rep]⟩
    · cases c
  | .str b, u, c => by
    simp only [topB] at c
    split at c
    · rename_i b' t
      have : b = b' := by simpa using c
      subst this
      exact ⟨.str b, ⟨t, rfl⟩, fun _ _ => by simp [Rep]⟩
    · cases c
  | .tup ds, u, c => by
    simp only [topB] at c
    split at c
    · rename_i a
      split at c
      · rename_i cc od its n sl lk
        simp only [Bool.and_eq_true, decide_eq_true_eq] at c
        obtain ⟨rfl, hz, c⟩ := c
        obtain ⟨vs, rv, tr⟩ := topsB_ok X G ds its.toList c
        refine ⟨.ref a, rfl, fun μ H => ?_⟩
        simp only [Rep]
        exact ⟨a, vs, rfl, .inr ⟨_, its, n, lk, rfl, rfl, hz, rv⟩, tr μ H⟩
      · cases c
    · cases c
  | .ref _, u, c => by simp [topB] at c
  | .fn x, u, c => by
    simp only [topB] at c
    split at c
    · rename_i a
      refine ⟨.ref a, rfl, fun μ H => ?_⟩
      simp only [Rep]
      exact ⟨a, gA_ok X G (of_decide_eq_true c), rfl⟩
    · cases c
  | .gd x, u, c => by
    simp only [topB] at c
    split at c
    · rename_i a
      refine ⟨.ref a, rfl, fun μ H => ?_⟩
      simp only [Rep]
      exact ⟨a, gA_ok X G (of_decide_eq_true c), rfl⟩
    · cases c
theorem topsB_ok (X : K.In h) (G : h.Ns mainGlobals mg) : ∀ (d : List D) (u : List Value), topsB K d u = true → ∃ v, Vals v u ∧ ∀ μ H, Reps K mg μ H d v
  | [], u, c => by
    simp only [topsB] at c
    split at c
    · exact ⟨[], .nil, fun _ _ => .nil⟩
    · cases c
  | d :: ds, u, c => by
    simp only [topsB] at c
    split at c
    · obtain ⟨c1, c2⟩ := ba c
      obtain ⟨v, r, t⟩ := topB_ok X G d _ c1
      obtain ⟨vs, rs, ts⟩ := topsB_ok X G ds _ c2
      exact ⟨v :: vs, .cons r rs, fun μ H => .cons (t μ H) (ts μ H)⟩
    · cases c
end
/-- a dict of int keys -/
def entB (K : PySem.W.Frag) : List DictEntry → List (Key × D) → Bool
  | [], [] => true
  | e :: es, q :: qs => (match e.key, q.1 with
    | .int i _, .inl j => decide (i = j) && (decide (e.hash = hashInt i) && topB K q.2 e.val)
    | _, _ => false) && entB K es qs
  | _, _ => false
theorem entB_ok (X : K.In h) (G : h.Ns mainGlobals mg) : ∀ (es : List DictEntry) (kvs : List (Key × D)), entB K es kvs = true →
    (∀ e ∈ es, ∃ i t, e.key = .int i t ∧ e.hash = hashInt i) ∧ (∀ i d, kval kvs (.inl i) = some d → ∃ u v, ((es.find? fun e => Value.isInt i e.key).map (·.val)) = some u ∧ RelV v u ∧ TopR mg K d v) ∧
    (∀ i, kval kvs (.inl i) = none → ((es.find? fun e => Value.isInt i e.key).map (·.val)) = none) ∧ ∀ q d, kval kvs q = some d → ∃ i, q = .inl i
  | [], [], _ => ⟨fun e he => absurd he (by simp), fun i d e => by simp [kval] at e, fun i _ => rfl, fun q d e => by simp [kval] at e⟩
  | [], _ :: _, c => by simp [entB] at c
  | _ :: _, [], c => by simp [entB] at c
  | e :: es, q :: qs, c => by
    simp only [entB] at c
    obtain ⟨c1, c2⟩ := ba c
    obtain ⟨h1, h2, h3, h4⟩ := entB_ok X G es qs c2
    split at c1
    · rename_i i t j ek eq
      simp only [Bool.and_eq_true, decide_eq_true_eq] at c1
      obtain ⟨rfl, hh, ht⟩ := c1
      obtain ⟨q1, q2⟩ := q
      simp only at eq
      subst eq
      obtain ⟨v, r, tr⟩ := topB_ok X G q2 _ ht
      refine ⟨fun e' he' => ?_, fun j d e' => ?_, fun j e' => ?_, fun k d e' => ?_⟩
      · rcases List.mem_cons.mp he' with rfl | he'
        · exact ⟨i, t, ek, hh⟩
        · exact h1 e' he'
      · simp only [kval] at e'
        rw [List.find?_cons, ek]
        by_cases hj : i = j
        · subst hj
          rw [if_pos rfl] at e'
          cases e'
          simp only [Value.isInt, beq_self_eq_true]
          exact ⟨_, v, rfl, r, tr⟩
        · rw [if_neg (by simpa using hj)] at e'
          have b2 : Value.isInt j (.int i t) = false := by simp only [Value.isInt]; simpa using hj
          rw [b2]
          exact h2 j d e'
      · simp only [kval] at e'
        rw [List.find?_cons, ek]
        by_cases hj : i = j
        · subst hj
          rw [if_pos rfl] at e'
          cases e'
        · rw [if_neg (by simpa using hj)] at e'
          have b2 : Value.isInt j (.int i t) = false := by simp only [Value.isInt]; simpa using hj
          rw [b2]
          exact h3 j e'
      · simp only [kval] at e'
        by_cases hk : Sum.inl i = k
        · exact ⟨i, hk.symm⟩
        · rw [if_neg hk] at e'; exact h4 k d e'
    · cases c1
def gdB (K : PySem.W.Frag) (q : Str × List (Key × D)) : Bool := match gA K q.1 with
  | some a => !(a == sysModules) && (match K.lookup a with
    | some ⟨.type c, none, .dict es _, sl⟩ => decide (c = "dict") && (sl.isEmpty && entB K es.toList q.2)
    | _ => false)
  | none => false
theorem gdB_ok (X : K.In h) (G : h.Ns mainGlobals mg) {q : Str × List (Key × D)} (c : gdB K q = true) : ∃ a, mg q.1 = some (.ref a) ∧ GdOk K mg a q.2 ∧ ∀ k d, kval q.2 k = some d → ∃ i, k = .inl i := by
  unfold gdB at c
  split at c
  · rename_i a ha
    obtain ⟨c0, c⟩ := ba c
    split at c
    · rename_i cc es n sl lk
      simp only [Bool.and_eq_true, decide_eq_true_eq] at c
      obtain ⟨rfl, hsl, c⟩ := c
      obtain ⟨h1, h2, h3, h4⟩ := entB_ok X G es.toList q.2 c
      have hsl' : sl = #[] := Array.isEmpty_iff.mp hsl
      subst hsl'
      have fb : ∀ i, findBy Value.isInt es i = (es.toList.find? fun e => Value.isInt i e.key).map (·.val) := fun i => by
        unfold findBy
        obtain ⟨l⟩ := es
        simp
      refine ⟨a, gA_ok X G ha, ⟨⟨es, n, lk, fun e he => h1 e (by simpa using he), fun i d e => ?_, fun i e => ?_⟩, by simpa using c0⟩, h4⟩
      · rw [fb]; exact h2 i d e
      · rw [fb]; exact h3 i e
    · cases c
  · cases c
/-! ### defs -/
def plainB (p : Arguments) (ps : List Str) : Bool := p.posonlyargs.isEmpty && (p.kwonlyargs.isEmpty && (p.vararg.isNone && (p.kwarg.isNone && decide (p.args.map (·.arg) = ps))))
theorem plainB_ok {p : Arguments} {ps : List Str} (h : plainB p ps = true) : Plain p ps := by
  unfold plainB at h
  simp only [Bool.and_eq_true, decide_eq_true_eq, List.isEmpty_iff, Option.isNone_iff_eq_none] at h
  exact ⟨h.1, h.2.1, h.2.2.1, h.2.2.2.1, h.2.2.2.2⟩
def dflZ (K : PySem.W.Frag) (dV : Value) (ds : List D) : Bool := match dV with
  | .none => ds.isEmpty
  | .ref T => (match K.lookup T with
    | some ⟨_, _, .seq its _, _⟩ => topsB K ds its.toList
    | _ => false)
  | _ => false
def fnB (K : PySem.W.Frag) (fa : Addr) (fd : FD) : Bool := match K.lookup fa with
  | some ⟨_, _, .func g, _⟩ => (g.closure.isEmpty && (decide (g.globals = mainGlobals) && decide (g.builtins = builtinsNs))) && ((PySem.W.codeIn K g.code g.qualname && (tabAt K g.code).isSome) && ((match g.body with
    | .stmts b => chkB true fd.N g.scope fd.body b
    | _ => false) && (C8.scC fd.N (fd.N.take fd.np) g.scope && (plainB g.params (fd.N.take fd.np) && dflZ K g.defaults fd.dfl))))
  | _ => false
theorem fnB_ok (X : K.In h) (G : h.Ns mainGlobals mg) {fa : Addr} {fd : FD} (c : fnB K fa fd = true) : FnZ K mg fa fd := by
  unfold fnB at c
  split at c
  · rename_i oc od g sl lk
    obtain ⟨n1, n2, n3, n4, n5, n6, n7, n8, n9, n10, n11, n12, n13, n14, n15⟩ := g
    simp only [Bool.and_eq_true, decide_eq_true_eq, List.isEmpty_iff] at c
    obtain ⟨⟨rfl, rfl, rfl⟩, ⟨c1, c6⟩, c2, c3, c4, c5⟩ := c
    obtain ⟨T, c6⟩ := Option.isSome_iff_exists.mp c6
    obtain ⟨cda, rfl⟩ := He.codeIn_ref c1
    split at c2
    · rename_i b
      refine ⟨n1, n2, n3, b, n5, oc, od, n8, n9, n10, n11, n12, cda, T, n14, sl, lk, c1, c6, C8.fnScope_by c3, plainB_ok c4, ?_, c2⟩
      unfold dflZ at c5
      split at c5
      · exact .inl ⟨List.isEmpty_iff.mp c5, rfl⟩
      · rename_i T
        split at c5
        · rename_i oc2 od2 its n sl2 lT
          obtain ⟨vs, rv, tr⟩ := topsB_ok X G fd.dfl its.toList c5
          exact .inr ⟨T, _, n, its.toList, vs, rfl, lT, by simp, rv, tr⟩
        · cases c5
      · cases c5
    · cases c2
  · cases c
def eqO (a b : Option (Option Value)) : Bool := decide (a = b)
def clsB (K : PySem.W.Frag) (C : Addr) : Bool := PySem.W.plainGet K C Str.empty && (PySem.W.hasDictIn K C && (PySem.W.plainOver K C && (eqO (PySem.W.findIn K (.ref C) "__setattr__") (some (some (.builtin "object.__setattr__"))) &&
  ATTRS.all fun f => eqO (PySem.W.findIn K (.ref C) f) (some none))))
theorem clsB_ok {C : Addr} (c : clsB K C = true) : ClsZ K C := by
  unfold clsB eqO at c
  simp only [Bool.and_eq_true, decide_eq_true_eq, List.all_eq_true] at c
  obtain ⟨c1, c2, c3, c4, c5⟩ := c
  exact ⟨⟨c1, c2, c3, c4⟩, fun f hf => c5 f (by simpa using hf)⟩
def mA (K : PySem.W.Frag) (C : Addr) (m : Str) : Option Addr := match PySem.W.findIn K (.ref C) m with
  | some (some (.ref a)) => some a
  | _ => none
theorem mA_ok {C a : Addr} {m : Str} (h : mA K C m = some a) : PySem.W.findIn K (.ref C) m = some (some (.ref a)) := by
  unfold mA at h
  split at h
  · rename_i e
    cases h
    exact e
  · cases h
def defB (K : PySem.W.Frag) (q : (Str × Str) × FD) : Bool := if q.1.1 = Str.empty then !decide (q.1.2 = ("__init__" : Str)) && (match gA K q.1.2 with
    | some a => PySem.W.keepIn K (.ref a) && fnB K a q.2
    | none => false)
  else (match gA K q.1.1 with
    | some C => (match mA K C q.1.2 with
      | some a => (PySem.W.isFn K (.ref a) && PySem.W.keepIn K (.ref a)) && (fnB K a q.2 && (if q.1.2 = ("__init__" : Str) then PySem.W.makesIn K C && (PySem.W.keepIn K (.ref C) && clsB K C) else true))
      | none => false)
    | none => false)
/-! ### own exceptions, tellers -/
def oexB (K : PySem.W.Frag) (C : Addr) : Bool := (match K.lookup C with
  | some ⟨.type t, _, .cls cd, sl⟩ => decide (t = "type") && (cd.hasDict && (!cd.hasDel && (match cd.mro, sl.toList with
    | .ref C' :: bm, [_, _, _, _, some (.builtin n), _] => decide (C' = C) && (decide (n = "ValueError.__new__") && PySem.HandSPX.refsVE bm)
    | _, _ => false)))
  | _ => false) && (eqO (PySem.W.findIn K (.ref C) "__setattr__") (some (some (.builtin "object.__setattr__"))) && (decide (PySem.W.subIn K (.ref C) (.type "BaseException") = some true) && (decide (PySem.W.typeIn K (.ref C) = some (.type "type")) && PySem.W.keepIn K (.ref C))))
theorem oexB_ok {C : Addr} (c : oexB K C = true) : OexC K C := by
  unfold oexB eqO at c
  simp only [Bool.and_eq_true, decide_eq_true_eq] at c
  obtain ⟨c1, c2, c3, c4, c5⟩ := c
  refine ⟨?_, c2, c3, c4, c5⟩
  split at c1
  · rename_i t dd cd sl lk
    simp only [Bool.and_eq_true, decide_eq_true_eq, Bool.not_eq_true'] at c1
    obtain ⟨rfl, h1, h2, h3⟩ := c1
    split at h3
    · rename_i C' bm k0 k1 k2 k3 n k5 hm hs
      simp only [Bool.and_eq_true, decide_eq_true_eq] at h3
      obtain ⟨rfl, rfl, h3⟩ := h3
      obtain ⟨nm, bs, mro, ns, qn, hd, sn, sub, ab, col, del⟩ := cd
      dsimp only at h1 h2 hm
      subst h1; subst h2; subst hm
      have hsl : sl = #[k0, k1, k2, k3, some (.builtin "ValueError.__new__"), k5] := by
        obtain ⟨l⟩ := sl
        simp only at hs
        rw [hs]
      subst hsl
      exact ⟨nm, qn, ns, bs, bm, sn, sub, ab, col, dd, k0, k1, k2, k3, k5, lk, h3⟩
    · cases h3
  · cases c1
def isNonV : Value → Bool
  | .none => true
  | _ => false
theorem isNonV_ok {v : Value} (h : isNonV v = true) : v = .none := by cases v <;> first | rfl | cases h
/-- the body of such an __init__ -/
def inBody (self gv f : Str) : FuncBody → Bool
  | .stmts [.Expr (.Call (.Attribute (.Call (.Name s _) [] [] _) i ap) [.Name g1 _] [] cp) _, .Assign [.Attribute (.Name s1 _) f1 _] (.Name g2 _) _] => (decide (s = "super") && (decide (i = "__init__") && (decide (g1 = gv) && (decide (s1 = self) && (decide (f1 = f) && decide (g2 = gv)))))) && (ap.endLine == cp.line)
  | _ => false
def inNames (self gv : Str) (sc : Scope) : Bool := ((sc.names.all fun x => decide (x.2 ≠ .cell)) && (!sc.isCoroutine && (!sc.isGenerator && decide (sc.kind = .function)))) && ((decide (self ≠ gv) && (decide (sc.names.lookup self = some .local) && decide (sc.names.lookup gv = some .local))) && ((decide (sc.names.lookup ("super" : Str) = some .globalImplicit) && decide (sc.names.lookup ("__class__" : Str) = some .free)) && (!(self == ("__debug__" : Str)) && !(gv == ("__debug__" : Str)))))
def initB (fl : Str) (K : PySem.W.Frag) (C fI : Addr) (f : Str) : Bool := match K.lookup fI with
  | some ⟨_, _, .func g, _⟩ => ((match g.closure with
      | [(x, cc)] => decide (x = "__class__") && (match K.lookup cc with
        | some ⟨_, _, .cell (some (.ref C')), _⟩ => decide (C' = C)
        | _ => false)
      | _ => false) && (decide (g.globals = mainGlobals) && decide (g.builtins = builtinsNs))) && ((PySem.W.codeIn K g.code g.qualname && (match g.code with
      | .ref cda => (match K.lookup cda with
        | some ⟨_, _, .fields vs, _⟩ => (match (vs[2]? : Option Value) with
          | some (.str file _) => fl == file
          | _ => false)
        | _ => false)
      | _ => false)) && (isNonV g.defaults && (match g.params.args.map (·.arg) with
      | [self, gv] => plainB g.params [self, gv] && (inNames self gv g.scope && inBody self gv f g.body)
      | _ => false)))
  | _ => false
def exB (fl : Str) (K : PySem.W.Frag) (q : Str × Str) : Bool := match gA K q.1 with
  | some C => (match mA K C "__init__" with
    | some fI => (oexB K C && (decide (PySem.W.typeIn K (.ref fI) = some (.type "function")) && (eqO (PySem.W.findIn K (.ref C) q.2) (some none) && (eqO (PySem.W.ks_superIn K C C "__init__") (some (some (.builtin "ValueError.__init__"))) && (decide (PySem.W.mroIn K C (.ref C) = some true) && (decide (PySem.W.subIn K (.ref C) (.type "ValueError") = some true) && eqO (PySem.W.nsIn K cStatics "thirdparty.any") (some none))))))) && initB fl K C fI q.2
    | none => false)
  | none => false
theorem exB_ok {P : Program} {fl : Str} (hfl : ((P.main.file : Str)) = fl) (htop : (P.main.scope.names.lookup ("super" : Str)).isSome = false) (X : K.In h) (G : h.Ns mainGlobals mg) (hs : mg "super" = none) {q : Str × Str} (c : exB fl K q = true) : ∃ Ca fI, mg q.1 = some (.ref Ca) ∧ ExZ P K mg Ca q.2 fI := by
  unfold exB at c
  split at c
  · rename_i C hC
    split at c
    · rename_i fI hI
      unfold eqO at c
      simp only [Bool.and_eq_true, decide_eq_true_eq] at c
      obtain ⟨⟨c1, c2, c3, c4, c5, c6, c7⟩, c8⟩ := c
      refine ⟨C, fI, gA_ok X G hC, oexB_ok c1, mA_ok hI, c2, c3, c4, c5, c6, c7, hs, htop, ?_⟩
      unfold initB at c8
      split at c8
      · rename_i oc od g sl lk
        obtain ⟨n1, n2, n3, n4, n5, n6, n7, n8, n9, n10, n11, n12, n13, n14, n15⟩ := g
        simp only [Bool.and_eq_true, decide_eq_true_eq] at c8
        obtain ⟨⟨d1, rfl, rfl⟩, ⟨d2, d3⟩, d4, d5⟩ := c8
        split at d1
        · rename_i x cc
          simp only [Bool.and_eq_true, decide_eq_true_eq] at d1
          obtain ⟨rfl, d1⟩ := d1
          split at d1
          · rename_i cl cld C' csl lcc
            have d1 := of_decide_eq_true d1
            subst d1
            split at d3
            · rename_i cda
              split at d3
              · rename_i ccl cdd vs ccs lcd
                split at d3
                · rename_i file tf hv
                  split at d5
                  · rename_i self gv hargs
                    simp only [Bool.and_eq_true] at d5
                    obtain ⟨e1, e2, e3⟩ := d5
                    have e4 := isNonV_ok d4
                    subst e4
                    unfold inNames at e2
                    simp only [Bool.and_eq_true, decide_eq_true_eq, Bool.not_eq_true', List.all_eq_true] at e2
                    obtain ⟨⟨f1, f2, f3, f4⟩, ⟨f5, f6, f7⟩, ⟨f8, f9⟩, f10, f11⟩ := e2
                    unfold inBody at e3
                    split at e3
                    · rename_i s p0 p1 i ap g1 p2 cp ep s1 p3 f1' p4 g2 p5 sp
                      simp only [Bool.and_eq_true, decide_eq_true_eq] at e3
                      obtain ⟨⟨rfl, rfl, rfl, rfl, rfl, rfl⟩, e3⟩ := e3
                      exact ⟨n1, n2, n3, n5, oc, od, .none, n9, n10, n11, n12, cda, n14, sl, cc, s1, g2, vs, file, tf, ccl, cdd, ccs, cl, cld, csl, p0, p1, p2, p3, p4, p5, ap, cp, ep, sp, lk, d2, lcd, hv, by rw [hfl]; exact d3, lcc, plainB_ok e1, rfl, f5, f1, f2, f3, f4, f6, f7, f8, f9, f10, f11, e3⟩
                    · cases e3
                  · cases d5
                · cases d3
              · cases d3
            · cases d3
          · cases d1
        · cases d1
      · cases c8
    · cases c
  · cases c
def xmB (K : PySem.W.Frag) (q : (Str × Str) × Bool) : Bool := match gA K q.1.1, gA K q.1.2 with
  | some C, some D => decide (PySem.W.exmOne K (.ref C) (.ref D) = some q.2) && (xfB K C && ATTRS.all fun f => eqO (PySem.W.findIn K (.ref C) f) (some none))
  | _, _ => false
theorem xmB_ok (X : K.In h) (G : h.Ns mainGlobals mg) {q : (Str × Str) × Bool} (c : xmB K q = true) : ∃ Ca Da, mg q.1.1 = some (.ref Ca) ∧ mg q.1.2 = some (.ref Da) ∧ PySem.W.exmOne K (.ref Ca) (.ref Da) = some q.2 ∧ XfC K Ca ∧ ∀ f, ATTRS.contains f = true → PySem.W.findIn K (.ref Ca) f = some none := by
  unfold xmB eqO at c
  split at c
  · rename_i C D h1 h2
    simp only [Bool.and_eq_true, decide_eq_true_eq, List.all_eq_true] at c
    obtain ⟨c1, c2, c3⟩ := c
    exact ⟨C, D, gA_ok X G h1, gA_ok X G h2, c1, xfB_ok c2, fun f hf => c3 f (by simpa using hf)⟩
  · cases c
def exN : FuncBody → Option Str
  | .stmts (.Try _ (.ExceptHandler _ (some e) _ _ :: _) _ _ _ :: _) => some e
  | _ => none
def tdB (K : PySem.W.Frag) (q : Str × TD) : Bool := match gA K q.1 with
  | some g => (PySem.W.keepIn K (.ref g) && (q.2.hs.all fun r => (gA K r.1).isSome)) && (match K.lookup g with
    | some ⟨_, _, .func fd, _⟩ => (fd.closure.isEmpty && (decide (fd.globals = mainGlobals) && decide (fd.builtins = builtinsNs))) && ((PySem.W.codeIn K fd.code fd.qualname && isNonV fd.defaults) && (match fd.params.args.map (·.arg), exN fd.body with
      | [a], some e => (plainB fd.params [a] && C8.scC [a, e] [a] fd.scope) && ((okN a && okN e) && (decide (fd.scope.names.lookup a = some .local) && (decide (fd.scope.names.lookup e = some .local) && (match fd.body with
        | .stmts b => toldB (glB fd.scope) okN a e q.2 b
        | _ => false))))
      | _, _ => false))
    | _ => false)
  | none => false
theorem tdB_ok (X : K.In h) (G : h.Ns mainGlobals mg) {q : Str × TD} (c : tdB K q = true) : ToldOk K mg q.1 q.2 := by
  unfold tdB at c
  split at c
  · rename_i g hg
    simp only [Bool.and_eq_true, List.all_eq_true] at c
    obtain ⟨⟨c1, c2⟩, c3⟩ := c
    refine ⟨?_, fun r hr => ?_⟩
    · split at c3
      · rename_i oc od fd sl lk
        obtain ⟨n1, n2, n3, n4, n5, n6, n7, n8, n9, n10, n11, n12, n13, n14, n15⟩ := fd
        simp only [Bool.and_eq_true, decide_eq_true_eq, List.isEmpty_iff] at c3
        obtain ⟨⟨rfl, rfl, rfl⟩, ⟨d1, d2⟩, d3⟩ := c3
        have d2 := isNonV_ok d2
        subst d2
        split at d3
        · rename_i a e h1 h2
          simp only [Bool.and_eq_true, decide_eq_true_eq] at d3
          obtain ⟨⟨e1, e2⟩, ⟨e3, e4⟩, e5, e6, e7⟩ := d3
          split at e7
          · rename_i b
            exact ⟨g, n1, n2, n3, b, n5, oc, od, .none, n9, n10, n11, n12, n13, n14, sl, a, e, gA_ok X G hg, c1, lk, d1, plainB_ok e1, rfl, C8.fnScope_by e2, e3, e4, e5, e6, e7⟩
          · cases e7
        · cases d3
      · cases c3
    · obtain ⟨D, hD⟩ := Option.isSome_iff_exists.mp (c2 r hr)
      exact ⟨D, gA_ok X G hD⟩
  · cases c
/-- a table has one name -/
def uqB : List (Addr × Str) → Bool
  | [] => true
  | p :: r => (r.all fun q => !(p.1 == q.1) || decide (p.2 = q.2)) && uqB r
theorem uqB_ok : ∀ {l : List (Addr × Str)}, uqB l = true → ∀ p ∈ l, ∀ q ∈ l, p.1 = q.1 → p.2 = q.2
  | [], _, p, hp, _, _, _ => by cases hp
  | a :: r, h, p, hp, q, hq, e => by
    simp only [uqB, Bool.and_eq_true, List.all_eq_true] at h
    have key : ∀ x ∈ r, a.1 = x.1 → a.2 = x.2 := fun x hx z => by
      have := h.1 x hx
      rw [z] at this
      simpa using this
    rcases List.mem_cons.mp hp with hp1 | hp1
    · rcases List.mem_cons.mp hq with hq1 | hq1
      · rw [hp1, hq1]
      · rw [hp1] at e ⊢
        exact key q hq1 e
    · rcases List.mem_cons.mp hq with hq1 | hq1
      · rw [hq1] at e ⊢
        exact (key p hp1 e.symm).symm
      · exact uqB_ok h.2 p hp1 q hq1 e
/-- all that the program's defs lean on; fl: the text's file -/
def okB (fl : Str) (K : PySem.W.Frag) (p : Pg) : Bool := (((freeNames.all (freeB K)) && freeB K Str.empty) && ((p.gt.all fun q => match gB K q.1 with
    | some u => topB K q.2 u
    | none => false) && (p.gd.all (gdB K) && p.fs.all (defB K)))) && ((((p.xf.isEmpty || freeB K "super") && p.xf.all (exB fl K)) && (p.xm.all (xmB K) && p.td.all (tdB K))) && uqB (tabsK K))
theorem okB_ok {P : Program} {fl : Str} (hfl : ((P.main.file : Str)) = fl) (htop : (P.main.scope.names.lookup ("super" : Str)).isSome = false) (X : K.In h) (G : h.Ns mainGlobals mg) {p : Pg} (c : okB fl K p = true) : PgOk P K mg p := by
  unfold okB at c
  simp only [Bool.and_eq_true, List.all_eq_true, Bool.or_eq_true] at c
  obtain ⟨⟨⟨c1, c0⟩, c2, c3, c4⟩, ⟨⟨c5, c6⟩, c7, c8⟩, c9⟩ := c
  have e0 := freeB_ok X G c0
  have df : ∀ {c f fd}, p.fs.lookup (c, f) = some fd → defB K ((c, f), fd) = true := fun h => c4 _ (pair_mem h)
  refine ⟨fun x hx => freeB_ok X G (c1 x hx), fun x d e => ?_, fun x kvs e => ?_, fun f fd e => ?_, fun c Ca m fd hm hz e => ?_, fun c fd e => ?_, fun c f e => ?_, fun c d b e => ?_, fun f t e => ?_, uqB_ok c9⟩
  · have := c2 _ (pair_mem e)
    simp only at this
    split at this
    · rename_i u hu
      obtain ⟨v, r, t⟩ := topB_ok X G d u this
      exact ⟨v, u, gB_ok X G hu, r, t⟩
    · cases this
  · exact gdB_ok X G (c3 _ (pair_mem e))
  · have := df e
    unfold defB at this
    rw [if_pos rfl] at this
    obtain ⟨_, this⟩ := ba this
    split at this
    · rename_i a ha
      obtain ⟨k1, k2⟩ := ba this
      exact ⟨a, gA_ok X G ha, k1, fnB_ok X G k2⟩
    · cases this
  · have := df e
    unfold defB at this
    have hc : ¬ (c = Str.empty) := fun z => by
      rw [z, e0] at hm
      cases hm
    rw [if_neg hc] at this
    split at this
    · rename_i C hC
      have e1 := gA_ok X G hC
      simp only at e1
      rw [hm] at e1
      injection e1 with e2
      injection e2 with e3
      subst e3
      split at this
      · rename_i a ha
        obtain ⟨k1, k2⟩ := ba this
        obtain ⟨k3, k4⟩ := ba k1
        exact ⟨a, ⟨mA_ok ha, k3, k4⟩, fnB_ok X G (ba k2).1⟩
      · cases this
    · cases this
  · have := df e
    unfold defB at this
    have hc : ¬ (c = Str.empty) := fun z => by
      subst z
      rw [if_pos rfl] at this
      obtain ⟨k1, _⟩ := ba this
      rw [decide_eq_true rfl] at k1
      cases k1
    rw [if_neg hc] at this
    split at this
    · rename_i C hC
      split at this
      · rename_i a ha
        obtain ⟨k1, k2⟩ := ba this
        obtain ⟨k3, k4⟩ := ba k1
        obtain ⟨k5, k6⟩ := ba k2
        rw [if_pos rfl] at k6
        obtain ⟨k7, k8⟩ := ba k6
        obtain ⟨k9, k10⟩ := ba k8
        exact ⟨C, a, gA_ok X G hC, clsB_ok k10, ⟨k7, mA_ok ha, k3, k9⟩, fnB_ok X G k5⟩
      · cases this
    · cases this
  · have hm := pair_mem e
    rcases c5 with c5 | c5
    · rw [List.isEmpty_iff.mp c5] at hm
      cases hm
    · exact exB_ok (q := (c, f)) hfl htop X G (freeB_ok X G c5) (c6 _ hm)
  · exact xmB_ok (q := ((c, d), b)) X G (c7 _ (pair_mem e))
  · exact tdB_ok (q := (f, t)) X G (c8 _ (pair_mem e))
end
end Z
set_option maxHeartbeats 4000000
/-! Z19: the head's Hook, the law's end -/
namespace Z
open PySem PySem.Spec PyProof.Rows L2
def isLstO : PySem.Obj → Bool
  | ⟨.type c, _, _, _⟩ => c == "list"
  | _ => false
/-- a part of the heap without lists, without empty tables -/
def frZ (g : Addr → Option PySem.Obj) (as : List Addr) : PySem.W.Frag := (He.frG g as).filter fun q => !isLstO q.2 && !He.emptyTab q.2
theorem frZ_mem {g : Addr → Option PySem.Obj} {as : List Addr} {a : Addr} {o : PySem.Obj} (h : (frZ g as).lookup a = some o) : g a = some o ∧ isLstO o = false ∧ He.emptyTab o = false := by
  obtain ⟨h1, h2⟩ := List.mem_filter.mp (pair_mem h)
  simp only [Bool.and_eq_true, Bool.not_eq_true'] at h2
  exact ⟨He.frG_mem h1, h2⟩
/-- the cells of the functions that are reached -/
def cellsG (g : Addr → Option PySem.Obj) (as : List Addr) : List Addr := cStatics :: (as ++ as.flatMap fun a => match g a with
  | some ⟨_, _, .func fd, _⟩ => fd.closure.map (·.2)
  | _ => [])
abbrev fragZ (n : Nat) (g : Addr → Option PySem.Obj) : PySem.W.Frag := frZ g (cellsG g (He.asG g n))
def tabB (K : PySem.W.Frag) (g : Addr → Option PySem.Obj) (q : Addr × Addr) : Bool := (match g q.2 with
  | some o => He.emptyTab o
  | none => false) && PySem.W.codeHdIn K q.1 q.2
def obK (fl : Str) (p : Pg) (g : Addr → Option PySem.Obj) (K : PySem.W.Frag) : Bool := okB fl K p && (codesK K).all (tabB K g)
def obZ (n : Nat) (fl : Str) (p : Pg) (g : Addr → Option PySem.Obj) : Bool := obK fl p g (fragZ n g)
abbrev eTab : PySem.Obj := { cls := .none, data := .fields #[] }
def SaysZ (fl : Str) (p : Pg) (h : Heap) : Prop := ∃ K : PySem.W.Frag, K.In h ∧ (∀ a o, K.lookup a = some o → isLstO o = false) ∧ (∀ q ∈ codesK K, h.get? q.2 = some eTab ∧ K.lookup q.2 = none ∧ PySem.W.codeHdIn K q.1 q.2 = true) ∧ okB fl K p = true
theorem says_of {n : Nat} {fl : Str} {p : Pg} {h : Heap} (e : obZ n fl p h.get? = true) : SaysZ fl p h := by
  unfold obZ obK at e
  simp only [Bool.and_eq_true, List.all_eq_true] at e
  refine ⟨fragZ n h.get?, fun _ _ h => (frZ_mem h).1, fun _ _ h => (frZ_mem h).2.1, fun q hq => ?_, e.1⟩
  have z := e.2 q hq
  unfold tabB at z
  simp only [Bool.and_eq_true] at z
  obtain ⟨z1, z2⟩ := z
  split at z1
  · rename_i o ho
    have eo := He.emptyTab_eq z1
    refine ⟨by rw [ho, eo], ?_, z2⟩
    cases hl : (fragZ n h.get?).lookup q.2 with
    | none => rfl
    | some u =>
      obtain ⟨l1, _, l3⟩ := frZ_mem hl
      rw [ho] at l1
      cases l1
      rw [z1] at l3
      cases l3
  · cases z1
def hookZ (n : Nat) (fl : Str) (p : Pg) : PySem.W.Hook where
  α := Bool
  obs := fun s => obZ n fl p s.heap.get?
  val := fun _ => true
  says := fun _ h => SaysZ fl p h
  of := fun _ _ e => says_of e
  keeps := fun _ _ _ ⟨K, h1, h2, h3, h4⟩ k => ⟨K, PySem.W.Frag.In.keeps h1 k, h2, fun q hq => ⟨k _ _ (h3 q hq).1, (h3 q hq).2⟩, h4⟩
theorem obZ_eq {n : Nat} {fl : Str} {p : Pg} {g : Addr → Option PySem.Obj} {s : Shared} (h : ∀ a, g a = s.heap.get? a) : obZ n fl p g = (hookZ n fl p).obs s := by
  have e : g = s.heap.get? := funext h
  rw [e] <;> rfl
theorem reps_ints {K : PySem.W.Frag} {mg : MG} {μ : List Addr} {H : Hp} : ∀ ns : List Int, Reps K mg μ H (ns.map D.int) (ns.map V.int)
  | [] => .nil
  | i :: r => .cons (by simp [Rep]) (reps_ints r)
theorem roomG (k : Nat) (h : k ≤ 100) : RoomG k callerA := by
  have e1 : callerA.depth = 301 := rfl
  have e2 : callerA.units = 4 := rfl
  have e3 : recursionLimit = 1000 := rfl
  have e4 : 2000 ≤ cLine := by decide +kernel
  exact ⟨⟨rfl, by omega, by omega⟩, rfl⟩
theorem tab_ref {K : PySem.W.Frag} {v : Value} {T : Addr} (h : tabAt K v = some T) : ∃ c, v = .ref c := by
  cases v with
  | ref c => exact ⟨c, rfl⟩
  | _ => cases h
/-- each table has its code object -/
theorem tabs_codes {K : PySem.W.Frag} {q : Addr × Str} (h : q ∈ tabsK K) : ∃ c, (c, q.1) ∈ codesK K := by
  unfold tabsK at h
  obtain ⟨⟨a, o⟩, hm, e⟩ := List.mem_filterMap.mp h
  simp only at e
  split at e
  · rename_i oc od fd sl
    split at e
    · rename_i P hP
      cases e
      obtain ⟨c, hc⟩ := tab_ref hP
      refine ⟨c, List.mem_filterMap.mpr ⟨_, hm, ?_⟩⟩
      simp only [hP]
      rw [hc]
    · cases e
  · cases e
/-- the law's call -/
theorem law_callZ {P : Program} {w : World} {K : PySem.W.Frag} {mg mb : Str → Option Value} {p : Pg} {k : Nat} {x fl : Str} {fd : FD} {fa a : Addr} {s₁ : Shared} {vs : List Value} {ns : List Int}
    (hfl : ((P.main.file : Str)) = fl) (htop : (P.main.scope.names.lookup ("super" : Str)).isSome = false)
    (KX : K.In s₁.heap) (hK : ∀ a o, K.lookup a = some o → isLstO o = false) (hC : ∀ q ∈ codesK K, s₁.heap.get? q.2 = some eTab ∧ K.lookup q.2 = none ∧ PySem.W.codeHdIn K q.1 q.2 = true) (hok : okB fl K p = true)
    (hns : s₁.heap.Ns mainGlobals mg) (hb : s₁.heap.Ns builtinsNs mb) (hbb : ∀ x : Str, x ≠ "__name__" → mb x = bootBuiltins x) (hlim : s₁.heap.NoLimit) (hg : s₁.gens = #[])
    (hbm : ∃ (bm : Addr) (ob : PySem.Obj), mg "__builtins__" = some (.ref bm) ∧ bm ≠ builtinsNs ∧ s₁.heap.get? bm = some ob ∧ ob.cls = .type "module" ∧ ob.dict = some builtinsNs ∧ ob.data = .plain)
    (ha : s₁.heap.get? a = some { cls := .type "list", data := .seq vs.toArray }) (hi : IntsAre vs ns) (hl : ns.length ≤ sizeLine) (hr : RoomG k callerA) (hfs : p.fs.lookup (Str.empty, x) = some fd) (hfa : mg x = some (.ref fa))
    (hlaw : ∃ S, callN p k Str.empty x [.ref 0] [] [.frz (ns.map D.int)] = .ok (.bl true) S) :
    codeAny (model P w) callerA (.call (.ref fa) ⟨[.ref a], []⟩) (fun r s' => r = .ok (.ret (.bool true)) ∧ OldK s₁.heap s'.heap ∧ s'.os = s₁.os ∧ AllBare s'.gens) s₁ := by
  have rv := vals_ints hi
  have O : PgOk P K mg p := okB_ok hfl htop KX hns hok
  have hKa : K.lookup a = none := by
    cases q : K.lookup a with
    | none => rfl
    | some o =>
      have h1 := KX a o q
      rw [ha] at h1
      cases h1
      have := hK a _ q
      cases this
  have isT : ∀ b, b ∈ (codesK K).map (·.2) → s₁.heap.get? b = some eTab ∧ K.lookup b = none := fun b hb => by
    obtain ⟨q, hq, e⟩ := List.mem_map.mp hb
    rw [← e]
    exact ⟨(hC q hq).1, (hC q hq).2.1⟩
  have aT : a ∉ (codesK K).map (·.2) := fun z => by
    have q := (isT a z).1
    rw [ha] at q
    have z' := congrArg Obj.data (Option.some.inj q)
    cases z'
  -- the script and the tables are all that is tracked
  generalize hH : (fun b => if b = a then some (HO.frz { cls := .type "list", data := .seq vs.toArray } (.lst (ns.map V.int))) else if b ∈ (codesK K).map (·.2) then some (.tbl #[]) else none : Hp) = H
  have Ha : H a = some (.frz { cls := .type "list", data := .seq vs.toArray } (.lst (ns.map V.int))) := by rw [← hH]; exact if_pos rfl
  have Ht : ∀ b, b ∈ (codesK K).map (·.2) → H b = some (.tbl #[]) := fun b hb => by
    rw [← hH]
    exact (if_neg (fun (z : b = a) => aT (z ▸ hb))).trans (if_pos hb)
  have Hn : ∀ b, b ≠ a → b ∉ (codesK K).map (·.2) → H b = none := fun b hb h2 => by
    rw [← hH]
    exact (if_neg hb).trans (if_neg h2)
  have okH : HOk P w H s₁.heap := fun b u z => by
    by_cases hb : b = a
    · subst hb
      rw [Ha] at z
      cases z
      exact ⟨ha, by rw [List.length_map]; exact hl, vs, _, rv, ha⟩
    · by_cases h2 : b ∈ (codesK K).map (·.2)
      · rw [Ht b h2] at z
        cases z
        exact (isT b h2).1
      · rw [Hn b hb h2] at z
        cases z
  have base_of : ∀ {b : Addr} {o : PySem.Obj}, s₁.heap.get? b = some o → H b = none → (hidT s₁.heap H).get? b = some o := fun e n => hidT_get e n
  -- what is neither a list nor an empty table is not tracked
  have noD : ∀ {b : Addr} {o : PySem.Obj}, s₁.heap.get? b = some o → (∀ vs n, o.data ≠ .seq vs n) → (∀ vs, o.data ≠ .fields vs) → H b = none := fun {b o} e h1 h2 => by
    refine Hn b (fun z => ?_) fun z => ?_
    · subst z
      rw [ha] at e
      cases e
      exact h1 _ _ rfl
    · rw [(isT b z).1] at e
      cases e
      exact h2 _ rfl
  have dict_in : ∀ {b : Addr} {m : Str → Option Value}, s₁.heap.Ns b m → (hidT s₁.heap H).Ns b m := fun {b m} ⟨o, es, ep, e, d, r⟩ => ⟨o, es, ep, base_of e (noD e (fun vs n z => by rw [d] at z; cases z) (fun vs z => by rw [d] at z; cases z)), d, r⟩
  have KB : K.In (hidT s₁.heap H) := fun b o e => base_of (KX b o e) (Hn b (fun z => by subst z; rw [hKa] at e; cases e) fun z => by rw [(isT b z).2] at e; cases e)
  have M : Mod K mg (hidT s₁.heap H) := ⟨KB, dict_in hns, ⟨mb, dict_in hb, hbb⟩, let ⟨mc, h1, h2⟩ := hlim; ⟨mc, dict_in h1, h2⟩⟩
  have e0 : Env0 P w K mg (hidT s₁.heap H) callerA [] s₁ H := ⟨rfl, M, fun b o e => of_hidT e, Nat.le_of_eq (hidT_size _ _), trivial, fun b hb => absurd (show b ∈ ([] : List Addr) from hb) (by simp), okH, .of_eq hg⟩
  have TB : ∀ q ∈ codesK K, LamX.TabB (hidT s₁.heap H) mg q.1 q.2 := fun q hq => by
    obtain ⟨t1, t2, t3⟩ := hC q hq
    refine ⟨PySem.W.codeHd_of_K KB t3, ?_, fun z => ?_⟩
    · obtain ⟨bm, ob, b1, b2, b3, b4, b5, b6⟩ := hbm
      have nG : bm ≠ mainGlobals := fun z => by
        obtain ⟨o, es, ep, e, hd, _⟩ := hns
        rw [z, e] at b3
        cases b3
        rw [hd] at b6
        cases b6
      have nP : bm ≠ q.2 := fun z => by
        rw [z, t1] at b3
        cases b3
        cases b6
      exact ⟨bm, ob, b1, b2, nG, nP, base_of b3 (noD b3 (fun vs n z => by rw [b6] at z; cases z) (fun vs z => by rw [b6] at z; cases z)), b4, b5, b6⟩
    · obtain ⟨o, es, ep, e, hd, _⟩ := hns
      rw [z, t1] at e
      cases e
      cases hd
  obtain ⟨S', hS⟩ := hlaw
  obtain ⟨fa', h1, _, F⟩ := O.cf x fd hfs
  rw [hfa] at h1
  injection h1 with h2
  injection h2 with h3
  subst h3
  have C := callOk (P := P) (w := w) (base := hidT s₁.heap H) (k := k) O TB hfs F
  have AS : AbS K mg [a] [.frz (ns.map D.int)] H := ⟨fun q hq => by
    obtain ⟨c, hc⟩ := tabs_codes hq
    exact LamX.TabS.nil (Ht _ (List.mem_map.mpr ⟨_, hc, rfl⟩)), rfl, by simp, fun n b o e1 e2 => by
    cases n with
    | zero =>
      simp at e1 e2
      subst e1; subst e2
      exact ⟨_, _, Ha, reps_ints ns⟩
    | succ n => simp at e1⟩
  refine codeAny_mono (C.run callerA [] s₁ H [.ref a] [] [] [.ref a] [] (fun v _ => v = .bl true) (fun _ _ _ => False) hr e0 (.cons rfl .nil) .nil rfl ⟨[a], _, [.ref 0], [], AS, .cons (by simp [Rep]) .nil, .nil, ?_⟩) fun r s' h => ?_
  · rw [show ([] : List Str).zip ([] : List D) = [] from rfl, hS]
    intro μ' v H' g A' r
    simpa [Rep] using r
  · cases r with
    | error e =>
      obtain ⟨_, _, _, _, _, _, _, _, _, _, _, _, z⟩ := h
      exact z.elim
    | ok fl =>
      cases fl with
      | next => exact False.elim h
      | brk => exact False.elim h
      | cont => exact False.elim h
      | ret u =>
        obtain ⟨v, H', os, bare, un, hok', r', q⟩ := h
        have q' : v = .bl true := q
        subst q'
        obtain rfl : u = Value.bool true := r'
        have old : ∀ b o, b ∉ (codesK K).map (·.2) → s₁.heap.get? b = some o → s'.heap.get? b = some o := fun b o nb e => by
          by_cases hb : b = a
          · subst hb
            have z2 := un.frzs b _ _ Ha
            obtain ⟨e2, _⟩ := hok' b _ z2
            rw [ha] at e
            cases e
            exact e2
          · exact un.keep b o e (Hn b hb nb) (by intro z; exact absurd (show b ∈ ([] : List Addr) from z) (by simp)) (by simp)
        have grown : ∀ b, b ∈ (codesK K).map (·.2) → ∃ more : Array Value, s'.heap.get? b = some { cls := .none, data := .fields more } := fun b hb => by
          obtain ⟨more, z⟩ := un.tbls b #[] (Ht b hb)
          exact ⟨_, hok' b _ z⟩
        refine ⟨rfl, ⟨fun b o e => ?_, fun b o e => ?_⟩, os, bare⟩
        · by_cases hb : b ∈ (codesK K).map (·.2)
          · obtain ⟨more, hm⟩ := grown b hb
            obtain ⟨q, hq, eq⟩ := List.mem_map.mp hb
            obtain ⟨t1, t2, t3⟩ := hC q hq
            subst eq
            rw [t1] at e
            cases e
            refine .inr (.inl ⟨((PySem.W.codeHd_of_K KX t3).tab t1).isCodeTable, rfl, #[], more, rfl, ?_⟩)
            rw [Array.empty_append]
            exact hm
          · exact .inl (old b o hb e)
        · by_cases hb : b ∈ (codesK K).map (·.2)
          · obtain ⟨more, hm⟩ := grown b hb
            exact ⟨_, hm⟩
          · exact ⟨o, old b o hb e⟩
theorem walkZ {l : PySem.W.OpenLaw} {n k m : Nat} {q : Program} {loose : List Str} {XP : (Str → Option Value) → Heap → Prop} {d : DefRec} (fl : Str) (p : Pg) {fd : FD} {x : Str}
    (hn : l.most = some n) (hn2 : n ≤ sizeLine) (hdf : d.params.defaults = []) (hr : k ≤ 100) (hd : d.name = x) (hfs : p.fs.lookup (Str.empty, x) = some fd)
    (hfl : ((l.prog.main.file : Str)) = fl) (htop : (l.prog.main.scope.names.lookup ("super" : Str)).isSome = false)
    (hlaw : ∀ ns : List Int, ns.length ≤ n → ∃ S, callN p k Str.empty x [.ref 0] [] [.frz (ns.map D.int)] = .ok (.bl true) S) :
    PySem.W.WalkO q loose XP (hookZ m fl p).says l.row.toRowW d [] (fun f vs => PySem.call f vs) := by
  refine Att.attach_call hn hdf fun w s₀ s₁ mg mb fa o pm cd doc a vs ns G Y ho hda hcd hmg hobj hints hlen hg => ?_
  obtain ⟨K, KX, hK, hC, hok⟩ := Y
  rw [hd] at hmg
  exact law_callZ hfl htop KX hK hC hok G.T.g G.T.b G.T.builtins G.T.nolimit hg G.T.bmain hobj hints (Nat.le_trans hlen hn2) (roomG k hr) hfs hmg (hlaw ns hlen)
end Z
set_option maxHeartbeats 4000000
/-! Y1: the evaluator by wishes -/
namespace Z
open PySem
class KQ where
  f : D → Sto → Prop
class KL where
  f : List D → Sto → Prop
class KE where
  f : Str → List (Str × D) → Sto → Prop
class KP where
  p : Prop
class KG where
  f : List D → Option (Nat × List D) → Prop
class KA where
  f : Rho → Prop
class KS where
  nx : Rho → Sto → Prop
  rt : D → Sto → Prop
  bk : Rho → Sto → Prop
  ct : Rho → Sto → Prop
  ex : KE
def WR (r : R) [Q : KQ] [E : KE] : Prop := match r with
  | .ok d S => Q.f d S
  | .ex c fs S => E.f c fs S
  | .st => False
def WL (r : RL) [Q : KL] [E : KE] : Prop := match r with
  | .ok d S => Q.f d S
  | .ex c fs S => E.f c fs S
  | .st => False
def WS (r : RS) [Y : KS] : Prop := match r with
  | .nx ρ S => Y.nx ρ S
  | .rt d S => Y.rt d S
  | .bk ρ S => Y.bk ρ S
  | .ct ρ S => Y.ct ρ S
  | .ex c fs ρ S => Y.ex.f c fs S
  | .st => False
/-- no exception is wanted -/
@[reducible] def E0 : KE := ⟨fun _ _ _ => False⟩
def WG (c : Prop) [P : KP] : Prop := c ∧ P.p
def WO (o : Option (List D × Option (Nat × List D))) [K : KG] : Prop := match o with
  | some q => K.f q.1 q.2
  | none => False
def WA (o : Option Rho) [K : KA] : Prop := match o with
  | some ρ => K.f ρ
  | none => False
theorem A_some (ρ : Rho) (K : KA) : @WA (some ρ) K = K.f ρ := rfl
theorem asg_v (i : Nat) (d : D) (ρ : Rho) : asgP (.v i) d ρ = some (ρ.set i (some d)) := by rw [asgP]
def TB (d : D) [P : KP] [Q : KP] : Prop := match d with
  | .bl true => P.p
  | .bl false => Q.p
  | _ => False
theorem wg {c : Prop} {P : KP} (h : c) (k : P.p) : @WG c P := ⟨h, k⟩
theorem tb {b : Bool} {P Q : KP} (h : b = true → P.p) (k : b = false → Q.p) : @TB (.bl b) P Q := by cases b <;> first | exact h rfl | exact k rfl
theorem tbd {c : Prop} [Decidable c] {P Q : KP} (h : c → P.p) (k : ¬c → Q.p) : @TB (.bl (decide c)) P Q := tb (fun z => h (of_decide_eq_true z)) fun z => k (of_decide_eq_false z)
section
variable (C : Ev) (ρ : Rho) (S : Sto) (Q : KQ) (E : KE) (L : KL) (Y : KS)
theorem W_ok (d : D) : @WR (.ok d S) Q E = Q.f d S := rfl
theorem W_ex (c fs) : @WR (.ex c fs S) Q E = E.f c fs S := rfl
theorem W_st : @WR .st Q E = False := rfl
theorem L_ok (d : List D) : @WL (.ok d S) L E = L.f d S := rfl
theorem L_ex (c fs) : @WL (.ex c fs S) L E = E.f c fs S := rfl
theorem S_nx : @WS (.nx ρ S) Y = Y.nx ρ S := rfl
theorem S_rt (d) : @WS (.rt d S) Y = Y.rt d S := rfl
theorem S_bk : @WS (.bk ρ S) Y = Y.bk ρ S := rfl
theorem S_ct : @WS (.ct ρ S) Y = Y.ct ρ S := rfl
theorem S_ex (c fs) : @WS (.ex c fs ρ S) Y = Y.ex.f c fs S := rfl
theorem WR_c {r : R} {Q Q' : KQ} {E : KE} (h : ∀ d S, Q.f d S = Q'.f d S) : @WR r Q E = @WR r Q' E := by
  cases r with
  | ok d S => exact h d S
  | ex c fs S => rfl
  | st => rfl
theorem WL_c {r : RL} {Q Q' : KL} {E : KE} (h : ∀ d S, Q.f d S = Q'.f d S) : @WL r Q E = @WL r Q' E := by
  cases r with
  | ok d S => exact h d S
  | ex c fs S => rfl
  | st => rfl
theorem W_if (c : Prop) [Decidable c] (r : R) : @WR (if c then r else .st) Q E = @WG c ⟨@WR r Q E⟩ := by
  by_cases h : c <;> simp [h, WG, WR]
theorem W_bind (r : R) (f : D → Sto → R) : @WR (r.bind f) Q E = @WR r ⟨fun d S => @WR (f d S) Q E⟩ E := by cases r <;> rfl
theorem W_bindL (r : RL) (f : List D → Sto → R) : @WR (r.bind f) Q E = @WL r ⟨fun d S => @WR (f d S) Q E⟩ E := by cases r <;> rfl
theorem L_bind (r : R) (f : D → Sto → RL) : @WL (r.bindL f) L E = @WR r ⟨fun d S => @WL (f d S) L E⟩ E := by cases r <;> rfl
theorem L_bindL (r : RL) (f : List D → Sto → RL) : @WL (r.bindL f) L E = @WL r ⟨fun d S => @WL (f d S) L E⟩ E := by cases r <;> rfl
theorem S_bindS (r : R) (f : D → Sto → RS) : @WS (r.bindS ρ f) Y = @WR r ⟨fun d S => @WS (f d S) Y⟩ Y.ex := by cases r <;> rfl
theorem S_bindSL (r : RL) (f : List D → Sto → RS) : @WS (r.bindS ρ f) Y = @WL r ⟨fun d S => @WS (f d S) Y⟩ Y.ex := by cases r <;> rfl
theorem S_bind (r : RS) (f : Rho → Sto → RS) : @WS (r.bind f) Y = @WS r ⟨fun ρ S => @WS (f ρ S) Y, Y.rt, Y.bk, Y.ct, Y.ex⟩ := by cases r <;> rfl
theorem T_true (P Q : KP) : @TB (.bl true) P Q = P.p := rfl
theorem T_false (P Q : KP) : @TB (.bl false) P Q = Q.p := rfl
theorem G_true (P : KP) : @WG True P = P.p := by simp [WG]
def slot (o : Option (Option D)) (S : Sto) : R := match o with
  | some (some d) => .ok d S
  | _ => .st
theorem slot_some (d : D) : slot (some (some d)) S = .ok d S := rfl
/-! expressions -/
theorem E_non : @WR (evE C (.k .non) ρ S) Q E = Q.f .non S := by rw [evE]; rfl
theorem E_bl (b) : @WR (evE C (.k (.bl b)) ρ S) Q E = Q.f (.bl b) S := by rw [evE]; rfl
theorem E_int (b) : @WR (evE C (.k (.int b)) ρ S) Q E = Q.f (.int b) S := by rw [evE]; rfl
theorem E_str (b) : @WR (evE C (.k (.str b)) ρ S) Q E = Q.f (.str b) S := by rw [evE]; rfl
theorem E_v (i) : @WR (evE C (.v i) ρ S) Q E = @WR (slot ρ[i]? S) Q E := by rw [evE]; rfl
theorem E_g (x) : @WR (evE C (.g x) ρ S) Q E = @WR (ofO (C.gt x) S) Q E := by rw [evE]
theorem ofO_some (d : D) : ofO (some d) S = .ok d S := rfl
theorem E_bin (o a b) : @WR (evE C (.bin o a b) ρ S) Q E = @WR (evE C a ρ S) ⟨fun x S1 => @WR (evE C b ρ S1) ⟨fun y S2 => @WR (bin o x y S2) Q E⟩ E⟩ E := by
  rw [evE, W_bind]; exact WR_c fun x S1 => W_bind _ _ _ _
def negR (x : D) (S : Sto) : R := match x with
  | .int i => .ok (.int (-i)) S
  | _ => .st
theorem E_neg (a) : @WR (evE C (.neg a) ρ S) Q E = @WR (evE C a ρ S) ⟨fun x S1 => @WR (negR x S1) Q E⟩ E := by rw [evE, W_bind]; rfl
theorem neg_int (i : Int) : negR (.int i) S = .ok (.int (-i)) S := rfl
theorem E_cmp (o a b) : @WR (evE C (.cmp o a b) ρ S) Q E = @WR (evE C a ρ S) ⟨fun x S1 => @WR (evE C b ρ S1) ⟨fun y S2 => @WR (cmpR o x y S2) Q E⟩ E⟩ E := by
  rw [evE, W_bind]; exact WR_c fun x S1 => W_bind _ _ _ _
theorem E_isN (a) : @WR (evE C (.isN a) ρ S) Q E = @WR (evE C a ρ S) ⟨fun x S1 => Q.f (.bl x.isNon) S1⟩ E := by rw [evE, W_bind]; rfl
theorem E_notN (a) : @WR (evE C (.notN a) ρ S) Q E = @WR (evE C a ρ S) ⟨fun x S1 => Q.f (.bl (!x.isNon)) S1⟩ E := by rw [evE, W_bind]; rfl
def chn (o : CO) (x y : D) (S : Sto) [P : KP] [Q : KP] : Prop := match cmp o x y S with
  | some true => P.p
  | some false => Q.p
  | none => False
theorem E_chain (o p a b c) : @WR (evE C (.chain o p a b c) ρ S) Q E = @WR (evE C a ρ S) ⟨fun x S1 => @WR (evE C b ρ S1) ⟨fun y S2 => @chn o x y S2 ⟨@WR (evE C c ρ S2) ⟨fun z S3 => @WR (cmpR p y z S3) Q E⟩ E⟩ ⟨Q.f (.bl false) S2⟩⟩ E⟩ E := by
  rw [evE, W_bind]
  refine WR_c fun x S1 => (W_bind _ _ _ _).trans (WR_c fun y S2 => ?_)
  simp only
  unfold chn
  cases cmp o x y S2 with
  | none => rfl
  | some b => cases b with
    | true => exact W_bind _ _ _ _
    | false => rfl
theorem chn_eq (o : CO) (x y : D) (b : Bool) (h : cmp o x y S = some b) (P Q : KP) : @chn o x y S P Q = @TB (.bl b) P Q := by
  unfold chn
  rw [h]
  cases b <;> rfl
theorem E_and (a b) : @WR (evE C (.and a b) ρ S) Q E = @WR (evE C a ρ S) ⟨fun x S1 => @TB x ⟨@WR (evE C b ρ S1) Q E⟩ ⟨Q.f (.bl false) S1⟩⟩ E := by
  rw [evE, W_bind]
  congr 2
  funext x S1
  cases x <;> first | rfl | skip
  rename_i v
  cases v <;> rfl
theorem E_or (a b) : @WR (evE C (.or a b) ρ S) Q E = @WR (evE C a ρ S) ⟨fun x S1 => @TB x ⟨Q.f (.bl true) S1⟩ ⟨@WR (evE C b ρ S1) Q E⟩⟩ E := by
  rw [evE, W_bind]
  congr 2
  funext x S1
  cases x <;> first | rfl | skip
  rename_i v
  cases v <;> rfl
def notR (x : D) (S : Sto) : R := match x with
  | .bl b => .ok (.bl (!b)) S
  | _ => .st
theorem not_bl (b : Bool) : notR (.bl b) S = .ok (.bl (!b)) S := rfl
theorem E_not (a) : @WR (evE C (.not a) ρ S) Q E = @WR (evE C a ρ S) ⟨fun x S1 => @WR (notR x S1) Q E⟩ E := by rw [evE, W_bind]; rfl
theorem E_ife (c a b) : @WR (evE C (.ife c a b) ρ S) Q E = @WR (evE C c ρ S) ⟨fun x S1 => @TB x ⟨@WR (evE C a ρ S1) Q E⟩ ⟨@WR (evE C b ρ S1) Q E⟩⟩ E := by
  rw [evE, W_bind]
  congr 2
  funext x S1
  cases x <;> first | rfl | skip
  rename_i v
  cases v <;> rfl
theorem E_tup (es) : @WR (evE C (.tup es) ρ S) Q E = @WL (evL C es ρ S) ⟨fun ds S1 => @WG (ds.length ≤ LINE) ⟨Q.f (.tup ds) S1⟩⟩ E := by
  rw [evE, W_bindL]; exact WL_c fun ds S1 => W_if _ _ _ _
theorem E_lst (es) : @WR (evE C (.lst es) ρ S) Q E = @WL (evL C es ρ S) ⟨fun ds S1 => @WG (ds.length ≤ LINE) ⟨Q.f (.ref S1.length) (S1 ++ [.lst ds])⟩⟩ E := by
  rw [evE, W_bindL]; exact WL_c fun ds S1 => W_if _ _ _ _
theorem E_att (a f) : @WR (evE C (.att a f) ρ S) Q E = @WR (evE C a ρ S) ⟨fun x S1 => @WR (ofO (getF S1 x f) S1) Q E⟩ E := by rw [evE, W_bind]
theorem E_idx (a i) : @WR (evE C (.idx a i) ρ S) Q E = @WR (evE C a ρ S) ⟨fun x S1 => @WR (evE C i ρ S1) ⟨fun y S2 => @WR (get C x y S2) Q E⟩ E⟩ E := by
  rw [evE, W_bind]; exact WR_c fun x S1 => W_bind _ _ _ _
def opR (C : Ev) (o : Op) (ρ : Rho) (S : Sto) : R := evO C o ρ S
theorem O_no : @WR (evO C .no ρ S) Q E = Q.f .non S := by rw [evO]; rfl
def soR (x : D) (S : Sto) : R := match x with
  | .int i => .ok (.int i) S
  | _ => .st
theorem so_int (i : Int) : soR (.int i) S = .ok (.int i) S := rfl
theorem O_so (e) : @WR (evO C (.so e) ρ S) Q E = @WR (evE C e ρ S) ⟨fun x S1 => @WR (soR x S1) Q E⟩ E := by rw [evO, W_bind]; rfl
def slR (x y z : D) (S : Sto) : R := match y, z with
  | .non, .non => slc x none none S
  | .non, .int j => slc x none (some j) S
  | .int i, .non => slc x (some i) none S
  | .int i, .int j => slc x (some i) (some j) S
  | _, _ => .st
theorem sl_nn (x : D) : slR x .non .non S = slc x none none S := rfl
theorem sl_ni (x : D) (j : Int) : slR x .non (.int j) S = slc x none (some j) S := rfl
theorem sl_in (x : D) (i : Int) : slR x (.int i) .non S = slc x (some i) none S := rfl
theorem sl_ii (x : D) (i j : Int) : slR x (.int i) (.int j) S = slc x (some i) (some j) S := rfl
theorem E_sl (a lo hi) : @WR (evE C (.sl a lo hi) ρ S) Q E = @WR (evE C a ρ S) ⟨fun x S1 => @WR (evO C lo ρ S1) ⟨fun y S2 => @WR (evO C hi ρ S2) ⟨fun z S3 => @WR (slR x y z S3) Q E⟩ E⟩ E⟩ E := by
  rw [evE, W_bind]; exact WR_c fun x S1 => (W_bind _ _ _ _).trans (WR_c fun y S2 => (W_bind _ _ _ _).trans (WR_c fun z S3 => rfl))
/-- b, then P -/
def WB (b : Bool) [P : KP] : Prop := b = true ∧ P.p
theorem B_true (P : KP) : @WB true P = P.p := by simp [WB]
theorem E_call (f es) : @WR (evE C (.call f es) ρ S) Q E = @WB (C.fn Str.empty f) ⟨@WL (evL C es ρ S) ⟨fun ds S1 => @WR (C.cf Str.empty f ds [] S1) Q E⟩ E⟩ := by
  rw [evE]
  cases C.fn Str.empty f
  · simp [WB, WR]
  · simp only [if_true, W_bindL, WB, true_and]
theorem E_callk (f es ks vs) : @WR (evE C (.callk f es ks vs) ρ S) Q E = @WB (C.fn Str.empty f) ⟨@WL (evL C es ρ S) ⟨fun ds S1 => @WL (evL C vs ρ S1) ⟨fun ws S2 => @WG (ws.length = ks.length) ⟨@WR (C.cf Str.empty f ds (ks.zip ws) S2) Q E⟩⟩ E⟩ E⟩ := by
  rw [evE]
  cases C.fn Str.empty f
  · simp [WB, WR]
  · simp only [if_true, W_bindL, WB, true_and]
    exact WL_c fun ds S1 => (W_bindL _ _ _ _).trans (WL_c fun ws S2 => W_if _ _ _ _)
def mkR (a : Nat) (x : D) (S : Sto) : R := match x with
  | .non => .ok (.ref a) S
  | _ => .st
theorem mk_non (a : Nat) : mkR a .non S = .ok (.ref a) S := rfl
theorem E_mk (c es) : @WR (evE C (.mk c es) ρ S) Q E = @WB (C.fn c "__init__") ⟨@WL (evL C es ρ S) ⟨fun ds S1 => @WR (C.cm c "__init__" (.ref S1.length :: ds) [] (S1 ++ [.ins c []])) ⟨fun x S2 => @WR (mkR S1.length x S2) Q E⟩ E⟩ E⟩ := by
  rw [evE]
  cases C.fn c "__init__"
  · simp [WB, WR]
  · simp only [if_true, W_bindL, WB, true_and]
    exact WL_c fun ds S1 => (W_bind _ _ _ _).trans (WR_c fun x S2 => rfl)
def callV (C : Ev) (f : Option (Option D)) (ds : List D) (S : Sto) : R := match f with
  | some (some (.fn f)) => if C.fn Str.empty f then C.cf Str.empty f ds [] S else .st
  | _ => .st
theorem callV_fn (f ds) : callV C (some (some (.fn f))) ds S = if C.fn Str.empty f then C.cf Str.empty f ds [] S else .st := rfl
def isFnD : Option (Option D) → Bool
  | some (some (.fn _)) => true
  | _ => false
theorem isFn_fn (f) : isFnD (some (some (.fn f))) = true := rfl
def nmFn : Option (Option D) → Str
  | some (some (.fn f)) => f
  | _ => Str.empty
theorem nmFn_fn (f) : nmFn (some (some (.fn f))) = f := rfl
theorem E_calv (i es) : @WR (evE C (.calv i es) ρ S) Q E = @WB (isFnD ρ[i]?) ⟨@WB (C.fn Str.empty (nmFn ρ[i]?)) ⟨@WL (evL C es ρ S) ⟨fun ds S1 => @WR (C.cf Str.empty (nmFn ρ[i]?) ds [] S1) Q E⟩ E⟩⟩ := by
  rw [evE]
  cases h : ρ[i]? with
  | none => simp [WB, WR, isFnD]
  | some o =>
    cases o with
    | none => simp [WB, WR, isFnD]
    | some d =>
      cases d <;> try (simp [WB, WR, isFnD]; done)
      rename_i f
      simp only [WB, isFnD, nmFn, true_and]
      cases C.fn Str.empty f
      · simp [WR]
      · simp only [if_true, W_bindL, true_and]
        exact WL_c fun ds S1 => rfl
def metO (S : Sto) (x : D) (m : Str) : Option Str := match clsOf S x, getF S x m with
  | some c, none => some c
  | _, _ => none
/-- the class at hand -/
class KC where
  f : Str → Prop
def WC (o : Option Str) [K : KC] : Prop := match o with
  | some c => K.f c
  | none => False
theorem C_some (c : Str) (K : KC) : @WC (some c) K = K.f c := rfl
theorem E_met (o m es) : @WR (evE C (.met o m es) ρ S) Q E = @WR (evE C o ρ S) ⟨fun x S1 => @WC (metO S1 x m) ⟨fun c => @WB (C.fn c m) ⟨@WL (evL C es ρ S1) ⟨fun ds S2 => @WR (C.cf c m (x :: ds) [] S2) Q E⟩ E⟩⟩⟩ E := by
  rw [evE, W_bind]
  refine WR_c fun x S1 => ?_
  simp only
  unfold metO
  generalize clsOf S1 x = oc
  generalize getF S1 x m = og
  cases oc with
  | none => rfl
  | some c =>
    cases og with
    | some d => rfl
    | none =>
      show @WR (if C.fn c m = true then (evL C es ρ S1).bind fun ds S2 => C.cf c m (x :: ds) [] S2 else .st) Q E = @WB (C.fn c m) ⟨@WL (evL C es ρ S1) ⟨fun ds S2 => @WR (C.cf c m (x :: ds) [] S2) Q E⟩ E⟩
      cases C.fn c m
      · simp [WB, WR]
      · simp only [if_true, W_bindL, WB, true_and]
theorem E_bi (b es) : @WR (evE C (.bi b es) ρ S) Q E = @WL (evL C es ρ S) ⟨fun ds S1 => @WR (bi b ds S1) Q E⟩ E := by rw [evE, W_bindL]
theorem E_isi (a cs) : @WR (evE C (.isi a cs) ρ S) Q E = @WR (evE C a ρ S) ⟨fun x S1 => @WR (isi S1 x cs) Q E⟩ E := by rw [evE, W_bind]
theorem E_bm (b o es) : @WR (evE C (.bm b o es) ρ S) Q E = @WR (evE C o ρ S) ⟨fun x S1 => @WB (bmAt S1 b x) ⟨@WL (evL C es ρ S1) ⟨fun ds S2 => @WR (bm C b x ds S2) Q E⟩ E⟩⟩ E := by
  rw [evE, W_bind]
  congr 2
  funext x S1
  cases bmAt S1 b x
  · simp [WB, WR]
  · simp only [if_true, W_bindL, WB, true_and]
theorem E_lc (own p ik es c e) : @WR (evE C (.lc own p ik es c e) ρ S) Q E = @WL (evL C es ρ S) ⟨fun ds S1 => @WO (src ik ds S1) ⟨fun l g => @WR (lcGo p (evE C c) (evE C e) (wipe ρ (own.map (·.2))) S1.length g l (S1 ++ [.lst []])) Q E⟩⟩ E := by
  rw [evE, W_bindL]
  congr 2
  funext ds S1
  cases src ik ds S1 <;> rfl
def tellOk (o : Option Str) (d : D) (S : Sto) : R := match o with
  | some tag => new S (.lst [.str tag, d])
  | none => .ok .non S
def tellEx (xm : Str → Str → Option Bool) (hs : List (Str × List HI)) (c : Str) (fs : List (Str × D)) (S : Sto) : R := match pickZ xm c hs with
  | some its => match itemsZ fs its with
    | some ds => if ds.length ≤ 1000 then new S (.lst ds) else .st
    | none => .st
  | none => .st
theorem tellOk_some (tag d) : tellOk (some tag) d S = .ok (.ref S.length) (S ++ [.lst [.str tag, d]]) := rfl
theorem tellOk_none (d) : tellOk none d S = .ok .non S := rfl
theorem tellEx_of {xm : Str → Str → Option Bool} {hs : List (Str × List HI)} {c : Str} {fs : List (Str × D)} {its : List HI} {ds : List D} (h1 : pickZ xm c hs = some its) (h2 : itemsZ fs its = some ds) (h3 : ds.length ≤ 1000) : tellEx xm hs c fs S = .ok (.ref S.length) (S ++ [.lst ds]) := by
  unfold tellEx
  rw [h1]
  simp only
  rw [h2]
  simp only
  rw [if_pos h3]
  rfl
theorem E_told (f b) (t : TD) (h : C.td f = some t) : @WR (evE C (.told f b) ρ S) Q E = @WR (C.low b ρ S) ⟨fun d S => @WR (tellOk t.ok d S) Q E⟩ ⟨fun c fs S => @WR (tellEx C.xm t.hs c fs S) Q E⟩ := by
  rw [evE, h]
  cases C.low b ρ S <;> rfl
theorem L_nil : @WL (evL C .nil ρ S) L E = L.f [] S := by rw [evL]; rfl
theorem L_cons (e r) : @WL (evL C (.cons e r) ρ S) L E = @WR (evE C e ρ S) ⟨fun d S1 => @WL (evL C r ρ S1) ⟨fun ds S2 => L.f (d :: ds) S2⟩ E⟩ E := by
  rw [evL, L_bind]; exact WR_c fun d S1 => L_bindL _ _ _ _
/-! targets, statements -/
theorem T_v (i d) : @WS (asgT C (.v i) d ρ S) Y = Y.nx (ρ.set i (some d)) S := by rw [asgT]; rfl
def stoS (o : Option Sto) (ρ : Rho) : RS := match o with
  | some S => .nx ρ S
  | none => .st
theorem sto_some : stoS (some S) ρ = .nx ρ S := rfl
theorem T_at (o f d) : @WS (asgT C (.at o f) d ρ S) Y = @WR (evE C o ρ S) ⟨fun x S1 => @WS (stoS (setA x f d S1) ρ) Y⟩ Y.ex := by
  rw [asgT, S_bindS]
  refine WR_c fun x S1 => ?_
  simp only
  cases setA x f d S1 <;> rfl
theorem T_ix (o i d) : @WS (asgT C (.ix o i) d ρ S) Y = @WR (evE C o ρ S) ⟨fun x S1 => @WR (evE C i ρ S1) ⟨fun y S2 => @WS (stoS (setI x y d S2) ρ) Y⟩ Y.ex⟩ Y.ex := by
  rw [asgT, S_bindS]
  refine WR_c fun x S1 => (S_bindS _ _ _ _).trans (WR_c fun y S2 => ?_)
  simp only
  cases setI x y d S2 <;> rfl
theorem T_tp (ts ds) : @WS (asgT C (.tp ts) (.tup ds) ρ S) Y = @WG (ds.length = ts.len) ⟨@WS (asgTs C ts ds ρ S) Y⟩ := by
  rw [asgT]
  by_cases h : ds.length = ts.len
  · rw [if_pos h]; simp [WG, h]
  · rw [if_neg h]; simp [WG, h, WS]
theorem Ts_nil : @WS (asgTs C .nil [] ρ S) Y = Y.nx ρ S := by rw [asgTs]; rfl
theorem Ts_cons (t r d ds) : @WS (asgTs C (.cons t r) (d :: ds) ρ S) Y = @WS (asgT C t d ρ S) ⟨fun ρ' S' => @WS (asgTs C r ds ρ' S') Y, Y.rt, Y.bk, Y.ct, Y.ex⟩ := by rw [asgTs, S_bind]
theorem Tl_nil : Ts.len .nil = 0 := rfl
theorem Tl_cons (t r) : Ts.len (.cons t r) = Ts.len r + 1 := rfl
theorem S_set (t e) : @WS (evS C (.set t e) ρ S) Y = @WR (evE C e ρ S) ⟨fun d S1 => @WS (asgT C t d ρ S1) Y⟩ Y.ex := by rw [evS, S_bindS]
theorem S_par (i j a b) : @WS (evS C (.par i j a b) ρ S) Y = @WR (evE C a ρ S) ⟨fun d S1 => @WR (evE C b ρ S1) ⟨fun e S2 => Y.nx ((ρ.set i (some d)).set j (some e)) S2⟩ Y.ex⟩ Y.ex := by
  rw [evS, S_bindS]; exact WR_c fun d S1 => S_bindS _ _ _ _
theorem S_par3 (i j l a b c) : @WS (evS C (.par3 i j l a b c) ρ S) Y = @WR (evE C a ρ S) ⟨fun d S1 => @WR (evE C b ρ S1) ⟨fun e S2 => @WR (evE C c ρ S2) ⟨fun f S3 => Y.nx (((ρ.set i (some d)).set j (some e)).set l (some f)) S3⟩ Y.ex⟩ Y.ex⟩ Y.ex := by
  rw [evS, S_bindS]; exact WR_c fun d S1 => (S_bindS _ _ _ _).trans (WR_c fun e S2 => S_bindS _ _ _ _)
theorem S_exp (e) : @WS (evS C (.ex e) ρ S) Y = @WR (evE C e ρ S) ⟨fun _ S1 => Y.nx ρ S1⟩ Y.ex := by rw [evS, S_bindS]; rfl
theorem S_ret (e) : @WS (evS C (.ret e) ρ S) Y = @WR (evE C e ρ S) ⟨fun d S1 => Y.rt d S1⟩ Y.ex := by rw [evS, S_bindS]; rfl
theorem S_retN : @WS (evS C .retN ρ S) Y = Y.rt .non S := by rw [evS]; rfl
theorem S_iff (c a b) : @WS (evS C (.iff c a b) ρ S) Y = @WR (evE C c ρ S) ⟨fun d S1 => @TB d ⟨@WS (evB C a ρ S1) Y⟩ ⟨@WS (evB C b ρ S1) Y⟩⟩ Y.ex := by
  rw [evS, S_bindS]
  congr 2
  funext x S1
  cases x <;> first | rfl | skip
  rename_i v
  cases v <;> rfl
theorem S_whl (c b) : @WS (evS C (.whl c b) ρ S) Y = @WS (whlGo (evE C c) (evB C b) TURNS ρ S) Y := by rw [evS]
theorem S_for (p ik es b) : @WS (evS C (.for p ik es b) ρ S) Y = @WL (evL C es ρ S) ⟨fun ds S1 => @WO (src ik ds S1) ⟨fun l g => @WS (forGo p (evB C b) g l ρ S1) Y⟩⟩ Y.ex := by
  rw [evS, S_bindSL]
  congr 2
  funext ds S1
  cases src ik ds S1 <;> rfl
theorem S_pass : @WS (evS C .pass ρ S) Y = Y.nx ρ S := by rw [evS]; rfl
theorem S_brk : @WS (evS C .brk ρ S) Y = Y.bk ρ S := by rw [evS]; rfl
theorem S_cnt : @WS (evS C .cnt ρ S) Y = Y.ct ρ S := by rw [evS]; rfl
theorem S_rai (c f) (h : C.xf c = some f) (d : Z.E) : @WS (evS C (.rai c (.cons d .nil)) ρ S) Y = @WR (evE C d ρ S) ⟨fun d S1 => Y.ex.f c [(f, d)] S1⟩ Y.ex := by
  rw [evS, h]
  simp only [S_bindSL, L_cons]
  exact WR_c fun d S1 => L_nil _ _ _ _ _
theorem B_nil : @WS (evB C .nil ρ S) Y = Y.nx ρ S := by rw [evB]; rfl
theorem B_cons (s r) : @WS (evB C (.cons s r) ρ S) Y = @WS (evS C s ρ S) ⟨fun ρ' S' => @WS (evB C r ρ' S') Y, Y.rt, Y.bk, Y.ct, Y.ex⟩ := by rw [evB, S_bind]
theorem O_some (l g) (K : KG) : @WO (some (l, g)) K = K.f l g := rfl
theorem O_if (c : Prop) [Decidable c] (q) (K : KG) : @WO (if c then some q else none) K = @WG c ⟨K.f q.1 q.2⟩ := by
  by_cases h : c <;> simp [h, WG, WO]
end
/-! ### calls -/
theorem gc_same (S : Sto) (d : D) : gc S d S = .ok d S := by
  unfold gc
  rw [List.take_length, if_pos (eqS_refl S)]
  split
  · rfl
  · split
    · split
      · rename_i m _ h
        have this : S[m]? = none := List.getElem?_eq_none (by simpa using h)
        rw [this]
      · rfl
    · rfl
theorem gc_pure {S S' : Sto} {d : D} (h : S'.take S.length = S) (hp : d.pure = true) : gc S d S' = .ok d S := by
  unfold gc
  rw [h, if_pos (eqS_refl S), if_pos hp]
/-- whatever is let go: a tracked relation on stores stays -/
theorem gc_rel {S S' : Sto} {d : D} (hp : d.pure = true) {P : Sto → Prop} (h1 : P S') (h2 : S'.take S.length = S → P S) : ∃ S'', gc S d S' = .ok d S'' ∧ P S'' := by
  unfold gc
  rw [hp]
  split
  · rename_i he
    exact ⟨S, rfl, h2 (eqS_eq he)⟩
  · exact ⟨S', rfl, h1⟩
/-- a new list of plain things is told -/
theorem gc_lst {S S' : Sto} {m : Nat} {ds : List D} (h : S'.take S.length = S) (hm : S.length ≤ m) (hl : S'[m]? = some (.lst ds)) (hp : D.pureL ds = true) : gc S (.ref m) S' = .ok (.ref S.length) (S ++ [.lst ds]) := by
  unfold gc
  rw [h, if_pos (eqS_refl S), if_neg (by simp [D.pure])]
  simp only
  rw [if_pos hm, hl]
  simp only
  rw [if_pos hp]
def endR (S : Sto) (r : RS) : R := match r with
  | .nx _ S' => gc S .non S'
  | .rt d S' => gc S d S'
  | .ex c fs _ S' => .ex c fs S'
  | _ => .st
theorem runF_eq {C : Ev} {fd : FD} {ds : List D} {kw : List (Str × D)} {S : Sto} {vs : List D} (h : bindZ (fd.N.take fd.np) fd.dfl ds kw = some vs) : runF C fd ds kw S = endR S (evB C fd.body (vs.map some ++ List.replicate (fd.N.length - vs.length) none) S) := by
  unfold runF
  rw [h]
  rfl
theorem W_end (S : Sto) (r : RS) (Q : KQ) (E : KE) : @WR (endR S r) Q E = @WS r ⟨fun _ S' => @WR (gc S .non S') Q E, fun d S' => @WR (gc S d S') Q E, fun _ _ => False, fun _ _ => False, E⟩ := by
  cases r <;> rfl
/-- a def is called -/
theorem w_call {p : Pg} {k : Nat} {c f : Str} {fd : FD} {ds : List D} {kw : List (Str × D)} {S : Sto} {Q : KQ} {E : KE} {vs : List D} (h : p.fs.lookup (c, f) = some fd) (hb : bindZ (fd.N.take fd.np) fd.dfl ds kw = some vs)
    (q : @WS (evB (evAt p k) fd.body (vs.map some ++ List.replicate (fd.N.length - vs.length) none) S) ⟨fun _ S' => @WR (gc S .non S') Q E, fun d S' => @WR (gc S d S') Q E, fun _ _ => False, fun _ _ => False, E⟩) : @WR (callN p (k + 1) c f ds kw S) Q E := by
  rw [callN_some h, runF_eq hb, W_end]
  exact q
theorem tbT {b : Bool} {P Q : KP} (h : b = true) (k : P.p) : @TB (.bl b) P Q := by subst h; exact k
theorem tbF {b : Bool} {P Q : KP} (h : b = false) (k : Q.p) : @TB (.bl b) P Q := by subst h; exact k
theorem cmp_w {o : CO} {x y : D} {S : Sto} {b : Bool} {Q : KQ} {E : KE} (h : cmp o x y S = some b) (q : Q.f (.bl b) S) : @WR (cmpR o x y S) Q E := by
  unfold cmpR
  rw [h]
  exact q
/-- in, for what does not lie in the store -/
def inC (x y : D) : Option Bool := match x, y with
  | .str a, .str b => some (!(Builtin.Str.occurrences b a 0 b.length 1).isEmpty)
  | x, .tup l => match flat x, flats l with
    | some v, some vs => some (L2.inV v vs)
    | _, _ => none
  | _, _ => none
theorem inC_ok {x y : D} {b : Bool} (S : Sto) (h : inC x y = some b) : inD S x y = some b := by
  unfold inC at h
  unfold inD
  split at h
  · exact h
  · split at h
    · rename_i v vs h1 h2
      split
      · rename_i hh; cases hh
      · simp only [lstOf, Option.bind_some, h2]
        rw [h1]
        exact h
    · cases h
  · cases h
theorem inn_w {x y : D} {S : Sto} {b : Bool} {Q : KQ} {E : KE} (h : inC x y = some b) (q : Q.f (.bl b) S) : @WR (cmpR .inn x y S) Q E := cmp_w (inC_ok S h) q
theorem nin_w {x y : D} {S : Sto} {b : Bool} {Q : KQ} {E : KE} (h : inC x y = some b) (q : Q.f (.bl (!b)) S) : @WR (cmpR .nin x y S) Q E := cmp_w (by show (inD S x y).map (!·) = _; rw [inC_ok S h]; rfl) q
theorem chn_w {o : CO} {x y : D} {S : Sto} {b : Bool} {P Q : KP} (h : cmp o x y S = some b) (q : @TB (.bl b) P Q) : @chn o x y S P Q := by
  rw [chn_eq S o x y b h]
  exact q
theorem W_gc (S : Sto) (d : D) (Q : KQ) (E : KE) : @WR (gc S d S) Q E = Q.f d S := by rw [gc_same]; rfl
theorem w_gcp {S S' : Sto} {d : D} {Q : KQ} {E : KE} (h : S'.take S.length = S) (hp : d.pure = true) (q : Q.f d S) : @WR (gc S d S') Q E := by rw [gc_pure h hp]; exact q
theorem w_gcr {S S' : Sto} {d : D} {Q : KQ} {E : KE} (hp : d.pure = true) (P : Sto → Prop) (h1 : P S') (h2 : S'.take S.length = S → P S) (q : ∀ S'', P S'' → Q.f d S'') : @WR (gc S d S') Q E := by
  obtain ⟨S'', e, h⟩ := gc_rel hp h1 h2
  rw [e]
  exact q S'' h
theorem w_mono {r : R} {Q Q' : KQ} {E E' : KE} (h : @WR r Q E) (q : ∀ d S, Q.f d S → Q'.f d S) (e : ∀ c fs S, E.f c fs S → E'.f c fs S) : @WR r Q' E' := by
  cases r with
  | ok d S => exact q d S h
  | ex c fs S => exact e c fs S h
  | st => exact h
theorem s_mono {r : RS} {Y Y' : KS} (h : @WS r Y) (h1 : ∀ ρ S, Y.nx ρ S → Y'.nx ρ S) (h2 : ∀ d S, Y.rt d S → Y'.rt d S) (h3 : ∀ ρ S, Y.bk ρ S → Y'.bk ρ S) (h4 : ∀ ρ S, Y.ct ρ S → Y'.ct ρ S) (h5 : ∀ c fs S, Y.ex.f c fs S → Y'.ex.f c fs S) : @WS r Y' := by
  cases r with
  | nx ρ S => exact h1 ρ S h
  | rt d S => exact h2 d S h
  | bk ρ S => exact h3 ρ S h
  | ct ρ S => exact h4 ρ S h
  | ex c fs ρ S => exact h5 c fs S h
  | st => exact h
theorem ev_cf (p : Pg) (k : Nat) : (evAt p k).cf = callN p k := rfl
theorem ev_cm (p : Pg) (k : Nat) : (evAt p (k + 1)).cm = callN p k := rfl
theorem ev_low (p : Pg) (k : Nat) : (evAt p (k + 2)).low = evE (evAt p k) := rfl
theorem ev_xf (p : Pg) (k : Nat) (c : Str) : (evAt p (k + 1)).xf c = p.xf.lookup c := rfl
/-! ### loops -/
/-- a for over items that nobody changes -/
theorem w_for {p : P} {bd : Rho → Sto → RS} {g : Option (Nat × List D)} {l : List D} {ρ : Rho} {S : Sto} {Y : KS} (I : Nat → Rho → Sto → Prop) (h0 : I 0 ρ S) (hst : ∀ i ρ S, I i ρ S → stays S g = true)
    (step : ∀ i d ρ S, l[i]? = some d → I i ρ S → ∃ ρ1, asgP p d ρ = some ρ1 ∧ @WS (bd ρ1 S) ⟨fun ρ' S' => I (i + 1) ρ' S', Y.rt, Y.nx, fun ρ' S' => I (i + 1) ρ' S', Y.ex⟩)
    (fin : ∀ ρ S, I l.length ρ S → Y.nx ρ S) : @WS (forGo p bd g l ρ S) Y := by
  have key : ∀ (r : List D) (i : Nat) (ρ : Rho) (S : Sto), l.drop i = r → i + r.length = l.length → I i ρ S → @WS (forGo p bd g r ρ S) Y := by
    intro r
    induction r with
    | nil =>
      intro i ρ S hd hi hI
      rw [forGo, if_pos (hst i ρ S hI)]
      have : i = l.length := by simpa using hi
      subst this
      exact fin ρ S hI
    | cons d r ih =>
      intro i ρ S hd hi hI
      rw [forGo, if_pos (hst i ρ S hI)]
      have hl : l[i]? = some d := by
        have e : (l.drop i)[0]? = some d := by rw [hd]; rfl
        simpa using e
      have hdr : l.drop (i + 1) = r := by
        rw [← List.drop_drop, hd]; rfl
      obtain ⟨ρ1, e1, w⟩ := step i d ρ S hl hI
      rw [e1]
      simp only
      cases hb : bd ρ1 S with
      | nx ρ' S' => rw [hb] at w; exact ih (i + 1) ρ' S' hdr (by simp at hi; omega) w
      | ct ρ' S' => rw [hb] at w; exact ih (i + 1) ρ' S' hdr (by simp at hi; omega) w
      | bk ρ' S' => rw [hb] at w; exact w
      | rt d S => rw [hb] at w; exact w
      | ex c fs ρ S => rw [hb] at w; exact w
      | st => rw [hb] at w; exact w
  exact key l 0 ρ S rfl (by simp) h0
/-- a while: n bounds the turns -/
theorem w_whl {cd : Rho → Sto → R} {bd : Rho → Sto → RS} {ρ : Rho} {S : Sto} {Y : KS} (I : Nat → Rho → Sto → Prop) (n : Nat) (hn : n < TURNS) (h0 : I n ρ S)
    (step : ∀ m ρ S, I m ρ S → @WR (cd ρ S) ⟨fun d S1 => @TB d ⟨@WS (bd ρ S1) ⟨fun ρ' S' => ∃ m', m' < m ∧ I m' ρ' S', Y.rt, Y.nx, fun ρ' S' => ∃ m', m' < m ∧ I m' ρ' S', Y.ex⟩⟩ ⟨Y.nx ρ S1⟩⟩ Y.ex) : @WS (whlGo cd bd TURNS ρ S) Y := by
  have key : ∀ (t n : Nat) (ρ : Rho) (S : Sto), n < t → I n ρ S → @WS (whlGo cd bd t ρ S) Y := by
    intro t
    induction t with
    | zero => intro n ρ S h; omega
    | succ t ih =>
      intro n ρ S hn hI
      have w := step n ρ S hI
      rw [whlGo]
      cases hc : cd ρ S with
      | st => rw [hc] at w; exact w.elim
      | ex c fs S1 => rw [hc] at w; exact w
      | ok d S1 =>
        rw [hc] at w
        cases d <;> try exact w.elim
        rename_i b
        cases b with
        | false => exact w
        | true =>
          have w : @WS (bd ρ S1) ⟨fun ρ' S' => ∃ m', m' < n ∧ I m' ρ' S', Y.rt, Y.nx, fun ρ' S' => ∃ m', m' < n ∧ I m' ρ' S', Y.ex⟩ := w
          cases hb : bd ρ S1 with
          | nx ρ' S' =>
            rw [hb] at w
            obtain ⟨m', h1, h2⟩ := w
            simp only [hb]
            exact ih m' ρ' S' (by omega) h2
          | ct ρ' S' =>
            rw [hb] at w
            obtain ⟨m', h1, h2⟩ := w
            simp only [hb]
            exact ih m' ρ' S' (by omega) h2
          | bk ρ' S' => rw [hb] at w; simp only [hb]; exact w
          | rt d S => rw [hb] at w; simp only [hb]; exact w
          | ex c fs ρ S => rw [hb] at w; simp only [hb]; exact w
          | st => rw [hb] at w; exact w.elim
  exact key TURNS n ρ S hn h0
/-- a comprehension: acc is what is made so far -/
theorem w_lc {p : P} {cd el : Rho → Sto → R} {ρ : Rho} {n : Nat} {g : Option (Nat × List D)} {l : List D} {S : Sto} {Q : KQ} {E : KE} (I : Nat → List D → Sto → Prop) (hI : ∀ i acc S, I i acc S → S[n]? = some (.lst acc) ∧ acc.length ≤ i) (hl : l.length < LINE) (h0 : I 0 [] S) (hst : ∀ i acc S, I i acc S → stays S g = true)
    (step : ∀ i d acc S, l[i]? = some d → I i acc S → ∃ ρ1, asgP p d ρ = some ρ1 ∧ @WR (cd ρ1 S) ⟨fun b S1 => @TB b ⟨@WR (el ρ1 S1) ⟨fun y S2 => S2[n]? = some (.lst acc) ∧ I (i + 1) (acc ++ [y]) (S2.set n (.lst (acc ++ [y])))⟩ E0⟩ ⟨I (i + 1) acc S1⟩⟩ E0)
    (fin : ∀ acc S, I l.length acc S → Q.f (.ref n) S) : @WR (lcGo p cd el ρ n g l S) Q E := by
  have key : ∀ (r : List D) (i : Nat) (acc : List D) (S : Sto), l.drop i = r → i + r.length = l.length → I i acc S → @WR (lcGo p cd el ρ n g r S) Q E := by
    intro r
    induction r with
    | nil =>
      intro i acc S hd hi h
      rw [lcGo, if_pos (hst i acc S h)]
      have : i = l.length := by simpa using hi
      subst this
      exact fin acc S h
    | cons d r ih =>
      intro i acc S hd hi h
      rw [lcGo, if_pos (hst i acc S h)]
      have hll : l[i]? = some d := by
        have e : (l.drop i)[0]? = some d := by rw [hd]; rfl
        simpa using e
      have hdr : l.drop (i + 1) = r := by
        rw [← List.drop_drop, hd]; rfl
      obtain ⟨ρ1, e1, w⟩ := step i d acc S hll h
      rw [e1]
      simp only
      cases hc : cd ρ1 S with
      | st => rw [hc] at w; exact w.elim
      | ex c fs S1 => rw [hc] at w; exact w.elim
      | ok b S1 =>
        rw [hc] at w
        cases b <;> try exact w.elim
        rename_i b
        cases b with
        | false => exact ih (i + 1) acc S1 hdr (by simp at hi; omega) w
        | true =>
          have w : @WR (el ρ1 S1) ⟨fun y S2 => S2[n]? = some (.lst acc) ∧ I (i + 1) (acc ++ [y]) (S2.set n (.lst (acc ++ [y])))⟩ E0 := w
          simp only
          cases he : el ρ1 S1 with
          | st => rw [he] at w; exact w.elim
          | ex c fs S1 => rw [he] at w; exact w.elim
          | ok y S2 =>
            rw [he] at w
            obtain ⟨h1, h2⟩ := w
            simp only
            rw [h1]
            simp only
            have := (hI i acc S h).2
            rw [if_pos (by simp at hi; omega)]
            exact ih (i + 1) _ _ hdr (by simp at hi; omega) h2
  exact key l 0 [] S rfl (by simp) h0
/-! ### operations -/
section
variable (S : Sto) (C : Ev)
theorem b_addI (i j : Int) : bin .add (.int i) (.int j) S = .ok (.int (i + j)) S := rfl
theorem b_subI (i j : Int) : bin .sub (.int i) (.int j) S = .ok (.int (i - j)) S := rfl
theorem b_addS (a b : Str) : bin .add (.str a) (.str b) S = if a.length + b.length ≤ LINE then .ok (.str (a ++ b)) S else .st := rfl
theorem b_addT (a b : List D) : bin .add (.tup a) (.tup b) S = if a.length + b.length ≤ LINE then .ok (.tup (a ++ b)) S else .st := rfl
theorem b_mulI (i j : Int) : bin .mul (.int i) (.int j) S = if small i || small j then .ok (.int (i * j)) S else .st := rfl
theorem b_fdivI (i j : Int) : bin .fdiv (.int i) (.int j) S = if j ≠ 0 ∧ j.natAbs < 1073741824 then .ok (.int (i.fdiv j)) S else .st := rfl
theorem b_modI (i j : Int) : bin .mod (.int i) (.int j) S = if j ≠ 0 then .ok (.int (i.fmod j)) S else .st := rfl
theorem b_powI (i j : Int) : bin .pow (.int i) (.int j) S = if 0 ≤ j ∧ j ≤ 1000000 ∧ i.natAbs < 2 ^ 64 then .ok (.int (i ^ j.toNat)) S else .st := rfl
theorem c_lt (i j : Int) : cmp .lt (.int i) (.int j) S = some (decide (i < j)) := rfl
theorem c_le (i j : Int) : cmp .le (.int i) (.int j) S = some (decide (i ≤ j)) := rfl
theorem c_gt (i j : Int) : cmp .gt (.int i) (.int j) S = some (decide (j < i)) := rfl
theorem c_ge (i j : Int) : cmp .ge (.int i) (.int j) S = some (decide (j ≤ i)) := rfl
theorem c_eqI (i j : Int) : cmp .eq (.int i) (.int j) S = some (decide (i = j)) := rfl
theorem c_eqS (i j : Str) : cmp .eq (.str i) (.str j) S = some (decide (i = j)) := rfl
theorem c_eqB (i j : Bool) : cmp .eq (.bl i) (.bl j) S = some (decide (i = j)) := rfl
theorem c_neI (i j : Int) : cmp .ne (.int i) (.int j) S = some (!decide (i = j)) := rfl
theorem c_neS (i j : Str) : cmp .ne (.str i) (.str j) S = some (!decide (i = j)) := rfl
theorem c_neB (i j : Bool) : cmp .ne (.bl i) (.bl j) S = some (!decide (i = j)) := rfl
theorem r_lt (i j : Int) : cmpR .lt (.int i) (.int j) S = .ok (.bl (decide (i < j))) S := rfl
theorem r_le (i j : Int) : cmpR .le (.int i) (.int j) S = .ok (.bl (decide (i ≤ j))) S := rfl
theorem r_gt (i j : Int) : cmpR .gt (.int i) (.int j) S = .ok (.bl (decide (j < i))) S := rfl
theorem r_ge (i j : Int) : cmpR .ge (.int i) (.int j) S = .ok (.bl (decide (j ≤ i))) S := rfl
theorem r_eqI (i j : Int) : cmpR .eq (.int i) (.int j) S = .ok (.bl (decide (i = j))) S := rfl
theorem r_eqS (i j : Str) : cmpR .eq (.str i) (.str j) S = .ok (.bl (decide (i = j))) S := rfl
theorem r_eqB (i j : Bool) : cmpR .eq (.bl i) (.bl j) S = .ok (.bl (decide (i = j))) S := rfl
theorem r_neI (i j : Int) : cmpR .ne (.int i) (.int j) S = .ok (.bl (!decide (i = j))) S := rfl
theorem r_neS (i j : Str) : cmpR .ne (.str i) (.str j) S = .ok (.bl (!decide (i = j))) S := rfl
theorem r_neB (i j : Bool) : cmpR .ne (.bl i) (.bl j) S = .ok (.bl (!decide (i = j))) S := rfl
theorem g_tup (ds : List D) (i : Int) : get C (.tup ds) (.int i) S = ofO (L2.atI ds i) S := rfl
theorem g_ref (n : Nat) (i : Int) (ds : List D) (h : rdL S n = some ds) : get C (.ref n) (.int i) S = ofO (L2.atI ds i) S := by
  unfold get
  simp only [h]
theorem rd_lst (n : Nat) (ds : List D) (h : S[n]? = some (.lst ds)) : rdL S n = some ds := by unfold rdL; rw [h]
theorem rd_frz (n : Nat) (ds : List D) (h : S[n]? = some (.frz ds)) : rdL S n = some ds := by unfold rdL; rw [h]
theorem sl_tup (ds lo hi) : slc (.tup ds) lo hi S = .ok (.tup (cut ds lo hi)) S := rfl
theorem sl_ref (n : Nat) (ds : List D) (lo hi) (h : rdL S n = some ds) : slc (.ref n) lo hi S = .ok (.ref S.length) (S ++ [.lst (cut ds lo hi)]) := by
  unfold slc
  simp only [h, new]
theorem bi_lenT (ds : List D) : bi .len [.tup ds] S = .ok (.int ds.length) S := rfl
theorem bi_intS (x : Str) (i : Int) (h : PySem.intText? x = some i) (h2 : x.length ≤ 640) : bi .int [.str x] S = .ok (.int i) S := by
  unfold bi
  simp only [h, if_pos h2]
theorem bm_split (a b : Str) : bm C .split (.str a) [.str b] S = if (b.length == 0) = false ∧ a.length + 2 ≤ LINE then .ok (.ref S.length) (S ++ [.lst ((Txt.split a b).map D.str)]) else .st := rfl
theorem bm_isalnum (a : Str) : bm C .isalnum (.str a) [] S = .ok (.bl (Txt.isalnum a)) S := rfl
theorem bma_str (a : Str) : bmAt S .split (.str a) = true ∧ bmAt S .isalnum (.str a) = true ∧ bmAt S .join (.str a) = true := ⟨rfl, rfl, rfl⟩
theorem bma_split (a : Str) : bmAt S .split (.str a) = true := rfl
theorem bma_isalnum (a : Str) : bmAt S .isalnum (.str a) = true := rfl
theorem bma_join (a : Str) : bmAt S .join (.str a) = true := rfl
theorem bi_lenS (z : Str) : bi .len [.str z] S = if z.length ≤ LINE then .ok (.int z.length) S else .st := rfl
theorem bi_lenR (n : Nat) (ds : List D) (h : rdL S n = some ds) : bi .len [.ref n] S = .ok (.int ds.length) S := by
  unfold bi
  simp only [lstOf, h]
theorem bi_abs (i : Int) : bi .abs [.int i] S = .ok (.int (if i < 0 then -i else i)) S := rfl
theorem bi_intI (i : Int) : bi .int [.int i] S = .ok (.int i) S := rfl
theorem bi_intB (k : Bool) : bi .int [.bl k] S = .ok (.int (if k then 1 else 0)) S := rfl
theorem bi_strI (i : Int) : bi .str [.int i] S = if i.natAbs.log2 < 1920 then .ok (.str (toString i)) S else .st := rfl
theorem bi_strS (x : Str) : bi .str [.str x] S = .ok (.str x) S := rfl
theorem bi_max (i j : Int) : bi .max [.int i, .int j] S = .ok (.int (if j > i then j else i)) S := rfl
theorem bi_min (i j : Int) : bi .min [.int i, .int j] S = .ok (.int (if j < i then j else i)) S := rfl
theorem bi_divmod (i j : Int) : bi .divmod [.int i, .int j] S = if 0 < j ∧ j < 1073741824 then .ok (.tup [.int (i / j), .int (i % j)]) S else .st := rfl
theorem bi_tupT (l : List D) : bi .tuple [.tup l] S = .ok (.tup l) S := rfl
theorem bi_tupR (n : Nat) (l : List D) (h : rdL S n = some l) : bi .tuple [.ref n] S = .ok (.tup l) S := by
  unfold bi
  simp only [lstOf, h]
theorem bi_lstT (l : List D) : bi .list [.tup l] S = .ok (.ref S.length) (S ++ [.lst l]) := rfl
theorem bi_lstR (n : Nat) (l : List D) (h : rdL S n = some l) : bi .list [.ref n] S = .ok (.ref S.length) (S ++ [.lst l]) := by
  unfold bi
  simp only [lstOf, h, new]
theorem isi_non (cs) : isi S .non cs = .ok (.bl (cs.any (isB .non))) S := rfl
theorem isi_bl (b cs) : isi S (.bl b) cs = .ok (.bl (cs.any (isB (.bl b)))) S := rfl
theorem isi_int (b cs) : isi S (.int b) cs = .ok (.bl (cs.any (isB (.int b)))) S := rfl
theorem isi_str (b cs) : isi S (.str b) cs = .ok (.bl (cs.any (isB (.str b)))) S := rfl
theorem isi_tup (b cs) : isi S (.tup b) cs = .ok (.bl (cs.any (isB (.tup b)))) S := rfl
theorem isi_ref (n : Nat) (cs) (ds : List D) (h : rdL S n = some ds) : isi S (.ref n) cs = .ok (.bl (cs.any (isB (.ref n)))) S := by
  unfold isi tyN
  simp only [h]
theorem bma (n : Nat) (ds : List D) (b : BM) (hb : b = .append ∨ b = .extend ∨ b = .pop ∨ b = .index) (h : rdL S n = some ds) : bmAt S b (.ref n) = true := by
  rcases hb with rfl | rfl | rfl | rfl <;> simp only [bmAt, isLst, h, Option.isSome_some]
theorem bm_app (n : Nat) (d : D) (l : List D) (h : S[n]? = some (.lst l)) : bm C .append (.ref n) [d] S = if l.length < LINE then .ok .non (S.set n (.lst (l ++ [d]))) else .st := by
  unfold bm
  simp only [h]
theorem bm_pop (n : Nat) (d : D) (l : List D) (h : S[n]? = some (.lst l)) (hd : l[l.length - 1]? = some d) : bm C .pop (.ref n) [] S = .ok d (S.set n (.lst l.dropLast)) := by
  unfold bm
  simp only [h, hd]
theorem bi_repr (d : D) (l : List D) (p : PyData) (h1 : lstOf S d = some l) (h2 : dat S DEEP d = some p) (h3 : p.showable = true) (h4 : p.shown.length ≤ LINE) : bi .repr [d] S = .ok (.str p.shown) S := by
  unfold bi
  split
  all_goals first | rfl | skip
  all_goals simp_all
theorem src_tup (l : List D) : src .seq [.tup l] S = some (l, none) := rfl
theorem src_str (z : Str) : src .seq [.str z] S = some (z.cps.toList.map fun c => .str ⟨#[c]⟩, none) := rfl
theorem src_ref (n : Nat) (l : List D) (h : rdL S n = some l) : src .seq [.ref n] S = some (l, some (n, l)) := by
  unfold src
  simp only [h]
theorem src_r1 (i : Int) : src .range [.int i] S = if -(2 ^ 62) ≤ i ∧ i < 2 ^ 62 then some ((List.range i.toNat).map fun (k : Nat) => .int (k : Int), none) else none := rfl
theorem src_r2 (a b : Int) : src .range [.int a, .int b] S = if (-(2 ^ 62) ≤ a ∧ a < 2 ^ 62) ∧ -(2 ^ 62) ≤ b ∧ b < 2 ^ 62 then some ((List.range (b - a).toNat).map fun (k : Nat) => .int (a + (k : Int)), none) else none := rfl
theorem setI_lst (n : Nat) (k : Int) (d : D) (l : List D) (j : Nat) (h : S[n]? = some (.lst l)) (hj : L2.ixN l.length k = some j) : setI (.ref n) (.int k) d S = some (S.set n (.lst (l.set j d))) := by
  unfold setI
  simp only [h, hj]
end
theorem ix_nat {n j : Nat} (h : j < n) : L2.ixN n (j : Int) = some j := by
  unfold L2.ixN
  rw [if_pos (by omega), if_pos (by omega)]
  simp
theorem at_nat {α : Type} {l : List α} {j : Nat} {d : α} (h : l[j]? = some d) : L2.atI l (j : Int) = some d := by
  unfold L2.atI
  rw [ix_nat (List.getElem?_eq_some_iff.mp h).1]
  exact h
theorem at_pos {α : Type} {l : List α} {i : Int} {d : α} (h0 : 0 ≤ i) (h : l[i.toNat]? = some d) : L2.atI l i = some d := by
  have := at_nat h
  rwa [Int.toNat_of_nonneg h0] at this
theorem at_neg {α : Type} {l : List α} {j : Nat} {d : α} (hj : 0 < j) (hl : j ≤ l.length) (h : l[l.length - j]? = some d) : L2.atI l (-(j : Int)) = some d := by
  unfold L2.atI L2.ixN
  rw [if_neg (by omega), if_pos (by omega)]
  simp only [Option.bind_some]
  rw [show (-(j : Int) + (l.length : Int)).toNat = l.length - j by omega]
  exact h
theorem stays_none (S : Sto) : stays S none = true := rfl
theorem stays_of {S : Sto} {n : Nat} {l : List D} (h : rdL S n = some l) : stays S (some (n, l)) = true := by
  simp only [stays, h]
  exact D.eqL_refl l
/-! ### stores -/
theorem lk_app0 {S T : Sto} : (S ++ T)[S.length]? = T[0]? := by rw [List.getElem?_append_right (Nat.le_refl _), Nat.sub_self]
theorem lk_app {S T : Sto} {k : Nat} : (S ++ T)[S.length + k]? = T[k]? := by rw [List.getElem?_append_right (Nat.le_add_right _ _), Nat.add_sub_cancel_left]
theorem lk_old {S T : Sto} {n : Nat} (h : n < S.length) : (S ++ T)[n]? = S[n]? := List.getElem?_append_left h
theorem lt_of_lk {S : Sto} {n : Nat} {o : Ob} (h : S[n]? = some o) : n < S.length := (List.getElem?_eq_some_iff.mp h).1
theorem set_old {S T : Sto} {n : Nat} {o : Ob} (h : n < S.length) : (S ++ T).set n o = S.set n o ++ T := List.set_append_left _ _ h
theorem lk_set {S : Sto} {n : Nat} {o : Ob} (h : n < S.length) : (S.set n o)[n]? = some o := List.getElem?_set_self h
theorem lk_set_ne {S : Sto} {n m : Nat} {o : Ob} (h : n ≠ m) : (S.set n o)[m]? = S[m]? := List.getElem?_set_ne h
/-! ### what stands at a place of the store -/
def rdO : Option Ob → Option (List D)
  | some (.lst ds) => some ds
  | some (.frz ds) => some ds
  | _ => none
theorem rdO_lst (ds : List D) : rdO (some (.lst ds)) = some ds := rfl
theorem rdO_frz (ds : List D) : rdO (some (.frz ds)) = some ds := rfl
theorem rdL_eq (S : Sto) (n : Nat) : rdL S n = rdO S[n]? := rfl
section
variable (S : Sto) (C : Ev) (n : Nat)
def atRd (o : Option (List D)) (i : Int) (S : Sto) : R := match o with
  | some ds => ofO (L2.atI ds i) S
  | none => .st
theorem atRd_some (ds : List D) (i : Int) : atRd (some ds) i S = ofO (L2.atI ds i) S := rfl
theorem o_get (i : Int) : get C (.ref n) (.int i) S = atRd (rdO S[n]?) i S := by
  unfold get atRd
  simp only [rdL_eq]
  all_goals (cases rdO S[n]? <;> rfl)
def slRd (o : Option (List D)) (lo hi : Option Int) (S : Sto) : R := match o with
  | some ds => .ok (.ref S.length) (S ++ [.lst (cut ds lo hi)])
  | none => .st
theorem slRd_some (ds : List D) (lo hi) : slRd (some ds) lo hi S = .ok (.ref S.length) (S ++ [.lst (cut ds lo hi)]) := rfl
theorem o_slc (lo hi) : slc (.ref n) lo hi S = slRd (rdO S[n]?) lo hi S := by
  unfold slc slRd
  simp only [rdL_eq]
  all_goals (cases rdO S[n]? <;> rfl)
def lenRd (o : Option (List D)) (S : Sto) : R := match o with
  | some ds => .ok (.int ds.length) S
  | none => .st
theorem lenRd_some (ds : List D) : lenRd (some ds) S = .ok (.int ds.length) S := rfl
theorem o_len : bi .len [.ref n] S = lenRd (rdO S[n]?) S := by
  unfold bi lenRd
  simp only [lstOf, rdL_eq]
  all_goals (cases rdO S[n]? <;> rfl)
def tupRd (o : Option (List D)) (S : Sto) : R := match o with
  | some ds => .ok (.tup ds) S
  | none => .st
theorem tupRd_some (ds : List D) : tupRd (some ds) S = .ok (.tup ds) S := rfl
theorem o_tup : bi .tuple [.ref n] S = tupRd (rdO S[n]?) S := by
  unfold bi tupRd
  simp only [lstOf, rdL_eq]
  all_goals (cases rdO S[n]? <;> rfl)
def lstRd (o : Option (List D)) (S : Sto) : R := match o with
  | some ds => .ok (.ref S.length) (S ++ [.lst ds])
  | none => .st
theorem lstRd_some (ds : List D) : lstRd (some ds) S = .ok (.ref S.length) (S ++ [.lst ds]) := rfl
theorem o_lst : bi .list [.ref n] S = lstRd (rdO S[n]?) S := by
  unfold bi lstRd
  simp only [lstOf, rdL_eq]
  all_goals (cases rdO S[n]? <;> rfl)
def isRd (o : Option (List D)) (b : Bool) (S : Sto) : R := match o with
  | some _ => .ok (.bl b) S
  | none => .st
theorem isRd_some (ds : List D) (b) : isRd (some ds) b S = .ok (.bl b) S := rfl
theorem o_isi (cs : List TY) : isi S (.ref n) cs = isRd (rdO S[n]?) (cs.any (isB (.ref n))) S := by
  unfold isi tyN isRd
  simp only [rdL_eq]
  all_goals (cases rdO S[n]? <;> rfl)
theorem o_app : bmAt S .append (.ref n) = (rdO S[n]?).isSome := rfl
theorem o_ext : bmAt S .extend (.ref n) = (rdO S[n]?).isSome := rfl
theorem o_pop : bmAt S .pop (.ref n) = (rdO S[n]?).isSome := rfl
def appRd (o : Option Ob) (n : Nat) (d : D) (S : Sto) : R := match o with
  | some (.lst l) => if l.length < LINE then .ok .non (S.set n (.lst (l ++ [d]))) else .st
  | _ => .st
theorem appRd_some (l : List D) (d : D) : appRd (some (.lst l)) n d S = if l.length < LINE then .ok .non (S.set n (.lst (l ++ [d]))) else .st := rfl
theorem o_bapp (d : D) : bm C .append (.ref n) [d] S = appRd S[n]? n d S := by
  unfold bm appRd
  first
    | (simp only; done)
    | (simp only; generalize S[n]? = o; rcases o with _ | (_ | _ | _) <;> rfl)
def popRd (o : Option Ob) (n : Nat) (S : Sto) : R := match o with
  | some (.lst l) => (match l[l.length - 1]? with
    | some d => .ok d (S.set n (.lst l.dropLast))
    | none => .st)
  | _ => .st
theorem popRd_snoc (l : List D) (d : D) : popRd (some (.lst (l ++ [d]))) n S = .ok d (S.set n (.lst l)) := by
  unfold popRd
  simp
theorem o_bpop : bm C .pop (.ref n) [] S = popRd S[n]? n S := by
  unfold bm popRd
  first
    | (simp only; done)
    | (simp only; generalize S[n]? = o; rcases o with _ | (l | _ | _) <;> first | rfl | (simp only; cases l[l.length - 1]? <;> rfl))
def setRd (o : Option Ob) (n : Nat) (k : Int) (d : D) (S : Sto) : Option Sto := match o with
  | some (.lst l) => (match L2.ixN l.length k with
    | some j => some (S.set n (.lst (l.set j d)))
    | none => none)
  | _ => none
theorem setRd_some (l : List D) (k : Int) (d : D) : setRd (some (.lst l)) n k d S = match L2.ixN l.length k with
    | some j => some (S.set n (.lst (l.set j d)))
    | none => none := rfl
theorem o_setI (k : Int) (d : D) : setI (.ref n) (.int k) d S = setRd S[n]? n k d S := by
  unfold setI setRd
  first
    | (simp only; done)
    | (simp only; generalize S[n]? = o; rcases o with _ | (l | _ | _) <;> first | rfl | (simp only; cases L2.ixN l.length k <;> rfl))
def srcRd (o : Option (List D)) (n : Nat) : Option (List D × Option (Nat × List D)) := match o with
  | some l => some (l, some (n, l))
  | none => none
theorem srcRd_some (l : List D) : srcRd (some l) n = some (l, some (n, l)) := rfl
theorem o_src : src .seq [.ref n] S = srcRd (rdO S[n]?) n := by
  unfold src srcRd
  simp only [rdL_eq]
  all_goals (cases rdO S[n]? <;> rfl)
theorem o_stays (l : List D) (h : S[n]? = some (.lst l)) : stays S (some (n, l)) = true := stays_of (rd_lst S n l h)
end
theorem some_so {α : Type} (a : α) : (some a).isSome = true := rfl
theorem at0 {α : Type} (x : α) (l : List α) : L2.atI (x :: l) 0 = some x := at_nat (j := 0) rfl
theorem at1 {α : Type} (x y : α) (l : List α) : L2.atI (x :: y :: l) 1 = some y := at_nat (j := 1) rfl
theorem at2 {α : Type} (x y z : α) (l : List α) : L2.atI (x :: y :: z :: l) 2 = some z := at_nat (j := 2) rfl
theorem ix30 : L2.ixN 3 0 = some 0 := by decide
theorem ix31 : L2.ixN 3 1 = some 1 := by decide
theorem ix32 : L2.ixN 3 2 = some 2 := by decide
section
variable (p : P) (bd : Rho → Sto → RS) (g : Option (Nat × List D)) (ρ : Rho) (S : Sto) (Y : KS)
theorem F_nil : @WS (forGo p bd g [] ρ S) Y = @WB (stays S g) ⟨Y.nx ρ S⟩ := by
  rw [forGo]
  cases stays S g <;> simp [WB, WS]
theorem F_cons (d : D) (ds : List D) : @WS (forGo p bd g (d :: ds) ρ S) Y = @WB (stays S g) ⟨@WA (asgP p d ρ) ⟨fun ρ1 => @WS (bd ρ1 S) ⟨fun ρ' S' => @WS (forGo p bd g ds ρ' S') Y, Y.rt, Y.nx, fun ρ' S' => @WS (forGo p bd g ds ρ' S') Y, Y.ex⟩⟩⟩ := by
  rw [forGo]
  cases hst : stays S g
  · simp [WB, WS]
  · simp only [if_true, WB, true_and]
    cases asgP p d ρ with
    | none => rfl
    | some ρ1 =>
      simp only [WA]
      cases bd ρ1 S <;> rfl
end
/-! ### repr, data -/
theorem w_repr {d : D} {S : Sto} {p : PyData} {Q : KQ} {E : KE} {l : List D} (h1 : lstOf S d = some l) (h2 : dat S DEEP d = some p) (h3 : p.showable = true) (h4 : p.shown.length ≤ LINE) (q : Q.f (.str p.shown) S) : @WR (bi .repr [d] S) Q E := by
  rw [bi_repr S d l p h1 h2 h3 h4]
  exact q
section
variable (S : Sto) (n : Nat)
theorem d_non : dat S (n + 1) .non = some .none := by rw [dat]
theorem d_bl (b) : dat S (n + 1) (.bl b) = some (.bool b) := by rw [dat]
theorem d_int (b) : dat S (n + 1) (.int b) = some (.int b) := by rw [dat]
theorem d_str (b) : dat S (n + 1) (.str b) = some (.str b) := by rw [dat]
def datL (S : Sto) (n : Nat) (ds : List D) : Option (List PyData) := ds.mapM (dat S n)
def tupP (o : Option (List PyData)) : Option PyData := o.map .tuple
def lstP (o : Option (List PyData)) : Option PyData := o.map .list
theorem tupP_some (l) : tupP (some l) = some (.tuple l) := rfl
theorem lstP_some (l) : lstP (some l) = some (.list l) := rfl
theorem d_tup (ds) : dat S (n + 1) (.tup ds) = tupP (datL S n ds) := by rw [dat]; rfl
def datRd (S : Sto) (n : Nat) (o : Option Ob) : Option PyData := match o with
  | some (.lst ds) => lstP (datL S n ds)
  | _ => none
theorem datRd_some (ds) : datRd S n (some (.lst ds)) = lstP (datL S n ds) := rfl
theorem d_ref (a) : dat S (n + 1) (.ref a) = datRd S n S[a]? := by
  rw [dat]
  unfold datRd
  generalize S[a]? = o
  cases o with
  | none => rfl
  | some o => cases o <;> rfl
def consP (a : Option PyData) (l : Option (List PyData)) : Option (List PyData) := match a, l with
  | some a, some l => some (a :: l)
  | _, _ => none
theorem consP_some (a l) : consP (some a) (some l) = some (a :: l) := rfl
theorem dl_nil : datL S n [] = some [] := rfl
theorem dl_cons (d ds) : datL S n (d :: ds) = consP (dat S n d) (datL S n ds) := by
  unfold datL
  rw [List.mapM_cons]
  cases dat S n d with
  | none => rfl
  | some a =>
    cases List.mapM (dat S n) ds <;> rfl
end
/-! short enough to be shown: ints of at most 60 figures, texts' signs, few -/
mutual
def PyData.okP : PyData → Bool
  | .none => true
  | .bool _ => true
  | .int i => decide (-(10 ^ 60) < i) && decide (i < 10 ^ 60)
  | .str x => x.cps.toList.all fun c => decide (c < 1114112)
  | .list xs => PyData.okPs xs
  | .tuple xs => PyData.okPs xs
  | .dict _ => false
def PyData.okPs : List PyData → Bool
  | [] => true
  | x :: xs => PyData.okP x && PyData.okPs xs
end
theorem log_lt {i : Int} (h : -(10 ^ 60) < i ∧ i < 10 ^ 60) : i.natAbs.log2 < 1920 := by
  by_cases h0 : i.natAbs = 0
  · rw [h0]; decide
  · rw [Nat.log2_lt h0]
    have e : (10 : Nat) ^ 60 < 2 ^ 1920 := by decide +kernel
    have : i.natAbs < 10 ^ 60 := by omega
    exact Nat.lt_trans this e
mutual
theorem okP_show : ∀ {p : PyData}, PyData.okP p = true → p.showable = true ∧ p.leavesShort 61 = true
  | .none, _ => ⟨by simp [PyData.showable], by simp [PyData.leavesShort]⟩
  | .bool _, _ => ⟨by simp [PyData.showable], by simp [PyData.leavesShort]⟩
  | .int i, h => by
    simp only [PyData.okP, Bool.and_eq_true, decide_eq_true_eq] at h
    refine ⟨by simp only [PyData.showable, decide_eq_true_eq]; exact log_lt h, ?_⟩
    simp only [PyData.leavesShort, decide_eq_true_eq]
    have hb : i.natAbs < 10 ^ 60 := by omega
    have h2 := PySem.int_text_length_le10 (a := i) (k := 60) (by decide) hb
    show (Str.ofString (toString i)).length ≤ 61
    rw [PySem.ofString_length]
    exact h2
  | .str x, h => by
    simp only [PyData.okP, List.all_eq_true, decide_eq_true_eq] at h
    refine ⟨by simp [PyData.showable], ?_⟩
    simp only [PyData.leavesShort, List.all_eq_true, decide_eq_true_eq]
    exact fun c hc => Nat.lt_trans (h c hc) (by decide)
  | .list xs, h => by
    simp only [PyData.okP] at h
    have := okPs_show h
    exact ⟨by simp only [PyData.showable]; exact this.1, by simp only [PyData.leavesShort]; exact this.2⟩
  | .tuple xs, h => by
    simp only [PyData.okP] at h
    have := okPs_show h
    exact ⟨by simp only [PyData.showable]; exact this.1, by simp only [PyData.leavesShort]; exact this.2⟩
  | .dict _, h => by simp [PyData.okP] at h
theorem okPs_show : ∀ {p : List PyData}, PyData.okPs p = true → PyData.showableAll p = true ∧ PyData.leavesShortAll 61 p = true
  | [], _ => ⟨by simp [PyData.showableAll], by simp [PyData.leavesShortAll]⟩
  | x :: xs, h => by
    simp only [PyData.okPs, Bool.and_eq_true] at h
    have a := okP_show h.1
    have b := okPs_show h.2
    exact ⟨by simp only [PyData.showableAll, Bool.and_eq_true]; exact ⟨a.1, b.1⟩, by simp only [PyData.leavesShortAll, Bool.and_eq_true]; exact ⟨a.2, b.2⟩⟩
end
theorem w_reprP {d : D} {S : Sto} {p : PyData} {Q : KQ} {E : KE} {l : List D} (h1 : lstOf S d = some l) (h2 : dat S DEEP d = some p) (h3 : PyData.okP p = true) (h4 : p.bulk ≤ 200000) (q : Q.f (.str p.shown) S) : @WR (bi .repr [d] S) Q E := by
  have a := okP_show h3
  refine w_repr h1 h2 a.1 ?_ q
  have := PyData.shown_le_bulk 61 (by decide) p a.2
  have e : (61 + 2) * p.bulk ≤ 63 * 200000 := Nat.mul_le_mul (by decide) h4
  unfold LINE
  omega
/-- what does not grow is told as it is -/
theorem gc_len {S S' : Sto} {d : D} (h : S'.length = S.length) : gc S d S' = .ok d S' := by
  by_cases he : eqS (S'.take S.length) S = true
  · have e := eqS_eq he
    rw [← h, List.take_length] at e
    rw [e]
    exact gc_same S d
  · unfold gc
    rw [if_neg he]
theorem w_gcl {S S' : Sto} {d : D} {Q : KQ} {E : KE} (h : S'.length = S.length) (q : Q.f d S') : @WR (gc S d S') Q E := by rw [gc_len h]; exact q
theorem w_gcn {S S' : Sto} {m : Nat} {ds : List D} {Q : KQ} {E : KE} (h : S'.take S.length = S) (hm : S.length ≤ m) (hl : S'[m]? = some (.lst ds)) (hp : D.pureL ds = true) (q : Q.f (.ref S.length) (S ++ [.lst ds])) : @WR (gc S (.ref m) S') Q E := by
  rw [gc_lst h hm hl hp]
  exact q
section
variable (S : Sto)
def addRd (a b : Option Ob) (S : Sto) : R := match a, b with
  | some (.lst a), some (.lst b) => if a.length + b.length ≤ LINE then .ok (.ref S.length) (S ++ [.lst (a ++ b)]) else .st
  | _, _ => .st
theorem addRd_some (a b) : addRd (some (.lst a)) (some (.lst b)) S = if a.length + b.length ≤ LINE then .ok (.ref S.length) (S ++ [.lst (a ++ b)]) else .st := rfl
theorem o_add (m n : Nat) : bin .add (.ref m) (.ref n) S = addRd S[m]? S[n]? S := by
  unfold bin addRd
  simp only
  generalize S[m]? = a
  generalize S[n]? = b
  cases a with
  | none => rfl
  | some a =>
    cases a with
    | lst a =>
      cases b with
      | none => rfl
      | some b => cases b <;> rfl
    | frz a => rfl
    | ins c f => rfl
theorem bools_ok : ∀ bs : List Bool, boolsZ (bs.map D.bl) = some bs
  | [] => rfl
  | b :: r => by simp only [List.map_cons, boolsZ, bools_ok r, Option.map_some]
theorem w_all {n : Nat} {bs : List Bool} {Q : KQ} {E : KE} (h : rdL S n = some (bs.map D.bl)) (q : Q.f (.bl (bs.all id)) S) : @WR (bi .all [.ref n] S) Q E := by
  have : bi .all [.ref n] S = .ok (.bl (bs.all id)) S := by
    unfold bi
    simp only [isLst, h, Option.bind_some, bools_ok]
  rw [this]
  exact q
theorem w_any {n : Nat} {bs : List Bool} {Q : KQ} {E : KE} (h : rdL S n = some (bs.map D.bl)) (q : Q.f (.bl (bs.any id)) S) : @WR (bi .any [.ref n] S) Q E := by
  have : bi .any [.ref n] S = .ok (.bl (bs.any id)) S := by
    unfold bi
    simp only [isLst, h, Option.bind_some, bools_ok]
  rw [this]
  exact q
end
/-! stores that grow by known objects -/
theorem st_set {S T : Sto} {k : Nat} {o : Ob} : (S ++ T).set (S.length + k) o = S ++ T.set k o := by
  rw [List.set_append_right _ _ (Nat.le_add_right _ _), Nat.add_sub_cancel_left]
theorem st_set0 {S T : Sto} {o : Ob} : (S ++ T).set S.length o = S ++ T.set 0 o := by
  rw [List.set_append_right _ _ (Nat.le_refl _), Nat.sub_self]
theorem chn_le (i j : Int) (S : Sto) (P Q : KP) : @chn .le (.int i) (.int j) S P Q = @TB (.bl (decide (i ≤ j))) P Q := chn_eq S _ _ _ _ rfl P Q
theorem chn_lt (i j : Int) (S : Sto) (P Q : KP) : @chn .lt (.int i) (.int j) S P Q = @TB (.bl (decide (i < j))) P Q := chn_eq S _ _ _ _ rfl P Q
/-- one statement, what is known behind it, the rest -/
theorem seq {C : Ev} {s : S} {r : Ss} {ρ : Rho} {S : Sto} {Y : KS} (P : Rho → Sto → Prop) (h : @WS (evS C s ρ S) ⟨P, fun _ _ => False, fun _ _ => False, fun _ _ => False, E0⟩) (k : ∀ ρ' S', P ρ' S' → @WS (evB C r ρ' S') Y) : @WS (evB C (.cons s r) ρ S) Y := by
  rw [B_cons]
  exact s_mono h k (fun _ _ z => z.elim) (fun _ _ z => z.elim) (fun _ _ z => z.elim) (fun _ _ _ z => z.elim)
/-- the same where it may return -/
theorem seqR {C : Ev} {s : S} {r : Ss} {ρ : Rho} {S : Sto} {Y : KS} (P : Rho → Sto → Prop) (h : @WS (evS C s ρ S) ⟨P, Y.rt, Y.bk, Y.ct, Y.ex⟩) (k : ∀ ρ' S', P ρ' S' → @WS (evB C r ρ' S') Y) : @WS (evB C (.cons s r) ρ S) Y := by
  rw [B_cons]
  exact s_mono h k (fun _ _ z => z) (fun _ _ z => z) (fun _ _ z => z) (fun _ _ _ z => z)
/-- what a value is, then the rest -/
theorem cutE {r : R} {Q : KQ} {E : KE} (P : D → Sto → Prop) (h : @WR r ⟨P⟩ E) (k : ∀ d S, P d S → Q.f d S) : @WR r Q E := w_mono h k fun _ _ _ z => z
theorem w_repr_ref {S : Sto} {Q : KQ} {E : KE} {m : Nat} {l : List D} {p : List PyData} (h1 : S[m]? = some (.lst l)) (h2 : datL S 39 l = some p) (h3 : PyData.okPs p = true) (h4 : PyData.bulkAll p ≤ 200000) (q : Q.f (.str (PyData.shown (.list p))) S) : @WR (bi .repr [.ref m] S) Q E := by
  refine w_reprP (d := .ref m) (l := l) (p := .list p) ?_ ?_ (by simpa only [PyData.okP] using h3) (by simpa only [PyData.bulk] using h4) q
  · show rdL S m = some l
    exact rd_lst S m l h1
  · unfold DEEP
    rw [d_ref, h1, datRd_some, h2, lstP_some]
end Z
set_option maxHeartbeats 4000000
/-! Y2: what all laws' draws and tests use -/
namespace Z
open PySem
def isWhole : D → Bool
  | .int _ => true
  | _ => false
def isNum (d : D) (lo : Int) (most : Option Int) : Bool := match d with
  | .int i => decide (lo ≤ i) && (match most with | none => true | some m => decide (i ≤ m))
  | _ => false
def isWordD : D → Bool
  | .int i => decide (0 ≤ i) && decide (i ≤ 65535)
  | _ => false
theorem isi_any {S : Sto} {d : D} (h : (tyN S d).isSome = true) (cs : List TY) : isi S d cs = .ok (.bl (cs.any (isB d))) S := by
  unfold isi
  obtain ⟨t, ht⟩ := Option.isSome_iff_exists.mp h
  rw [ht]
theorem inD_strs (S : Sto) (x : Str) (l : List Str) : inD S (.str x) (.tup (l.map D.str)) = some (l.contains x) := by
  have hf : flats (l.map D.str) = some (l.map L2.V.str) := by
    induction l with
    | nil => rfl
    | cons a r ih => simp only [List.map_cons, flats, flat, ih]
  have hi : ∀ l : List Str, L2.inV (.str x) (l.map L2.V.str) = l.contains x := fun l => by
    unfold L2.inV
    induction l with
    | nil => rfl
    | cons a r ih =>
      simp only [List.map_cons, List.any_cons, List.contains_cons]
      rw [ih]
      show ((a == x) || _) = _
      rw [Bool.beq_comm]
  unfold inD
  simp only [flat, lstOf, Option.bind_some, hf, hi]
theorem cmp_inS {S : Sto} {x : Str} {l : List Str} {b : Bool} (h : l.contains x = b) : cmpR .inn (.str x) (.tup (l.map D.str)) S = .ok (.bl b) S := by
  unfold cmpR cmp
  simp only [inD_strs, h]
/-! ### draws -/
def Pail (S : Sto) (n : Nat) : Prop := ∃ a b c : Int, S[n]? = some (.lst [.int a, .int b, .int c])
/-- what is drawn changes the pail alone -/
structure Kp (n : Nat) (S S' : Sto) : Prop where
  len : S.length ≤ S'.length
  old : ∀ m, m < S.length → m ≠ n → S'[m]? = S[m]?
  pl : Pail S' n
theorem Pail.lt {S : Sto} {n : Nat} (h : Pail S n) : n < S.length := by
  obtain ⟨a, b, c, h⟩ := h
  exact lt_of_lk h
theorem Kp.refl {n : Nat} {S : Sto} (h : Pail S n) : Kp n S S := ⟨Nat.le_refl _, fun _ _ _ => rfl, h⟩
theorem Kp.trans {n : Nat} {A B C : Sto} (x : Kp n A B) (y : Kp n B C) : Kp n A C := ⟨Nat.le_trans x.len y.len, fun m h1 h2 => by rw [y.old m (Nat.lt_of_lt_of_le h1 x.len) h2, x.old m h1 h2], y.pl⟩
theorem Pail.app {S T : Sto} {n : Nat} (h : Pail S n) : Pail (S ++ T) n := by
  have hl := h.lt
  obtain ⟨a, b, c, h⟩ := h
  exact ⟨a, b, c, by rw [lk_old hl]; exact h⟩
theorem Kp.app {n : Nat} {S S' T : Sto} (x : Kp n S S') : Kp n S (S' ++ T) := ⟨by have := x.len; simp; omega, fun m h1 h2 => by rw [lk_old (Nat.lt_of_lt_of_le h1 x.len)]; exact x.old m h1 h2, x.pl.app⟩
theorem Kp.set {n : Nat} {S : Sto} {a b c : Int} (h : n < S.length) : Kp n S (S.set n (.lst [.int a, .int b, .int c])) := ⟨by simp, fun m _ h2 => lk_set_ne (Ne.symm h2), a, b, c, lk_set h⟩
theorem lk_nat {α : Type} {l : List α} {r : Int} (h0 : 0 ≤ r) (h1 : r < l.length) : ∃ d, d ∈ l ∧ L2.atI l r = some d := by
  have hr : r.toNat < l.length := by omega
  exact ⟨l[r.toNat], List.getElem_mem hr, at_pos h0 (by simp [hr])⟩
theorem mem_cut {α : Type} {l : List α} {lo hi : Option Int} {d : α} {i : Nat} (h : (cut l lo hi)[i]? = some d) : d ∈ l := by
  have := List.mem_of_getElem? h
  unfold cut at this
  exact List.mem_of_mem_drop (List.mem_of_mem_take this)
theorem small_lit {i j : Int} (h : small i = true ∨ small j = true) : (small i || small j) = true := by simpa using h
theorem wp_nil (ρ : Rho) : wipe ρ [] = ρ := rfl
theorem wp_cons (ρ : Rho) (i : Nat) (r : List Nat) : wipe ρ (i :: r) = (wipe ρ r).set i none := rfl
theorem E0_f (c fs S) : E0.f c fs S = False := rfl
/-- what a call comes to, of its wish -/
theorem of_key {r : R} (key : @WR r ⟨fun d _ => d = .bl true⟩ E0) : ∃ S, r = .ok (.bl true) S := by
  cases r with
  | ok d S =>
    have e : d = .bl true := key
    exact ⟨S, by rw [e]⟩
  | ex c fs S => exact key.elim
  | st => exact key.elim
end Z
set_option maxHeartbeats 4000000
/-! Y3: texts -/
namespace Z
open PySem TL
section
variable (S : Sto) (C : Ev)
def chR (o : Option Nat) (S : Sto) : R := match o with
  | some c => .ok (.str ⟨#[c]⟩) S
  | none => .st
theorem chR_some (c : Nat) : chR (some c) S = .ok (.str ⟨#[c]⟩) S := rfl
theorem g_str (z : Str) (i : Int) : get C (.str z) (.int i) S = if z.length ≤ LINE then chR (L2.atI (tl z) i) S else .st := rfl
theorem sl_str (z : Str) (lo hi) : slc (.str z) lo hi S = if z.length ≤ LINE then .ok (.str (L2.cutS z lo hi)) S else .st := rfl
theorem in_sign (c : Nat) (b : Str) : cmpR .inn (.str ⟨#[c]⟩) (.str b) S = .ok (.bl (decide (c ∈ tl b))) S := by
  show R.ok (.bl (!(Builtin.Str.occurrences b ⟨#[c]⟩ 0 b.length 1).isEmpty)) S = _
  rw [StrLaws.found_one]
theorem nin_sign (c : Nat) (b : Str) : cmpR .nin (.str ⟨#[c]⟩) (.str b) S = .ok (.bl (!decide (c ∈ tl b))) S := by
  show R.ok (.bl (!!(Builtin.Str.occurrences b ⟨#[c]⟩ 0 b.length 1).isEmpty)) S = _
  rw [StrLaws.found_one]
theorem eq_sign (c : Nat) (b : Str) : decide ((⟨#[c]⟩ : Str) = b) = decide (tl b = [c]) := by
  rw [decide_eq_decide]
  refine ⟨fun h => by rw [← h], fun h => ?_⟩
  exact ext_tl (by rw [h])
theorem eq_tl {a b : Str} : decide (a = b) = decide (tl a = tl b) := by
  rw [decide_eq_decide]
  exact ⟨fun h => by rw [h], fun h => ext_tl h⟩
theorem cut_tl (z : Str) (i j : Nat) (h : i ≤ j) (hj : j ≤ z.length) : tl (L2.cutS z (some (i : Int)) (some (j : Int))) = ((tl z).drop i).take (j - i) := by
  unfold L2.cutS
  show ((tl z).drop _).take _ = _
  rw [HT.sIx_nat, HT.sIx_nat, Nat.min_eq_left hj, Nat.min_eq_left (Nat.le_trans h hj)]
theorem cut_to (z : Str) (j : Nat) : tl (L2.cutS z none (some (j : Int))) = (tl z).take j := by
  unfold L2.cutS
  show ((tl z).drop _).take _ = _
  rw [HT.sIx_nat, HT.sIx_none, List.drop_zero, Nat.sub_zero]
  by_cases h : j ≤ z.length
  · rw [Nat.min_eq_left h]
  · rw [Nat.min_eq_right (by omega), List.take_of_length_le (Nat.le_of_eq (len_tl z).symm), List.take_of_length_le (by rw [← len_tl]; omega)]
theorem dat_strs (n : Nat) : ∀ l : List Str, datL S (n + 1) (l.map D.str) = some (l.map PyData.str)
  | [] => rfl
  | x :: r => by rw [List.map_cons, dl_cons, dat_strs n r, d_str]; rfl
theorem pure_strs : ∀ l : List Str, D.pureL (l.map D.str) = true
  | [] => rfl
  | x :: r => by rw [List.map_cons, D.pureL, pure_strs r]; rfl
theorem lay_strs : ∀ l : List Str, (∀ x ∈ l, PyData.strOk x = true) → PyData.canLayAll0 (l.map PyData.str) = true ∧ PyData.depthAll (l.map PyData.str) = 0
  | [], _ => ⟨rfl, rfl⟩
  | x :: r, h => by
    have a := lay_strs r fun y hy => h y (by simp [hy])
    rw [List.map_cons, PyData.canLayAll0, PyData.depthAll, a.1, a.2, PyData.canLay0, h x (by simp)]
    exact ⟨rfl, rfl⟩
theorem str_ok {x : Str} (h : ∀ c ∈ tl x, c < 128) : PyData.strOk x = true := by
  unfold PyData.strOk
  first
    | (rw [← Array.all_toList, List.all_eq_true]; intro c hc; have := h c hc; simp; omega)

/-- is a list of texts empty -/
theorem eq_nil {m n : Nat} {l : List Str} {Q : KQ} {E : KE} (h1 : S[m]? = some (.lst (l.map D.str))) (h2 : S[n]? = some (.lst [])) (h3 : ∀ x ∈ l, PyData.strOk x = true) (q : Q.f (.bl (decide (l = []))) S) : @WR (cmpR .eq (.ref m) (.ref n) S) Q E := by
  have e1 : dat S DEEP (.ref m) = some (.list (l.map PyData.str)) := by
    unfold DEEP
    rw [d_ref, h1, datRd_some, dat_strs, lstP_some]
  have e2 : dat S DEEP (.ref n) = some (.list []) := by
    unfold DEEP
    rw [d_ref, h2, datRd_some, dl_nil, lstP_some]
  refine cmp_w ?_ q
  show eqD S (.ref m) (.ref n) = _
  unfold eqD
  simp only [e1, e2]
  have s1 : SeqAt.shaped (.list (l.map PyData.str)) = true := by
    have a := lay_strs l h3
    unfold SeqAt.shaped
    rw [PyData.canLay0, PyData.depth, a.1, a.2]
    rfl
  have s2 : SeqAt.shaped (.list []) = true := by kernel_rfl
  rw [s1, s2]
  simp only [Bool.and_self, if_true, Option.some.injEq]
  cases l with
  | nil => simp [PyData.eqv, PyData.eqvAll]
  | cons x r => simp [PyData.eqv, PyData.eqvAll]
theorem in_strs {m : Nat} {x : Str} {l : List Str} {b : Bool} {Q : KQ} {E : KE} (h : S[m]? = some (.lst (l.map D.str))) (hb : l.contains x = b) (q : Q.f (.bl b) S) : @WR (cmpR .inn (.str x) (.ref m) S) Q E := by
  refine cmp_w ?_ q
  show inD S (.str x) (.ref m) = _
  have := inD_strs S x l
  unfold inD at this ⊢
  simp only [lstOf, Option.bind_some] at this ⊢
  rw [rd_lst S m _ h, Option.bind_some, this, hb]
theorem nin_strs {m : Nat} {x : Str} {l : List Str} {b : Bool} {Q : KQ} {E : KE} (h : S[m]? = some (.lst (l.map D.str))) (hb : l.contains x = b) (q : Q.f (.bl (!b)) S) : @WR (cmpR .nin (.str x) (.ref m) S) Q E := by
  refine cmp_w ?_ q
  show (inD S (.str x) (.ref m)).map (!·) = _
  have := inD_strs S x l
  unfold inD at this ⊢
  simp only [lstOf, Option.bind_some] at this ⊢
  rw [rd_lst S m _ h, Option.bind_some, this, hb]
  rfl
end
/-- a list is told by what it holds, wherever it stands -/
theorem w_gcx {S S' : Sto} {m : Nat} {ds : List D} {Q : KQ} {E : KE} {P : Sto → Prop} (hm : S.length ≤ m) (hl : S'[m]? = some (.lst ds)) (h1 : P S') (h2 : S'.take S.length = S → P (S ++ [.lst ds])) (q : ∀ m' S'', S.length ≤ m' → S''[m']? = some (.lst ds) → P S'' → Q.f (.ref m') S'') : @WR (gc S (.ref m) S') Q E := by
  unfold gc
  rw [if_neg (show ¬ (D.ref m).pure = true by simp [D.pure])]
  simp only [if_pos hm, hl]
  split
  · rename_i he
    split
    · exact q _ _ (Nat.le_refl _) (by rw [lk_app0]; rfl) (h2 (eqS_eq he))
    · exact q m S' hm hl h1
  · exact q m S' hm hl h1
end Z
set_option maxHeartbeats 4000000
namespace K03
open PySem Z

def f_is_name_form : FD := ⟨["value", "sign"], 1, [],
  (.cons (.iff (.or (.not (.isi (.v 0) [.str])) (.or (.not (.chain .le .le (.k (.int 1)) (.bi .len (.cons (.v 0) (.nil))) (.g "MOST_LETTERS"))) (.cmp .inn (.v 0) (.g "KEY_WORDS"))))
    (.cons (.ret (.k (.bl false))) (.nil))
    (.nil)) (
  .cons (.ret (.bi .all (.cons (.lc [("sign", 1)] (.v 1) .seq (.cons (.v 0) (.nil)) (.k (.bl true)) (.cmp .inn (.v 1) (.g "LETTERS"))) (.nil)))) (.nil)))⟩
def f_end_of_run : FD := ⟨["text", "at", "some"], 3, [],
  (.cons (.whl (.and (.cmp .lt (.v 1) (.bi .len (.cons (.v 0) (.nil)))) (.cmp .inn (.idx (.v 0) (.v 1)) (.v 2)))
    (.cons (.set (.v 1) (.bin .add (.v 1) (.k (.int 1)))) (.nil))) (
  .cons (.ret (.v 1)) (.nil)))⟩
def f_is_number_sign : FD := ⟨["word"], 1, [],
  (.cons (.iff (.cmp .eq (.idx (.v 0) (.k (.int 0))) (.k (.str "0")))
    (.cons (.ret (.cmp .eq (.v 0) (.k (.str "0")))) (.nil))
    (.nil)) (
  .cons (.ret (.and (.cmp .le (.bi .len (.cons (.v 0) (.nil))) (.bi .len (.cons (.bi .str (.cons (.g "MOST_WORD") (.nil))) (.nil)))) (.cmp .le (.bi .int (.cons (.v 0) (.nil))) (.g "MOST_WORD")))) (.nil)))⟩
def f_sign_from : FD := ⟨["text", "at", "first", "word"], 2, [],
  (.cons (.set (.v 2) (.idx (.v 0) (.v 1))) (
  .cons (.iff (.cmp .inn (.v 2) (.g "LETTERS"))
    (.cons (.set (.v 3) (.sl (.v 0) (.so (.v 1)) (.so (.call "end_of_run" (.cons (.v 0) (.cons (.v 1) (.cons (.g "LETTERS") (.nil)))))))) (
    .cons (.ret (.ife (.cmp .le (.bi .len (.cons (.v 3) (.nil))) (.g "MOST_LETTERS")) (.lst (.cons (.v 3) (.nil))) (.lst (.nil)))) (.nil)))
    (.nil)) (
  .cons (.iff (.cmp .inn (.v 2) (.g "FIGURES"))
    (.cons (.set (.v 3) (.sl (.v 0) (.so (.v 1)) (.so (.call "end_of_run" (.cons (.v 0) (.cons (.v 1) (.cons (.g "FIGURES") (.nil)))))))) (
    .cons (.ret (.ife (.call "is_number_sign" (.cons (.v 3) (.nil))) (.lst (.cons (.v 3) (.nil))) (.lst (.nil)))) (.nil)))
    (.nil)) (
  .cons (.ret (.ife (.cmp .inn (.v 2) (.g "SINGLE")) (.lst (.cons (.v 2) (.nil))) (.lst (.nil)))) (.nil)))))⟩
def f_signs_in : FD := ⟨["text", "found", "at", "some"], 1, [],
  (.cons (.par 1 2 (.lst (.nil)) (.k (.int 0))) (
  .cons (.whl (.cmp .lt (.v 2) (.bi .len (.cons (.v 0) (.nil))))
    (.cons (.iff (.cmp .inn (.idx (.v 0) (.v 2)) (.g "PARTING"))
      (.cons (.set (.v 2) (.bin .add (.v 2) (.k (.int 1)))) (
      .cons (.cnt) (.nil)))
      (.nil)) (
    .cons (.set (.v 3) (.call "sign_from" (.cons (.v 0) (.cons (.v 2) (.nil))))) (
    .cons (.iff (.cmp .eq (.v 3) (.lst (.nil)))
      (.cons (.ret (.tup (.cons (.bi .tuple (.cons (.v 1) (.nil))) (.cons (.k (.bl false)) (.nil))))) (.nil))
      (.nil)) (
    .cons (.ex (.bm .append (.v 1) (.cons (.idx (.v 3) (.k (.int 0))) (.nil)))) (
    .cons (.set (.v 2) (.bin .add (.v 2) (.bi .len (.cons (.idx (.v 3) (.k (.int 0))) (.nil))))) (.nil))))))) (
  .cons (.ret (.tup (.cons (.bi .tuple (.cons (.v 1) (.nil))) (.cons (.k (.bl true)) (.nil))))) (.nil))))⟩
def f_signs : FD := ⟨["text", "found", "is_whole"], 1, [],
  (.cons (.iff (.not (.isi (.v 0) [.str]))
    (.cons (.rai "InvalidText" (.cons (.v 0) (.nil))) (.nil))
    (.nil)) (
  .cons (.set (.tp (.cons (.v 1) (.cons (.v 2) (.nil)))) (.call "signs_in" (.cons (.v 0) (.nil)))) (
  .cons (.iff (.not (.v 2))
    (.cons (.rai "Unread" (.cons (.bi .len (.cons (.v 1) (.nil))) (.nil))) (.nil))
    (.nil)) (
  .cons (.ret (.v 1)) (.nil)))))⟩
def f_is_name : FD := ⟨["value"], 1, [],
  (.cons (.ret (.call "is_name_form" (.cons (.v 0) (.nil)))) (.nil))⟩
def f__law_pail : FD := ⟨["script", "turn", "mixed", "cell", "own"], 2, [],
  (.cons (.set (.v 2) (.bin .add (.k (.int 1731697)) (.bin .mul (.k (.int 11003)) (.v 1)))) (
  .cons (.for (.v 3) .seq (.cons (.sl (.v 0) .no (.so (.k (.int 12)))) (.nil))
    (.cons (.set (.v 2) (.bin .mod (.bi .int (.cons (.bin .add (.bin .add (.bin .mul (.v 2) (.k (.int 65071))) (.bin .mul (.bin .mod (.bi .int (.cons (.v 3) (.nil))) (.k (.int 2147483423))) (.k (.int 17)))) (.k (.int 5))) (.nil))) (.k (.int 2147483423)))) (.nil))) (
  .cons (.set (.v 4) (.ife (.cmp .lt (.v 1) (.bi .len (.cons (.v 0) (.nil)))) (.bi .int (.cons (.idx (.v 0) (.v 1)) (.nil))) (.k (.int 0)))) (
  .cons (.set (.v 2) (.bin .mod (.bi .int (.cons (.bin .add (.bin .add (.bin .mul (.v 2) (.k (.int 61))) (.bin .mul (.bin .mod (.bi .int (.cons (.v 4) (.nil))) (.k (.int 2147483423))) (.k (.int 30011)))) (.k (.int 7))) (.nil))) (.k (.int 2147483423)))) (
  .cons (.ret (.lst (.cons (.ife (.or (.cmp .lt (.v 4) (.k (.int 0))) (.cmp .ge (.v 4) (.bin .pow (.k (.int 10)) (.k (.int 15))))) (.bi .abs (.cons (.v 4) (.nil))) (.k (.int 0))) (.cons (.v 2) (.cons (.k (.int 0)) (.nil)))))) (.nil))))))⟩
def f__law_deal : FD := ⟨["pail", "top", "mixed", "figure"], 2, [],
  (.cons (.iff (.cmp .gt (.idx (.v 0) (.k (.int 0))) (.k (.int 0)))
    (.cons (.set (.tp (.cons (.ix (.v 0) (.k (.int 0))) (.cons (.v 3) (.nil)))) (.bi .divmod (.cons (.idx (.v 0) (.k (.int 0))) (.cons (.v 1) (.nil))))) (
    .cons (.ret (.v 3)) (.nil)))
    (.nil)) (
  .cons (.set (.ix (.v 0) (.k (.int 2))) (.bin .add (.idx (.v 0) (.k (.int 2))) (.k (.int 1)))) (
  .cons (.set (.v 2) (.bin .mod (.bi .int (.cons (.bin .add (.bin .mul (.idx (.v 0) (.k (.int 1))) (.k (.int 15511))) (.bin .mul (.k (.int 11903)) (.idx (.v 0) (.k (.int 2))))) (.nil))) (.k (.int 2147483423)))) (
  .cons (.set (.ix (.v 0) (.k (.int 1))) (.bin .mod (.bi .int (.cons (.bin .add (.bin .mul (.v 2) (.bin .add (.bin .mod (.bi .int (.cons (.v 2) (.nil))) (.k (.int 5147))) (.k (.int 30011)))) (.bin .mul (.k (.int 31)) (.idx (.v 0) (.k (.int 2))))) (.nil))) (.k (.int 2147483423)))) (
  .cons (.ret (.bin .mod (.bi .int (.cons (.bin .fdiv (.idx (.v 0) (.k (.int 1))) (.k (.int 349))) (.nil))) (.v 1))) (.nil))))))⟩
def f__law_any : FD := ⟨["pail", "some"], 2, [],
  (.cons (.ret (.idx (.v 1) (.call "_law_deal" (.cons (.v 0) (.cons (.bi .len (.cons (.v 1) (.nil))) (.nil)))))) (.nil))⟩
def f__law_key_words : FD := ⟨[], 0, [],
  (.cons (.ret (.bm .split (.k (.str "deed do else give if let more read row while write")) (.cons (.k (.str " ")) (.nil)))) (.nil))⟩
def f__law_names : FD := ⟨["pail", "many", "place", "letters", "found", "word", "turn", "near", "sign", "each"], 2, [],
  (.cons (.set (.tp (.cons (.v 3) (.cons (.v 4) (.nil)))) (.tup (.cons (.k (.str "abcdefghijklmnopqrstuvwxyz")) (.cons (.lst (.nil)) (.nil))))) (
  .cons (.for (.v 2) .range (.cons (.v 1) (.nil))
    (.cons (.set (.v 5) (.k (.str ""))) (
    .cons (.for (.v 6) .range (.cons (.call "_law_any" (.cons (.v 0) (.cons (.lst (.cons (.k (.int 1)) (.cons (.k (.int 1)) (.cons (.k (.int 2)) (.cons (.k (.int 3)) (.cons (.k (.int 6)) (.nil))))))) (.nil)))) (.nil))
      (.cons (.set (.v 5) (.bin .add (.v 5) (.call "_law_any" (.cons (.v 0) (.cons (.v 3) (.nil)))))) (.nil))) (
    .cons (.set (.v 7) (.bin .add (.lst (.cons (.v 5) (.nil))) (.lc [("sign", 8)] (.v 8) .seq (.cons (.v 3) (.nil)) (.k (.bl true)) (.bin .add (.bin .add (.sl (.v 5) .no (.so (.k (.int 5)))) (.idx (.v 3) (.bin .mod (.v 2) (.k (.int 26))))) (.v 8))))) (
    .cons (.ex (.bm .append (.v 4) (.cons (.idx (.lc [("each", 9)] (.v 9) .seq (.cons (.v 7) (.nil)) (.and (.cmp .nin (.v 9) (.v 4)) (.cmp .nin (.v 9) (.call "_law_key_words" (.nil)))) (.v 9)) (.k (.int 0))) (.nil)))) (.nil)))))) (
  .cons (.ret (.v 4)) (.nil))))⟩
def f__law_respaced : FD := ⟨["pail", "marks", "found", "k", "is_run"], 2, [],
  (.cons (.set (.v 2) (.call "_law_any" (.cons (.v 0) (.cons (.lst (.cons (.k (.str "")) (.cons (.k (.str " ")) (.cons (.k (.str "\n")) (.nil))))) (.nil))))) (
  .cons (.for (.v 3) .range (.cons (.bi .len (.cons (.v 1) (.nil))) (.nil))
    (.cons (.set (.v 4) (.and (.cmp .gt (.v 3) (.k (.int 0))) (.bm .isalnum (.bin .add (.idx (.v 1) (.bin .sub (.v 3) (.k (.int 1)))) (.idx (.v 1) (.v 3))) (.nil)))) (
    .cons (.set (.v 2) (.bin .add (.bin .add (.v 2) (.call "_law_any" (.cons (.v 0) (.cons (.ife (.v 4) (.lst (.cons (.k (.str " ")) (.cons (.k (.str "\n")) (.cons (.k (.str "  ")) (.nil))))) (.lst (.cons (.k (.str "")) (.cons (.k (.str "")) (.cons (.k (.str " ")) (.cons (.k (.str "\n")) (.nil))))))) (.nil))))) (.idx (.v 1) (.v 3)))) (.nil)))) (
  .cons (.ret (.bin .add (.v 2) (.call "_law_any" (.cons (.v 0) (.cons (.lst (.cons (.k (.str "")) (.cons (.k (.str " ")) (.cons (.k (.str "\n")) (.nil))))) (.nil)))))) (.nil))))⟩
def f__law_is_name : FD := ⟨["value", "sign"], 1, [],
  (.cons (.iff (.or (.not (.isi (.v 0) [.str])) (.or (.not (.chain .le .le (.k (.int 1)) (.bi .len (.cons (.v 0) (.nil))) (.k (.int 8)))) (.cmp .inn (.v 0) (.call "_law_key_words" (.nil)))))
    (.cons (.ret (.k (.bl false))) (.nil))
    (.nil)) (
  .cons (.ret (.cmp .eq (.lc [("sign", 1)] (.v 1) .seq (.cons (.v 0) (.nil)) (.cmp .nin (.v 1) (.k (.str "abcdefghijklmnopqrstuvwxyz"))) (.v 1)) (.lst (.nil)))) (.nil)))⟩
def f__law_one_sign : FD := ⟨["pail", "way"], 1, [],
  (.cons (.set (.v 1) (.call "_law_deal" (.cons (.v 0) (.cons (.k (.int 4)) (.nil))))) (
  .cons (.iff (.cmp .eq (.v 1) (.k (.int 0)))
    (.cons (.ret (.idx (.call "_law_names" (.cons (.v 0) (.cons (.k (.int 1)) (.nil)))) (.k (.int 0)))) (.nil))
    (.nil)) (
  .cons (.iff (.cmp .eq (.v 1) (.k (.int 1)))
    (.cons (.ret (.call "_law_any" (.cons (.v 0) (.cons (.call "_law_key_words" (.nil)) (.nil))))) (.nil))
    (.nil)) (
  .cons (.iff (.cmp .eq (.v 1) (.k (.int 2)))
    (.cons (.ret (.bi .str (.cons (.call "_law_any" (.cons (.v 0) (.cons (.lst (.cons (.k (.int 0)) (.cons (.k (.int 1)) (.cons (.k (.int 7)) (.cons (.k (.int 10)) (.cons (.k (.int 65535)) (.cons (.call "_law_deal" (.cons (.v 0) (.cons (.k (.int 65536)) (.nil)))) (.nil)))))))) (.nil)))) (.nil)))) (.nil))
    (.nil)) (
  .cons (.ret (.call "_law_any" (.cons (.v 0) (.cons (.k (.str "()[]{}=,+-*/~<")) (.nil))))) (.nil))))))⟩
def f__law_right : FD := ⟨["pail", "lap", "odd", "row", "text", "some", "at", "bad", "value", "due", "turn"], 1, [],
  (.cons (.for (.v 1) .range (.cons (.k (.int 10)) (.nil))
    (.cons (.set (.v 3) (.lc [("turn", 10)] (.v 10) .range (.cons (.call "_law_deal" (.cons (.v 0) (.cons (.k (.int 12)) (.nil)))) (.nil)) (.k (.bl true)) (.call "_law_one_sign" (.cons (.v 0) (.nil))))) (
    .cons (.set (.v 4) (.call "_law_respaced" (.cons (.v 0) (.cons (.v 3) (.nil))))) (
    .cons (.iff (.cmp .ne (.bi .repr (.cons (.lst (.cons (.call "signs" (.cons (.v 4) (.nil))) (.cons (.callk "signs" (.nil) ["text"] (.cons (.v 4) (.nil))) (.nil)))) (.nil))) (.bi .repr (.cons (.lst (.cons (.bi .tuple (.cons (.v 3) (.nil))) (.cons (.bi .tuple (.cons (.v 3) (.nil))) (.nil)))) (.nil))))
      (.cons (.ret (.k (.bl false))) (.nil))
      (.nil)) (
    .cons (.set (.v 5) (.tup (.cons (.k (.str "007")) (.cons (.k (.str "00")) (.cons (.k (.str "01")) (.cons (.k (.str "65536")) (.cons (.k (.str "99999")) (.cons (.k (.str "abcdefghi")) (.cons (.k (.str "deedwrite")) (.cons (.k (.str "?")) (.cons (.k (.str "A")) (.cons (.k (.str "_")) (.cons (.k (.str ".")) (.cons (.k (.str "a;")) (.cons (.k (.str "\"")) (.cons (.k (.str ">")) (.nil))))))))))))))))) (
    .cons (.set (.v 2) (.call "_law_any" (.cons (.v 0) (.cons (.v 5) (.nil))))) (
    .cons (.set (.v 6) (.bin .add (.bi .len (.cons (.v 3) (.nil))) (.ife (.cmp .eq (.v 2) (.k (.str "a;"))) (.k (.int 1)) (.k (.int 0))))) (
    .cons (.set (.v 7) (.bin .add (.bin .add (.bin .add (.v 4) (.k (.str " "))) (.v 2)) (.call "_law_any" (.cons (.v 0) (.cons (.tup (.cons (.k (.str "")) (.cons (.k (.str " ")) (.cons (.k (.str " x")) (.cons (.k (.str "(")) (.nil)))))) (.nil)))))) (
    .cons (.iff (.cmp .ne (.bi .repr (.cons (.told "_law_told" (.callk "signs" (.nil) ["text"] (.cons (.v 7) (.nil)))) (.nil))) (.bi .repr (.cons (.lst (.cons (.k (.str "unread")) (.cons (.v 6) (.nil)))) (.nil))))
      (.cons (.ret (.k (.bl false))) (.nil))
      (.nil)) (
    .cons (.set (.v 5) (.lst (.cons (.k (.str "")) (.cons (.k (.str "abcdefghi")) (.cons (.k (.str "aB")) (.cons (.k (.str "a1")) (.cons (.k (.str "a b")) (.cons (.k .non) (.cons (.k (.int 5)) (.cons (.tup (.cons (.k (.str "a")) (.nil))) (.cons (.k (.str "abcdefgh")) (.nil)))))))))))) (
    .cons (.set (.v 8) (.call "_law_any" (.cons (.v 0) (.cons (.bin .add (.bin .add (.v 5) (.call "_law_names" (.cons (.v 0) (.cons (.k (.int 1)) (.nil))))) (.call "_law_key_words" (.nil))) (.nil))))) (
    .cons (.set (.v 9) (.call "_law_is_name" (.cons (.v 8) (.nil)))) (
    .cons (.iff (.cmp .ne (.bi .repr (.cons (.lst (.cons (.call "is_name" (.cons (.v 8) (.nil))) (.cons (.callk "is_name" (.nil) ["value"] (.cons (.v 8) (.nil))) (.nil)))) (.nil))) (.bi .repr (.cons (.lst (.cons (.v 9) (.cons (.v 9) (.nil)))) (.nil))))
      (.cons (.ret (.k (.bl false))) (.nil))
      (.nil)) (.nil)))))))))))))) (
  .cons (.for (.v 2) .seq (.cons (.tup (.cons (.k .non) (.cons (.k (.int 5)) (.cons (.tup (.nil)) (.cons (.lst (.cons (.k (.str "a")) (.nil))) (.cons (.k (.bl true)) (.nil))))))) (.nil))
    (.cons (.iff (.cmp .ne (.bi .repr (.cons (.told "_law_told" (.call "signs" (.cons (.v 2) (.nil)))) (.nil))) (.bi .repr (.cons (.lst (.cons (.k (.str "text")) (.cons (.v 2) (.nil)))) (.nil))))
      (.cons (.ret (.k (.bl false))) (.nil))
      (.nil)) (.nil))) (
  .cons (.ret (.cmp .eq (.call "signs" (.cons (.k (.str "3x40y(")) (.nil))) (.tup (.cons (.k (.str "3")) (.cons (.k (.str "x")) (.cons (.k (.str "40")) (.cons (.k (.str "y")) (.cons (.k (.str "(")) (.nil))))))))) (.nil))))⟩
def f_law : FD := ⟨["script", "turn"], 1, [],
  (.cons (.ret (.bi .all (.cons (.lc [("turn", 1)] (.v 1) .range (.cons (.bi .max (.cons (.k (.int 1)) (.cons (.bi .min (.cons (.bi .len (.cons (.v 0) (.nil))) (.cons (.k (.int 3)) (.nil)))) (.nil)))) (.nil)) (.k (.bl true)) (.call "_law_right" (.cons (.call "_law_pail" (.cons (.v 0) (.cons (.v 1) (.nil)))) (.nil)))) (.nil)))) (.nil))⟩
def pg : Pg := {
  fs := [(("", "is_name_form"), f_is_name_form),
    (("", "end_of_run"), f_end_of_run),
    (("", "is_number_sign"), f_is_number_sign),
    (("", "sign_from"), f_sign_from),
    (("", "signs_in"), f_signs_in),
    (("", "signs"), f_signs),
    (("", "is_name"), f_is_name),
    (("", "_law_pail"), f__law_pail),
    (("", "_law_deal"), f__law_deal),
    (("", "_law_any"), f__law_any),
    (("", "_law_key_words"), f__law_key_words),
    (("", "_law_names"), f__law_names),
    (("", "_law_respaced"), f__law_respaced),
    (("", "_law_is_name"), f__law_is_name),
    (("", "_law_one_sign"), f__law_one_sign),
    (("", "_law_right"), f__law_right),
    (("", "law"), f_law)],
  gt := [("MOST_WORD", .int 65535),
    ("MOST_LETTERS", .int 8),
    ("LETTERS", .str "abcdefghijklmnopqrstuvwxyz"),
    ("KEY_WORDS", .tup [.str "deed", .str "do", .str "else", .str "give", .str "if", .str "let", .str "more", .str "read", .str "row", .str "while", .str "write"]),
    ("FIGURES", .str "0123456789"),
    ("SINGLE", .str "()[]{},=+-*/~<"),
    ("PARTING", .str " \n"),
    ("is_name_form", .fn "is_name_form"),
    ("end_of_run", .fn "end_of_run"),
    ("is_number_sign", .fn "is_number_sign"),
    ("sign_from", .fn "sign_from"),
    ("signs_in", .fn "signs_in"),
    ("signs", .fn "signs"),
    ("is_name", .fn "is_name"),
    ("_law_pail", .fn "_law_pail"),
    ("_law_deal", .fn "_law_deal"),
    ("_law_any", .fn "_law_any"),
    ("_law_key_words", .fn "_law_key_words"),
    ("_law_names", .fn "_law_names"),
    ("_law_respaced", .fn "_law_respaced"),
    ("_law_is_name", .fn "_law_is_name"),
    ("_law_one_sign", .fn "_law_one_sign"),
    ("_law_told", .fn "_law_told"),
    ("_law_right", .fn "_law_right"),
    ("law", .fn "law")],
  gd := [],
  xf := [("InvalidText", "given"), ("Unread", "place")],
  xm := [(("InvalidText", "Unread"), false), (("InvalidText", "InvalidText"), true), (("Unread", "Unread"), true), (("Unread", "InvalidText"), false)],
  td := [("_law_told", ⟨some "told", [("Unread", [.s "unread", .f "place"]), ("InvalidText", [.s "text", .f "given"])]⟩)] }
theorem lk_is_name_form : pg.fs.lookup ((Str.empty : Str), ("is_name_form" : Str)) = some f_is_name_form := by kernel_rfl
theorem fn_is_name_form (k : Nat) : (evAt pg k).fn Str.empty "is_name_form" = true := by rw [ev_fn]; simp only [lk_is_name_form, Option.isSome_some]
theorem lk_end_of_run : pg.fs.lookup ((Str.empty : Str), ("end_of_run" : Str)) = some f_end_of_run := by kernel_rfl
theorem fn_end_of_run (k : Nat) : (evAt pg k).fn Str.empty "end_of_run" = true := by rw [ev_fn]; simp only [lk_end_of_run, Option.isSome_some]
theorem lk_is_number_sign : pg.fs.lookup ((Str.empty : Str), ("is_number_sign" : Str)) = some f_is_number_sign := by kernel_rfl
theorem fn_is_number_sign (k : Nat) : (evAt pg k).fn Str.empty "is_number_sign" = true := by rw [ev_fn]; simp only [lk_is_number_sign, Option.isSome_some]
theorem lk_sign_from : pg.fs.lookup ((Str.empty : Str), ("sign_from" : Str)) = some f_sign_from := by kernel_rfl
theorem fn_sign_from (k : Nat) : (evAt pg k).fn Str.empty "sign_from" = true := by rw [ev_fn]; simp only [lk_sign_from, Option.isSome_some]
theorem lk_signs_in : pg.fs.lookup ((Str.empty : Str), ("signs_in" : Str)) = some f_signs_in := by kernel_rfl
theorem fn_signs_in (k : Nat) : (evAt pg k).fn Str.empty "signs_in" = true := by rw [ev_fn]; simp only [lk_signs_in, Option.isSome_some]
theorem lk_signs : pg.fs.lookup ((Str.empty : Str), ("signs" : Str)) = some f_signs := by kernel_rfl
theorem fn_signs (k : Nat) : (evAt pg k).fn Str.empty "signs" = true := by rw [ev_fn]; simp only [lk_signs, Option.isSome_some]
theorem lk_is_name : pg.fs.lookup ((Str.empty : Str), ("is_name" : Str)) = some f_is_name := by kernel_rfl
theorem fn_is_name (k : Nat) : (evAt pg k).fn Str.empty "is_name" = true := by rw [ev_fn]; simp only [lk_is_name, Option.isSome_some]
theorem lk__law_pail : pg.fs.lookup ((Str.empty : Str), ("_law_pail" : Str)) = some f__law_pail := by kernel_rfl
theorem fn__law_pail (k : Nat) : (evAt pg k).fn Str.empty "_law_pail" = true := by rw [ev_fn]; simp only [lk__law_pail, Option.isSome_some]
theorem lk__law_deal : pg.fs.lookup ((Str.empty : Str), ("_law_deal" : Str)) = some f__law_deal := by kernel_rfl
theorem fn__law_deal (k : Nat) : (evAt pg k).fn Str.empty "_law_deal" = true := by rw [ev_fn]; simp only [lk__law_deal, Option.isSome_some]
theorem lk__law_any : pg.fs.lookup ((Str.empty : Str), ("_law_any" : Str)) = some f__law_any := by kernel_rfl
theorem fn__law_any (k : Nat) : (evAt pg k).fn Str.empty "_law_any" = true := by rw [ev_fn]; simp only [lk__law_any, Option.isSome_some]
theorem lk__law_key_words : pg.fs.lookup ((Str.empty : Str), ("_law_key_words" : Str)) = some f__law_key_words := by kernel_rfl
theorem fn__law_key_words (k : Nat) : (evAt pg k).fn Str.empty "_law_key_words" = true := by rw [ev_fn]; simp only [lk__law_key_words, Option.isSome_some]
theorem lk__law_names : pg.fs.lookup ((Str.empty : Str), ("_law_names" : Str)) = some f__law_names := by kernel_rfl
theorem fn__law_names (k : Nat) : (evAt pg k).fn Str.empty "_law_names" = true := by rw [ev_fn]; simp only [lk__law_names, Option.isSome_some]
theorem lk__law_respaced : pg.fs.lookup ((Str.empty : Str), ("_law_respaced" : Str)) = some f__law_respaced := by kernel_rfl
theorem fn__law_respaced (k : Nat) : (evAt pg k).fn Str.empty "_law_respaced" = true := by rw [ev_fn]; simp only [lk__law_respaced, Option.isSome_some]
theorem lk__law_is_name : pg.fs.lookup ((Str.empty : Str), ("_law_is_name" : Str)) = some f__law_is_name := by kernel_rfl
theorem fn__law_is_name (k : Nat) : (evAt pg k).fn Str.empty "_law_is_name" = true := by rw [ev_fn]; simp only [lk__law_is_name, Option.isSome_some]
theorem lk__law_one_sign : pg.fs.lookup ((Str.empty : Str), ("_law_one_sign" : Str)) = some f__law_one_sign := by kernel_rfl
theorem fn__law_one_sign (k : Nat) : (evAt pg k).fn Str.empty "_law_one_sign" = true := by rw [ev_fn]; simp only [lk__law_one_sign, Option.isSome_some]
theorem lk__law_right : pg.fs.lookup ((Str.empty : Str), ("_law_right" : Str)) = some f__law_right := by kernel_rfl
theorem fn__law_right (k : Nat) : (evAt pg k).fn Str.empty "_law_right" = true := by rw [ev_fn]; simp only [lk__law_right, Option.isSome_some]
theorem lk_law : pg.fs.lookup ((Str.empty : Str), ("law" : Str)) = some f_law := by kernel_rfl
theorem fn_law (k : Nat) : (evAt pg k).fn Str.empty "law" = true := by rw [ev_fn]; simp only [lk_law, Option.isSome_some]
theorem gt_MOST_WORD (k : Nat) : (evAt pg k).gt "MOST_WORD" = some (.int 65535) := by rw [ev_gt]; kernel_rfl
theorem gt_MOST_LETTERS (k : Nat) : (evAt pg k).gt "MOST_LETTERS" = some (.int 8) := by rw [ev_gt]; kernel_rfl
theorem gt_LETTERS (k : Nat) : (evAt pg k).gt "LETTERS" = some (.str "abcdefghijklmnopqrstuvwxyz") := by rw [ev_gt]; kernel_rfl
theorem gt_KEY_WORDS (k : Nat) : (evAt pg k).gt "KEY_WORDS" = some (.tup [.str "deed", .str "do", .str "else", .str "give", .str "if", .str "let", .str "more", .str "read", .str "row", .str "while", .str "write"]) := by rw [ev_gt]; kernel_rfl
theorem gt_FIGURES (k : Nat) : (evAt pg k).gt "FIGURES" = some (.str "0123456789") := by rw [ev_gt]; kernel_rfl
theorem gt_SINGLE (k : Nat) : (evAt pg k).gt "SINGLE" = some (.str "()[]{},=+-*/~<") := by rw [ev_gt]; kernel_rfl
theorem gt_PARTING (k : Nat) : (evAt pg k).gt "PARTING" = some (.str " \n") := by rw [ev_gt]; kernel_rfl
theorem td__law_told (k : Nat) : (evAt pg k).td "_law_told" = some ⟨some "told", [("Unread", [.s "unread", .f "place"]), ("InvalidText", [.s "text", .f "given"])]⟩ := by rw [ev_td]; kernel_rfl
theorem xf_InvalidText (k : Nat) : (evAt pg (k + 1)).xf "InvalidText" = some "given" := by rw [ev_xf]; kernel_rfl
theorem xf_Unread (k : Nat) : (evAt pg (k + 1)).xf "Unread" = some "place" := by rw [ev_xf]; kernel_rfl
theorem xm_InvalidText_Unread (k : Nat) : (evAt pg k).xm "InvalidText" "Unread" = some false := by rw [ev_xm]; kernel_rfl
theorem xm_InvalidText_InvalidText (k : Nat) : (evAt pg k).xm "InvalidText" "InvalidText" = some true := by rw [ev_xm]; kernel_rfl
theorem xm_Unread_Unread (k : Nat) : (evAt pg k).xm "Unread" "Unread" = some true := by rw [ev_xm]; kernel_rfl
theorem xm_Unread_InvalidText (k : Nat) : (evAt pg k).xm "Unread" "InvalidText" = some false := by rw [ev_xm]; kernel_rfl
theorem told__law_told (k : Nat) (ρ : Rho) (S : Sto) (Q : KQ) (E : KE) (b : Z.E) : @WR (evE (evAt pg k) (.told "_law_told" b) ρ S) Q E = @WR ((evAt pg k).low b ρ S) ⟨fun d S => @WR (tellOk (some "told") d S) Q E⟩ ⟨fun c fs S => @WR (tellEx (evAt pg k).xm [("Unread", [.s "unread", .f "place"]), ("InvalidText", [.s "text", .f "given"])] c fs S) Q E⟩ := by rw [E_told _ _ _ _ _ _ _ _ (td__law_told k)]
theorem tell__law_told_InvalidText (k : Nat) (d : D) (S : Sto) : tellEx (evAt pg k).xm [("Unread", [.s "unread", .f "place"]), ("InvalidText", [.s "text", .f "given"])] "InvalidText" [("given", d)] S = .ok (.ref S.length) (S ++ [.lst [.str "text", d]]) := tellEx_of (its := [.s "text", .f "given"]) S (by simp only [pickZ, xm_InvalidText_Unread, xm_InvalidText_InvalidText]) (by simp [itemsZ]) (by simp)
theorem tell__law_told_Unread (k : Nat) (d : D) (S : Sto) : tellEx (evAt pg k).xm [("Unread", [.s "unread", .f "place"]), ("InvalidText", [.s "text", .f "given"])] "Unread" [("place", d)] S = .ok (.ref S.length) (S ++ [.lst [.str "unread", d]]) := tellEx_of (its := [.s "unread", .f "place"]) S (by simp only [pickZ, xm_Unread_Unread, xm_Unread_InvalidText]) (by simp [itemsZ]) (by simp)
def names : List Str := (["MadeError", "InvalidText", "Unread", "MOST_WORD", "MOST_LETTERS", "LETTERS", "KEY_WORDS", "is_name_form", "FIGURES", "SINGLE", "PARTING", "end_of_run", "is_number_sign", "sign_from", "signs_in", "signs", "is_name", "_law_pail", "_law_deal", "_law_any", "_law_key_words", "_law_names", "_law_respaced", "_law_is_name", "_law_one_sign", "_law_told", "_law_right"] : List Str)
def lawAt : Nat := 32
end K03
set_option maxHeartbeats 4000000
/-! signs of texts, on lists of code points -/
namespace Lex
open PySem Z
def low (c : Nat) : Bool := decide (97 ≤ c) && decide (c ≤ 122)
def fig (c : Nat) : Bool := decide (48 ≤ c) && decide (c ≤ 57)
def sgl (c : Nat) : Bool := ([40, 41, 91, 93, 123, 125, 44, 61, 43, 45, 42, 47, 126, 60] : List Nat).contains c
def prt (c : Nat) : Bool := c == 32 || c == 10
def numSign (w : List Nat) : Bool := if w.head? = some 48 then w == [48] else decide (w.length ≤ 5) && decide (NumText.digitsVal w ≤ 65535)
def signFrom (l : List Nat) : Option (List Nat) := match l with
  | [] => none
  | c :: r => if low c then (if ((c :: r).takeWhile low).length ≤ 8 then some ((c :: r).takeWhile low) else none)
    else if fig c then (if numSign ((c :: r).takeWhile fig) then some ((c :: r).takeWhile fig) else none)
    else if sgl c then some [c] else none
def lexF : Nat → List Nat → List (List Nat) × Bool
  | 0, _ => ([], true)
  | _ + 1, [] => ([], true)
  | n + 1, c :: r => if prt c then lexF n r else match signFrom (c :: r) with
    | none => ([], false)
    | some w => (w :: (lexF n ((c :: r).drop w.length)).1, (lexF n ((c :: r).drop w.length)).2)
theorem sign_pos {l w : List Nat} (h : signFrom l = some w) : 0 < w.length ∧ w.length ≤ l.length := by
  cases l with
  | nil => cases h
  | cons c r =>
    have tw : ∀ p : Nat → Bool, p c = true → 0 < ((c :: r).takeWhile p).length ∧ ((c :: r).takeWhile p).length ≤ (c :: r).length := fun p hp =>
      ⟨by rw [List.takeWhile_cons, if_pos hp]; simp, (List.takeWhile_sublist _).length_le⟩
    unfold signFrom at h
    simp only at h
    split at h
    · split at h
      · cases h; exact tw _ (by assumption)
      · cases h
    · split at h
      · split at h
        · cases h; exact tw _ (by assumption)
        · cases h
      · split at h
        · cases h; simp
        · cases h
theorem lexF_more : ∀ (n : Nat) (l : List Nat), l.length ≤ n → ∀ m, n ≤ m → lexF m l = lexF n l
  | 0, l, h, m, hm => by
    cases l with
    | nil => cases m <;> rfl
    | cons c r => simp at h
  | n + 1, [], h, m, hm => by cases m <;> rfl
  | n + 1, c :: r, h, m, hm => by
    cases m with
    | zero => omega
    | succ m =>
      simp only [lexF]
      split
      · exact lexF_more n r (by simp at h; omega) m (by omega)
      · cases hs : signFrom (c :: r) with
        | none => rfl
        | some w =>
          have := sign_pos hs
          simp only
          rw [lexF_more n _ (by simp at h ⊢; omega) m (by omega)]
def lex (l : List Nat) : List (List Nat) × Bool := lexF l.length l
theorem lex_nil : lex [] = ([], true) := rfl
theorem lex_prt {c : Nat} {r : List Nat} (h : prt c = true) : lex (c :: r) = lex r := by
  unfold lex
  simp only [List.length_cons, lexF, h, if_true]
theorem lex_none {l : List Nat} {c : Nat} {r : List Nat} (hl : l = c :: r) (h : prt c = false) (hs : signFrom l = none) : lex l = ([], false) := by
  subst hl
  unfold lex
  simp only [List.length_cons, lexF, h, hs]
  rfl
theorem lex_some {l w : List Nat} {c : Nat} {r : List Nat} (hl : l = c :: r) (h : prt c = false) (hs : signFrom l = some w) : lex l = (w :: (lex (l.drop w.length)).1, (lex (l.drop w.length)).2) := by
  subst hl
  have hp := sign_pos hs
  have e : lexF r.length ((c :: r).drop w.length) = lexF ((c :: r).drop w.length).length ((c :: r).drop w.length) := lexF_more _ _ (Nat.le_refl _) _ (by simp; omega)
  unfold lex
  rw [← e]
  simp only [List.length_cons, lexF, h, hs]
  rfl
/-- a sign as it is drawn -/
inductive Good : List Nat → Prop where
  | low {w : List Nat} (h : ∀ c ∈ w, low c = true) (h1 : w ≠ []) (h2 : w.length ≤ 8) : Good w
  | fig {w : List Nat} (h : ∀ c ∈ w, fig c = true) (h1 : w ≠ []) (h2 : numSign w = true) : Good w
  | sgl {c : Nat} (h : sgl c = true) : Good [c]
/-- what follows does not go on with the sign -/
def Bnd (w rest : List Nat) : Prop := ∀ c r, rest = c :: r → ((∀ x ∈ w, low x = true) → low c = false) ∧ ((∀ x ∈ w, fig x = true) → fig c = false)
theorem low_fig {c : Nat} (h : low c = true) : fig c = false ∧ prt c = false ∧ sgl c = false := by
  unfold low at h
  simp only [Bool.and_eq_true, decide_eq_true_eq] at h
  unfold fig prt sgl
  refine ⟨by simp; omega, by simp; omega, ?_⟩
  simp only [List.contains_eq_mem, List.mem_cons, List.not_mem_nil, or_false, decide_eq_false_iff_not]
  omega
theorem fig_low {c : Nat} (h : fig c = true) : low c = false ∧ prt c = false ∧ sgl c = false := by
  unfold fig at h
  simp only [Bool.and_eq_true, decide_eq_true_eq] at h
  unfold low prt sgl
  refine ⟨by simp; omega, by simp; omega, ?_⟩
  simp only [List.contains_eq_mem, List.mem_cons, List.not_mem_nil, or_false, decide_eq_false_iff_not]
  omega
theorem sgl_not {c : Nat} (h : sgl c = true) : low c = false ∧ prt c = false ∧ fig c = false := by
  refine ⟨?_, ?_, ?_⟩
  · cases hl : low c with
    | false => rfl
    | true => rw [(low_fig hl).2.2] at h; cases h
  · unfold sgl at h
    simp only [List.contains_eq_mem, List.mem_cons, List.not_mem_nil, or_false, decide_eq_true_eq] at h
    unfold prt
    simp; omega
  · cases hl : fig c with
    | false => rfl
    | true => rw [(fig_low hl).2.2] at h; cases h
theorem prt_not {c : Nat} (h : prt c = true) : low c = false ∧ fig c = false := by
  refine ⟨?_, ?_⟩
  · cases hl : low c with
    | false => rfl
    | true => rw [(low_fig hl).2.1] at h; cases h
  · cases hl : fig c with
    | false => rfl
    | true => rw [(fig_low hl).2.1] at h; cases h
theorem tw_app {p : Nat → Bool} {w rest : List Nat} (h : ∀ c ∈ w, p c = true) (hb : ∀ c r, rest = c :: r → p c = false) : (w ++ rest).takeWhile p = w := by
  induction w with
  | nil =>
    cases rest with
    | nil => rfl
    | cons c r => simp [hb c r rfl]
  | cons a w ih =>
    simp only [List.cons_append, List.takeWhile_cons, h a (by simp), if_true]
    rw [ih fun c hc => h c (by simp [hc])]
theorem sign_app {w rest : List Nat} (g : Good w) (b : Bnd w rest) : signFrom (w ++ rest) = some w := by
  cases g with
  | low h h1 h2 =>
    cases w with
    | nil => exact absurd rfl h1
    | cons c r =>
      have e := tw_app (p := low) h fun x y z => (b x y z).1 h
      unfold signFrom
      simp only [List.cons_append] at e ⊢
      rw [if_pos (h c (by simp)), e, if_pos h2]
  | fig h h1 h2 =>
    cases w with
    | nil => exact absurd rfl h1
    | cons c r =>
      have e := tw_app (p := fig) h fun x y z => (b x y z).2 h
      unfold signFrom
      simp only [List.cons_append] at e ⊢
      rw [if_neg (by rw [(fig_low (h c (by simp))).1]; simp), if_pos (h c (by simp)), e, if_pos h2]
  | sgl h =>
    rename_i c
    unfold signFrom
    have := sgl_not h
    simp only [List.cons_append, List.nil_append]
    rw [if_neg (by rw [this.1]; simp), if_neg (by rw [this.2.2]; simp), if_pos h]
theorem Good.ne {w : List Nat} (g : Good w) : ∃ c r, w = c :: r ∧ prt c = false := by
  cases g with
  | low h h1 h2 => cases w with
    | nil => exact absurd rfl h1
    | cons c r => exact ⟨c, r, rfl, (low_fig (h c (by simp))).2.1⟩
  | fig h h1 h2 => cases w with
    | nil => exact absurd rfl h1
    | cons c r => exact ⟨c, r, rfl, (fig_low (h c (by simp))).2.1⟩
  | sgl h => exact ⟨_, _, rfl, (sgl_not h).2.1⟩
theorem lex_app {w rest : List Nat} (g : Good w) (b : Bnd w rest) : lex (w ++ rest) = (w :: (lex rest).1, (lex rest).2) := by
  obtain ⟨c, r, rfl, hp⟩ := g.ne
  have e := lex_some (l := (c :: r) ++ rest) (c := c) (r := r ++ rest) rfl hp (sign_app g b)
  rw [e, List.drop_left]
def Sep (s : List Nat) : Prop := ∀ c ∈ s, prt c = true
theorem lex_sep {s rest : List Nat} (h : Sep s) : lex (s ++ rest) = lex rest := by
  induction s with
  | nil => rfl
  | cons c r ih =>
    rw [List.cons_append, lex_prt (h c (by simp))]
    exact ih fun x hx => h x (by simp [hx])
theorem bnd_sep {w s rest : List Nat} (h : Sep s) (hs : s ≠ []) : Bnd w (s ++ rest) := by
  intro c r e
  cases s with
  | nil => exact absurd rfl hs
  | cons a s =>
    simp at e
    have := prt_not (h a (by simp))
    rw [e.1] at this
    exact ⟨fun _ => this.1, fun _ => this.2⟩
theorem bnd_nil {w : List Nat} : Bnd w [] := fun c r e => by cases e
/-- a text of the first signs: whatever fits behind -/
def Txt3 (row : List (List Nat)) (t : List Nat) : Prop := ∀ rest, (∀ w, row.getLast? = some w → Bnd w rest) → lex (t ++ rest) = (row ++ (lex rest).1, (lex rest).2)
theorem txt_nil {s : List Nat} (h : Sep s) : Txt3 [] s := fun rest _ => by
  rw [lex_sep h]
  rfl
/-- one sign more -/
theorem txt_snoc {row : List (List Nat)} {t s w : List Nat} (h : Txt3 row t) (hs : Sep s) (g : Good w) (hb : s = [] → ∀ v, row.getLast? = some v → Bnd v w ∧ v ≠ [] ∧ w ≠ []) : Txt3 (row ++ [w]) (t ++ s ++ w) := by
  intro rest hr
  have hw := hr w (by simp)
  rw [List.append_assoc, List.append_assoc, h (s ++ (w ++ rest)) fun v hv => ?_, lex_sep hs, lex_app g hw]
  · simp
  · by_cases e : s = []
    · subst e
      obtain ⟨b, _, hw⟩ := hb rfl v hv
      intro c r e
      cases w with
      | nil => exact absurd rfl hw
      | cons a w =>
        simp at e
        have := b a w rfl
        rw [e.1] at this
        exact this
    · exact bnd_sep hs e
theorem good_alnum {w : List Nat} (g : Good w) : (∀ c ∈ w, low c = true ∨ fig c = true) ∨ ∃ c, w = [c] ∧ sgl c = true := by
  cases g with
  | low h _ _ => exact .inl fun c hc => .inl (h c hc)
  | fig h _ _ => exact .inl fun c hc => .inr (h c hc)
  | sgl h => exact .inr ⟨_, rfl, h⟩
theorem alnum_c {c : Nat} (h : low c = true ∨ fig c = true) : Unicode.isAlnum c = true := by
  have key : ∀ c, c < 123 → (low c = true ∨ fig c = true) → Unicode.isAlnum c = true := by decide +kernel
  refine key c ?_ h
  rcases h with h | h
  · unfold low at h; simp only [Bool.and_eq_true, decide_eq_true_eq] at h; omega
  · unfold fig at h; simp only [Bool.and_eq_true, decide_eq_true_eq] at h; omega
/-- what may stand side by side -/
theorem bnd_of {v w : List Nat} (gv : Good v) (gw : Good w) (h : Txt.isalnum (SX.S (v ++ w)) = false) : Bnd v w ∧ v ≠ [] ∧ w ≠ [] := by
  obtain ⟨a, r, ev, _⟩ := gv.ne
  obtain ⟨b, r2, ew, _⟩ := gw.ne
  refine ⟨?_, by rw [ev]; simp, by rw [ew]; simp⟩
  rcases good_alnum gv with hv | ⟨c, rfl, hc⟩
  · rcases good_alnum gw with hw | ⟨c, rfl, hc⟩
    · have : Txt.isalnum (SX.S (v ++ w)) = true := by
        unfold Txt.isalnum
        simp only [SX.S_len, Bool.and_eq_true, decide_eq_true_eq]
        refine ⟨by rw [ev]; simp, ?_⟩
        simp only [SX.S, List.all_toArray, List.all_eq_true]
        intro x hx
        rcases List.mem_append.mp hx with hx | hx
        · exact alnum_c (hv x hx)
        · exact alnum_c (hw x hx)
      rw [this] at h
      cases h
    · intro x y e
      simp at e
      have := sgl_not hc
      rw [← e.1]
      exact ⟨fun _ => this.1, fun _ => this.2.2⟩
  · have := sgl_not hc
    intro x y e
    refine ⟨fun z => ?_, fun z => ?_⟩
    · have := z c (by simp)
      rw [(sgl_not hc).1] at this
      cases this
    · have := z c (by simp)
      rw [(sgl_not hc).2.2] at this
      cases this
/-! numbers' figures -/
theorem numL_head {n : Nat} (h : 0 < n) : (TL.numL n).head? ≠ some 48 := by
  induction n using Nat.strongRecOn with
  | _ n ih =>
    by_cases h1 : n < 10
    · rw [TL.numL_lt h1]
      simp; omega
    · rw [TL.numL_step (by omega)]
      have := ih (n / 10) (by omega) (by omega)
      cases hq : TL.numL (n / 10) with
      | nil => exact absurd hq (TL.numL_ne _)
      | cons a r => rw [hq] at this; simpa using this
theorem good_num {n : Nat} (h : n ≤ 65535) : Good (TL.numL n) := by
  refine .fig (fun c hc => ?_) (TL.numL_ne n) ?_
  · have := TL.numL_digits n c hc
    unfold fig
    simp only [Bool.and_eq_true, decide_eq_true_eq]
    exact this
  · unfold numSign
    by_cases h0 : n = 0
    · subst h0
      rw [TL.numL_lt (by decide)]
      rfl
    · rw [if_neg (numL_head (by omega)), TL.numL_val]
      have := TL.numL_len (n := n) (k := 5) (by decide) (by omega)
      simp only [Bool.and_eq_true, decide_eq_true_eq]
      exact ⟨this, h⟩
end Lex
set_option maxHeartbeats 4000000
namespace K03
open PySem Z Lex TL
local macro_rules | `(tactic| walk_at "zs") => `(tactic| simp -implicitDefEqProofs only [W_ok, W_ex, L_ok, L_ex, S_nx, S_rt, S_bk, S_ct, S_ex, W_if, W_bind, W_bindL, L_bind, L_bindL, S_bindS, S_bindSL, S_bind, T_true, T_false, G_true, slot_some, E_non, E_bl, E_int, E_str, E_v, E_g, ofO_some, E_bin, E_neg, neg_int, E_cmp, E_isN, E_notN, E_chain, E_and, E_or, not_bl, E_not, E_ife, E_tup, E_lst, E_att, E_idx, O_no, so_int, O_so, sl_nn, sl_ni, sl_in, sl_ii, E_sl, B_true, E_call, E_callk, mk_non, E_mk, isFn_fn, nmFn_fn, E_calv, C_some, E_met, E_bi, E_isi, E_bm, E_lc, L_nil, L_cons, T_v, sto_some, T_at, T_ix, T_tp, Ts_nil, Ts_cons, Tl_nil, Tl_cons, S_set, S_par, S_par3, S_exp, S_ret, S_retN, S_iff, S_whl, S_for, S_pass, S_brk, S_cnt, B_nil, B_cons, O_some, O_if, W_gc, ev_cf, ev_cm, ev_low, b_addI, b_subI, b_addS, b_addT, b_mulI, b_fdivI, b_modI, b_powI, r_lt, r_le, r_gt, r_ge, r_eqI, r_eqS, r_eqB, r_neI, r_neS, r_neB, g_tup, sl_tup, bi_lenT, bi_lenS, bi_abs, bi_intI, bi_intB, bi_strI, bi_strS, bi_max, bi_min, bi_divmod, bi_tupT, bi_lstT, isi_non, isi_bl, isi_int, isi_str, isi_tup, src_tup, src_str, src_r1, src_r2, List.getElem?_cons_zero, List.getElem?_cons_succ, List.set_cons_zero, List.set_cons_succ, List.length_cons, List.length_nil, Nat.zero_add, List.map_cons, List.map_nil, List.replicate, List.cons_append, List.nil_append, D.isNon, Nat.reduceAdd, Nat.reduceSub, Nat.reduceLT, Bool.not_true, Bool.not_false, List.any_cons, List.any_nil, isB, Bool.or_false, Bool.false_or, Bool.or_true, Bool.true_or, rdO_lst, rdO_frz, atRd_some, o_get, slRd_some, o_slc, lenRd_some, o_len, tupRd_some, o_tup, lstRd_some, o_lst, isRd_some, o_isi, o_app, o_ext, o_pop, appRd_some, o_bapp, o_bpop, setRd_some, o_setI, srcRd_some, o_src, some_so, g_str, sl_str, chR_some, in_sign, nin_sign, at0, at1, at2, ix30, ix31, ix32, A_some, asg_v, stays_none, addRd_some, o_add, chn_le, chn_lt, tellOk_some, tellOk_none, wp_nil, wp_cons, bm_split, bm_isalnum, bma_split, bma_isalnum, bma_join, told__law_told, tell__law_told_InvalidText, tell__law_told_Unread, fn_is_name_form, fn_end_of_run, fn_is_number_sign, fn_sign_from, fn_signs_in, fn_signs, fn_is_name, fn__law_pail, fn__law_deal, fn__law_any, fn__law_key_words, fn__law_names, fn__law_respaced, fn__law_is_name, fn__law_one_sign, fn__law_right, fn_law, gt_MOST_WORD, gt_MOST_LETTERS, gt_LETTERS, gt_KEY_WORDS, gt_FIGURES, gt_SINGLE, gt_PARTING])
local macro_rules | `(tactic| walk_at "zb") => `(tactic| simp -implicitDefEqProofs only [W_ok, W_ex, L_ok, L_ex, S_nx, S_rt, S_bk, S_ct, S_ex, W_if, W_bind, W_bindL, L_bind, L_bindL, S_bindS, S_bindSL, S_bind, T_true, T_false, G_true, slot_some, E_non, E_bl, E_int, E_str, E_v, E_g, ofO_some, E_bin, E_neg, neg_int, E_cmp, E_isN, E_notN, E_chain, E_and, E_or, not_bl, E_not, E_ife, E_tup, E_lst, E_att, E_idx, O_no, so_int, O_so, sl_nn, sl_ni, sl_in, sl_ii, E_sl, B_true, E_call, E_callk, mk_non, E_mk, isFn_fn, nmFn_fn, E_calv, C_some, E_met, E_bi, E_isi, E_bm, E_lc, L_nil, L_cons, T_v, sto_some, T_at, T_ix, T_tp, Ts_nil, Ts_cons, Tl_nil, Tl_cons, S_set, S_par, S_par3, S_exp, S_ret, S_retN, S_iff, S_whl, S_for, S_pass, S_brk, S_cnt, B_nil, O_some, O_if, W_gc, ev_cf, ev_cm, ev_low, b_addI, b_subI, b_addS, b_addT, b_mulI, b_fdivI, b_modI, b_powI, r_lt, r_le, r_gt, r_ge, r_eqI, r_eqS, r_eqB, r_neI, r_neS, r_neB, g_tup, sl_tup, bi_lenT, bi_lenS, bi_abs, bi_intI, bi_intB, bi_strI, bi_strS, bi_max, bi_min, bi_divmod, bi_tupT, bi_lstT, isi_non, isi_bl, isi_int, isi_str, isi_tup, src_tup, src_str, src_r1, src_r2, List.getElem?_cons_zero, List.getElem?_cons_succ, List.set_cons_zero, List.set_cons_succ, List.length_cons, List.length_nil, Nat.zero_add, List.map_cons, List.map_nil, List.replicate, List.cons_append, List.nil_append, D.isNon, Nat.reduceAdd, Nat.reduceSub, Nat.reduceLT, Bool.not_true, Bool.not_false, List.any_cons, List.any_nil, isB, Bool.or_false, Bool.false_or, Bool.or_true, Bool.true_or, rdO_lst, rdO_frz, atRd_some, o_get, slRd_some, o_slc, lenRd_some, o_len, tupRd_some, o_tup, lstRd_some, o_lst, isRd_some, o_isi, o_app, o_ext, o_pop, appRd_some, o_bapp, o_bpop, setRd_some, o_setI, srcRd_some, o_src, some_so, g_str, sl_str, chR_some, in_sign, nin_sign, at0, at1, at2, ix30, ix31, ix32, A_some, asg_v, stays_none, addRd_some, o_add, chn_le, chn_lt, tellOk_some, tellOk_none, wp_nil, wp_cons, bm_split, bm_isalnum, bma_split, bma_isalnum, bma_join, told__law_told, tell__law_told_InvalidText, tell__law_told_Unread, fn_is_name_form, fn_end_of_run, fn_is_number_sign, fn_sign_from, fn_signs_in, fn_signs, fn_is_name, fn__law_pail, fn__law_deal, fn__law_any, fn__law_key_words, fn__law_names, fn__law_respaced, fn__law_is_name, fn__law_one_sign, fn__law_right, fn_law, gt_MOST_WORD, gt_MOST_LETTERS, gt_LETTERS, gt_KEY_WORDS, gt_FIGURES, gt_SINGLE, gt_PARTING])
local macro_rules | `(tactic| walk_at "zd") => `(tactic| repeat (first
  | walk_at "zs"
  | refine inn_w (b := true) (by decide +kernel) ?_
  | refine inn_w (b := false) (by decide +kernel) ?_
  | refine nin_w (b := true) (by decide +kernel) ?_
  | refine nin_w (b := false) (by decide +kernel) ?_
  | refine tbT (by decide +kernel) ?_
  | refine tbF (by decide +kernel) ?_
  | refine wg (by decide +kernel) ?_))
local macro_rules | `(tactic| walk_at "ze") => `(tactic| repeat (first
  | walk_at "zb"
  | refine inn_w (b := true) (by decide +kernel) ?_
  | refine inn_w (b := false) (by decide +kernel) ?_
  | refine nin_w (b := true) (by decide +kernel) ?_
  | refine nin_w (b := false) (by decide +kernel) ?_
  | refine tbT (by decide +kernel) ?_
  | refine tbF (by decide +kernel) ?_
  | refine wg (by decide +kernel) ?_))
local macro_rules | `(tactic| walk_at "uf") => `(tactic| (walk_at "zd"; simp -implicitDefEqProofs only [F_cons, F_nil]; walk_at "zd"))
local macro_rules | `(tactic| walk_at "st") => `(tactic| simp -implicitDefEqProofs only [List.append_assoc, List.length_append, lk_app, lk_app0, st_set, st_set0, List.cons_append, List.nil_append, List.length_cons, List.length_nil, Nat.zero_add, Nat.reduceAdd, Nat.add_assoc, List.getElem?_cons_zero, List.getElem?_cons_succ, List.set_cons_zero, List.set_cons_succ])
local macro_rules | `(tactic| walk_at "dat") => `(tactic| simp -implicitDefEqProofs only [DEEP, d_non, d_bl, d_int, d_str, tupP_some, lstP_some, d_tup, datRd_some, d_ref, consP_some, dl_nil, dl_cons, lk_app, lk_app0, List.append_assoc, List.length_append, List.cons_append, List.nil_append, List.length_cons, List.length_nil, Nat.zero_add, Nat.reduceAdd, Nat.add_assoc, List.getElem?_cons_zero, List.getElem?_cons_succ])
local macro_rules | `(tactic| walk_at "zt") => `(tactic| repeat (first
  | walk_at "zs"
  | walk_at "st"
  | refine inn_w (b := true) (by decide +kernel) ?_
  | refine inn_w (b := false) (by decide +kernel) ?_
  | refine nin_w (b := true) (by decide +kernel) ?_
  | refine nin_w (b := false) (by decide +kernel) ?_
  | refine tbT (by decide +kernel) ?_
  | refine tbF (by decide +kernel) ?_
  | refine wg (by decide +kernel) ?_))

theorem tl_low : tl "abcdefghijklmnopqrstuvwxyz" = [97,98,99,100,101,102,103,104,105,106,107,108,109,110,111,112,113,114,115,116,117,118,119,120,121,122] := by decide +kernel
theorem tl_fig : tl "0123456789" = [48,49,50,51,52,53,54,55,56,57] := by decide +kernel
theorem tl_sgl : tl "()[]{},=+-*/~<" = [40, 41, 91, 93, 123, 125, 44, 61, 43, 45, 42, 47, 126, 60] := by decide +kernel
theorem tl_prt : tl " \n" = [32, 10] := by decide +kernel
theorem in_low (c : Nat) : decide (c ∈ tl "abcdefghijklmnopqrstuvwxyz") = low c := by
  rw [tl_low, Bool.eq_iff_iff]
  unfold low
  simp only [decide_eq_true_eq, Bool.and_eq_true, List.mem_cons, List.not_mem_nil, or_false]
  omega
theorem in_fig (c : Nat) : decide (c ∈ tl "0123456789") = fig c := by
  rw [tl_fig, Bool.eq_iff_iff]
  unfold fig
  simp only [decide_eq_true_eq, Bool.and_eq_true, List.mem_cons, List.not_mem_nil, or_false]
  omega
theorem in_sgl (c : Nat) : decide (c ∈ tl "()[]{},=+-*/~<") = sgl c := by
  rw [tl_sgl]
  unfold sgl
  rw [List.contains_eq_mem]
theorem in_prt (c : Nat) : decide (c ∈ tl " \n") = prt c := by
  rw [tl_prt, Bool.eq_iff_iff]
  unfold prt
  simp
section
variable {S : Sto} {Q : KQ} {E : KE}
theorem s_end_of_run (k : Nat) {x y : Str} {i : Nat} {p : Nat → Bool} (hy : ∀ c, decide (c ∈ tl y) = p c) (hi : i ≤ (tl x).length) (hL : x.length ≤ 1000000) (q : Q.f (.int ((i + (((tl x).drop i).takeWhile p).length : Nat) : Int)) S) : @WR (callN pg (k + 1) Str.empty "end_of_run" [.str x, .int (i : Int), .str y] [] S) Q E := by
  refine w_call lk_end_of_run (vs := [.str x, .int (i : Int), .str y]) rfl ?_
  simp only [f_end_of_run]
  walk_at "zd"
  have hlen := len_tl x
  have hLL : x.length ≤ LINE := by unfold LINE; omega
  refine w_whl (fun m ρ S' => S' = S ∧ ∃ j : Nat, m = (tl x).length - j ∧ j ≤ (tl x).length ∧ ρ = [some (.str x), some (.int (j : Int)), some (.str y)] ∧ j + (((tl x).drop j).takeWhile p).length = i + (((tl x).drop i).takeWhile p).length) ((tl x).length - i) (by unfold TURNS; omega) ⟨rfl, i, rfl, hi, rfl, rfl⟩ ?_
  rintro m ρ S' ⟨rfl, j, rfl, hj, rfl, he⟩
  have fin : @WR (gc S' (.int (j : Int)) S') Q E ∨ True := .inr trivial
  walk_at "zd"
  refine wg hLL ?_
  walk_at "zd"
  refine tbd (fun h => ?_) fun h => ?_
  · have hlt : j < (tl x).length := by omega
    obtain ⟨c, hc⟩ : ∃ c, (tl x)[j]? = some c := ⟨_, List.getElem?_eq_getElem hlt⟩
    walk_at "zd"
    refine wg hLL ?_
    rw [at_nat hc]
    walk_at "zd"
    rw [hy]
    have hd : (tl x).drop j = c :: (tl x).drop (j + 1) := by
      rw [List.drop_eq_getElem_cons hlt]
      congr 1
      rw [List.getElem?_eq_getElem hlt] at hc
      exact Option.some.inj hc
    refine tb (fun hp => ?_) fun hp => ?_
    · walk_at "zd"
      refine ⟨(tl x).length - (j + 1), by omega, by trivial, j + 1, rfl, hlt, by simp, ?_⟩
      rw [← he, hd, List.takeWhile_cons, if_pos hp]
      simp
      omega
    · walk_at "zd"
      rw [hd, List.takeWhile_cons, if_neg (by rw [hp]; simp)] at he
      simp only [List.length_nil, Nat.add_zero] at he
      rw [he]
      exact q
  · walk_at "zd"
    have : j = (tl x).length := by omega
    rw [this, List.drop_length] at he
    simp only [List.takeWhile_nil, List.length_nil, Nat.add_zero] at he
    rw [this, he]
    exact q
theorem five : (Str.length (toString (65535 : Int) : String)) = 5 := by decide +kernel
theorem s_is_number_sign (k : Nat) {x : Str} (hf : ∀ c ∈ tl x, fig c = true) (hne : tl x ≠ []) (hL : x.length ≤ 1000000) (q : Q.f (.bl (numSign (tl x))) S) : @WR (callN pg (k + 1) Str.empty "is_number_sign" [.str x] [] S) Q E := by
  refine w_call lk_is_number_sign (vs := [.str x]) rfl ?_
  simp only [f_is_number_sign]
  walk_at "zd"
  have hlen := len_tl x
  have hLL : x.length ≤ LINE := by unfold LINE; omega
  obtain ⟨c, r, hx⟩ : ∃ c r, tl x = c :: r := by
    cases h : tl x with
    | nil => exact absurd h hne
    | cons c r => exact ⟨c, r, rfl⟩
  refine wg hLL ?_
  rw [hx, at0]
  walk_at "zd"
  rw [eq_sign, show tl "0" = [48] from rfl]
  unfold numSign at q
  rw [hx] at q
  simp only [List.head?_cons, Option.some.injEq] at q
  refine tbd (fun h => ?_) fun h => ?_
  · walk_at "zd"
    have hc : c = 48 := by simpa using h.symm
    rw [if_pos hc] at q
    rw [eq_tl, hx, show tl "0" = [48] from rfl]
    have e : ((c :: r) == [48]) = decide (c :: r = [48]) := by
      rw [Bool.eq_iff_iff]; simp
    rw [e] at q
    exact q
  · walk_at "zd"
    have hc : ¬ c = 48 := fun e => h (by rw [e])
    rw [if_neg hc] at q
    refine wg hLL ?_
    walk_at "zd"
    rw [← hx] at q
    refine tbd (fun h => ?_) fun h => ?_
    · rw [five] at h
      have h5 : x.length ≤ 5 := by omega
      walk_at "zd"
      have hi : PySem.intText? x = some ((NumText.digitsVal (tl x) : Nat) : Int) := by
        have := SX.int_S (a := tl x) (List.all_eq_true.mpr fun c hc => by
          have := hf c hc
          unfold fig at this
          exact this) hne (by omega)
        rwa [SX.S_tl] at this
      rw [bi_intS S x _ hi (by omega)]
      walk_at "zd"
      rw [show decide ((tl x).length ≤ 5) = true from decide_eq_true (by omega), Bool.true_and] at q
      rw [show decide (((NumText.digitsVal (tl x) : Nat) : Int) ≤ 65535) = decide (NumText.digitsVal (tl x) ≤ 65535) by rw [decide_eq_decide]; omega]
      exact q
    · rw [five] at h
      walk_at "zd"
      rw [show decide ((tl x).length ≤ 5) = false from decide_eq_false (by omega), Bool.false_and] at q
      exact q
/-- a sign's code points -/
theorem sign_small {l w : List Nat} (h : signFrom l = some w) : ∀ c ∈ w, c < 128 := by
  have hlow : ∀ c, low c = true → c < 128 := fun c h => by unfold low at h; simp only [Bool.and_eq_true, decide_eq_true_eq] at h; omega
  have hfig : ∀ c, fig c = true → c < 128 := fun c h => by unfold fig at h; simp only [Bool.and_eq_true, decide_eq_true_eq] at h; omega
  have hsgl : ∀ c, sgl c = true → c < 128 := fun c h => by
    unfold sgl at h
    simp only [List.contains_eq_mem, List.mem_cons, List.not_mem_nil, or_false, decide_eq_true_eq] at h
    omega
  have tw : ∀ (p : Nat → Bool) (l : List Nat) (c : Nat), c ∈ l.takeWhile p → p c = true := fun p l c hc => by
    induction l with
    | nil => cases hc
    | cons a l ih =>
      rw [List.takeWhile_cons] at hc
      split at hc
      · rcases List.mem_cons.mp hc with rfl | hc
        · assumption
        · exact ih hc
      · cases hc
  cases l with
  | nil => cases h
  | cons c r =>
    unfold signFrom at h
    simp only at h
    split at h
    · split at h
      · cases h; exact fun c hc => hlow c (tw _ _ c hc)
      · cases h
    · split at h
      · split at h
        · cases h; exact fun c hc => hfig c (tw _ _ c hc)
        · cases h
      · split at h
        · cases h
          intro c hc
          simp at hc
          subst hc
          exact hsgl _ (by assumption)
        · cases h
/-- what is found at a place, as a list -/
def foundL (l : List Nat) : List Str := match signFrom l with
  | none => []
  | some w => [SX.S w]
theorem tw_len (p : Nat → Bool) (l : List Nat) : l.take (l.takeWhile p).length = l.takeWhile p := by
  induction l with
  | nil => rfl
  | cons a l ih =>
    rw [List.takeWhile_cons]
    split
    · simp [ih]
    · rfl
theorem tl_at {x : Str} {i : Nat} {c : Nat} (h : (tl x)[i]? = some c) : (tl x).drop i = c :: (tl x).drop (i + 1) := by
  have hlt := (List.getElem?_eq_some_iff.mp h).1
  rw [List.drop_eq_getElem_cons hlt]
  congr 1
  rw [List.getElem?_eq_getElem hlt] at h
  exact Option.some.inj h
theorem s_sign_from (k : Nat) {x : Str} {i : Nat} (hi : i < (tl x).length) (hL : x.length ≤ 1000000) (q : Q.f (.ref S.length) (S ++ [.lst ((foundL ((tl x).drop i)).map D.str)])) : @WR (callN pg (k + 2) Str.empty "sign_from" [.str x, .int (i : Int)] [] S) Q E := by
  refine w_call lk_sign_from (vs := [.str x, .int (i : Int)]) rfl ?_
  simp only [f_sign_from]
  have hlen := len_tl x
  have hLL : x.length ≤ LINE := by unfold LINE; omega
  obtain ⟨c, hc⟩ : ∃ c, (tl x)[i]? = some c := ⟨_, List.getElem?_eq_getElem hi⟩
  have hd := tl_at hc
  walk_at "zd"
  refine wg hLL ?_
  rw [at_nat hc]
  walk_at "zd"
  rw [in_low]
  have fin : ∀ l : List D, (foundL ((tl x).drop i)).map D.str = l → @WR (gc S (.ref S.length) (S ++ [.lst l])) Q E := fun l e => by
    refine w_gcn (List.take_left' rfl) (Nat.le_refl _) (by rw [lk_app0]; rfl) ?_ ?_
    · rw [← e]; exact pure_strs _
    · rw [← e]; exact q
  have word : ∀ p : Nat → Bool, tl (L2.cutS x (some (i : Int)) (some ((i + (((tl x).drop i).takeWhile p).length : Nat) : Int))) = ((tl x).drop i).takeWhile p := fun p => by
    have hle : (((tl x).drop i).takeWhile p).length ≤ (tl x).length - i := by
      have := (List.takeWhile_sublist p (l := (tl x).drop i)).length_le
      simpa using this
    rw [cut_tl _ _ _ (by omega) (by omega), Nat.add_sub_cancel_left, tw_len]
  have hS : ∀ w : Str, SX.S (tl w) = w := SX.S_tl
  unfold foundL signFrom at fin
  rw [hd] at fin
  simp only at fin
  refine tb (fun h1 => ?_) fun h1 => ?_
  · rw [if_pos h1] at fin
    walk_at "zd"
    refine s_end_of_run _ in_low (by omega) hL ?_
    walk_at "zd"
    refine wg hLL ?_
    have wd := word low
    have wl := len_tl (L2.cutS x (some (i : Int)) (some ((i + (((tl x).drop i).takeWhile low).length : Nat) : Int)))
    generalize L2.cutS x (some (i : Int)) (some ((i + (((tl x).drop i).takeWhile low).length : Nat) : Int)) = w at wd wl ⊢
    have wl2 : (tl w).length ≤ (tl x).length := by
      rw [wd]
      have := (List.takeWhile_sublist low (l := (tl x).drop i)).length_le
      simp only [List.length_drop] at this
      omega
    walk_at "zd"
    refine wg (by unfold LINE; omega) ?_
    walk_at "zd"
    rw [hd] at wd
    rw [← wd] at fin
    refine tbd (fun h => ?_) fun h => ?_
    · walk_at "zd"
      rw [if_pos (by omega)] at fin
      refine fin _ ?_
      simp only [List.map_cons, List.map_nil, hS]
    · walk_at "zd"
      rw [if_neg (by omega)] at fin
      exact fin _ rfl
  · rw [if_neg (by rw [h1]; simp)] at fin
    walk_at "zd"
    rw [in_fig]
    refine tb (fun h2 => ?_) fun h2 => ?_
    · rw [if_pos h2] at fin
      walk_at "zd"
      refine s_end_of_run _ in_fig (by omega) hL ?_
      walk_at "zd"
      refine wg hLL ?_
      have wd := word fig
      have wl := len_tl (L2.cutS x (some (i : Int)) (some ((i + (((tl x).drop i).takeWhile fig).length : Nat) : Int)))
      generalize L2.cutS x (some (i : Int)) (some ((i + (((tl x).drop i).takeWhile fig).length : Nat) : Int)) = w at wd wl ⊢
      have wl2 : (tl w).length ≤ (tl x).length := by
        rw [wd]
        have := (List.takeWhile_sublist fig (l := (tl x).drop i)).length_le
        simp only [List.length_drop] at this
        omega
      have wf : ∀ z ∈ tl w, fig z = true := by
        rw [wd]
        intro z hz
        have tw : ∀ (p : Nat → Bool) (l : List Nat) (c : Nat), c ∈ l.takeWhile p → p c = true := fun p l c hc => by
          induction l with
          | nil => cases hc
          | cons a l ih =>
            rw [List.takeWhile_cons] at hc
            split at hc
            · rcases List.mem_cons.mp hc with rfl | hc
              · assumption
              · exact ih hc
            · cases hc
        exact tw _ _ z hz
      rw [hd] at wd
      have wn : tl w ≠ [] := by
        rw [wd, List.takeWhile_cons, if_pos h2]
        simp
      rw [← wd] at fin
      walk_at "zd"
      refine s_is_number_sign _ wf wn (by omega) ?_
      refine tb (fun h => ?_) fun h => ?_
      · walk_at "zd"
        rw [if_pos h] at fin
        refine fin _ ?_
        simp only [List.map_cons, List.map_nil, hS]
      · walk_at "zd"
        rw [if_neg (by rw [h]; simp)] at fin
        exact fin _ rfl
    · rw [if_neg (by rw [h2]; simp)] at fin
      walk_at "zd"
      rw [in_sgl]
      refine tb (fun h => ?_) fun h => ?_
      · walk_at "zd"
        rw [if_pos h] at fin
        exact fin _ rfl
      · walk_at "zd"
        rw [if_neg (by rw [h]; simp)] at fin
        exact fin _ rfl
theorem s_signs_in (k : Nat) {x : Str} (hL : x.length ≤ 1000000) (q : Q.f (.tup [.tup (((lex (tl x)).1.map SX.S).map D.str), .bl (lex (tl x)).2]) S) : @WR (callN pg (k + 3) Str.empty "signs_in" [.str x] [] S) Q E := by
  refine w_call lk_signs_in (vs := [.str x]) rfl ?_
  simp only [f_signs_in]
  have hlen := len_tl x
  have hLL : x.length ≤ LINE := by unfold LINE; omega
  have fin : ∀ (acc : List (List Nat)) (b : Bool) (T : Sto), lex (tl x) = (acc, b) → @WR (gc S (.tup [.tup ((acc.map SX.S).map D.str), .bl b]) (S ++ T)) Q E := fun acc b T e => by
    rw [e] at q
    refine w_gcp (List.take_left' rfl) ?_ q
    simp only [D.pure, D.pureL, pure_strs]
    rfl
  walk_at "ze"
  simp only [B_cons]
  walk_at "ze"
  refine seqR (fun ρ' S' => ∃ (T : Sto) (acc : List (List Nat)) (o : Option D) (j : Int), S' = S ++ (.lst ((acc.map SX.S).map D.str)) :: T ∧ ρ' = [some (.str x), some (.ref S.length), some (.int j), o] ∧ lex (tl x) = (acc, true)) ?_ ?_
  · walk_at "ze"
    refine w_whl (fun m ρ S' => ∃ (T : Sto) (acc : List (List Nat)) (o : Option D) (j : Nat), m = (tl x).length - j ∧ j ≤ (tl x).length ∧ acc.length ≤ j ∧ S' = S ++ (.lst ((acc.map SX.S).map D.str)) :: T ∧ ρ = [some (.str x), some (.ref S.length), some (.int (j : Int)), o] ∧ lex (tl x) = (acc ++ (lex ((tl x).drop j)).1, (lex ((tl x).drop j)).2)) ((tl x).length - 0) (by unfold TURNS; omega) ⟨[], [], none, 0, by trivial, by omega, by simp, rfl, rfl, by simp⟩ ?_
    rintro m ρ S' ⟨T, acc, o, j, rfl, hj, ha, rfl, rfl, he⟩
    walk_at "ze"
    refine wg hLL ?_
    walk_at "ze"
    refine tbd (fun h => ?_) fun h => ?_
    · have hlt : j < (tl x).length := by omega
      obtain ⟨c, hc⟩ : ∃ c, (tl x)[j]? = some c := ⟨_, List.getElem?_eq_getElem hlt⟩
      have hd := tl_at hc
      walk_at "zd"
      refine wg hLL ?_
      rw [at_nat hc]
      walk_at "zd"
      rw [in_prt]
      refine tb (fun hp => ?_) fun hp => ?_
      · walk_at "zd"
        refine ⟨(tl x).length - (j + 1), by omega, T, acc, o, j + 1, rfl, hlt, by omega, rfl, rfl, ?_⟩
        rw [hd, lex_prt hp] at he
        exact he
      · walk_at "zd"
        refine s_sign_from _ hlt hL ?_
        walk_at "zd"
        have h3 : ∀ z ∈ foundL ((tl x).drop j), PyData.strOk z = true := by
          intro z hz
          unfold foundL at hz
          cases hs : signFrom ((tl x).drop j) with
          | none => rw [hs] at hz; cases hz
          | some w =>
            rw [hs] at hz
            simp at hz
            subst hz
            exact str_ok (sign_small hs)
        generalize hT : S ++ Ob.lst (List.map D.str (List.map SX.S acc)) :: T = T1
        refine eq_nil (l := foundL ((tl x).drop j)) _ (by rw [lk_old (by simp), lk_app0]; rfl) (by rw [lk_app0]; rfl) h3 ?_
        subst hT
        refine tbd (fun h => ?_) fun h => ?_
        · walk_at "zd"
          walk_at "st"
          walk_at "zd"
          have hs : signFrom ((tl x).drop j) = none := by
            unfold foundL at h
            cases hs : signFrom ((tl x).drop j) with
            | none => rfl
            | some w => rw [hs] at h; cases h
          rw [hd] at hs
          rw [hd, lex_none rfl hp hs, List.append_nil] at he
          exact fin acc false _ he
        · obtain ⟨w, hs⟩ : ∃ w, signFrom ((tl x).drop j) = some w := by
            unfold foundL at h
            cases hs : signFrom ((tl x).drop j) with
            | none => rw [hs] at h; exact absurd rfl h
            | some w => exact ⟨w, rfl⟩
          have hf : foundL ((tl x).drop j) = [SX.S w] := by unfold foundL; rw [hs]
          have hsp := sign_pos hs
          simp only [List.length_drop] at hsp
          rw [hf]
          walk_at "zt"
          refine wg (by simp; unfold LINE; omega) ?_
          walk_at "zt"
          have hwl : (SX.S w).length = w.length := SX.S_len w
          refine wg (by rw [hwl]; unfold LINE; omega) ?_
          walk_at "zd"
          rw [hwl]
          refine ⟨(tl x).length - (j + w.length), by omega, _, acc ++ [w], some (.ref (S.length + (T.length + 1))), j + w.length, by trivial, by omega, by simp; omega, by rw [List.map_append, List.map_append]; rfl, by rw [Int.natCast_add, List.length_append, List.length_cons], ?_⟩
          rw [hd, lex_some rfl hp (by rw [← hd]; exact hs)] at he
          rw [he, ← hd, List.drop_drop]
          simp
    · walk_at "ze"
      have : j = (tl x).length := by omega
      rw [this, List.drop_length] at he
      exact ⟨T, acc, o, j, rfl, rfl, by rw [he]; simp [lex_nil]⟩
  · rintro ρ' S' ⟨T, acc, o, j, rfl, rfl, he⟩
    walk_at "zt"
    exact fin acc true _ he
def strsD (l : List (List Nat)) : List D := (l.map SX.S).map D.str
theorem s_signs (k : Nat) {x : Str} (hL : x.length ≤ 1000000) {ds : List D} {kw : List (Str × D)} (hb : bindZ ["text"] [] ds kw = some [.str x]) (h : (lex (tl x)).2 = true) (q : Q.f (.tup (strsD (lex (tl x)).1)) S) : @WR (callN pg (k + 4) Str.empty "signs" ds kw S) Q E := by
  refine w_call lk_signs (vs := [.str x]) hb ?_
  simp only [f_signs]
  walk_at "zd"
  refine s_signs_in _ hL ?_
  walk_at "zt"
  rw [h]
  walk_at "zt"
  exact q
theorem s_signs_bad (k : Nat) {x : Str} (hL : x.length ≤ 1000000) {ds : List D} {kw : List (Str × D)} (hb : bindZ ["text"] [] ds kw = some [.str x]) (h : (lex (tl x)).2 = false) (q : E.f "Unread" [("place", .int ((lex (tl x)).1.length : Int))] S) : @WR (callN pg (k + 4) Str.empty "signs" ds kw S) Q E := by
  refine w_call lk_signs (vs := [.str x]) hb ?_
  simp only [f_signs]
  walk_at "zd"
  refine s_signs_in _ hL ?_
  walk_at "zt"
  rw [h]
  walk_at "zt"
  rw [S_rai _ _ _ _ _ _ (xf_Unread _)]
  walk_at "zt"
  rw [List.length_map, List.length_map]
  exact q
theorem s_signs_no (k : Nat) {d : D} (ht : (tyN S d).isSome = true) (hn : ∀ x, d ≠ .str x) (q : E.f "InvalidText" [("given", d)] S) : @WR (callN pg (k + 4) Str.empty "signs" [d] [] S) Q E := by
  refine w_call lk_signs (vs := [d]) rfl ?_
  simp only [f_signs]
  walk_at "zs"
  simp only [isi_any ht]
  cases d <;> walk_at "zs" <;> first | exact (hn _ rfl).elim | skip
  all_goals
    rw [S_rai _ _ _ _ _ _ (xf_InvalidText _)]
    walk_at "zs"
    exact q
/-- what is a name -/
def KW : List Str := ["deed", "do", "else", "give", "if", "let", "more", "read", "row", "while", "write"]
def nameD : D → Bool
  | .str x => decide (1 ≤ x.length) && decide (x.length ≤ 8) && !KW.contains x && (tl x).all low
  | _ => false
theorem s_is_name_form (k : Nat) {d : D} (ht : (tyN S d).isSome = true) (hL : ∀ x, d = .str x → x.length ≤ 1000000) (q : Q.f (.bl (nameD d)) S) : @WR (callN pg (k + 1) Str.empty "is_name_form" [d] [] S) Q E := by
  refine w_call lk_is_name_form (vs := [d]) rfl ?_
  simp only [f_is_name_form]
  walk_at "zs"
  simp only [isi_any ht]
  cases d
  case str x =>
    have hlen := len_tl x
    have hLL : x.length ≤ LINE := by have := hL x rfl; unfold LINE; omega
    walk_at "zt"
    refine wg hLL ?_
    walk_at "zt"
    have no : (decide (1 ≤ x.length) && decide (x.length ≤ 8) && !KW.contains x && (tl x).all low) = false → Q.f (.bl false) S := fun h => by
      have e : nameD (.str x) = false := h
      rw [e] at q
      exact q
    refine tbd (fun h1 => ?_) fun h1 => ?_
    · walk_at "zt"
      refine tb (fun h2 => ?_) fun h2 => ?_
      rotate_left
      · have h2 : x.length ≤ 8 := by simp at h2; omega
        walk_at "zt"
        have e : ∀ b : Bool, KW.contains x = b → ∀ {Q : KQ} {E : KE}, Q.f (.bl b) S → @WR (cmpR .inn (.str x) (.tup [D.str "deed", D.str "do", D.str "else", D.str "give", D.str "if", D.str "let", D.str "more", D.str "read", D.str "row", D.str "while", D.str "write"]) S) Q E := fun b hb {Q E} q => by
          have e := cmp_inS (S := S) (l := KW) hb
          rw [show (KW.map D.str) = [D.str "deed", D.str "do", D.str "else", D.str "give", D.str "if", D.str "let", D.str "more", D.str "read", D.str "row", D.str "while", D.str "write"] from rfl] at e
          rw [e]
          exact q
        refine e _ rfl ?_
        refine tb (fun h3 => ?_) fun h3 => ?_
        · walk_at "zt"
          exact no (by rw [h3]; simp)
        · walk_at "zt"
          refine w_lc (fun i acc S' => S' = S ++ [.lst acc] ∧ acc = ((tl x).take i).map fun c => D.bl (low c)) ?_ ?_ ⟨rfl, rfl⟩ ?_ ?_ ?_
          · rintro i acc S' ⟨rfl, rfl⟩
            exact ⟨by rw [lk_app0]; rfl, by simp; omega⟩
          · simp only [List.length_map]
            show (tl x).length < 16777216
            omega
          · intro i acc S' _
            exact stays_none S'
          · rintro i d acc S' hd ⟨rfl, rfl⟩
            refine ⟨_, by rw [asg_v], ?_⟩
            rw [List.getElem?_map] at hd
            obtain ⟨c, hc, rfl⟩ := Option.map_eq_some_iff.mp hd
            walk_at "zt"
            rw [in_low]
            refine ⟨trivial, trivial, ?_⟩
            rw [List.take_add_one, hc]
            simp
          · rintro acc S' ⟨rfl, rfl⟩
            walk_at "zt"
            refine w_all (bs := (tl x).map low) _ (by rw [rd_lst _ _ _ (by rw [lk_app0]; rfl), List.length_map, List.take_of_length_le (Nat.le_refl _), List.map_map]; rfl) ?_
            refine w_gcp (List.take_left' rfl) rfl ?_
            have eq : nameD (.str x) = (decide (1 ≤ x.length) && decide (x.length ≤ 8) && !KW.contains x && (tl x).all low) := rfl
            rw [eq, h3, show decide (1 ≤ x.length) = true from decide_eq_true (by omega), show decide (x.length ≤ 8) = true from decide_eq_true (by omega)] at q
            simpa using q
      · walk_at "zt"
        exact no (by rw [show decide (x.length ≤ 8) = false from decide_eq_false (by simp at h2; omega)]; simp)
    · walk_at "zt"
      exact no (by rw [show decide (1 ≤ x.length) = false from decide_eq_false (by omega)]; simp)
  all_goals
    walk_at "zs"
    exact q
theorem s_is_name (k : Nat) {d : D} (ht : (tyN S d).isSome = true) (hL : ∀ x, d = .str x → x.length ≤ 1000000) {ds : List D} {kw : List (Str × D)} (hb : bindZ ["value"] [] ds kw = some [d]) (q : Q.f (.bl (nameD d)) S) : @WR (callN pg (k + 2) Str.empty "is_name" ds kw S) Q E := by
  refine w_call lk_is_name (vs := [d]) hb ?_
  simp only [f_is_name]
  walk_at "zs"
  refine s_is_name_form _ ht hL ?_
  walk_at "zs"
  exact q
end
end K03
set_option maxHeartbeats 4000000
namespace K03
open PySem Z Lex TL
local macro_rules | `(tactic| walk_at "zs") => `(tactic| simp -implicitDefEqProofs only [W_ok, W_ex, L_ok, L_ex, S_nx, S_rt, S_bk, S_ct, S_ex, W_if, W_bind, W_bindL, L_bind, L_bindL, S_bindS, S_bindSL, S_bind, T_true, T_false, G_true, slot_some, E_non, E_bl, E_int, E_str, E_v, E_g, ofO_some, E_bin, E_neg, neg_int, E_cmp, E_isN, E_notN, E_chain, E_and, E_or, not_bl, E_not, E_ife, E_tup, E_lst, E_att, E_idx, O_no, so_int, O_so, sl_nn, sl_ni, sl_in, sl_ii, E_sl, B_true, E_call, E_callk, mk_non, E_mk, isFn_fn, nmFn_fn, E_calv, C_some, E_met, E_bi, E_isi, E_bm, E_lc, L_nil, L_cons, T_v, sto_some, T_at, T_ix, T_tp, Ts_nil, Ts_cons, Tl_nil, Tl_cons, S_set, S_par, S_par3, S_exp, S_ret, S_retN, S_iff, S_whl, S_for, S_pass, S_brk, S_cnt, B_nil, B_cons, O_some, O_if, W_gc, ev_cf, ev_cm, ev_low, b_addI, b_subI, b_addS, b_addT, b_mulI, b_fdivI, b_modI, b_powI, r_lt, r_le, r_gt, r_ge, r_eqI, r_eqS, r_eqB, r_neI, r_neS, r_neB, g_tup, sl_tup, bi_lenT, bi_lenS, bi_abs, bi_intI, bi_intB, bi_strI, bi_strS, bi_max, bi_min, bi_divmod, bi_tupT, bi_lstT, isi_non, isi_bl, isi_int, isi_str, isi_tup, src_tup, src_str, src_r1, src_r2, List.getElem?_cons_zero, List.getElem?_cons_succ, List.set_cons_zero, List.set_cons_succ, List.length_cons, List.length_nil, Nat.zero_add, List.map_cons, List.map_nil, List.replicate, List.cons_append, List.nil_append, D.isNon, Nat.reduceAdd, Nat.reduceSub, Nat.reduceLT, Bool.not_true, Bool.not_false, List.any_cons, List.any_nil, isB, Bool.or_false, Bool.false_or, Bool.or_true, Bool.true_or, rdO_lst, rdO_frz, atRd_some, o_get, slRd_some, o_slc, lenRd_some, o_len, tupRd_some, o_tup, lstRd_some, o_lst, isRd_some, o_isi, o_app, o_ext, o_pop, appRd_some, o_bapp, o_bpop, setRd_some, o_setI, srcRd_some, o_src, some_so, g_str, sl_str, chR_some, in_sign, nin_sign, at0, at1, at2, ix30, ix31, ix32, A_some, asg_v, stays_none, addRd_some, o_add, chn_le, chn_lt, tellOk_some, tellOk_none, wp_nil, wp_cons, bm_split, bm_isalnum, bma_split, bma_isalnum, bma_join, told__law_told, tell__law_told_InvalidText, tell__law_told_Unread, fn_is_name_form, fn_end_of_run, fn_is_number_sign, fn_sign_from, fn_signs_in, fn_signs, fn_is_name, fn__law_pail, fn__law_deal, fn__law_any, fn__law_key_words, fn__law_names, fn__law_respaced, fn__law_is_name, fn__law_one_sign, fn__law_right, fn_law, gt_MOST_WORD, gt_MOST_LETTERS, gt_LETTERS, gt_KEY_WORDS, gt_FIGURES, gt_SINGLE, gt_PARTING])
local macro_rules | `(tactic| walk_at "zb") => `(tactic| simp -implicitDefEqProofs only [W_ok, W_ex, L_ok, L_ex, S_nx, S_rt, S_bk, S_ct, S_ex, W_if, W_bind, W_bindL, L_bind, L_bindL, S_bindS, S_bindSL, S_bind, T_true, T_false, G_true, slot_some, E_non, E_bl, E_int, E_str, E_v, E_g, ofO_some, E_bin, E_neg, neg_int, E_cmp, E_isN, E_notN, E_chain, E_and, E_or, not_bl, E_not, E_ife, E_tup, E_lst, E_att, E_idx, O_no, so_int, O_so, sl_nn, sl_ni, sl_in, sl_ii, E_sl, B_true, E_call, E_callk, mk_non, E_mk, isFn_fn, nmFn_fn, E_calv, C_some, E_met, E_bi, E_isi, E_bm, E_lc, L_nil, L_cons, T_v, sto_some, T_at, T_ix, T_tp, Ts_nil, Ts_cons, Tl_nil, Tl_cons, S_set, S_par, S_par3, S_exp, S_ret, S_retN, S_iff, S_whl, S_for, S_pass, S_brk, S_cnt, B_nil, O_some, O_if, W_gc, ev_cf, ev_cm, ev_low, b_addI, b_subI, b_addS, b_addT, b_mulI, b_fdivI, b_modI, b_powI, r_lt, r_le, r_gt, r_ge, r_eqI, r_eqS, r_eqB, r_neI, r_neS, r_neB, g_tup, sl_tup, bi_lenT, bi_lenS, bi_abs, bi_intI, bi_intB, bi_strI, bi_strS, bi_max, bi_min, bi_divmod, bi_tupT, bi_lstT, isi_non, isi_bl, isi_int, isi_str, isi_tup, src_tup, src_str, src_r1, src_r2, List.getElem?_cons_zero, List.getElem?_cons_succ, List.set_cons_zero, List.set_cons_succ, List.length_cons, List.length_nil, Nat.zero_add, List.map_cons, List.map_nil, List.replicate, List.cons_append, List.nil_append, D.isNon, Nat.reduceAdd, Nat.reduceSub, Nat.reduceLT, Bool.not_true, Bool.not_false, List.any_cons, List.any_nil, isB, Bool.or_false, Bool.false_or, Bool.or_true, Bool.true_or, rdO_lst, rdO_frz, atRd_some, o_get, slRd_some, o_slc, lenRd_some, o_len, tupRd_some, o_tup, lstRd_some, o_lst, isRd_some, o_isi, o_app, o_ext, o_pop, appRd_some, o_bapp, o_bpop, setRd_some, o_setI, srcRd_some, o_src, some_so, g_str, sl_str, chR_some, in_sign, nin_sign, at0, at1, at2, ix30, ix31, ix32, A_some, asg_v, stays_none, addRd_some, o_add, chn_le, chn_lt, tellOk_some, tellOk_none, wp_nil, wp_cons, bm_split, bm_isalnum, bma_split, bma_isalnum, bma_join, told__law_told, tell__law_told_InvalidText, tell__law_told_Unread, fn_is_name_form, fn_end_of_run, fn_is_number_sign, fn_sign_from, fn_signs_in, fn_signs, fn_is_name, fn__law_pail, fn__law_deal, fn__law_any, fn__law_key_words, fn__law_names, fn__law_respaced, fn__law_is_name, fn__law_one_sign, fn__law_right, fn_law, gt_MOST_WORD, gt_MOST_LETTERS, gt_LETTERS, gt_KEY_WORDS, gt_FIGURES, gt_SINGLE, gt_PARTING])
local macro_rules | `(tactic| walk_at "zd") => `(tactic| repeat (first
  | walk_at "zs"
  | refine inn_w (b := true) (by decide +kernel) ?_
  | refine inn_w (b := false) (by decide +kernel) ?_
  | refine nin_w (b := true) (by decide +kernel) ?_
  | refine nin_w (b := false) (by decide +kernel) ?_
  | refine tbT (by decide +kernel) ?_
  | refine tbF (by decide +kernel) ?_
  | refine wg (by decide +kernel) ?_))
local macro_rules | `(tactic| walk_at "ze") => `(tactic| repeat (first
  | walk_at "zb"
  | refine inn_w (b := true) (by decide +kernel) ?_
  | refine inn_w (b := false) (by decide +kernel) ?_
  | refine nin_w (b := true) (by decide +kernel) ?_
  | refine nin_w (b := false) (by decide +kernel) ?_
  | refine tbT (by decide +kernel) ?_
  | refine tbF (by decide +kernel) ?_
  | refine wg (by decide +kernel) ?_))
local macro_rules | `(tactic| walk_at "uf") => `(tactic| (walk_at "zd"; simp -implicitDefEqProofs only [F_cons, F_nil]; walk_at "zd"))
local macro_rules | `(tactic| walk_at "st") => `(tactic| simp -implicitDefEqProofs only [List.append_assoc, List.length_append, lk_app, lk_app0, st_set, st_set0, List.cons_append, List.nil_append, List.length_cons, List.length_nil, Nat.zero_add, Nat.reduceAdd, Nat.add_assoc, List.getElem?_cons_zero, List.getElem?_cons_succ, List.set_cons_zero, List.set_cons_succ])
local macro_rules | `(tactic| walk_at "dat") => `(tactic| simp -implicitDefEqProofs only [DEEP, d_non, d_bl, d_int, d_str, tupP_some, lstP_some, d_tup, datRd_some, d_ref, consP_some, dl_nil, dl_cons, lk_app, lk_app0, List.append_assoc, List.length_append, List.cons_append, List.nil_append, List.length_cons, List.length_nil, Nat.zero_add, Nat.reduceAdd, Nat.add_assoc, List.getElem?_cons_zero, List.getElem?_cons_succ])
local macro_rules | `(tactic| walk_at "zt") => `(tactic| repeat (first
  | walk_at "zs"
  | walk_at "st"
  | refine inn_w (b := true) (by decide +kernel) ?_
  | refine inn_w (b := false) (by decide +kernel) ?_
  | refine nin_w (b := true) (by decide +kernel) ?_
  | refine nin_w (b := false) (by decide +kernel) ?_
  | refine tbT (by decide +kernel) ?_
  | refine tbF (by decide +kernel) ?_
  | refine wg (by decide +kernel) ?_))

section
variable {S : Sto} {Q : KQ} {E : KE} {n : Nat}
theorem s_deal (k : Nat) {top : Int} (hp : Pail S n) (ht : 0 < top ∧ top < 1073741824) (q : ∀ (r : Int) (S' : Sto), 0 ≤ r → r < top → Kp n S S' → S'.length = S.length → Q.f (.int r) S') : @WR (callN pg (k + 1) Str.empty "_law_deal" [.ref n, .int top] [] S) Q E := by
  have hl := hp.lt
  obtain ⟨a, b, c, hS⟩ := hp
  refine w_call lk__law_deal (vs := [.ref n, .int top]) rfl ?_
  simp only [f__law_deal]
  have h0 : ∀ x : Ob, (S.set n x)[n]? = some x := fun x => lk_set hl
  have fin : ∀ {S' : Sto} {r : Int}, 0 ≤ r → r < top → (∃ x y z : Int, S' = S.set n (.lst [.int x, .int y, .int z])) → @WR (gc S (.int r) S') Q E := by
    rintro S' r h1 h2 ⟨x, y, z, rfl⟩
    refine w_gcr rfl (fun S' => Kp n S S' ∧ S'.length = S.length) ⟨Kp.set hl, by simp⟩ (fun _ => ⟨Kp.refl ⟨a, b, c, hS⟩, rfl⟩) fun S'' h => q r S'' h1 h2 h.1 h.2
  walk_at "zs"
  simp only [hS]
  walk_at "zs"
  refine tbd (fun h => ?_) fun h => ?_
  · walk_at "zs"
    simp only [hS]
    walk_at "zs"
    refine wg ht ?_
    walk_at "zs"
    simp only [hS]
    walk_at "zs"
    exact fin (Int.emod_nonneg _ (by omega)) (Int.emod_lt_of_pos _ ht.1) ⟨_, _, _, rfl⟩
  · walk_at "zs"
    simp only [hS]
    walk_at "zs"
    simp only [hS]
    walk_at "zs"
    have hb : ∀ i j : Int, 0 ≤ i → i < 2147483423 → (small i || small j) = true := fun i j h1 h2 => by
      unfold small
      simp only [Bool.or_eq_true, Bool.and_eq_true, decide_eq_true_eq]
      omega
    simp only [h0]
    walk_at "zs"
    refine wg (by unfold small; simp only [Bool.or_eq_true, Bool.and_eq_true, decide_eq_true_eq]; omega) ?_
    walk_at "zs"
    simp only [h0]
    walk_at "zs"
    refine wg (by unfold small; simp only [Bool.or_eq_true, Bool.and_eq_true, decide_eq_true_eq]; omega) ?_
    walk_at "zd"
    rw [Int.fmod_eq_emod_of_nonneg _ (by decide)]
    generalize hm : (b * 15511 + 11903 * (c + 1)) % 2147483423 = m
    have m0 : 0 ≤ m := by omega
    have m1 : m < 2147483423 := by omega
    refine wg (hb _ _ m0 m1) ?_
    walk_at "zd"
    simp only [h0]
    walk_at "zs"
    refine wg (by unfold small; simp only [Bool.or_eq_true, Bool.and_eq_true, decide_eq_true_eq]; omega) ?_
    walk_at "zd"
    simp only [h0]
    walk_at "zd"
    simp only [h0, List.set_set]
    walk_at "zd"
    refine wg (by omega) ?_
    walk_at "zd"
    rw [Int.fmod_eq_emod_of_nonneg _ (by omega)]
    exact fin (Int.emod_nonneg _ (by omega)) (Int.emod_lt_of_pos _ ht.1) ⟨_, _, _, rfl⟩
theorem s_any_tup (k : Nat) {l : List D} (hp : Pail S n) (hl : 0 < l.length) (hL : l.length < 1073741824) (q : ∀ (d : D) (S' : Sto), d ∈ l → Kp n S S' → S'.length = S.length → Q.f d S') : @WR (callN pg (k + 2) Str.empty "_law_any" [.ref n, .tup l] [] S) Q E := by
  refine w_call lk__law_any (vs := [.ref n, .tup l]) rfl ?_
  simp only [f__law_any]
  walk_at "zd"
  refine s_deal _ hp (by omega) fun r S' h1 h2 h3 h4 => ?_
  obtain ⟨d, hd, e⟩ := lk_nat h1 h2
  walk_at "zd"
  rw [e]
  walk_at "zd"
  exact w_gcl h4 (q d S' hd h3 h4)
theorem s_any_ref (k : Nat) {m : Nat} {l : List D} (hp : Pail S n) (hm : S[m]? = some (.lst l)) (hn : m ≠ n) (hl : 0 < l.length) (hL : l.length < 1073741824) (q : ∀ (d : D) (S' : Sto), d ∈ l → Kp n S S' → S'.length = S.length → Q.f d S') : @WR (callN pg (k + 2) Str.empty "_law_any" [.ref n, .ref m] [] S) Q E := by
  refine w_call lk__law_any (vs := [.ref n, .ref m]) rfl ?_
  simp only [f__law_any]
  walk_at "zd"
  simp only [hm]
  walk_at "zd"
  refine s_deal _ hp (by omega) fun r S' h1 h2 h3 h4 => ?_
  obtain ⟨d, hd, e⟩ := lk_nat h1 h2
  walk_at "zd"
  rw [h3.old m (lt_of_lk hm) hn, hm]
  walk_at "zd"
  rw [e]
  walk_at "zd"
  exact w_gcl h4 (q d S' hd h3 h4)
theorem s_pail (k : Nat) {s : Nat} {ns : List Int} {turn : Int} (hS : S[s]? = some (.frz (ns.map D.int))) (ht : 0 ≤ turn) (q : ∀ a b c : Int, Q.f (.ref S.length) (S ++ [.lst [.int a, .int b, .int c]])) : @WR (callN pg (k + 1) Str.empty "_law_pail" [.ref s, .int turn] [] S) Q E := by
  have hs := lt_of_lk hS
  refine w_call lk__law_pail (vs := [.ref s, .int turn]) rfl ?_
  simp only [f__law_pail]
  walk_at "zd"
  refine wg (small_lit (.inl (by decide +kernel))) ?_
  walk_at "zd"
  rw [hS]
  walk_at "zd"
  rw [lk_app0]
  walk_at "zd"
  refine w_for (fun _ ρ S' => S' = S ++ [.lst (cut (ns.map D.int) none (some 12))] ∧ ∃ (m : Int) (c : Option D), ρ = [some (.ref s), some (.int turn), some (.int m), c, none]) ⟨rfl, _, _, rfl⟩ ?_ ?_ ?_
  · rintro i ρ S' ⟨rfl, _⟩
    exact stays_of (rd_lst _ _ _ (by rw [lk_app0]; rfl))
  · rintro i d ρ S' hd ⟨rfl, m, c, rfl⟩
    refine ⟨_, by rw [asg_v], ?_⟩
    obtain ⟨z, _, rfl⟩ := List.mem_map.mp (mem_cut hd)
    walk_at "zd"
    refine wg (small_lit (.inr (by decide +kernel))) ?_
    walk_at "zd"
    refine wg (small_lit (.inr (by decide +kernel))) ?_
    walk_at "zd"
    exact ⟨trivial, _, _, rfl⟩
  · rintro ρ S' ⟨rfl, m, c, rfl⟩
    refine seq (fun ρ' S' => S' = S ++ [.lst (cut (ns.map D.int) none (some 12))] ∧ ∃ own : Int, ρ' = [some (.ref s), some (.int turn), some (.int m), c, some (.int own)]) ?_ ?_
    · walk_at "zd"
      rw [lk_old hs, hS]
      walk_at "zd"
      refine tbd (fun h => ?_) fun h => ?_
      · walk_at "zd"
        rw [lk_old hs, hS]
        walk_at "zd"
        obtain ⟨d, hd, e⟩ := lk_nat (l := ns.map D.int) ht (by simpa using h)
        obtain ⟨z, _, rfl⟩ := List.mem_map.mp hd
        rw [e]
        walk_at "zs"
        exact ⟨trivial, z, rfl⟩
      · walk_at "zs"
        exact ⟨trivial, 0, rfl⟩
    · rintro ρ' S' ⟨rfl, own, rfl⟩
      walk_at "zd"
      refine wg (small_lit (.inr (by decide +kernel))) ?_
      walk_at "zd"
      refine wg (small_lit (.inr (by decide +kernel))) ?_
      walk_at "zd"
      have last : ∀ a b : Int, @WR (gc S (.ref (S ++ [Ob.lst (cut (ns.map D.int) none (some 12))]).length) ((S ++ [Ob.lst (cut (ns.map D.int) none (some 12))]) ++ [Ob.lst [.int a, .int b, .int 0]])) Q E := fun a b =>
        w_gcn (by rw [List.append_assoc]; exact List.take_left' rfl) (by simp) (by rw [lk_app0]; rfl) rfl (q a b 0)
      refine tbd (fun h => ?_) fun h => ?_
      · walk_at "zd"
        exact last _ _
      · walk_at "zd"
        refine tbd (fun h2 => ?_) fun h2 => ?_
        · walk_at "zd"
          exact last _ _
        · walk_at "zd"
          exact last _ _
end

theorem slen_app (a b : Str) : (a ++ b).length = a.length + b.length := by rw [len_tl, tl_append, List.length_append, ← len_tl, ← len_tl]
theorem kp_setn {n m : Nat} {S S' : Sto} {o : Ob} (k : Kp n S S') (h : S.length ≤ m) (hm : m ≠ n) : Kp n S (S'.set m o) := by
  refine ⟨by rw [List.length_set]; exact k.len, fun j h1 h2 => ?_, ?_⟩
  · rw [lk_set_ne (by omega), k.old j h1 h2]
  · obtain ⟨a, b, c, e⟩ := k.pl
    exact ⟨a, b, c, by rw [lk_set_ne hm, e]⟩
theorem nd_le {α : Type} [DecidableEq α] : ∀ {a b : List α}, a.Nodup → (∀ x ∈ a, x ∈ b) → a.length ≤ b.length
  | [], b, _, _ => Nat.zero_le _
  | x :: a, b, h, hs => by
    have hx := hs x (by simp)
    have h1 := List.nodup_cons.mp h
    have := nd_le (a := a) (b := b.erase x) h1.2 fun y hy => by
      refine (List.mem_erase_of_ne ?_).mpr (hs y (by simp [hy]))
      rintro rfl
      exact h1.1 hy
    rw [List.length_erase_of_mem hx] at this
    have := List.length_pos_of_mem hx
    simp only [List.length_cons]
    omega
def LT : List Nat := [97,98,99,100,101,102,103,104,105,106,107,108,109,110,111,112,113,114,115,116,117,118,119,120,121,122]
theorem tl_LT : tl "abcdefghijklmnopqrstuvwxyz" = LT := by decide +kernel
def kwL : List Str := ["deed", "do", "else", "give", "if", "let", "more", "read", "row", "while", "write"]
structure NameOk (w : Str) : Prop where
  low : ∀ c ∈ tl w, c ∈ LT
  pos : 1 ≤ (tl w).length
  le : (tl w).length ≤ 7
  kw : kwL.contains w = false
section
variable {S : Sto} {Q : KQ} {E : KE} {n : Nat}
theorem s_kw (k : Nat) (q : Q.f (.ref S.length) (S ++ [.lst (kwL.map D.str)])) : @WR (callN pg (k + 1) Str.empty "_law_key_words" [] [] S) Q E := by
  refine w_call lk__law_key_words (vs := []) rfl ?_
  simp only [f__law_key_words]
  walk_at "zd"
  rw [show Txt.split "deed do else give if let more read row while write" " " = kwL by decide +kernel]
  exact w_gcn (List.take_left' rfl) (Nat.le_refl _) (by rw [lk_app0]; rfl) (pure_strs _) q
theorem s_any_str (k : Nat) {x : Str} (hp : Pail S n) (hl : 0 < (tl x).length) (hL : (tl x).length < 1000000) (q : ∀ (c : Nat) (S' : Sto), c ∈ tl x → Kp n S S' → S'.length = S.length → Q.f (.str ⟨#[c]⟩) S') : @WR (callN pg (k + 2) Str.empty "_law_any" [.ref n, .str x] [] S) Q E := by
  refine w_call lk__law_any (vs := [.ref n, .str x]) rfl ?_
  simp only [f__law_any]
  have hlen := len_tl x
  have hLL : x.length ≤ LINE := by unfold LINE; omega
  walk_at "zd"
  refine wg hLL ?_
  walk_at "zd"
  refine s_deal _ hp (by omega) fun r S' h1 h2 h3 h4 => ?_
  obtain ⟨d, hd, e⟩ := lk_nat (l := tl x) h1 (by omega)
  walk_at "zd"
  refine wg hLL ?_
  rw [e]
  walk_at "zd"
  exact w_gcl h4 (q d S' hd h3 h4)
end
def near (w : Str) (c : Nat) : List Str := w :: LT.map fun d => L2.cutS w none (some 5) ++ (⟨#[c]⟩ : Str) ++ (⟨#[d]⟩ : Str)
theorem near_tl (w : Str) (c d : Nat) : tl (L2.cutS w none (some 5) ++ (⟨#[c]⟩ : Str) ++ (⟨#[d]⟩ : Str)) = (tl w).take 5 ++ [c] ++ [d] := by
  have h1 : tl (⟨#[c]⟩ : Str) = [c] := rfl
  have h2 : tl (⟨#[d]⟩ : Str) = [d] := rfl
  rw [tl_append, tl_append, h1, h2, show (some (5 : Int)) = some ((5 : Nat) : Int) from rfl, cut_to]
theorem near_ok {w : Str} {c : Nat} {l : List Str} (hw : ∀ z ∈ tl w, z ∈ LT) (h1 : 1 ≤ (tl w).length) (h2 : (tl w).length ≤ 6) (hc : c ∈ LT) (hl : l.length ≤ 14) :
    ∃ x r, (near w c).filter (fun x => !l.contains x && !kwL.contains x) = x :: r ∧ NameOk x ∧ x ∉ l := by
  have ne : (near w c).filter (fun x => !l.contains x && !kwL.contains x) ≠ [] := by
    intro h
    have hn : (LT.map fun d => L2.cutS w none (some 5) ++ (⟨#[c]⟩ : Str) ++ (⟨#[d]⟩ : Str)).Nodup := by
      refine List.pairwise_map.mpr ?_
      refine List.Pairwise.imp (R := fun a b => a ≠ b) ?_ (by decide : LT.Nodup)
      intro a b hab e
      have := congrArg tl e
      rw [near_tl, near_tl] at this
      have := List.append_cancel_left this
      exact hab (by simpa using this)
    have hs : ∀ x ∈ (LT.map fun d => L2.cutS w none (some 5) ++ (⟨#[c]⟩ : Str) ++ (⟨#[d]⟩ : Str)), x ∈ l ++ kwL := by
      intro x hx
      have := List.filter_eq_nil_iff.mp h x (by unfold near; exact List.mem_cons_of_mem _ hx)
      simp only [Bool.and_eq_true, Bool.not_eq_true', not_and, Bool.not_eq_false, List.contains_eq_mem, decide_eq_true_eq, decide_eq_false_iff_not] at this
      by_cases hl : x ∈ l
      · exact List.mem_append_left _ hl
      · exact List.mem_append_right _ (Decidable.not_not.mp (this hl))
    have := nd_le hn hs
    have e1 : (LT.map fun d => L2.cutS w none (some 5) ++ (⟨#[c]⟩ : Str) ++ (⟨#[d]⟩ : Str)).length = 26 := by rw [List.length_map]; rfl
    have e2 : kwL.length = 11 := rfl
    rw [e1, List.length_append, e2] at this
    omega
  cases hf : (near w c).filter (fun x => !l.contains x && !kwL.contains x) with
  | nil => exact absurd hf ne
  | cons x r =>
    have hm : x ∈ (near w c).filter (fun x => !l.contains x && !kwL.contains x) := by rw [hf]; simp
    obtain ⟨hm, hp⟩ := List.mem_filter.mp hm
    simp only [Bool.and_eq_true, Bool.not_eq_true', List.contains_eq_mem, decide_eq_false_iff_not] at hp
    refine ⟨x, r, rfl, ?_, hp.1⟩
    have hk : kwL.contains x = false := by rw [List.contains_eq_mem, decide_eq_false_iff_not]; exact hp.2
    unfold near at hm
    rcases List.mem_cons.mp hm with rfl | hm
    · exact ⟨hw, h1, by omega, hk⟩
    · obtain ⟨d, hd, rfl⟩ := List.mem_map.mp hm
      refine ⟨?_, ?_, ?_, hk⟩
      · rw [near_tl]
        intro z hz
        simp only [List.mem_append, List.mem_singleton] at hz
        rcases hz with (hz | rfl) | rfl
        · exact hw z (List.mem_of_mem_take hz)
        · exact hc
        · exact hd
      · rw [near_tl]; simp
      · rw [near_tl]; simp; omega
section
variable {S : Sto} {Q : KQ} {E : KE} {n : Nat}
theorem s_names (k : Nat) (hp : Pail S n) {many : Nat} (hm : many ≤ 14) (q : ∀ (m : Nat) (S' : Sto) (l : List Str), l.length = many → (∀ w ∈ l, NameOk w) → l.Nodup → S.length ≤ m → S'[m]? = some (.lst (l.map D.str)) → Kp n S S' → Q.f (.ref m) S') : @WR (callN pg (k + 3) Str.empty "_law_names" [.ref n, .int (many : Int)] [] S) Q E := by
  have hb : bindZ (f__law_names.N.take f__law_names.np) f__law_names.dfl [.ref n, .int (many : Int)] [] = some [.ref n, .int (many : Int)] := rfl
  have hl := lk__law_names
  rw [show k + 3 = k + 2 + 1 from rfl]
  rw [callN_some hl, runF_eq hb, W_end]
  simp only [f__law_names]
  have hlt := hp.lt
  walk_at "zd"
  refine wg (by omega) ?_
  walk_at "zd"
  refine w_for (fun i ρ S' => ∃ (l : List Str) (o2 o5 o6 o7 : Option D), l.length = i ∧ (∀ w ∈ l, NameOk w) ∧ l.Nodup ∧ S'[S.length]? = some (.lst (l.map D.str)) ∧ Kp n S S' ∧ ρ = [some (.ref n), some (.int (many : Int)), o2, some (.str "abcdefghijklmnopqrstuvwxyz"), some (.ref S.length), o5, o6, o7, none, none]) ⟨[], _, _, _, _, rfl, (fun w h => by cases h), List.nodup_nil, by rw [lk_app0]; rfl, (Kp.refl hp).app, rfl⟩ (fun _ _ _ _ => stays_none _) ?_ ?_
  · rintro i d ρ S1 hd ⟨l, o2, o5, o6, o7, hl, hok, hnd, hS1, k1, rfl⟩
    refine ⟨_, by rw [asg_v], ?_⟩
    rw [List.getElem?_map] at hd
    obtain ⟨i', hi', rfl⟩ := Option.map_eq_some_iff.mp hd
    obtain ⟨hi1, hi2⟩ := List.getElem?_eq_some_iff.mp hi'
    simp at hi1 hi2
    subst hi2
    have him : i < many := by omega
    have hne : S.length ≠ n := by omega
    simp only [B_cons]
    walk_at "ze"
    refine seq (fun ρ' S' => ∃ (w : Str) (o6 : Option D), (∀ c ∈ tl w, c ∈ LT) ∧ 1 ≤ (tl w).length ∧ (tl w).length ≤ 6 ∧ Kp n S1 S' ∧ ρ' = [some (.ref n), some (.int (many : Int)), some (.int (i : Int)), some (.str "abcdefghijklmnopqrstuvwxyz"), some (.ref S.length), some (.str w), o6, o7, none, none]) ?_ ?_
    · walk_at "zt"
      refine s_any_ref _ (l := [D.int 1, D.int 1, D.int 2, D.int 3, D.int 6]) k1.pl.app (by rw [lk_app0]; rfl) (by have := k1.len; omega) (by simp) (by simp) fun d S2 hd k2 l2 => ?_
      have hr : ∃ r : Nat, d = .int (r : Int) ∧ 1 ≤ r ∧ r ≤ 6 := by
        simp only [List.mem_cons, List.not_mem_nil, or_false] at hd
        rcases hd with rfl | rfl | rfl | rfl | rfl
        · exact ⟨1, rfl, by decide, by decide⟩
        · exact ⟨1, rfl, by decide, by decide⟩
        · exact ⟨2, rfl, by decide, by decide⟩
        · exact ⟨3, rfl, by decide, by decide⟩
        · exact ⟨6, rfl, by decide, by decide⟩
      obtain ⟨r, hr, r1, r2⟩ := hr
      subst hr
      have k2' : Kp n S1 S2 := ((Kp.refl k1.pl).app).trans k2
      walk_at "zt"
      refine wg (by omega) ?_
      walk_at "zt"
      refine w_for (fun j ρ S' => ∃ (w : Str) (o6 : Option D), (∀ c ∈ tl w, c ∈ LT) ∧ (tl w).length = j ∧ Kp n S1 S' ∧ ρ = [some (.ref n), some (.int (many : Int)), some (.int (i : Int)), some (.str "abcdefghijklmnopqrstuvwxyz"), some (.ref S.length), some (.str w), o6, o7, none, none]) ⟨"", _, (fun c h => by cases h), rfl, k2', rfl⟩ (fun _ _ _ _ => stays_none _) ?_ ?_
      · rintro j d ρ S3 hd ⟨w, o6, hw, hwl, k3, rfl⟩
        refine ⟨_, by rw [asg_v], ?_⟩
        have hj : j < r := by
          have := (List.getElem?_eq_some_iff.mp hd).1
          simpa using this
        walk_at "zt"
        refine s_any_str _ k3.pl (by rw [tl_LT]; decide) (by rw [tl_LT]; decide) fun c S4 hc k4 l4 => ?_
        walk_at "zt"
        have e1 : (⟨#[c]⟩ : Str).length = 1 := rfl
        refine wg (by have := len_tl w; unfold LINE; omega) ?_
        walk_at "zt"
        refine ⟨_, _, ?_, ?_, k3.trans k4, rfl⟩
        · intro z hz
          rw [tl_append] at hz
          rcases List.mem_append.mp hz with hz | hz
          · exact hw z hz
          · have : z = c := by simpa using hz
            rw [this, ← tl_LT]
            exact hc
        · rw [tl_append, List.length_append, hwl]
          rfl
      · rintro ρ S3 ⟨w, o6, hw, hwl, k3, rfl⟩
        have hwl : (tl w).length = r := by simpa using hwl
        exact ⟨w, o6, hw, by omega, by omega, k3, rfl⟩
    · rintro ρ S2 ⟨w, o6, hw, w1, w2, k2, rfl⟩
      obtain ⟨c, hc⟩ : ∃ c, LT[i % 26]? = some c := ⟨_, List.getElem?_eq_getElem (by have : LT.length = 26 := rfl; omega)⟩
      have hcm := List.mem_of_getElem? hc
      have wl := len_tl w
      have hLT : (Str.ofString "abcdefghijklmnopqrstuvwxyz").cps.toList = LT := tl_LT
      refine seq (fun ρ' B => Kp n S B ∧ B[S.length]? = some (.lst (l.map D.str)) ∧ ∃ mm : Nat, B[mm]? = some (.lst ((near w c).map D.str)) ∧ mm ≠ n ∧ ρ' = [some (.ref n), some (.int (many : Int)), some (.int (i : Int)), some (.str "abcdefghijklmnopqrstuvwxyz"), some (.ref S.length), some (.str w), o6, some (.ref mm), none, none]) ?_ ?_
      · walk_at "zt"
        have hfm : (i : Int).fmod 26 = ((i % 26 : Nat) : Int) := by rw [Int.fmod_eq_emod_of_nonneg _ (by decide)]; rfl
        refine w_lc (fun j acc S' => S' = S2 ++ [.lst [D.str w], .lst acc] ∧ acc = (((near w c).drop 1).take j).map D.str) ?_ ?_ ⟨rfl, rfl⟩ ?_ ?_ ?_
        · rintro j acc S' ⟨e1, e2⟩
          subst e1
          subst e2
          refine ⟨?_, by simp; omega⟩
          walk_at "st"
        · rw [hLT, List.length_map]
          show 26 < 16777216
          omega
        · intro j acc S' _
          exact stays_none S'
        · rintro j d acc S' hd ⟨e1, e2'⟩
          refine ⟨_, by rw [asg_v], ?_⟩
          subst e1
          rw [hLT, List.getElem?_map] at hd
          obtain ⟨z, hz, hd⟩ := Option.map_eq_some_iff.mp hd
          subst hd
          walk_at "zt"
          refine wg (by unfold LINE; omega) ?_
          walk_at "zt"
          rw [hfm, tl_LT, at_nat hc]
          walk_at "zt"
          have e1 : (⟨#[c]⟩ : Str).length = 1 := rfl
          have e2 : (⟨#[z]⟩ : Str).length = 1 := rfl
          have e3 : (L2.cutS w none (some 5)).length ≤ 5 := by
            rw [len_tl, show (some (5 : Int)) = some ((5 : Nat) : Int) from rfl, cut_to]
            simp
            omega
          refine wg (by unfold LINE; omega) ?_
          walk_at "zt"
          refine wg (by rw [slen_app, e1, e2]; unfold LINE; omega) ?_
          walk_at "zt"
          refine ⟨by trivial, by trivial, ?_⟩
          have hd1 : (near w c).drop 1 = LT.map fun d => L2.cutS w none (some 5) ++ (⟨#[c]⟩ : Str) ++ (⟨#[d]⟩ : Str) := rfl
          rw [List.take_add_one, hd1, List.getElem?_map, hz, e2', hd1]
          simp
        · rintro acc S3 ⟨e1, e2⟩
          subst e1
          have ea : acc = ((near w c).drop 1).map D.str := by
            rw [e2, hLT, List.length_map, List.take_of_length_le]
            show ((near w c).drop 1).length ≤ LT.length
            unfold near
            simp
          have al : acc.length = 26 := by rw [ea, List.length_map]; rfl
          have eb : D.str w :: acc = (near w c).map D.str := by rw [ea]; rfl
          walk_at "zt"
          refine wg (by unfold LINE; omega) ?_
          walk_at "zt"
          rw [eb]
          refine ⟨(k1.trans k2).app, ?_, S2.length + 2, by rw [lk_app]; rfl, ?_, rfl⟩
          · have := lt_of_lk hS1
            have h2 := k2.len
            rw [lk_old (by omega), k2.old _ this hne, hS1]
          · have := lt_of_lk hS1
            have := k2.len
            have := k1.len
            omega
      · rintro ρ B ⟨kB, hB1, mm, hB2, hmm, rfl⟩
        walk_at "zd"
        rw [hB1]
        walk_at "zd"
        rw [hB2]
        walk_at "zd"
        refine w_lc (fun j acc S' => Kp n B S' ∧ S'[B.length]? = some (.lst acc) ∧ acc = (((near w c).take j).filter fun x => !l.contains x && !kwL.contains x).map D.str) ?_ ?_ ⟨(Kp.refl kB.pl).app, by rw [lk_app0]; rfl, rfl⟩ ?_ ?_ ?_
        · rintro j acc S' ⟨k4, h4, e4⟩
          subst e4
          refine ⟨h4, ?_⟩
          rw [List.length_map]
          refine Nat.le_trans (List.length_filter_le _ _) ?_
          simp
          omega
        · rw [List.length_map]
          show 27 < 16777216
          omega
        · rintro j acc S' ⟨k4, h4, e4⟩
          refine stays_of (rd_lst _ _ _ ?_)
          have := kB.pl.lt
          rw [k4.old _ (lt_of_lk hB2) hmm, hB2]
        · rintro j d acc S' hd ⟨k4, h4, e4⟩
          refine ⟨_, by rw [asg_v], ?_⟩
          rw [List.getElem?_map] at hd
          obtain ⟨z, hz, hd⟩ := Option.map_eq_some_iff.mp hd
          subst hd
          walk_at "zd"
          have hf : S'[S.length]? = some (.lst (l.map D.str)) := by rw [k4.old _ (lt_of_lk hB1) hne, hB1]
          have hbn : B.length ≠ n := by
            have := kB.pl.lt
            omega
          have hstep : ((near w c).take (j + 1)).filter (fun x => !l.contains x && !kwL.contains x) = ((near w c).take j).filter (fun x => !l.contains x && !kwL.contains x) ++ (if (!l.contains z && !kwL.contains z) then [z] else []) := by
            rw [List.take_add_one, hz, List.filter_append]
            congr 1
            rw [Option.toList_some, List.filter_cons]
            rfl
          refine nin_strs S' hf rfl ?_
          refine tb (fun h1 => ?_) fun h1 => ?_
          · walk_at "zd"
            refine s_kw _ ?_
            walk_at "zd"
            refine nin_strs _ (l := kwL) (by rw [lk_app0]; rfl) rfl ?_
            refine tb (fun h2 => ?_) fun h2 => ?_
            · walk_at "zd"
              have hl4 := lt_of_lk h4
              refine ⟨by rw [lk_old hl4, h4], kp_setn k4.app (Nat.le_refl _) hbn, lk_set (by simp; omega), ?_⟩
              rw [hstep, h1, h2, e4]
              simp
            · walk_at "zd"
              refine ⟨k4.app, by rw [lk_old (lt_of_lk h4), h4], ?_⟩
              rw [hstep, h2, e4]
              simp
          · walk_at "zd"
            refine ⟨k4, h4, ?_⟩
            rw [hstep, h1, e4]
            simp
        · rintro acc S' ⟨k4, h4, e4⟩
          have hf : S'[S.length]? = some (.lst (l.map D.str)) := by rw [k4.old _ (lt_of_lk hB1) hne, hB1]
          obtain ⟨x, r, ex, hx, hxl⟩ := near_ok (l := l) hw w1 w2 hcm (by omega)
          rw [List.length_map, List.take_length, ex] at e4
          walk_at "zd"
          rw [h4, e4, List.map_cons]
          walk_at "zd"
          rw [hf]
          walk_at "zd"
          refine wg (by rw [List.length_map]; unfold LINE; omega) ?_
          walk_at "zd"
          refine ⟨l ++ [x], _, _, _, _, by simp [hl], ?_, ?_, ?_, kp_setn (kB.trans k4) (Nat.le_refl _) hne, rfl⟩
          · intro y hy
            rcases List.mem_append.mp hy with hy | hy
            · exact hok y hy
            · have : y = x := by simpa using hy
              rw [this]
              exact hx
          · rw [List.nodup_append]
            refine ⟨hnd, by simp, ?_⟩
            intro a ha b hb e
            have : b = x := by simpa using hb
            rw [e, this] at ha
            exact hxl ha
          · rw [lk_set (lt_of_lk hf), List.map_append]
            rfl
  · rintro ρ S1 ⟨l, o2, o5, o6, o7, hl, hok, hnd, hS1, k1, rfl⟩
    walk_at "zt"
    simp only [List.length_map, List.length_range, Int.toNat_natCast] at hl
    refine w_gcx (P := Kp n S) (ds := l.map D.str) (Nat.le_refl _) hS1 k1 (fun _ => (Kp.refl hp).app) fun m' S2 h1 h2 k2 => ?_
    exact q m' S2 l hl hok hnd h1 h2 k2
end

end K03
set_option maxHeartbeats 400000
namespace K03
open PySem Z Lex TL
local macro_rules | `(tactic| walk_at "zs") => `(tactic| simp -implicitDefEqProofs only [W_ok, W_ex, L_ok, L_ex, S_nx, S_rt, S_bk, S_ct, S_ex, W_if, W_bind, W_bindL, L_bind, L_bindL, S_bindS, S_bindSL, S_bind, T_true, T_false, G_true, slot_some, E_non, E_bl, E_int, E_str, E_v, E_g, ofO_some, E_bin, E_neg, neg_int, E_cmp, E_isN, E_notN, E_chain, E_and, E_or, not_bl, E_not, E_ife, E_tup, E_lst, E_att, E_idx, O_no, so_int, O_so, sl_nn, sl_ni, sl_in, sl_ii, E_sl, B_true, E_call, E_callk, mk_non, E_mk, isFn_fn, nmFn_fn, E_calv, C_some, E_met, E_bi, E_isi, E_bm, E_lc, L_nil, L_cons, T_v, sto_some, T_at, T_ix, T_tp, Ts_nil, Ts_cons, Tl_nil, Tl_cons, S_set, S_par, S_par3, S_exp, S_ret, S_retN, S_iff, S_whl, S_for, S_pass, S_brk, S_cnt, B_nil, B_cons, O_some, O_if, W_gc, ev_cf, ev_cm, ev_low, b_addI, b_subI, b_addS, b_addT, b_mulI, b_fdivI, b_modI, b_powI, r_lt, r_le, r_gt, r_ge, r_eqI, r_eqS, r_eqB, r_neI, r_neS, r_neB, g_tup, sl_tup, bi_lenT, bi_lenS, bi_abs, bi_intI, bi_intB, bi_strI, bi_strS, bi_max, bi_min, bi_divmod, bi_tupT, bi_lstT, isi_non, isi_bl, isi_int, isi_str, isi_tup, src_tup, src_str, src_r1, src_r2, List.getElem?_cons_zero, List.getElem?_cons_succ, List.set_cons_zero, List.set_cons_succ, List.length_cons, List.length_nil, Nat.zero_add, List.map_cons, List.map_nil, List.replicate, List.cons_append, List.nil_append, D.isNon, Nat.reduceAdd, Nat.reduceSub, Nat.reduceLT, Bool.not_true, Bool.not_false, List.any_cons, List.any_nil, isB, Bool.or_false, Bool.false_or, Bool.or_true, Bool.true_or, rdO_lst, rdO_frz, atRd_some, o_get, slRd_some, o_slc, lenRd_some, o_len, tupRd_some, o_tup, lstRd_some, o_lst, isRd_some, o_isi, o_app, o_ext, o_pop, appRd_some, o_bapp, o_bpop, setRd_some, o_setI, srcRd_some, o_src, some_so, g_str, sl_str, chR_some, in_sign, nin_sign, at0, at1, at2, ix30, ix31, ix32, A_some, asg_v, stays_none, addRd_some, o_add, chn_le, chn_lt, tellOk_some, tellOk_none, wp_nil, wp_cons, bm_split, bm_isalnum, bma_split, bma_isalnum, bma_join, told__law_told, tell__law_told_InvalidText, tell__law_told_Unread, fn_is_name_form, fn_end_of_run, fn_is_number_sign, fn_sign_from, fn_signs_in, fn_signs, fn_is_name, fn__law_pail, fn__law_deal, fn__law_any, fn__law_key_words, fn__law_names, fn__law_respaced, fn__law_is_name, fn__law_one_sign, fn__law_right, fn_law, gt_MOST_WORD, gt_MOST_LETTERS, gt_LETTERS, gt_KEY_WORDS, gt_FIGURES, gt_SINGLE, gt_PARTING])
local macro_rules | `(tactic| walk_at "zb") => `(tactic| simp -implicitDefEqProofs only [W_ok, W_ex, L_ok, L_ex, S_nx, S_rt, S_bk, S_ct, S_ex, W_if, W_bind, W_bindL, L_bind, L_bindL, S_bindS, S_bindSL, S_bind, T_true, T_false, G_true, slot_some, E_non, E_bl, E_int, E_str, E_v, E_g, ofO_some, E_bin, E_neg, neg_int, E_cmp, E_isN, E_notN, E_chain, E_and, E_or, not_bl, E_not, E_ife, E_tup, E_lst, E_att, E_idx, O_no, so_int, O_so, sl_nn, sl_ni, sl_in, sl_ii, E_sl, B_true, E_call, E_callk, mk_non, E_mk, isFn_fn, nmFn_fn, E_calv, C_some, E_met, E_bi, E_isi, E_bm, E_lc, L_nil, L_cons, T_v, sto_some, T_at, T_ix, T_tp, Ts_nil, Ts_cons, Tl_nil, Tl_cons, S_set, S_par, S_par3, S_exp, S_ret, S_retN, S_iff, S_whl, S_for, S_pass, S_brk, S_cnt, B_nil, O_some, O_if, W_gc, ev_cf, ev_cm, ev_low, b_addI, b_subI, b_addS, b_addT, b_mulI, b_fdivI, b_modI, b_powI, r_lt, r_le, r_gt, r_ge, r_eqI, r_eqS, r_eqB, r_neI, r_neS, r_neB, g_tup, sl_tup, bi_lenT, bi_lenS, bi_abs, bi_intI, bi_intB, bi_strI, bi_strS, bi_max, bi_min, bi_divmod, bi_tupT, bi_lstT, isi_non, isi_bl, isi_int, isi_str, isi_tup, src_tup, src_str, src_r1, src_r2, List.getElem?_cons_zero, List.getElem?_cons_succ, List.set_cons_zero, List.set_cons_succ, List.length_cons, List.length_nil, Nat.zero_add, List.map_cons, List.map_nil, List.replicate, List.cons_append, List.nil_append, D.isNon, Nat.reduceAdd, Nat.reduceSub, Nat.reduceLT, Bool.not_true, Bool.not_false, List.any_cons, List.any_nil, isB, Bool.or_false, Bool.false_or, Bool.or_true, Bool.true_or, rdO_lst, rdO_frz, atRd_some, o_get, slRd_some, o_slc, lenRd_some, o_len, tupRd_some, o_tup, lstRd_some, o_lst, isRd_some, o_isi, o_app, o_ext, o_pop, appRd_some, o_bapp, o_bpop, setRd_some, o_setI, srcRd_some, o_src, some_so, g_str, sl_str, chR_some, in_sign, nin_sign, at0, at1, at2, ix30, ix31, ix32, A_some, asg_v, stays_none, addRd_some, o_add, chn_le, chn_lt, tellOk_some, tellOk_none, wp_nil, wp_cons, bm_split, bm_isalnum, bma_split, bma_isalnum, bma_join, told__law_told, tell__law_told_InvalidText, tell__law_told_Unread, fn_is_name_form, fn_end_of_run, fn_is_number_sign, fn_sign_from, fn_signs_in, fn_signs, fn_is_name, fn__law_pail, fn__law_deal, fn__law_any, fn__law_key_words, fn__law_names, fn__law_respaced, fn__law_is_name, fn__law_one_sign, fn__law_right, fn_law, gt_MOST_WORD, gt_MOST_LETTERS, gt_LETTERS, gt_KEY_WORDS, gt_FIGURES, gt_SINGLE, gt_PARTING])
local macro_rules | `(tactic| walk_at "zd") => `(tactic| repeat (first
  | walk_at "zs"
  | refine inn_w (b := true) (by decide +kernel) ?_
  | refine inn_w (b := false) (by decide +kernel) ?_
  | refine nin_w (b := true) (by decide +kernel) ?_
  | refine nin_w (b := false) (by decide +kernel) ?_
  | refine tbT (by decide +kernel) ?_
  | refine tbF (by decide +kernel) ?_
  | refine wg (by decide +kernel) ?_))
local macro_rules | `(tactic| walk_at "ze") => `(tactic| repeat (first
  | walk_at "zb"
  | refine inn_w (b := true) (by decide +kernel) ?_
  | refine inn_w (b := false) (by decide +kernel) ?_
  | refine nin_w (b := true) (by decide +kernel) ?_
  | refine nin_w (b := false) (by decide +kernel) ?_
  | refine tbT (by decide +kernel) ?_
  | refine tbF (by decide +kernel) ?_
  | refine wg (by decide +kernel) ?_))
local macro_rules | `(tactic| walk_at "uf") => `(tactic| (walk_at "zd"; simp -implicitDefEqProofs only [F_cons, F_nil]; walk_at "zd"))
local macro_rules | `(tactic| walk_at "st") => `(tactic| simp -implicitDefEqProofs only [List.append_assoc, List.length_append, lk_app, lk_app0, st_set, st_set0, List.cons_append, List.nil_append, List.length_cons, List.length_nil, Nat.zero_add, Nat.reduceAdd, Nat.add_assoc, List.getElem?_cons_zero, List.getElem?_cons_succ, List.set_cons_zero, List.set_cons_succ])
local macro_rules | `(tactic| walk_at "dat") => `(tactic| simp -implicitDefEqProofs only [DEEP, d_non, d_bl, d_int, d_str, tupP_some, lstP_some, d_tup, datRd_some, d_ref, consP_some, dl_nil, dl_cons, lk_app, lk_app0, List.append_assoc, List.length_append, List.cons_append, List.nil_append, List.length_cons, List.length_nil, Nat.zero_add, Nat.reduceAdd, Nat.add_assoc, List.getElem?_cons_zero, List.getElem?_cons_succ])
local macro_rules | `(tactic| walk_at "zt") => `(tactic| repeat (first
  | walk_at "zs"
  | walk_at "st"
  | refine inn_w (b := true) (by decide +kernel) ?_
  | refine inn_w (b := false) (by decide +kernel) ?_
  | refine nin_w (b := true) (by decide +kernel) ?_
  | refine nin_w (b := false) (by decide +kernel) ?_
  | refine tbT (by decide +kernel) ?_
  | refine tbF (by decide +kernel) ?_
  | refine wg (by decide +kernel) ?_))

theorem lt_low {c : Nat} (h : c ∈ LT) : low c = true := by
  rw [← in_low c, tl_LT]
  simpa using h
theorem name_good {w : Str} (h : NameOk w) : Good (tl w) :=
  .low (fun c hc => lt_low (h.low c hc)) (fun e => by have := h.pos; rw [e] at this; simp at this) (by have := h.le; omega)
theorem kw_good : ∀ w ∈ kwL, Good (tl w) ∧ (tl w).length ≤ 8 := by
  have key : kwL.all (fun w => (tl w).all low && !(tl w).isEmpty && decide ((tl w).length ≤ 8)) = true := by decide +kernel
  intro w hw
  have := List.all_eq_true.mp key w hw
  simp only [Bool.and_eq_true, List.all_eq_true, Bool.not_eq_true', List.isEmpty_eq_false_iff, decide_eq_true_eq] at this
  exact ⟨.low this.1.1 this.1.2 this.2, this.2⟩
section
variable {S : Sto} {Q : KQ} {E : KE} {n : Nat}
theorem s_one_sign (k : Nat) (hp : Pail S n) (q : ∀ (w : Str) (S' : Sto), Good (tl w) → (tl w).length ≤ 8 → Kp n S S' → Q.f (.str w) S') : @WR (callN pg (k + 4) Str.empty "_law_one_sign" [.ref n] [] S) Q E := by
  refine w_call lk__law_one_sign (vs := [.ref n]) rfl ?_
  simp only [f__law_one_sign]
  have fin : ∀ (w : Str) (S' : Sto), Good (tl w) → (tl w).length ≤ 8 → Kp n S S' → @WR (gc S (.str w) S') Q E := fun w S' g h k => w_gcr rfl (Kp n S) k (fun _ => Kp.refl hp) fun S'' h2 => q w S'' g h h2
  walk_at "zd"
  refine s_deal _ hp (by decide) fun r S1 r1 r2 k1 l1 => ?_
  walk_at "zd"
  refine tbd (fun h => ?_) fun h => ?_
  · walk_at "zd"
    refine s_names _ k1.pl (many := 1) (by decide) fun m S2 l hl hok hnd hm hS2 k2 => ?_
    walk_at "zd"
    rw [hS2]
    walk_at "zd"
    cases l with
    | nil => simp at hl
    | cons x r =>
      rw [List.map_cons]
      walk_at "zd"
      have hx := hok x (by simp)
      exact fin x _ (name_good hx) (by have := hx.le; omega) (k1.trans k2)
  · walk_at "zd"
    refine tbd (fun h => ?_) fun h => ?_
    · walk_at "zd"
      refine s_kw _ ?_
      walk_at "zd"
      refine s_any_ref _ (l := kwL.map D.str) k1.pl.app (by rw [lk_app0]; rfl) (by have := k1.pl.lt; omega) (by decide) (by decide) fun d S2 hd k2 l2 => ?_
      obtain ⟨w, hw, e⟩ := List.mem_map.mp hd
      subst e
      have := kw_good w hw
      walk_at "zd"
      exact fin w _ this.1 this.2 (k1.app.trans k2)
    · walk_at "zd"
      refine tbd (fun h => ?_) fun h => ?_
      · walk_at "zd"
        refine s_deal _ k1.pl (by decide) fun r3 S3 h3 h4 k3 l3 => ?_
        walk_at "zd"
        refine s_any_ref _ (l := [.int 0, .int 1, .int 7, .int 10, .int 65535, .int r3]) k3.pl.app (by rw [lk_app0]; rfl) (by have := k3.pl.lt; omega) (by simp) (by simp) fun d S2 hd k2 l2 => ?_
        have hi : ∃ i : Nat, d = .int (i : Int) ∧ i ≤ 65535 := by
          simp only [List.mem_cons, List.not_mem_nil, or_false] at hd
          rcases hd with rfl | rfl | rfl | rfl | rfl | rfl
          · exact ⟨0, rfl, by decide⟩
          · exact ⟨1, rfl, by decide⟩
          · exact ⟨7, rfl, by decide⟩
          · exact ⟨10, rfl, by decide⟩
          · exact ⟨65535, rfl, by decide⟩
          · exact ⟨r3.toNat, by rw [Int.toNat_of_nonneg h3], by omega⟩
        obtain ⟨i, e, hi⟩ := hi
        subst e
        walk_at "zd"
        refine wg ?_ ?_
        · refine log_lt ⟨?_, ?_⟩
          · have : (0:Int) < 10 ^ 60 := by decide
            omega
          · have : (65536:Int) < 10 ^ 60 := by decide
            omega
        walk_at "zd"
        have ht : tl (Str.ofString (toString ((i : Nat) : Int))) = numL i := tl_num i
        refine fin _ _ (by rw [ht]; exact good_num hi) (by rw [ht]; have := numL_len (n := i) (k := 5) (by decide) (by omega); omega) ((k1.trans k3).app.trans k2)
      · walk_at "zd"
        refine s_any_str _ k1.pl (by decide +kernel) (by decide +kernel) fun c S2 hc k2 l2 => ?_
        walk_at "zd"
        have hs : sgl c = true := by
          have := decide_eq_true hc
          have hb : decide (c ∈ tl "()[]{}=,+-*/~<") = sgl c := by
            have e : tl "()[]{}=,+-*/~<" = [40, 41, 91, 93, 123, 125, 61, 44, 43, 45, 42, 47, 126, 60] := by decide +kernel
            rw [e]
            unfold sgl
            rw [Bool.eq_iff_iff]
            simp only [List.contains_eq_mem, decide_eq_true_eq, List.mem_cons, List.not_mem_nil, or_false]
            omega
          rw [← hb]
          exact this
        exact fin _ _ (.sgl hs) (by show 1 ≤ 8; decide) (k1.trans k2)
end
/-- a text goes on with what parts -/
theorem txt_end {row : List (List Nat)} {t s : List Nat} (h : Txt3 row t) (hs : Sep s) : Txt3 row (t ++ s) := by
  intro rest hr
  rw [List.append_assoc, h (s ++ rest) fun w hw => ?_, lex_sep hs]
  by_cases e : s = []
  · subst e
    exact hr w hw
  · exact bnd_sep hs e
theorem sep_of {x : Str} (h : (tl x).all prt = true) : Sep (tl x) := fun c hc => List.all_eq_true.mp h c hc
section
variable {S : Sto} {Q : KQ} {E : KE} {n : Nat}
theorem s_respaced (k : Nat) (hp : Pail S n) {m : Nat} {row : List Str} (hm : S[m]? = some (.lst (row.map D.str))) (hmn : m ≠ n) (hr : row.length ≤ 100) (hg : ∀ w ∈ row, Good (tl w) ∧ (tl w).length ≤ 8) (q : ∀ (t : Str) (S' : Sto), Txt3 (row.map tl) (tl t) → (tl t).length ≤ 10 * row.length + 4 → Kp n S S' → Q.f (.str t) S') : @WR (callN pg (k + 3) Str.empty "_law_respaced" [.ref n, .ref m] [] S) Q E := by
  refine w_call lk__law_respaced (vs := [.ref n, .ref m]) rfl ?_
  simp only [f__law_respaced]
  have hml := lt_of_lk hm
  have hsep : ∀ {S : Sto} {Q : KQ} {E : KE}, Pail S n → (∀ (x : Str) (S' : Sto), Sep (tl x) → (tl x).length ≤ 1 → Kp n S S' → Q.f (.str x) S') → @WR (callN pg (k + 2) Str.empty "_law_any" [.ref n, .ref S.length] [] (S ++ [.lst [.str "", .str " ", .str "\n"]])) Q E := by
    intro S Q E hp q
    refine s_any_ref _ (l := [.str "", .str " ", .str "\n"]) hp.app (by rw [lk_app0]; rfl) (by have := hp.lt; omega) (by simp) (by simp) fun d S2 hd k2 l2 => ?_
    have k3 : Kp n S S2 := (Kp.refl hp).app.trans k2
    simp only [List.mem_cons, List.not_mem_nil, or_false] at hd
    rcases hd with rfl | rfl | rfl
    · exact q _ _ (sep_of (by decide +kernel)) (by decide +kernel) k3
    · exact q _ _ (sep_of (by decide +kernel)) (by decide +kernel) k3
    · exact q _ _ (sep_of (by decide +kernel)) (by decide +kernel) k3
  walk_at "ze"
  simp only [B_cons]
  walk_at "ze"
  refine hsep hp fun x S1 hx hxl k1 => ?_
  walk_at "ze"
  refine seq (fun ρ' S' => ∃ (t : Str) (o3 o4 : Option D), Txt3 (row.map tl) (tl t) ∧ (tl t).length ≤ 10 * row.length + 1 ∧ Kp n S S' ∧ ρ' = [some (.ref n), some (.ref m), some (.str t), o3, o4]) ?_ ?_
  · walk_at "zd"
    rw [k1.old _ hml hmn, hm]
    walk_at "zd"
    refine wg (by rw [List.length_map]; omega) ?_
    walk_at "zd"
    refine w_for (fun i ρ S' => ∃ (t : Str) (o3 o4 : Option D), Txt3 ((row.take i).map tl) (tl t) ∧ (tl t).length ≤ 10 * i + 1 ∧ Kp n S S' ∧ ρ = [some (.ref n), some (.ref m), some (.str t), o3, o4]) ⟨x, _, _, txt_nil hx, by omega, k1, rfl⟩ (fun _ _ _ _ => stays_none _) ?_ ?_
    · rintro i d ρ S2 hd ⟨t, o3, o4, ht, htl, k2, rfl⟩
      refine ⟨_, by rw [asg_v], ?_⟩
      rw [List.getElem?_map] at hd
      obtain ⟨i', hi', e⟩ := Option.map_eq_some_iff.mp hd
      subst e
      obtain ⟨hi1, hi2⟩ := List.getElem?_eq_some_iff.mp hi'
      simp at hi1 hi2
      subst hi2
      have hm2 : S2[m]? = some (.lst (row.map D.str)) := by rw [k2.old _ hml hmn, hm]
      obtain ⟨w, hw⟩ : ∃ w, row[i]? = some w := ⟨_, List.getElem?_eq_getElem hi1⟩
      have hgw := hg w (List.mem_of_getElem? hw)
      have hwD : (row.map D.str)[i]? = some (.str w) := by rw [List.getElem?_map, hw]; rfl
      refine seq (fun ρ' S' => S' = S2 ∧ ∃ b : Bool, ((b = false → i = 0 ∨ ∃ v, row[i - 1]? = some v ∧ Txt.isalnum (v ++ w) = false)) ∧ ρ' = [some (.ref n), some (.ref m), some (.str t), some (.int (i : Int)), some (.bl b)]) ?_ ?_
      · walk_at "zd"
        refine tbd (fun h => ?_) fun h => ?_
        · have hi0 : 0 < i := by omega
          obtain ⟨v, hv⟩ : ∃ v, row[i - 1]? = some v := ⟨_, List.getElem?_eq_getElem (by omega)⟩
          have hgv := hg v (List.mem_of_getElem? hv)
          have hvD : (row.map D.str)[i - 1]? = some (.str v) := by rw [List.getElem?_map, hv]; rfl
          walk_at "zd"
          rw [hm2]
          walk_at "zd"
          rw [show (i : Int) - 1 = ((i - 1 : Nat) : Int) by omega, at_nat hvD]
          walk_at "zd"
          rw [hm2]
          walk_at "zd"
          rw [at_nat hwD]
          walk_at "zd"
          refine wg (by have := len_tl v; have := len_tl w; unfold LINE; omega) ?_
          walk_at "zd"
          exact ⟨by trivial, _, fun hb => .inr ⟨v, hv, hb⟩, rfl⟩
        · walk_at "zd"
          exact ⟨by trivial, _, fun _ => .inl (by omega), rfl⟩
      · rintro ρ S3 ⟨e, b, hb, rfl⟩
        subst e
        have fin : ∀ (s : Str) (S4 : Sto), Sep (tl s) → (tl s).length ≤ 2 → (b = true → tl s ≠ []) → Kp n S S4 → Txt3 ((row.take (i + 1)).map tl) (tl (t ++ s ++ w)) ∧ (tl (t ++ s ++ w)).length ≤ 10 * (i + 1) + 1 := by
          intro s S4 hs hsl hbs k4
          rw [tl_append, tl_append]
          refine ⟨?_, by simp only [List.length_append]; omega⟩
          rw [List.take_add_one, hw, List.map_append]
          refine txt_snoc ht hs hgw.1 fun hse v hv => ?_
          have hbf : b = false := by
            cases hbb : b with
            | false => rfl
            | true => exact absurd hse (hbs hbb)
          rcases hb hbf with h0 | ⟨v', hv', ha⟩
          · subst h0
            simp at hv
          · have e : ((row.take i).map tl).getLast? = some (tl v') := by
              rw [List.getLast?_eq_getElem?, List.length_map, List.length_take, Nat.min_eq_left (by omega), List.getElem?_map, List.getElem?_take]
              by_cases hi0 : i = 0
              · subst hi0
                simp at hv
              · rw [if_pos (by omega), hv']
                rfl
            rw [e] at hv
            cases hv
            exact bnd_of (hg v' (List.mem_of_getElem? hv')).1 hgw.1 (by
              have e : SX.S (tl v' ++ tl w) = v' ++ w := ext_tl (by rw [tl_append])
              rw [e]
              exact ha)
        cases b with
        | true =>
          walk_at "zd"
          refine s_any_ref _ (l := [.str " ", .str "\n", .str "  "]) k2.pl.app (by rw [lk_app0]; rfl) (by have := k2.pl.lt; omega) (by simp) (by simp) fun d S4 hd k4 l4 => ?_
          have k5 : Kp n S S4 := k2.app.trans k4
          have hm4 : S4[m]? = some (.lst (row.map D.str)) := by rw [k5.old _ hml hmn, hm]
          obtain ⟨s, e, h1, h2, h3⟩ : ∃ s : Str, d = .str s ∧ Sep (tl s) ∧ (tl s).length ≤ 2 ∧ tl s ≠ [] := by
            simp only [List.mem_cons, List.not_mem_nil, or_false] at hd
            rcases hd with rfl | rfl | rfl
            · exact ⟨_, rfl, sep_of (by decide +kernel), by decide +kernel, by decide +kernel⟩
            · exact ⟨_, rfl, sep_of (by decide +kernel), by decide +kernel, by decide +kernel⟩
            · exact ⟨_, rfl, sep_of (by decide +kernel), by decide +kernel, by decide +kernel⟩
          subst e
          have f := fin s S4 h1 h2 (fun _ => h3) k5
          walk_at "zd"
          refine wg (by have := len_tl t; have := len_tl s; unfold LINE; omega) ?_
          walk_at "zd"
          rw [hm4]
          walk_at "zd"
          rw [at_nat hwD]
          walk_at "zd"
          refine wg (by rw [slen_app]; have := len_tl t; have := len_tl s; have := len_tl w; unfold LINE; omega) ?_
          walk_at "zd"
          exact ⟨_, _, _, f.1, f.2, k5, rfl⟩
        | false =>
          walk_at "zd"
          refine s_any_ref _ (l := [.str "", .str "", .str " ", .str "\n"]) k2.pl.app (by rw [lk_app0]; rfl) (by have := k2.pl.lt; omega) (by simp) (by simp) fun d S4 hd k4 l4 => ?_
          have k5 : Kp n S S4 := k2.app.trans k4
          have hm4 : S4[m]? = some (.lst (row.map D.str)) := by rw [k5.old _ hml hmn, hm]
          obtain ⟨s, e, h1, h2⟩ : ∃ s : Str, d = .str s ∧ Sep (tl s) ∧ (tl s).length ≤ 2 := by
            simp only [List.mem_cons, List.not_mem_nil, or_false] at hd
            rcases hd with rfl | rfl | rfl | rfl
            · exact ⟨_, rfl, sep_of (by decide +kernel), by decide +kernel⟩
            · exact ⟨_, rfl, sep_of (by decide +kernel), by decide +kernel⟩
            · exact ⟨_, rfl, sep_of (by decide +kernel), by decide +kernel⟩
            · exact ⟨_, rfl, sep_of (by decide +kernel), by decide +kernel⟩
          subst e
          have f := fin s S4 h1 h2 (fun z => by cases z) k5
          walk_at "zd"
          refine wg (by have := len_tl t; have := len_tl s; unfold LINE; omega) ?_
          walk_at "zd"
          rw [hm4]
          walk_at "zd"
          rw [at_nat hwD]
          walk_at "zd"
          refine wg (by rw [slen_app]; have := len_tl t; have := len_tl s; have := len_tl w; unfold LINE; omega) ?_
          walk_at "zd"
          exact ⟨_, _, _, f.1, f.2, k5, rfl⟩
    · rintro ρ S2 ⟨t, o3, o4, ht, htl, k2, rfl⟩
      rw [List.length_map, List.length_range, Int.toNat_natCast, List.length_map, List.take_length] at ht
      rw [List.length_map, List.length_range, Int.toNat_natCast, List.length_map] at htl
      exact ⟨t, o3, o4, ht, htl, k2, rfl⟩
  · rintro ρ S2 ⟨t, o3, o4, ht, htl, k2, rfl⟩
    walk_at "zd"
    refine hsep k2.pl fun y S3 hy hyl k3 => ?_
    walk_at "zd"
    refine wg (by have := len_tl t; have := len_tl y; unfold LINE; omega) ?_
    walk_at "zd"
    have ht2 := txt_end ht hy
    rw [← tl_append] at ht2
    refine w_gcr rfl (Kp n S) (k2.trans k3) (fun _ => Kp.refl hp) fun S4 k4 => q (t ++ y) S4 ht2 (by rw [tl_append, List.length_append]; omega) k4
end
end K03
set_option maxHeartbeats 400000
namespace K03
open PySem Z Lex TL
local macro_rules | `(tactic| walk_at "zs") => `(tactic| simp -implicitDefEqProofs only [W_ok, W_ex, L_ok, L_ex, S_nx, S_rt, S_bk, S_ct, S_ex, W_if, W_bind, W_bindL, L_bind, L_bindL, S_bindS, S_bindSL, S_bind, T_true, T_false, G_true, slot_some, E_non, E_bl, E_int, E_str, E_v, E_g, ofO_some, E_bin, E_neg, neg_int, E_cmp, E_isN, E_notN, E_chain, E_and, E_or, not_bl, E_not, E_ife, E_tup, E_lst, E_att, E_idx, O_no, so_int, O_so, sl_nn, sl_ni, sl_in, sl_ii, E_sl, B_true, E_call, E_callk, mk_non, E_mk, isFn_fn, nmFn_fn, E_calv, C_some, E_met, E_bi, E_isi, E_bm, E_lc, L_nil, L_cons, T_v, sto_some, T_at, T_ix, T_tp, Ts_nil, Ts_cons, Tl_nil, Tl_cons, S_set, S_par, S_par3, S_exp, S_ret, S_retN, S_iff, S_whl, S_for, S_pass, S_brk, S_cnt, B_nil, B_cons, O_some, O_if, W_gc, ev_cf, ev_cm, ev_low, b_addI, b_subI, b_addS, b_addT, b_mulI, b_fdivI, b_modI, b_powI, r_lt, r_le, r_gt, r_ge, r_eqI, r_eqS, r_eqB, r_neI, r_neS, r_neB, g_tup, sl_tup, bi_lenT, bi_lenS, bi_abs, bi_intI, bi_intB, bi_strI, bi_strS, bi_max, bi_min, bi_divmod, bi_tupT, bi_lstT, isi_non, isi_bl, isi_int, isi_str, isi_tup, src_tup, src_str, src_r1, src_r2, List.getElem?_cons_zero, List.getElem?_cons_succ, List.set_cons_zero, List.set_cons_succ, List.length_cons, List.length_nil, Nat.zero_add, List.map_cons, List.map_nil, List.replicate, List.cons_append, List.nil_append, D.isNon, Nat.reduceAdd, Nat.reduceSub, Nat.reduceLT, Bool.not_true, Bool.not_false, List.any_cons, List.any_nil, isB, Bool.or_false, Bool.false_or, Bool.or_true, Bool.true_or, rdO_lst, rdO_frz, atRd_some, o_get, slRd_some, o_slc, lenRd_some, o_len, tupRd_some, o_tup, lstRd_some, o_lst, isRd_some, o_isi, o_app, o_ext, o_pop, appRd_some, o_bapp, o_bpop, setRd_some, o_setI, srcRd_some, o_src, some_so, g_str, sl_str, chR_some, in_sign, nin_sign, at0, at1, at2, ix30, ix31, ix32, A_some, asg_v, stays_none, addRd_some, o_add, chn_le, chn_lt, tellOk_some, tellOk_none, wp_nil, wp_cons, bm_split, bm_isalnum, bma_split, bma_isalnum, bma_join, told__law_told, tell__law_told_InvalidText, tell__law_told_Unread, fn_is_name_form, fn_end_of_run, fn_is_number_sign, fn_sign_from, fn_signs_in, fn_signs, fn_is_name, fn__law_pail, fn__law_deal, fn__law_any, fn__law_key_words, fn__law_names, fn__law_respaced, fn__law_is_name, fn__law_one_sign, fn__law_right, fn_law, gt_MOST_WORD, gt_MOST_LETTERS, gt_LETTERS, gt_KEY_WORDS, gt_FIGURES, gt_SINGLE, gt_PARTING])
local macro_rules | `(tactic| walk_at "zb") => `(tactic| simp -implicitDefEqProofs only [W_ok, W_ex, L_ok, L_ex, S_nx, S_rt, S_bk, S_ct, S_ex, W_if, W_bind, W_bindL, L_bind, L_bindL, S_bindS, S_bindSL, S_bind, T_true, T_false, G_true, slot_some, E_non, E_bl, E_int, E_str, E_v, E_g, ofO_some, E_bin, E_neg, neg_int, E_cmp, E_isN, E_notN, E_chain, E_and, E_or, not_bl, E_not, E_ife, E_tup, E_lst, E_att, E_idx, O_no, so_int, O_so, sl_nn, sl_ni, sl_in, sl_ii, E_sl, B_true, E_call, E_callk, mk_non, E_mk, isFn_fn, nmFn_fn, E_calv, C_some, E_met, E_bi, E_isi, E_bm, E_lc, L_nil, L_cons, T_v, sto_some, T_at, T_ix, T_tp, Ts_nil, Ts_cons, Tl_nil, Tl_cons, S_set, S_par, S_par3, S_exp, S_ret, S_retN, S_iff, S_whl, S_for, S_pass, S_brk, S_cnt, B_nil, O_some, O_if, W_gc, ev_cf, ev_cm, ev_low, b_addI, b_subI, b_addS, b_addT, b_mulI, b_fdivI, b_modI, b_powI, r_lt, r_le, r_gt, r_ge, r_eqI, r_eqS, r_eqB, r_neI, r_neS, r_neB, g_tup, sl_tup, bi_lenT, bi_lenS, bi_abs, bi_intI, bi_intB, bi_strI, bi_strS, bi_max, bi_min, bi_divmod, bi_tupT, bi_lstT, isi_non, isi_bl, isi_int, isi_str, isi_tup, src_tup, src_str, src_r1, src_r2, List.getElem?_cons_zero, List.getElem?_cons_succ, List.set_cons_zero, List.set_cons_succ, List.length_cons, List.length_nil, Nat.zero_add, List.map_cons, List.map_nil, List.replicate, List.cons_append, List.nil_append, D.isNon, Nat.reduceAdd, Nat.reduceSub, Nat.reduceLT, Bool.not_true, Bool.not_false, List.any_cons, List.any_nil, isB, Bool.or_false, Bool.false_or, Bool.or_true, Bool.true_or, rdO_lst, rdO_frz, atRd_some, o_get, slRd_some, o_slc, lenRd_some, o_len, tupRd_some, o_tup, lstRd_some, o_lst, isRd_some, o_isi, o_app, o_ext, o_pop, appRd_some, o_bapp, o_bpop, setRd_some, o_setI, srcRd_some, o_src, some_so, g_str, sl_str, chR_some, in_sign, nin_sign, at0, at1, at2, ix30, ix31, ix32, A_some, asg_v, stays_none, addRd_some, o_add, chn_le, chn_lt, tellOk_some, tellOk_none, wp_nil, wp_cons, bm_split, bm_isalnum, bma_split, bma_isalnum, bma_join, told__law_told, tell__law_told_InvalidText, tell__law_told_Unread, fn_is_name_form, fn_end_of_run, fn_is_number_sign, fn_sign_from, fn_signs_in, fn_signs, fn_is_name, fn__law_pail, fn__law_deal, fn__law_any, fn__law_key_words, fn__law_names, fn__law_respaced, fn__law_is_name, fn__law_one_sign, fn__law_right, fn_law, gt_MOST_WORD, gt_MOST_LETTERS, gt_LETTERS, gt_KEY_WORDS, gt_FIGURES, gt_SINGLE, gt_PARTING])
local macro_rules | `(tactic| walk_at "zd") => `(tactic| repeat (first
  | walk_at "zs"
  | refine inn_w (b := true) (by decide +kernel) ?_
  | refine inn_w (b := false) (by decide +kernel) ?_
  | refine nin_w (b := true) (by decide +kernel) ?_
  | refine nin_w (b := false) (by decide +kernel) ?_
  | refine tbT (by decide +kernel) ?_
  | refine tbF (by decide +kernel) ?_
  | refine wg (by decide +kernel) ?_))
local macro_rules | `(tactic| walk_at "ze") => `(tactic| repeat (first
  | walk_at "zb"
  | refine inn_w (b := true) (by decide +kernel) ?_
  | refine inn_w (b := false) (by decide +kernel) ?_
  | refine nin_w (b := true) (by decide +kernel) ?_
  | refine nin_w (b := false) (by decide +kernel) ?_
  | refine tbT (by decide +kernel) ?_
  | refine tbF (by decide +kernel) ?_
  | refine wg (by decide +kernel) ?_))
local macro_rules | `(tactic| walk_at "uf") => `(tactic| (walk_at "zd"; simp -implicitDefEqProofs only [F_cons, F_nil]; walk_at "zd"))
local macro_rules | `(tactic| walk_at "st") => `(tactic| simp -implicitDefEqProofs only [List.append_assoc, List.length_append, lk_app, lk_app0, st_set, st_set0, List.cons_append, List.nil_append, List.length_cons, List.length_nil, Nat.zero_add, Nat.reduceAdd, Nat.add_assoc, List.getElem?_cons_zero, List.getElem?_cons_succ, List.set_cons_zero, List.set_cons_succ])
local macro_rules | `(tactic| walk_at "dat") => `(tactic| simp -implicitDefEqProofs only [DEEP, d_non, d_bl, d_int, d_str, tupP_some, lstP_some, d_tup, datRd_some, d_ref, consP_some, dl_nil, dl_cons, lk_app, lk_app0, List.append_assoc, List.length_append, List.cons_append, List.nil_append, List.length_cons, List.length_nil, Nat.zero_add, Nat.reduceAdd, Nat.add_assoc, List.getElem?_cons_zero, List.getElem?_cons_succ])
local macro_rules | `(tactic| walk_at "zt") => `(tactic| repeat (first
  | walk_at "zs"
  | walk_at "st"
  | refine inn_w (b := true) (by decide +kernel) ?_
  | refine inn_w (b := false) (by decide +kernel) ?_
  | refine nin_w (b := true) (by decide +kernel) ?_
  | refine nin_w (b := false) (by decide +kernel) ?_
  | refine tbT (by decide +kernel) ?_
  | refine tbF (by decide +kernel) ?_
  | refine wg (by decide +kernel) ?_))

theorem good_small {w : List Nat} (g : Good w) : ∀ c ∈ w, c < 128 := by
  have e : signFrom (w ++ []) = some w := sign_app g bnd_nil
  exact sign_small e
theorem okPs_strs : ∀ {l : List Str}, (∀ x ∈ l, ∀ c ∈ tl x, c < 128) → PyData.okPs (l.map PyData.str) = true
  | [], _ => rfl
  | x :: r, h => by
    rw [List.map_cons, PyData.okPs, okPs_strs fun y hy => h y (by simp [hy]), Bool.and_true, PyData.okP, List.all_eq_true]
    intro c hc
    have := h x (by simp) c hc
    simp only [decide_eq_true_eq]
    omega
theorem bulk_strs : ∀ {l : List Str}, (∀ x ∈ l, (tl x).length ≤ 20) → PyData.bulkAll (l.map PyData.str) ≤ 21 * l.length
  | [], _ => Nat.zero_le _
  | x :: r, h => by
    have := bulk_strs (l := r) fun y hy => h y (by simp [hy])
    have h2 := h x (by simp)
    rw [List.map_cons, PyData.bulkAll, PyData.bulk, List.length_cons]
    have : x.cps.size = (tl x).length := by simp [tl]
    omega
theorem one_tl (l : List Nat) : (l.map fun c => (⟨#[c]⟩ : Str)) = [] ↔ l = [] := by cases l <;> simp
section
variable {S : Sto} {Q : KQ} {E : KE} {n : Nat}
theorem s_law_is_name (k : Nat) {d : D} (ht : (tyN S d).isSome = true) (hL : ∀ x, d = .str x → x.length ≤ 1000 ∧ ∀ c ∈ tl x, c < 128) (q : Q.f (.bl (nameD d)) S) : @WR (callN pg (k + 2) Str.empty "_law_is_name" [d] [] S) Q E := by
  refine w_call lk__law_is_name (vs := [d]) rfl ?_
  simp only [f__law_is_name]
  walk_at "zs"
  simp only [isi_any ht]
  cases d
  case str x =>
    have hlen := len_tl x
    have hx := hL x rfl
    have hLL : x.length ≤ LINE := by unfold LINE; omega
    walk_at "zt"
    refine wg hLL ?_
    walk_at "zt"
    have no : (decide (1 ≤ x.length) && decide (x.length ≤ 8) && !KW.contains x && (tl x).all low) = false → Q.f (.bl false) S := fun h => by
      have e : nameD (.str x) = false := h
      rw [e] at q
      exact q
    refine tbd (fun h1 => ?_) fun h1 => ?_
    · walk_at "zt"
      refine tb (fun h2 => ?_) fun h2 => ?_
      rotate_left
      · have h2 : x.length ≤ 8 := by simp at h2; omega
        walk_at "zt"
        refine s_kw _ ?_
        walk_at "zt"
        refine in_strs _ (l := kwL) (by rw [lk_app0]; rfl) rfl ?_
        have hk : KW.contains x = kwL.contains x := rfl
        refine tb (fun h3 => ?_) fun h3 => ?_
        · walk_at "zt"
          exact w_gcp (List.take_left' rfl) rfl (no (by rw [hk, h3]; simp))
        · walk_at "zt"
          refine w_lc (fun i acc S' => S' = S ++ [.lst (kwL.map D.str), .lst acc] ∧ acc = ((((tl x).take i).filter fun c => !low c).map fun c => (⟨#[c]⟩ : Str)).map D.str) ?_ ?_ ⟨rfl, rfl⟩ ?_ ?_ ?_
          · rintro i acc S' ⟨e1, e2⟩
            subst e1
            subst e2
            refine ⟨by walk_at "st", ?_⟩
            rw [List.length_map, List.length_map]
            refine Nat.le_trans (List.length_filter_le _ _) ?_
            simp
            omega
          · simp only [List.length_map]
            show (tl x).length < 16777216
            omega
          · intro i acc S' _
            exact stays_none S'
          · rintro i d acc S' hd ⟨e1, e2⟩
            refine ⟨_, by rw [asg_v], ?_⟩
            subst e1
            rw [List.getElem?_map] at hd
            obtain ⟨c, hc, e⟩ := Option.map_eq_some_iff.mp hd
            subst e
            have hstep : ((tl x).take (i + 1)).filter (fun c => !low c) = ((tl x).take i).filter (fun c => !low c) ++ (if (!low c) then [c] else []) := by
              have hc : (tl x)[i]? = some c := hc
              rw [List.take_add_one, hc, List.filter_append]
              congr 1
              rw [Option.toList_some, List.filter_cons]
              rfl
            walk_at "zt"
            rw [in_low]
            refine tb (fun h => ?_) fun h => ?_
            · walk_at "zt"
              refine ⟨by trivial, by trivial, ?_⟩
              rw [hstep, h, e2]
              simp
            · walk_at "zt"
              refine ⟨by trivial, ?_⟩
              rw [hstep, h, e2]
              simp
          · rintro acc S' ⟨e1, e2⟩
            subst e1
            rw [List.length_map, List.take_length] at e2
            walk_at "zt"
            refine eq_nil (l := (((tl x).filter fun c => !low c).map fun c => (⟨#[c]⟩ : Str))) _ (by walk_at "st"; rw [e2]) (by walk_at "st") ?_ ?_
            · intro y hy
              obtain ⟨c, hc, e⟩ := List.mem_map.mp hy
              subst e
              refine str_ok fun z hz => ?_
              have : z = c := by simpa using hz
              rw [this]
              exact hx.2 c (List.mem_filter.mp hc).1
            · refine w_gcp (List.take_left' rfl) rfl ?_
              have eq : nameD (.str x) = (decide (1 ≤ x.length) && decide (x.length ≤ 8) && !KW.contains x && (tl x).all low) := rfl
              rw [eq, hk, h3, show decide (1 ≤ x.length) = true from decide_eq_true (by omega), show decide (x.length ≤ 8) = true from decide_eq_true (by omega)] at q
              have e3 : decide ((((tl x).filter fun c => !low c).map fun c => (⟨#[c]⟩ : Str)) = []) = (tl x).all low := by
                rw [Bool.eq_iff_iff, decide_eq_true_eq, one_tl, List.filter_eq_nil_iff, List.all_eq_true]
                simp
              rw [e3]
              simpa using q
      · walk_at "zt"
        exact no (by rw [show decide (x.length ≤ 8) = false from decide_eq_false (by simp at h2; omega)]; simp)
    · walk_at "zt"
      exact no (by rw [show decide (1 ≤ x.length) = false from decide_eq_false (by omega)]; simp)
  all_goals
    walk_at "zs"
    exact q
end
def oddL : List Str := ["007", "00", "01", "65536", "99999", "abcdefghi", "deedwrite", "?", "A", "_", ".", "a;", "\"", ">"]
def sufL : List Str := ["", " ", " x", "("]
theorem odd_lex {o e : Str} (ho : o ∈ oddL) (he : e ∈ sufL) : lex (32 :: (tl o ++ tl e)) = (if o = "a;" then [[97]] else [], false) := by
  have key : (oddL.all fun o => sufL.all fun e => decide (lex (32 :: (tl o ++ tl e)) = (if o = "a;" then [[97]] else [], false))) = true := by decide +kernel
  exact of_decide_eq_true (List.all_eq_true.mp (List.all_eq_true.mp key o ho) e he)
theorem odd_len {o : Str} (ho : o ∈ oddL) : (tl o).length ≤ 9 := by
  have key : (oddL.all fun o => decide ((tl o).length ≤ 9)) = true := by decide +kernel
  exact of_decide_eq_true (List.all_eq_true.mp key o ho)
theorem suf_len {o : Str} (ho : o ∈ sufL) : (tl o).length ≤ 9 := by
  have key : (sufL.all fun o => decide ((tl o).length ≤ 9)) = true := by decide +kernel
  exact of_decide_eq_true (List.all_eq_true.mp key o ho)
def I1 (n : Nat) (S0 : Sto) (ρ : Rho) (S : Sto) : Prop := (∃ x1 x2 x3 x4 x5 x6 x7 x8 x9 x10 : Option D, ρ = [some (.ref n), x1, x2, x3, x4, x5, x6, x7, x8, x9, x10]) ∧ Kp n S0 S
end K03
set_option maxHeartbeats 800000
namespace K03
open PySem Z Lex TL
local macro_rules | `(tactic| walk_at "zs") => `(tactic| simp -implicitDefEqProofs only [W_ok, W_ex, L_ok, L_ex, S_nx, S_rt, S_bk, S_ct, S_ex, W_if, W_bind, W_bindL, L_bind, L_bindL, S_bindS, S_bindSL, S_bind, T_true, T_false, G_true, slot_some, E_non, E_bl, E_int, E_str, E_v, E_g, ofO_some, E_bin, E_neg, neg_int, E_cmp, E_isN, E_notN, E_chain, E_and, E_or, not_bl, E_not, E_ife, E_tup, E_lst, E_att, E_idx, O_no, so_int, O_so, sl_nn, sl_ni, sl_in, sl_ii, E_sl, B_true, E_call, E_callk, mk_non, E_mk, isFn_fn, nmFn_fn, E_calv, C_some, E_met, E_bi, E_isi, E_bm, E_lc, L_nil, L_cons, T_v, sto_some, T_at, T_ix, T_tp, Ts_nil, Ts_cons, Tl_nil, Tl_cons, S_set, S_par, S_par3, S_exp, S_ret, S_retN, S_iff, S_whl, S_for, S_pass, S_brk, S_cnt, B_nil, B_cons, O_some, O_if, W_gc, ev_cf, ev_cm, ev_low, b_addI, b_subI, b_addS, b_addT, b_mulI, b_fdivI, b_modI, b_powI, r_lt, r_le, r_gt, r_ge, r_eqI, r_eqS, r_eqB, r_neI, r_neS, r_neB, g_tup, sl_tup, bi_lenT, bi_lenS, bi_abs, bi_intI, bi_intB, bi_strI, bi_strS, bi_max, bi_min, bi_divmod, bi_tupT, bi_lstT, isi_non, isi_bl, isi_int, isi_str, isi_tup, src_tup, src_str, src_r1, src_r2, List.getElem?_cons_zero, List.getElem?_cons_succ, List.set_cons_zero, List.set_cons_succ, List.length_cons, List.length_nil, Nat.zero_add, List.map_cons, List.map_nil, List.replicate, List.cons_append, List.nil_append, D.isNon, Nat.reduceAdd, Nat.reduceSub, Nat.reduceLT, Bool.not_true, Bool.not_false, List.any_cons, List.any_nil, isB, Bool.or_false, Bool.false_or, Bool.or_true, Bool.true_or, rdO_lst, rdO_frz, atRd_some, o_get, slRd_some, o_slc, lenRd_some, o_len, tupRd_some, o_tup, lstRd_some, o_lst, isRd_some, o_isi, o_app, o_ext, o_pop, appRd_some, o_bapp, o_bpop, setRd_some, o_setI, srcRd_some, o_src, some_so, g_str, sl_str, chR_some, in_sign, nin_sign, at0, at1, at2, ix30, ix31, ix32, A_some, asg_v, stays_none, addRd_some, o_add, chn_le, chn_lt, tellOk_some, tellOk_none, wp_nil, wp_cons, bm_split, bm_isalnum, bma_split, bma_isalnum, bma_join, told__law_told, tell__law_told_InvalidText, tell__law_told_Unread, fn_is_name_form, fn_end_of_run, fn_is_number_sign, fn_sign_from, fn_signs_in, fn_signs, fn_is_name, fn__law_pail, fn__law_deal, fn__law_any, fn__law_key_words, fn__law_names, fn__law_respaced, fn__law_is_name, fn__law_one_sign, fn__law_right, fn_law, gt_MOST_WORD, gt_MOST_LETTERS, gt_LETTERS, gt_KEY_WORDS, gt_FIGURES, gt_SINGLE, gt_PARTING])
local macro_rules | `(tactic| walk_at "zb") => `(tactic| simp -implicitDefEqProofs only [W_ok, W_ex, L_ok, L_ex, S_nx, S_rt, S_bk, S_ct, S_ex, W_if, W_bind, W_bindL, L_bind, L_bindL, S_bindS, S_bindSL, S_bind, T_true, T_false, G_true, slot_some, E_non, E_bl, E_int, E_str, E_v, E_g, ofO_some, E_bin, E_neg, neg_int, E_cmp, E_isN, E_notN, E_chain, E_and, E_or, not_bl, E_not, E_ife, E_tup, E_lst, E_att, E_idx, O_no, so_int, O_so, sl_nn, sl_ni, sl_in, sl_ii, E_sl, B_true, E_call, E_callk, mk_non, E_mk, isFn_fn, nmFn_fn, E_calv, C_some, E_met, E_bi, E_isi, E_bm, E_lc, L_nil, L_cons, T_v, sto_some, T_at, T_ix, T_tp, Ts_nil, Ts_cons, Tl_nil, Tl_cons, S_set, S_par, S_par3, S_exp, S_ret, S_retN, S_iff, S_whl, S_for, S_pass, S_brk, S_cnt, B_nil, O_some, O_if, W_gc, ev_cf, ev_cm, ev_low, b_addI, b_subI, b_addS, b_addT, b_mulI, b_fdivI, b_modI, b_powI, r_lt, r_le, r_gt, r_ge, r_eqI, r_eqS, r_eqB, r_neI, r_neS, r_neB, g_tup, sl_tup, bi_lenT, bi_lenS, bi_abs, bi_intI, bi_intB, bi_strI, bi_strS, bi_max, bi_min, bi_divmod, bi_tupT, bi_lstT, isi_non, isi_bl, isi_int, isi_str, isi_tup, src_tup, src_str, src_r1, src_r2, List.getElem?_cons_zero, List.getElem?_cons_succ, List.set_cons_zero, List.set_cons_succ, List.length_cons, List.length_nil, Nat.zero_add, List.map_cons, List.map_nil, List.replicate, List.cons_append, List.nil_append, D.isNon, Nat.reduceAdd, Nat.reduceSub, Nat.reduceLT, Bool.not_true, Bool.not_false, List.any_cons, List.any_nil, isB, Bool.or_false, Bool.false_or, Bool.or_true, Bool.true_or, rdO_lst, rdO_frz, atRd_some, o_get, slRd_some, o_slc, lenRd_some, o_len, tupRd_some, o_tup, lstRd_some, o_lst, isRd_some, o_isi, o_app, o_ext, o_pop, appRd_some, o_bapp, o_bpop, setRd_some, o_setI, srcRd_some, o_src, some_so, g_str, sl_str, chR_some, in_sign, nin_sign, at0, at1, at2, ix30, ix31, ix32, A_some, asg_v, stays_none, addRd_some, o_add, chn_le, chn_lt, tellOk_some, tellOk_none, wp_nil, wp_cons, bm_split, bm_isalnum, bma_split, bma_isalnum, bma_join, told__law_told, tell__law_told_InvalidText, tell__law_told_Unread, fn_is_name_form, fn_end_of_run, fn_is_number_sign, fn_sign_from, fn_signs_in, fn_signs, fn_is_name, fn__law_pail, fn__law_deal, fn__law_any, fn__law_key_words, fn__law_names, fn__law_respaced, fn__law_is_name, fn__law_one_sign, fn__law_right, fn_law, gt_MOST_WORD, gt_MOST_LETTERS, gt_LETTERS, gt_KEY_WORDS, gt_FIGURES, gt_SINGLE, gt_PARTING])
local macro_rules | `(tactic| walk_at "zd") => `(tactic| repeat (first
  | walk_at "zs"
  | refine inn_w (b := true) (by decide +kernel) ?_
  | refine inn_w (b := false) (by decide +kernel) ?_
  | refine nin_w (b := true) (by decide +kernel) ?_
  | refine nin_w (b := false) (by decide +kernel) ?_
  | refine tbT (by decide +kernel) ?_
  | refine tbF (by decide +kernel) ?_
  | refine wg (by decide +kernel) ?_))
local macro_rules | `(tactic| walk_at "ze") => `(tactic| repeat (first
  | walk_at "zb"
  | refine inn_w (b := true) (by decide +kernel) ?_
  | refine inn_w (b := false) (by decide +kernel) ?_
  | refine nin_w (b := true) (by decide +kernel) ?_
  | refine nin_w (b := false) (by decide +kernel) ?_
  | refine tbT (by decide +kernel) ?_
  | refine tbF (by decide +kernel) ?_
  | refine wg (by decide +kernel) ?_))
local macro_rules | `(tactic| walk_at "uf") => `(tactic| (walk_at "zd"; simp -implicitDefEqProofs only [F_cons, F_nil]; walk_at "zd"))
local macro_rules | `(tactic| walk_at "st") => `(tactic| simp -implicitDefEqProofs only [List.append_assoc, List.length_append, lk_app, lk_app0, st_set, st_set0, List.cons_append, List.nil_append, List.length_cons, List.length_nil, Nat.zero_add, Nat.reduceAdd, Nat.add_assoc, List.getElem?_cons_zero, List.getElem?_cons_succ, List.set_cons_zero, List.set_cons_succ])
local macro_rules | `(tactic| walk_at "dat") => `(tactic| simp -implicitDefEqProofs only [DEEP, d_non, d_bl, d_int, d_str, tupP_some, lstP_some, d_tup, datRd_some, d_ref, consP_some, dl_nil, dl_cons, lk_app, lk_app0, List.append_assoc, List.length_append, List.cons_append, List.nil_append, List.length_cons, List.length_nil, Nat.zero_add, Nat.reduceAdd, Nat.add_assoc, List.getElem?_cons_zero, List.getElem?_cons_succ])
local macro_rules | `(tactic| walk_at "zt") => `(tactic| repeat (first
  | walk_at "zs"
  | walk_at "st"
  | refine inn_w (b := true) (by decide +kernel) ?_
  | refine inn_w (b := false) (by decide +kernel) ?_
  | refine nin_w (b := true) (by decide +kernel) ?_
  | refine nin_w (b := false) (by decide +kernel) ?_
  | refine tbT (by decide +kernel) ?_
  | refine tbF (by decide +kernel) ?_
  | refine wg (by decide +kernel) ?_))

section
variable {S : Sto} {Q : KQ} {E : KE} {n : Nat}
def lapB : Ss := match f__law_right.body with | .cons (.for _ _ _ b) _ => b | _ => .nil
/-- a row of signs -/
structure RowOk (row : List Str) : Prop where
  len : row.length ≤ 11
  good : ∀ w ∈ row, Good (tl w) ∧ (tl w).length ≤ 8
theorem RowOk.okPs {row : List Str} (h : RowOk row) : PyData.okPs [.tuple (row.map .str), .tuple (row.map .str)] = true := by
  have := okPs_strs (l := row) fun x hx => good_small (h.good x hx).1
  simp only [PyData.okPs, PyData.okP, this]
  rfl
theorem RowOk.blk {row : List Str} (h : RowOk row) : PyData.bulkAll [.tuple (row.map .str), .tuple (row.map .str)] ≤ 200000 := by
  have := bulk_strs (l := row) fun x hx => by have := (h.good x hx).2; omega
  have := h.len
  simp only [PyData.bulkAll, PyData.bulk]
  omega
/-- the first half of a lap: the row and its text -/
theorem lap1 (k : Nat) {S0 : Sto} {r : Ss} {x1 x2 x3 x4 x5 x6 x7 x8 x9 x10 : Option D} {Y : KS} (k1 : Kp n S0 S)
    (q : ∀ (m : Nat) (row : List Str) (t : Str) (S' : Sto), RowOk row → m ≠ n → S'[m]? = some (.lst (row.map D.str)) → Txt3 (row.map tl) (tl t) → (tl t).length ≤ 10 * row.length + 4 → Kp n S0 S' → @WS (evB (evAt pg (k + 8)) r [some (.ref n), x1, x2, some (.ref m), some (.str t), x5, x6, x7, x8, x9, x10] S') Y) :
    @WS (evB (evAt pg (k + 8)) (.cons (.set (.v 3) (.lc [("turn", 10)] (.v 10) .range (.cons (.call "_law_deal" (.cons (.v 0) (.cons (.k (.int 12)) (.nil)))) (.nil)) (.k (.bl true)) (.call "_law_one_sign" (.cons (.v 0) (.nil))))) (.cons (.set (.v 4) (.call "_law_respaced" (.cons (.v 0) (.cons (.v 3) (.nil))))) r)) [some (.ref n), x1, x2, x3, x4, x5, x6, x7, x8, x9, x10] S) Y := by
  simp only [B_cons]
  walk_at "ze"
  refine s_deal _ k1.pl (by decide) fun z S1 z1 z2 k2 l2 => ?_
  walk_at "ze"
  refine wg (by omega) ?_
  walk_at "ze"
  refine w_lc (fun i acc S' => Kp n S1 S' ∧ S'[S1.length]? = some (.lst acc) ∧ ∃ row : List Str, acc = row.map D.str ∧ row.length = i ∧ ∀ w ∈ row, Good (tl w) ∧ (tl w).length ≤ 8) ?_ ?_ ⟨(Kp.refl k2.pl).app, by rw [lk_app0]; rfl, [], rfl, rfl, fun w h => by cases h⟩ ?_ ?_ ?_
  · rintro i acc S' ⟨_, h, row, e, hl, _⟩
    exact ⟨h, by rw [e, List.length_map, hl]; exact Nat.le_refl _⟩
  · rw [List.length_map, List.length_range]
    unfold LINE
    omega
  · intro i acc S' _
    exact stays_none S'
  · rintro i d acc S' hd ⟨k3, h3, row, e, hl, hg⟩
    refine ⟨_, by rw [asg_v], ?_⟩
    walk_at "ze"
    refine s_one_sign _ k3.pl fun w S2 g gl k4 => ?_
    walk_at "ze"
    have hn : S1.length ≠ n := by
      have := k2.pl.lt
      omega
    have h4 : S2[S1.length]? = some (.lst acc) := by rw [k4.old _ (lt_of_lk h3) hn, h3]
    refine ⟨h4, kp_setn (k3.trans k4) (Nat.le_refl _) hn, lk_set (lt_of_lk h4), row ++ [w], by rw [e, List.map_append]; rfl, by simp [hl], fun y hy => ?_⟩
    rcases List.mem_append.mp hy with hy | hy
    · exact hg y hy
    · have : y = w := by simpa using hy
      rw [this]
      exact ⟨g, gl⟩
  · rintro acc S2 ⟨k3, h3, row, e, hl, hg⟩
    rw [List.length_map, List.length_range] at hl
    subst e
    have hn : S1.length ≠ n := by
      have := k2.pl.lt
      omega
    have hr : RowOk row := ⟨by omega, hg⟩
    walk_at "ze"
    simp only [B_cons]
    walk_at "ze"
    refine s_respaced _ k3.pl h3 hn (by omega) hg fun t S3 ht htl k4 => ?_
    walk_at "ze"
    exact q _ row t S3 hr hn (by rw [k4.old _ (lt_of_lk h3) hn, h3]) ht htl ((k1.trans k2).trans (k3.trans k4))
theorem strsD_tl (row : List Str) : strsD (row.map tl) = row.map D.str := by
  unfold strsD
  have e : ∀ row : List Str, (row.map tl).map SX.S = row := fun row => by
    induction row with
    | nil => rfl
    | cons x r ih =>
      rw [List.map_cons, List.map_cons, ih]
  rw [e]
/-- signs gives the row -/
theorem lap2 (k : Nat) {S0 : Sto} {r : Ss} {x1 x2 x5 x6 x7 x8 x9 x10 : Option D} {Y : KS} {m : Nat} {row : List Str} {t : Str} (k1 : Kp n S0 S) (hr : RowOk row) (hm : S[m]? = some (.lst (row.map D.str))) (ht : Txt3 (row.map tl) (tl t)) (htl : (tl t).length ≤ 10 * row.length + 4)
    (q : ∀ S' : Sto, Kp n S0 S' → S'[m]? = some (.lst (row.map D.str)) → @WS (evB (evAt pg (k + 8)) r [some (.ref n), x1, x2, some (.ref m), some (.str t), x5, x6, x7, x8, x9, x10] S') Y) :
    @WS (evB (evAt pg (k + 8)) (.cons (.iff (.cmp .ne (.bi .repr (.cons (.lst (.cons (.call "signs" (.cons (.v 4) (.nil))) (.cons (.callk "signs" (.nil) ["text"] (.cons (.v 4) (.nil))) (.nil)))) (.nil))) (.bi .repr (.cons (.lst (.cons (.bi .tuple (.cons (.v 3) (.nil))) (.cons (.bi .tuple (.cons (.v 3) (.nil))) (.nil)))) (.nil))))
      (.cons (.ret (.k (.bl false))) (.nil))
      (.nil)) r) [some (.ref n), x1, x2, some (.ref m), some (.str t), x5, x6, x7, x8, x9, x10] S) Y := by
  have hlen := len_tl t
  have := hr.len
  have hml := lt_of_lk hm
  have hx : lex (tl t) = (row.map tl, true) := by
    have := ht [] fun w _ => bnd_nil
    rw [List.append_nil, lex_nil, List.append_nil] at this
    exact this
  simp only [B_cons]
  walk_at "ze"
  refine s_signs _ (by omega) rfl (by rw [hx]) ?_
  walk_at "ze"
  refine s_signs _ (by omega) rfl (by rw [hx]) ?_
  walk_at "ze"
  rw [hx, strsD_tl]
  have e1 : ∀ T : Sto, datL T 39 [.tup (row.map D.str), .tup (row.map D.str)] = some [.tuple (row.map .str), .tuple (row.map .str)] := fun T => by
    rw [dl_cons, d_tup, dat_strs, tupP_some, dl_cons, d_tup, dat_strs, tupP_some, dl_nil]
    rfl
  refine w_repr_ref (l := [.tup (row.map D.str), .tup (row.map D.str)]) (p := [.tuple (row.map .str), .tuple (row.map .str)]) (by rw [lk_app0]; rfl) (e1 _) hr.okPs hr.blk ?_
  walk_at "ze"
  rw [lk_old hml, hm]
  walk_at "ze"
  rw [lk_old hml, hm]
  walk_at "ze"
  refine w_repr_ref (l := [.tup (row.map D.str), .tup (row.map D.str)]) (p := [.tuple (row.map .str), .tuple (row.map .str)]) (by rw [lk_app0]; rfl) (e1 _) hr.okPs hr.blk ?_
  walk_at "ze"
  exact q _ k1.app.app (by rw [lk_old (by simp; omega), lk_old hml, hm])
/-- a text with an odd sign behind it -/
theorem lap3 (k : Nat) {S0 : Sto} {r : Ss} {x1 x2 x5 x6 x7 x8 x9 x10 : Option D} {Y : KS} {m : Nat} {row : List Str} {t : Str} (k1 : Kp n S0 S) (hr : RowOk row) (hm : S[m]? = some (.lst (row.map D.str))) (hmn : m ≠ n) (ht : Txt3 (row.map tl) (tl t)) (htl : (tl t).length ≤ 10 * row.length + 4)
    (q : ∀ (a b c d e f : Option D) (S' : Sto), Kp n S0 S' → @WS (evB (evAt pg (k + 8)) r [some (.ref n), x1, a, b, c, d, e, f, x8, x9, x10] S') Y) :
    @WS (evB (evAt pg (k + 8)) (.cons (.set (.v 5) (.tup (.cons (.k (.str "007")) (.cons (.k (.str "00")) (.cons (.k (.str "01")) (.cons (.k (.str "65536")) (.cons (.k (.str "99999")) (.cons (.k (.str "abcdefghi")) (.cons (.k (.str "deedwrite")) (.cons (.k (.str "?")) (.cons (.k (.str "A")) (.cons (.k (.str "_")) (.cons (.k (.str ".")) (.cons (.k (.str "a;")) (.cons (.k (.str "\"")) (.cons (.k (.str ">")) (.nil))))))))))))))))) (
    .cons (.set (.v 2) (.call "_law_any" (.cons (.v 0) (.cons (.v 5) (.nil))))) (
    .cons (.set (.v 6) (.bin .add (.bi .len (.cons (.v 3) (.nil))) (.ife (.cmp .eq (.v 2) (.k (.str "a;"))) (.k (.int 1)) (.k (.int 0))))) (
    .cons (.set (.v 7) (.bin .add (.bin .add (.bin .add (.v 4) (.k (.str " "))) (.v 2)) (.call "_law_any" (.cons (.v 0) (.cons (.tup (.cons (.k (.str "")) (.cons (.k (.str " ")) (.cons (.k (.str " x")) (.cons (.k (.str "(")) (.nil)))))) (.nil)))))) (
    .cons (.iff (.cmp .ne (.bi .repr (.cons (.told "_law_told" (.callk "signs" (.nil) ["text"] (.cons (.v 7) (.nil)))) (.nil))) (.bi .repr (.cons (.lst (.cons (.k (.str "unread")) (.cons (.v 6) (.nil)))) (.nil))))
      (.cons (.ret (.k (.bl false))) (.nil))
      (.nil)) r))))) [some (.ref n), x1, x2, some (.ref m), some (.str t), x5, x6, x7, x8, x9, x10] S) Y := by
  have hlen := len_tl t
  have hrl := hr.len
  have hml := lt_of_lk hm
  simp only [B_cons]
  walk_at "ze"
  simp only [B_cons]
  walk_at "ze"
  refine s_any_tup _ k1.pl (by simp) (by simp) fun d S1 hd k2 l2 => ?_
  obtain ⟨o, ho, e⟩ := List.mem_map.mp (show d ∈ oddL.map D.str from hd)
  subst e
  have hol := odd_len ho
  have hol2 := len_tl o
  have hm1 : S1[m]? = some (.lst (row.map D.str)) := by rw [k2.old _ hml hmn, hm]
  walk_at "ze"
  refine seq (fun ρ' S' => S' = S1 ∧ ρ' = [some (.ref n), x1, some (.str o), some (.ref m), some (.str t), some (.tup (oddL.map D.str)), some (.int ((row.length + (if o = "a;" then 1 else 0) : Nat) : Int)), x7, x8, x9, x10]) ?_ ?_
  · walk_at "ze"
    rw [hm1]
    walk_at "ze"
    refine tbd (fun h => ?_) fun h => ?_
    · walk_at "ze"
      refine ⟨by trivial, ?_⟩
      rw [if_pos h, List.length_map]
      rfl
    · walk_at "ze"
      refine ⟨by trivial, ?_⟩
      rw [if_neg h, List.length_map]
      rfl
  · rintro ρ S2 ⟨e1, e2⟩
    subst e1
    subst e2
    simp only [B_cons]
    walk_at "ze"
    have l1 : (Str.length " ") = 1 := by decide +kernel
    refine wg (by rw [l1]; unfold LINE; omega) ?_
    walk_at "ze"
    refine wg (by rw [slen_app, l1]; unfold LINE; omega) ?_
    walk_at "ze"
    refine s_any_tup _ k2.pl (by simp) (by simp) fun d S3 hd k3 l3 => ?_
    obtain ⟨s, hs, e⟩ := List.mem_map.mp (show d ∈ sufL.map D.str from hd)
    subst e
    have hsl := suf_len hs
    have hsl2 := len_tl s
    walk_at "ze"
    refine wg (by rw [slen_app, slen_app, l1]; unfold LINE; omega) ?_
    walk_at "ze"
    have hbt : tl (t ++ " " ++ o ++ s) = tl t ++ (32 :: (tl o ++ tl s)) := by
      have e : tl " " = [32] := rfl
      rw [tl_append, tl_append, tl_append, e]
      simp
    have hx : lex (tl (t ++ " " ++ o ++ s)) = (row.map tl ++ (if o = "a;" then [[97]] else []), false) := by
      have h := ht (32 :: (tl o ++ tl s)) fun w _ => bnd_sep (s := [32]) (rest := tl o ++ tl s) (fun c hc => by simp at hc; subst hc; rfl) (by simp)
      rw [hbt, h, odd_lex ho hs]
    have hln : ((row.map tl ++ (if o = "a;" then [[97]] else []) : List (List Nat)).length : Int) = ((row.length + (if o = "a;" then 1 else 0) : Nat) : Int) := by
      rw [List.length_append, List.length_map]
      split <;> rfl
    simp only [B_cons]
    walk_at "ze"
    refine s_signs_bad _ (by rw [slen_app, slen_app, slen_app, l1]; omega) rfl (by rw [hx]) ?_
    walk_at "ze"
    rw [hx]
    simp only []
    rw [hln]
    generalize hN : (row.length + (if o = "a;" then 1 else 0) : Nat) = N
    have hN2 : N ≤ 12 := by
      rw [← hN]
      split <;> omega
    have ok : PyData.okPs [.str "unread", .int (N : Int)] = true := by
      have e2 : PyData.okP (.str "unread") = true := by decide +kernel
      have e3 : PyData.okP (.int (N : Int)) = true := by
        simp only [PyData.okP, Bool.and_eq_true, decide_eq_true_eq]
        have p : (100 : Int) < 10 ^ 60 := by decide
        generalize (10 : Int) ^ 60 = B at p ⊢
        omega
      simp only [PyData.okPs, e2, e3, Bool.and_self]
    have blk : PyData.bulkAll [.str "unread", .int (N : Int)] ≤ 200000 := by
      have e2 : (Str.ofString "unread").cps.size ≤ 10 := by decide +kernel
      simp only [PyData.bulkAll, PyData.bulk]
      omega
    refine w_repr_ref (l := [.str "unread", .int (N : Int)]) (p := [.str "unread", .int (N : Int)]) (by rw [lk_app0]; rfl) (by walk_at "dat") ok blk ?_
    walk_at "ze"
    refine w_repr_ref (l := [.str "unread", .int (N : Int)]) (p := [.str "unread", .int (N : Int)]) (by rw [lk_app0]; rfl) (by walk_at "dat") ok blk ?_
    walk_at "ze"
    exact q _ _ _ _ _ _ _ ((k1.trans k2).trans k3).app.app
/-- what may be asked of is_name -/
structure ValOk (d : D) : Prop where
  ty : ∀ S, (tyN S d).isSome = true
  str : ∀ x, d = .str x → x.length ≤ 1000 ∧ ∀ c ∈ tl x, c < 128
theorem val_str {x : Str} (h : (tl x).length ≤ 1000) (h2 : ∀ c ∈ tl x, c < 128) : ValOk (.str x) := ⟨fun _ => rfl, fun y e => by cases e; exact ⟨by rw [len_tl]; exact h, h2⟩⟩
def someL : List Str := ["", "abcdefghi", "aB", "a1", "a b", "abcdefgh"]
theorem some_ok {x : Str} (hx : x ∈ someL) : ValOk (.str x) := by
  have key : (someL.all fun x => decide ((tl x).length ≤ 1000) && (tl x).all (fun c => decide (c < 128))) = true := by decide +kernel
  have := List.all_eq_true.mp key x hx
  simp only [Bool.and_eq_true, List.all_eq_true, decide_eq_true_eq] at this
  exact val_str this.1 this.2
theorem lap4 (k : Nat) {S0 : Sto} {x1 x2 x3 x4 x5 x6 x7 x8 x9 x10 : Option D} {Y : KS} (k1 : Kp n S0 S)
    (q : ∀ (b e f : Option D) (S' : Sto), Kp n S0 S' → Y.nx [some (.ref n), x1, x2, x3, x4, b, x6, x7, e, f, x10] S') :
    @WS (evB (evAt pg (k + 8)) (.cons (.set (.v 5) (.lst (.cons (.k (.str "")) (.cons (.k (.str "abcdefghi")) (.cons (.k (.str "aB")) (.cons (.k (.str "a1")) (.cons (.k (.str "a b")) (.cons (.k .non) (.cons (.k (.int 5)) (.cons (.tup (.cons (.k (.str "a")) (.nil))) (.cons (.k (.str "abcdefgh")) (.nil)))))))))))) (
    .cons (.set (.v 8) (.call "_law_any" (.cons (.v 0) (.cons (.bin .add (.bin .add (.v 5) (.call "_law_names" (.cons (.v 0) (.cons (.k (.int 1)) (.nil))))) (.call "_law_key_words" (.nil))) (.nil))))) (
    .cons (.set (.v 9) (.call "_law_is_name" (.cons (.v 8) (.nil)))) (
    .cons (.iff (.cmp .ne (.bi .repr (.cons (.lst (.cons (.call "is_name" (.cons (.v 8) (.nil))) (.cons (.callk "is_name" (.nil) ["value"] (.cons (.v 8) (.nil))) (.nil)))) (.nil))) (.bi .repr (.cons (.lst (.cons (.v 9) (.cons (.v 9) (.nil)))) (.nil))))
      (.cons (.ret (.k (.bl false))) (.nil))
      (.nil)) (.nil))))) [some (.ref n), x1, x2, x3, x4, x5, x6, x7, x8, x9, x10] S) Y := by
  simp only [B_cons]
  walk_at "ze"
  simp only [B_cons]
  walk_at "ze"
  generalize hl : [D.str "", D.str "abcdefghi", D.str "aB", D.str "a1", D.str "a b", D.non, D.int 5, D.tup [D.str "a"], D.str "abcdefgh"] = l9
  have l9l : l9.length = 9 := by rw [← hl]; rfl
  have l9k : ∀ d ∈ l9, ValOk d := by
    rw [← hl]
    intro d hd
    simp only [List.mem_cons, List.not_mem_nil, or_false] at hd
    rcases hd with rfl | rfl | rfl | rfl | rfl | rfl | rfl | rfl | rfl
    · exact some_ok (by decide +kernel)
    · exact some_ok (by decide +kernel)
    · exact some_ok (by decide +kernel)
    · exact some_ok (by decide +kernel)
    · exact some_ok (by decide +kernel)
    · exact ⟨fun _ => rfl, fun x e => by cases e⟩
    · exact ⟨fun _ => rfl, fun x e => by cases e⟩
    · exact ⟨fun _ => rfl, fun x e => by cases e⟩
    · exact some_ok (by decide +kernel)
  have hlt := k1.pl.lt
  refine s_names _ k1.pl.app (many := 1) (by decide) fun m S1 l hl hok hnd hm hS1 k2 => ?_
  have h9 : S1[S.length]? = some (.lst l9) := by rw [k2.old _ (by simp) (by omega), lk_app0]; rfl
  walk_at "ze"
  rw [h9, hS1]
  walk_at "ze"
  refine wg (by rw [List.length_map]; unfold LINE; omega) ?_
  walk_at "ze"
  refine s_kw _ ?_
  walk_at "ze"
  have hl1 : l.length = 1 := hl
  rw [lk_app0, lk_old (by simp), lk_app0]
  walk_at "ze"
  refine wg (by rw [List.length_append, List.length_map, List.length_map]; unfold LINE; have : kwL.length = 11 := rfl; omega) ?_
  walk_at "ze"
  have hlt1 := k2.pl.lt
  refine s_any_ref _ (l := l9 ++ l.map D.str ++ kwL.map D.str) k2.pl.app.app.app (by rw [lk_app0]; rfl) (by simp; omega) (by simp; omega) (by simp; have : kwL.length = 11 := rfl; omega) fun d S2 hd k3 l3 => ?_
  have hv : ValOk d := by
    rcases List.mem_append.mp hd with hd | hd
    · rcases List.mem_append.mp hd with hd | hd
      · exact l9k d hd
      · obtain ⟨w, hw, e⟩ := List.mem_map.mp hd
        subst e
        have := hok w hw
        exact val_str (by have := this.le; omega) (good_small (name_good this))
    · obtain ⟨w, hw, e⟩ := List.mem_map.mp hd
      subst e
      have := kw_good w hw
      exact val_str (by omega) (good_small this.1)
  have k4 : Kp n S0 S2 := ((k1.app.trans k2).app.app.app).trans k3
  walk_at "ze"
  simp only [B_cons]
  walk_at "ze"
  refine s_law_is_name _ (hv.ty _) hv.str ?_
  walk_at "ze"
  simp only [B_cons]
  walk_at "ze"
  refine s_is_name _ (hv.ty _) (fun x e => by have := (hv.str x e).1; omega) rfl ?_
  walk_at "ze"
  refine s_is_name _ (hv.ty _) (fun x e => by have := (hv.str x e).1; omega) rfl ?_
  walk_at "ze"
  have ok : PyData.okPs [.bool (nameD d), .bool (nameD d)] = true := rfl
  have blk : PyData.bulkAll [.bool (nameD d), .bool (nameD d)] ≤ 200000 := by
    simp only [PyData.bulkAll, PyData.bulk]
    omega
  refine w_repr_ref (l := [.bl (nameD d), .bl (nameD d)]) (p := [.bool (nameD d), .bool (nameD d)]) (by rw [lk_app0]; rfl) (by walk_at "dat") ok blk ?_
  walk_at "ze"
  refine w_repr_ref (l := [.bl (nameD d), .bl (nameD d)]) (p := [.bool (nameD d), .bool (nameD d)]) (by rw [lk_app0]; rfl) (by walk_at "dat") ok blk ?_
  walk_at "ze"
  exact q _ _ _ _ k4.app.app
/-- a lap -/
theorem lap (k : Nat) {S0 : Sto} {x1 x2 x3 x4 x5 x6 x7 x8 x9 x10 : Option D} (k1 : Kp n S0 S) : @WS (evB (evAt pg (k + 8)) lapB [some (.ref n), x1, x2, x3, x4, x5, x6, x7, x8, x9, x10] S) ⟨I1 n S0, fun _ _ => False, fun _ _ => False, fun _ _ => False, E0⟩ := by
  simp only [lapB, f__law_right]
  refine lap1 k k1 fun m row t S1 hr hmn hm ht htl k2 => ?_
  refine lap2 k k2 hr hm ht htl fun S2 k3 hm2 => ?_
  refine lap3 k k3 hr hm2 hmn ht htl fun a b c d e f S3 k4 => ?_
  refine lap4 k k4 fun b e f S4 k5 => ?_
  exact ⟨⟨_, _, _, _, _, _, _, _, _, _, rfl⟩, k5⟩
structure NoText (S : Sto) (d : D) (p : PyData) : Prop where
  ty : (tyN S d).isSome = true
  no : ∀ x, d ≠ .str x
  dat : ∀ (T : Sto) (m : Nat), dat (S ++ T) (m + 2) d = some p
  ok : PyData.okP p = true
  blk : p.bulk ≤ 10
def lap2B : Ss := match f__law_right.body with | .cons _ (.cons (.for _ _ _ b) _) => b | _ => .nil
theorem lapN (k : Nat) {S0 : Sto} {d : D} {p : PyData} {x1 x3 x4 x5 x6 x7 x8 x9 x10 : Option D} (k1 : Kp n S0 S) (hd : NoText S d p) : @WS (evB (evAt pg (k + 8)) lap2B [some (.ref n), x1, some d, x3, x4, x5, x6, x7, x8, x9, x10] S) ⟨I1 n S0, fun _ _ => False, fun _ _ => False, fun _ _ => False, E0⟩ := by
  simp only [lap2B, f__law_right]
  simp only [B_cons]
  walk_at "ze"
  refine s_signs_no _ hd.ty hd.no ?_
  walk_at "ze"
  have ok : PyData.okPs [.str "text", p] = true := by
    have e2 : PyData.okP (.str "text") = true := by decide +kernel
    simp only [PyData.okPs, hd.ok, e2, Bool.and_self]
  have blk : PyData.bulkAll [.str "text", p] ≤ 200000 := by
    have e2 : (Str.ofString "text").cps.size ≤ 10 := by decide +kernel
    have := hd.blk
    simp only [PyData.bulkAll, PyData.bulk]
    omega
  refine w_repr_ref (l := [D.str "text", d]) (p := [.str "text", p]) (by rw [lk_app0]; rfl) (by (try simp only [List.append_assoc]); walk_at "dat"; simp only [hd.dat]; walk_at "dat") ok blk ?_
  walk_at "ze"
  refine w_repr_ref (l := [D.str "text", d]) (p := [.str "text", p]) (by rw [lk_app0]; rfl) (by (try simp only [List.append_assoc]); walk_at "dat"; simp only [hd.dat]; walk_at "dat") ok blk ?_
  walk_at "ze"
  exact ⟨⟨_, _, _, _, _, _, _, _, _, _, rfl⟩, k1.app.app⟩
theorem last_lex : lex (tl "3x40y(") = ([[51], [120], [52, 48], [121], [40]], true) := by decide +kernel
def lastL : List Str := ["3", "x", "40", "y", "("]
theorem last_S : ([[51], [120], [52, 48], [121], [40]] : List (List Nat)).map SX.S = lastL := by decide +kernel
theorem s_right (k : Nat) (hp : Pail S n) (q : ∀ S', Kp n S S' → Q.f (.bl true) S') : @WR (callN pg (k + 9) Str.empty "_law_right" [.ref n] [] S) Q E := by
  refine w_call lk__law_right (vs := [.ref n]) rfl ?_
  simp only [f__law_right]
  refine seq (I1 n S) ?_ ?_
  · walk_at "ze"
    refine w_for (fun _ ρ S' => I1 n S ρ S') ⟨⟨_, _, _, _, _, _, _, _, _, _, rfl⟩, Kp.refl hp⟩ (fun _ _ _ _ => stays_none _) ?_ (fun ρ S' h => h)
    rintro i d ρ S1 hd ⟨⟨x1, x2, x3, x4, x5, x6, x7, x8, x9, x10, rfl⟩, k1⟩
    refine ⟨_, by rw [asg_v], ?_⟩
    exact s_mono (lap k k1) (fun _ _ h => h) (fun _ _ z => z.elim) (fun _ _ z => z.elim) (fun _ _ z => z.elim) (fun _ _ _ z => z.elim)
  · rintro ρ S' ⟨⟨x1, x2, x3, x4, x5, x6, x7, x8, x9, x10, rfl⟩, k1⟩
    refine seq (I1 n S) ?_ ?_
    · walk_at "ze"
      have hlt := k1.pl.lt
      have hS1 : ∀ S2, Kp n (S' ++ [Ob.lst [.str "a"]]) S2 → S2[S'.length]? = some (Ob.lst [.str "a"]) := fun S2 h => by
        rw [h.old _ (by simp) (by omega), lk_app0]
        rfl
      refine w_for (fun _ ρ S2 => I1 n (S' ++ [Ob.lst [.str "a"]]) ρ S2) ⟨⟨_, _, _, _, _, _, _, _, _, _, rfl⟩, Kp.refl k1.pl.app⟩ (fun _ _ _ _ => stays_none _) ?_ ?_
      · rintro i d ρ S2 hd ⟨⟨x1, x2, x3, x4, x5, x6, x7, x8, x9, x10, rfl⟩, k2⟩
        refine ⟨_, by rw [asg_v], ?_⟩
        have hm := List.mem_of_getElem? hd
        have go : ∀ p : PyData, NoText S2 d p → @WS (evB (evAt pg (k + 8)) lap2B [some (.ref n), x1, some d, x3, x4, x5, x6, x7, x8, x9, x10] S2) ⟨fun ρ S2 => I1 n (S' ++ [Ob.lst [.str "a"]]) ρ S2, fun _ _ => False, fun _ _ => False, fun _ _ => False, E0⟩ := fun p hp => lapN k k2 hp
        simp only [List.mem_cons, List.not_mem_nil, or_false] at hm
        rcases hm with e | e | e | e | e
        · subst e
          exact s_mono (go .none ⟨rfl, (fun x e => by cases e), fun T m => d_non _ _, rfl, by decide⟩) (fun _ _ h => h) (fun _ _ z => z.elim) (fun _ _ z => z.elim) (fun _ _ z => z.elim) (fun _ _ _ z => z.elim)
        · subst e
          exact s_mono (go (.int 5) ⟨rfl, (fun x e => by cases e), fun T m => d_int _ _ _, by decide +kernel, by decide +kernel⟩) (fun _ _ h => h) (fun _ _ z => z.elim) (fun _ _ z => z.elim) (fun _ _ z => z.elim) (fun _ _ _ z => z.elim)
        · subst e
          exact s_mono (go (.tuple []) ⟨rfl, (fun x e => by cases e), fun T m => by rw [d_tup, dl_nil]; rfl, by decide +kernel, by decide +kernel⟩) (fun _ _ h => h) (fun _ _ z => z.elim) (fun _ _ z => z.elim) (fun _ _ z => z.elim) (fun _ _ _ z => z.elim)
        · subst e
          refine s_mono (go (.list [.str "a"]) ⟨by simp only [tyN, rdL, hS1 S2 k2]; rfl, (fun x e => by cases e), fun T m => ?_, by decide +kernel, by decide +kernel⟩) (fun _ _ h => h) (fun _ _ z => z.elim) (fun _ _ z => z.elim) (fun _ _ z => z.elim) (fun _ _ _ z => z.elim)
          rw [d_ref, lk_old (lt_of_lk (hS1 S2 k2)), hS1 S2 k2, datRd_some, dl_cons, d_str, dl_nil]
          rfl
        · subst e
          exact s_mono (go (.bool true) ⟨rfl, (fun x e => by cases e), fun T m => d_bl _ _ _, by decide +kernel, by decide +kernel⟩) (fun _ _ h => h) (fun _ _ z => z.elim) (fun _ _ z => z.elim) (fun _ _ z => z.elim) (fun _ _ _ z => z.elim)
      · rintro ρ S2 ⟨h, k2⟩
        exact ⟨h, k1.app.trans k2⟩
    · rintro ρ S2 ⟨⟨x1, x2, x3, x4, x5, x6, x7, x8, x9, x10, rfl⟩, k2⟩
      simp only [B_cons]
      walk_at "ze"
      refine s_signs (x := "3x40y(") _ (by decide +kernel) rfl (by rw [last_lex]) ?_
      walk_at "ze"
      rw [last_lex]
      have e : strsD ([[51], [120], [52, 48], [121], [40]] : List (List Nat)) = lastL.map D.str := by
        unfold strsD
        rw [last_S]
      rw [e]
      refine cmp_w (b := true) ?_ ?_
      · have e2 : dat S2 DEEP (.tup (lastL.map D.str)) = some (.tuple (lastL.map PyData.str)) := by
          unfold DEEP
          rw [d_tup, dat_strs, tupP_some]
        show eqD S2 (.tup (lastL.map D.str)) (.tup (lastL.map D.str)) = _
        unfold eqD
        simp only [e2]
        decide +kernel
      · exact w_gcr rfl (Kp n S) k2 (fun _ => Kp.refl hp) q
end
theorem law_ok : ∀ ns : List Int, ns.length ≤ 63 → ∃ S, callN pg 20 Str.empty "law" [.ref 0] [] [.frz (ns.map D.int)] = .ok (.bl true) S := by
  intro ns hl
  refine of_key (r := callN pg (19 + 1) Str.empty "law" [.ref 0] [] [.frz (ns.map D.int)]) ?_
  refine w_call lk_law (vs := [.ref 0]) rfl ?_
  simp only [f_law]
  walk_at "zd"
  generalize ht : (if (if 3 < ((ns.map D.int).length : Int) then (3 : Int) else ((ns.map D.int).length : Int)) > 1 then (if 3 < ((ns.map D.int).length : Int) then (3 : Int) else ((ns.map D.int).length : Int)) else 1) = t
  have t1 : 1 ≤ t ∧ t ≤ 3 := by
    rw [← ht]
    split <;> split <;> omega
  refine wg (by omega) ?_
  walk_at "zd"
  refine w_lc (fun i acc S => acc = List.replicate i (.bl true) ∧ S[0]? = some (.frz (ns.map D.int)) ∧ S[1]? = some (.lst acc)) ?_ ?_ ?_ ?_ ?_ ?_
  · rintro i acc S ⟨rfl, h0, h1⟩
    exact ⟨h1, by simp⟩
  · simp only [List.length_map, List.length_range]
    unfold LINE
    omega
  · exact ⟨rfl, rfl, rfl⟩
  · intro i acc S _
    exact stays_none S
  · rintro i d acc S hd ⟨rfl, h0, h1⟩
    refine ⟨_, by rw [asg_v], ?_⟩
    obtain ⟨j, _, rfl⟩ := List.mem_map.mp (List.mem_of_getElem? hd)
    walk_at "zd"
    refine s_pail _ h0 (by omega) fun a b c => ?_
    walk_at "zd"
    have lS : 1 < S.length := lt_of_lk h1
    refine s_right _ ⟨a, b, c, by rw [lk_app0]; rfl⟩ fun S' k => ?_
    walk_at "zd"
    have o0 := k.old 0 (by simp) (by omega)
    have o1 := k.old 1 (by simp; omega) (by omega)
    rw [lk_old (by omega)] at o0 o1
    have l1 : 1 < S'.length := by have := k.len; simp at this; omega
    refine ⟨by rw [o1, h1], by rw [← List.replicate_succ', List.replicate_succ], ?_, ?_⟩
    · rw [lk_set_ne (by omega), o0, h0]
    · rw [lk_set l1]
  · rintro acc S ⟨rfl, h0, h1⟩
    walk_at "zd"
    refine w_all (bs := List.replicate _ true) S (by rw [rd_lst S 1 _ h1, List.map_replicate]) ?_
    walk_at "zd"
    rw [show (List.replicate (List.map (fun k : Nat => D.int (k : Int)) (List.range t.toNat)).length true).all id = true by simp]
    refine w_gcr rfl (fun _ => True) trivial (fun _ => trivial) fun _ _ => rfl

end K03
set_option maxHeartbeats 0
namespace K03
open PySem PySem.Spec PyProof.Rows L2 Z
abbrev RL : PySem.W.OpenLaw := PySem.Challenge.rw_madetwice_k03_whole_signs_and_names
abbrev R : PySem.W.OpenRow := PySem.W.OpenLaw.row RL
abbrev FL : Str := (RL.prog.main.file : Str)
abbrev hk : PySem.W.Hook := Z.hookZ 6 FL pg
def ob (s : PySem.W.SharedT) : Bool := Z.obZ 6 FL pg (HandSHeadRun.getT s)
theorem ob_eq (s : PySem.W.SharedT) : ob s = hk.obs s.abs := Z.obZ_eq (HandSHeadRun.getT_eq s)
theorem run (w : World) : HandSHeadRun.RunEq R (PySem.W.view R.prog [32]) hk ob 3000 names w := by
  intro os
  kernel_rfl
end K03
open PySem PySem.W PySem.Calls PyProof.Rows
theorem PySem.Challenge.cw_madetwice_k03_whole_signs_and_names_holds : PySem.Challenge.rw_madetwice_k03_whole_signs_and_names.Holds := by
  w_on; o_law
  refine HandSHeadRun.head_any (r := K03.R) (q := view K03.R.prog [32]) (H := K03.hk) (ob := K03.ob) (M := 3000) (loose := K03.names) (d := HandSHeadRun.topDef K03.R.prog 32) (kwd := []) K03.ob_eq
    (by kernel_rfl) (fun s => by kernel_rfl) K03.run (by kernel_rfl) (by kernel_rfl) (by kernel_rfl) (by rfl) (by first | assumption | decide +kernel) (by decide +kernel) ⟨rfl, rfl, rfl, rfl, rfl, by decide +kernel⟩ ?hw ?hc
  case hw => w_witness2
  case hc => exact Z.walkZ (l := K03.RL) (n := 63) (k := 20) (m := 6) (x := "law") (fd := K03.f_law) K03.FL K03.pg rfl (by decide) (by kernel_rfl) (by decide) (by kernel_rfl) (by kernel_rfl) rfl (by kernel_rfl) K03.law_ok
