import PyProof.Rows.All
import Wide.All
import OpenK.AllK
import Wide.FinOn
import HandS.ForMost
import HandS.ForExc
import HandS.TupAny
import HandS.IsInst
import HandS.Wide
import HandS.TupLe
import HandS.Conv
import HandS.Zip
import HandS.TupMul
import HandS.Iter
import HandS.Deep
import HandS.TryMany
import HandS.StrMore
import HandS.NoneIn
import HandS.SortInts
import HandS.Small
import HandS.More
import HandS.SetFor
import HandS.TupSets
import HandS.Strs
import HandS.Rev
import HandS.EndBits
import PySem.Challenge.RW_snapshelf_k55_disks_cut
set_option Elab.async false
set_option linter.all false
set_option maxRecDepth 100000
set_option maxHeartbeats 4000000
/-! MiA: a small functional reading of the Python subset: data, stores, results, combinators. -/
namespace MI
open PySem PySem.Spec PyProof.Rows L2

/-- data by value; ref: an object of the store that may change -/
inductive D where
  | non | bl (b : Bool) | int (i : Int) | str (x : Str)
  | tup (ds : List D) | lst (ds : List D) | fz (ds : List D)
  | dic (kvs : List (Key × D)) | ref (l : Nat)

inductive SO where
  | lst (ds : List D)
  | dic (kvs : List (Key × D))
  | ins (c : Str) (fs : List (Str × D))
  | dicT (kvs : List (List Key × D))
abbrev Sto := List SO
abbrev DEnv := List (Option D)

inductive R (α : Type) where
  | ok (a : α) (st : Sto)
  | exc (c : Nat) (st : Sto)
  | stuck
def R.bind {α β : Type} (r : R α) (f : α → Sto → R β) : R β :=
  match r with
  | .ok a st => f a st
  | .exc c st => .exc c st
  | .stuck => .stuck
abbrev ME := DEnv → Sto → R D

inductive SR where
  | nx (env : DEnv) (st : Sto)
  | rt (d : D) (st : Sto)
  | bk (env : DEnv) (st : Sto)
  | ct (env : DEnv) (st : Sto)
  | exc (c : Nat) (env : DEnv) (st : Sto)
  | stuck
abbrev MS := DEnv → Sto → SR

@[simp] theorem R.bind_ok {α β : Type} (a : α) (st : Sto) (f : α → Sto → R β) : (R.ok a st).bind f = f a st := rfl
@[simp] theorem R.bind_exc {α β : Type} (c : Nat) (st : Sto) (f : α → Sto → R β) : (R.exc c st : R α).bind f = .exc c st := rfl
@[simp] theorem R.bind_stuck {α β : Type} (f : α → Sto → R β) : (R.stuck : R α).bind f = .stuck := rfl

/-! ### data as PyData -/
mutual
def noRef : D → Bool
  | .tup ds => noRefs ds
  | .lst ds => noRefs ds
  | .fz ds => noRefs ds
  | .dic _ => false
  | .ref _ => false
  | _ => true
def noRefs : List D → Bool
  | [] => true
  | d :: ds => noRef d && noRefs ds
end
mutual
def toPy : D → PyData
  | .non => .none
  | .bl b => .bool b
  | .int i => .int i
  | .str x => .str x
  | .tup ds => .tuple (toPys ds)
  | .lst ds => .list (toPys ds)
  | .fz ds => .list (toPys ds)
  | .dic _ => .none
  | .ref _ => .none
def toPys : List D → List PyData
  | [] => []
  | d :: ds => toPy d :: toPys ds
end
/-! no ref at or above n -/
mutual
def below (n : Nat) : D → Bool
  | .tup ds => belows n ds
  | .lst ds => belows n ds
  | .fz ds => belows n ds
  | .dic kvs => belowk n kvs
  | .ref l => decide (l < n)
  | _ => true
def belows (n : Nat) : List D → Bool
  | [] => true
  | d :: ds => below n d && belows n ds
def belowk (n : Nat) : List (Key × D) → Bool
  | [] => true
  | (_, d) :: ds => below n d && belowk n ds
end

/-- a list of the store by value -/
def deref (st : Sto) : D → D
  | .ref l => match st[l]? with
    | some (.lst ds) => .lst ds
    | some (.dic kvs) => .dic kvs
    | _ => .ref l
  | d => d

/-! ### operations -/
def mulOk (i j : Int) : Prop := CMul i j ∨ CMulW i j
instance (i j : Int) : Decidable (mulOk i j) := by unfold mulOk CMul CMulW; infer_instance
instance (i j : Int) : Decidable (CDivW i j) := by unfold CDivW; infer_instance
instance (i j : Int) : Decidable (CPow i j) := by unfold CPow; infer_instance

def opAdd (x y : D) (st : Sto) : R D :=
  match x, y with
  | .int i, .int j => .ok (.int (i + j)) st
  | .int i, .bl k => .ok (.int (i + b2i k)) st
  | .str a, .str b => if a.length + b.length ≤ sizeLine then .ok (.str (a ++ b)) st else .stuck
  | .tup a, .tup b => if a.length + b.length ≤ sizeLine then .ok (.tup (a ++ b)) st else .stuck
  | x, y => match deref st x, deref st y with
    | .lst a, .lst b => if a.length + b.length ≤ sizeLine then .ok (.lst (a ++ b)) st else .stuck
    | _, _ => .stuck
def opSub (x y : D) (st : Sto) : R D :=
  match x, y with
  | .int i, .int j => .ok (.int (i - j)) st
  | _, _ => .stuck
def opMul (x y : D) (st : Sto) : R D :=
  match x, y with
  | .int i, .int j => if mulOk i j then .ok (.int (i * j)) st else .stuck
  | x, .int k => match deref st x with
    | .lst a => if -(2 ^ 63) ≤ k ∧ k < 2 ^ 63 ∧ a.length * k.toNat ≤ sizeLine then .ok (.lst (List.replicate k.toNat a).flatten) st else .stuck
    | .tup a => if a ≠ [] ∧ 0 ≤ k ∧ k ≤ 1000 ∧ a.length ≤ 1000 then .ok (.tup (List.replicate k.toNat a).flatten) st else .stuck
    | _ => .stuck
  | _, _ => .stuck
def opMod (x y : D) (st : Sto) : R D :=
  match x, y with
  | .int i, .int j => if 0 < j then .ok (.int (i % j)) st else .stuck
  | _, _ => .stuck
def opDiv (x y : D) (st : Sto) : R D :=
  match x, y with
  | .int i, .int j => if CDivW i j then .ok (.int (i / j)) st else .stuck
  | _, _ => .stuck
def opPow (x y : D) (st : Sto) : R D :=
  match x, y with
  | .int i, .int j => if CPow i j then .ok (.int (i ^ j.toNat)) st else .stuck
  | _, _ => .stuck
def opCmp (p : Int → Int → Bool) (x y : D) (st : Sto) : R D :=
  match x, y with
  | .int i, .int j => .ok (.bl (p i j)) st
  | _, _ => .stuck
def opLt := opCmp fun i j => decide (i < j)
def opLe := opCmp fun i j => decide (i ≤ j)
def opGt := opCmp fun i j => decide (j < i)
def opGe := opCmp fun i j => decide (j ≤ i)
/-- == of plain data -/
def eqD (st : Sto) (x y : D) : Option Bool :=
  if noRef (deref st x) && noRef (deref st y) && SeqAt.shaped (toPy (deref st x)) && SeqAt.shaped (toPy (deref st y)) then some (PyData.eqv (toPy (deref st x)) (toPy (deref st y))) else none
/-- a tuple == () -/
def eqT0 (x y : D) : Option Bool := match x, y with
  | .tup ds, .tup [] => some ds.isEmpty
  | _, _ => none
def keyOf : D → Option Key
  | .int i => some (.inl i)
  | .str x => some (.inr x)
  | _ => none
def kvGet (kvs : List (Key × D)) (k : Key) : Option D := (kvs.find? fun kv => decide (kv.1 = k)).map (·.2)
/-- two dicts of the same keys, their values plain and equal -/
def leafD (d : D) : Bool := noRef d && SeqAt.shaped (toPy d)
def sameV (v : D) : Option D → Bool
  | some u => leafD v && leafD u && PyData.eqv (toPy v) (toPy u)
  | none => false
def dicSame (a b : List (Key × D)) : Bool := decide (a.length = b.length) && a.all fun p => sameV p.2 (kvGet b p.1)
def eqX (st : Sto) (x y : D) : Bool := match deref st x, deref st y with
  | .dic a, .dic b => dicSame a b
  | _, _ => false
def opEq (x y : D) (st : Sto) : R D :=
  match eqD st x y with
  | some b => .ok (.bl b) st
  | none => match eqT0 x y with
    | some b => .ok (.bl b) st
    | none => if eqX st x y = true then .ok (.bl true) st else .stuck
def opNe (x y : D) (st : Sto) : R D :=
  match eqD st x y with
  | some b => .ok (.bl (!b)) st
  | none => if eqX st x y = true then .ok (.bl false) st else .stuck
def opIs (x y : D) (st : Sto) : R D :=
  match x, y with
  | .non, .non => .ok (.bl true) st
  | _, .non => .ok (.bl false) st
  | .bl a, .bl b => .ok (.bl (decide (a = b))) st
  | _, _ => .stuck
def opIsNot (x y : D) (st : Sto) : R D :=
  match x, y with
  | .non, .non => .ok (.bl false) st
  | _, .non => .ok (.bl true) st
  | .bl a, .bl b => .ok (.bl (!decide (a = b))) st
  | _, _ => .stuck
/-! ### lists of one kind -/
def intsOf : List D → Option (List Int)
  | [] => some []
  | .int i :: ds => (intsOf ds).map (i :: ·)
  | _ => none
def boolsOf : List D → Option (List Bool)
  | [] => some []
  | .bl i :: ds => (boolsOf ds).map (i :: ·)
  | _ => none
def strsOf : List D → Option (List Str)
  | [] => some []
  | .str i :: ds => (strsOf ds).map (i :: ·)
  | _ => none
@[simp] theorem intsOf_map (ns : List Int) : intsOf (ns.map D.int) = some ns := by
  induction ns with
  | nil => rfl
  | cons n ns ih => simp [intsOf, ih]
@[simp] theorem boolsOf_map (ns : List Bool) : boolsOf (ns.map D.bl) = some ns := by
  induction ns with
  | nil => rfl
  | cons n ns ih => simp [boolsOf, ih]
@[simp] theorem strsOf_map (ns : List Str) : strsOf (ns.map D.str) = some ns := by
  induction ns with
  | nil => rfl
  | cons n ns ih => simp [strsOf, ih]

/-- x in y -/
def isIn (st : Sto) (x y : D) : Option Bool :=
  match x, deref st y with
  | .str a, .str b => match a.cps.toList with
    | [c] => some (decide (c ∈ b.cps.toList))
    | _ => none
  | x, .dic kvs => (keyOf x).map fun k => (kvGet kvs k).isSome
  | x, .lst ds => if noRef (deref st x) && noRefs ds && SeqAt.shaped (toPy (deref st x)) && SeqAt.shaped (.list (toPys ds)) then some ((toPys ds).any fun z => PyData.eqv z (toPy (deref st x))) else none
  | .int i, .tup ds => (intsOf ds).map fun ns => decide (i ∈ ns)
  | .str i, .tup ds => (strsOf ds).map fun ns => decide (i ∈ ns)
  | _, _ => none
def opIn (x y : D) (st : Sto) : R D :=
  match isIn st x y with
  | some b => .ok (.bl b) st
  | none => .stuck
def opNotIn (x y : D) (st : Sto) : R D :=
  match isIn st x y with
  | some b => .ok (.bl (!b)) st
  | none => .stuck
def truth (st : Sto) (d : D) : Option Bool :=
  match deref st d with
  | .non => some false
  | .bl b => some b
  | .int i => some (i != 0)
  | .str x => if x.length ≤ sizeLine then some ((x.length : Int) != 0) else none
  | .tup ds => some (!ds.isEmpty)
  | .lst ds => some (!ds.isEmpty)
  | .fz ds => some (!ds.isEmpty)
  | .dic kvs => some (!kvs.isEmpty)
  | .ref _ => none
def tyName (st : Sto) (d : D) : Option String :=
  match deref st d with
  | .non => some "NoneType"
  | .bl _ => some "bool"
  | .int _ => some "int"
  | .str _ => some "str"
  | .tup _ => some "tuple"
  | .lst _ => some "list"
  | .fz _ => none
  | .dic _ => some "dict"
  | .ref _ => none
def isInst (T : String) (d : D) (st : Sto) : R D :=
  match tyName st d with
  | some a => match kitB a T with
    | some b => .ok (.bl b) st
    | none => .stuck
  | none => .stuck
def lenD (st : Sto) (d : D) : Option Nat :=
  match deref st d with
  | .str x => if x.length ≤ sizeLine then some x.length else none
  | .tup ds => some ds.length
  | .lst ds => some ds.length
  | .fz ds => some ds.length
  | _ => none
/-- x[i] -/
def opIx (x y : D) (st : Sto) : R D :=
  match deref st x, y with
  | .str z, .int i => if z.length ≤ sizeLine then (match atI z.cps.toList i with
    | some c => .ok (.str ⟨#[c]⟩) st
    | none => .stuck) else .stuck
  | .tup ds, .int i => match atI ds i with
    | some d => .ok d st
    | none => .stuck
  | .lst ds, .int i => match atI ds i with
    | some d => .ok d st
    | none => .stuck
  | .fz ds, .int i => match atI ds i with
    | some d => .ok d st
    | none => .stuck
  | .dic kvs, y => match (keyOf y).bind (kvGet kvs) with
    | some d => .ok d st
    | none => .stuck
  | _, _ => .stuck
def cutL {α : Type} (xs : List α) (lo hi : Option Int) : List α :=
  (xs.drop (HT.sIx xs.length 0 lo)).take (HT.sIx xs.length xs.length hi - HT.sIx xs.length 0 lo)
def opSl (x : D) (lo hi : Option Int) (st : Sto) : R D :=
  match deref st x with
  | .str z => if z.length ≤ sizeLine then .ok (.str (cutS z lo hi)) st else .stuck
  | .tup ds => .ok (.tup (cutL ds lo hi)) st
  | .lst ds => .ok (.lst (cutL ds lo hi)) st
  | _ => .stuck

/-! ### expressions -/
def mVar (i : Nat) : ME := fun env st => match env[i]? with
  | some (some d) => .ok d st
  | _ => .stuck
def mC (d : D) : ME := fun _ st => .ok d st
def mBin (f : D → D → Sto → R D) (a b : ME) : ME := fun env st => (a env st).bind fun x st => (b env st).bind fun y st => f x y st
def mNeg (a : ME) : ME := fun env st => (a env st).bind fun x st => match x with
  | .int i => .ok (.int (-i)) st
  | _ => .stuck
def mAnd (a b : ME) : ME := fun env st => (a env st).bind fun x st => match x with
  | .bl true => b env st
  | .bl false => .ok (.bl false) st
  | _ => .stuck
def mOr (a b : ME) : ME := fun env st => (a env st).bind fun x st => match x with
  | .bl true => .ok (.bl true) st
  | .bl false => b env st
  | _ => .stuck
def mNot (a : ME) : ME := fun env st => (a env st).bind fun x st => match x with
  | .bl b => .ok (.bl (!b)) st
  | _ => .stuck
/-- a test -/
def mT (a : ME) : DEnv → Sto → R Bool := fun env st => (a env st).bind fun x st => match truth st x with
  | some b => .ok b st
  | none => .stuck
def mIfE (c a b : ME) : ME := fun env st => (mT c env st).bind fun k st => if k = true then a env st else b env st
def mArgs : List ME → DEnv → Sto → R (List D)
  | [], _, st => .ok [] st
  | e :: es, env, st => (e env st).bind fun d st => (mArgs es env st).bind fun ds st => .ok (d :: ds) st
def mTup (es : List ME) : ME := fun env st => (mArgs es env st).bind fun ds st => if ds.length ≤ sizeLine then .ok (.tup ds) st else .stuck
def mLst (es : List ME) : ME := fun env st => (mArgs es env st).bind fun ds st => if ds.length ≤ sizeLine then .ok (.lst ds) st else .stuck
/-- a new list of the store -/
def mNew (es : List ME) : ME := fun env st => (mArgs es env st).bind fun ds st => if ds.length ≤ sizeLine then .ok (.ref st.length) (st ++ [.lst ds]) else .stuck
def mCall (f : List D → Sto → R D) (es : List ME) : ME := fun env st => (mArgs es env st).bind fun ds st => f ds st
def mIsI (T : String) (a : ME) : ME := fun env st => (a env st).bind fun x st => isInst T x st
def mOpt (a : Option ME) : DEnv → Sto → R (Option Int) := fun env st => match a with
  | none => .ok none st
  | some a => (a env st).bind fun x st => match x with
    | .int i => .ok (some i) st
    | _ => .stuck
def mSl (a : ME) (lo hi : Option ME) : ME := fun env st => (a env st).bind fun x st => (mOpt lo env st).bind fun i st => (mOpt hi env st).bind fun j st => opSl x i j st

/-! ### what is walked -/
inductive Src where
  | vals (ds : List D)
  | live (l : Nat) (ds : List D)
  | multi (ls : List (Nat × List D)) (ds : List D)
abbrev MIt := DEnv → Sto → R Src
def Src.items : Src → List D
  | .vals ds => ds
  | .live _ ds => ds
  | .multi _ ds => ds
/-- the list that is walked stands as it stood -/
def Src.holds : Src → Sto → Prop
  | .vals _, _ => True
  | .live l ds, st => st[l]? = some (.lst ds)
  | .multi ls _, st => ∀ p ∈ ls, st[p.1]? = some (.lst p.2)
open Classical in
noncomputable instance (s : Src) (st : Sto) : Decidable (s.holds st) := Classical.propDecidable _
def iSeq (a : ME) : MIt := fun env st => (a env st).bind fun x st => match x with
  | .ref l => match st[l]? with
    | some (.lst ds) => .ok (.live l ds) st
    | _ => .stuck
  | .tup ds => .ok (.vals ds) st
  | .lst ds => .ok (.vals ds) st
  | .fz ds => .ok (.vals ds) st
  | .str z => .ok (.vals (z.cps.toList.map fun c => .str ⟨#[c]⟩)) st
  | _ => .stuck
def rangeD (lo : Int) (n : Nat) : List D := (List.range n).map fun i : Nat => .int (lo + (i : Int))
def iRange1 (a : ME) : MIt := fun env st => (a env st).bind fun x st => match x with
  | .int j => if -(2 ^ 62) ≤ j ∧ j < 2 ^ 62 then .ok (.vals (rangeD 0 j.toNat)) st else .stuck
  | _ => .stuck
def rangeC (lo c : Int) (n : Nat) : List D := (List.range n).map fun i : Nat => .int (lo + (i : Int) * c)
def iRange3 (a b c : ME) : MIt := fun env st => (a env st).bind fun x st => (b env st).bind fun y st => (c env st).bind fun z st => match x, y, z with
  | .int i, .int j, .int k => if k ≠ 0 ∧ k.natAbs < 1073741824 ∧ Builtin.Range.small i j k = true then .ok (.vals (rangeC i k (Builtin.Range.rangeSize i j k).toNat)) st else .stuck
  | _, _, _ => .stuck
def iRange2 (a b : ME) : MIt := fun env st => (a env st).bind fun x st => (b env st).bind fun y st => match x, y with
  | .int i, .int j => if -(2 ^ 62) ≤ i ∧ i < 2 ^ 62 ∧ -(2 ^ 62) ≤ j ∧ j < 2 ^ 62 then .ok (.vals (rangeD i (j - i).toNat)) st else .stuck
  | _, _ => .stuck

/-! ### targets -/
abbrev MG := D → DEnv → Option DEnv
def gVar (i : Nat) : MG := fun d env => some (env.set i (some d))
def gTupN (gs : List MG) : MG := fun d env => match d with
  | .tup ds => go gs ds env
  | _ => none
where go : List MG → List D → DEnv → Option DEnv
  | [], [], env => some env
  | g :: gs, d :: ds, env => match g d env with
    | some env => go gs ds env
    | none => none
  | _, _, _ => none

/-! ### comprehensions -/
def wipeD (env : DEnv) : List Nat → DEnv
  | [] => env
  | v :: vs => (wipeD env vs).set v none
noncomputable def compGo (s : Src) (g : MG) (c : Option ME) (e : ME) (env : DEnv) : List D → Sto → R (List D)
  | [], st => .ok [] st
  | d :: ds, st => match g d env with
    | none => .stuck
    | some env' => match (match c with | none => R.ok true st | some c => mT c env' st) with
      | .ok true st => match e env' st with
        | .ok y st => if s.holds st then (match compGo s g c e env ds st with
          | .ok ys st => .ok (y :: ys) st
          | _ => .stuck) else .stuck
        | _ => .stuck
      | .ok false st => if s.holds st then compGo s g c e env ds st else .stuck
      | _ => .stuck
noncomputable def mComp (it : MIt) (vs : List Nat) (g : MG) (c : Option ME) (e : ME) : ME := fun env st => (it env st).bind fun s st =>
  match compGo s g c e (wipeD env vs) s.items st with
  | .ok ys st => if ys.length ≤ sizeLine then .ok (.lst ys) st else .stuck
  | _ => .stuck

noncomputable def mCompN (it : MIt) (vs : List Nat) (g : MG) (c : Option ME) (e : ME) : ME := fun env st => (it env st).bind fun s st =>
  match compGo s g c e (wipeD env vs) s.items st with
  | .ok ys st => if ys.length ≤ sizeLine then .ok (.ref st.length) (st ++ [.lst ys]) else .stuck
  | _ => .stuck

/-! ### statements -/
def SR.then (r : SR) (f : DEnv → Sto → SR) : SR :=
  match r with
  | .nx env st => f env st
  | r => r
def sSkip : MS := fun env st => .nx env st
/-- what is not read -/
def sStuck : MS := fun _ _ => .stuck
def sSeq (a b : MS) : MS := fun env st => (a env st).then b
def sAsg (e : ME) (g : MG) : MS := fun env st => match e env st with
  | .ok d st => (match g d env with
    | some env => .nx env st
    | none => .stuck)
  | .exc c st => .exc c env st
  | .stuck => .stuck
def sExpr (e : ME) : MS := fun env st => match e env st with
  | .ok _ st => .nx env st
  | .exc c st => .exc c env st
  | .stuck => .stuck
def sRet (e : ME) : MS := fun env st => match e env st with
  | .ok d st => .rt d st
  | .exc c st => .exc c env st
  | .stuck => .stuck
def sIf (c : ME) (a b : MS) : MS := fun env st => match mT c env st with
  | .ok true st => a env st
  | .ok false st => b env st
  | .exc x st => .exc x env st
  | .stuck => .stuck
def sWhile (c : ME) (b : MS) : Nat → MS
  | 0 => fun _ _ => .stuck
  | n + 1 => fun env st => match mT c env st with
    | .ok true st => (match b env st with
      | .nx env st => sWhile c b n env st
      | .ct env st => sWhile c b n env st
      | .bk env st => .nx env st
      | .rt d st => .rt d st
      | .exc x env st => .exc x env st
      | .stuck => .stuck)
    | .ok false st => .nx env st
    | .exc x st => .exc x env st
    | .stuck => .stuck
noncomputable def forGo (s : Src) (g : MG) (b : MS) : List D → DEnv → Sto → SR
  | [], env, st => .nx env st
  | d :: ds, env, st => match g d env with
    | none => .stuck
    | some env => match b env st with
      | .nx env st => if s.holds st then forGo s g b ds env st else .stuck
      | .ct env st => if s.holds st then forGo s g b ds env st else .stuck
      | .bk env st => .nx env st
      | .rt d st => .rt d st
      | .exc x env st => .exc x env st
      | .stuck => .stuck
noncomputable def sFor (it : MIt) (g : MG) (b : MS) : MS := fun env st => match it env st with
  | .ok s st => forGo s g b s.items env st
  | .exc c st => .exc c env st
  | .stuck => .stuck
def sRaise (c : Nat) : MS := fun env st => .exc c env st
/-! tables of the module: texts to data -/
def mKIn (tab : List (Str × D)) (neg : Bool) (a : ME) : ME := fun env st => (a env st).bind fun x st => match x with
  | .str z => .ok (.bl (if neg = true then !(tab.lookup z).isSome else (tab.lookup z).isSome)) st
  | _ => .stuck
def mKIx (tab : List (Str × D)) (a : ME) : ME := fun env st => (a env st).bind fun x st => match x with
  | .str z => (match tab.lookup z with
    | some d => .ok d st
    | none => .stuck)
  | _ => .stuck
end MI
/-! MiB: how data and stores lie in the abstract heap. -/
namespace MI
open PySem PySem.Spec PyProof.Rows L2

/-- a list that never changes: frozen, or an object of the module -/
def FzL (K : PySem.W.Frag) (H : Hp) (a : Addr) (xs : List V) : Prop :=
  (∃ o, H a = some (.frz o (.lst xs))) ∨
    ∃ (o : Obj) (its : Array Value) (n : Nat), K.lookup a = some o ∧ o.cls = .type "list" ∧ o.dict = none ∧ o.data = .seq its n ∧ its.size ≤ sizeLine ∧ Vals xs its.toList
theorem FzL.sq {K : PySem.W.Frag} {H : Hp} {a : Addr} {xs : List V} (h : FzL K H a xs) : SqL K H a xs := by
  rcases h with ⟨o, h⟩ | h
  · exact .inl (.inr ⟨o, h⟩)
  · exact .inr h

/-- the store's objects; objects that are being made and may not be seen -/
structure Rho where
  loc : List Addr
  res : List Addr
instance : Membership Addr Rho := ⟨fun r a => a ∈ r.loc ∨ a ∈ r.res⟩
theorem Rho.mem_def {r : Rho} {a : Addr} : a ∈ r ↔ (a ∈ r.loc ∨ a ∈ r.res) := Iff.rfl
def Rho.add (r : Rho) (p : Addr) : Rho := ⟨r.loc ++ [p], r.res⟩
def Rho.hide (r : Rho) (p : Addr) : Rho := ⟨r.loc, p :: r.res⟩

mutual
inductive RelD (K : PySem.W.Frag) (rho : Rho) (H : Hp) : D → V → Prop where
  | non : RelD K rho H .non .non
  | bl (b : Bool) : RelD K rho H (.bl b) (.bl b)
  | int (i : Int) : RelD K rho H (.int i) (.int i)
  | str (x : Str) : RelD K rho H (.str x) (.str x)
  | tup {a : Addr} {ds : List D} {vs : List V} (h : SqT K H a vs) (r : RelDs K rho H ds vs) : RelD K rho H (.tup ds) (.ref a)
  | lst {a : Addr} {ds : List D} {vs : List V} (h : H a = some (.lst vs)) (n : a ∉ rho) (r : RelDs K rho H ds vs) : RelD K rho H (.lst ds) (.ref a)
  | fz {a : Addr} {ds : List D} {vs : List V} (h : FzL K H a vs) (r : RelDs K rho H ds vs) : RelD K rho H (.fz ds) (.ref a)
  | dic {a : Addr} {ds : List (Key × D)} {vs : List (Key × V)} (h : H a = some (.dK vs)) (n : a ∉ rho) (r : RelK K rho H ds vs) : RelD K rho H (.dic ds) (.ref a)
  | ref {l : Nat} {a : Addr} (h : rho.loc[l]? = some a) : RelD K rho H (.ref l) (.ref a)
inductive RelDs (K : PySem.W.Frag) (rho : Rho) (H : Hp) : List D → List V → Prop where
  | nil : RelDs K rho H [] []
  | cons {d : D} {ds : List D} {v : V} {vs : List V} (h : RelD K rho H d v) (t : RelDs K rho H ds vs) : RelDs K rho H (d :: ds) (v :: vs)
inductive RelK (K : PySem.W.Frag) (rho : Rho) (H : Hp) : List (Key × D) → List (Key × V) → Prop where
  | nil : RelK K rho H [] []
  | cons {k : Key} {d : D} {ds : List (Key × D)} {v : V} {vs : List (Key × V)} (h : RelD K rho H d v) (t : RelK K rho H ds vs) : RelK K rho H ((k, d) :: ds) ((k, v) :: vs)
end

/-- what a run may do to the heap: untracked objects stay -/
structure Ext (rho : Rho) (H : Hp) (rho' : Rho) (H' : Hp) : Prop where
  new : ∃ n, rho'.loc = rho.loc ++ n ∧ ∀ b ∈ n, H b = none
  res : rho'.res = rho.res
  keep : ∀ b o, H b = some o → b ∉ rho → H' b = some o
  kres : ∀ b o, H b = some o → b ∈ rho.res → H' b = some o
  tup : ∀ b xs, H b = some (.tup xs) → H' b = some (.tup xs)
  frz : ∀ b o u, H b = some (.frz o u) → H' b = some (.frz o u)
  liv : ∀ b o, H b = some o → ∃ o', H' b = some o'

theorem Ext.refl (rho : Rho) (H : Hp) : Ext rho H rho H :=
  ⟨⟨[], by simp, fun b hb => absurd hb (by simp)⟩, rfl, fun _ _ h _ => h, fun _ _ h _ => h, fun _ _ h => h, fun _ _ _ h => h, fun _ o h => ⟨o, h⟩⟩
theorem Ext.none_of {rho rho' : Rho} {H H' : Hp} (e : Ext rho H rho' H') {b : Addr} (h : H' b = none) : H b = none := by
  cases q : H b with
  | none => rfl
  | some o =>
    obtain ⟨o', h'⟩ := e.liv b o q
    rw [h] at h'; cases h'
theorem Ext.notMem {rho rho' : Rho} {H H' : Hp} (e : Ext rho H rho' H') {b : Addr} {o : HO} (h : H b = some o) (n : b ∉ rho) : b ∉ rho' := by
  obtain ⟨m, em, hm⟩ := e.new
  intro hb
  rcases hb with hb | hb
  · rw [em] at hb
    rcases List.mem_append.mp hb with hb | hb
    · exact n (.inl hb)
    · rw [hm b hb] at h; cases h
  · rw [e.res] at hb
    exact n (.inr hb)
theorem Ext.trans {r0 r1 r2 : Rho} {H0 H1 H2 : Hp} (a : Ext r0 H0 r1 H1) (b : Ext r1 H1 r2 H2) : Ext r0 H0 r2 H2 := by
  refine ⟨?_, b.res.trans a.res, fun c o h n => b.keep c o (a.keep c o h n) (a.notMem h n), fun c o h n => b.kres c o (a.kres c o h n) (by rw [a.res]; exact n), fun c xs h => b.tup c xs (a.tup c xs h), fun c o u h => b.frz c o u (a.frz c o u h), fun c o h => ?_⟩
  · obtain ⟨n1, e1, h1⟩ := a.new
    obtain ⟨n2, e2, h2⟩ := b.new
    refine ⟨n1 ++ n2, by rw [e2, e1, List.append_assoc], fun c hc => ?_⟩
    rcases List.mem_append.mp hc with hc | hc
    · exact h1 c hc
    · exact a.none_of (h2 c hc)
  · obtain ⟨o1, h1⟩ := a.liv c o h
    exact b.liv c o1 h1
theorem Ext.get {rho rho' : Rho} {H H' : Hp} (e : Ext rho H rho' H') {l : Nat} {a : Addr} (h : rho.loc[l]? = some a) : rho'.loc[l]? = some a := by
  obtain ⟨n, en, _⟩ := e.new
  obtain ⟨hl, _⟩ := List.getElem?_eq_some_iff.mp h
  rw [en, List.getElem?_append_left hl]
  exact h
theorem Ext.sqT {K : PySem.W.Frag} {rho rho' : Rho} {H H' : Hp} (e : Ext rho H rho' H') {a : Addr} {xs : List V} (h : SqT K H a xs) : SqT K H' a xs := by
  rcases h with (h | ⟨o, h⟩) | h
  · exact .inl (.inl (e.tup a xs h))
  · exact .inl (.inr ⟨o, e.frz a o _ h⟩)
  · exact .inr h
theorem Ext.fzL {K : PySem.W.Frag} {rho rho' : Rho} {H H' : Hp} (e : Ext rho H rho' H') {a : Addr} {xs : List V} (h : FzL K H a xs) : FzL K H' a xs := by
  rcases h with ⟨o, h⟩ | h
  · exact .inl ⟨o, e.frz a o _ h⟩
  · exact .inr h
mutual
theorem RelD.ext {K : PySem.W.Frag} {rho rho' : Rho} {H H' : Hp} (e : Ext rho H rho' H') : ∀ {d : D} {v : V}, RelD K rho H d v → RelD K rho' H' d v
  | _, _, .non => .non
  | _, _, .bl b => .bl b
  | _, _, .int i => .int i
  | _, _, .str x => .str x
  | _, _, .tup h r => .tup (e.sqT h) (RelDs.ext e r)
  | _, _, .lst h n r => .lst (e.keep _ _ h n) (e.notMem h n) (RelDs.ext e r)
  | _, _, .fz h r => .fz (e.fzL h) (RelDs.ext e r)
  | _, _, .dic h n r => .dic (e.keep _ _ h n) (e.notMem h n) (RelK.ext e r)
  | _, _, .ref h => .ref (e.get h)
theorem RelDs.ext {K : PySem.W.Frag} {rho rho' : Rho} {H H' : Hp} (e : Ext rho H rho' H') : ∀ {ds : List D} {vs : List V}, RelDs K rho H ds vs → RelDs K rho' H' ds vs
  | _, _, .nil => .nil
  | _, _, .cons h t => .cons (RelD.ext e h) (RelDs.ext e t)
theorem RelK.ext {K : PySem.W.Frag} {rho rho' : Rho} {H H' : Hp} (e : Ext rho H rho' H') : ∀ {ds : List (Key × D)} {vs : List (Key × V)}, RelK K rho H ds vs → RelK K rho' H' ds vs
  | _, _, .nil => .nil
  | _, _, .cons h t => .cons (RelD.ext e h) (RelK.ext e t)
end
theorem RelDs.length {K : PySem.W.Frag} {rho : Rho} {H : Hp} : ∀ {ds : List D} {vs : List V}, RelDs K rho H ds vs → ds.length = vs.length
  | _, _, .nil => rfl
  | _, _, .cons _ t => by simp [RelDs.length t]
theorem RelDs.get {K : PySem.W.Frag} {rho : Rho} {H : Hp} : ∀ {ds : List D} {vs : List V}, RelDs K rho H ds vs → ∀ {i : Nat} {d : D}, ds[i]? = some d → ∃ v, vs[i]? = some v ∧ RelD K rho H d v
  | _, _, .nil, _, _, h => by simp at h
  | _, _, .cons h _, 0, _, e => by simp at e; subst e; exact ⟨_, rfl, h⟩
  | _, _, .cons _ t, i + 1, _, e => by
    obtain ⟨v, h1, h2⟩ := RelDs.get t (i := i) (by simpa using e)
    exact ⟨v, by simpa using h1, h2⟩
theorem RelDs.append {K : PySem.W.Frag} {rho : Rho} {H : Hp} : ∀ {ds es : List D} {vs ws : List V}, RelDs K rho H ds vs → RelDs K rho H es ws → RelDs K rho H (ds ++ es) (vs ++ ws)
  | _, _, _, _, .nil, s => s
  | _, _, _, _, .cons h t, s => .cons h (RelDs.append t s)
theorem RelDs.drop {K : PySem.W.Frag} {rho : Rho} {H : Hp} : ∀ {ds : List D} {vs : List V} (n : Nat), RelDs K rho H ds vs → RelDs K rho H (ds.drop n) (vs.drop n)
  | _, _, 0, r => r
  | _, _, _ + 1, .nil => .nil
  | _, _, n + 1, .cons _ t => RelDs.drop n t
theorem RelDs.take {K : PySem.W.Frag} {rho : Rho} {H : Hp} : ∀ {ds : List D} {vs : List V} (n : Nat), RelDs K rho H ds vs → RelDs K rho H (ds.take n) (vs.take n)
  | _, _, 0, _ => .nil
  | _, _, _ + 1, .nil => .nil
  | _, _, n + 1, .cons h t => .cons h (RelDs.take n t)
theorem RelK.length {K : PySem.W.Frag} {rho : Rho} {H : Hp} : ∀ {ds : List (Key × D)} {vs : List (Key × V)}, RelK K rho H ds vs → ds.length = vs.length
  | _, _, .nil => rfl
  | _, _, .cons _ t => by simp [RelK.length t]

/-- an object of the store -/
def ObjR (K : PySem.W.Frag) (rho : Rho) (H : Hp) (a : Addr) : SO → Prop
  | .lst ds => ∃ vs, H a = some (.lst vs) ∧ RelDs K rho H ds vs
  | .dic ds => ∃ vs, H a = some (.dK vs) ∧ RelK K rho H ds vs
  | .ins c fs => ∃ (vs : List (Str × V)) (C dx : Addr), H a = some (.ins C dx vs) ∧ PySem.W.nsIn K mainGlobals c = some (some (.ref C)) ∧ fs.map (·.1) = vs.map (·.1) ∧ RelDs K rho H (fs.map (·.2)) (vs.map (·.2))
  | .dicT kvs => ∃ vs : List (List Key × V), H a = some (.dT vs) ∧ kvs.map (·.1) = vs.map (·.1) ∧ RelDs K rho H (kvs.map (·.2)) (vs.map (·.2))
theorem ObjR.tracked {K : PySem.W.Frag} {rho : Rho} {H : Hp} {a : Addr} {o : SO} (h : ObjR K rho H a o) : ∃ u, H a = some u ∧ Mut (some u) := by
  cases o with
  | lst ds => obtain ⟨vs, h, _⟩ := h; exact ⟨_, h, trivial⟩
  | dic ds => obtain ⟨vs, h, _⟩ := h; exact ⟨_, h, trivial⟩
  | ins c fs => obtain ⟨vs, C, dx, h, _⟩ := h; exact ⟨_, h, trivial⟩
  | dicT kvs => obtain ⟨vs, h, _⟩ := h; exact ⟨_, h, trivial⟩
structure Wld (K : PySem.W.Frag) (rho : Rho) (st : Sto) (H : Hp) : Prop where
  len : rho.loc.length = st.length
  nd : rho.loc.Nodup
  obj : ∀ (l : Nat) (a : Addr) (o : SO), rho.loc[l]? = some a → st[l]? = some o → ObjR K rho H a o
  dis : ∀ a ∈ rho.loc, a ∉ rho.res
  rsv : ∀ b ∈ rho.res, ∃ o, H b = some o ∧ Mut (some o)
theorem Wld.at {K : PySem.W.Frag} {rho : Rho} {st : Sto} {H : Hp} (w : Wld K rho st H) {a : Addr} (h : a ∈ rho.loc) : ∃ (l : Nat) (o : SO), rho.loc[l]? = some a ∧ st[l]? = some o ∧ ObjR K rho H a o := by
  obtain ⟨l, hl, e⟩ := List.mem_iff_getElem.mp h
  have h1 : rho.loc[l]? = some a := by rw [List.getElem?_eq_getElem hl, e]
  have hl2 : l < st.length := by rw [← w.len]; exact hl
  exact ⟨l, st[l], h1, List.getElem?_eq_getElem hl2, w.obj l a _ h1 (List.getElem?_eq_getElem hl2)⟩
theorem Wld.fresh {K : PySem.W.Frag} {rho : Rho} {st : Sto} {H : Hp} (w : Wld K rho st H) {p : Addr} (h : H p = none) : p ∉ rho := fun hp => by
  rcases hp with hp | hp
  · obtain ⟨l, o, _, _, r⟩ := w.at hp
    obtain ⟨u, e, _⟩ := r.tracked
    rw [h] at e; cases e
  · obtain ⟨xs, e, _⟩ := w.rsv p hp
    rw [h] at e; cases e
/-- a new object that is not tracked -/
theorem Wld.extTmp {K : PySem.W.Frag} {rho : Rho} {st : Sto} {H : Hp} (w : Wld K rho st H) {p : Addr} (h : H p = none) (o : HO) : Ext rho H rho (upd H p o) :=
  ⟨⟨[], by simp, fun b hb => absurd hb (by simp)⟩, rfl, fun b u e _ => by rw [upd_ne (ne_of_none e h)]; exact e, fun b u e _ => by rw [upd_ne (ne_of_none e h)]; exact e, fun b xs e => by rw [upd_ne (ne_of_none e h)]; exact e,
    fun b q u e => by rw [upd_ne (ne_of_none e h)]; exact e, fun b u e => ⟨u, by rw [upd_ne (ne_of_none e h)]; exact e⟩⟩
theorem ObjR.ext {K : PySem.W.Frag} {rho rho' : Rho} {H H' : Hp} {a : Addr} {o : SO} (e : Ext rho H rho' H') (q : ∀ u, H a = some u → H' a = some u) (h : ObjR K rho H a o) : ObjR K rho' H' a o := by
  cases o with
  | lst ds => obtain ⟨vs, h, r⟩ := h; exact ⟨vs, q _ h, r.ext e⟩
  | dic ds => obtain ⟨vs, h, r⟩ := h; exact ⟨vs, q _ h, r.ext e⟩
  | ins c fs => obtain ⟨vs, C, dx, h, h2, h3, r⟩ := h; exact ⟨vs, C, dx, q _ h, h2, h3, r.ext e⟩
  | dicT kvs => obtain ⟨vs, h, h3, r⟩ := h; exact ⟨vs, q _ h, h3, r.ext e⟩
theorem Wld.tmp {K : PySem.W.Frag} {rho : Rho} {st : Sto} {H : Hp} (w : Wld K rho st H) {p : Addr} (h : H p = none) (o : HO) : Wld K rho st (upd H p o) :=
  ⟨w.len, w.nd, fun l a u h1 h2 => (w.obj l a u h1 h2).ext (w.extTmp h o) fun x e => by rw [upd_ne (ne_of_none e h)]; exact e, w.dis, fun b hb => by
    obtain ⟨xs, e, m⟩ := w.rsv b hb
    exact ⟨xs, by rw [upd_ne (ne_of_none e h)]; exact e, m⟩⟩
/-- a new object of the store -/
theorem Wld.extNew {K : PySem.W.Frag} {rho : Rho} {st : Sto} {H : Hp} (w : Wld K rho st H) {p : Addr} (h : H p = none) (o : HO) : Ext rho H (rho.add p) (upd H p o) :=
  ⟨⟨[p], rfl, fun b hb => by rw [List.mem_singleton.mp hb]; exact h⟩, rfl, (w.extTmp h o).keep, (w.extTmp h o).kres, (w.extTmp h o).tup, (w.extTmp h o).frz, (w.extTmp h o).liv⟩
theorem Wld.new {K : PySem.W.Frag} {rho : Rho} {st : Sto} {H : Hp} (w : Wld K rho st H) {p : Addr} (h : H p = none) {o : HO} {so : SO} (r : ObjR K (rho.add p) (upd H p o) p so) : Wld K (rho.add p) (st ++ [so]) (upd H p o) := by
  refine ⟨by simp [Rho.add, w.len], ?_, fun l a u h1 h2 => ?_, fun a ha => ?_, fun b hb => ?_⟩
  · show (rho.loc ++ [p]).Nodup
    rw [List.nodup_append]
    exact ⟨w.nd, by simp, fun a ha b hb => by rw [List.mem_singleton.mp hb]; exact fun e => w.fresh h (.inl (e ▸ ha))⟩
  · have h1' : (rho.loc ++ [p])[l]? = some a := h1
    by_cases hl : l < rho.loc.length
    · rw [List.getElem?_append_left hl] at h1'
      rw [List.getElem?_append_left (by rw [← w.len]; exact hl)] at h2
      exact (w.obj l a u h1' h2).ext (w.extNew h o) fun x e => by rw [upd_ne (ne_of_none e h)]; exact e
    · obtain ⟨hl2, _⟩ := List.getElem?_eq_some_iff.mp h1'
      have e : l = rho.loc.length := by simp at hl2; omega
      subst e
      rw [List.getElem?_append_right (Nat.le_refl _)] at h1'
      rw [w.len, List.getElem?_append_right (Nat.le_refl _)] at h2
      simp at h1' h2
      subst h1' h2
      exact r
  · rcases List.mem_append.mp ha with ha | ha
    · exact w.dis a ha
    · rw [List.mem_singleton.mp ha]
      exact fun z => w.fresh h (.inr z)
  · obtain ⟨xs, e, m⟩ := w.rsv b hb
    exact ⟨xs, by rw [upd_ne (ne_of_none e h)]; exact e, m⟩
/-- an object of the store changed -/
theorem Wld.extSet {K : PySem.W.Frag} {rho : Rho} {st : Sto} {H : Hp} (w : Wld K rho st H) {l : Nat} {a : Addr} (h : rho.loc[l]? = some a) (o : HO) : Ext rho H rho (upd H a o) := by
  have ha : a ∈ rho.loc := List.mem_of_getElem? h
  obtain ⟨l', so, _, _, r⟩ := w.at ha
  obtain ⟨u, hu, hm⟩ := r.tracked
  refine ⟨⟨[], by simp, fun b hb => absurd hb (by simp)⟩, rfl, fun b x e n => ?_, fun b x e n => ?_, fun b xs e => ?_, fun b q x e => ?_, fun b x e => ?_⟩
  · rw [upd_ne (fun z : b = a => n (by rw [z]; exact .inl ha))]; exact e
  · rw [upd_ne (fun z : b = a => w.dis a ha (by rw [← z]; exact n))]; exact e
  · rw [upd_ne (fun z => by subst z; rw [hu] at e; cases e; exact hm)]; exact e
  · rw [upd_ne (fun z => by subst z; rw [hu] at e; cases e; exact hm)]; exact e
  · by_cases z : b = a
    · subst z; exact ⟨o, upd_same⟩
    · exact ⟨x, by rw [upd_ne z]; exact e⟩
theorem Wld.set {K : PySem.W.Frag} {rho : Rho} {st : Sto} {H : Hp} (w : Wld K rho st H) {l : Nat} {a : Addr} (h : rho.loc[l]? = some a) {o : HO} {so : SO} (r : ObjR K rho (upd H a o) a so) : Wld K rho (st.set l so) (upd H a o) := by
  have ha : a ∈ rho.loc := List.mem_of_getElem? h
  refine ⟨by simp [w.len], w.nd, fun l' a' u h1 h2 => ?_, w.dis, fun b hb => ?_⟩
  · by_cases e : l' = l
    · subst e
      rw [h] at h1; cases h1
      obtain ⟨hl, _⟩ := List.getElem?_eq_some_iff.mp h
      rw [List.getElem?_set_self (by rw [← w.len]; exact hl)] at h2
      cases h2
      exact r
    · rw [List.getElem?_set_ne (fun z => e z.symm)] at h2
      have na : a' ≠ a := fun z => by
        subst z
        obtain ⟨hl, e1⟩ := List.getElem?_eq_some_iff.mp h
        obtain ⟨hl', e2⟩ := List.getElem?_eq_some_iff.mp h1
        exact e ((List.getElem_inj w.nd).mp (e2.trans e1.symm))
      exact (w.obj l' a' u h1 h2).ext (w.extSet h o) fun x q => by rw [upd_ne na]; exact q
  · obtain ⟨xs, e, m⟩ := w.rsv b hb
    exact ⟨xs, by rw [upd_ne (fun z : b = a => w.dis a ha (by rw [← z]; exact hb))]; exact e, m⟩

/-! ### a list that is being made -/
mutual
theorem RelD.hide {K : PySem.W.Frag} {rho : Rho} {H : Hp} {p : Addr} {o : HO} (h : H p = none) : ∀ {d : D} {v : V}, RelD K rho H d v → RelD K (rho.hide p) (upd H p o) d v
  | _, _, .non => .non
  | _, _, .bl b => .bl b
  | _, _, .int i => .int i
  | _, _, .str x => .str x
  | _, _, .tup q r => .tup (by
      rcases q with (q | ⟨ob, q⟩) | q
      · exact .inl (.inl (by rw [upd_ne (ne_of_none q h)]; exact q))
      · exact .inl (.inr ⟨ob, by rw [upd_ne (ne_of_none q h)]; exact q⟩)
      · exact .inr q) (RelDs.hide h r)
  | _, _, .lst q n r => .lst (by rw [upd_ne (ne_of_none q h)]; exact q) (fun z => by
      rcases z with z | z
      · exact n (.inl z)
      · rcases List.mem_cons.mp z with z | z
        · subst z; rw [h] at q; cases q
        · exact n (.inr z)) (RelDs.hide h r)
  | _, _, .fz q r => .fz (by
      rcases q with ⟨ob, q⟩ | q
      · exact .inl ⟨ob, by rw [upd_ne (ne_of_none q h)]; exact q⟩
      · exact .inr q) (RelDs.hide h r)
  | _, _, .dic q n r => .dic (by rw [upd_ne (ne_of_none q h)]; exact q) (fun z => by
      rcases z with z | z
      · exact n (.inl z)
      · rcases List.mem_cons.mp z with z | z
        · subst z; rw [h] at q; cases q
        · exact n (.inr z)) (RelK.hide h r)
  | _, _, .ref q => .ref q
theorem RelDs.hide {K : PySem.W.Frag} {rho : Rho} {H : Hp} {p : Addr} {o : HO} (h : H p = none) : ∀ {ds : List D} {vs : List V}, RelDs K rho H ds vs → RelDs K (rho.hide p) (upd H p o) ds vs
  | _, _, .nil => .nil
  | _, _, .cons q t => .cons (RelD.hide h q) (RelDs.hide h t)
theorem RelK.hide {K : PySem.W.Frag} {rho : Rho} {H : Hp} {p : Addr} {o : HO} (h : H p = none) : ∀ {ds : List (Key × D)} {vs : List (Key × V)}, RelK K rho H ds vs → RelK K (rho.hide p) (upd H p o) ds vs
  | _, _, .nil => .nil
  | _, _, .cons q t => .cons (RelD.hide h q) (RelK.hide h t)
end
theorem Wld.hide {K : PySem.W.Frag} {rho : Rho} {st : Sto} {H : Hp} (w : Wld K rho st H) {p : Addr} (h : H p = none) (o : HO) (hm : Mut (some o)) : Wld K (rho.hide p) st (upd H p o) := by
  refine ⟨w.len, w.nd, fun l a u h1 h2 => ?_, fun a ha z => ?_, fun b hb => ?_⟩
  · have q := w.obj l a u h1 h2
    cases u with
    | lst ds => obtain ⟨vs, q, r⟩ := q; exact ⟨vs, by rw [upd_ne (ne_of_none q h)]; exact q, r.hide h⟩
    | dic ds => obtain ⟨vs, q, r⟩ := q; exact ⟨vs, by rw [upd_ne (ne_of_none q h)]; exact q, r.hide h⟩
    | ins c fs => obtain ⟨vs, C, dx, q, h2, h3, r⟩ := q; exact ⟨vs, C, dx, by rw [upd_ne (ne_of_none q h)]; exact q, h2, h3, r.hide h⟩
    | dicT kvs => obtain ⟨vs, q, h3, r⟩ := q; exact ⟨vs, by rw [upd_ne (ne_of_none q h)]; exact q, h3, r.hide h⟩
  · rcases List.mem_cons.mp z with z | z
    · exact w.fresh h (.inl (z ▸ ha))
    · exact w.dis a ha z
  · rcases List.mem_cons.mp hb with z | z
    · subst z; exact ⟨o, upd_same, hm⟩
    · obtain ⟨ys, e, m⟩ := w.rsv b z
      exact ⟨ys, by rw [upd_ne (ne_of_none e h)]; exact e, m⟩
/-- the hidden list grows -/
theorem Ext.grow {rho : Rho} {H : Hp} {p : Addr} {o o' : HO} (hp : p ∈ rho.res) (h : H p = some o) (hm : Mut (some o)) : (∀ b xs', H b = some (.tup xs') → upd H p o' b = some (.tup xs')) ∧ (∀ b q u, H b = some (.frz q u) → upd H p o' b = some (.frz q u)) :=
  ⟨fun b xs' e => by rw [upd_ne (fun z => by subst z; rw [h] at e; cases e; exact hm)]; exact e, fun b q u e => by rw [upd_ne (fun z => by subst z; rw [h] at e; cases e; exact hm)]; exact e⟩
mutual
theorem RelD.grow {K : PySem.W.Frag} {rho : Rho} {H : Hp} {p : Addr} {o o' : HO} (hp : p ∈ rho.res) (h : H p = some o) (hm : Mut (some o)) : ∀ {d : D} {v : V}, RelD K rho H d v → RelD K rho (upd H p o') d v
  | _, _, .non => .non
  | _, _, .bl b => .bl b
  | _, _, .int i => .int i
  | _, _, .str x => .str x
  | _, _, .tup q r => .tup (by
      rcases q with (q | ⟨ob, q⟩) | q
      · exact .inl (.inl ((Ext.grow hp h hm).1 _ _ q))
      · exact .inl (.inr ⟨ob, (Ext.grow hp h hm).2 _ _ _ q⟩)
      · exact .inr q) (RelDs.grow hp h hm r)
  | _, _, .lst q n r => .lst (by rw [upd_ne (fun z => n (by rw [z]; exact .inr hp))]; exact q) n (RelDs.grow hp h hm r)
  | _, _, .fz q r => .fz (by
      rcases q with ⟨ob, q⟩ | q
      · exact .inl ⟨ob, (Ext.grow hp h hm).2 _ _ _ q⟩
      · exact .inr q) (RelDs.grow hp h hm r)
  | _, _, .dic q n r => .dic (by rw [upd_ne (fun z => n (by rw [z]; exact .inr hp))]; exact q) n (RelK.grow hp h hm r)
  | _, _, .ref q => .ref q
theorem RelDs.grow {K : PySem.W.Frag} {rho : Rho} {H : Hp} {p : Addr} {o o' : HO} (hp : p ∈ rho.res) (h : H p = some o) (hm : Mut (some o)) : ∀ {ds : List D} {vs : List V}, RelDs K rho H ds vs → RelDs K rho (upd H p o') ds vs
  | _, _, .nil => .nil
  | _, _, .cons q t => .cons (RelD.grow hp h hm q) (RelDs.grow hp h hm t)
theorem RelK.grow {K : PySem.W.Frag} {rho : Rho} {H : Hp} {p : Addr} {o o' : HO} (hp : p ∈ rho.res) (h : H p = some o) (hm : Mut (some o)) : ∀ {ds : List (Key × D)} {vs : List (Key × V)}, RelK K rho H ds vs → RelK K rho (upd H p o') ds vs
  | _, _, .nil => .nil
  | _, _, .cons q t => .cons (RelD.grow hp h hm q) (RelK.grow hp h hm t)
end
theorem Wld.grow {K : PySem.W.Frag} {rho : Rho} {st : Sto} {H : Hp} (w : Wld K rho st H) {p : Addr} {o o' : HO} (hp : p ∈ rho.res) (h : H p = some o) (hm : Mut (some o)) (hm' : Mut (some o')) : Wld K rho st (upd H p o') := by
  refine ⟨w.len, w.nd, fun l a u h1 h2 => ?_, w.dis, fun b hb => ?_⟩
  · have na : a ≠ p := fun z => w.dis a (List.mem_of_getElem? h1) (by rw [z]; exact hp)
    have q := w.obj l a u h1 h2
    cases u with
    | lst ds => obtain ⟨vs, q, r⟩ := q; exact ⟨vs, by rw [upd_ne na]; exact q, r.grow hp h hm⟩
    | dic ds => obtain ⟨vs, q, r⟩ := q; exact ⟨vs, by rw [upd_ne na]; exact q, r.grow hp h hm⟩
    | ins c fs => obtain ⟨vs, C, dx, q, h2, h3, r⟩ := q; exact ⟨vs, C, dx, by rw [upd_ne na]; exact q, h2, h3, r.grow hp h hm⟩
    | dicT kvs => obtain ⟨vs, q, h3, r⟩ := q; exact ⟨vs, by rw [upd_ne na]; exact q, h3, r.grow hp h hm⟩
  · by_cases z : b = p
    · subst z; exact ⟨o', upd_same, hm'⟩
    · obtain ⟨zs, e, m⟩ := w.rsv b hb
      exact ⟨zs, by rw [upd_ne z]; exact e, m⟩
/-- it may be seen again -/
def Rho.show_ (r : Rho) (res : List Addr) : Rho := ⟨r.loc, res⟩
mutual
theorem RelD.show_ {K : PySem.W.Frag} {rho : Rho} {H : Hp} {res : List Addr} (hs : ∀ b ∈ res, b ∈ rho.res) : ∀ {d : D} {v : V}, RelD K rho H d v → RelD K (rho.show_ res) H d v
  | _, _, .non => .non
  | _, _, .bl b => .bl b
  | _, _, .int i => .int i
  | _, _, .str x => .str x
  | _, _, .tup q r => .tup q (RelDs.show_ hs r)
  | _, _, .lst q n r => .lst q (fun z => n (z.elim .inl fun z => .inr (hs _ z))) (RelDs.show_ hs r)
  | _, _, .fz q r => .fz q (RelDs.show_ hs r)
  | _, _, .dic q n r => .dic q (fun z => n (z.elim .inl fun z => .inr (hs _ z))) (RelK.show_ hs r)
  | _, _, .ref q => .ref q
theorem RelDs.show_ {K : PySem.W.Frag} {rho : Rho} {H : Hp} {res : List Addr} (hs : ∀ b ∈ res, b ∈ rho.res) : ∀ {ds : List D} {vs : List V}, RelDs K rho H ds vs → RelDs K (rho.show_ res) H ds vs
  | _, _, .nil => .nil
  | _, _, .cons q t => .cons (RelD.show_ hs q) (RelDs.show_ hs t)
theorem RelK.show_ {K : PySem.W.Frag} {rho : Rho} {H : Hp} {res : List Addr} (hs : ∀ b ∈ res, b ∈ rho.res) : ∀ {ds : List (Key × D)} {vs : List (Key × V)}, RelK K rho H ds vs → RelK K (rho.show_ res) H ds vs
  | _, _, .nil => .nil
  | _, _, .cons q t => .cons (RelD.show_ hs q) (RelK.show_ hs t)
end
theorem Wld.show_ {K : PySem.W.Frag} {rho : Rho} {st : Sto} {H : Hp} (w : Wld K rho st H) {res : List Addr} (hs : ∀ b ∈ res, b ∈ rho.res) : Wld K (rho.show_ res) st H := by
  refine ⟨w.len, w.nd, fun l a u h1 h2 => ?_, fun a ha z => w.dis a ha (hs _ z), fun b hb => w.rsv b (hs b hb)⟩
  have q := w.obj l a u h1 h2
  cases u with
  | lst ds => obtain ⟨vs, q, r⟩ := q; exact ⟨vs, q, r.show_ hs⟩
  | dic ds => obtain ⟨vs, q, r⟩ := q; exact ⟨vs, q, r.show_ hs⟩
  | ins c fs => obtain ⟨vs, C, dx, q, h2, h3, r⟩ := q; exact ⟨vs, C, dx, q, h2, h3, r.show_ hs⟩
  | dicT kvs => obtain ⟨vs, q, h3, r⟩ := q; exact ⟨vs, q, h3, r.show_ hs⟩

/-- the slots -/
structure RelEnv (K : PySem.W.Frag) (rho : Rho) (H : Hp) (env : DEnv) (sg : L2.St) : Prop where
  len : env.length = sg.length
  at_ : ∀ (i : Nat) (d : D), env[i]? = some (some d) → ∃ v, sg[i]? = some (some v) ∧ RelD K rho H d v
theorem RelEnv.ext {K : PySem.W.Frag} {rho rho' : Rho} {H H' : Hp} {env : DEnv} {sg : L2.St} (e : Ext rho H rho' H') (r : RelEnv K rho H env sg) : RelEnv K rho' H' env sg :=
  ⟨r.len, fun i d h => let ⟨v, h1, h2⟩ := r.at_ i d h; ⟨v, h1, h2.ext e⟩⟩
theorem RelEnv.set {K : PySem.W.Frag} {rho : Rho} {H : Hp} {env : DEnv} {sg : L2.St} (r : RelEnv K rho H env sg) {d : D} {v : V} (h : RelD K rho H d v) (i : Nat) : RelEnv K rho H (env.set i (some d)) (sg.set i (some v)) := by
  refine ⟨by simp [r.len], fun j d' hj => ?_⟩
  by_cases e : i = j
  · subst e
    by_cases hl : i < env.length
    · rw [List.getElem?_set_self hl] at hj
      cases hj
      exact ⟨v, by rw [List.getElem?_set_self (by rw [← r.len]; exact hl)], h⟩
    · rw [List.getElem?_eq_none (by simpa using hl)] at hj; cases hj
  · rw [List.getElem?_set_ne e] at hj
    obtain ⟨v', h1, h2⟩ := r.at_ j d' hj
    exact ⟨v', by rw [List.getElem?_set_ne e]; exact h1, h2⟩
theorem RelEnv.wipe {K : PySem.W.Frag} {rho : Rho} {H : Hp} {env : DEnv} {sg : L2.St} (r : RelEnv K rho H env sg) : ∀ vs : List Nat, RelEnv K rho H (wipeD env vs) (wipe sg vs)
  | [] => r
  | v :: vs => by
    have ih := RelEnv.wipe r vs
    refine ⟨by simp [wipeD, L2.wipe, ih.len], fun j d hj => ?_⟩
    unfold wipeD at hj
    unfold L2.wipe
    by_cases e : v = j
    · subst e
      by_cases hl : v < (wipeD env vs).length
      · rw [List.getElem?_set_self hl] at hj; cases hj
      · rw [List.getElem?_eq_none (by simpa using hl)] at hj; cases hj
    · rw [List.getElem?_set_ne e] at hj
      obtain ⟨v', h1, h2⟩ := ih.at_ j d hj
      exact ⟨v', by rw [List.getElem?_set_ne e]; exact h1, h2⟩

/-! ### what is wanted of a result -/
/-- cls: the class value of an exception's number -/
def OkR {α : Type} (K : PySem.W.Frag) (cls : Nat → Value) (W : WX) (sg : L2.St) (rho : Rho) (H : Hp) (r : R α) (P : α → Sto → Rho → Hp → Prop) : Prop :=
  match r with
  | .ok a st => ∀ rho' H', Ext rho H rho' H' → Wld K rho' st H' → P a st rho' H'
  | .exc c st => ∀ rho' H', Ext rho H rho' H' → Wld K rho' st H' → W (cls c) none sg H'
  | .stuck => False
section
variable {α β : Type} {K : PySem.W.Frag} {cls : Nat → Value} {W : WX} {sg : L2.St} {rho rho1 : Rho} {H H1 : Hp}
theorem OkR.from {r : R α} {P : α → Sto → Rho → Hp → Prop} (h : OkR K cls W sg rho H r P) (e : Ext rho H rho1 H1) : OkR K cls W sg rho1 H1 r P := by
  cases r with
  | ok a st => exact fun r2 H2 e2 w2 => h r2 H2 (e.trans e2) w2
  | exc c st => exact fun r2 H2 e2 w2 => h r2 H2 (e.trans e2) w2
  | stuck => exact h
theorem OkR.mono {r : R α} {P P' : α → Sto → Rho → Hp → Prop} (h : OkR K cls W sg rho H r P) (f : ∀ a st rho' H', Ext rho H rho' H' → Wld K rho' st H' → P a st rho' H' → P' a st rho' H') : OkR K cls W sg rho H r P' := by
  cases r with
  | ok a st => exact fun r2 H2 e2 w2 => f _ _ _ _ e2 w2 (h r2 H2 e2 w2)
  | exc c st => exact h
  | stuck => exact h
theorem OkR.bind {r : R α} {f : α → Sto → R β} {P : β → Sto → Rho → Hp → Prop} (h : OkR K cls W sg rho H (r.bind f) P) :
    OkR K cls W sg rho H r (fun a st rho' H' => OkR K cls W sg rho' H' (f a st) P) := by
  cases r with
  | ok a st => exact fun r2 H2 e2 _ => OkR.from h e2
  | exc c st => exact h
  | stuck => exact h
theorem OkR.ok {a : α} {st : Sto} {P : α → Sto → Rho → Hp → Prop} (h : OkR K cls W sg rho H (.ok a st) P) (w : Wld K rho st H) : P a st rho H := h rho H (Ext.refl rho H) w
end
/-- a value is wanted -/
def VQ (K : PySem.W.Frag) (Q : VK) : D → Sto → Rho → Hp → Prop := fun d _ rho H => ∀ v, RelD K rho H d v → Q v H
def tE (K : PySem.W.Frag) (cls : Nat → Value) (W : WX) (m : ME) : TE := fun sg H Q => ∃ rho env st, Wld K rho st H ∧ RelEnv K rho H env sg ∧ OkR K cls W sg rho H (m env st) (VQ K Q)
def tTm (K : PySem.W.Frag) (cls : Nat → Value) (W : WX) (m : ME) : TT := fun sg H Q => ∃ rho env st, Wld K rho st H ∧ RelEnv K rho H env sg ∧ OkR K cls W sg rho H (mT m env st) (fun b _ _ H' => Q b H')
/-- arguments -/
def tAm (K : PySem.W.Frag) (cls : Nat → Value) (W : WX) (ms : List ME) : TA := fun sg H Q => ∃ rho env st, Wld K rho st H ∧ RelEnv K rho H env sg ∧
  OkR K cls W sg rho H (mArgs ms env st) (fun ds _ rho' H' => ∀ vs, RelDs K rho' H' ds vs → Q vs H')
def OkS (K : PySem.W.Frag) (cls : Nat → Value) (W : WX) (rho : Rho) (H : Hp) (r : SR) (E : Ends) : Prop :=
  match r with
  | .nx env st => ∀ sg rho' H', Ext rho H rho' H' → Wld K rho' st H' → RelEnv K rho' H' env sg → E.nx sg H'
  | .bk env st => ∀ sg rho' H', Ext rho H rho' H' → Wld K rho' st H' → RelEnv K rho' H' env sg → E.bk sg H'
  | .ct env st => ∀ sg rho' H', Ext rho H rho' H' → Wld K rho' st H' → RelEnv K rho' H' env sg → E.ct sg H'
  | .rt d st => ∀ v rho' H', Ext rho H rho' H' → Wld K rho' st H' → RelD K rho' H' d v → E.rt v H'
  | .exc c env st => ∀ sg rho' H', Ext rho H rho' H' → Wld K rho' st H' → RelEnv K rho' H' env sg → W (cls c) none sg H'
  | .stuck => False
theorem OkS.from {K : PySem.W.Frag} {cls : Nat → Value} {W : WX} {rho rho1 : Rho} {H H1 : Hp} {r : SR} {E : Ends} (h : OkS K cls W rho H r E) (e : Ext rho H rho1 H1) : OkS K cls W rho1 H1 r E := by
  cases r with
  | nx env st => exact fun sg r2 H2 e2 => h sg r2 H2 (e.trans e2)
  | bk env st => exact fun sg r2 H2 e2 => h sg r2 H2 (e.trans e2)
  | ct env st => exact fun sg r2 H2 e2 => h sg r2 H2 (e.trans e2)
  | rt d st => exact fun sg r2 H2 e2 => h sg r2 H2 (e.trans e2)
  | exc c env st => exact fun sg r2 H2 e2 => h sg r2 H2 (e.trans e2)
  | stuck => exact h
def tS (K : PySem.W.Frag) (cls : Nat → Value) (W : WX) (m : MS) : TS := fun E sg H => ∃ rho env st, Wld K rho st H ∧ RelEnv K rho H env sg ∧ OkS K cls W rho H (m env st) E

/-! ### monotony -/
theorem PE.weak {X : Cx} {e : Expr} {t t' : TE} (h : PE X e t) (f : ∀ sg H Q, t' sg H Q → t sg H Q) : PE X e t' := ⟨fun pins s sg H Q I q => h.run pins s sg H Q I (f _ _ _ q)⟩
theorem PE.or {X : Cx} {e : Expr} {t t' : TE} (h : PE X e t) (h' : PE X e t') : PE X e (fun sg H Q => t sg H Q ∨ t' sg H Q) := ⟨fun pins s sg H Q I q => q.elim (h.run pins s sg H Q I) (h'.run pins s sg H Q I)⟩
theorem PT.weak {X : Cx} {e : Expr} {t t' : TT} (h : PT X e t) (f : ∀ sg H Q, t' sg H Q → t sg H Q) : PT X e t' := ⟨fun pins s sg H Q I q => h.run pins s sg H Q I (f _ _ _ q)⟩
theorem PW.weak {X : Cx} {e : Expr} {t t' : TT} (h : PW X e t) (f : ∀ sg H Q, t' sg H Q → t sg H Q) : PW X e t' := ⟨fun wh pins s sg H Q I q => h.run wh pins s sg H Q I (f _ _ _ q)⟩
theorem PA.weak {X : Cx} {es : List Expr} {t t' : TA} (h : PA X es t) (f : ∀ sg H Q, t' sg H Q → t sg H Q) : PA X es t' := ⟨fun pos pins s sg H Q I q => h.run pos pins s sg H Q I (f _ _ _ q)⟩
theorem PS.weak {X : Cx} {e : Stmt} {t t' : TS} (h : PS X e t) (f : ∀ E sg H, t' E sg H → t E sg H) : PS X e t' := ⟨fun pins s sg H E I q => h.run pins s sg H E I (f _ _ _ q)⟩
theorem PSs.weak {X : Cx} {e : List Stmt} {t t' : TS} (h : PSs X e t) (f : ∀ E sg H, t' E sg H → t E sg H) : PSs X e t' := ⟨fun pins s sg H E I q => h.run pins s sg H E I (f _ _ _ q)⟩
theorem PI.or {X : Cx} {tg e : Expr} {t t' : TI} (h : PI X tg e t) (h' : PI X tg e t') : PI X tg e (fun sg H R => t sg H R ∨ t' sg H R) := ⟨fun pins s sg H R I q => q.elim (h.run pins s sg H R I) (h'.run pins s sg H R I)⟩
theorem PI.weak {X : Cx} {tg e : Expr} {t t' : TI} (h : PI X tg e t) (f : ∀ sg H R, t' sg H R → t sg H R) : PI X tg e t' := ⟨fun pins s sg H R I q => h.run pins s sg H R I (f _ _ _ q)⟩
end MI
/-! MiV: max and min of a tuple of ints. -/
namespace MX
open PySem PySem.Spec PyProof.Rows L2
section
variable {P : Program} {w : World} {A : Around} {E : Value → Shared → Prop} {s : Shared} {l : Addr}
theorem walk_tup {Q : Value → Shared → Prop} {vs : Array Value} (hl : s.heap.IsTuple l vs)
    (h : ∀ s2 : Shared, s2 = { s with heap := s.heap.push { cls := .type "tuple_iterator", data := .fields #[.ref l, .int 0 0] } } →
      (s2.heap.IsTupleIter s.heap.objs.size l 0 ∧ s2.heap.IsTuple l vs) → (∀ b ∈ [s.heap.objs.size, l], b < s2.heap.objs.size) → l ≠ s.heap.objs.size → Q (.ref s.heap.objs.size) s2) :
    wpAny (model P w) A (pyIter (.ref l)) Q E s := by
  have lt : l < s.heap.objs.size := by obtain ⟨_, e, _⟩ := hl; exact Heap.lt_size e
  refine wpAny_pyIter_tuple hl (h _ rfl ⟨⟨_, Heap.get?_push_size _ rfl, rfl, rfl⟩, hl.push _⟩ (fun b hb => ?_) (Nat.ne_of_lt lt))
  show b < (s.heap.push _).objs.size
  rw [Heap.size_push]
  simp only [List.mem_cons, List.not_mem_nil, or_false] at hb
  rcases hb with rfl | rfl
  · exact Nat.lt_succ_self _
  · exact Nat.lt_succ_of_lt lt
theorem stays {h' : Heap} (hk : ∀ b o, b ∉ [s.heap.objs.size] → (s.heap.push { cls := .type "tuple_iterator", data := .fields #[.ref l, .int 0 0] }).get? b = some o → h'.get? b = some o) :
    ∀ b o, s.heap.get? b = some o → h'.get? b = some o := fun b o e => by
  refine hk b o (fun z => ?_) (Heap.get?_push_of_some _ e)
  simp only [List.mem_cons, List.not_mem_nil, or_false] at z
  exact absurd (z ▸ Heap.lt_size e) (Nat.lt_irrefl _)
theorem max_tup {Q : Value → Shared → Prop} {its : List Value} {ns : List Int} (hh : A.handled = none) (hl : s.heap.IsTuple l its.toArray) (hi : IntsAre its ns) (hne : 0 < ns.length)
    (h : ∀ h' tk m t, (∀ b o, s.heap.get? b = some o → h'.get? b = some o) → m ∈ ns → (∀ y, y ∈ ns → y ≤ m) → Q (.int m t) { s with heap := h', toks := tk }) : wpAny (model P w) A (call (.builtin "max") [.ref l]) Q E s := by
  obtain ⟨xs, e⟩ := hi.allInts.items
  have hn : numsOf (intItems xs).toList = ns := by rw [← e]; exact hi.numsOf
  rw [nums_intItems] at hn
  subst hn
  rw [e] at hl
  have pos : 0 < xs.size := by simpa using hne
  refine call_max_walk (walk_tup hl fun s2 e2 st fp ne => ?_)
  subst e2
  refine ⟨_, _, _, _, _, _, _, rfl, Walks.tuple (A := A.in1) hh _ l ne (intItems xs), st, fp, by simpa [intItems] using pos, CmpOf.ints_gt (numAt xs) (fun _ _ => intItems_at), fun v h' tk hp hk => ?_⟩
  have hv : (intItems xs)[argBest (fun i j => decide (numAt xs i > numAt xs j)) (xs.size - 1)]? = some v := by simpa [intItems] using hp
  obtain ⟨t, rfl⟩ := intItems_at hv
  obtain ⟨_, h2⟩ := argBest_gt (numAt xs) (xs.size - 1)
  have lb := (argBest_gt (numAt xs) (xs.size - 1)).1
  refine h h' tk _ t (stays hk) ?_ fun y hy => ?_
  · rw [numAt_eq]
    exact PySem.getD_mem (by rw [List.length_map, Array.length_toList]; omega)
  · obtain ⟨j, hj, rfl⟩ := mem_getD hy
    rw [List.length_map, Array.length_toList] at hj
    rw [← numAt_eq]
    exact h2 j (by omega)
theorem min_tup {Q : Value → Shared → Prop} {its : List Value} {ns : List Int} (hh : A.handled = none) (hl : s.heap.IsTuple l its.toArray) (hi : IntsAre its ns) (hne : 0 < ns.length)
    (h : ∀ h' tk m t, (∀ b o, s.heap.get? b = some o → h'.get? b = some o) → m ∈ ns → (∀ y, y ∈ ns → m ≤ y) → Q (.int m t) { s with heap := h', toks := tk }) : wpAny (model P w) A (call (.builtin "min") [.ref l]) Q E s := by
  obtain ⟨xs, e⟩ := hi.allInts.items
  have hn : numsOf (intItems xs).toList = ns := by rw [← e]; exact hi.numsOf
  rw [nums_intItems] at hn
  subst hn
  rw [e] at hl
  have pos : 0 < xs.size := by simpa using hne
  refine call_min_walk (walk_tup hl fun s2 e2 st fp ne => ?_)
  subst e2
  refine ⟨_, _, _, _, _, _, _, rfl, Walks.tuple (A := A.in1) hh _ l ne (intItems xs), st, fp, by simpa [intItems] using pos, CmpOf.ints_lt (numAt xs) (fun _ _ => intItems_at), fun v h' tk hp hk => ?_⟩
  have hv : (intItems xs)[argBest (fun i j => decide (numAt xs i < numAt xs j)) (xs.size - 1)]? = some v := by simpa [intItems] using hp
  obtain ⟨t, rfl⟩ := intItems_at hv
  obtain ⟨lb, h2⟩ := argBest_lt (numAt xs) (xs.size - 1)
  refine h h' tk _ t (stays hk) ?_ fun y hy => ?_
  · rw [numAt_eq]
    exact PySem.getD_mem (by rw [List.length_map, Array.length_toList]; omega)
  · obtain ⟨j, hj, rfl⟩ := mem_getD hy
    rw [List.length_map, Array.length_toList] at hj
    rw [← numAt_eq]
    exact h2 j (by omega)
end
section
variable {X : Cx}
theorem CallR.or {f : Value} {r r' : List V → Hp → VK → Prop} (h : CallR X f r) (h' : CallR X f r') : CallR X f (fun xs H Q => r xs H Q ∨ r' xs H Q) :=
  fun pins s σ H xs us Q I rv q => q.elim (h pins s σ H xs us Q I rv) (h' pins s σ H xs us Q I rv)
def rMaxT (K : PySem.W.Frag) : List V → Hp → VK → Prop := fun vs H Q => ∃ (a : Addr) (ns : List Int), vs = [V.ref a] ∧ SqT K H a (ns.map V.int) ∧ 0 < ns.length ∧ ∀ m, m ∈ ns → (∀ y, y ∈ ns → y ≤ m) → Q (.int m) H
def rMinT (K : PySem.W.Frag) : List V → Hp → VK → Prop := fun vs H Q => ∃ (a : Addr) (ns : List Int), vs = [V.ref a] ∧ SqT K H a (ns.map V.int) ∧ 0 < ns.length ∧ ∀ m, m ∈ ns → (∀ y, y ∈ ns → m ≤ y) → Q (.int m) H
theorem cr_maxT (hc : X.calm = true) : CallR X (.builtin "max") (rMaxT X.K) := by
  intro pins s σ H vs us Q I r h
  obtain ⟨a, ns, rfl, hs, hne, q⟩ := h
  obtain ⟨its, rv, hl, _⟩ := I.tuple hs
  rw [Vals.ref1 r]
  exact max_tup (I.ok.hd hc) (show s.heap.IsTuple a its.toArray from hl) rv.ints hne fun h' tk m t hk h1 h2 => ⟨.int m, H, I.kept hk, ⟨t, rfl⟩, q m h1 h2⟩
theorem cr_minT (hc : X.calm = true) : CallR X (.builtin "min") (rMinT X.K) := by
  intro pins s σ H vs us Q I r h
  obtain ⟨a, ns, rfl, hs, hne, q⟩ := h
  obtain ⟨its, rv, hl, _⟩ := I.tuple hs
  rw [Vals.ref1 r]
  exact min_tup (I.ok.hd hc) (show s.heap.IsTuple a its.toArray from hl) rv.ints hne fun h' tk m t hk h1 h2 => ⟨.int m, H, I.kept hk, ⟨t, rfl⟩, q m h1 h2⟩
end
end MX
/-! MiV2: a tuple times 0 or 1. -/
namespace MX
open PySem PySem.Spec PyProof.Rows L2
theorem tup_mul1 (l : Addr) (items : Array Value) (n : Nat) (dd : Option Addr) (sl : Array (Option Value)) (x : Int) (u : Tok) (c0 : (decide (x < -(2 ^ 63)) || decide (x ≥ 2 ^ 63)) = false) (c1 : (items.isEmpty || x == 1) = true) :
    Meets (Builtin.«tuple.__mul__» ⟨[.ref l, .int x u], []⟩) (fun _ R s => s.heap.get? l = some { cls := .type "tuple", dict := dd, data := .seq items n, slots := sl } ∧ R (.ok (.ret (Value.ref l))) s) :=
  .of_wp fun prog w A R s h => by
    obtain ⟨hp, g, d, tk, os⟩ := s
    obtain ⟨hl, h⟩ := h
    have f1 := AutoSeq1.idx_int
    wp_walk using wpAny_loadPart' hl
    repeat (first
      | (refine wpAny_ite_false (decide_eq_false (by rw [c0]; exact Bool.false_ne_true)) ?_; wp_walk using wpAny_loadPart' hl)
      | (refine wpAny_ite_true (decide_eq_true c1) ?_; wp_walk using wpAny_loadPart' hl))
    exact ⟨_, rfl, h⟩
theorem tup_mul0 (l : Addr) (items : Array Value) (n : Nat) (dd : Option Addr) (sl : Array (Option Value)) (x : Int) (u : Tok) (c0 : (decide (x < -(2 ^ 63)) || decide (x ≥ 2 ^ 63)) = false) (c1 : (items.isEmpty || x == 1) = false) (c2 : (decide (x ≤ 0) || items.isEmpty) = true) :
    Meets (Builtin.«tuple.__mul__» ⟨[.ref l, .int x u], []⟩) (fun _ R s => s.heap.get? l = some { cls := .type "tuple", dict := dd, data := .seq items n, slots := sl } ∧
      R (.ok (.ret (Value.ref s.heap.objs.size))) { s with heap := s.heap.push { cls := Value.type "tuple", data := Data.seq #[] }, toks := s.toks }) :=
  .of_wp fun prog w A R s h => by
    obtain ⟨hp, g, d, tk, os⟩ := s
    obtain ⟨hl, h⟩ := h
    have f1 := AutoSeq1.idx_int
    wp_walk using wpAny_loadPart' hl
    repeat (first
      | (refine wpAny_ite_false (decide_eq_false (by rw [c0]; exact Bool.false_ne_true)) ?_; wp_walk using wpAny_loadPart' hl)
      | (refine wpAny_ite_false (decide_eq_false (by rw [c1]; exact Bool.false_ne_true)) ?_; wp_walk using wpAny_loadPart' hl)
      | (refine wpAny_ite_true (decide_eq_true c2) ?_; wp_walk using wpAny_loadPart' hl))
    exact ⟨_, rfl, h⟩
/-- t * 1, t * 0 -/
def rRepT1 (K : PySem.W.Frag) : R2 := fun x y H Q => ∃ l xs, x = .ref l ∧ y = .int 1 ∧ SqT K H l xs ∧ Q (.ref l) H
def rRepT0 (K : PySem.W.Frag) : R2 := fun x y H Q => ∃ l xs, x = .ref l ∧ y = .int 0 ∧ SqT K H l xs ∧ xs ≠ [] ∧ ∀ p, H p = none → Q (.ref p) (upd H p (.tup []))
section
variable {X : Cx}
theorem op_repT1 : OpR X (binaryOp .Mult) (rRepT1 X.K) := by
  intro pins s σ H x y v u Q I rx ry h
  obtain ⟨l, xs, rfl, rfl, hT, q⟩ := h
  cases rx
  obtain ⟨t, rfl⟩ := ry
  obtain ⟨its, r, ⟨⟨cls, dd, data, sl⟩, ho, hc, n, hd⟩, hs⟩ := I.tuple hT
  simp only at hc hd
  subst hc hd
  refine wpAny_binaryOp_repeat_ref (T := "tuple") (U := "int") (by decide) ⟨_, ho, rfl⟩ (fun s' => typeIs_int s' 1 t) noFill_tuple_mul F.fills_int_mul F.slot_int_rmul repeat_tuple F.slot_int_index.lookup
    (call_meets F.slot_int_rmul (typeIs_int s 1 t) F.entry_int_rmul (F.args_int_rmul_2 _ _) (int_rmul_tuple 1 t l its.toArray n dd sl)
      ⟨ho, rfl, ⟨_, ho, rfl⟩, call_meets F.slot_tuple_mul ⟨_, ho, rfl⟩ F.entry_tuple_mul (F.args_tuple_mul_2 _ _) (tup_mul1 l its.toArray n dd sl 1 t (by decide) (by simp)) ⟨ho, ?_⟩⟩)
  exact ⟨.ref l, H, I, rfl, q⟩
theorem op_repT0 : OpR X (binaryOp .Mult) (rRepT0 X.K) := by
  intro pins s σ H x y v u Q I rx ry h
  obtain ⟨l, xs, rfl, rfl, hT, hne, q⟩ := h
  cases rx
  obtain ⟨t, rfl⟩ := ry
  obtain ⟨its, r, ⟨⟨cls, dd, data, sl⟩, ho, hc, n, hd⟩, hs⟩ := I.tuple hT
  simp only at hc hd
  subst hc hd
  have hi : its.toArray.isEmpty = false := by
    cases its with
    | nil => exact absurd (List.eq_nil_of_length_eq_zero r.length) hne
    | cons a b => rfl
  refine wpAny_binaryOp_repeat_ref (T := "tuple") (U := "int") (by decide) ⟨_, ho, rfl⟩ (fun s' => typeIs_int s' 0 t) noFill_tuple_mul F.fills_int_mul F.slot_int_rmul repeat_tuple F.slot_int_index.lookup
    (call_meets F.slot_int_rmul (typeIs_int s 0 t) F.entry_int_rmul (F.args_int_rmul_2 _ _) (int_rmul_tuple 0 t l its.toArray n dd sl)
      ⟨ho, rfl, ⟨_, ho, rfl⟩, call_meets F.slot_tuple_mul ⟨_, ho, rfl⟩ F.entry_tuple_mul (F.args_tuple_mul_2 _ _) (tup_mul0 l its.toArray n dd sl 0 t (by decide) (by rw [hi]; rfl) (by rfl)) ⟨ho, ?_⟩⟩)
  refine ⟨.ref s.heap.objs.size, _, I.laid (t' := s.toks) (o := .tup []) (fun b ob q => Heap.get?_push_of_some _ q) (Nat.le_refl _) ?_, rfl, q _ (I.hok.fresh (Nat.le_refl _))⟩
  exact ⟨by decide, [], .nil, IsTup.new _ _⟩
end
end MX
/-! MiC: operations by values. -/
namespace MI
open PySem PySem.Spec PyProof.Rows L2
section
variable {K : PySem.W.Frag} {cls : Nat → Value} {W : WX} {sg : L2.St} {rho : Rho} {st : Sto} {H : Hp} {Q : VK} {x y : D} {v u : V}

/-- a value read through its ref -/
def DerR (K : PySem.W.Frag) (rho : Rho) (H : Hp) : D → V → Prop
  | .lst ds, v => ∃ a vs, v = .ref a ∧ H a = some (.lst vs) ∧ RelDs K rho H ds vs
  | .dic ds, v => ∃ a vs, v = .ref a ∧ H a = some (.dK vs) ∧ RelK K rho H ds vs
  | d, v => RelD K rho H d v
theorem deref_rel (w : Wld K rho st H) (r : RelD K rho H x v) : DerR K rho H (deref st x) v := by
  cases r with
  | non => exact .non
  | bl b => exact .bl b
  | int i => exact .int i
  | str z => exact .str z
  | tup h r => exact .tup h r
  | lst h n r => exact ⟨_, _, rfl, h, r⟩
  | fz h r => exact .fz h r
  | dic h n r => exact ⟨_, _, rfl, h, r⟩
  | ref h =>
    rename_i l a
    have hl : l < st.length := by rw [← w.len]; exact (List.getElem?_eq_some_iff.mp h).1
    have e : st[l]? = some st[l] := List.getElem?_eq_getElem hl
    have ob := w.obj l a _ h e
    unfold deref
    simp only [e]
    generalize st[l] = o at ob
    cases o with
    | lst ds => obtain ⟨vs, h1, h2⟩ := ob; exact ⟨a, vs, rfl, h1, h2⟩
    | dic ds => obtain ⟨vs, h1, h2⟩ := ob; exact ⟨a, vs, rfl, h1, h2⟩
    | ins c fs => exact .ref h
    | dicT kvs => exact .ref h
theorem der_lst {ds : List D} (h : DerR K rho H (.lst ds) v) : ∃ a vs, v = .ref a ∧ H a = some (.lst vs) ∧ RelDs K rho H ds vs := h
theorem der_tup {ds : List D} (h : DerR K rho H (.tup ds) v) : ∃ a vs, v = .ref a ∧ SqT K H a vs ∧ RelDs K rho H ds vs := by
  cases h with
  | tup h r => exact ⟨_, _, rfl, h, r⟩
theorem der_dic {ds : List (Key × D)} (h : DerR K rho H (.dic ds) v) : ∃ a vs, v = .ref a ∧ H a = some (.dK vs) ∧ RelK K rho H ds vs := h

/-! results -/
theorem ok_here {d : D} (w : Wld K rho st H) (h : OkR K cls W sg rho H (.ok d st) (VQ K Q)) {v : V} (r : RelD K rho H d v) : Q v H := h rho H (Ext.refl rho H) w v r
theorem ok_tmp_lst {ds : List D} {vs : List V} (w : Wld K rho st H) (h : OkR K cls W sg rho H (.ok (.lst ds) st) (VQ K Q)) (r : RelDs K rho H ds vs) : ∀ p, H p = none → Q (.ref p) (upd H p (.lst vs)) := fun p hp =>
  h rho _ (w.extTmp hp _) (w.tmp hp _) _ (.lst upd_same (w.fresh hp) (r.ext (w.extTmp hp _)))
theorem ok_tmp_tup {ds : List D} {vs : List V} (w : Wld K rho st H) (h : OkR K cls W sg rho H (.ok (.tup ds) st) (VQ K Q)) (r : RelDs K rho H ds vs) : ∀ p, H p = none → Q (.ref p) (upd H p (.tup vs)) := fun p hp =>
  h rho _ (w.extTmp hp _) (w.tmp hp _) _ (.tup (SqT.of upd_same) (r.ext (w.extTmp hp _)))

/-! ### + -/
def rAddA (K : PySem.W.Frag) : R2 := fun x y H Q => (rI0 fun i j => .int (i + j)) x y H Q ∨ ((fun x y H Q => ∃ i k, x = .int i ∧ y = .bl k ∧ Q (.int (i + b2i k)) H) : R2) x y H Q ∨
  ((fun x y H Q => ∃ i j, x = .str i ∧ y = .str j ∧ i.length + j.length ≤ sizeLine ∧ Q (.str (i ++ j)) H) : R2) x y H Q ∨ rCatA K x y H Q ∨ rCat x y H Q
theorem op_addA {X : Cx} : OpR X (binaryOp .Add) (rAddA X.K) := op_add.or (op_add_ib.or (op_add_str.or (op_catA.or op_cat)))
theorem hop_add (w : Wld K rho st H) (r1 : RelD K rho H x v) (r2 : RelD K rho H y u) (h : OkR K cls W sg rho H (opAdd x y st) (VQ K Q)) : rAddA K v u H Q := by
  unfold opAdd at h
  split at h
  · cases r1; cases r2
    exact .inl ⟨_, _, rfl, rfl, ok_here w h (.int _)⟩
  · cases r1; cases r2
    exact .inr (.inl ⟨_, _, rfl, rfl, ok_here w h (.int _)⟩)
  · split at h
    · cases r1; cases r2
      exact .inr (.inr (.inl ⟨_, _, rfl, rfl, by assumption, ok_here w h (.str _)⟩))
    · exact h.elim
  · split at h
    · rename_i a b hl
      cases r1 with
      | tup h1 q1 =>
        cases r2 with
        | tup h2 q2 =>
          refine .inr (.inr (.inr (.inl ⟨_, _, _, _, rfl, rfl, h1, h2, by rw [← q1.length, ← q2.length]; exact hl, fun e => ?_, fun e1 e2 => ?_, fun e1 e2 => ?_⟩)))
          · subst e
            cases q1
            exact ok_here w h (.tup h2 q2)
          · subst e2
            cases q2
            rw [List.append_nil] at h
            exact ok_here w h (.tup h1 q1)
          · exact ok_tmp_tup w h (q1.append q2)
    · exact h.elim
  · have d1 := deref_rel w r1
    have d2 := deref_rel w r2
    split at h
    · rename_i e1 e2
      rw [e1] at d1
      rw [e2] at d2
      obtain ⟨a, vs, rfl, h1, q1⟩ := der_lst d1
      obtain ⟨b, ws, rfl, h2, q2⟩ := der_lst d2
      split at h
      · rename_i hl
        exact .inr (.inr (.inr (.inr ⟨a, b, vs, ws, rfl, rfl, h1, h2, by rw [← q1.length, ← q2.length]; exact hl, ok_tmp_lst w h (q1.append q2)⟩)))
      · exact h.elim
    · exact h.elim
/-! ### - * % // ** -/
theorem hop_sub (w : Wld K rho st H) (r1 : RelD K rho H x v) (r2 : RelD K rho H y u) (h : OkR K cls W sg rho H (opSub x y st) (VQ K Q)) : (rI0 fun i j => .int (i - j)) v u H Q := by
  unfold opSub at h
  split at h
  · cases r1; cases r2
    exact ⟨_, _, rfl, rfl, ok_here w h (.int _)⟩
  · exact h.elim
def rMulA (K : PySem.W.Frag) : R2 := fun x y H Q => rI CMul (fun i j => .int (i * j)) x y H Q ∨ rI CMulW (fun i j => .int (i * j)) x y H Q ∨ rRep x y H Q ∨ rRepT K x y H Q ∨ MX.rRepT1 K x y H Q ∨ MX.rRepT0 K x y H Q
theorem op_mulA {X : Cx} : OpR X (binaryOp .Mult) (rMulA X.K) := op_mul.or (op_mulW.or (op_rep.or (op_repT.or (MX.op_repT1.or MX.op_repT0))))
theorem relDs_rep {ds : List D} {vs : List V} (r : RelDs K rho H ds vs) : ∀ n : Nat, RelDs K rho H (List.replicate n ds).flatten (List.replicate n vs).flatten
  | 0 => .nil
  | n + 1 => by
    rw [List.replicate_succ, List.replicate_succ, List.flatten_cons, List.flatten_cons]
    exact r.append (relDs_rep r n)
theorem hop_mul (w : Wld K rho st H) (r1 : RelD K rho H x v) (r2 : RelD K rho H y u) (h : OkR K cls W sg rho H (opMul x y st) (VQ K Q)) : rMulA K v u H Q := by
  unfold opMul at h
  split at h
  · split at h
    · rename_i hm
      cases r1; cases r2
      rcases hm with hm | hm
      · exact .inl ⟨_, _, rfl, rfl, hm, ok_here w h (.int _)⟩
      · exact .inr (.inl ⟨_, _, rfl, rfl, hm, ok_here w h (.int _)⟩)
    · exact h.elim
  · have d1 := deref_rel w r1
    split at h
    · rename_i e1
      rw [e1] at d1
      obtain ⟨a, vs, rfl, h1, q1⟩ := der_lst d1
      cases r2
      split at h
      · rename_i hl
        exact .inr (.inr (.inl ⟨a, _, vs, rfl, rfl, h1, hl.1, hl.2.1, by rw [← q1.length]; exact hl.2.2, ok_tmp_lst w h (relDs_rep q1 _)⟩))
      · exact h.elim
    · rename_i e1
      rw [e1] at d1
      obtain ⟨a, vs, rfl, h1, q1⟩ := der_tup d1
      cases r2
      split at h
      · rename_i hl
        rename_i k _ _ _
        have hne : vs ≠ [] := fun e => hl.1 (List.length_eq_zero_iff.mp (by rw [q1.length, e]; rfl))
        by_cases k0 : k = 0
        · subst k0
          exact .inr (.inr (.inr (.inr (.inr ⟨a, vs, rfl, rfl, h1, hne, ok_tmp_tup w h .nil⟩))))
        · by_cases k1 : k = 1
          · subst k1
            have e : ∀ zs : List D, (List.replicate (1 : Int).toNat zs).flatten = zs := fun zs => List.append_nil zs
            rw [e] at h
            exact .inr (.inr (.inr (.inr (.inl ⟨a, vs, rfl, rfl, h1, ok_here w h (.tup h1 q1)⟩))))
          · exact .inr (.inr (.inr (.inl ⟨a, _, vs, rfl, rfl, h1, hne, by omega, hl.2.2.1, by rw [← q1.length]; exact hl.2.2.2, ok_tmp_tup w h (relDs_rep q1 _)⟩)))
      · exact h.elim
    · exact h.elim
  · exact h.elim
theorem hop_mod (w : Wld K rho st H) (r1 : RelD K rho H x v) (r2 : RelD K rho H y u) (h : OkR K cls W sg rho H (opMod x y st) (VQ K Q)) : (rI (fun _ j => 0 < j) fun i j => .int (i % j)) v u H Q := by
  unfold opMod at h
  split at h
  · split at h
    · cases r1; cases r2
      exact ⟨_, _, rfl, rfl, by assumption, ok_here w h (.int _)⟩
    · exact h.elim
  · exact h.elim
theorem hop_div (w : Wld K rho st H) (r1 : RelD K rho H x v) (r2 : RelD K rho H y u) (h : OkR K cls W sg rho H (opDiv x y st) (VQ K Q)) : (rI CDivW fun i j => .int (i / j)) v u H Q := by
  unfold opDiv at h
  split at h
  · split at h
    · cases r1; cases r2
      exact ⟨_, _, rfl, rfl, by assumption, ok_here w h (.int _)⟩
    · exact h.elim
  · exact h.elim
theorem hop_pow (w : Wld K rho st H) (r1 : RelD K rho H x v) (r2 : RelD K rho H y u) (h : OkR K cls W sg rho H (opPow x y st) (VQ K Q)) : (rI CPow fun i j => .int (i ^ j.toNat)) v u H Q := by
  unfold opPow at h
  split at h
  · split at h
    · cases r1; cases r2
      exact ⟨_, _, rfl, rfl, by assumption, ok_here w h (.int _)⟩
    · exact h.elim
  · exact h.elim
theorem hop_cmp {p : Int → Int → Bool} (w : Wld K rho st H) (r1 : RelD K rho H x v) (r2 : RelD K rho H y u) (h : OkR K cls W sg rho H (opCmp p x y st) (VQ K Q)) : (rI0 fun i j => .bl (p i j)) v u H Q := by
  unfold opCmp at h
  split at h
  · cases r1; cases r2
    exact ⟨_, _, rfl, rfl, ok_here w h (.bl _)⟩
  · exact h.elim

/-! ### plain data -/
mutual
theorem relD_dp : ∀ {d : D} {v : V}, RelD K rho H d v → noRef d = true → Dp K H v (toPy d)
  | _, _, .non, _ => .non
  | _, _, .bl b, _ => .bl b
  | _, _, .int i, _ => .int i
  | _, _, .str x, _ => .str x
  | _, _, .tup h r, n => by
    simp only [noRef] at n
    simp only [toPy]
    exact .tup h (relDs_dp r n)
  | _, _, .lst h m r, n => by
    simp only [noRef] at n
    simp only [toPy]
    exact .lst (SqL.of h) (relDs_dp r n)
  | _, _, .fz h r, n => by
    simp only [noRef] at n
    simp only [toPy]
    exact .lst h.sq (relDs_dp r n)
  | _, _, .dic h m r, n => by simp [noRef] at n
  | _, _, .ref h, n => by simp [noRef] at n
theorem relDs_dp : ∀ {ds : List D} {vs : List V}, RelDs K rho H ds vs → noRefs ds = true → DpAll K H vs (toPys ds)
  | _, _, .nil, _ => by simp only [toPys]; exact .nil
  | _, _, .cons h t, n => by
    simp only [noRefs, Bool.and_eq_true] at n
    simp only [toPys]
    exact .cons (relD_dp h n.1) (relDs_dp t n.2)
end
theorem der_dp {d : D} (h : DerR K rho H d v) (n : noRef d = true) : Dp K H v (toPy d) := by
  cases d with
  | lst ds =>
    obtain ⟨a, vs, rfl, h1, q1⟩ := der_lst h
    simp only [noRef] at n
    simp only [toPy]
    exact .lst (SqL.of h1) (relDs_dp q1 n)
  | dic ds => simp [noRef] at n
  | _ => exact relD_dp h n
theorem eqD_some {b : Bool} (w : Wld K rho st H) (r1 : RelD K rho H x v) (r2 : RelD K rho H y u) (h : eqD st x y = some b) : ∃ d e, Dp K H v d ∧ Dp K H u e ∧ SeqAt.shaped d = true ∧ SeqAt.shaped e = true ∧ PyData.eqv d e = b := by
  unfold eqD at h
  split at h
  · rename_i hc
    simp only [Bool.and_eq_true] at hc
    obtain ⟨⟨⟨h1, h2⟩, h3⟩, h4⟩ := hc
    exact ⟨_, _, der_dp (deref_rel w r1) h1, der_dp (deref_rel w r2) h2, h3, h4, Option.some.inj h⟩
  · cases h
def rEqT0 (K : PySem.W.Frag) : R2 := fun x y H Q => ∃ (a b : Addr) (xs : List V), x = .ref a ∧ y = .ref b ∧ SqT K H a xs ∧ SqT K H b [] ∧ Q (.bl xs.isEmpty) H
theorem op_eqT0 {X : Cx} (hu : X.A.units < cLine) : OpR X (compareOp .Eq) (rEqT0 X.K) := by
  intro pins s σ H x y v u Q I rx ry h
  obtain ⟨a, b, xs, rfl, rfl, ha, hb, q⟩ := h
  cases rx
  cases ry
  obtain ⟨its, r, ht, hz⟩ := I.tuple ha
  obtain ⟨its2, r2, ht2, hz2⟩ := I.tuple hb
  have e2 : its2 = [] := List.length_eq_zero_iff.mp (by rw [← r2.length]; rfl)
  subst e2
  have hrc := SeqAt.RcAt.tuples (A := X.A) (e := fun _ => true) ht ht2 hu (fun j h1 h2 => absurd h2 (by simp))
  refine hrc X.prog X.w _ _ ⟨.bl _, H, I, rfl, ?_⟩
  have : ((List.range (min its.toArray.size ([] : List Value).toArray.size)).all (fun _ => true) && its.toArray.size == ([] : List Value).toArray.size) = xs.isEmpty := by
    have hl := r.length
    cases xs with
    | nil =>
      have : its = [] := List.length_eq_zero_iff.mp (by rw [← hl]; rfl)
      subst this
      rfl
    | cons x xs =>
      simp at hl
      simp [← hl]
  rw [this]
  exact q
theorem kvGet_rel {K : PySem.W.Frag} {rho : Rho} {H : Hp} : ∀ {ds : List (Key × D)} {vs : List (Key × V)} {k : Key} {d : D}, RelK K rho H ds vs → kvGet ds k = some d → ∃ v, valV vs k = some v ∧ RelD K rho H d v
  | _, _, _, _, .nil, h => by simp [kvGet] at h
  | (k', d') :: ds, (_, v') :: vs, k, d, .cons r t, h => by
    unfold kvGet valV at *
    simp only [List.find?_cons] at h ⊢
    by_cases e : k' = k
    · simp only [e, decide_true, Option.map_some, Option.some.injEq] at h ⊢
      subst h
      exact ⟨v', rfl, r⟩
    · simp only [e, decide_false] at h ⊢
      exact kvGet_rel t h
/-- two dicts of the same keys, their values plain and equal -/
def SameK (K : PySem.W.Frag) (H : Hp) (ks ls : List (Key × V)) : Prop := ks.length = ls.length ∧ ∀ p ∈ ks, ∃ u d e, valV ls p.1 = some u ∧ Dp K H p.2 d ∧ Dp K H u e ∧ SeqAt.shaped d = true ∧ SeqAt.shaped e = true ∧ PyData.eqv d e = true
def rEqX (K : PySem.W.Frag) : R2 := fun x y H Q => ∃ a b ks ls, x = .ref a ∧ y = .ref b ∧ H a = some (.dK ks) ∧ H b = some (.dK ls) ∧ SameK K H ks ls ∧ Q (.bl true) H
def rNeX (K : PySem.W.Frag) : R2 := fun x y H Q => ∃ a b ks ls, x = .ref a ∧ y = .ref b ∧ H a = some (.dK ks) ∧ H b = some (.dK ls) ∧ SameK K H ks ls ∧ Q (.bl false) H
theorem hits_same {X : Cx} {pins : List (Addr × Obj)} {σ : L2.St} {H : Hp} {s : Shared} (I : Inv X pins σ H s) (hu : X.A.in1.units + 64 < cLine) {ls : List (Key × V)} {vb : List (Key × Value)} (rb : KV ls vb) :
    ∀ {ks : List (Key × V)} {va : List (Key × Value)}, KV ks va → (∀ p ∈ ks, ∃ u d e, valV ls p.1 = some u ∧ Dp X.K H p.2 d ∧ Dp X.K H u e ∧ SeqAt.shaped d = true ∧ SeqAt.shaped e = true ∧ PyData.eqv d e = true) → PySem.W.KeqHits X.A.in1 s vb va true := by
  intro ks va ra
  unfold KV at ra
  induction ra with
  | nil => intro _; exact .nil
  | @cons p q ps qs h t k =>
    intro hp
    obtain ⟨h1, h2⟩ := h
    obtain ⟨u, d, e, ev, d1, d2, s1, s2, eq⟩ := hp p List.mem_cons_self
    have rr : RelO (some u) (valueAt vb p.1) := by rw [← ev]; exact rb.val p.1
    obtain ⟨y, hy, ry⟩ := rr.some_of
    obtain ⟨key, v⟩ := q
    have h1' : p.1 = key := h1
    rw [h1'] at hy
    obtain ⟨as, g1⟩ := Dp.reads I d _ _ d1 h2
    obtain ⟨bs, g2⟩ := Dp.reads I e _ _ d2 ry
    have z := PySem.W.keq_at (A := X.A) g1 g2 s1 s2 hu
    rw [eq] at z
    show PySem.W.KeqHits X.A.in1 s vb ((key, v) :: qs) (true && true)
    exact .hit hy z (k fun p' hm => hp p' (List.mem_cons_of_mem _ hm))
theorem op_eqX {X : Cx} (hu : X.A.units + 65 < cLine) : OpR X (compareOp .Eq) (rEqX X.K) := by
  intro pins s σ H x y v u Q I rx ry h
  obtain ⟨a, b, ks, ls, rfl, rfl, ea, eb, ⟨hlen, hp⟩, q⟩ := h
  obtain rfl : v = Value.ref a := rx
  obtain rfl : u = Value.ref b := ry
  obtain ⟨_, ya, va, ra, da⟩ := (show ObjOk X.prog X.w H s.heap a (.dK ks) from I.hok a _ ea)
  obtain ⟨_, yb, vb, rb, db⟩ := (show ObjOk X.prog X.w H s.heap b (.dK ls) from I.hok b _ eb)
  have hl : va.length = vb.length := by rw [← ra.length, ← rb.length]; exact hlen
  exact PySem.W.keq_eq (knd := mixKind X.prog X.w) (r := true) ya yb da db (by omega) (fun _ => hits_same I (show X.A.units + 1 + 64 < cLine by omega) rb ra hp) (fin_bl I q (by simp [hl]))
theorem op_neX {X : Cx} (hu : X.A.units + 65 < cLine) : OpR X (compareOp .NotEq) (rNeX X.K) := by
  intro pins s σ H x y v u Q I rx ry h
  obtain ⟨a, b, ks, ls, rfl, rfl, ea, eb, ⟨hlen, hp⟩, q⟩ := h
  obtain rfl : v = Value.ref a := rx
  obtain rfl : u = Value.ref b := ry
  obtain ⟨_, ya, va, ra, da⟩ := (show ObjOk X.prog X.w H s.heap a (.dK ks) from I.hok a _ ea)
  obtain ⟨_, yb, vb, rb, db⟩ := (show ObjOk X.prog X.w H s.heap b (.dK ls) from I.hok b _ eb)
  have hl : va.length = vb.length := by rw [← ra.length, ← rb.length]; exact hlen
  exact PySem.W.keq_ne (knd := mixKind X.prog X.w) (r := true) ya yb da db (by omega) (fun _ => hits_same I (show X.A.units + 1 + 64 < cLine by omega) rb ra hp) (fin_bl I q (by simp [hl]))
theorem same_rel {K : PySem.W.Frag} {rho : Rho} {H : Hp} {bs : List (Key × D)} {ls : List (Key × V)} (r2 : RelK K rho H bs ls) : ∀ {as : List (Key × D)} {ks : List (Key × V)}, RelK K rho H as ks → (as.all fun p => sameV p.2 (kvGet bs p.1)) = true → ∀ p ∈ ks, ∃ u d e, valV ls p.1 = some u ∧ Dp K H p.2 d ∧ Dp K H u e ∧ SeqAt.shaped d = true ∧ SeqAt.shaped e = true ∧ PyData.eqv d e = true
  | _, _, .nil, _, p, hp => by cases hp
  | (k, d) :: as, (_, v) :: ks, .cons h t, ha, p, hp => by
    simp only [List.all_cons, Bool.and_eq_true] at ha
    rcases List.mem_cons.mp hp with rfl | hp
    · have h0 := ha.1
      cases q : kvGet bs k with
      | none => rw [q] at h0; cases h0
      | some u =>
        rw [q] at h0
        simp only [sameV, leafD, Bool.and_eq_true] at h0
        obtain ⟨⟨⟨n1, s1⟩, n2, s2⟩, e⟩ := h0
        obtain ⟨z, hz, rz⟩ := kvGet_rel r2 q
        exact ⟨z, _, _, hz, relD_dp h n1, relD_dp rz n2, s1, s2, e⟩
    · exact same_rel r2 t ha.2 p hp
theorem eqX_some (w : Wld K rho st H) (r1 : RelD K rho H x v) (r2 : RelD K rho H y u) (h : eqX st x y = true) : ∃ a b ks ls, v = .ref a ∧ u = .ref b ∧ H a = some (.dK ks) ∧ H b = some (.dK ls) ∧ SameK K H ks ls := by
  unfold eqX at h
  split at h
  · rename_i as bs e1 e2
    have q1 := deref_rel w r1
    have q2 := deref_rel w r2
    rw [e1] at q1
    rw [e2] at q2
    obtain ⟨a, ks, rfl, g1, g2⟩ := der_dic q1
    obtain ⟨b, ls, rfl, g3, g4⟩ := der_dic q2
    simp only [dicSame, Bool.and_eq_true, decide_eq_true_eq] at h
    exact ⟨a, b, ks, ls, rfl, rfl, g1, g3, by rw [← g2.length, ← g4.length]; exact h.1, same_rel g4 g2 h.2⟩
  · cases h
def rEqA (K : PySem.W.Frag) : R2 := fun x y H Q => (rEqD K x y H Q ∨ rEqT0 K x y H Q) ∨ rEqX K x y H Q
theorem op_eqA {X : Cx} (hu : X.A.units + 65 < cLine) : OpR X (compareOp .Eq) (rEqA X.K) := ((op_eqD (by omega)).or (op_eqT0 (by omega))).or (op_eqX hu)
def rNeA (K : PySem.W.Frag) : R2 := fun x y H Q => rNeD K x y H Q ∨ rNeX K x y H Q
theorem op_neA {X : Cx} (hu : X.A.units + 65 < cLine) : OpR X (compareOp .NotEq) (rNeA X.K) := (op_neD (by omega)).or (op_neX hu)
theorem hop_eq (w : Wld K rho st H) (r1 : RelD K rho H x v) (r2 : RelD K rho H y u) (h : OkR K cls W sg rho H (opEq x y st) (VQ K Q)) : rEqA K v u H Q := by
  unfold opEq at h
  split at h
  · rename_i b e
    obtain ⟨d, e', h1, h2, h3, h4, h5⟩ := eqD_some w r1 r2 e
    exact .inl (.inl ⟨d, e', h1, h2, h3, h4, by rw [h5]; exact ok_here w h (.bl _)⟩)
  · split at h
    · rename_i b e
      unfold eqT0 at e
      split at e
      · cases e
        cases r1 with
        | tup h1 q1 =>
          cases r2 with
          | tup h2 q2 =>
            cases q2
            refine .inl (.inr ⟨_, _, _, rfl, rfl, h1, h2, ?_⟩)
            cases q1 with
            | nil => exact ok_here w h (.bl _)
            | cons _ _ => exact ok_here w h (.bl _)
      · cases e
    · split at h
      · rename_i e
        obtain ⟨a, b, ks, ls, e1, e2, g1, g2, g3⟩ := eqX_some w r1 r2 e
        exact .inr ⟨a, b, ks, ls, e1, e2, g1, g2, g3, ok_here w h (.bl _)⟩
      · exact h.elim
theorem hop_ne (w : Wld K rho st H) (r1 : RelD K rho H x v) (r2 : RelD K rho H y u) (h : OkR K cls W sg rho H (opNe x y st) (VQ K Q)) : rNeA K v u H Q := by
  unfold opNe at h
  split at h
  · rename_i b e
    obtain ⟨d, e', h1, h2, h3, h4, h5⟩ := eqD_some w r1 r2 e
    exact .inl ⟨d, e', h1, h2, h3, h4, by rw [h5]; exact ok_here w h (.bl _)⟩
  · split at h
    · rename_i e
      obtain ⟨a, b, ks, ls, e1, e2, g1, g2, g3⟩ := eqX_some w r1 r2 e
      exact .inr ⟨a, b, ks, ls, e1, e2, g1, g2, g3, ok_here w h (.bl _)⟩
    · exact h.elim
/-! ### is -/
theorem relD_non (r : RelD K rho H x v) (n : x ≠ .non) : v ≠ .non := by
  cases r <;> first | (intro e; cases e; done) | exact absurd rfl n
def rIsA : R2 := fun x y H Q => ((fun x y H Q => y = .non ∧ Q (.bl (decide (x = .non))) H) : R2) x y H Q ∨ ((fun x y H Q => ∃ a b, x = .bl a ∧ y = .bl b ∧ Q (.bl (decide (a = b))) H) : R2) x y H Q
def rIsNotA : R2 := fun x y H Q => ((fun x y H Q => y = .non ∧ Q (.bl (!decide (x = .non))) H) : R2) x y H Q ∨ ((fun x y H Q => ∃ a b, x = .bl a ∧ y = .bl b ∧ Q (.bl (!decide (a = b))) H) : R2) x y H Q
theorem op_isA {X : Cx} : OpR X (compareOp .Is) rIsA := op_isN.or op_is_bl
theorem op_isNotA {X : Cx} : OpR X (compareOp .IsNot) rIsNotA := op_notN.or op_isnot_bl
theorem hop_is (w : Wld K rho st H) (r1 : RelD K rho H x v) (r2 : RelD K rho H y u) (h : OkR K cls W sg rho H (opIs x y st) (VQ K Q)) : rIsA v u H Q := by
  unfold opIs at h
  split at h
  · cases r1; cases r2
    exact .inl ⟨rfl, ok_here w h (.bl _)⟩
  · rename_i hn
    cases r2
    refine .inl ⟨rfl, ?_⟩
    rw [decide_eq_false (relD_non r1 fun e => hn e)]
    exact ok_here w h (.bl _)
  · cases r1; cases r2
    exact .inr ⟨_, _, rfl, rfl, ok_here w h (.bl _)⟩
  · exact h.elim
theorem hop_isNot (w : Wld K rho st H) (r1 : RelD K rho H x v) (r2 : RelD K rho H y u) (h : OkR K cls W sg rho H (opIsNot x y st) (VQ K Q)) : rIsNotA v u H Q := by
  unfold opIsNot at h
  split at h
  · cases r1; cases r2
    exact .inl ⟨rfl, ok_here w h (.bl _)⟩
  · rename_i hn
    cases r2
    refine .inl ⟨rfl, ?_⟩
    rw [decide_eq_false (relD_non r1 fun e => hn e)]
    exact ok_here w h (.bl _)
  · cases r1; cases r2
    exact .inr ⟨_, _, rfl, rfl, ok_here w h (.bl _)⟩
  · exact h.elim
/-! ### truth, len, isinstance -/
theorem truth_some {k : Bool} (w : Wld K rho st H) (r : RelD K rho H x v) (h : truth st x = some k) : TruV K v H k := by
  have d := deref_rel w r
  unfold truth at h
  split at h <;> (rename_i e; rw [e] at d)
  · cases d; exact (Option.some.inj h).symm
  · cases d; exact (Option.some.inj h).symm
  · cases d; exact (Option.some.inj h).symm
  · split at h
    · cases d; exact ⟨by assumption, (Option.some.inj h).symm⟩
    · cases h
  · cases d with
    | tup h1 q => exact .inr (.inl ⟨_, h1, by rw [← Option.some.inj h]; cases q <;> rfl⟩)
  · obtain ⟨a, vs, rfl, h1, q⟩ := der_lst d
    exact .inl ⟨_, SqL.of h1, by rw [← Option.some.inj h]; cases q <;> rfl⟩
  · cases d with
    | fz h1 q => exact .inl ⟨_, h1.sq, by rw [← Option.some.inj h]; cases q <;> rfl⟩
  · obtain ⟨a, vs, rfl, h1, q⟩ := der_dic d
    exact .inr (.inr ⟨_, h1, by rw [← Option.some.inj h]; cases q <;> rfl⟩)
  · cases h
theorem tyName_some {T : String} (w : Wld K rho st H) (r : RelD K rho H x v) (h : tyName st x = some T) : TyX K H v (.type T) := by
  have d := deref_rel w r
  unfold tyName at h
  split at h <;> (rename_i e; rw [e] at d)
  · cases d; cases h; exact .base .non
  · cases d; cases h; exact .base (.bl _)
  · cases d; cases h; exact .base (.int _)
  · cases d; cases h; exact .base (.str _)
  · cases h
    cases d with
    | tup h1 q =>
      rcases h1 with (h1 | ⟨o, h1⟩) | ⟨o, its, n, h1, h2, _⟩
      · exact .base (.tup h1)
      · exact .fTuple h1
      · exact .kTuple h1 h2
  · cases h
    obtain ⟨a, vs, rfl, h1, q⟩ := der_lst d
    exact .base (.lst h1)
  · cases h
  · cases h
    obtain ⟨a, vs, rfl, h1, q⟩ := der_dic d
    exact .base (.dK h1)
  · cases h
theorem isInst_ok {T : String} (w : Wld K rho st H) (r : RelD K rho H x v) (h : OkR K cls W sg rho H (isInst T x st) (VQ K Q)) : rIsi K [v, .ty T] H Q := by
  unfold isInst at h
  split at h
  · rename_i a e
    split at h
    · rename_i b e2
      exact ⟨v, _, _, _, b, rfl, .ty T, tyName_some w r e, kit_ty e2, ok_here w h (.bl _)⟩
    · exact h.elim
  · exact h.elim
theorem lenD_some {n : Nat} (w : Wld K rho st H) (r : RelD K rho H x v) (h : lenD st x = some n) : LenV K v H n := by
  have d := deref_rel w r
  unfold lenD at h
  split at h <;> (rename_i e; try rw [e] at d)
  · split at h
    · cases d; exact ⟨by assumption, (Option.some.inj h).symm⟩
    · cases h
  · cases d with
    | tup h1 q => exact .inr ⟨_, h1, by rw [← Option.some.inj h, q.length]⟩
  · obtain ⟨a, vs, rfl, h1, q⟩ := der_lst d
    exact .inl ⟨_, SqL.of h1, by rw [← Option.some.inj h, q.length]⟩
  · cases d with
    | fz h1 q => exact .inl ⟨_, h1.sq, by rw [← Option.some.inj h, q.length]⟩
  · cases h
/-! ### items, slices -/
theorem atI_rel {ds : List D} {vs : List V} {i : Int} {d : D} (r : RelDs K rho H ds vs) (h : atI ds i = some d) : ∃ z, atI vs i = some z ∧ RelD K rho H d z := by
  unfold atI at h ⊢
  rw [← r.length]
  cases q : ixN ds.length i with
  | none => rw [q] at h; cases h
  | some j =>
    rw [q] at h
    exact r.get (show ds[j]? = some d from h)
end
end MI
/-! MiD: built-in functions, methods, stores by values. -/
namespace MI
open PySem PySem.Spec PyProof.Rows L2

/-! ### built-in functions -/
def bLen (ds : List D) (st : Sto) : R D := match ds with
  | [d] => match lenD st d with
    | some n => .ok (.int n) st
    | none => match deref st d with
      | .dic kvs => .ok (.int kvs.length) st
      | _ => .stuck
  | _ => .stuck
def bAbs (ds : List D) (st : Sto) : R D := match ds with
  | [.int i] => .ok (.int (if i < 0 then -i else i)) st
  | _ => .stuck
/-- the ints of a list or a tuple, one at least -/
def intSeq (st : Sto) (d : D) : Option (Int × List Int) := match deref st d with
  | .lst es => (match intsOf es with | some (n :: ns) => some (n, ns) | _ => none)
  | .tup es => (match intsOf es with | some (n :: ns) => some (n, ns) | _ => none)
  | _ => none
def bMin (ds : List D) (st : Sto) : R D := match ds with
  | [.int i, .int j] => .ok (.int (if j < i then j else i)) st
  | [d] => (match intSeq st d with | some (n, ns) => .ok (.int (ns.foldl min n)) st | none => .stuck)
  | _ => .stuck
def bMax (ds : List D) (st : Sto) : R D := match ds with
  | [.int i, .int j] => .ok (.int (if j > i then j else i)) st
  | [d] => (match intSeq st d with | some (n, ns) => .ok (.int (ns.foldl max n)) st | none => .stuck)
  | _ => .stuck
theorem foldl_max_ge : ∀ (ns : List Int) (n : Int), n ≤ ns.foldl max n ∧ ∀ y ∈ ns, y ≤ ns.foldl max n
  | [], n => ⟨Int.le_refl _, fun y hy => by cases hy⟩
  | m :: ns, n => by
    obtain ⟨h1, h2⟩ := foldl_max_ge ns (max n m)
    simp only [List.foldl_cons]
    refine ⟨by omega, fun y hy => ?_⟩
    rcases List.mem_cons.mp hy with rfl | hy
    · omega
    · exact h2 y hy
theorem foldl_max_mem : ∀ (ns : List Int) (n : Int), ns.foldl max n ∈ n :: ns
  | [], n => by simp
  | m :: ns, n => by
    have := foldl_max_mem ns (max n m)
    simp only [List.foldl_cons]
    rcases List.mem_cons.mp this with e | e
    · rw [e]
      by_cases h : n ≤ m
      · simp [Int.max_eq_right h]
      · simp [Int.max_eq_left (by omega : m ≤ n)]
    · simp [e]
theorem foldl_min_le : ∀ (ns : List Int) (n : Int), ns.foldl min n ≤ n ∧ ∀ y ∈ ns, ns.foldl min n ≤ y
  | [], n => ⟨Int.le_refl _, fun y hy => by cases hy⟩
  | m :: ns, n => by
    obtain ⟨h1, h2⟩ := foldl_min_le ns (min n m)
    simp only [List.foldl_cons]
    refine ⟨by omega, fun y hy => ?_⟩
    rcases List.mem_cons.mp hy with rfl | hy
    · omega
    · exact h2 y hy
theorem foldl_min_mem : ∀ (ns : List Int) (n : Int), ns.foldl min n ∈ n :: ns
  | [], n => by simp
  | m :: ns, n => by
    have := foldl_min_mem ns (min n m)
    simp only [List.foldl_cons]
    rcases List.mem_cons.mp this with e | e
    · rw [e]
      by_cases h : n ≤ m
      · simp [Int.min_eq_left h]
      · simp [Int.min_eq_right (by omega : m ≤ n)]
    · simp [e]
theorem max_eq {n m : Int} {ns : List Int} (h1 : m ∈ n :: ns) (h2 : ∀ y ∈ n :: ns, y ≤ m) : m = ns.foldl max n := by
  have a := h2 _ (foldl_max_mem ns n)
  have b : m ≤ ns.foldl max n := by
    rcases List.mem_cons.mp h1 with rfl | h
    · exact (foldl_max_ge ns m).1
    · exact (foldl_max_ge ns n).2 m h
  omega
theorem min_eq {n m : Int} {ns : List Int} (h1 : m ∈ n :: ns) (h2 : ∀ y ∈ n :: ns, m ≤ y) : m = ns.foldl min n := by
  have a := h2 _ (foldl_min_mem ns n)
  have b : ns.foldl min n ≤ m := by
    rcases List.mem_cons.mp h1 with rfl | h
    · exact (foldl_min_le ns m).1
    · exact (foldl_min_le ns n).2 m h
  omega
def bAll (ds : List D) (st : Sto) : R D := match ds with
  | [d] => match deref st d with
    | .lst es => match boolsOf es with
      | some bs => .ok (.bl (bs.all id)) st
      | none => .stuck
    | _ => .stuck
  | _ => .stuck
def bAny (ds : List D) (st : Sto) : R D := match ds with
  | [d] => match deref st d with
    | .lst es => match boolsOf es with
      | some bs => .ok (.bl (bs.any id)) st
      | none => .stuck
    | _ => .stuck
  | _ => .stuck
def bSum (ds : List D) (st : Sto) : R D := match ds with
  | [d] => match deref st d with
    | .lst es => match intsOf es with
      | some ns => .ok (.int ns.sum) st
      | none => .stuck
    | _ => .stuck
  | _ => .stuck
def seqOf (st : Sto) (d : D) : Option (List D) := match deref st d with
  | .lst es => some es
  | .fz es => some es
  | .tup es => some es
  | _ => none
def bTuple (ds : List D) (st : Sto) : R D := match ds with
  | [d] => match seqOf st d with
    | some es => .ok (.tup es) st
    | none => .stuck
  | _ => .stuck
def bList (ds : List D) (st : Sto) : R D := match ds with
  | [d] => match seqOf st d with
    | some es => .ok (.lst es) st
    | none => .stuck
  | _ => .stuck
def bListN (ds : List D) (st : Sto) : R D := match ds with
  | [d] => match seqOf st d with
    | some es => .ok (.ref st.length) (st ++ [.lst es])
    | none => .stuck
  | _ => .stuck
def bStr (ds : List D) (st : Sto) : R D := match ds with
  | [.int i] => if i.natAbs.log2 < 1920 then .ok (.str (toString i)) st else .stuck
  | _ => .stuck
def bOrd (ds : List D) (st : Sto) : R D := match ds with
  | [.str x] => if x.length = 1 then .ok (.int (x.cps.getD 0 0 : Nat)) st else .stuck
  | _ => .stuck
def sortI (ns : List Int) : List Int := ns.mergeSort (fun a b => decide (a ≤ b))
def bSorted (ds : List D) (st : Sto) : R D := match ds with
  | [d] => match deref st d with
    | .lst es => match intsOf es with
      | some ns => .ok (.lst ((sortI ns).map .int)) st
      | none => .stuck
    | _ => .stuck
  | _ => .stuck

section
variable {K : PySem.W.Frag} {cls : Nat → Value} {W : WX} {sg : L2.St} {rho : Rho} {st : Sto} {H : Hp} {Q : VK} {ds : List D} {vs : List V}
theorem relDs1 {d : D} (r : RelDs K rho H [d] vs) : ∃ v, vs = [v] ∧ RelD K rho H d v := by
  cases r with
  | cons h t => cases t; exact ⟨_, rfl, h⟩
theorem relDs2 {d e : D} (r : RelDs K rho H [d, e] vs) : ∃ v u, vs = [v, u] ∧ RelD K rho H d v ∧ RelD K rho H e u := by
  cases r with
  | cons h t =>
    obtain ⟨u, rfl, q⟩ := relDs1 t
    exact ⟨_, _, rfl, h, q⟩
theorem intsOf_rel : ∀ {ds : List D} {vs : List V} {ns : List Int}, RelDs K rho H ds vs → intsOf ds = some ns → vs = ns.map V.int
  | _, _, _, .nil, h => by cases h; rfl
  | d :: ds, _, ns, .cons h t, e => by
    cases d <;> simp only [intsOf, Option.map_eq_some_iff, reduceCtorEq] at e
    obtain ⟨ms, e, rfl⟩ := e
    cases h
    rw [intsOf_rel t e]
    rfl
theorem boolsOf_rel : ∀ {ds : List D} {vs : List V} {ns : List Bool}, RelDs K rho H ds vs → boolsOf ds = some ns → vs = ns.map V.bl
  | _, _, _, .nil, h => by cases h; rfl
  | d :: ds, _, ns, .cons h t, e => by
    cases d <;> simp only [boolsOf, Option.map_eq_some_iff, reduceCtorEq] at e
    obtain ⟨ms, e, rfl⟩ := e
    cases h
    rw [boolsOf_rel t e]
    rfl
theorem strsOf_rel : ∀ {ds : List D} {vs : List V} {ns : List Str}, RelDs K rho H ds vs → strsOf ds = some ns → vs = ns.map V.str
  | _, _, _, .nil, h => by cases h; rfl
  | d :: ds, _, ns, .cons h t, e => by
    cases d <;> simp only [strsOf, Option.map_eq_some_iff, reduceCtorEq] at e
    obtain ⟨ms, e, rfl⟩ := e
    cases h
    rw [strsOf_rel t e]
    rfl
theorem rel_ints (ns : List Int) : RelDs K rho H (ns.map D.int) (ns.map V.int) := by
  induction ns with
  | nil => exact .nil
  | cons n ns ih => exact .cons (.int n) ih
theorem seqOf_rel {d : D} {v : V} {es : List D} (w : Wld K rho st H) (r : RelD K rho H d v) (h : seqOf st d = some es) : ∃ a vs, v = .ref a ∧ RelDs K rho H es vs ∧ (SqL K H a vs ∨ SqT K H a vs) := by
  have q := deref_rel w r
  unfold seqOf at h
  split at h <;> (try rename_i e) <;> (try rw [e] at q)
  · obtain ⟨a, vs, rfl, h1, h2⟩ := der_lst q
    cases h
    exact ⟨a, vs, rfl, h2, .inl (SqL.of h1)⟩
  · cases h
    cases q with
    | fz h1 h2 => exact ⟨_, _, rfl, h2, .inl h1.sq⟩
  · cases h
    cases q with
    | tup h1 h2 => exact ⟨_, _, rfl, h2, .inr h1⟩
  · cases h

def rLenA (K : PySem.W.Frag) : List V → Hp → VK → Prop := fun xs H Q => (∃ x n, xs = [x] ∧ LenV K x H n ∧ Q (.int n) H) ∨ (∃ a kvs, xs = [V.ref a] ∧ H a = some (.dK kvs) ∧ Q (.int kvs.length) H)
theorem CallR.or {X : Cx} {f : Value} {r r' : List V → Hp → VK → Prop} (h : CallR X f r) (h' : CallR X f r') : CallR X f (fun xs H Q => r xs H Q ∨ r' xs H Q) :=
  fun pins s sg H xs us Q I v q => q.elim (h pins s sg H xs us Q I v) (h' pins s sg H xs us Q I v)
theorem call_lenA {X : Cx} : CallR X (.builtin "len") (rLenA X.K) := CallR.or call_len call_lenD
theorem hop_len (w : Wld K rho st H) (r : RelDs K rho H ds vs) (h : OkR K cls W sg rho H (bLen ds st) (VQ K Q)) : rLenA K vs H Q := by
  unfold bLen at h
  split at h
  · replace r := relDs1 r; obtain ⟨v, rfl, r⟩ := r
    split at h
    · rename_i n e
      exact .inl ⟨v, n, rfl, lenD_some w r e, ok_here w h (.int _)⟩
    · have q := deref_rel w r
      split at h
      · rename_i e
        rw [e] at q
        obtain ⟨a, ks, rfl, h1, h2⟩ := der_dic q
        refine .inr ⟨a, ks, rfl, h1, ?_⟩
        rw [← h2.length]
        exact ok_here w h (.int _)
      · exact h.elim
  · exact h.elim
theorem hop_abs (w : Wld K rho st H) (r : RelDs K rho H ds vs) (h : OkR K cls W sg rho H (bAbs ds st) (VQ K Q)) : ∃ i, vs = [.int i] ∧ Q (.int (if i < 0 then -i else i)) H := by
  unfold bAbs at h
  split at h
  · replace r := relDs1 r; obtain ⟨v, rfl, r⟩ := r
    cases r
    exact ⟨_, rfl, ok_here w h (.int _)⟩
  · exact h.elim
theorem intSeq_rel {d : D} {v : V} {n : Int} {ns : List Int} (w : Wld K rho st H) (r : RelD K rho H d v) (h : intSeq st d = some (n, ns)) : ∃ a, v = .ref a ∧ (SqL K H a ((n :: ns).map V.int) ∨ SqT K H a ((n :: ns).map V.int)) := by
  have q := deref_rel w r
  unfold intSeq at h
  split at h
  · rename_i es e
    rw [e] at q
    obtain ⟨a, ks, rfl, h1, h2⟩ := der_lst q
    split at h
    · rename_i m ms e2
      cases h
      rw [intsOf_rel h2 e2] at h1
      exact ⟨a, rfl, .inl (SqL.of h1)⟩
    · cases h
  · rename_i es e
    rw [e] at q
    obtain ⟨a, ks, rfl, h1, h2⟩ := der_tup q
    split at h
    · rename_i m ms e2
      cases h
      rw [intsOf_rel h2 e2] at h1
      exact ⟨a, rfl, .inr h1⟩
    · cases h
  · cases h
def rMin2 : List V → Hp → VK → Prop := fun vs H Q => ∃ i j, vs = [.int i, .int j] ∧ Q (.int (if j < i then j else i)) H
def rMax2 : List V → Hp → VK → Prop := fun vs H Q => ∃ i j, vs = [.int i, .int j] ∧ Q (.int (if j > i then j else i)) H
def rMinA (K : PySem.W.Frag) : List V → Hp → VK → Prop := fun vs H Q => rMin2 vs H Q ∨ rMin K vs H Q ∨ MX.rMinT K vs H Q
def rMaxA (K : PySem.W.Frag) : List V → Hp → VK → Prop := fun vs H Q => rMax2 vs H Q ∨ rMax K vs H Q ∨ MX.rMaxT K vs H Q
theorem cr_minA {X : Cx} (hc : X.calm = true) : CallR X (.builtin "min") (rMinA X.K) := MX.CallR.or (call_min2 hc) (MX.CallR.or (cr_min hc) (MX.cr_minT hc))
theorem cr_maxA {X : Cx} (hc : X.calm = true) : CallR X (.builtin "max") (rMaxA X.K) := MX.CallR.or (call_max2 hc) (MX.CallR.or (cr_max hc) (MX.cr_maxT hc))
theorem hop_min (w : Wld K rho st H) (r : RelDs K rho H ds vs) (h : OkR K cls W sg rho H (bMin ds st) (VQ K Q)) : rMinA K vs H Q := by
  unfold bMin at h
  split at h
  · obtain ⟨v, u, rfl, r1, r2⟩ := relDs2 r
    cases r1; cases r2
    exact .inl ⟨_, _, rfl, ok_here w h (.int _)⟩
  · obtain ⟨v, rfl, r1⟩ := relDs1 r
    split at h
    · rename_i n ns e
      obtain ⟨a, rfl, q⟩ := intSeq_rel w r1 e
      rcases q with q | q
      · refine .inr (.inl ⟨a, n :: ns, rfl, q, by simp, fun m h1 h2 => ?_⟩)
        rw [min_eq h1 h2]
        exact ok_here w h (.int _)
      · refine .inr (.inr ⟨a, n :: ns, rfl, q, by simp, fun m h1 h2 => ?_⟩)
        rw [min_eq h1 h2]
        exact ok_here w h (.int _)
    · exact h.elim
  · exact h.elim
theorem hop_max (w : Wld K rho st H) (r : RelDs K rho H ds vs) (h : OkR K cls W sg rho H (bMax ds st) (VQ K Q)) : rMaxA K vs H Q := by
  unfold bMax at h
  split at h
  · obtain ⟨v, u, rfl, r1, r2⟩ := relDs2 r
    cases r1; cases r2
    exact .inl ⟨_, _, rfl, ok_here w h (.int _)⟩
  · obtain ⟨v, rfl, r1⟩ := relDs1 r
    split at h
    · rename_i n ns e
      obtain ⟨a, rfl, q⟩ := intSeq_rel w r1 e
      rcases q with q | q
      · refine .inr (.inl ⟨a, n :: ns, rfl, q, by simp, fun m h1 h2 => ?_⟩)
        rw [max_eq h1 h2]
        exact ok_here w h (.int _)
      · refine .inr (.inr ⟨a, n :: ns, rfl, q, by simp, fun m h1 h2 => ?_⟩)
        rw [max_eq h1 h2]
        exact ok_here w h (.int _)
    · exact h.elim
  · exact h.elim
theorem hop_all (w : Wld K rho st H) (r : RelDs K rho H ds vs) (h : OkR K cls W sg rho H (bAll ds st) (VQ K Q)) : rAll K vs H Q := by
  unfold bAll at h
  split at h
  · replace r := relDs1 r; obtain ⟨v, rfl, r⟩ := r
    have q := deref_rel w r
    split at h
    · rename_i e
      rw [e] at q
      obtain ⟨a, ks, rfl, h1, h2⟩ := der_lst q
      split at h
      · rename_i bs e2
        rw [boolsOf_rel h2 e2] at h1
        exact ⟨a, bs, rfl, SqL.of h1, ok_here w h (.bl _)⟩
      · exact h.elim
    · exact h.elim
  · exact h.elim
theorem hop_any (w : Wld K rho st H) (r : RelDs K rho H ds vs) (h : OkR K cls W sg rho H (bAny ds st) (VQ K Q)) : rAny K vs H Q := by
  unfold bAny at h
  split at h
  · replace r := relDs1 r; obtain ⟨v, rfl, r⟩ := r
    have q := deref_rel w r
    split at h
    · rename_i e
      rw [e] at q
      obtain ⟨a, ks, rfl, h1, h2⟩ := der_lst q
      split at h
      · rename_i bs e2
        rw [boolsOf_rel h2 e2] at h1
        exact ⟨a, bs, rfl, SqL.of h1, ok_here w h (.bl _)⟩
      · exact h.elim
    · exact h.elim
  · exact h.elim
theorem hop_sum (w : Wld K rho st H) (r : RelDs K rho H ds vs) (h : OkR K cls W sg rho H (bSum ds st) (VQ K Q)) : rSum K vs H Q := by
  unfold bSum at h
  split at h
  · replace r := relDs1 r; obtain ⟨v, rfl, r⟩ := r
    have q := deref_rel w r
    split at h
    · rename_i e
      rw [e] at q
      obtain ⟨a, ks, rfl, h1, h2⟩ := der_lst q
      split at h
      · rename_i bs e2
        rw [intsOf_rel h2 e2] at h1
        exact ⟨a, bs, rfl, SqL.of h1, ok_here w h (.int _)⟩
      · exact h.elim
    · exact h.elim
  · exact h.elim
theorem hop_tuple (w : Wld K rho st H) (r : RelDs K rho H ds vs) (h : OkR K cls W sg rho H (bTuple ds st) (VQ K Q)) : ∃ p ys, vs = [.ref p] ∧ ((SqL K H p ys ∧ ∀ l, H l = none → Q (.ref l) (upd H l (.tup ys))) ∨ (SqT K H p ys ∧ Q (.ref p) H)) := by
  unfold bTuple at h
  split at h
  · replace r := relDs1 r; obtain ⟨v, rfl, r⟩ := r
    split at h
    · rename_i es e
      obtain ⟨a, ks, rfl, h1, h2⟩ := seqOf_rel w r e
      rcases h2 with h2 | h2
      · exact ⟨a, ks, rfl, .inl ⟨h2, ok_tmp_tup w h h1⟩⟩
      · exact ⟨a, ks, rfl, .inr ⟨h2, ok_here w h (.tup h2 h1)⟩⟩
    · exact h.elim
  · exact h.elim
theorem hop_list (w : Wld K rho st H) (r : RelDs K rho H ds vs) (h : OkR K cls W sg rho H (bList ds st) (VQ K Q)) : ∃ p ys, vs = [.ref p] ∧ (SqL K H p ys ∨ SqT K H p ys) ∧ ∀ l, H l = none → Q (.ref l) (upd H l (.lst ys)) := by
  unfold bList at h
  split at h
  · replace r := relDs1 r; obtain ⟨v, rfl, r⟩ := r
    split at h
    · rename_i es e
      obtain ⟨a, ks, rfl, h1, h2⟩ := seqOf_rel w r e
      exact ⟨a, ks, rfl, h2, ok_tmp_lst w h h1⟩
    · exact h.elim
  · exact h.elim
theorem ok_new_lst {es : List D} {ks : List V} (w : Wld K rho st H) (h : OkR K cls W sg rho H (.ok (.ref st.length) (st ++ [.lst es])) (VQ K Q)) (r : RelDs K rho H es ks) : ∀ p, H p = none → Q (.ref p) (upd H p (.lst ks)) := fun p hp =>
  h (rho.add p) _ (w.extNew hp _) (w.new hp ⟨ks, upd_same, r.ext (w.extNew hp _)⟩) _ (.ref (by rw [← w.len]; simp [Rho.add]))
/-- a + b of two lists, a new list of the store -/
def opAddN (x y : D) (st : Sto) : R D := match deref st x, deref st y with
  | .lst a, .lst b => if a.length + b.length ≤ sizeLine then .ok (.ref st.length) (st ++ [.lst (a ++ b)]) else .stuck
  | _, _ => .stuck
theorem hop_addN {x y : D} {v u : V} (w : Wld K rho st H) (r1 : RelD K rho H x v) (r2 : RelD K rho H y u) (h : OkR K cls W sg rho H (opAddN x y st) (VQ K Q)) : rAddA K v u H Q := by
  have d1 := deref_rel w r1
  have d2 := deref_rel w r2
  unfold opAddN at h
  split at h
  · rename_i e1 e2
    rw [e1] at d1
    rw [e2] at d2
    obtain ⟨a, vs, rfl, h1, q1⟩ := der_lst d1
    obtain ⟨b, ws, rfl, h2, q2⟩ := der_lst d2
    split at h
    · rename_i hl
      exact .inr (.inr (.inr (.inr ⟨a, b, vs, ws, rfl, rfl, h1, h2, by rw [← q1.length, ← q2.length]; exact hl, ok_new_lst w h (q1.append q2)⟩)))
    · exact h.elim
  · exact h.elim
theorem ok_new_dic {es : List (Key × D)} {ks : List (Key × V)} (w : Wld K rho st H) (h : OkR K cls W sg rho H (.ok (.ref st.length) (st ++ [.dic es])) (VQ K Q)) (r : RelK K rho H es ks) : ∀ p, H p = none → Q (.ref p) (upd H p (.dK ks)) := fun p hp =>
  h (rho.add p) _ (w.extNew hp _) (w.new hp ⟨ks, upd_same, r.ext (w.extNew hp _)⟩) _ (.ref (by rw [← w.len]; simp [Rho.add]))
theorem hop_listN (w : Wld K rho st H) (r : RelDs K rho H ds vs) (h : OkR K cls W sg rho H (bListN ds st) (VQ K Q)) : ∃ p ys, vs = [.ref p] ∧ (SqL K H p ys ∨ SqT K H p ys) ∧ ∀ l, H l = none → Q (.ref l) (upd H l (.lst ys)) := by
  unfold bListN at h
  split at h
  · replace r := relDs1 r; obtain ⟨v, rfl, r⟩ := r
    split at h
    · rename_i es e
      obtain ⟨a, ks, rfl, h1, h2⟩ := seqOf_rel w r e
      exact ⟨a, ks, rfl, h2, ok_new_lst w h h1⟩
    · exact h.elim
  · exact h.elim
theorem hop_str (w : Wld K rho st H) (r : RelDs K rho H ds vs) (h : OkR K cls W sg rho H (bStr ds st) (VQ K Q)) : ∃ i : Int, vs = [.int i] ∧ i.natAbs.log2 < 1920 ∧ Q (.str (toString i)) H := by
  unfold bStr at h
  split at h
  · replace r := relDs1 r; obtain ⟨v, rfl, r⟩ := r
    cases r
    split at h
    · exact ⟨_, rfl, by assumption, ok_here w h (.str _)⟩
    · exact h.elim
  · exact h.elim
theorem hop_ord (w : Wld K rho st H) (r : RelDs K rho H ds vs) (h : OkR K cls W sg rho H (bOrd ds st) (VQ K Q)) : ∃ x, vs = [.str x] ∧ x.length = 1 ∧ Q (.int (x.cps.getD 0 0 : Nat)) H := by
  unfold bOrd at h
  split at h
  · replace r := relDs1 r; obtain ⟨v, rfl, r⟩ := r
    cases r
    split at h
    · exact ⟨_, rfl, by assumption, ok_here w h (.int _)⟩
    · exact h.elim
  · exact h.elim
theorem sortI_eq {ns ms : List Int} (p : ms.Perm ns) (s : ms.Pairwise (· ≤ ·)) : ms = sortI ns := by
  have h1 : (sortI ns).Pairwise (fun a b => (decide (a ≤ b)) = true) := List.pairwise_mergeSort (le := fun a b => decide (a ≤ b)) (fun a b c h1 h2 => by simp at *; omega) (fun a b => by simp; omega) ns
  have h2 : (sortI ns).Pairwise (· ≤ ·) := h1.imp fun h => by simpa using h
  exact List.Perm.eq_of_pairwise (fun a b _ _ h1 h2 => by omega) s h2 (p.trans (List.mergeSort_perm ns _).symm)
theorem hop_sorted (w : Wld K rho st H) (r : RelDs K rho H ds vs) (h : OkR K cls W sg rho H (bSorted ds st) (VQ K Q)) : rSortedI K vs H Q := by
  unfold bSorted at h
  split at h
  · replace r := relDs1 r; obtain ⟨v, rfl, r⟩ := r
    have q := deref_rel w r
    split at h
    · rename_i e
      rw [e] at q
      obtain ⟨a, ks, rfl, h1, h2⟩ := der_lst q
      split at h
      · rename_i bs e2
        rw [intsOf_rel h2 e2] at h1
        refine ⟨a, bs, rfl, SqL.of h1, fun ns' p pm sr hp => ?_⟩
        have e3 : ns' = sortI bs := sortI_eq pm sr
        subst e3
        exact ok_tmp_lst w h (rel_ints _) p hp
      · exact h.elim
    · exact h.elim
  · exact h.elim
end

/-! ### methods of lists -/
def isLst (st : Sto) (d : D) : Bool := match deref st d with
  | .lst _ => true
  | _ => false
def mAppend (d : D) (ds : List D) (st : Sto) : R D := match d, ds with
  | .ref l, [y] => match st[l]? with
    | some (.lst xs) => if xs.length < sizeLine then .ok .non (st.set l (.lst (xs ++ [y]))) else .stuck
    | _ => .stuck
  | _, _ => .stuck
def mPop (d : D) (ds : List D) (st : Sto) : R D := match d, ds with
  | .ref l, [] => match st[l]? with
    | some (.lst xs) => match xs[xs.length - 1]? with
      | some y => .ok y (st.set l (.lst xs.dropLast))
      | none => .stuck
    | _ => .stuck
  | .ref l, [.int i] => match st[l]? with
    | some (.lst xs) => if -(2 ^ 63) ≤ i ∧ i < 2 ^ 63 then (match seqIndex? i xs.length with
      | some k => (match xs[k]? with
        | some y => .ok y (st.set l (.lst (xs.eraseIdx k)))
        | none => .stuck)
      | none => .stuck) else .stuck
    | _ => .stuck
  | _, _ => .stuck
def mExtend (d : D) (ds : List D) (st : Sto) : R D := match d, ds with
  | .ref l, [y] => match st[l]?, deref st y with
    | some (.lst xs), .lst ys => if xs.length + ys.length ≤ sizeLine then .ok .non (st.set l (.lst (xs ++ ys))) else .stuck
    | some (.lst xs), .tup ys => if xs.length + ys.length ≤ sizeLine then .ok .non (st.set l (.lst (xs ++ ys))) else .stuck
    | _, _ => .stuck
  | _, _ => .stuck
def mReverse (d : D) (ds : List D) (st : Sto) : R D := match d, ds with
  | .ref l, [] => match st[l]? with
    | some (.lst xs) => .ok .non (st.set l (.lst xs.reverse))
    | _ => .stuck
  | _, _ => .stuck
/-- o.m(es), o a list -/
def mMethL (f : D → List D → Sto → R D) (o : ME) (es : List ME) : ME := fun env st => (o env st).bind fun d st => if isLst st d = true then (mArgs es env st).bind fun ds st => f d ds st else .stuck
section
variable {K : PySem.W.Frag} {cls : Nat → Value} {W : WX} {sg : L2.St} {rho : Rho} {st : Sto} {H : Hp} {Q : VK} {d : D} {v : V} {ds : List D} {vs : List V}
theorem isLst_ok (w : Wld K rho st H) (r : RelD K rho H d v) (h : isLst st d = true) : tyV K "list" v H := by
  have q := deref_rel w r
  unfold isLst at h
  split at h
  · rename_i e
    rw [e] at q
    obtain ⟨a, ks, rfl, h1, h2⟩ := der_lst q
    exact .inl ⟨rfl, _, SqL.of h1⟩
  · cases h
theorem ref_lst {l : Nat} {xs : List D} (w : Wld K rho st H) (r : RelD K rho H (.ref l) v) (e : st[l]? = some (.lst xs)) : ∃ a ks, v = .ref a ∧ rho.loc[l]? = some a ∧ H a = some (.lst ks) ∧ RelDs K rho H xs ks := by
  cases r with
  | ref h =>
    obtain ⟨ks, h1, h2⟩ := w.obj l _ _ h e
    exact ⟨_, ks, rfl, h, h1, h2⟩
theorem ref_dic {l : Nat} {xs : List (Key × D)} (w : Wld K rho st H) (r : RelD K rho H (.ref l) v) (e : st[l]? = some (.dic xs)) : ∃ a ks, v = .ref a ∧ rho.loc[l]? = some a ∧ H a = some (.dK ks) ∧ RelK K rho H xs ks := by
  cases r with
  | ref h =>
    obtain ⟨ks, h1, h2⟩ := w.obj l _ _ h e
    exact ⟨_, ks, rfl, h, h1, h2⟩
theorem ok_set_lst {l : Nat} {a : Addr} {es : List D} {ks : List V} {d : D} {v : V} (w : Wld K rho st H) (h : OkR K cls W sg rho H (.ok d (st.set l (.lst es))) (VQ K Q)) (ha : rho.loc[l]? = some a) (r : RelDs K rho H es ks) (rd : RelD K rho H d v) : Q v (upd H a (.lst ks)) :=
  h rho _ (w.extSet ha _) (w.set ha ⟨ks, upd_same, r.ext (w.extSet ha _)⟩) _ (rd.ext (w.extSet ha _))
theorem ok_set_dic {l : Nat} {a : Addr} {es : List (Key × D)} {ks : List (Key × V)} {d : D} {v : V} (w : Wld K rho st H) (h : OkR K cls W sg rho H (.ok d (st.set l (.dic es))) (VQ K Q)) (ha : rho.loc[l]? = some a) (r : RelK K rho H es ks) (rd : RelD K rho H d v) : Q v (upd H a (.dK ks)) :=
  h rho _ (w.extSet ha _) (w.set ha ⟨ks, upd_same, r.ext (w.extSet ha _)⟩) _ (rd.ext (w.extSet ha _))
theorem hop_append (w : Wld K rho st H) (r : RelD K rho H d v) (rs : RelDs K rho H ds vs) (h : OkR K cls W sg rho H (mAppend d ds st) (VQ K Q)) : rAppend v vs H Q := by
  unfold mAppend at h
  split at h
  · obtain ⟨u, rfl, ru⟩ := relDs1 rs
    split at h
    · rename_i e
      obtain ⟨a, ks, rfl, ha, h1, h2⟩ := ref_lst w r e
      split at h
      · exact ⟨a, ks, u, rfl, rfl, h1, by rw [← h2.length]; assumption, ok_set_lst w h ha (h2.append (.cons ru .nil)) .non⟩
      · exact h.elim
    · exact h.elim
  · exact h.elim
theorem relDs_eraseIdx : ∀ {ds : List D} {vs : List V} (n : Nat), RelDs K rho H ds vs → RelDs K rho H (ds.eraseIdx n) (vs.eraseIdx n)
  | _, _, _, .nil => by simp; exact .nil
  | _, _, 0, .cons _ t => by simpa using t
  | _, _, n + 1, .cons h t => by simpa using RelDs.cons h (relDs_eraseIdx n t)
theorem relDs_dropLast {ds : List D} {vs : List V} (r : RelDs K rho H ds vs) : RelDs K rho H ds.dropLast vs.dropLast := by
  rw [List.dropLast_eq_take, List.dropLast_eq_take, r.length]
  exact r.take _
theorem relDs_reverse : ∀ {ds : List D} {vs : List V}, RelDs K rho H ds vs → RelDs K rho H ds.reverse vs.reverse
  | _, _, .nil => .nil
  | _, _, .cons h t => by
    rw [List.reverse_cons, List.reverse_cons]
    exact (relDs_reverse t).append (.cons h .nil)
def rPopA : V → List V → Hp → VK → Prop := fun x xs H Q => rPop x xs H Q ∨ rPopAt x xs H Q
theorem MtM.or {X : Cx} {id : String} {r r' : V → List V → Hp → VK → Prop} (h : MtM X id r) (h' : MtM X id r') : MtR X id (fun x xs H Q => r x xs H Q ∨ r' x xs H Q) :=
  fun pins s sg H x xs v us Q I rx rs q => q.elim (h pins s sg H x xs v us Q I rx rs) (h' pins s sg H x xs v us Q I rx rs)
theorem mt_popA {X : Cx} : MtR X "list.pop" rPopA := MtM.or mt_pop mt_popAt
theorem hop_pop (w : Wld K rho st H) (r : RelD K rho H d v) (rs : RelDs K rho H ds vs) (h : OkR K cls W sg rho H (mPop d ds st) (VQ K Q)) : rPopA v vs H Q := by
  unfold mPop at h
  split at h
  · cases rs
    split at h
    · rename_i e
      obtain ⟨a, ks, rfl, ha, h1, h2⟩ := ref_lst w r e
      split at h
      · rename_i y hy
        obtain ⟨u, hu, ru⟩ := h2.get hy
        exact .inl ⟨a, ks, u, rfl, rfl, h1, by rw [← h2.length]; exact hu, ok_set_lst w h ha (relDs_dropLast h2) ru⟩
      · exact h.elim
    · exact h.elim
  · obtain ⟨u0, rfl, ru0⟩ := relDs1 rs
    cases ru0
    split at h
    · rename_i e
      obtain ⟨a, ks, rfl, ha, h1, h2⟩ := ref_lst w r e
      split at h
      · rename_i hb
        split at h
        · rename_i k hk
          split at h
          · rename_i y hy
            obtain ⟨u, hu, ru⟩ := h2.get hy
            exact .inr ⟨a, ks, _, k, u, rfl, rfl, h1, hb.1, hb.2, by rw [← h2.length]; exact hk, hu, ok_set_lst w h ha (relDs_eraseIdx k h2) ru⟩
          · exact h.elim
        · exact h.elim
      · exact h.elim
    · exact h.elim
  · exact h.elim
/-- xs.extend(t), t a tuple -/
def rExtendT (K : PySem.W.Frag) : V → List V → Hp → VK → Prop := fun x vs H Q => ∃ l b xs zs, x = .ref l ∧ vs = [.ref b] ∧ H l = some (.lst xs) ∧ SqT K H b zs ∧ xs.length + zs.length ≤ sizeLine ∧ Q .non (upd H l (.lst (xs ++ zs)))
theorem mt_extendT {X : Cx} : MtM X "list.extend" (rExtendT X.K) := by
  intro pins s σ H x vs v us Q I rx rv h
  obtain ⟨l, b, xs, zs, rfl, rfl, hH, hB, hz, q⟩ := h
  cases rx
  obtain ⟨u, rfl, ru⟩ := rv.one
  cases ru
  obtain ⟨z, its, n, r, hl, e⟩ := I.lstM hH
  obtain ⟨its2, r2, ⟨o2, e2, hc2, n2, hd2⟩, z2⟩ := I.tuple hB
  have hl2 := r2.length
  have hsz : its.toArray.size + its2.toArray.size ≤ sizeLine := by rw [List.size_toArray, List.size_toArray]; omega
  have hlong : (!its.toArray.isEmpty && Builtin.List.listTooLong (its.toArray.size + its2.toArray.size)) = false := by
    rw [notLongL hsz, Bool.and_false]
  refine wpAny_call_entry PySem.F.slot_list_extend ⟨_, e, rfl⟩ PySem.F.entry_list_extend ?_ (PySem.F.args_list_extend_2 _ _)
  unfold Builtin.«list.extend»
  refine wpAny_bind (wpAny_pure ?_)
  show wpAny _ _ (Builtin.List.listExtendWith (.ref l) (.ref b) .none) _ _ s
  unfold Builtin.List.listExtendWith
  refine wpAny_bind (wpAny_typeOf ⟨o2, e2, hc2⟩ ?_)
  have h1 : (Builtin.List.listSameRef (.ref l) (.ref b) || Value.type "tuple" == Value.type "list" || Value.type "tuple" == Value.type "tuple") = true := by simp
  simp only [h1, if_true]
  refine wpAny_bind (PyProof.Rows.listItems_at e2 hd2 ?_)
  refine wpAny_bind (PyProof.Rows.listItems_at e rfl ?_)
  simp only [hlong, Bool.false_eq_true, if_false]
  refine wpAny_bind (PyProof.Rows.listUpdate_at e rfl ?_ (by rw [List.size_toArray]; omega) (by rw [Array.size_append]; omega))
  refine wpAny_pure ⟨_, rfl, ?_⟩
  refine ⟨.non, _, I.lset (its' := its ++ its2) hH e (by simp) (r.append r2) ?_, rfl, q⟩
  rw [List.length_append]
  omega
def rExtendA (K : PySem.W.Frag) : V → List V → Hp → VK → Prop := fun x vs H Q => rExtend x vs H Q ∨ rExtendT K x vs H Q
theorem mt_extendA {X : Cx} : MtR X "list.extend" (rExtendA X.K) := MtM.or mt_extend mt_extendT
theorem hop_extend (w : Wld K rho st H) (r : RelD K rho H d v) (rs : RelDs K rho H ds vs) (h : OkR K cls W sg rho H (mExtend d ds st) (VQ K Q)) : rExtendA K v vs H Q := by
  unfold mExtend at h
  split at h
  · obtain ⟨u, rfl, ru⟩ := relDs1 rs
    have q := deref_rel w ru
    split at h
    · rename_i e1 e2
      rw [e2] at q
      obtain ⟨b, ls, rfl, h3, h4⟩ := der_lst q
      obtain ⟨a, ks, rfl, ha, h1, h2⟩ := ref_lst w r e1
      split at h
      · exact .inl ⟨a, b, ks, ls, rfl, rfl, h1, h3, by rw [← h2.length, ← h4.length]; assumption, ok_set_lst w h ha (h2.append h4) .non⟩
      · exact h.elim
    · rename_i e1 e2
      rw [e2] at q
      obtain ⟨b, ls, rfl, h3, h4⟩ := der_tup q
      obtain ⟨a, ks, rfl, ha, h1, h2⟩ := ref_lst w r e1
      split at h
      · exact .inr ⟨a, b, ks, ls, rfl, rfl, h1, h3, by rw [← h2.length, ← h4.length]; assumption, ok_set_lst w h ha (h2.append h4) .non⟩
      · exact h.elim
    · exact h.elim
  · exact h.elim
theorem hop_reverse (w : Wld K rho st H) (r : RelD K rho H d v) (rs : RelDs K rho H ds vs) (h : OkR K cls W sg rho H (mReverse d ds st) (VQ K Q)) : rReverse v vs H Q := by
  unfold mReverse at h
  split at h
  · cases rs
    split at h
    · rename_i e
      obtain ⟨a, ks, rfl, ha, h1, h2⟩ := ref_lst w r e
      exact ⟨a, ks, rfl, rfl, h1, ok_set_lst w h ha (relDs_reverse h2) .non⟩
    · exact h.elim
  · exact h.elim
end
end MI
/-! MiE: the constructs. -/
namespace MI
open PySem PySem.Spec PyProof.Rows L2

/-- not a starred one, not a comprehension -/
def plainE : Expr → Bool
  | .Starred .. => false
  | _ => true
def noComp : Expr → Bool
  | .ListComp .. => false
  | .SetComp .. => false
  | .DictComp .. => false
  | _ => true
def noSlice : Expr → Bool
  | .Slice .. => false
  | _ => true
def noSet : Expr → Bool
  | .Set .. => false
  | _ => true
def noTuple : Expr → Bool
  | .Tuple .. => false
  | _ => true
theorem star_plain {e : Expr} {es : List Expr} {env : Env} (h : plainE e = true) : starEach (e :: es) env = (false, eval e env) :: starEach es env := by
  cases e <;> first | rfl | cases h
theorem star_any : ∀ {es : List Expr} {env : Env} {pos : Pos}, es.all plainE = true → (backTo pos (starEach es env)).any (·.1) = false
  | [], _, _, _ => rfl
  | e :: es, env, pos, h => by
    simp only [List.all_cons, Bool.and_eq_true] at h
    have ih := star_any (env := env) (pos := pos) h.2
    unfold backTo at ih ⊢
    rw [star_plain h.1]
    simp only [List.any_map, List.map_cons, List.any_cons] at ih ⊢
    simpa using ih
theorem swaps_no {e : Expr} {t : Option Expr} {l : Nat} {env : Env} (h : noComp e = true) : swapsWith e t l env = pure false := by
  cases e <;> first | rfl | cases h

section
variable {X : Cx} {cls : Nat → Value} {W : WX} {pos : Pos} {a b c e : Expr} {ma mb mc m : ME}

theorem tE_bin {K : PySem.W.Frag} {r : R2} {f : D → D → Sto → R D} (hop : ∀ {sg : L2.St} {rho : Rho} {st : Sto} {H : Hp} {Q : VK} {x y : D} {v u : V}, Wld K rho st H → RelD K rho H x v → RelD K rho H y u → OkR K cls W sg rho H (f x y st) (VQ K Q) → r v u H Q)
    {sg : L2.St} {H : Hp} {Q : VK} (h : tE K cls W (mBin f ma mb) sg H Q) : tOp r (tE K cls W ma) (tE K cls W mb) sg H Q := by
  obtain ⟨rho, env, st, w, re, h⟩ := h
  refine ⟨rho, env, st, w, re, OkR.mono (OkR.bind h) fun d1 st1 rho1 H1 e1 w1 h1 v1 rv1 => ?_⟩
  exact ⟨rho1, env, st1, w1, re.ext e1, OkR.mono (OkR.bind h1) fun d2 st2 rho2 H2 e2 w2 h2 v2 rv2 => hop w2 (rv1.ext e2) rv2 h2⟩
theorem pe_binM {op : Operator} {r : R2} {f : D → D → Sto → R D} (ho : OpR X (binaryOp op) r) (hop : ∀ {sg : L2.St} {rho : Rho} {st : Sto} {H : Hp} {Q : VK} {x y : D} {v u : V}, Wld X.K rho st H → RelD X.K rho H x v → RelD X.K rho H y u → OkR X.K cls W sg rho H (f x y st) (VQ X.K Q) → r v u H Q)
    (ha : PE X a (tE X.K cls W ma)) (hb : PE X b (tE X.K cls W mb)) : PE X (.BinOp a op b pos) (tE X.K cls W (mBin f ma mb)) := PE.weak (pe_op ho ha hb) fun _ _ _ h => tE_bin hop h
theorem pe_cmpM {op : CmpOp} {r : R2} {f : D → D → Sto → R D} (ho : OpR X (compareOp op) r) (hop : ∀ {sg : L2.St} {rho : Rho} {st : Sto} {H : Hp} {Q : VK} {x y : D} {v u : V}, Wld X.K rho st H → RelD X.K rho H x v → RelD X.K rho H y u → OkR X.K cls W sg rho H (f x y st) (VQ X.K Q) → r v u H Q)
    (hm : behindInMarks op b = false) (ha : PE X a (tE X.K cls W ma)) (hb : PE X b (tE X.K cls W mb)) : PE X (.Compare a [op] [b] pos) (tE X.K cls W (mBin f ma mb)) := PE.weak (pe_cmpR ho ha hb hm) fun _ _ _ h => tE_bin hop h
/-- the test of a comparison -/
theorem tT_of {K : PySem.W.Frag} {t : TE} {sg : L2.St} {H : Hp} {Q : Bool → Hp → Prop} (hb : ∀ env st d st', m env st = .ok d st' → ∃ k, d = .bl k) (f : ∀ {Q : VK}, tE K cls W m sg H Q → t sg H Q) (h : tTm K cls W m sg H Q) : tTest t sg H Q := by
  obtain ⟨rho, env, st, w, re, h⟩ := h
  refine f ⟨rho, env, st, w, re, ?_⟩
  unfold mT at h
  have hb' := hb env st
  cases q : m env st with
  | ok d st' =>
    obtain ⟨k, rfl⟩ := hb' d st' q
    rw [q] at h
    intro rho' H' e' w' v rv
    cases rv
    exact ⟨k, rfl, h rho' H' e' w'⟩
  | exc c' st' => rw [q] at h; exact h
  | stuck => rw [q] at h; exact h
theorem pt_cmpM {op : CmpOp} {r : R2} {f : D → D → Sto → R D} (ho : OpR X (compareOp op) r) (hop : ∀ {sg : L2.St} {rho : Rho} {st : Sto} {H : Hp} {Q : VK} {x y : D} {v u : V}, Wld X.K rho st H → RelD X.K rho H x v → RelD X.K rho H y u → OkR X.K cls W sg rho H (f x y st) (VQ X.K Q) → r v u H Q)
    (hf : ∀ x y st d st', f x y st = .ok d st' → ∃ k, d = .bl k) (hm : behindInMarks op b = false) (ha : PE X a (tE X.K cls W ma)) (hb : PE X b (tE X.K cls W mb)) : PT X (.Compare a [op] [b] pos) (tTm X.K cls W (mBin f ma mb)) := by
  refine PT.weak (pt_cmpR ho ha hb hm) fun sg H Q h => tT_of (m := mBin f ma mb) (fun env st d st' q => ?_) (fun h => tE_bin hop h) h
  unfold mBin at q
  cases q1 : ma env st with
  | ok d1 st1 =>
    rw [q1] at q
    simp only [R.bind_ok] at q
    cases q2 : mb env st1 with
    | ok d2 st2 => rw [q2] at q; exact hf _ _ _ _ _ q
    | exc c' st' => rw [q2] at q; cases q
    | stuck => rw [q2] at q; cases q
  | exc c' st' => rw [q1] at q; cases q
  | stuck => rw [q1] at q; cases q
/-- the test of any other expression -/
theorem pt_any (h : PE X e (tE X.K cls W m)) (he : ∀ whole, isTrue e X.env whole = (do let v ← whole; standAt e.pos; holding [v] (truthy v))) : PT X e (tTm X.K cls W m) := by
  refine PT.weak (pt_truth h he) fun sg H Q hq => ?_
  obtain ⟨rho, env, st, w, re, hq⟩ := hq
  refine ⟨rho, env, st, w, re, OkR.mono (OkR.bind hq) fun d st1 rho1 H1 e1 w1 h1 v rv => ?_⟩
  split at h1
  · rename_i k ek
    exact ⟨k, truth_some w1 rv ek, OkR.ok h1 w1⟩
  · exact h1.elim
/-! ### names, constants -/
theorem pe_varM {i : Nat} {x : Str} (hN : X.N[i]? = some x) (hv : Vis X.env.scope x) (hd : (x == ("__debug__" : Str)) = false) (hcd : (x == ("__classdict__" : Str)) = false) : PE X (.Name x pos) (tE X.K cls W (mVar i)) := by
  refine PE.weak (pe_var hN hv hd hcd) fun sg H Q h => ?_
  obtain ⟨rho, env, st, w, re, h⟩ := h
  unfold mVar at h
  split at h
  · rename_i d hd
    obtain ⟨v, h1, h2⟩ := re.at_ i d hd
    exact ⟨v, h1, ok_here w h h2⟩
  · exact h.elim
theorem tE_const {K : PySem.W.Frag} {d : D} {v : V} (r : ∀ rho H, RelD K rho H d v) {sg : L2.St} {H : Hp} {Q : VK} (h : tE K cls W (mC d) sg H Q) : tC v sg H Q := by
  obtain ⟨rho, env, st, w, re, h⟩ := h
  exact ok_here w h (r rho H)
theorem pe_globM {x : Str} {d : D} {v : V} {u : Value} (hg : Gl X x) (hm : X.mg x = some u) (rv : RelV v u) (r : ∀ rho H, RelD X.K rho H d v) (hd : (x == ("__debug__" : Str)) = false) : PE X (.Name x pos) (tE X.K cls W (mC d)) :=
  PE.weak (pe_glob hg hm rv hd) fun _ _ _ h => tE_const r h
/-! ### and, or, not, - -/
theorem pe_negM (ha : PE X a (tE X.K cls W ma)) : PE X (.UnaryOp .USub a pos) (tE X.K cls W (mNeg ma)) := by
  refine PE.weak (pe_un un_neg ha) fun sg H Q h => ?_
  obtain ⟨rho, env, st, w, re, h⟩ := h
  refine ⟨rho, env, st, w, re, OkR.mono (OkR.bind h) fun d st1 rho1 H1 e1 w1 h1 v rv => ?_⟩
  split at h1
  · cases rv
    exact ⟨_, rfl, ok_here w1 h1 (.int _)⟩
  · exact h1.elim
theorem pe_notM (ha : PE X a (tE X.K cls W ma)) : PE X (.UnaryOp .Not a pos) (tE X.K cls W (mNot ma)) := by
  refine PE.weak (pe_not ha) fun sg H Q h => ?_
  obtain ⟨rho, env, st, w, re, h⟩ := h
  refine ⟨rho, env, st, w, re, OkR.mono (OkR.bind h) fun d st1 rho1 H1 e1 w1 h1 v rv => ?_⟩
  split at h1
  · cases rv
    exact ⟨_, rfl, ok_here w1 h1 (.bl _)⟩
  · exact h1.elim
theorem pt_notM (ha : PT X a (tTm X.K cls W ma)) : PT X (.UnaryOp .Not a pos) (tTm X.K cls W (mNot ma)) := by
  refine PT.weak (pt_not ha) fun sg H Q h => ?_
  obtain ⟨rho, env, st, w, re, h⟩ := h
  refine ⟨rho, env, st, w, re, ?_⟩
  unfold mT mNot at h
  unfold mT
  cases q : ma env st with
  | ok d st' =>
    rw [q] at h
    cases d with
    | bl k => exact h
    | _ => exact h.elim
  | exc c' st' => rw [q] at h; exact h
  | stuck => rw [q] at h; exact h
theorem pe_andM {rest : List Expr} (ha : PE X a (tE X.K cls W ma)) (hb : PE X (.BoolOp .And (b :: rest) pos) (tE X.K cls W mb)) : PE X (.BoolOp .And (a :: b :: rest) pos) (tE X.K cls W (mAnd ma mb)) := by
  refine PE.weak (pe_and ha hb) fun sg H Q h => ?_
  obtain ⟨rho, env, st, w, re, h⟩ := h
  refine ⟨rho, env, st, w, re, OkR.mono (OkR.bind h) fun d st1 rho1 H1 e1 w1 h1 v rv => ?_⟩
  split at h1
  · cases rv
    exact ⟨true, rfl, by rw [if_pos rfl]; exact ⟨rho1, env, st1, w1, re.ext e1, h1⟩⟩
  · cases rv
    exact ⟨false, rfl, by rw [if_neg (by simp)]; exact ok_here w1 h1 (.bl _)⟩
  · exact h1.elim
theorem pe_orM {rest : List Expr} (ha : PE X a (tE X.K cls W ma)) (hb : PE X (.BoolOp .Or (b :: rest) pos) (tE X.K cls W mb)) : PE X (.BoolOp .Or (a :: b :: rest) pos) (tE X.K cls W (mOr ma mb)) := by
  refine PE.weak (pe_or ha hb) fun sg H Q h => ?_
  obtain ⟨rho, env, st, w, re, h⟩ := h
  refine ⟨rho, env, st, w, re, OkR.mono (OkR.bind h) fun d st1 rho1 H1 e1 w1 h1 v rv => ?_⟩
  split at h1
  · cases rv
    exact ⟨true, rfl, by rw [if_pos rfl]; exact ok_here w1 h1 (.bl _)⟩
  · cases rv
    exact ⟨false, rfl, by rw [if_neg (by simp)]; exact ⟨rho1, env, st1, w1, re.ext e1, h1⟩⟩
  · exact h1.elim
/-- a bool is handed on -/
theorem mT_bool {r : R D} {K : PySem.W.Frag} {sg : L2.St} {rho : Rho} {H : Hp} {f : D → Sto → R D} {P : Bool → Sto → Rho → Hp → Prop}
    (h : OkR K cls W sg rho H ((r.bind f).bind fun x st => match truth st x with | some b => R.ok b st | none => R.stuck) P)
    (hf : ∀ d st k, (∀ b, d ≠ .bl b) → f d st ≠ .ok k st → True) : OkR K cls W sg rho H (r.bind fun d st => (f d st).bind fun x st => match truth st x with | some b => R.ok b st | none => R.stuck) P := by
  cases r <;> exact h
theorem pw_andM {rest : List Expr} (ha : PT X a (tTm X.K cls W ma)) (hb : PW X (.BoolOp .And (b :: rest) pos) (tTm X.K cls W mb)) : PW X (.BoolOp .And (a :: b :: rest) pos) (tTm X.K cls W (mAnd ma mb)) := by
  refine PW.weak (pw_and ha hb) fun sg H Q h => ?_
  obtain ⟨rho, env, st, w, re, h⟩ := h
  refine ⟨rho, env, st, w, re, ?_⟩
  unfold mT mAnd at h
  unfold mT
  cases q : ma env st with
  | ok d st' =>
    rw [q] at h
    cases d with
    | bl k =>
      intro rho1 H1 e1 w1
      cases k with
      | true => rw [if_pos rfl]; exact ⟨rho1, env, st', w1, re.ext e1, OkR.from h e1⟩
      | false => rw [if_neg (by simp)]; exact h rho1 H1 e1 w1
    | _ => exact h.elim
  | exc c' st' => rw [q] at h; exact h
  | stuck => rw [q] at h; exact h
theorem pw_orM {rest : List Expr} (ha : PT X a (tTm X.K cls W ma)) (hb : PW X (.BoolOp .Or (b :: rest) pos) (tTm X.K cls W mb)) : PW X (.BoolOp .Or (a :: b :: rest) pos) (tTm X.K cls W (mOr ma mb)) := by
  refine PW.weak (pw_or ha hb) fun sg H Q h => ?_
  obtain ⟨rho, env, st, w, re, h⟩ := h
  refine ⟨rho, env, st, w, re, ?_⟩
  unfold mT mOr at h
  unfold mT
  cases q : ma env st with
  | ok d st' =>
    rw [q] at h
    cases d with
    | bl k =>
      intro rho1 H1 e1 w1
      cases k with
      | true => rw [if_pos rfl]; exact h rho1 H1 e1 w1
      | false => rw [if_neg (by simp)]; exact ⟨rho1, env, st', w1, re.ext e1, OkR.from h e1⟩
    | _ => exact h.elim
  | exc c' st' => rw [q] at h; exact h
  | stuck => rw [q] at h; exact h
theorem pe_ifM (hc : PT X c (tTm X.K cls W mc)) (ha : PE X a (tE X.K cls W ma)) (hb : PE X b (tE X.K cls W mb)) : PE X (.IfExp c a b pos) (tE X.K cls W (mIfE mc ma mb)) := by
  refine PE.weak (pe_ifExp hc ha hb) fun sg H Q h => ?_
  obtain ⟨rho, env, st, w, re, h⟩ := h
  refine ⟨rho, env, st, w, re, OkR.mono (OkR.bind h) fun k st1 rho1 H1 e1 w1 h1 => ?_⟩
  cases k with
  | true => rw [if_pos rfl] at h1 ⊢; exact ⟨rho1, env, st1, w1, re.ext e1, h1⟩
  | false => rw [if_neg (by simp)] at h1 ⊢; exact ⟨rho1, env, st1, w1, re.ext e1, h1⟩
/-! ### arguments, displays, calls -/
theorem pa_nilM : PA X [] (tAm X.K cls W []) := PA.weak pa_nil fun sg H Q h => by
  obtain ⟨rho, env, st, w, re, h⟩ := h
  exact h rho H (Ext.refl rho H) w [] .nil
theorem pa_consM {es : List Expr} {ms : List ME} (hp : plainE e = true) (he : PE X e (tE X.K cls W m)) (hs : PA X es (tAm X.K cls W ms)) : PA X (e :: es) (tAm X.K cls W (m :: ms)) := by
  refine PA.weak (pa_cons he hs (star_plain hp)) fun sg H Q h => ?_
  obtain ⟨rho, env, st, w, re, h⟩ := h
  refine ⟨rho, env, st, w, re, OkR.mono (OkR.bind h) fun d st1 rho1 H1 e1 w1 h1 v rv => ?_⟩
  refine ⟨rho1, env, st1, w1, re.ext e1, OkR.mono (OkR.bind h1) fun ds st2 rho2 H2 e2 w2 h2 vs rvs => ?_⟩
  exact OkR.ok h2 w2 (v :: vs) (.cons (rv.ext e2) rvs)
theorem pe_tupM {es : List Expr} {ms : List ME} {x1 : Nat} (h : PA X es (tAm X.K cls W ms)) : PE X (.Tuple es x1 pos) (tE X.K cls W (mTup ms)) := by
  refine PE.weak (pe_tup h) fun sg H Q h => ?_
  obtain ⟨rho, env, st, w, re, h⟩ := h
  refine ⟨rho, env, st, w, re, OkR.mono (OkR.bind h) fun ds st1 rho1 H1 e1 w1 h1 vs rvs => ?_⟩
  split at h1
  · exact ⟨by rw [← rvs.length]; assumption, ok_tmp_tup w1 h1 rvs⟩
  · exact h1.elim
theorem pe_lstM {es : List Expr} {ms : List ME} (h : PA X es (tAm X.K cls W ms)) : PE X (.List es pos) (tE X.K cls W (mLst ms)) := by
  refine PE.weak (pe_lst h) fun sg H Q h => ?_
  obtain ⟨rho, env, st, w, re, h⟩ := h
  refine ⟨rho, env, st, w, re, OkR.mono (OkR.bind h) fun ds st1 rho1 H1 e1 w1 h1 vs rvs => ?_⟩
  split at h1
  · exact ⟨by rw [← rvs.length]; assumption, ok_tmp_lst w1 h1 rvs⟩
  · exact h1.elim
theorem pe_newM {es : List Expr} {ms : List ME} (h : PA X es (tAm X.K cls W ms)) : PE X (.List es pos) (tE X.K cls W (mNew ms)) := by
  refine PE.weak (pe_lst h) fun sg H Q h => ?_
  obtain ⟨rho, env, st, w, re, h⟩ := h
  refine ⟨rho, env, st, w, re, OkR.mono (OkR.bind h) fun ds st1 rho1 H1 e1 w1 h1 vs rvs => ?_⟩
  split at h1
  · exact ⟨by rw [← rvs.length]; assumption, ok_new_lst w1 h1 rvs⟩
  · exact h1.elim
theorem pe_dic0M : PE X (.Dict [] [] pos) (tE X.K cls W (mC (.dic []))) := by
  refine PE.weak pe_dnewK fun sg H Q h => ?_
  obtain ⟨rho, env, st, w, re, h⟩ := h
  exact fun p hp => h rho _ (w.extTmp hp _) (w.tmp hp _) _ (.dic upd_same (w.fresh hp) .nil)
def mNewD : ME := fun _ st => .ok (.ref st.length) (st ++ [.dic []])
theorem pe_newDM : PE X (.Dict [] [] pos) (tE X.K cls W mNewD) := by
  refine PE.weak pe_dnewK fun sg H Q h => ?_
  obtain ⟨rho, env, st, w, re, h⟩ := h
  exact ok_new_dic w h .nil
theorem tE_call {K : PySem.W.Frag} {f : List D → Sto → R D} {ms : List ME} {r : List V → Hp → VK → Prop} (hop : ∀ {sg : L2.St} {rho : Rho} {st : Sto} {H : Hp} {Q : VK} {ds : List D} {vs : List V}, Wld K rho st H → RelDs K rho H ds vs → OkR K cls W sg rho H (f ds st) (VQ K Q) → r vs H Q)
    {sg : L2.St} {H : Hp} {Q : VK} (h : tE K cls W (mCall f ms) sg H Q) : tCB r (tAm K cls W ms) sg H Q := by
  obtain ⟨rho, env, st, w, re, h⟩ := h
  exact ⟨rho, env, st, w, re, OkR.mono (OkR.bind h) fun ds st1 rho1 H1 e1 w1 h1 vs rvs => hop w1 rvs h1⟩
theorem pe_callBM {es : List Expr} {ms : List ME} {x : Str} {p : Pos} {id : String} {f : List D → Sto → R D} {r : List V → Hp → VK → Prop} (hc : CallR X (.builtin id) r)
    (hop : ∀ {sg : L2.St} {rho : Rho} {st : Sto} {H : Hp} {Q : VK} {ds : List D} {vs : List V}, Wld X.K rho st H → RelDs X.K rho H ds vs → OkR X.K cls W sg rho H (f ds st) (VQ X.K Q) → r vs H Q)
    (hg : Gl X x) (hm : X.mg x = none) (hv : bootBuiltins x = some (.builtin id)) (hn : x ≠ "__name__") (hdb : (x == ("__debug__" : Str)) = false) (hp : (e :: es).all plainE = true) (ha : PA X (e :: es) (tAm X.K cls W ms)) : PE X (.Call (.Name x p) (e :: es) [] pos) (tE X.K cls W (mCall f ms)) := by
  simp only [List.all_cons, Bool.and_eq_true] at hp
  exact PE.weak (pe_callB hc hg hm hv ha hn hdb (star_plain hp.1) (star_any hp.2)) fun _ _ _ h => tE_call hop h
theorem pe_callTyM {es : List Expr} {ms : List ME} {x : Str} {p : Pos} {T : String} {f : List D → Sto → R D} {r : List V → Hp → VK → Prop} (hc : CallR X (.type T) r)
    (hop : ∀ {sg : L2.St} {rho : Rho} {st : Sto} {H : Hp} {Q : VK} {ds : List D} {vs : List V}, Wld X.K rho st H → RelDs X.K rho H ds vs → OkR X.K cls W sg rho H (f ds st) (VQ X.K Q) → r vs H Q)
    (hg : Gl X x) (hm : X.mg x = none) (hv : bootBuiltins x = some (.type T)) (hn : x ≠ "__name__") (hdb : (x == ("__debug__" : Str)) = false) (hp : (e :: es).all plainE = true) (ha : PA X (e :: es) (tAm X.K cls W ms)) : PE X (.Call (.Name x p) (e :: es) [] pos) (tE X.K cls W (mCall f ms)) := by
  simp only [List.all_cons, Bool.and_eq_true] at hp
  exact PE.weak (pe_callTy hc hg hm hv ha hn hdb (star_plain hp.1) (star_any hp.2)) fun _ _ _ h => tE_call hop h
theorem pe_isiM {T : String} {t : Str} {p p2 : Pos} (hp : plainE e = true) (he : PE X e (tE X.K cls W m)) (hg : Gl X "isinstance") (hm : X.mg "isinstance" = none) (hg2 : Gl X t) (hm2 : X.mg t = none) (hv : bootBuiltins t = some (.type T)) (hn : t ≠ "__name__") (hdb : (t == ("__debug__" : Str)) = false) :
    PE X (.Call (.Name "isinstance" p) [e, .Name t p2] [] pos) (tE X.K cls W (mIsI T m)) := by
  have h2 : PE X (.Name t p2) (tC (.ty T)) := pe_bltn hg2 hm2 hv rfl hn hdb
  have ha : PA X [e, .Name t p2] (tCons (tE X.K cls W m) (tCons (tC (.ty T)) tNil)) := pa_cons he (pa_cons h2 pa_nil) (star_plain hp)
  refine PE.weak (pe_callB call_isi hg hm boot_isinstance ha (by decide) (by decide) (star_plain hp) rfl) fun sg H Q h => ?_
  obtain ⟨rho, env, st, w, re, h⟩ := h
  exact ⟨rho, env, st, w, re, OkR.mono (OkR.bind h) fun d st1 rho1 H1 e1 w1 h1 v rv => isInst_ok w1 rv h1⟩
/-! ### items and slices -/
theorem plainIx {b : Expr} (h : noSlice b = true) : PlainIx b := fun o i => by
  cases b <;> first | rfl | cases h
theorem kvGet_none {K : PySem.W.Frag} {rho : Rho} {H : Hp} : ∀ {ds : List (Key × D)} {vs : List (Key × V)} {k : Key}, RelK K rho H ds vs → kvGet ds k = none → valV vs k = none
  | _, _, _, .nil, h => rfl
  | (k', d') :: ds, (_, v') :: vs, k, .cons r t, h => by
    unfold kvGet valV at *
    simp only [List.find?_cons] at h ⊢
    by_cases e : k' = k
    · simp only [e, decide_true, Option.map_some, reduceCtorEq] at h
    · simp only [e, decide_false] at h ⊢
      exact kvGet_none t h
theorem keyOf_rel {K : PySem.W.Frag} {rho : Rho} {H : Hp} {d : D} {v : V} {k : Key} (r : RelD K rho H d v) (h : keyOf d = some k) : v = kV k := by
  cases r <;> simp only [keyOf, Option.some.injEq, reduceCtorEq] at h <;> (subst h; rfl)
def rIxA (K : PySem.W.Frag) : R2 := fun x y H Q => rIx K x y H Q ∨ ∃ a v, x = .ref a ∧ DGet H a y (some v) ∧ Q v H
theorem hop_ix {K : PySem.W.Frag} {sg : L2.St} {rho : Rho} {st : Sto} {H : Hp} {Q : VK} {x y : D} {v u : V} (w : Wld K rho st H) (r1 : RelD K rho H x v) (r2 : RelD K rho H y u) (h : OkR K cls W sg rho H (opIx x y st) (VQ K Q)) :
    rIxA K v u H Q := by
  have q := deref_rel w r1
  unfold opIx at h
  split at h <;> (rename_i e1; try rw [e1] at q)
  · cases q; cases r2
    split at h
    · split at h
      · rename_i c hc
        exact .inl (.inr (.inr ⟨_, _, c, rfl, rfl, by assumption, hc, ok_here w h (.str _)⟩))
      · exact h.elim
    · exact h.elim
  · cases r2
    cases q with
    | tup h1 h2 =>
      split at h
      · rename_i d hd
        obtain ⟨z, hz, rz⟩ := atI_rel h2 hd
        exact .inl (.inr (.inl ⟨_, _, _, z, rfl, rfl, h1, hz, ok_here w h rz⟩))
      · exact h.elim
  · cases r2
    obtain ⟨a, ks, rfl, h1, h2⟩ := der_lst q
    split at h
    · rename_i d hd
      obtain ⟨z, hz, rz⟩ := atI_rel h2 hd
      exact .inl (.inl ⟨_, _, _, z, rfl, rfl, SqL.of h1, hz, ok_here w h rz⟩)
    · exact h.elim
  · cases r2
    cases q with
    | fz h1 h2 =>
      split at h
      · rename_i d hd
        obtain ⟨z, hz, rz⟩ := atI_rel h2 hd
        exact .inl (.inl ⟨_, _, _, z, rfl, rfl, h1.sq, hz, ok_here w h rz⟩)
      · exact h.elim
  · obtain ⟨a, ks, rfl, h1, h2⟩ := der_dic q
    split at h
    · rename_i d hd
      obtain ⟨k, hk, hg⟩ := Option.bind_eq_some_iff.mp hd
      obtain ⟨z, hz, rz⟩ := kvGet_rel h2 hg
      refine .inr ⟨a, z, rfl, ?_, ok_here w h rz⟩
      rw [keyOf_rel r2 hk, ← hz]
      exact DGet.k h1
    · exact h.elim
  · exact h.elim
/-- x[i] by its value: which of the two it is shows at the object -/
theorem pe_ixM (hu : X.A.units + 1 < cLine) (hs : noSlice b = true) (ha : PE X a (tE X.K cls W ma)) (hb : PE X b (tE X.K cls W mb)) : PE X (.Subscript a b pos) (tE X.K cls W (mBin opIx ma mb)) := by
  refine ⟨fun pins s sg H Q I h => ?_⟩
  have h' := tE_bin (K := X.K) (r := rIxA X.K) (fun {sg rho st H Q x y v u} => hop_ix) h
  refine Subscript_ (binT ha hb I h' fun v u s2 x y H2 I2 rx ry q => ?_)
  rcases q with q | ⟨ad, z, rfl, g, q⟩
  · exact ix_seq a b pins s2 sg H2 x y v u Q I2 rx ry q (plainIx hs v u)
  · cases rx
    have hti := dict_typeIs I2 g
    exact tail_any hti PySem.F.slot_dict_getitem.lookup (d_getItem hu I2 g ry fun w' s' I' r' => ⟨z, H2, I', r', q⟩) (plainIx hs _ _)
end
end MI
/-! MiF: in, slices, methods, calls of defs, what is walked, comprehensions. -/
namespace MI
open PySem PySem.Spec PyProof.Rows L2
def noCall : Expr → Bool
  | .Call .. => false
  | _ => true
theorem base_ok {o : Expr} {n : Str} {env : Env} {wh : Sem Value} (h : noCall o = true) : attributeBase o n env wh = wh := by
  cases o <;> first | rfl | cases h
theorem star_all : ∀ {es : List Expr} {env : Env} {pos : Pos}, es.all plainE = true → (backTo pos (starEach es env)).all (fun x => !x.1) = true
  | [], _, _, _ => rfl
  | e :: es, env, pos, h => by
    simp only [List.all_cons, Bool.and_eq_true] at h
    have ih := star_all (env := env) (pos := pos) h.2
    unfold backTo at ih ⊢
    rw [star_plain h.1]
    simp only [List.all_map, List.map_cons, List.all_cons] at ih ⊢
    simpa using ih
section
variable {X : Cx} {cls : Nat → Value} {W : WX} {pos : Pos} {a b c e o : Expr} {ma mb mc m mo : ME}

/-! ### in -/
def rInA (K : PySem.W.Frag) (neg : Bool) : R2 := fun x y H Q => (∃ (c : Nat) (z : Str), x = .str ⟨#[c]⟩ ∧ y = .str z ∧ Q (.bl (neg ^^ decide (c ∈ z.cps.toList))) H) ∨
  (∃ d ds, Dp K H x d ∧ Dp K H y (.list ds) ∧ SeqAt.shaped d = true ∧ SeqAt.shaped (.list ds) = true ∧ Q (.bl (neg ^^ ds.any fun z => PyData.eqv z d)) H) ∨ (∃ a ov, y = .ref a ∧ DGet H a x ov ∧ Q (.bl (neg ^^ ov.isSome)) H) ∨
  ∃ p xs, y = .ref p ∧ SqT K H p xs ∧ flatV x = true ∧ xs.all flatV = true ∧ Q (.bl (neg ^^ inV x xs)) H
theorem op_inA (hu : X.A.units + 65 < cLine) : OpR X (compareOp .In) (rInA X.K false) := by
  intro pins s sg H x y v u Q I rx ry h
  rcases h with ⟨c, z, e1, e2, q⟩ | h | ⟨ad, ov, rfl, g, q⟩ | ⟨p, xs, e1, e2, e3, e4, q⟩
  · exact op_in_sign pins s sg H x y v u Q I rx ry ⟨c, z, e1, e2, by simpa using q⟩
  · exact op_inD hu pins s sg H x y v u Q I rx ry (by simpa [rInD] using h)
  · cases ry
    exact d_in (by omega) I g rx fun s' I' => ⟨.bl ov.isSome, H, I', rfl, by simpa using q⟩
  · exact op_in_seq pins s sg H x y v u Q I rx ry ⟨p, xs, e1, .inr e2, e3, e4, by simpa using q⟩
theorem op_notInA (hu : X.A.units + 65 < cLine) : OpR X (compareOp .NotIn) (rInA X.K true) := by
  intro pins s sg H x y v u Q I rx ry h
  rcases h with ⟨c, z, e1, e2, q⟩ | h | ⟨ad, ov, rfl, g, q⟩ | ⟨p, xs, e1, e2, e3, e4, q⟩
  · exact op_notIn_sign pins s sg H x y v u Q I rx ry ⟨c, z, e1, e2, by simpa using q⟩
  · exact op_notInD hu pins s sg H x y v u Q I rx ry (by simpa [rNotInD] using h)
  · cases ry
    exact d_notIn (by omega) I g rx fun s' I' => ⟨.bl (!ov.isSome), H, I', rfl, by simpa using q⟩
  · exact op_notIn_seq pins s sg H x y v u Q I rx ry ⟨p, xs, e1, .inr e2, e3, e4, by simpa using q⟩
theorem inV_ints (i : Int) (ns : List Int) : inV (.int i) (ns.map V.int) = decide (i ∈ ns) := by
  unfold inV
  rw [List.any_map]
  induction ns with
  | nil => rfl
  | cons n ns ih =>
    rw [List.any_cons, ih]
    have : (((fun y => eqV y (V.int i)) ∘ V.int) n) = (n == i) := rfl
    rw [this]
    by_cases h : i = n
    · subst h; simp
    · have h2 : (n == i) = false := beq_eq_false_iff_ne.mpr (Ne.symm h)
      simp [h, h2]
theorem inV_strs (i : Str) (ns : List Str) : inV (.str i) (ns.map V.str) = decide (i ∈ ns) := by
  unfold inV
  rw [List.any_map]
  induction ns with
  | nil => rfl
  | cons n ns ih =>
    rw [List.any_cons, ih]
    have : (((fun y => eqV y (V.str i)) ∘ V.str) n) = (n == i) := rfl
    rw [this]
    by_cases h : i = n
    · subst h; simp
    · have h2 : (n == i) = false := beq_eq_false_iff_ne.mpr (Ne.symm h)
      simp [h, h2]
theorem isIn_some {K : PySem.W.Frag} {rho : Rho} {st : Sto} {H : Hp} {x y : D} {v u : V} {k : Bool} {neg : Bool} {Q : VK} (w : Wld K rho st H) (r1 : RelD K rho H x v) (r2 : RelD K rho H y u) (h : isIn st x y = some k) (q : Q (.bl (neg ^^ k)) H) : rInA K neg v u H Q := by
  have d2 := deref_rel w r2
  unfold isIn at h
  split at h <;> (rename_i e1; try rw [e1] at d2)
  · cases d2; cases r1
    rename_i sa sb
    split at h
    · rename_i c hc
      cases h
      refine .inl ⟨c, sb, ?_, rfl, q⟩
      cases sa with
      | mk cp =>
        have : cp = #[c] := by
          apply Array.toList_inj.mp
          simpa using hc
        rw [this]
    · cases h
  · obtain ⟨ad, ks, rfl, h1, h2⟩ := der_dic d2
    obtain ⟨k', hk, e⟩ := Option.map_eq_some_iff.mp h
    refine .inr (.inr (.inl ⟨ad, valV ks k', rfl, ?_, ?_⟩))
    · rw [keyOf_rel r1 hk]
      exact DGet.k h1
    · have : (valV ks k').isSome = k := by
        rw [← e]
        cases g : kvGet _ k' with
        | none => rw [kvGet_none h2 g]; rfl
        | some d =>
          obtain ⟨z, hz, _⟩ := kvGet_rel h2 g
          rw [hz]; rfl
      rw [this]
      exact q
  · obtain ⟨ad, ks, rfl, h1, h2⟩ := der_lst d2
    split at h
    · rename_i hc
      simp only [Bool.and_eq_true] at hc
      obtain ⟨⟨⟨c1, c2⟩, c3⟩, c4⟩ := hc
      cases h
      exact .inr (.inl ⟨_, _, der_dp (deref_rel w r1) c1, .lst (SqL.of h1) (relDs_dp h2 c2), c3, c4, q⟩)
    · cases h
  · obtain ⟨ns, hns, rfl⟩ := Option.map_eq_some_iff.mp h
    obtain ⟨ad, ks, rfl, h1, h2⟩ := der_tup d2
    cases r1
    rw [intsOf_rel h2 hns] at h1
    refine .inr (.inr (.inr ⟨ad, _, rfl, h1, rfl, by simp [List.all_map, flatV], ?_⟩))
    rw [inV_ints]
    exact q
  · obtain ⟨ns, hns, rfl⟩ := Option.map_eq_some_iff.mp h
    obtain ⟨ad, ks, rfl, h1, h2⟩ := der_tup d2
    cases r1
    rw [strsOf_rel h2 hns] at h1
    refine .inr (.inr (.inr ⟨ad, _, rfl, h1, rfl, by simp [List.all_map, flatV], ?_⟩))
    rw [inV_strs]
    exact q
  · cases h
theorem hop_in {K : PySem.W.Frag} {sg : L2.St} {rho : Rho} {st : Sto} {H : Hp} {Q : VK} {x y : D} {v u : V} (w : Wld K rho st H) (r1 : RelD K rho H x v) (r2 : RelD K rho H y u) (h : OkR K cls W sg rho H (opIn x y st) (VQ K Q)) : rInA K false v u H Q := by
  unfold opIn at h
  split at h
  · rename_i k e1
    exact isIn_some w r1 r2 e1 (by simpa using ok_here w h (.bl _))
  · exact h.elim
theorem hop_notIn {K : PySem.W.Frag} {sg : L2.St} {rho : Rho} {st : Sto} {H : Hp} {Q : VK} {x y : D} {v u : V} (w : Wld K rho st H) (r1 : RelD K rho H x v) (r2 : RelD K rho H y u) (h : OkR K cls W sg rho H (opNotIn x y st) (VQ K Q)) : rInA K true v u H Q := by
  unfold opNotIn at h
  split at h
  · rename_i k e1
    exact isIn_some w r1 r2 e1 (by simpa using ok_here w h (.bl _))
  · exact h.elim
/-! ### slices -/
def tOm (K : PySem.W.Frag) (cls : Nat → Value) (W : WX) (m : Option ME) : TO := fun sg H Q => ∃ rho env st, Wld K rho st H ∧ RelEnv K rho H env sg ∧ OkR K cls W sg rho H (mOpt m env st) (fun o _ _ H' => Q o H')
theorem po_noneM : PO X none (tOm X.K cls W none) := ⟨fun pins s sg H Q I h => po_none.run pins s sg H Q I (by
  obtain ⟨rho, env, st, w, re, h⟩ := h
  exact h rho H (Ext.refl rho H) w)⟩
theorem po_someM (h : PE X e (tE X.K cls W m)) : PO X (some e) (tOm X.K cls W (some m)) := ⟨fun pins s sg H Q I hq => (po_some h).run pins s sg H Q I (by
  obtain ⟨rho, env, st, w, re, hq⟩ := hq
  refine ⟨rho, env, st, w, re, OkR.mono (OkR.bind hq) fun d st1 rho1 H1 e1 w1 h1 v rv => ?_⟩
  split at h1
  · cases rv
    exact ⟨_, rfl, OkR.ok h1 w1⟩
  · exact h1.elim)⟩
def rSlAll (K : PySem.W.Frag) : V → Option Int → Option Int → Hp → VK → Prop := fun x lo hi H Q => rSlA K x lo hi H Q ∨ rSlL K x lo hi H Q ∨ rSlS x lo hi H Q
theorem sl_all : SlR X (rSlAll X.K) := SlR.or sl_tupA (SlR.or sl_list sl_str)
theorem cut_whole {α : Type} {xs : List α} {lo hi : Option Int} (h1 : HT.sIx xs.length 0 lo = 0) (h2 : HT.sIx xs.length xs.length hi = xs.length) : cutL xs lo hi = xs := by
  unfold cutL
  rw [h1, h2]
  simp
theorem hop_sl {K : PySem.W.Frag} {sg : L2.St} {rho : Rho} {st : Sto} {H : Hp} {Q : VK} {x : D} {v : V} {lo hi : Option Int} (w : Wld K rho st H) (r1 : RelD K rho H x v) (h : OkR K cls W sg rho H (opSl x lo hi st) (VQ K Q)) : rSlAll K v lo hi H Q := by
  have q := deref_rel w r1
  unfold opSl at h
  split at h <;> (rename_i e1; try rw [e1] at q)
  · cases q
    split at h
    · exact .inr (.inr ⟨_, rfl, by assumption, ok_here w h (.str _)⟩)
    · exact h.elim
  · cases q with
    | tup h1 h2 =>
      rename_i ds ad vs
      refine .inl ⟨ad, vs, rfl, h1, fun e2 => ?_, fun e2 => ?_⟩
      · rw [cut_whole (by rw [h2.length]; exact e2.1) (by rw [h2.length]; exact e2.2)] at h
        exact ok_here w h (.tup h1 h2)
      · refine ok_tmp_tup w h ?_
        unfold cutL cutV
        rw [h2.length]
        exact (h2.drop _).take _
  · obtain ⟨ad, ks, rfl, h1, h2⟩ := der_lst q
    refine .inr (.inl ⟨ad, ks, rfl, SqL.of h1, ok_tmp_lst w h ?_⟩)
    unfold cutL cutV
    rw [h2.length]
    exact (h2.drop _).take _
  · exact h.elim
theorem pe_slM {lo hi : Option Expr} {ml mh : Option ME} {p2 : Pos} (ha : PE X a (tE X.K cls W ma)) (hl : PO X lo (tOm X.K cls W ml)) (hh : PO X hi (tOm X.K cls W mh)) : PE X (.Subscript a (.Slice lo hi none p2) pos) (tE X.K cls W (mSl ma ml mh)) := by
  refine PE.weak (pe_slice sl_all ha hl hh) fun sg H Q h => ?_
  obtain ⟨rho, env, st, w, re, h⟩ := h
  refine ⟨rho, env, st, w, re, OkR.mono (OkR.bind h) fun d st1 rho1 H1 e1 w1 h1 v rv => ?_⟩
  refine ⟨rho1, env, st1, w1, re.ext e1, OkR.mono (OkR.bind h1) fun i st2 rho2 H2 e2 w2 h2 => ?_⟩
  refine ⟨rho2, env, st2, w2, (re.ext e1).ext e2, OkR.mono (OkR.bind h2) fun j st3 rho3 H3 e3 w3 h3 => ?_⟩
  exact hop_sl w3 ((rv.ext e2).ext e3) h3
/-! ### methods -/
theorem pe_methL {es : List Expr} {ms : List ME} {name : Str} {apos : Pos} {id : String} {f : D → List D → Sto → R D} {r : V → List V → Hp → VK → Prop} (slot : Slot "list" name id) (hty : typeOf (.builtin id) = pure (.type "method_descriptor")) (hm : MtR X id r)
    (hop : ∀ {sg : L2.St} {rho : Rho} {st : Sto} {H : Hp} {Q : VK} {d : D} {v : V} {ds : List D} {vs : List V}, Wld X.K rho st H → RelD X.K rho H d v → RelDs X.K rho H ds vs → OkR X.K cls W sg rho H (f d ds st) (VQ X.K Q) → r v vs H Q)
    (hb : noCall o = true) (hl : (apos.endLine == pos.line) = true) (hp : (e :: es).all plainE = true) (hn : (e :: es).length < 30) (ho : PE X o (tE X.K cls W mo)) (ha : PA X (e :: es) (tAm X.K cls W ms)) :
    PE X (.Call (.Attribute o name apos) (e :: es) [] pos) (tE X.K cls W (mMethL f mo ms)) := by
  have hp' := hp
  simp only [List.all_cons, Bool.and_eq_true] at hp
  refine PE.weak (pe_bm PySem.F.plainAttrs_list slot hty hm ho ha (base_ok hb) ?_ hl (star_plain hp.1) (star_any hp.2)) fun sg H Q h => ?_
  · rw [star_all hp']
    have hk : (backToKw pos (keywordEach [] X.env)).all (fun x => x.1.isSome) = true := rfl
    rw [hk]
    have hn' : decide ((e :: es).length + 0 + 0 < 30) = true := by simpa using hn
    simpa using hn'
  · obtain ⟨rho, env, st, w, re, h⟩ := h
    refine ⟨rho, env, st, w, re, OkR.mono (OkR.bind h) fun d st1 rho1 H1 e1 w1 h1 v rv => ?_⟩
    split at h1
    · rename_i hl1
      refine ⟨isLst_ok w1 rv hl1, rho1, env, st1, w1, re.ext e1, OkR.mono (OkR.bind h1) fun ds st2 rho2 H2 e2 w2 h2 vs rvs => ?_⟩
      exact hop w2 (rv.ext e2) rvs h2
    · exact h1.elim
theorem pe_methL0 {name : Str} {apos : Pos} {id : String} {f : D → List D → Sto → R D} {r : V → List V → Hp → VK → Prop} (slot : Slot "list" name id) (hty : typeOf (.builtin id) = pure (.type "method_descriptor")) (hm : MtR X id r)
    (hop : ∀ {sg : L2.St} {rho : Rho} {st : Sto} {H : Hp} {Q : VK} {d : D} {v : V} {ds : List D} {vs : List V}, Wld X.K rho st H → RelD X.K rho H d v → RelDs X.K rho H ds vs → OkR X.K cls W sg rho H (f d ds st) (VQ X.K Q) → r v vs H Q)
    (hb : noCall o = true) (hl : (apos.endLine == pos.line) = true) (ho : PE X o (tE X.K cls W mo)) : PE X (.Call (.Attribute o name apos) [] [] pos) (tE X.K cls W (mMethL f mo [])) := by
  refine PE.weak (pe_bm0 PySem.F.plainAttrs_list slot hty hm ho (base_ok hb) hl) fun sg H Q h => ?_
  obtain ⟨rho, env, st, w, re, h⟩ := h
  refine ⟨rho, env, st, w, re, OkR.mono (OkR.bind h) fun d st1 rho1 H1 e1 w1 h1 v rv => ?_⟩
  split at h1
  · rename_i hl1
    exact ⟨isLst_ok w1 rv hl1, hop w1 rv .nil h1⟩
  · exact h1.elim
/-! ### calls of defs -/
/-- a def keeps what its reading says -/
def spF (K : PySem.W.Frag) (cls : Nat → Value) (f : List D → Sto → R D) : Sp := fun vs H Q E => ∃ rho st ds, Wld K rho st H ∧ RelDs K rho H ds vs ∧ OkR K cls (fun c d _ H => E c d H) [] rho H (f ds st) (VQ K Q)
theorem OkR.wish {α : Type} {K : PySem.W.Frag} {W' : WX} {sg sg' : L2.St} {rho : Rho} {H : Hp} {r : R α} {P : α → Sto → Rho → Hp → Prop} (h : OkR K cls W sg rho H r P) (f : ∀ c H, W c none sg H → W' c none sg' H) : OkR K cls W' sg' rho H r P := by
  cases r with
  | ok a st => exact h
  | exc c st => exact fun r2 H2 e2 w2 => f _ _ (h r2 H2 e2 w2)
  | stuck => exact h
theorem pe_call0S {CX : CXT} {k : Nat} {f : Addr} {fd : FuncData} {ps : List Str} {sp : Sp} {E : L2.St → XK} {x : Str} {p : Pos} (F : FnOk X.prog X.w X.K X.mg X.base CX k f fd ps sp) (hr : Room k X.A) (hg : Gl X x) (hm : X.mg x = some (.ref f)) (hk : PySem.W.keepIn X.K (.ref f) = true) (hb : Binds X.K fd ps []) (hx : ∀ sg, PassesAt CX X sg (E sg))
    (hdb : (x == ("__debug__" : Str)) = false) : PE X (.Call (.Name x p) [] [] pos) (tCallS sp E tNil) := by
  refine ⟨fun pins s sg H Q I h => ?_⟩
  refine wpAny_Call_Name_kw (ld_glob I hg hm ?_ hdb)
  exact PySem.W.callWith_K0 I.kIn hk (run_fnS (us := []) F hr hb (hx sg) I .nil h)
theorem pe_callM {k : Nat} {fa : Addr} {fd : FuncData} {ps : List Str} {f : List D → Sto → R D} {x : Str} {p : Pos} {es : List Expr} {ms : List ME} (F : FnOk X.prog X.w X.K X.mg X.base (L2.CX X.prog X.w) k fa fd ps (spF X.K cls f)) (hr : Room k X.A) (hg : Gl X x) (hm : X.mg x = some (.ref fa))
    (hk : PySem.W.keepIn X.K (.ref fa) = true) (hb : Binds X.K fd ps []) (tk : Takes X W) (hdb : (x == ("__debug__" : Str)) = false) (hp : (e :: es).all plainE = true) (ha : PA X (e :: es) (tAm X.K cls W ms)) : PE X (.Call (.Name x p) (e :: es) [] pos) (tE X.K cls W (mCall f ms)) := by
  have go : ∀ sg H Q, tE X.K cls W (mCall f ms) sg H Q → tCallS (spF X.K cls f) (WE W) (tAm X.K cls W ms) sg H Q := fun sg H Q h => by
    obtain ⟨rho, env, st, w, re, h⟩ := h
    refine ⟨rho, env, st, w, re, OkR.mono (OkR.bind h) fun ds st1 rho1 H1 e1 w1 h1 vs rvs => ?_⟩
    exact ⟨rho1, st1, ds, w1, rvs, OkR.wish h1 fun c H q => q⟩
  simp only [List.all_cons, Bool.and_eq_true] at hp
  exact PE.weak (pe_callS F hr hg hm hk hb (fun sg => passAt tk sg) ha hdb (star_plain hp.1) (star_any hp.2)) go
theorem pe_call0M {k : Nat} {fa : Addr} {fd : FuncData} {ps : List Str} {f : List D → Sto → R D} {x : Str} {p : Pos} (F : FnOk X.prog X.w X.K X.mg X.base (L2.CX X.prog X.w) k fa fd ps (spF X.K cls f)) (hr : Room k X.A) (hg : Gl X x) (hm : X.mg x = some (.ref fa))
    (hk : PySem.W.keepIn X.K (.ref fa) = true) (hb : Binds X.K fd ps []) (tk : Takes X W) (hdb : (x == ("__debug__" : Str)) = false) : PE X (.Call (.Name x p) [] [] pos) (tE X.K cls W (mCall f [])) := by
  refine PE.weak (pe_call0S F hr hg hm hk hb (fun sg => passAt tk sg) hdb) fun sg H Q h => ?_
  obtain ⟨rho, env, st, w, re, h⟩ := h
  exact ⟨rho, st, [], w, .nil, OkR.wish h fun c H q => q⟩
end
end MI
/-! MiG: targets, what is walked, comprehensions, statements. -/
namespace MI
open PySem PySem.Spec PyProof.Rows L2

/-! ### targets -/
/-- vs: the slots that the target sets -/
def tGm (K : PySem.W.Frag) (vs : List Nat) (m : MG) : TG := fun v sg H Q => ∃ rho env st d env', Wld K rho st H ∧ RelEnv K rho H env sg ∧ RelD K rho H d v ∧ m d env = some env' ∧
  ∀ sg', RelEnv K rho H env' sg' → sg'.length = sg.length → (∀ j, j ∉ vs → sg'[j]? = sg[j]?) → Q sg' H
theorem wipe_same : ∀ {vs : List Nat} {sg sg' : L2.St}, sg'.length = sg.length → (∀ j, j ∉ vs → sg'[j]? = sg[j]?) → wipe sg' vs = wipe sg vs := by
  intro vs sg sg' hl h
  apply List.ext_getElem?
  intro j
  by_cases hj : j ∈ vs
  · have out : ∀ (s : L2.St), (wipe s vs)[j]? = if j < s.length then some none else none := fun s => by
      have : ∀ {us : List Nat}, j ∈ us → (wipe s us)[j]? = if j < s.length then some none else none := by
        intro us
        induction us with
        | nil => intro h; cases h
        | cons u us ih =>
          intro hm
          unfold L2.wipe
          by_cases e : u = j
          · subst e
            rw [List.getElem?_set, wipe_length]
            simp
          · rcases List.mem_cons.mp hm with z | z
            · exact absurd z.symm e
            · rw [List.getElem?_set_ne e]
              exact ih z
      exact this hj
    rw [out, out, hl]
  · have keep : ∀ (s : L2.St), (wipe s vs)[j]? = s[j]? := fun s => by
      have : ∀ {us : List Nat}, j ∉ us → (wipe s us)[j]? = s[j]? := by
        intro us
        induction us with
        | nil => intro _; rfl
        | cons u us ih =>
          intro hm
          unfold L2.wipe
          rw [List.getElem?_set_ne (fun e => hm (by rw [e]; exact List.mem_cons_self))]
          exact ih fun z => hm (List.mem_cons_of_mem _ z)
      exact this hj
    rw [keep, keep]
    exact h j hj
theorem PG.weak {X : Cx} {tg : Expr} {t t' : TG} (h : PG X tg t) (f : ∀ v sg H Q, t' v sg H Q → t v sg H Q) : PG X tg t' := ⟨fun pins s sg H v u Q I r q => h.run pins s sg H v u Q I r (f _ _ _ _ q)⟩
theorem PGs.weak {X : Cx} {tg : List Expr} {t t' : TGs} (h : PGs X tg t) (f : ∀ v sg H Q, t' v sg H Q → t v sg H Q) : PGs X tg t' := ⟨fun pins s sg H v u Q I r q => h.run pins s sg H v u Q I r (f _ _ _ _ q)⟩
section
variable {X : Cx} {cls : Nat → Value} {W : WX} {pos : Pos}
theorem pg_varM {i : Nat} {x : Str} (hN : X.N.Nodup) (hi : X.N[i]? = some x) (hx : Loc X.env.scope x) (hf : X.fn x = true ∨ X.env.scope.names.lookup x = some .local) : PG X (.Name x pos) (tGm X.K [i] (gVar i)) := by
  refine PG.weak (pg_name hN hi hx hf) fun v sg H Q h => ?_
  obtain ⟨rho, env, st, d, env', w, re, rd, e, h⟩ := h
  cases e
  exact h _ (re.set rd i) (by simp) fun j hj => by rw [List.getElem?_set_ne (fun z => hj (by simp [z]))]
/-- a row of names -/
def gVars : List Nat → List D → DEnv → Option DEnv
  | [], [], env => some env
  | i :: is, d :: ds, env => gVars is ds (env.set i (some d))
  | _, _, _ => none
def gTupV (is : List Nat) : MG := fun d env => match d with
  | .tup ds => gVars is ds env
  | _ => none
def tGsm (K : PySem.W.Frag) (is : List Nat) : TGs := fun vs sg H Q => ∃ rho env st ds env', Wld K rho st H ∧ RelEnv K rho H env sg ∧ RelDs K rho H ds vs ∧ gVars is ds env = some env' ∧
  ∀ sg', RelEnv K rho H env' sg' → sg'.length = sg.length → (∀ j, j ∉ is → sg'[j]? = sg[j]?) → Q sg' H
/-- the names' slots -/
inductive NamesAt (X : Cx) : List Expr → List Nat → Prop where
  | nil : NamesAt X [] []
  | cons {x : Str} {p : Pos} {i : Nat} {es : List Expr} {is : List Nat} (hi : X.N[i]? = some x) (hx : Loc X.env.scope x) (hf : X.fn x = true ∨ X.env.scope.names.lookup x = some .local) (t : NamesAt X es is) : NamesAt X (.Name x p :: es) (i :: is)
theorem pgs_varsM (hN : X.N.Nodup) : ∀ {es : List Expr} {is : List Nat}, NamesAt X es is → PGs X es (tGsm X.K is)
  | _, _, .nil => PGs.weak pgs_nil fun v sg H Q h => by
    obtain ⟨rho, env, st, ds, env', w, re, rd, e, h⟩ := h
    cases ds with
    | nil =>
      cases e
      cases rd
      exact ⟨rfl, h sg re rfl fun _ _ => rfl⟩
    | cons d ds => cases e
  | _, _, .cons (x := x) (i := i) (is := is) hi hx hf t => PGs.weak (pgs_cons (pg_name hN hi hx hf) (pgs_varsM hN t) rfl) fun v sg H Q h => by
    obtain ⟨rho, env, st, ds, env', w, re, rd, e, h⟩ := h
    cases ds with
    | nil => cases e
    | cons d ds =>
      cases rd with
      | cons r1 r2 =>
        rename_i v1 vs1
        refine ⟨v1, vs1, rfl, rho, env.set i (some d), st, ds, env', w, re.set r1 i, r2, e, fun sg' re' hl hk => h sg' re' (by rw [hl]; simp) fun j hj => ?_⟩
        rw [hk j fun z => hj (List.mem_cons_of_mem _ z), List.getElem?_set_ne (fun z => hj (by rw [z]; exact List.mem_cons_self))]
theorem NamesAt.each {es : List Expr} {is : List Nat} (n : NamesAt X es is) : (assignEach es X.env).length = es.length ∧ (assignEach es X.env).findIdx? (·.1) = none := by
  induction n with
  | nil => exact ⟨rfl, rfl⟩
  | cons hi hx hf t ih =>
    rename_i x p i es is
    have e : assignEach (.Name x p :: es) X.env = (false, assign (.Name x p) X.env) :: assignEach es X.env := rfl
    rw [e]
    refine ⟨by simp [ih.1], ?_⟩
    rw [List.findIdx?_cons]
    simp [ih.2]
theorem NamesAt.len {es : List Expr} {is : List Nat} (n : NamesAt X es is) : es.length = is.length := by
  induction n with
  | nil => rfl
  | cons _ _ _ _ ih => simp [ih]
theorem gVars_len : ∀ {is : List Nat} {ds : List D} {env env' : DEnv}, gVars is ds env = some env' → ds.length = is.length
  | [], [], _, _, _ => rfl
  | _ :: is, _ :: ds, _, _, h => by simp [gVars_len (is := is) (ds := ds) h]
theorem pg_tupM {es : List Expr} {is : List Nat} {k : Nat} (hc : X.calm = true) (hN : X.N.Nodup) (n : NamesAt X es is) : PG X (.Tuple es k pos) (tGm X.K is (gTupV is)) := by
  refine PG.weak (pg_tup (n := es.length) hc (pgs_varsM hN n) n.each.1 n.each.2) fun v sg H Q h => ?_
  obtain ⟨rho, env, st, d, env', w, re, rd, e, h⟩ := h
  unfold gTupV at e
  split at e
  · cases rd with
    | tup h1 h2 => exact ⟨_, _, rfl, h1, by rw [← h2.length, gVars_len e, n.len], rho, env, st, _, env', w, re, h2, e, h⟩
  · cases e

/-! ### what is walked -/
structure ItOk (K : PySem.W.Frag) (J : It) (s : Src) (P : Rho → Hp → Prop) : Prop where
  stab : ∀ rho H rho' H', P rho H → Ext rho H rho' H' → P rho' H'
  go : ∀ (i : Nat) d rho st H, Wld K rho st H → P rho H → s.holds st → s.items[i]? = some d → J.go i H
  yld : ∀ (i : Nat) d rho st H x H', Wld K rho st H → P rho H → s.holds st → s.items[i]? = some d → J.yld i H x H' → Ext rho H rho H' ∧ Wld K rho st H' ∧ RelD K rho H' d x
  stop : ∀ i rho st H, Wld K rho st H → P rho H → s.holds st → s.items.length ≤ i → J.stop i H
  hide : ∀ rho H p xs, P rho H → H p = none → P (rho.hide p) (upd H p (.lst xs))
  grow : ∀ rho H p xs ys, p ∈ rho.res → H p = some (.lst xs) → P rho H → P rho (upd H p (.lst ys))
def tIm (K : PySem.W.Frag) (cls : Nat → Value) (W : WX) (m : MIt) : TI := fun sg H R => ∃ rho env st, Wld K rho st H ∧ RelEnv K rho H env sg ∧
  OkR K cls W sg rho H (m env st) (fun s st' rho' H' => ∀ J P, ItOk K J s P → P rho' H' → s.holds st' → R J H')
theorem it_tup {K : PySem.W.Frag} (a : Addr) (ds : List D) (vs : List V) : ItOk K (Itt K a) (.vals ds) (fun rho H => SqT K H a vs ∧ RelDs K rho H ds vs) where
  stab := fun rho H rho' H' p e => ⟨e.sqT p.1, p.2.ext e⟩
  go := fun i d rho st H w p _ hd => by
    obtain ⟨v, hv, _⟩ := p.2.get hd
    exact ⟨vs, v, p.1, hv⟩
  yld := fun i d rho st H x H' w p _ hd y => by
    obtain ⟨rfl, hy⟩ := y
    obtain ⟨v, hv, r⟩ := p.2.get hd
    have := hy vs p.1
    rw [hv] at this
    cases this
    exact ⟨Ext.refl _ _, w, r⟩
  stop := fun i rho st H w p _ hi => ⟨vs, p.1, by rw [← p.2.length]; exact hi⟩
  hide := fun rho H p xs q h => ⟨by
    rcases q.1 with (q | ⟨ob, q⟩) | q
    · exact .inl (.inl (by rw [upd_ne (ne_of_none q h)]; exact q))
    · exact .inl (.inr ⟨ob, by rw [upd_ne (ne_of_none q h)]; exact q⟩)
    · exact .inr q, q.2.hide h⟩
  grow := fun rho H p xs ys hp h q => ⟨by
    rcases q.1 with (q | ⟨ob, q⟩) | q
    · exact .inl (.inl ((Ext.grow (o' := .lst ys) hp h trivial).1 _ _ q))
    · exact .inl (.inr ⟨ob, (Ext.grow (o' := .lst ys) hp h trivial).2 _ _ _ q⟩)
    · exact .inr q, q.2.grow hp h trivial⟩
theorem it_lst {K : PySem.W.Frag} (a : Addr) (ds : List D) (vs : List V) : ItOk K (Itl K a) (.vals ds) (fun rho H => (H a = some (.lst vs) ∧ a ∉ rho) ∧ RelDs K rho H ds vs) where
  stab := fun rho H rho' H' p e => ⟨⟨e.keep _ _ p.1.1 p.1.2, e.notMem p.1.1 p.1.2⟩, p.2.ext e⟩
  go := fun i d rho st H w p _ hd => by
    obtain ⟨v, hv, _⟩ := p.2.get hd
    exact ⟨vs, v, SqL.of p.1.1, hv⟩
  yld := fun i d rho st H x H' w p _ hd y => by
    obtain ⟨rfl, hy⟩ := y
    obtain ⟨v, hv, r⟩ := p.2.get hd
    have := hy vs (SqL.of p.1.1)
    rw [hv] at this
    cases this
    exact ⟨Ext.refl _ _, w, r⟩
  stop := fun i rho st H w p _ hi => ⟨vs, SqL.of p.1.1, by rw [← p.2.length]; exact hi⟩
  hide := fun rho H p xs q h => ⟨⟨by rw [upd_ne (ne_of_none q.1.1 h)]; exact q.1.1, fun z => by
    rcases z with z | z
    · exact q.1.2 (.inl z)
    · rcases List.mem_cons.mp z with z | z
      · have := q.1.1
        rw [z, h] at this; cases this
      · exact q.1.2 (.inr z)⟩, q.2.hide h⟩
  grow := fun rho H p xs ys hp h q => ⟨⟨by rw [upd_ne (fun z => q.1.2 (by rw [z]; exact .inr hp))]; exact q.1.1, q.1.2⟩, q.2.grow hp h trivial⟩
theorem it_fz {K : PySem.W.Frag} (a : Addr) (ds : List D) (vs : List V) : ItOk K (Itl K a) (.vals ds) (fun rho H => FzL K H a vs ∧ RelDs K rho H ds vs) where
  stab := fun rho H rho' H' p e => ⟨e.fzL p.1, p.2.ext e⟩
  go := fun i d rho st H w p _ hd => by
    obtain ⟨v, hv, _⟩ := p.2.get hd
    exact ⟨vs, v, p.1.sq, hv⟩
  yld := fun i d rho st H x H' w p _ hd y => by
    obtain ⟨rfl, hy⟩ := y
    obtain ⟨v, hv, r⟩ := p.2.get hd
    have := hy vs p.1.sq
    rw [hv] at this
    cases this
    exact ⟨Ext.refl _ _, w, r⟩
  stop := fun i rho st H w p _ hi => ⟨vs, p.1.sq, by rw [← p.2.length]; exact hi⟩
  hide := fun rho H p xs q h => ⟨by
    rcases q.1 with ⟨ob, q⟩ | q
    · exact .inl ⟨ob, by rw [upd_ne (ne_of_none q h)]; exact q⟩
    · exact .inr q, q.2.hide h⟩
  grow := fun rho H p xs ys hp h q => ⟨by
    rcases q.1 with ⟨ob, q⟩ | q
    · exact .inl ⟨ob, (Ext.grow (o' := .lst ys) hp h trivial).2 _ _ _ q⟩
    · exact .inr q, q.2.grow hp h trivial⟩
theorem it_live {K : PySem.W.Frag} (a : Addr) (l : Nat) (ds : List D) : ItOk K (Itl K a) (.live l ds) (fun rho H => rho.loc[l]? = some a) where
  stab := fun rho H rho' H' p e => e.get p
  go := fun i d rho st H w p hs hd => by
    obtain ⟨vs, h1, h2⟩ := w.obj l a _ p hs
    obtain ⟨v, hv, _⟩ := h2.get hd
    exact ⟨vs, v, SqL.of h1, hv⟩
  yld := fun i d rho st H x H' w p hs hd y => by
    obtain ⟨rfl, hy⟩ := y
    obtain ⟨vs, h1, h2⟩ := w.obj l a _ p hs
    obtain ⟨v, hv, r⟩ := h2.get hd
    have := hy vs (SqL.of h1)
    rw [hv] at this
    cases this
    exact ⟨Ext.refl _ _, w, r⟩
  stop := fun i rho st H w p hs hi => by
    obtain ⟨vs, h1, h2⟩ := w.obj l a _ p hs
    exact ⟨vs, SqL.of h1, by rw [← h2.length]; exact hi⟩
  hide := fun rho H p xs q h => q
  grow := fun rho H p xs ys hp h q => q
theorem it_range {K : PySem.W.Frag} (lo : Int) (n : Nat) : ItOk K (Itr lo n) (.vals (rangeD lo n)) (fun _ _ => True) where
  stab := fun _ _ _ _ _ _ => trivial
  go := fun i d rho st H w p _ hd => by
    obtain ⟨hl, _⟩ := List.getElem?_eq_some_iff.mp hd
    show i < n
    simpa [Src.items, rangeD] using hl
  yld := fun i d rho st H x H' w p _ hd y => by
    obtain ⟨rfl, rfl⟩ := y
    obtain ⟨hl, e⟩ := List.getElem?_eq_some_iff.mp hd
    simp [Src.items, rangeD] at e
    subst e
    exact ⟨Ext.refl _ _, w, .int _⟩
  stop := fun i rho st H w p _ hi => by
    show n ≤ i
    simpa [Src.items, rangeD] using hi
  hide := fun _ _ _ _ _ _ => trivial
  grow := fun _ _ _ _ _ _ _ _ => trivial
theorem it_rangeC {K : PySem.W.Frag} (lo c : Int) (n : Nat) : ItOk K (Itc lo c n) (.vals (rangeC lo c n)) (fun _ _ => True) where
  stab := fun _ _ _ _ _ _ => trivial
  go := fun i d rho st H w p _ hd => by
    obtain ⟨hl, _⟩ := List.getElem?_eq_some_iff.mp hd
    show i < n
    simpa [Src.items, rangeC] using hl
  yld := fun i d rho st H x H' w p _ hd y => by
    obtain ⟨rfl, rfl⟩ := y
    obtain ⟨hl, e⟩ := List.getElem?_eq_some_iff.mp hd
    simp [Src.items, rangeC] at e
    subst e
    exact ⟨Ext.refl _ _, w, .int _⟩
  stop := fun i rho st H w p _ hi => by
    show n ≤ i
    simpa [Src.items, rangeC] using hi
  hide := fun _ _ _ _ _ _ => trivial
  grow := fun _ _ _ _ _ _ _ _ => trivial
theorem it_str {K : PySem.W.Frag} (z : Str) : ItOk K (Its z) (.vals (z.cps.toList.map fun c => .str ⟨#[c]⟩)) (fun _ _ => True) where
  stab := fun _ _ _ _ _ _ => trivial
  go := fun i d rho st H w p _ hd => by
    obtain ⟨hl, _⟩ := List.getElem?_eq_some_iff.mp hd
    simp [Src.items] at hl
    first | exact hl | exact ⟨_, List.getElem?_eq_getElem hl⟩ | (simp [Its]; exact hl)
  yld := fun i d rho st H x H' w p _ hd y => by
    obtain ⟨rfl, y⟩ := y
    obtain ⟨hl, e⟩ := List.getElem?_eq_some_iff.mp hd
    simp [Src.items] at e hl
    refine ⟨Ext.refl _ _, w, ?_⟩
    subst e
    first
    | (obtain ⟨c, hc, rfl⟩ := y; simp [hl] at hc; subst hc; exact .str _)
    | (simp [hl] at y; subst y; exact .str _)
  stop := fun i rho st H w p _ hi => by
    simp [Src.items] at hi
    first | exact hi | (simp [Its]; exact hi)
  hide := fun _ _ _ _ _ _ => trivial
  grow := fun _ _ _ _ _ _ _ _ => trivial
end
end MI
/-! MiH: iterables, for, while, comprehensions, statements. -/
namespace MI
open PySem PySem.Spec PyProof.Rows L2
section
variable {X : Cx} {cls : Nat → Value} {W : WX} {pos : Pos} {tg l e iter : Expr} {m ma mb : ME}
theorem pi_seqM (h : PE X l (tE X.K cls W m)) : PI X tg l (tIm X.K cls W (iSeq m)) := by
  refine PI.weak (PI.or (pi_list h) (PI.or (pi_tup h) (pi_str h))) fun sg H R hq => ?_
  obtain ⟨rho, env, st, w, re, hq⟩ := hq
  unfold iSeq at hq
  cases q : m env st with
  | stuck => rw [q] at hq; exact hq.elim
  | exc c st1 => exact .inl ⟨rho, env, st, w, re, by rw [q] at hq ⊢; exact hq⟩
  | ok d st1 =>
    rw [q] at hq
    simp only [MI.R.bind_ok] at hq
    split at hq
    · rename_i ll
      split at hq
      · rename_i ds hl
        refine .inl ⟨rho, env, st, w, re, ?_⟩
        rw [q]
        intro rho1 H1 e1 w1 v rv
        cases rv with
        | ref ha =>
          rename_i a
          obtain ⟨vs, h1, h2⟩ := w1.obj ll a _ ha hl
          exact ⟨a, rfl, ⟨vs, SqL.of h1⟩, hq rho1 H1 e1 w1 _ _ (it_live a ll ds) ha hl⟩
      · exact hq.elim
    · refine .inr (.inl ⟨rho, env, st, w, re, ?_⟩)
      rw [q]
      intro rho1 H1 e1 w1 v rv
      cases rv with
      | tup h1 h2 => exact ⟨_, rfl, ⟨_, h1⟩, hq rho1 H1 e1 w1 _ _ (it_tup _ _ _) ⟨h1, h2⟩ trivial⟩
    · refine .inl ⟨rho, env, st, w, re, ?_⟩
      rw [q]
      intro rho1 H1 e1 w1 v rv
      cases rv with
      | lst h1 n h2 => exact ⟨_, rfl, ⟨_, SqL.of h1⟩, hq rho1 H1 e1 w1 _ _ (it_lst _ _ _) ⟨⟨h1, n⟩, h2⟩ trivial⟩
    · refine .inl ⟨rho, env, st, w, re, ?_⟩
      rw [q]
      intro rho1 H1 e1 w1 v rv
      cases rv with
      | fz h1 h2 => exact ⟨_, rfl, ⟨_, h1.sq⟩, hq rho1 H1 e1 w1 _ _ (it_fz _ _ _) ⟨h1, h2⟩ trivial⟩
    · refine .inr (.inr ⟨rho, env, st, w, re, ?_⟩)
      rw [q]
      intro rho1 H1 e1 w1 v rv
      cases rv
      exact ⟨_, rfl, hq rho1 H1 e1 w1 _ _ (it_str _) trivial trivial⟩
    · exact hq.elim
theorem pi_range1M {p : Pos} (hp : plainE l = true) (hg : Gl X "range") (hm : X.mg "range" = none) (h : PE X l (tE X.K cls W m)) : PI X tg (.Call (.Name "range" p) [l] [] pos) (tIm X.K cls W (iRange1 m)) := by
  have ha : PA X [l] (tCons (tE X.K cls W m) tNil) := pa_cons h pa_nil (star_plain hp)
  refine PI.weak (pi_range1 hg hm ha (star_plain hp)) fun sg H R hq => ?_
  obtain ⟨rho, env, st, w, re, hq⟩ := hq
  refine ⟨rho, env, st, w, re, OkR.mono (OkR.bind hq) fun d st1 rho1 H1 e1 w1 h1 v rv => ?_⟩
  split at h1
  · split at h1
    · rename_i hb
      cases rv
      exact ⟨_, rfl, hb.1, hb.2, h1 rho1 H1 (Ext.refl _ _) w1 _ _ (it_range 0 _) trivial trivial⟩
    · exact h1.elim
  · exact h1.elim
theorem pi_range2M {p : Pos} {l2 : Expr} {m2 : ME} (hp : plainE l = true) (hp2 : plainE l2 = true) (hg : Gl X "range") (hm : X.mg "range" = none) (h : PE X l (tE X.K cls W m)) (h2 : PE X l2 (tE X.K cls W m2)) : PI X tg (.Call (.Name "range" p) [l, l2] [] pos) (tIm X.K cls W (iRange2 m m2)) := by
  have ha : PA X [l, l2] (tCons (tE X.K cls W m) (tCons (tE X.K cls W m2) tNil)) := pa_cons h (pa_cons h2 pa_nil (star_plain hp2)) (star_plain hp)
  refine PI.weak (pi_range2 hg hm ha (by rw [star_plain hp, star_plain hp2]; rfl) (by rw [star_plain hp2]; rfl)) fun sg H R hq => ?_
  obtain ⟨rho, env, st, w, re, hq⟩ := hq
  refine ⟨rho, env, st, w, re, OkR.mono (OkR.bind hq) fun d st1 rho1 H1 e1 w1 h1 v rv => ?_⟩
  refine ⟨rho1, env, st1, w1, re.ext e1, OkR.mono (OkR.bind h1) fun d2 st2 rho2 H2 e2 w2 h2 v2 rv2 => ?_⟩
  split at h2
  · split at h2
    · rename_i hb
      cases rv; cases rv2
      exact ⟨_, _, rfl, hb, h2 rho2 H2 (Ext.refl _ _) w2 _ _ (it_range _ _) trivial trivial⟩
    · exact h2.elim
  · exact h2.elim
theorem pi_range3M {p : Pos} {l2 l3 : Expr} {m2 m3 : ME} (hp : plainE l = true) (hp2 : plainE l2 = true) (hp3 : plainE l3 = true) (hg : Gl X "range") (hm : X.mg "range" = none) (h : PE X l (tE X.K cls W m)) (h2 : PE X l2 (tE X.K cls W m2)) (h3 : PE X l3 (tE X.K cls W m3)) : PI X tg (.Call (.Name "range" p) [l, l2, l3] [] pos) (tIm X.K cls W (iRange3 m m2 m3)) := by
  have ha : PA X [l, l2, l3] (tCons (tE X.K cls W m) (tCons (tE X.K cls W m2) (tCons (tE X.K cls W m3) tNil))) := pa_cons h (pa_cons h2 (pa_cons h3 pa_nil (star_plain hp3)) (star_plain hp2)) (star_plain hp)
  refine PI.weak (pi_range3 hg hm ha (by rw [star_plain hp]) (by rw [star_plain hp2, star_plain hp3]; rfl)) fun sg H R hq => ?_
  obtain ⟨rho, env, st, w, re, hq⟩ := hq
  refine ⟨rho, env, st, w, re, OkR.mono (OkR.bind hq) fun d st1 rho1 H1 e1 w1 h1 v rv => ?_⟩
  refine ⟨rho1, env, st1, w1, re.ext e1, OkR.mono (OkR.bind h1) fun d2 st2 rho2 H2 e2 w2 h2 v2 rv2 => ?_⟩
  refine ⟨rho2, env, st2, w2, (re.ext e1).ext e2, OkR.mono (OkR.bind h2) fun d3 st3 rho3 H3 e3 w3 h3 v3 rv3 => ?_⟩
  split at h3
  · split at h3
    · rename_i hb
      cases rv; cases rv2; cases rv3
      rename_i i j k
      refine ⟨_, _, _, (Builtin.Range.rangeSize i j k).toNat, rfl, ⟨hb.1, hb.2.1, hb.2.2, ?_⟩, h3 rho3 H3 (Ext.refl _ _) w3 _ _ (it_rangeC _ _ _) trivial trivial⟩
      refine (Int.toNat_of_nonneg ?_).symm
      unfold Builtin.Range.rangeSize
      split
      · rename_i q
        split
        · have : 0 ≤ (j - i - 1) / k := Int.ediv_nonneg (by omega) (by omega)
          omega
        · exact Int.le_refl _
      · rename_i q
        split
        · have : 0 ≤ (i - j - 1) / (-k) := Int.ediv_nonneg (by omega) (by have := hb.1; omega)
          omega
        · exact Int.le_refl _
    · exact h3.elim
  · exact h3.elim
/-- what is not read -/
theorem pss_stuck {ss : List Stmt} : PSs X ss (tS X.K cls W sStuck) := ⟨fun _ _ _ _ _ _ h => by
  obtain ⟨_, _, _, _, _, h⟩ := h
  exact h.elim⟩
/-! ### statements -/
theorem pss_nilM : PSs X [] (tS X.K cls W sSkip) := PSs.weak pss_nil fun E sg H h => by
  obtain ⟨rho, env, st, w, re, h⟩ := h
  exact h sg rho H (Ext.refl _ _) w re
theorem OkS.then {K : PySem.W.Frag} {rho : Rho} {H : Hp} {r : SR} {f : DEnv → Sto → SR} {E : Ends} (h : OkS K cls W rho H (r.then f) E) : OkS K cls W rho H r { E with nx := tS K cls W f E } := by
  cases r with
  | nx env st => exact fun sg rho1 H1 e1 w1 re1 => ⟨rho1, env, st, w1, re1, OkS.from h e1⟩
  | bk env st => exact h
  | ct env st => exact h
  | rt d st => exact h
  | exc c env st => exact h
  | stuck => exact h
theorem pss_consM {s : Stmt} {ss : List Stmt} {a b : MS} (h1 : PS X s (tS X.K cls W a)) (h2 : PSs X ss (tS X.K cls W b)) : PSs X (s :: ss) (tS X.K cls W (sSeq a b)) := by
  refine PSs.weak (pss_cons h1 h2) fun E sg H h => ?_
  obtain ⟨rho, env, st, w, re, h⟩ := h
  exact ⟨rho, env, st, w, re, OkS.then h⟩
theorem ps_passM : PS X (.Pass pos) (tS X.K cls W sSkip) := PS.weak ps_pass fun E sg H h => by
  obtain ⟨rho, env, st, w, re, h⟩ := h
  exact h sg rho H (Ext.refl _ _) w re
theorem ps_exprM (he : PE X e (tE X.K cls W m)) (hc : noComp e = true) : PS X (.Expr e pos) (tS X.K cls W (sExpr m)) := by
  refine PS.weak (ps_expr he (swaps_no hc)) fun E sg H h => ?_
  obtain ⟨rho, env, st, w, re, h⟩ := h
  refine ⟨rho, env, st, w, re, ?_⟩
  unfold sExpr at h
  cases q : m env st with
  | ok d st1 => rw [q] at h; exact fun rho1 H1 e1 w1 v rv => h sg rho1 H1 e1 w1 (re.ext e1)
  | exc c st1 => rw [q] at h; exact fun rho1 H1 e1 w1 => h sg rho1 H1 e1 w1 (re.ext e1)
  | stuck => rw [q] at h; exact h
theorem ps_retM (he : PE X e (tE X.K cls W m)) : PS X (.Return (some e) pos) (tS X.K cls W (sRet m)) := by
  refine PS.weak (ps_ret he) fun E sg H h => ?_
  obtain ⟨rho, env, st, w, re, h⟩ := h
  refine ⟨rho, env, st, w, re, ?_⟩
  unfold sRet at h
  cases q : m env st with
  | ok d st1 => rw [q] at h; exact fun rho1 H1 e1 w1 v rv => h v rho1 H1 e1 w1 rv
  | exc c st1 => rw [q] at h; exact fun rho1 H1 e1 w1 => h sg rho1 H1 e1 w1 (re.ext e1)
  | stuck => rw [q] at h; exact h
theorem tS_asg {K : PySem.W.Frag} {vs : List Nat} {g : MG} {E : Ends} {sg : L2.St} {H : Hp} (h : tS K cls W (sAsg m g) E sg H) : tAsg (tE K cls W m) (tGm K vs g) E sg H := by
  obtain ⟨rho, env, st, w, re, h⟩ := h
  refine ⟨rho, env, st, w, re, ?_⟩
  unfold sAsg at h
  cases q : m env st with
  | ok d st1 =>
    rw [q] at h
    intro rho1 H1 e1 w1 v rv
    cases q2 : g d env with
    | none => simp only [q2] at h; exact h.elim
    | some env2 =>
      simp only [q2] at h
      exact ⟨rho1, env, st1, d, env2, w1, re.ext e1, rv, q2, fun sg' re' _ _ => h sg' rho1 H1 e1 w1 re'⟩
  | exc c st1 => rw [q] at h; exact fun rho1 H1 e1 w1 => h sg rho1 H1 e1 w1 (re.ext e1)
  | stuck => rw [q] at h; exact h
theorem ps_setM {i : Nat} {x : Str} {p : Pos} (hN : X.N.Nodup) (hi : X.N[i]? = some x) (hx : Loc X.env.scope x) (hf : X.fn x = true ∨ X.env.scope.names.lookup x = some .local) (he : PE X e (tE X.K cls W m)) (hs : swapsWith e (some (.Name x p)) pos.line X.env = pure false) :
    PS X (.Assign [.Name x p] e pos) (tS X.K cls W (sAsg m (gVar i))) := by
  refine PS.weak (ps_set hN hi hx he hs hf) fun E sg H h => ?_
  have h' := tS_asg (vs := [i]) h
  obtain ⟨rho, env, st, w, re, h'⟩ := h'
  refine ⟨rho, env, st, w, re, OkR.mono h' fun d st1 rho1 H1 e1 w1 h1 v rv => ?_⟩
  obtain ⟨rho2, env2, st2, d2, env3, w2, re2, rd2, eg, h2⟩ := h1 v rv
  cases eg
  exact h2 _ (re2.set rd2 i) (by simp) fun j hj => by rw [List.getElem?_set_ne (fun z => hj (by simp [z]))]
theorem ps_tupM {es : List Expr} {is : List Nat} {k : Nat} {p : Pos} (hc : X.calm = true) (hN : X.N.Nodup) (n : NamesAt X es is) (he : PE X e (tE X.K cls W m)) (hs : noComp e = true) (ht : noTuple e = true) : PS X (.Assign [.Tuple es k p] e pos) (tS X.K cls W (sAsg m (gTupV is))) := by
  refine PS.weak (ps_asg he (pg_tupM (pos := p) (k := k) hc hN n) (by unfold swapsWithSole; exact swaps_no hs) ?_ rfl) fun E sg H h => tS_asg h
  cases e <;> first | rfl | cases ht
theorem ps_ifM {c : Expr} {mc : ME} {ss ts : List Stmt} {a b : MS} (hc : PT X c (tTm X.K cls W mc)) (ha : PSs X ss (tS X.K cls W a)) (hb : PSs X ts (tS X.K cls W b)) : PS X (.If c ss ts pos) (tS X.K cls W (sIf mc a b)) := by
  refine PS.weak (ps_if hc ha hb) fun E sg H h => ?_
  obtain ⟨rho, env, st, w, re, h⟩ := h
  refine ⟨rho, env, st, w, re, ?_⟩
  unfold sIf at h
  cases q : mT mc env st with
  | ok k st1 =>
    rw [q] at h
    intro rho1 H1 e1 w1
    cases k with
    | true => rw [if_pos rfl]; exact ⟨rho1, env, st1, w1, re.ext e1, OkS.from h e1⟩
    | false => rw [if_neg (by simp)]; exact ⟨rho1, env, st1, w1, re.ext e1, OkS.from h e1⟩
  | exc c st1 => rw [q] at h; exact fun rho1 H1 e1 w1 => h sg rho1 H1 e1 w1 (re.ext e1)
  | stuck => rw [q] at h; exact h
theorem ps_whileM {c : Expr} {mc : ME} {ss : List Stmt} {b : MS} {n : Nat} (hp : PassesOwn (model X.prog X.w) X.A X.env X.xe) (hc : PT X c (tTm X.K cls W mc)) (hb : PSs X ss (tS X.K cls W b)) : PS X (.While c ss [] pos) (tS X.K cls W (sWhile mc b n)) := by
  refine PS.weak (ps_while hp hc hb) fun E sg H h => ?_
  obtain ⟨rho, env, st, w, re, h⟩ := h
  refine ⟨fun k sg' H' => ∃ rho' env' st', Wld X.K rho' st' H' ∧ RelEnv X.K rho' H' env' sg' ∧ OkS X.K cls W rho' H' (sWhile mc b k env' st') E, ⟨n, rho, env, st, w, re, h⟩, ?_⟩
  rintro k sg1 H1 ⟨rho1, env1, st1, w1, re1, h1⟩
  cases k with
  | zero => exact h1.elim
  | succ k =>
    refine ⟨rho1, env1, st1, w1, re1, ?_⟩
    unfold sWhile at h1
    cases q : mT mc env1 st1 with
    | ok kk st2 =>
      rw [q] at h1
      intro rho2 H2 e2 w2
      cases kk with
      | true =>
        rw [if_pos rfl]
        refine ⟨fun sg' H' => ∃ rho' env' st', Wld X.K rho' st' H' ∧ RelEnv X.K rho' H' env' sg' ∧ OkS X.K cls W rho' H' (sWhile mc b k env' st') E, fun sg' H' q => ⟨k, Nat.lt_succ_self k, q⟩, rho2, env1, st2, w2, re1.ext e2, ?_⟩
        simp only at h1
        cases q2 : b env1 st2 with
        | nx env3 st3 => rw [q2] at h1; exact fun sg3 rho3 H3 e3 w3 re3 => ⟨rho3, env3, st3, w3, re3, OkS.from h1 (e2.trans e3)⟩
        | ct env3 st3 => rw [q2] at h1; exact fun sg3 rho3 H3 e3 w3 re3 => ⟨rho3, env3, st3, w3, re3, OkS.from h1 (e2.trans e3)⟩
        | bk env3 st3 => rw [q2] at h1; exact fun sg3 rho3 H3 e3 w3 re3 => h1 sg3 rho3 H3 (e2.trans e3) w3 re3
        | rt d st3 => rw [q2] at h1; exact fun v rho3 H3 e3 w3 rv => h1 v rho3 H3 (e2.trans e3) w3 rv
        | exc x env3 st3 => rw [q2] at h1; exact fun sg3 rho3 H3 e3 w3 re3 => h1 sg3 rho3 H3 (e2.trans e3) w3 re3
        | stuck => rw [q2] at h1; exact h1
      | false =>
        rw [if_neg (by simp)]
        exact h1 sg1 rho2 H2 e2 w2 (re1.ext e2)
    | exc c st2 => rw [q] at h1; exact fun rho2 H2 e2 w2 => h1 sg1 rho2 H2 e2 w2 (re1.ext e2)
    | stuck => rw [q] at h1; exact h1
theorem folded_no {iter : Expr} {env : Env} (h : noSet iter = true) : ∀ x, foldedSetIterable iter env x = pure x := by
  intro x
  cases iter <;> first | rfl | cases h
theorem ps_forM {ss : List Stmt} {mi : MIt} {g : MG} {vs : List Nat} {b : MS} (hp : PassesOwn (model X.prog X.w) X.A X.env X.xe) (hc : X.calm = true) (hs : noSet iter = true) (hi : PI X tg iter (tIm X.K cls W mi)) (hg : PG X tg (tGm X.K vs g)) (hb : PSs X ss (tS X.K cls W b)) :
    PS X (.For tg iter ss [] pos) (tS X.K cls W (sFor mi g b)) := by
  refine PS.weak (ps_for hp hc hi hg hb (folded_no hs)) fun E sg H h => ?_
  obtain ⟨rho, env, st, w, re, h⟩ := h
  refine ⟨rho, env, st, w, re, ?_⟩
  unfold sFor at h
  cases q : mi env st with
  | stuck => rw [q] at h; exact h
  | exc c st1 => rw [q] at h; exact fun rho1 H1 e1 w1 => h sg rho1 H1 e1 w1 (re.ext e1)
  | ok s st1 =>
    rw [q] at h
    intro rho1 H1 e1 w1 J P it hP hold
    refine ⟨fun i k sg' H' => ∃ rho' env' st', Wld X.K rho' st' H' ∧ RelEnv X.K rho' H' env' sg' ∧ P rho' H' ∧ s.holds st' ∧ k = s.items.length - i ∧ i ≤ s.items.length ∧ OkS X.K cls W rho' H' (forGo s g b (s.items.drop i) env' st') E,
      ⟨_, rho1, env, st1, w1, re.ext e1, hP, hold, rfl, Nat.zero_le _, by rw [List.drop_zero]; exact OkS.from h e1⟩, ?_⟩
    rintro i k sg2 H2 ⟨rho2, env2, st2, w2, re2, hP2, hold2, rfl, hle, ho⟩
    by_cases hlt : i < s.items.length
    · have hd : s.items[i]? = some s.items[i] := List.getElem?_eq_getElem hlt
      have edrop : s.items.drop i = s.items[i] :: s.items.drop (i + 1) := List.drop_eq_getElem_cons hlt
      rw [edrop] at ho
      unfold forGo at ho
      refine .inr ⟨it.go i _ rho2 st2 H2 w2 hP2 hold2 hd, fun sg' H' => ∃ rho' env' st', Wld X.K rho' st' H' ∧ RelEnv X.K rho' H' env' sg' ∧ P rho' H' ∧ s.holds st' ∧ OkS X.K cls W rho' H' (forGo s g b (s.items.drop (i + 1)) env' st') E, fun sg' H' ⟨r', v', t', a1, a2, a3, a4, a5⟩ => ⟨s.items.length - (i + 1), by omega, r', v', t', a1, a2, a3, a4, rfl, hlt, a5⟩, fun x H3 y => ?_⟩
      obtain ⟨e3, w3, rd⟩ := it.yld i _ rho2 st2 H2 x H3 w2 hP2 hold2 hd y
      have hP3 := it.stab _ _ _ _ hP2 e3
      cases q2 : g s.items[i] env2 with
      | none => rw [q2] at ho; exact ho.elim
      | some env3 =>
        rw [q2] at ho
        refine ⟨rho2, env2, st2, _, env3, w3, re2.ext e3, rd, q2, fun sg3 re3 _ _ => ⟨rho2, env3, st2, w3, re3, ?_⟩⟩
        simp only at ho
        cases q3 : b env3 st2 with
        | nx env4 st4 =>
          rw [q3] at ho
          simp only at ho
          split at ho
          · rename_i hh
            exact fun sg4 rho4 H4 e4 w4 re4 => ⟨rho4, env4, st4, w4, re4, it.stab _ _ _ _ hP3 e4, hh, OkS.from ho (e3.trans e4)⟩
          · exact ho.elim
        | ct env4 st4 =>
          rw [q3] at ho
          simp only at ho
          split at ho
          · rename_i hh
            exact fun sg4 rho4 H4 e4 w4 re4 => ⟨rho4, env4, st4, w4, re4, it.stab _ _ _ _ hP3 e4, hh, OkS.from ho (e3.trans e4)⟩
          · exact ho.elim
        | bk env4 st4 => rw [q3] at ho; exact fun sg4 rho4 H4 e4 w4 re4 => ho sg4 rho4 H4 (e3.trans e4) w4 re4
        | rt d st4 => rw [q3] at ho; exact fun v rho4 H4 e4 w4 rv => ho v rho4 H4 (e3.trans e4) w4 rv
        | exc x env4 st4 => rw [q3] at ho; exact fun sg4 rho4 H4 e4 w4 re4 => ho sg4 rho4 H4 (e3.trans e4) w4 re4
        | stuck => rw [q3] at ho; exact ho
    · have ei : i = s.items.length := by omega
      have edrop : s.items.drop i = [] := by rw [ei]; exact List.drop_length
      rw [edrop] at ho
      exact .inl ⟨it.stop i rho2 st2 H2 w2 hP2 hold2 (by omega), ho sg2 rho2 H2 (Ext.refl _ _) w2 re2⟩
/-! ### comprehensions -/
/-- nothing may be raised -/
abbrev WF : WX := fun _ _ _ _ => False
theorem OkR.noexc {α : Type} {K : PySem.W.Frag} {sg : L2.St} {rho : Rho} {H : Hp} {r : R α} {P : α → Sto → Rho → Hp → Prop} (a : α) (st : Sto) (e : r = .ok a st) (h : ∀ rho' H', Ext rho H rho' H' → Wld K rho' st H' → P a st rho' H') : OkR K cls W sg rho H r P := by
  subst e
  exact h
end
end MI
/-! MiI: comprehensions. -/
namespace MI
open PySem PySem.Spec PyProof.Rows L2
theorem wipe_out {vs : List Nat} {s : L2.St} {j : Nat} (hj : j ∉ vs) : (wipe s vs)[j]? = s[j]? := by
  induction vs with
  | nil => rfl
  | cons u us ih =>
    unfold L2.wipe
    rw [List.getElem?_set_ne (fun e => hj (by rw [e]; exact List.mem_cons_self))]
    exact ih fun z => hj (List.mem_cons_of_mem _ z)
theorem wipe_wipe {vs : List Nat} {s : L2.St} : wipe (wipe s vs) vs = wipe s vs := wipe_same (wipe_length s vs) fun j hj => wipe_out hj
/-- seen from outside the comprehension -/
theorem Ext.inner {r1 r2 r4 : Rho} {H1 H2 H4 : Hp} {p : Addr} (hp : H1 p = none) (hr : r2.res = p :: r1.res) (a : Ext r1 H1 (r2.show_ r1.res) H2) (b : Ext r2 H2 r4 H4) : Ext r1 H1 (r4.show_ r1.res) H4 := by
  refine ⟨?_, rfl, fun c o h n => ?_, fun c o h n => b.kres c o (a.kres c o h n) (by rw [hr]; exact List.mem_cons_of_mem _ n), fun c xs h => b.tup c xs (a.tup c xs h), fun c o u h => b.frz c o u (a.frz c o u h), fun c o h => ?_⟩
  · obtain ⟨n1, e1, h1⟩ := a.new
    obtain ⟨n2, e2, h2⟩ := b.new
    have e1' : r2.loc = r1.loc ++ n1 := e1
    refine ⟨n1 ++ n2, by show r4.loc = _; rw [e2, e1', List.append_assoc], fun c hc => ?_⟩
    rcases List.mem_append.mp hc with hc | hc
    · exact h1 c hc
    · exact a.none_of (h2 c hc)
  · have n2 := a.notMem h n
    refine b.keep c o (a.keep c o h n) fun z => ?_
    rcases z with z | z
    · exact n2 (.inl z)
    · rw [hr] at z
      rcases List.mem_cons.mp z with z | z
      · subst z; rw [hp] at h; cases h
      · exact n2 (.inr z)
  · obtain ⟨o1, h1⟩ := a.liv c o h
    exact b.liv c o1 h1
theorem Ext.over {r1 r : Rho} {H1 H4 : Hp} {p : Addr} {o : HO} (hp : H1 p = none) (a : Ext r1 H1 r H4) : Ext r1 H1 r (upd H4 p o) := by
  have ne : ∀ {c : Addr} {u : HO}, H1 c = some u → c ≠ p := fun h z => by subst z; rw [hp] at h; cases h
  exact ⟨a.new, a.res, fun c u h n => by rw [upd_ne (ne h)]; exact a.keep c u h n, fun c u h n => by rw [upd_ne (ne h)]; exact a.kres c u h n, fun c xs h => by rw [upd_ne (ne h)]; exact a.tup c xs h,
    fun c x u h => by rw [upd_ne (ne h)]; exact a.frz c x u h, fun c u h => by rw [upd_ne (ne h)]; exact a.liv c u h⟩
/-- the hidden list joins the store -/
def Rho.join (r : Rho) (p : Addr) (res : List Addr) : Rho := ⟨r.loc ++ [p], res⟩
mutual
theorem RelD.join {K : PySem.W.Frag} {rho : Rho} {H : Hp} {p : Addr} {res : List Addr} (hr : rho.res = p :: res) : ∀ {d : D} {v : V}, RelD K rho H d v → RelD K (rho.join p res) H d v
  | _, _, .non => .non
  | _, _, .bl b => .bl b
  | _, _, .int i => .int i
  | _, _, .str x => .str x
  | _, _, .tup q r => .tup q (RelDs.join hr r)
  | _, _, .lst q n r => .lst q (fun z => n (by
      rcases z with z | z
      · rcases List.mem_append.mp z with z | z
        · exact .inl z
        · exact .inr (by rw [hr, List.mem_singleton.mp z]; exact List.mem_cons_self)
      · exact .inr (by rw [hr]; exact List.mem_cons_of_mem _ z))) (RelDs.join hr r)
  | _, _, .fz q r => .fz q (RelDs.join hr r)
  | _, _, .dic q n r => .dic q (fun z => n (by
      rcases z with z | z
      · rcases List.mem_append.mp z with z | z
        · exact .inl z
        · exact .inr (by rw [hr, List.mem_singleton.mp z]; exact List.mem_cons_self)
      · exact .inr (by rw [hr]; exact List.mem_cons_of_mem _ z))) (RelK.join hr r)
  | _, _, .ref q => .ref (by
      obtain ⟨hl, _⟩ := List.getElem?_eq_some_iff.mp q
      show (rho.loc ++ [p])[_]? = _
      rw [List.getElem?_append_left hl]
      exact q)
theorem RelDs.join {K : PySem.W.Frag} {rho : Rho} {H : Hp} {p : Addr} {res : List Addr} (hr : rho.res = p :: res) : ∀ {ds : List D} {vs : List V}, RelDs K rho H ds vs → RelDs K (rho.join p res) H ds vs
  | _, _, .nil => .nil
  | _, _, .cons q t => .cons (RelD.join hr q) (RelDs.join hr t)
theorem RelK.join {K : PySem.W.Frag} {rho : Rho} {H : Hp} {p : Addr} {res : List Addr} (hr : rho.res = p :: res) : ∀ {ds : List (Key × D)} {vs : List (Key × V)}, RelK K rho H ds vs → RelK K (rho.join p res) H ds vs
  | _, _, .nil => .nil
  | _, _, .cons q t => .cons (RelD.join hr q) (RelK.join hr t)
end
theorem Wld.join {K : PySem.W.Frag} {rho : Rho} {st : Sto} {H : Hp} (w : Wld K rho st H) {p : Addr} {res : List Addr} (hr : rho.res = p :: res) (hp : p ∉ res) {ds : List D} {vs : List V} (h : H p = some (.lst vs)) (r : RelDs K rho H ds vs) : Wld K (rho.join p res) (st ++ [.lst ds]) H := by
  have pl : p ∉ rho.loc := fun z => w.dis p z (by rw [hr]; exact List.mem_cons_self)
  refine ⟨by simp [Rho.join, w.len], ?_, fun l a u h1 h2 => ?_, fun a ha z => ?_, fun b hb => w.rsv b (by rw [hr]; exact List.mem_cons_of_mem _ hb)⟩
  · show (rho.loc ++ [p]).Nodup
    rw [List.nodup_append]
    exact ⟨w.nd, by simp, fun a ha b hb => by rw [List.mem_singleton.mp hb]; exact fun e => pl (e ▸ ha)⟩
  · have h1' : (rho.loc ++ [p])[l]? = some a := h1
    by_cases hl : l < rho.loc.length
    · rw [List.getElem?_append_left hl] at h1'
      rw [List.getElem?_append_left (by rw [← w.len]; exact hl)] at h2
      have q := w.obj l a u h1' h2
      cases u with
      | lst ds => obtain ⟨vs, q, r⟩ := q; exact ⟨vs, q, r.join hr⟩
      | dic ds => obtain ⟨vs, q, r⟩ := q; exact ⟨vs, q, r.join hr⟩
      | ins c fs => obtain ⟨vs, C, dx, q, h2, h3, r⟩ := q; exact ⟨vs, C, dx, q, h2, h3, r.join hr⟩
      | dicT kvs => obtain ⟨vs, q, h3, r⟩ := q; exact ⟨vs, q, h3, r.join hr⟩
    · obtain ⟨hl2, _⟩ := List.getElem?_eq_some_iff.mp h1'
      have e : l = rho.loc.length := by simp at hl2; omega
      subst e
      rw [List.getElem?_append_right (Nat.le_refl _)] at h1'
      rw [w.len, List.getElem?_append_right (Nat.le_refl _)] at h2
      simp at h1' h2
      subst h1' h2
      exact ⟨vs, h, r.join hr⟩
  · rcases List.mem_append.mp ha with ha | ha
    · exact w.dis a ha (by rw [hr]; exact List.mem_cons_of_mem _ z)
    · rw [List.mem_singleton.mp ha] at z
      exact hp z
section
variable {X : Cx} {cls : Nat → Value} {W : WX} {pos : Pos} {tg elt iter : Expr} {me : ME}
def tCm (K : PySem.W.Frag) (cls : Nat → Value) (c : Option ME) : TT := match c with
  | none => tYes
  | some c => tTm K cls WF c
/-- what the walk of a comprehension leaves -/
theorem lc_go {K : PySem.W.Frag} {s : Src} {g : MG} {c : Option ME} {env : DEnv} {vs : List Nat} {sg : L2.St} {rho1 : Rho} {H1 : Hp} {st1 stf : Sto} {ys : List D} {J : It} {P : Rho → Hp → Prop} {D0 : Addr} {Qd : Hp → Prop}
    (it : ItOk K J s P) (w1 : Wld K rho1 st1 H1) (re : RelEnv K rho1 H1 env sg) (hP : P rho1 H1) (hold : s.holds st1) (hD : H1 D0 = none) (hgo : compGo s g c me (wipeD env vs) s.items st1 = .ok ys stf) (hz : ys.length ≤ sizeLine)
    (fin : ∀ rho2 H2 accV, rho2.res = D0 :: rho1.res → Ext rho1 H1 (rho2.show_ rho1.res) H2 → Wld K rho2 stf H2 → H2 D0 = some (.lst accV) → RelDs K rho2 H2 ys accV → Qd H2) :
    ∃ W : Nat → Nat → Hp → Prop, (∃ m, W 0 m (upd H1 D0 (.lst []))) ∧ ∀ i m H, W i m H →
      (J.stop i H ∧ Qd H) ∨ (J.go i H ∧ ∃ Nx : Hp → Prop, (∀ H', Nx H' → ∃ m', m' < m ∧ W (i + 1) m' H') ∧ ∀ x H', J.yld i H x H' → tGm K vs g x (wipe sg vs) H' fun sg2 H2 => wipe sg2 vs = wipe sg vs ∧ tCm K cls c sg2 H2 fun b H3 =>
        if b = true then tE K cls WF me sg2 H3 fun y H4 => ∃ acc, H4 D0 = some (.lst acc) ∧ acc.length < sizeLine ∧ Nx (upd H4 D0 (.lst (acc ++ [y]))) else Nx H3) := by
  refine ⟨fun i m H2 => ∃ rho2 st2 acc accV rest, rho2.res = D0 :: rho1.res ∧ Ext rho1 H1 (rho2.show_ rho1.res) H2 ∧ Wld K rho2 st2 H2 ∧ P rho2 H2 ∧ s.holds st2 ∧ H2 D0 = some (.lst accV) ∧ RelDs K rho2 H2 acc accV ∧ RelEnv K rho2 H2 (wipeD env vs) (wipe sg vs) ∧
      compGo s g c me (wipeD env vs) (s.items.drop i) st2 = .ok rest stf ∧ acc ++ rest = ys ∧ m = s.items.length - i ∧ i ≤ s.items.length, ?_, ?_⟩
  · refine ⟨_, rho1.hide D0, st1, [], [], ys, rfl, ?_, w1.hide hD (.lst []) trivial, it.hide _ _ _ _ hP hD, hold, upd_same, .nil, ?_, by rw [List.drop_zero]; exact hgo, rfl, rfl, Nat.zero_le _⟩
    · exact w1.extTmp hD _
    · have r := re.wipe vs
      exact ⟨r.len, fun i d h => let ⟨v, h1, h2⟩ := r.at_ i d h; ⟨v, h1, h2.hide hD⟩⟩
  · rintro i m H2 ⟨rho2, st2, acc, accV, rest, hr, ex, w2, hP2, hold2, hD2, racc, renv, hg2, eys, rfl, hle⟩
    have D0r : D0 ∈ rho2.res := by rw [hr]; exact List.mem_cons_self
    by_cases hlt : i < s.items.length
    · have hd : s.items[i]? = some s.items[i] := List.getElem?_eq_getElem hlt
      have edrop : s.items.drop i = s.items[i] :: s.items.drop (i + 1) := List.drop_eq_getElem_cons hlt
      rw [edrop] at hg2
      unfold compGo at hg2
      refine .inr ⟨it.go i _ rho2 st2 H2 w2 hP2 hold2 hd, fun H' => ∃ rho2 st2 acc accV rest, rho2.res = D0 :: rho1.res ∧ Ext rho1 H1 (rho2.show_ rho1.res) H' ∧ Wld K rho2 st2 H' ∧ P rho2 H' ∧ s.holds st2 ∧ H' D0 = some (.lst accV) ∧ RelDs K rho2 H' acc accV ∧ RelEnv K rho2 H' (wipeD env vs) (wipe sg vs) ∧
        compGo s g c me (wipeD env vs) (s.items.drop (i + 1)) st2 = .ok rest stf ∧ acc ++ rest = ys, fun H' ⟨a1, a2, a3, a4, a5, b1, b2, b3, b4, b5, b6, b7, b8, b9, b10⟩ => ⟨s.items.length - (i + 1), by omega, a1, a2, a3, a4, a5, b1, b2, b3, b4, b5, b6, b7, b8, b9, b10, rfl, hlt⟩, fun x H3 y => ?_⟩
      obtain ⟨e3, w3, rd⟩ := it.yld i _ rho2 st2 H2 x H3 w2 hP2 hold2 hd y
      cases q2 : g s.items[i] (wipeD env vs) with
      | none => rw [q2] at hg2; cases hg2
      | some env3 =>
        simp only [q2] at hg2
        refine ⟨rho2, wipeD env vs, st2, _, env3, w3, renv.ext e3, rd, q2, fun sg3 re3 hl3 hk3 => ⟨?_, ?_⟩⟩
        · rw [wipe_same hl3 hk3, wipe_wipe]
        · -- the test, then the element
          have body : ∀ (st4 : Sto) (rho4 : Rho) (H4 : Hp), Ext rho2 H2 rho4 H4 → Wld K rho4 st4 H4 → RelEnv K rho4 H4 env3 sg3 →
              (match me env3 st4 with | .ok y st => if s.holds st then (match compGo s g c me (wipeD env vs) (s.items.drop (i + 1)) st with | .ok ys st => R.ok (y :: ys) st | _ => .stuck) else .stuck | _ => .stuck) = R.ok rest stf →
              tE K cls WF me sg3 H4 fun y H5 => ∃ acc, H5 D0 = some (.lst acc) ∧ acc.length < sizeLine ∧ ∃ rho2 st2 acc' accV rest, rho2.res = D0 :: rho1.res ∧ Ext rho1 H1 (rho2.show_ rho1.res) (upd H5 D0 (.lst (acc ++ [y]))) ∧ Wld K rho2 st2 (upd H5 D0 (.lst (acc ++ [y]))) ∧ P rho2 (upd H5 D0 (.lst (acc ++ [y]))) ∧ s.holds st2 ∧ (upd H5 D0 (.lst (acc ++ [y]))) D0 = some (.lst accV) ∧ RelDs K rho2 (upd H5 D0 (.lst (acc ++ [y]))) acc' accV ∧ RelEnv K rho2 (upd H5 D0 (.lst (acc ++ [y]))) (wipeD env vs) (wipe sg vs) ∧
                compGo s g c me (wipeD env vs) (s.items.drop (i + 1)) st2 = .ok rest stf ∧ acc' ++ rest = ys := by
            intro st4 rho4 H4 e4 w4 re4 hm
            refine ⟨rho4, env3, st4, w4, re4, ?_⟩
            cases q4 : me env3 st4 with
            | exc c5 st5 => rw [q4] at hm; cases hm
            | stuck => rw [q4] at hm; cases hm
            | ok yd st5 =>
              simp only [q4] at hm
              split at hm
              · rename_i hh
                cases q5 : compGo s g c me (wipeD env vs) (s.items.drop (i + 1)) st5 with
                | exc c6 st6 => rw [q5] at hm; cases hm
                | stuck => rw [q5] at hm; cases hm
                | ok rest' st6 =>
                  rw [q5] at hm
                  simp only [R.ok.injEq] at hm
                  obtain ⟨erest, rfl⟩ := hm
                  intro rho5 H5 e5 w5 v rv
                  have e25 : Ext rho2 H2 rho5 H5 := e4.trans e5
                  have hD5 : H5 D0 = some (.lst accV) := e25.kres D0 _ hD2 D0r
                  have hr5 : rho5.res = D0 :: rho1.res := by rw [e25.res]; exact hr
                  have D0r5 : D0 ∈ rho5.res := by rw [hr5]; exact List.mem_cons_self
                  have la : acc.length = accV.length := racc.length
                  refine ⟨accV, hD5, ?_, rho5, st5, acc ++ [yd], accV ++ [v], rest', hr5, (Ext.inner hD hr ex e25).over hD, w5.grow D0r5 hD5 trivial trivial, it.grow _ _ _ _ _ D0r5 hD5 (it.stab _ _ _ _ hP2 e25), hh, upd_same, ?_, ?_, q5, ?_⟩
                  · have : ys.length = acc.length + rest.length := by rw [← eys, List.length_append]
                    rw [← erest, List.length_cons] at this
                    omega
                  · exact ((racc.ext e25).append (.cons rv .nil)).grow D0r5 hD5 trivial
                  · have r5 := renv.ext e25
                    exact ⟨r5.len, fun i d h => let ⟨v, h1, h2⟩ := r5.at_ i d h; ⟨v, h1, h2.grow D0r5 hD5 trivial⟩⟩
                  · rw [← eys, ← erest, List.append_assoc]; rfl
              · cases hm
          cases c with
          | none =>
            simp only [tCm, tYes, if_true]
            exact body st2 rho2 H3 e3 w3 re3 hg2
          | some c =>
            refine ⟨rho2, env3, st2, w3, re3, ?_⟩
            simp only at hg2
            cases q4 : mT c env3 st2 with
            | exc c5 st5 => rw [q4] at hg2; cases hg2
            | stuck => rw [q4] at hg2; cases hg2
            | ok kk st4 =>
              rw [q4] at hg2
              intro rho4 H4 e4 w4
              cases kk with
              | true =>
                rw [if_pos rfl]
                exact body st4 rho4 H4 (e3.trans e4) w4 (re3.ext e4) hg2
              | false =>
                rw [if_neg (by simp)]
                simp only at hg2
                split at hg2
                · rename_i hh
                  have e24 : Ext rho2 H2 rho4 H4 := e3.trans e4
                  exact ⟨rho4, st4, acc, accV, rest, by rw [e24.res]; exact hr, Ext.inner hD hr ex e24, w4, it.stab _ _ _ _ hP2 e24, hh, e24.kres D0 _ hD2 D0r, racc.ext e24, renv.ext e24, hg2, eys⟩
                · cases hg2
    · have ei : i = s.items.length := by omega
      have edrop : s.items.drop i = [] := by rw [ei]; exact List.drop_length
      rw [edrop] at hg2
      unfold compGo at hg2
      cases hg2
      rw [List.append_nil] at eys
      subst eys
      exact .inl ⟨it.stop i rho2 _ H2 w2 hP2 hold2 (by omega), fin rho2 H2 accV hr ex w2 hD2 racc⟩
theorem tE_lc {K : PySem.W.Frag} {mi : MIt} {g : MG} {c : Option ME} {vs : List Nat} {sg : L2.St} {H : Hp} {Q : VK} (h : tE K cls W (mComp mi vs g c me) sg H Q) : tLc (tIm K cls W mi) (tGm K vs g) (tCm K cls c) (tE K cls WF me) vs sg H Q := by
  obtain ⟨rho, env, st, w, re, h⟩ := h
  refine ⟨rho, env, st, w, re, ?_⟩
  unfold mComp at h
  cases q : mi env st with
  | exc c1 st1 => rw [q] at h; exact h
  | stuck => rw [q] at h; exact h
  | ok s st1 =>
    rw [q] at h
    simp only [R.bind_ok] at h
    intro rho1 H1 e1 w1 J P it hP hold D0 hD
    cases q2 : compGo s g c me (wipeD env vs) s.items st1 with
    | exc c1 st1 => rw [q2] at h; exact h.elim
    | stuck => rw [q2] at h; exact h.elim
    | ok ys stf =>
      rw [q2] at h
      simp only at h
      split at h
      · rename_i hz
        refine lc_go it w1 (re.ext e1) hP hold hD q2 hz fun rho2 H2 accV hr ex w2 hD2 racc => ?_
        have hsub : ∀ b ∈ rho1.res, b ∈ rho2.res := fun b hb => by rw [hr]; exact List.mem_cons_of_mem _ hb
        refine h (rho2.show_ rho1.res) H2 (e1.trans ex) (w2.show_ hsub) _ (.lst hD2 (fun z => ?_) (racc.show_ hsub))
        rcases z with z | z
        · exact w2.dis D0 z (by rw [hr]; exact List.mem_cons_self)
        · exact w1.fresh hD (.inr z)
      · exact h.elim
theorem tE_lcN {K : PySem.W.Frag} {mi : MIt} {g : MG} {c : Option ME} {vs : List Nat} {sg : L2.St} {H : Hp} {Q : VK} (h : tE K cls W (mCompN mi vs g c me) sg H Q) : tLc (tIm K cls W mi) (tGm K vs g) (tCm K cls c) (tE K cls WF me) vs sg H Q := by
  obtain ⟨rho, env, st, w, re, h⟩ := h
  refine ⟨rho, env, st, w, re, ?_⟩
  unfold mCompN at h
  cases q : mi env st with
  | exc c1 st1 => rw [q] at h; exact h
  | stuck => rw [q] at h; exact h
  | ok s st1 =>
    rw [q] at h
    simp only [R.bind_ok] at h
    intro rho1 H1 e1 w1 J P it hP hold D0 hD
    cases q2 : compGo s g c me (wipeD env vs) s.items st1 with
    | exc c1 st1 => rw [q2] at h; exact h.elim
    | stuck => rw [q2] at h; exact h.elim
    | ok ys stf =>
      rw [q2] at h
      simp only at h
      split at h
      · rename_i hz
        refine lc_go it w1 (re.ext e1) hP hold hD q2 hz fun rho2 H2 accV hr ex w2 hD2 racc => ?_
        have D0n : D0 ∉ rho1.res := fun z => w1.fresh hD (.inr z)
        refine h (rho2.join D0 rho1.res) H2 (e1.trans ⟨?_, rfl, ex.keep, ex.kres, ex.tup, ex.frz, ex.liv⟩) (w2.join hr D0n hD2 racc) _ (.ref ?_)
        · obtain ⟨n, en, hn⟩ := ex.new
          have en' : rho2.loc = rho1.loc ++ n := en
          refine ⟨n ++ [D0], by show rho2.loc ++ [D0] = _; rw [en', List.append_assoc], fun b hb => ?_⟩
          rcases List.mem_append.mp hb with hb | hb
          · exact hn b hb
          · rw [List.mem_singleton.mp hb]; exact hD
        · show (rho2.loc ++ [D0])[stf.length]? = some D0
          rw [← w2.len]
          simp
      · exact h.elim
/-- what a comprehension is made of -/
structure LcOk (X : Cx) (cls : Nat → Value) (W : WX) (elt tg iter : Expr) (ifs : List Expr) (scope : Scope) (vs : List Nat) (mi : MIt) (g : MG) (c : Option ME) (me : ME) : Prop where
  hc : X.calm = true
  hN : X.N.Nodup
  hs : noSet iter = true
  hi : PI X tg iter (tIm X.K cls W mi)
  ok : ∃ own : List (Str × Nat), own.map (·.2) = vs ∧ BlkOk X.N X.env.scope scope own
  hg : ∀ (s : Shared) (H : Hp) (C : Addr) (cl : List (Str × Addr)) (fp : List Addr), PG (X.blk s H scope (compEnvC scope cl C X.env) fp) tg (tGm X.K vs g)
  ht : ∀ (s : Shared) (H : Hp) (C : Addr) (cl : List (Str × Addr)) (fp : List Addr), PTs (X.blk s H scope (compEnvC scope cl C X.env) fp) ifs (tCm X.K cls c)
  he : ∀ (s : Shared) (H : Hp) (C : Addr) (cl : List (Str × Addr)) (fp : List Addr), PE (X.blk s H scope (compEnvC scope cl C X.env) fp) elt (tE X.K cls WF me)
theorem LcOk.pe {ifs : List Expr} {scope : Scope} {vs : List Nat} {mi : MIt} {g : MG} {c : Option ME} (L : LcOk X cls W elt tg iter ifs scope vs mi g c me) (n : Bool) : PE X (.ListComp elt [⟨tg, iter, ifs, 0⟩] scope pos) (tE X.K cls W (if n then mCompN mi vs g c me else mComp mi vs g c me)) := by
  obtain ⟨own, rfl, ok⟩ := L.ok
  refine PE.weak (pe_lc L.hc L.hN L.hi ok L.hg L.ht L.he (folded_no L.hs)) fun sg H Q h => ?_
  cases n with
  | true => exact tE_lcN h
  | false => exact tE_lc h
theorem LcOk.set {ifs : List Expr} {scope : Scope} {vs : List Nat} {mi : MIt} {g : MG} {c : Option ME} (L : LcOk X cls W elt tg iter ifs scope vs mi g c me) (n : Bool) {i : Nat} {y : Str} {py spos : Pos} (hy : X.N[i]? = some y) (hyl : X.env.scope.names.lookup y = some .local)
    (hsw : swapsWith (.ListComp elt [⟨tg, iter, ifs, 0⟩] scope pos) (some (.Name y py)) spos.line X.env = pure true) : PS X (.Assign [.Name y py] (.ListComp elt [⟨tg, iter, ifs, 0⟩] scope pos) spos) (tS X.K cls W (sAsg (if n then mCompN mi vs g c me else mComp mi vs g c me) (gVar i))) := by
  obtain ⟨own, rfl, ok⟩ := L.ok
  refine PS.weak (ps_setLc L.hc L.hN hy hyl hsw L.hi ok L.hg L.ht L.he (folded_no L.hs)) fun E sg H h => ?_
  have h' := tS_asg (vs := [i]) h
  have go : ∀ x H1, tGm X.K [i] (gVar i) x sg H1 E.nx → gName i x sg H1 E.nx := fun x H1 q => by
    obtain ⟨rho2, env2, st2, d2, env3, w2, re2, rd2, eg, h2⟩ := q
    cases eg
    exact h2 _ (re2.set rd2 i) (by simp) fun j hj => by rw [List.getElem?_set_ne (fun z => hj (by simp [z]))]
  have h2 : tE X.K cls W (if n then mCompN mi (own.map (·.2)) g c me else mComp mi (own.map (·.2)) g c me) sg H (fun x H1 => gName i x sg H1 E.nx) := by
    obtain ⟨rho, env, st, w, re, h'⟩ := h'
    exact ⟨rho, env, st, w, re, OkR.mono h' fun d st1 rho1 H1 e1 w1 q v rv => go v H1 (q v rv)⟩
  cases n with
  | true => exact tE_lcN h2
  | false => exact tE_lc h2
end
end MI
/-! MiJ: chains, stores by place, raise, try. -/
namespace MI
open PySem PySem.Spec PyProof.Rows L2
/-- a op b op' c -/
def mChain (f g : D → D → Sto → R D) (a b c : ME) : ME := fun env st => (a env st).bind fun x st => (b env st).bind fun y st => (f x y st).bind fun z st => match z with
  | .bl true => (c env st).bind fun w st => g y w st
  | .bl false => .ok (.bl false) st
  | _ => .stuck
/-- o[i] = v -/
def putD (kvs : List (Key × D)) (k : Key) (d : D) : List (Key × D) :=
  if (kvs.any fun kv => decide (kv.1 = k)) = true then kvs.map (fun kv => if kv.1 = k then (kv.1, d) else kv) else kvs ++ [(k, d)]
def setAt (o i d : D) (st : Sto) : R Unit := match o with
  | .ref l => match st[l]? with
    | some (.lst xs) => (match i with
      | .int k => (match ixN xs.length k with
        | some j => .ok () (st.set l (.lst (xs.set j d)))
        | none => .stuck)
      | _ => .stuck)
    | some (.dic kvs) => (match keyOf i with
      | some k => if kvs.length < sizeLine then .ok () (st.set l (.dic (putD kvs k d))) else .stuck
      | none => .stuck)
    | _ => .stuck
  | _ => .stuck
def sSet (o i e : ME) : MS := fun env st => match (e env st).bind fun d st => (o env st).bind fun x st => (i env st).bind fun y st => setAt x y d st with
  | .ok _ st => .nx env st
  | .exc c st => .exc c env st
  | .stuck => .stuck
def augF (op : Operator) : Option (D → D → Sto → R D) := match op with
  | .Add => some fun x y st => match x, y with
    | .int i, .int j => .ok (.int (i + j)) st
    | _, _ => .stuck
  | .Sub => some fun x y st => match x, y with
    | .int i, .int j => .ok (.int (i - j)) st
    | _, _ => .stuck
  | _ => none
def sAug (i : Nat) (f : D → D → Sto → R D) (e : ME) : MS := fun env st => match env[i]? with
  | some (some x) => (match (e env st).bind fun y st => f x y st with
    | .ok z st => .nx (env.set i (some z)) st
    | .exc c st => .exc c env st
    | .stuck => .stuck)
  | _ => .stuck
def sAugS (f : D → D → Sto → R D) (o i e : ME) : MS := fun env st => match (o env st).bind fun x st => (i env st).bind fun y st => match deref st x with
    | .lst _ => (opIx x y st).bind fun z st => (e env st).bind fun u st => (f z u st).bind fun r st => setAt x y r st
    | _ => .stuck with
  | .ok _ st => .nx env st
  | .exc c st => .exc c env st
  | .stuck => .stuck
/-- the first clause that takes it -/
def sTry (sub : Nat → Nat → Bool) (b : MS) (hs : List (Nat × MS)) : MS := fun env st => match b env st with
  | .exc c env st => pick c env st hs
  | r => r
where pick (c : Nat) (env : DEnv) (st : Sto) : List (Nat × MS) → SR
  | [] => .exc c env st
  | (h, s) :: hs => if sub c h = true then s env st else pick c env st hs
section
variable {X : Cx} {cls : Nat → Value} {W : WX} {pos : Pos} {a b c e o i : Expr} {ma mb mc m mo mi : ME}
theorem tE_chain {K : PySem.W.Frag} {r r' : R2} {f g : D → D → Sto → R D} (hf : ∀ {sg : L2.St} {rho : Rho} {st : Sto} {H : Hp} {Q : VK} {x y : D} {v u : V}, Wld K rho st H → RelD K rho H x v → RelD K rho H y u → OkR K cls W sg rho H (f x y st) (VQ K Q) → r v u H Q)
    (hg : ∀ {sg : L2.St} {rho : Rho} {st : Sto} {H : Hp} {Q : VK} {x y : D} {v u : V}, Wld K rho st H → RelD K rho H x v → RelD K rho H y u → OkR K cls W sg rho H (g x y st) (VQ K Q) → r' v u H Q)
    {sg : L2.St} {H : Hp} {Q : VK} (h : tE K cls W (mChain f g ma mb mc) sg H Q) : tChain r r' (tE K cls W ma) (tE K cls W mb) (tE K cls W mc) sg H Q := by
  obtain ⟨rho, env, st, w, re, h⟩ := h
  refine ⟨rho, env, st, w, re, OkR.mono (OkR.bind h) fun d1 st1 rho1 H1 e1 w1 h1 v1 rv1 => ?_⟩
  refine ⟨rho1, env, st1, w1, re.ext e1, OkR.mono (OkR.bind h1) fun d2 st2 rho2 H2 e2 w2 h2 v2 rv2 => ?_⟩
  refine hf w2 (rv1.ext e2) rv2 (OkR.mono (OkR.bind h2) fun d3 st3 rho3 H3 e3 w3 h3 v3 rv3 => ?_)
  split at h3
  · cases rv3
    refine ⟨true, rfl, ?_⟩
    rw [if_pos rfl]
    exact ⟨rho3, env, st3, w3, ((re.ext e1).ext e2).ext e3, OkR.mono (OkR.bind h3) fun d4 st4 rho4 H4 e4 w4 h4 v4 rv4 => hg w4 ((rv2.ext e3).ext e4) rv4 h4⟩
  · cases rv3
    refine ⟨false, rfl, ?_⟩
    rw [if_neg (by simp)]
    exact ok_here w3 h3 (.bl _)
  · exact h3.elim
theorem lastMarks_no {op op' : CmpOp} (h : behindInMarks op' c = false) : lastMarks [op, op'] [b, c] = false := by
  simp only [lastMarks]
  exact h
theorem mChain_bl {f g : D → D → Sto → R D} (hg : ∀ x y st d st', g x y st = .ok d st' → ∃ k, d = .bl k) : ∀ env st d st', mChain f g ma mb mc env st = .ok d st' → ∃ k, d = .bl k := by
  intro env st d st' q
  unfold mChain at q
  cases q1 : ma env st with
  | exc c' st' => rw [q1] at q; cases q
  | stuck => rw [q1] at q; cases q
  | ok d1 st1 =>
    rw [q1] at q
    simp only [R.bind_ok] at q
    cases q2 : mb env st1 with
    | exc c' st' => rw [q2] at q; cases q
    | stuck => rw [q2] at q; cases q
    | ok d2 st2 =>
      rw [q2] at q
      simp only [R.bind_ok] at q
      cases q3 : f d1 d2 st2 with
      | exc c' st' => rw [q3] at q; cases q
      | stuck => rw [q3] at q; cases q
      | ok d3 st3 =>
        rw [q3] at q
        simp only [R.bind_ok] at q
        split at q
        · cases q4 : mc env st3 with
          | exc c' st' => rw [q4] at q; cases q
          | stuck => rw [q4] at q; cases q
          | ok d4 st4 => rw [q4] at q; exact hg _ _ _ _ _ q
        · cases q; exact ⟨_, rfl⟩
        · cases q
theorem OkU {K : PySem.W.Frag} {sg : L2.St} {rho : Rho} {H : Hp} {env : DEnv} {r : R Unit} {E : Ends} (re : RelEnv K rho H env sg) (h : OkS K cls W rho H (match r with | .ok _ st => SR.nx env st | .exc c st => .exc c env st | .stuck => .stuck) E) :
    OkR K cls W sg rho H r (fun _ _ _ H' => E.nx sg H') := by
  cases r with
  | ok u st => exact fun rho1 H1 e1 w1 => h sg rho1 H1 e1 w1 (re.ext e1)
  | exc c st => exact fun rho1 H1 e1 w1 => h sg rho1 H1 e1 w1 (re.ext e1)
  | stuck => exact h
def rSetA : TSet := fun o i v H Q => rSetL o i v H Q ∨ rSetD o i v H Q
theorem set_all (hu : X.A.units + 1 < cLine) : PSet X rSetA := fun pins s sg H o i v ov iv u Q I ro ri rv h => h.elim (set_list pins s sg H o i v ov iv u Q I ro ri rv) (set_dict hu pins s sg H o i v ov iv u Q I ro ri rv)
theorem relDs_set {K : PySem.W.Frag} {rho : Rho} {H : Hp} : ∀ {ds : List D} {vs : List V} {d : D} {v : V} (j : Nat), RelDs K rho H ds vs → RelD K rho H d v → RelDs K rho H (ds.set j d) (vs.set j v)
  | _, _, _, _, _, .nil, _ => .nil
  | _, _, _, _, 0, .cons _ t, r => .cons r t
  | _, _, _, _, j + 1, .cons h t, r => .cons h (relDs_set j t r)
theorem relK_put {K : PySem.W.Frag} {rho : Rho} {H : Hp} {ds : List (Key × D)} {vs : List (Key × V)} {k : Key} {d : D} {v : V} (r : RelK K rho H ds vs) (rd : RelD K rho H d v) : RelK K rho H (putD ds k d) (putK vs k v) := by
  have any : ∀ {ds : List (Key × D)} {vs : List (Key × V)}, RelK K rho H ds vs → (ds.any fun kv => decide (kv.1 = k)) = (vs.any fun kv => decide (kv.1 = k)) := by
    intro ds vs r
    induction vs generalizing ds with
    | nil => cases r; rfl
    | cons kv vs ih =>
      cases r with
      | cons h t => simp [ih t]
  have mp : ∀ {ds : List (Key × D)} {vs : List (Key × V)}, RelK K rho H ds vs → RelK K rho H (ds.map fun kv => if kv.1 = k then (kv.1, d) else kv) (vs.map fun kv => if kv.1 = k then (kv.1, v) else kv) := by
    intro ds vs r
    induction vs generalizing ds with
    | nil => cases r; exact .nil
    | cons kv vs ih =>
      cases r with
      | cons h t =>
        simp only [List.map_cons]
        split
        · exact .cons rd (ih t)
        · exact .cons h (ih t)
  have ap : ∀ {ds : List (Key × D)} {vs : List (Key × V)}, RelK K rho H ds vs → RelK K rho H (ds ++ [(k, d)]) (vs ++ [(k, v)]) := by
    intro ds vs r
    induction vs generalizing ds with
    | nil => cases r; exact .cons rd .nil
    | cons kv vs ih =>
      cases r with
      | cons h t => exact .cons h (ih t)
  unfold putD putK
  rw [any r]
  split
  · exact mp r
  · exact ap r
theorem hop_set {K : PySem.W.Frag} {sg : L2.St} {rho : Rho} {st : Sto} {H : Hp} {x y d : D} {v u z : V} {Q : Hp → Prop} (w : Wld K rho st H) (r1 : RelD K rho H x v) (r2 : RelD K rho H y u) (r3 : RelD K rho H d z) (h : OkR K cls W sg rho H (setAt x y d st) (fun _ _ _ H' => Q H')) : rSetA v u z H Q := by
  unfold setAt at h
  split at h
  · split at h
    · rename_i hl
      obtain ⟨a, ks, rfl, ha, h1, h2⟩ := ref_lst w r1 hl
      split at h
      · split at h
        · rename_i j hj
          cases r2
          refine .inl ⟨a, ks, _, j, rfl, rfl, h1, by rw [← h2.length]; exact hj, ?_⟩
          exact h rho _ (w.extSet ha _) (w.set ha ⟨_, upd_same, (relDs_set j h2 r3).ext (w.extSet ha _)⟩)
        · exact h.elim
      · exact h.elim
    · rename_i hl
      obtain ⟨a, ks, rfl, ha, h1, h2⟩ := ref_dic w r1 hl
      split at h
      · rename_i k hk
        split at h
        · rename_i hz
          refine .inr ⟨a, upd H a (.dK (putK ks k z)), rfl, ?_, ?_⟩
          · rw [keyOf_rel r2 hk]
            exact DPut.k h1 (by rw [← h2.length]; exact hz)
          · exact h rho _ (w.extSet ha _) (w.set ha ⟨_, upd_same, (relK_put h2 r3).ext (w.extSet ha _)⟩)
        · exact h.elim
      · exact h.elim
    · exact h.elim
  · exact h.elim
theorem ps_setIxM {p : Pos} (hu : X.A.units + 1 < cLine) (ho : PE X o (tE X.K cls W mo)) (hi : PE X i (tE X.K cls W mi)) (he : PE X e (tE X.K cls W m)) (hs : noComp e = true) (hsl : noSlice i = true) : PS X (.Assign [.Subscript o i p] e pos) (tS X.K cls W (sSet mo mi m)) := by
  have hg : PG X (.Subscript o i p) (gSub (tE X.K cls W mo) (tE X.K cls W mi) rSetA) := pg_sub ho hi (set_all hu) (by
    intro v
    cases i <;> first | rfl | cases hsl)
  refine PS.weak (ps_asg he hg (by unfold swapsWithSole; exact swaps_no hs) rfl rfl) fun E sg H h => ?_
  obtain ⟨rho, env, st, w, re, h⟩ := h
  have h := OkU re h
  refine ⟨rho, env, st, w, re, OkR.mono (OkR.bind h) fun d1 st1 rho1 H1 e1 w1 h1 v1 rv1 => ?_⟩
  refine ⟨rho1, env, st1, w1, re.ext e1, OkR.mono (OkR.bind h1) fun d2 st2 rho2 H2 e2 w2 h2 v2 rv2 => ?_⟩
  refine ⟨rho2, env, st2, w2, (re.ext e1).ext e2, OkR.mono (OkR.bind h2) fun d3 st3 rho3 H3 e3 w3 h3 v3 rv3 => ?_⟩
  exact hop_set w3 (rv2.ext e3) rv3 ((rv1.ext e2).ext e3) h3
/-! ### op= -/
theorem aug_ok {op : Operator} {f : D → D → Sto → R D} (hf : augF op = some f) : ∃ t : TIp, PIp X op t ∧ ∀ {sg : L2.St} {rho : Rho} {st : Sto} {H : Hp} {Q : VK} {x y : D} {v u : V}, Wld X.K rho st H → RelD X.K rho H x v → RelD X.K rho H y u → OkR X.K cls W sg rho H (f x y st) (VQ X.K Q) → t v u H Q := by
  cases op <;> simp only [augF, Option.some.injEq, reduceCtorEq] at hf
  · subst hf
    refine ⟨_, ip_add, fun {sg rho st H Q x y v u} w r1 r2 h => ?_⟩
    dsimp only at h
    split at h
    · cases r1; cases r2
      exact ⟨_, _, rfl, rfl, ok_here w h (.int _)⟩
    · exact h.elim
  · subst hf
    refine ⟨_, ip_sub, fun {sg rho st H Q x y v u} w r1 r2 h => ?_⟩
    dsimp only at h
    split at h
    · cases r1; cases r2
      exact ⟨_, _, rfl, rfl, ok_here w h (.int _)⟩
    · exact h.elim
theorem ps_augM {op : Operator} {f : D → D → Sto → R D} {j : Nat} {x : Str} {p : Pos} (hf : augF op = some f) (hN : X.N.Nodup) (hi : X.N[j]? = some x) (hx : Loc X.env.scope x) (hl : X.fn x = true ∨ X.env.scope.names.lookup x = some .local) (he : PE X e (tE X.K cls W m)) :
    PS X (.AugAssign (.Name x p) op e pos) (tS X.K cls W (sAug j f m)) := by
  obtain ⟨t, ht, hop⟩ := aug_ok (X := X) (cls := cls) (W := W) hf
  refine PS.weak (ps_aug hN hi hx he ht hl) fun E sg H h => ?_
  obtain ⟨rho, env, st, w, re, h⟩ := h
  unfold sAug at h
  split at h
  · rename_i d hd
    obtain ⟨v, hv, rv⟩ := re.at_ j d hd
    refine ⟨v, hv, rho, env, st, w, re, ?_⟩
    have h' : OkR X.K cls W sg rho H ((m env st).bind fun y st => f d y st) (fun z _ rho' H' => ∀ u, RelD X.K rho' H' z u → E.nx (sg.set j (some u)) H') := by
      cases q : ((m env st).bind fun y st => f d y st) with
      | ok z st1 =>
        rw [q] at h
        exact fun rho1 H1 e1 w1 u ru => h _ rho1 H1 e1 w1 ((re.ext e1).set ru j)
      | exc c st1 => rw [q] at h; exact fun rho1 H1 e1 w1 => h sg rho1 H1 e1 w1 (re.ext e1)
      | stuck => rw [q] at h; exact h
    exact OkR.mono (OkR.bind h') fun d1 st1 rho1 H1 e1 w1 h1 v1 rv1 => hop w1 (rv.ext e1) rv1 h1
  · exact h.elim
/-! ### raise -/
theorem pmk_own0 {C : Addr} {bmB : List Value} {B newId initId : String} {x : Str} {p : Pos} (F : ExcBaseFacts B newId initId bmB) (q : PySem.W.excIn X.K C bmB newId = true) (gC : X.mg x = some (.ref C)) (kC : PySem.W.keepIn X.K (.ref C) = true) (r : Raises X (.ref C)) (hg : Gl X x)
    (hdb : (x == ("__debug__" : Str)) = false) : PMk X (.Call (.Name x p) [] [] pos) (fun _ H Q => Q (.ref C) none H) := by
  intro pins s sg H Q I h
  refine wpAny_Call_Name_kw (ld_glob I hg gC ?_ hdb)
  refine PySem.W.callWith_K0 I.kIn kC ?_
  obtain ⟨bm, N, nm, qn, bs, hdct, sn, sub, ab, col, dd, k0, k1, k2, k3, k5, mN, hC, hN, hni, T⟩ := exc_obj I.kIn q
  refine wpAny_call_exc_subT F T hC hN hni (fun h' e hm => ?_) (by show 0 ≤ sizeLine; exact Nat.zero_le _)
  exact mk_of I hm r h (I.hok.gone hm.new)
theorem ps_raiseM {C : Addr} {x : Str} {p p1 : Pos} {n : Nat} (hcls : cls n = .ref C) (hc : X.calm = true) (tk : Takes X W) (q : PySem.W.excIn X.K C [.type "ValueError", .type "Exception", .type "BaseException", .type "object"] "ValueError.__new__" = true) (gC : X.mg x = some (.ref C)) (kC : PySem.W.keepIn X.K (.ref C) = true) (r : Raises X (.ref C)) (hg : Gl X x)
    (hdb : (x == ("__debug__" : Str)) = false) : PS X (.Raise (some (.Call (.Name x p) [] [] p1)) none pos) (tS X.K cls W (sRaise n)) := by
  refine PS.weak (ps_raise hc tk (pmk_own0 PySem.F.excBase_ValueError q gC kC r hg hdb)) fun E sg H h => ?_
  obtain ⟨rho, env, st, w, re, h⟩ := h
  have := h sg rho H (Ext.refl _ _) w re
  rw [hcls] at this
  exact this
/-! ### try -/
theorem try_pick {K : PySem.W.Frag} {sub : Nat → Nat → Bool} {E : Ends} (hsub : ∀ a b, PySem.W.exmOne K (cls a) (cls b) = some (sub a b)) : ∀ (hs : List (Nat × MS)) (c : Nat) (env : DEnv) (st : Sto) (rho : Rho) (H : Hp), OkS K cls W rho H (sTry.pick sub c env st hs) E →
    (∀ h ∈ hs, ∀ env st rho H, OkS K cls W rho H (h.2 env st) E → OkS K cls WF rho H (h.2 env st) E) →
    ∀ sg rho' H', Ext rho H rho' H' → Wld K rho' st H' → RelEnv K rho' H' env sg → wMany K W E (hs.map fun h => (cls h.1, fun _ _ _ => tS K cls WF h.2)) (cls c) none sg H'
  | [], c, env, st, rho, H, h, _ => fun sg rho' H' e w re => h sg rho' H' e w re
  | (n, s) :: hs, c, env, st, rho, H, h, hw => fun sg rho' H' e w re => by
    refine ⟨sub c n, hsub c n, fun hb a ha => ?_, fun hb => ?_⟩
    · unfold sTry.pick at h
      rw [if_pos hb] at h
      exact ⟨rho', env, st, w, re, OkS.from (hw (n, s) List.mem_cons_self env st rho H h) e⟩
    · unfold sTry.pick at h
      rw [if_neg (by rw [hb]; simp)] at h
      exact try_pick hsub hs c env st rho H h (fun q hq => hw q (List.mem_cons_of_mem _ hq)) sg rho' H' e w re
/-- a suite that raises nothing -/
def Quiet (s : MS) : Prop := ∀ env st, match s env st with
  | .exc _ _ _ => False
  | _ => True
theorem Quiet.wish {K : PySem.W.Frag} {s : MS} (q : Quiet s) {env : DEnv} {st : Sto} {rho : Rho} {H : Hp} {E : Ends} (h : OkS K cls W rho H (s env st) E) : OkS K cls WF rho H (s env st) E := by
  have z := q env st
  cases r : s env st with
  | exc c env st => rw [r] at z; exact z.elim
  | nx env st => rw [r] at h; exact h
  | rt d st => rw [r] at h; exact h
  | bk env st => rw [r] at h; exact h
  | ct env st => rw [r] at h; exact h
  | stuck => rw [r] at h; exact h
theorem ps_tryM {body : List Stmt} {h0 : ExceptHandler} {hds : List ExceptHandler} {mb : MS} {hs : List (Nat × MS)} {sub : Nat → Nat → Bool} (hst : X.stack = X.env :: X.outer) (hf : X.env.frame = some X.env.locals) (tk : Takes X W)
    (hb : ∀ (W' : WX) (pn : List (Addr × Obj)) (xe : Value → Shared → Prop), Takes (X.tr pn xe) W' → PassesOwn (model X.prog X.w) X.A X.env xe → PSs (X.tr pn xe) body (tS X.K cls W' mb))
    (hh : HdsOk X (h0 :: hds) (hs.map fun h => (cls h.1, fun _ _ _ => tS X.K cls WF h.2))) (hsub : ∀ a b, PySem.W.exmOne X.K (cls a) (cls b) = some (sub a b)) (hq : ∀ h ∈ hs, Quiet h.2) :
    PS X (.Try body (h0 :: hds) [] [] pos) (tS X.K cls W (sTry sub mb hs)) := by
  refine PS.weak (ps_try_many (tb := fun W' => tS X.K cls W' mb) hst hf tk hb hh) fun E sg H h => ?_
  obtain ⟨rho, env, st, w, re, h⟩ := h
  refine ⟨rho, env, st, w, re, ?_⟩
  unfold sTry at h
  cases q : mb env st with
  | exc c env1 st1 =>
    rw [q] at h
    exact try_pick hsub hs c env1 st1 rho H h fun p hp env st rho H z => (hq p hp).wish z
  | nx env1 st1 => rw [q] at h; exact h
  | rt d st1 => rw [q] at h; exact h
  | bk env1 st1 => rw [q] at h; exact h
  | ct env1 st1 => rw [q] at h; exact h
  | stuck => rw [q] at h; exact h
theorem ps_breakM : PS X (.Break pos) (tS X.K cls W fun env st => .bk env st) := PS.weak ps_break fun E sg H h => by
  obtain ⟨rho, env, st, w, re, h⟩ := h
  exact h sg rho H (Ext.refl _ _) w re
theorem ps_contM : PS X (.Continue pos) (tS X.K cls W fun env st => .ct env st) := PS.weak ps_continue fun E sg H h => by
  obtain ⟨rho, env, st, w, re, h⟩ := h
  exact h sg rho H (Ext.refl _ _) w re
theorem ps_retNM : PS X (.Return none pos) (tS X.K cls W (sRet (mC .non))) := PS.weak ps_retN fun E sg H h => by
  obtain ⟨rho, env, st, w, re, h⟩ := h
  exact h .non rho H (Ext.refl _ _) w .non
end
end MI
/-! MiAu: xs[i] op= e, xs a list. -/
namespace MI
open PySem PySem.Spec PyProof.Rows L2
def augAdd : D → D → Sto → R D := fun x y st => match x, y with
  | .int i, .int j => .ok (.int (i + j)) st
  | _, _ => .stuck
def augSub : D → D → Sto → R D := fun x y st => match x, y with
  | .int i, .int j => .ok (.int (i - j)) st
  | _, _ => .stuck
def getN (x y : D) (st : Sto) : R D := match deref st x, y with
  | .lst ds, .int k => if 0 ≤ k ∧ k < ds.length then (match ds[k.toNat]? with
    | some d => .ok d st
    | none => .stuck) else .stuck
  | _, _ => .stuck
def sAugL (f : D → D → Sto → R D) (o i e : ME) : MS := fun env st => match (o env st).bind fun x st => (i env st).bind fun y st => (getN x y st).bind fun z st => (e env st).bind fun u st => (f z u st).bind fun r st => setAt x y r st with
  | .ok _ st => .nx env st
  | .exc c st => .exc c env st
  | .stuck => .stuck
section
variable {X : Cx} {cls : Nat → Value} {W : WX} {pos : Pos} {e o i : Expr} {m mo mi : ME}
def rGetN (K : PySem.W.Frag) : V → V → Hp → VK → Prop := fun x y H Q => ∃ (p : Addr) (xs : List V) (k : Int) (v : V), x = .ref p ∧ y = .int k ∧ SqL K H p xs ∧ 0 ≤ k ∧ xs[k.toNat]? = some v ∧ Q v H
theorem get_list : PGet X (rGetN X.K) := by
  intro pins s σ H x y v u Q I rx ry h
  obtain ⟨p, xs, k, z, rfl, rfl, hq, h0, he, q⟩ := h
  cases rx
  obtain ⟨t, rfl⟩ := ry
  obtain ⟨its, r, pl, hz⟩ := I.list hq
  obtain ⟨w, ew, rw'⟩ := r.get he
  have hl := r.length
  have hn := line63
  have hk : k.toNat < xs.length := (List.getElem?_eq_some_iff.mp he).1
  exact wpAny_getItem_list pl.isList h0 (by omega) (by simpa using ew) ⟨z, H, I, rw', q⟩
theorem hop_getN {sg : L2.St} {rho : Rho} {st : Sto} {H : Hp} {Q : VK} {x y : D} {v u : V} (w : Wld X.K rho st H) (r1 : RelD X.K rho H x v) (r2 : RelD X.K rho H y u) (h : OkR X.K cls W sg rho H (getN x y st) (VQ X.K Q)) : rGetN X.K v u H Q := by
  unfold getN at h
  split at h
  · rename_i ds k e1
    split at h
    · rename_i hk
      have q := deref_rel w r1
      rw [e1] at q
      obtain ⟨a, vs, rfl, g1, g2⟩ := der_lst q
      cases r2
      split at h
      · rename_i d hd
        obtain ⟨z, hz, rz⟩ := g2.get hd
        exact ⟨a, vs, k, z, rfl, rfl, SqL.of g1, hk.1, hz, ok_here w h rz⟩
      · exact h.elim
    · exact h.elim
  · exact h.elim
theorem ps_augLM {op : Operator} {f : D → D → Sto → R D} {p : Pos} (hu : X.A.units + 1 < cLine) (hf : augF op = some f) (ho : PE X o (tE X.K cls W mo)) (hi : PE X i (tE X.K cls W mi)) (he : PE X e (tE X.K cls W m)) (hsl : noSlice i = true) :
    PS X (.AugAssign (.Subscript o i p) op e pos) (tS X.K cls W (sAugL f mo mi m)) := by
  obtain ⟨t, ht, hop⟩ := aug_ok (X := X) (cls := cls) (W := W) hf
  refine PS.weak (ps_augS ho hi get_list he ht (set_all hu) (by
    intro ov iv new
    cases i <;> first | rfl | cases hsl)) fun E sg H h => ?_
  obtain ⟨rho, env, st, w, re, h⟩ := h
  have h := OkU re h
  refine ⟨rho, env, st, w, re, OkR.mono (OkR.bind h) fun d1 st1 rho1 H1 e1 w1 h1 v1 rv1 => ?_⟩
  refine ⟨rho1, env, st1, w1, re.ext e1, OkR.mono (OkR.bind h1) fun d2 st2 rho2 H2 e2 w2 h2 v2 rv2 => ?_⟩
  refine hop_getN w2 (rv1.ext e2) rv2 (OkR.mono (OkR.bind h2) fun d3 st3 rho3 H3 e3 w3 h3 v3 rv3 => ?_)
  refine ⟨rho3, env, st3, w3, ((re.ext e1).ext e2).ext e3, OkR.mono (OkR.bind h3) fun d4 st4 rho4 H4 e4 w4 h4 v4 rv4 => ?_⟩
  refine hop w4 (rv3.ext e4) rv4 (OkR.mono (OkR.bind h4) fun d5 st5 rho5 H5 e5 w5 h5 v5 rv5 => ?_)
  exact hop_set w5 ((((rv1.ext e2).ext e3).ext e4).ext e5) (((rv2.ext e3).ext e4).ext e5) rv5 h5
end
end MI
/-! MiO: instances of own classes: fields read and stored, methods called, made; a list times a number as a new list of the store. -/
namespace MI
open PySem PySem.Spec PyProof.Rows L2
def putFD (f : Str) (d : D) : List (Str × D) → List (Str × D)
  | [] => [(f, d)]
  | (g, x) :: r => if g = f then (g, d) :: r else (g, x) :: putFD f d r
/-- e.f -/
def getFld (ok : Str → Bool) (f : Str) (x : D) (st : Sto) : R D := match x with
  | .ref l => (match st[l]? with
    | some (.ins c fs) => if ok c = true then (match fs.lookup f with
      | some d => .ok d st
      | none => .stuck) else .stuck
    | _ => .stuck)
  | _ => .stuck
def mFld (ok : Str → Bool) (f : Str) (a : ME) : ME := fun env st => (a env st).bind fun x st => getFld ok f x st
/-- e.f = d -/
def setFld (ok : Str → Bool) (f : Str) (x d : D) (st : Sto) : R Unit := match x with
  | .ref l => (match st[l]? with
    | some (.ins c fs) => if ok c = true ∧ fs.length < 1000 then .ok () (st.set l (.ins c (putFD f d fs))) else .stuck
    | _ => .stuck)
  | _ => .stuck
def sFldS (ok : Str → Bool) (f : Str) (o e : ME) : MS := fun env st => match (e env st).bind fun d st => (o env st).bind fun x st => setFld ok f x d st with
  | .ok _ st => .nx env st
  | .exc c st => .exc c env st
  | .stuck => .stuck
/-- the receiver of a method -/
def isObj (c m : Str) (x : D) (st : Sto) : Bool := match x with
  | .ref l => (match st[l]? with
    | some (.ins c' fs) => decide (c' = c) && (fs.lookup m).isNone
    | _ => false)
  | _ => false
def mMethO (c m : Str) (f : List D → Sto → R D) (o : ME) (es : List ME) : ME := fun env st => (o env st).bind fun x st => if isObj c m x st = true then (mArgs es env st).bind fun ds st => f (x :: ds) st else .stuck
/-- c(..) -/
def made (l : Nat) : R D → R D
  | .ok .non st => .ok (.ref l) st
  | .ok _ _ => .stuck
  | .exc c st => .exc c st
  | .stuck => .stuck
def mMake (c : Str) (f : List D → Sto → R D) (es : List ME) : ME := fun env st => (mArgs es env st).bind fun ds st => made st.length (f (.ref st.length :: ds) (st ++ [.ins c []]))
/-- a list times a number, new in the store -/
def opMulN (x y : D) (st : Sto) : R D := match deref st x, y with
  | .lst a, .int k => if -(2 ^ 63) ≤ k ∧ k < 2 ^ 63 ∧ a.length * k.toNat ≤ sizeLine then .ok (.ref st.length) (st ++ [.lst (List.replicate k.toNat a).flatten]) else .stuck
  | _, _ => .stuck
section
variable {X : Cx} {cls : Nat → Value} {W : WX} {pos : Pos} {e o : Expr} {m mo : ME}
theorem hop_mulN {K : PySem.W.Frag} {sg : L2.St} {rho : Rho} {st : Sto} {H : Hp} {Q : VK} {x y : D} {v u : V} (w : Wld K rho st H) (r1 : RelD K rho H x v) (r2 : RelD K rho H y u) (h : OkR K cls W sg rho H (opMulN x y st) (VQ K Q)) : rMulA K v u H Q := by
  unfold opMulN at h
  split at h
  · rename_i a k e1
    have d1 := deref_rel w r1
    rw [e1] at d1
    obtain ⟨p, vs, rfl, h1, q1⟩ := der_lst d1
    cases r2
    split at h
    · rename_i hl
      exact .inr (.inr (.inl ⟨p, _, vs, rfl, rfl, h1, hl.1, hl.2.1, by rw [← q1.length]; exact hl.2.2, ok_new_lst w h (relDs_rep q1 _)⟩))
    · exact h.elim
  · exact h.elim
theorem ref_ins {K : PySem.W.Frag} {rho : Rho} {st : Sto} {H : Hp} {v : V} {l : Nat} {c : Str} {fs : List (Str × D)} (w : Wld K rho st H) (r : RelD K rho H (.ref l) v) (e : st[l]? = some (.ins c fs)) :
    ∃ (a C dx : Addr) (vs : List (Str × V)), v = .ref a ∧ rho.loc[l]? = some a ∧ H a = some (.ins C dx vs) ∧ PySem.W.nsIn K mainGlobals c = some (some (.ref C)) ∧ fs.map (·.1) = vs.map (·.1) ∧ RelDs K rho H (fs.map (·.2)) (vs.map (·.2)) := by
  cases r with
  | ref h =>
    obtain ⟨vs, C, dx, h1, h2, h3, h4⟩ := w.obj l _ _ h e
    exact ⟨_, C, dx, vs, rfl, h, h1, h2, h3, h4⟩
theorem lookup_rel {K : PySem.W.Frag} {rho : Rho} {H : Hp} {f : Str} : ∀ {fs : List (Str × D)} {vs : List (Str × V)}, fs.map (·.1) = vs.map (·.1) → RelDs K rho H (fs.map (·.2)) (vs.map (·.2)) → (fs.lookup f = none ∧ vs.lookup f = none) ∨ ∃ d v, fs.lookup f = some d ∧ vs.lookup f = some v ∧ RelD K rho H d v
  | [], [], _, _ => .inl ⟨rfl, rfl⟩
  | [], v :: vs, h, _ => by cases h
  | d :: fs, [], h, _ => by cases h
  | (g, d) :: fs, (g', v) :: vs, h, r => by
    simp only [List.map_cons, List.cons.injEq] at h r
    obtain ⟨h1, h2⟩ := h
    cases r with
    | cons r1 r2 =>
      have h1 : g = g' := h1
      subst h1
      simp only [List.lookup_cons]
      cases q : f == g with
      | true => exact .inr ⟨d, v, rfl, rfl, r1⟩
      | false => exact lookup_rel h2 r2
theorem putF_rel {K : PySem.W.Frag} {rho : Rho} {H : Hp} {f : Str} {d : D} {v : V} (rd : RelD K rho H d v) : ∀ {fs : List (Str × D)} {vs : List (Str × V)}, fs.map (·.1) = vs.map (·.1) → RelDs K rho H (fs.map (·.2)) (vs.map (·.2)) →
    (putFD f d fs).map (·.1) = (putF f v vs).map (·.1) ∧ RelDs K rho H ((putFD f d fs).map (·.2)) ((putF f v vs).map (·.2))
  | [], [], _, _ => ⟨rfl, .cons rd .nil⟩
  | [], v :: vs, h, _ => by cases h
  | d :: fs, [], h, _ => by cases h
  | (g, d0) :: fs, (g', v0) :: vs, h, r => by
    simp only [List.map_cons, List.cons.injEq] at h r
    obtain ⟨h1, h2⟩ := h
    cases r with
    | cons r1 r2 =>
      have h1 : g = g' := h1
      subst h1
      unfold putFD putF
      by_cases q : g = f
      · simp only [if_pos q, List.map_cons, h2]
        exact ⟨trivial, .cons rd r2⟩
      · simp only [if_neg q, List.map_cons]
        have ih := putF_rel (f := f) rd h2 r2
        exact ⟨by rw [ih.1], .cons r1 ih.2⟩
/-- what is known of a class -/
def ClsAt (K : PySem.W.Frag) (c : Str) (fl : List Str) : Prop := ∀ C, PySem.W.nsIn K mainGlobals c = some (some (.ref C)) → Cls K C ∧ ∀ f ∈ fl, NoAttr K C f
theorem pe_fldM {f : Str} {ok : Str → Bool} (hb : noCall e = true) (hok : ∀ c, ok c = true → ∃ fl, ClsAt X.K c fl ∧ f ∈ fl) (he : PE X e (tE X.K cls W m)) : PE X (.Attribute e f pos) (tE X.K cls W (mFld ok f m)) := by
  refine PE.weak (pe_fld he (base_ok hb)) fun sg H Q h => ?_
  obtain ⟨rho, env, st, w, re, h⟩ := h
  refine ⟨rho, env, st, w, re, OkR.mono (OkR.bind h) fun d st1 rho1 H1 e1 w1 h1 v rv => ?_⟩
  unfold getFld at h1
  split at h1
  · rename_i l
    split at h1
    · rename_i c fs hl
      obtain ⟨a, C, dx, vs, rfl, g1, g2, g3, g4, g5⟩ := ref_ins w1 rv hl
      split at h1
      · rename_i hc
        obtain ⟨fl, hC, hf⟩ := hok c hc
        rcases lookup_rel (f := f) g4 g5 with ⟨q1, q2⟩ | ⟨d, v, q1, q2, q3⟩
        · rw [q1] at h1; exact h1.elim
        · rw [q1] at h1
          exact ⟨a, C, dx, vs, v, rfl, g2, (hC C g3).1, (hC C g3).2 f hf, q2, ok_here w1 h1 q3⟩
      · exact h1.elim
    · exact h1.elim
  · exact h1.elim
theorem swaps_attr {f : Str} {p : Pos} {l : Nat} {env : Env} : swapsWith e (some (.Attribute o f p)) l env = pure false := by
  cases e <;> rfl
theorem ps_fldM {f : Str} {ok : Str → Bool} {p : Pos} (hok : ∀ c, ok c = true → ∃ fl, ClsAt X.K c fl ∧ f ∈ fl) (ho : PE X o (tE X.K cls W mo)) (he : PE X e (tE X.K cls W m)) : PS X (.Assign [.Attribute o f p] e pos) (tS X.K cls W (sFldS ok f mo m)) := by
  refine PS.weak (ps_fld ho he swaps_attr) fun E sg H h => ?_
  obtain ⟨rho, env, st, w, re, h⟩ := h
  have h := OkU re h
  refine ⟨rho, env, st, w, re, OkR.mono (OkR.bind h) fun d1 st1 rho1 H1 e1 w1 h1 v1 rv1 => ?_⟩
  refine ⟨rho1, env, st1, w1, re.ext e1, OkR.mono (OkR.bind h1) fun d2 st2 rho2 H2 e2 w2 h2 v2 rv2 => ?_⟩
  have rv1 := rv1.ext e2
  unfold setFld at h2
  split at h2
  · rename_i l
    split at h2
    · rename_i c fs hl
      obtain ⟨a, C, dx, vs, rfl, g1, g2, g3, g4, g5⟩ := ref_ins w2 rv2 hl
      split at h2
      · rename_i hc
        obtain ⟨fl, hC, hf⟩ := hok c hc.1
        have hlen : fs.length = vs.length := by
          have := congrArg List.length g4
          simpa using this
        refine ⟨a, C, dx, vs, rfl, g2, (hC C g3).1, (hC C g3).2 f hf, by omega, ?_⟩
        have pr := putF_rel (f := f) rv1 g4 g5
        exact h2 rho2 _ (w2.extSet g1 _) (w2.set g1 ⟨_, C, dx, upd_same, g3, pr.1, pr.2.ext (w2.extSet g1 _)⟩)
      · exact h2.elim
    · exact h2.elim
  · exact h2.elim
/-! ### methods -/
theorem call_own {P : Program} {w : World} {A : Around} {s : Shared} {env : Env} {name : Str} {apos : Pos} {args : List Expr} {Q : Value → Shared → Prop} {E : Value → Shared → Prop} (hb : noCall o = true) (hfew : methodCallForm (args.length + ([] : List Keyword).length) (backTo pos (starEach args env)) (backToKw pos (keywordEach [] env)) = true) (hline : (apos.endLine == pos.line) = true)
    (h : wpAny (model P w) A (eval o env) (fun ov s₁ => wpAny (model P w) A (getMethod ov name (do return (← importBound o env).getD true)) (fun fx s₂ => wpAny (model P w) A (callWith pos fx.1 fx.2 (backTo pos (starEach args env)) (backToKw pos (keywordEach [] env))) Q E s₂) E s₁) E s) :
    wpAny (model P w) A (eval (.Call (.Attribute o name apos) args [] pos) env) Q E s := by
  rw [arm_eval_Call, base_ok hb]
  refine wpAny_bind (wpAny_mono h (fun ov s₁ h₁ => ?_) fun _ _ e => e)
  refine wpAny_bind (wpAny_standAt ?_)
  have hpos : methodCallPos true o env apos pos = pure pos := by unfold methodCallPos; simp [hline]
  unfold methodCall
  rw [hfew]
  refine wpAny_bind (wpAny_holding ?_)
  unfold calleeOf
  rw [if_pos rfl]
  refine wpAny_mono h₁ (fun fx s₂ h₂ => ?_) fun _ _ e => e
  exact wpAny_bind (wpAny_of_eq hpos h₂)
def tMethSS (C : Addr) (m : Str) (sp : Sp) (E : L2.St → XK) (ta : TE) (t : TA) : TE := fun sg H Q => ta sg H fun x H1 => ∃ a dx fs, x = .ref a ∧ H1 a = some (.ins C dx fs) ∧ fs.lookup m = none ∧ t sg H1 fun vs H2 => sp (x :: vs) H2 Q (E sg)
theorem pe_methSS {CX : CXT} {k : Nat} {f C : Addr} {fd : FuncData} {ps : List Str} {sp : Sp} {E : L2.St → XK} {nm : Str} {apos : Pos} {es : List Expr} {ta : TE} {t : TA} (hb : noCall o = true) (hline : (apos.endLine == pos.line) = true) (hp : (e :: es).all plainE = true) (hn : (e :: es).length < 30)
    (he : PE X o ta) (c : Cls X.K C) (hm : Meth X.K C nm f) (F : FnOk X.prog X.w X.K X.mg X.base CX k f fd ps sp) (hr : Room k X.A) (hbd : Binds X.K fd ps []) (hx : ∀ sg, PassesAt CX X sg (E sg)) (ha : PA X (e :: es) t) :
    PE X (.Call (.Attribute o nm apos) (e :: es) [] pos) (tMethSS C nm sp E ta t) := by
  refine ⟨fun pins s sg H Q I h => ?_⟩
  have hfew : methodCallForm ((e :: es).length + ([] : List Keyword).length) (backTo pos (starEach (e :: es) X.env)) (backToKw pos (keywordEach [] X.env)) = true := by
    unfold methodCallForm
    rw [star_all hp]
    have hk : backToKw pos (keywordEach [] X.env) = [] := rfl
    rw [hk]
    have hn' : decide ((e :: es).length + 0 + 0 < 30) = true := by simpa using hn
    simpa using hn'
  refine call_own hb hfew hline (thn (he.run pins s sg H _ I h) fun u s1 ⟨x, H1, I1, rx, a, dx, fs, ex, ea, l, q⟩ => ?_)
  subst ex
  obtain rfl : u = Value.ref a := rx
  refine getmeth_ok I1 ea c hm l ?_
  simp only [List.all_cons, Bool.and_eq_true] at hp
  refine PySem.W.callWith_K (first := [.ref a]) (h₀ := X.base) I.ok.mod.kin hm.kp (thn (ha.run pos pins s1 sg H1 _ I1 q) fun us s2 ⟨vs, H2, I2, r, q2⟩ => ⟨I2.kIn, ?_⟩) (star_plain hp.1) (star_any hp.2)
  exact run_fnS (us := .ref a :: us) (vs := .ref a :: vs) F hr hbd (hx sg) I2 (.cons rfl r) q2
theorem pe_methSS0 {CX : CXT} {k : Nat} {f C : Addr} {fd : FuncData} {ps : List Str} {sp : Sp} {E : L2.St → XK} {nm : Str} {apos : Pos} {ta : TE} (hb : noCall o = true) (hline : (apos.endLine == pos.line) = true)
    (he : PE X o ta) (c : Cls X.K C) (hm : Meth X.K C nm f) (F : FnOk X.prog X.w X.K X.mg X.base CX k f fd ps sp) (hr : Room k X.A) (hbd : Binds X.K fd ps []) (hx : ∀ sg, PassesAt CX X sg (E sg)) :
    PE X (.Call (.Attribute o nm apos) [] [] pos) (tMethSS C nm sp E ta tNil) := by
  refine ⟨fun pins s sg H Q I h => ?_⟩
  refine call_own hb rfl hline (thn (he.run pins s sg H _ I h) fun u s1 ⟨x, H1, I1, rx, a, dx, fs, ex, ea, l, q⟩ => ?_)
  subst ex
  obtain rfl : u = Value.ref a := rx
  refine getmeth_ok I1 ea c hm l ?_
  exact PySem.W.callWith_K0 (first := [.ref a]) I1.kIn hm.kp (run_fnS (us := [.ref a]) (vs := [.ref a]) F hr hbd (hx sg) I1 (.cons rfl .nil) q)
theorem isObj_ok {K : PySem.W.Frag} {rho : Rho} {st : Sto} {H : Hp} {d : D} {v : V} {c nm : Str} {C : Addr} (hC : PySem.W.nsIn K mainGlobals c = some (some (.ref C))) (w : Wld K rho st H) (rv : RelD K rho H d v) (h : isObj c nm d st = true) : ∃ a dx fs, v = .ref a ∧ H a = some (.ins C dx fs) ∧ fs.lookup nm = none := by
  unfold isObj at h
  split at h
  · rename_i l
    split at h
    · rename_i c' fs hl
      simp only [Bool.and_eq_true, decide_eq_true_eq] at h
      obtain ⟨rfl, h2⟩ := h
      obtain ⟨a, C', dx, vs, rfl, g1, g2, g3, g4, g5⟩ := ref_ins w rv hl
      rw [hC] at g3
      cases g3
      refine ⟨a, dx, vs, rfl, g2, ?_⟩
      rcases lookup_rel (f := nm) g4 g5 with ⟨q1, q2⟩ | ⟨d, v, q1, q2, q3⟩
      · exact q2
      · rw [q1] at h2; cases h2
    · cases h
  · cases h
theorem pe_methOM {k : Nat} {fa C : Addr} {fd : FuncData} {ps : List Str} {f : List D → Sto → R D} {c nm : Str} {apos : Pos} {es : List Expr} {ms : List ME} (hb : noCall o = true) (hline : (apos.endLine == pos.line) = true) (hp : (e :: es).all plainE = true) (hn : (e :: es).length < 30)
    (hC : PySem.W.nsIn X.K mainGlobals c = some (some (.ref C))) (cl : Cls X.K C) (hm : Meth X.K C nm fa) (F : FnOk X.prog X.w X.K X.mg X.base (L2.CX X.prog X.w) k fa fd ps (spF X.K cls f)) (hr : Room k X.A) (hbd : Binds X.K fd ps []) (tk : Takes X W) (ho : PE X o (tE X.K cls W mo)) (ha : PA X (e :: es) (tAm X.K cls W ms)) :
    PE X (.Call (.Attribute o nm apos) (e :: es) [] pos) (tE X.K cls W (mMethO c nm f mo ms)) := by
  refine PE.weak (pe_methSS (E := WE W) hb hline hp hn ho cl hm F hr hbd (fun sg => passAt tk sg) ha) fun sg H Q h => ?_
  obtain ⟨rho, env, st, w, re, h⟩ := h
  refine ⟨rho, env, st, w, re, OkR.mono (OkR.bind h) fun d st1 rho1 H1 e1 w1 h1 v rv => ?_⟩
  split at h1
  · rename_i hl1
    obtain ⟨a, dx, fs, rfl, g1, g2⟩ := isObj_ok hC w1 rv hl1
    refine ⟨a, dx, fs, rfl, g1, g2, rho1, env, st1, w1, re.ext e1, OkR.mono (OkR.bind h1) fun ds st2 rho2 H2 e2 w2 h2 vs rvs => ?_⟩
    exact ⟨rho2, st2, d :: ds, w2, .cons (rv.ext e2) rvs, OkR.wish h2 fun c H q => q⟩
  · exact h1.elim
theorem pe_methO0M {k : Nat} {fa C : Addr} {fd : FuncData} {ps : List Str} {f : List D → Sto → R D} {c nm : Str} {apos : Pos} (hb : noCall o = true) (hline : (apos.endLine == pos.line) = true)
    (hC : PySem.W.nsIn X.K mainGlobals c = some (some (.ref C))) (cl : Cls X.K C) (hm : Meth X.K C nm fa) (F : FnOk X.prog X.w X.K X.mg X.base (L2.CX X.prog X.w) k fa fd ps (spF X.K cls f)) (hr : Room k X.A) (hbd : Binds X.K fd ps []) (tk : Takes X W) (ho : PE X o (tE X.K cls W mo)) :
    PE X (.Call (.Attribute o nm apos) [] [] pos) (tE X.K cls W (mMethO c nm f mo [])) := by
  refine PE.weak (pe_methSS0 (E := WE W) hb hline ho cl hm F hr hbd (fun sg => passAt tk sg)) fun sg H Q h => ?_
  obtain ⟨rho, env, st, w, re, h⟩ := h
  refine ⟨rho, env, st, w, re, OkR.mono (OkR.bind h) fun d st1 rho1 H1 e1 w1 h1 v rv => ?_⟩
  split at h1
  · rename_i hl1
    obtain ⟨a, dx, fs, rfl, g1, g2⟩ := isObj_ok hC w1 rv hl1
    exact ⟨a, dx, fs, rfl, g1, g2, rho1, st1, [d], w1, .cons rv .nil, OkR.wish h1 fun c H q => q⟩
  · exact h1.elim
/-! ### making -/
theorem run_makeS {CX : CXT} {k : Nat} {f C : Addr} {fd : FuncData} {ps : List Str} {sp : Sp} {E : L2.St → XK} {pins : List (Addr × Obj)} {sg : L2.St} {H : Hp} {s : Shared} {Q : VK} {us : List Value} {vs : List V} (M : Mk X.K C f) (F : FnOk X.prog X.w X.K X.mg X.base CX k f fd ps sp) (hr : Room (k + 1) X.A) (hb : Binds X.K fd ps [])
    (hx : PassesAt CX X sg (E sg)) (I : Inv X pins sg H s) (r : Vals vs us)
    (h : ∀ x dx, H x = none → H dx = none → dx ≠ x → sp (.ref x :: vs) (upd (upd H dx (.own x)) x (.ins C dx [])) (fun v H2 => v = .non ∧ Q (.ref x) H2) (E sg)) :
    wpAny (model X.prog X.w) X.A (call (.ref C) us) (EP X pins sg Q) X.xe s := by
  have hq := h (s.heap.objs.size + 1) s.heap.objs.size (I.hok.fresh (Nat.le_succ _)) (I.hok.fresh (Nat.le_refl _)) (Nat.ne_of_lt (Nat.lt_succ_self _))
  have I2 := Inv.made (C := C) I
  have r2 : Vals (V.ref (s.heap.objs.size + 1) :: vs) (Value.ref (s.heap.objs.size + 1) :: us) := .cons rfl r
  have hl : (Value.ref (s.heap.objs.size + 1) :: us).length = ps.length := by
    have e := r2.length
    rw [F.len _ _ _ _ hq] at e
    exact e.symm
  have b := hb { s with heap := (s.heap.push PySem.W.emptyDict).push (PySem.W.instObj C s.heap.objs.size) } (Value.ref (s.heap.objs.size + 1) :: us) I2.kIn (by rw [List.append_nil]; exact hl)
  rw [List.append_nil] at b
  refine wpAny_call (make_map (f := f) I.kIn M.makes M.init (beq_iff_eq.mp M.fn) (codeAny_mono (F.run _ X.stack _ _ ⟨Value.ref (s.heap.objs.size + 1) :: us, []⟩ (Value.ref (s.heap.objs.size + 1) :: us) _ _ (E sg) (hr.make C us [])
    (I2.env0.make C us []) b r2 hq) fun r s' hq' => ?_))
  cases r with
  | error e => exact hx pins _ _ e s' I2 hq'
  | ok fl =>
    cases fl with
    | ret u =>
      obtain ⟨v, H', I3, rv, ev, q3⟩ := I2.after hq'
      subst ev
      exact ⟨rv, ⟨V.ref (s.heap.objs.size + 1), H', I3, rfl, q3⟩⟩
    | next => exact False.elim hq'
    | brk => exact False.elim hq'
    | cont => exact False.elim hq'
def tMakeSS (C : Addr) (sp : Sp) (E : L2.St → XK) (t : TA) : TE := fun sg H Q => t sg H fun vs H1 => ∀ x dx, H1 x = none → H1 dx = none → dx ≠ x → sp (.ref x :: vs) (upd (upd H1 dx (.own x)) x (.ins C dx [])) (fun v H2 => v = .non ∧ Q (.ref x) H2) (E sg)
theorem pe_makeSS {CX : CXT} {k : Nat} {f C : Addr} {fd : FuncData} {ps : List Str} {sp : Sp} {E : L2.St → XK} {x : Str} {p : Pos} {es : List Expr} {t : TA} (M : Mk X.K C f) (F : FnOk X.prog X.w X.K X.mg X.base CX k f fd ps sp) (hr : Room (k + 1) X.A) (hg : Gl X x) (hm : X.mg x = some (.ref C)) (hb : Binds X.K fd ps []) (hx : ∀ sg, PassesAt CX X sg (E sg))
    (ha : PA X (e :: es) t) (hdb : (x == ("__debug__" : Str)) = false) (hp : (e :: es).all plainE = true) :
    PE X (.Call (.Name x p) (e :: es) [] pos) (tMakeSS C sp E t) := by
  refine ⟨fun pins s sg H Q I h => ?_⟩
  refine wpAny_Call_Name_kw (ld_glob I hg hm ?_ hdb)
  simp only [List.all_cons, Bool.and_eq_true] at hp
  refine PySem.W.callWith_K (h₀ := X.base) I.ok.mod.kin M.kp (thn (ha.run pos pins s sg H _ I h) fun us s1 ⟨vs, H1, I1, r, q⟩ => ⟨I1.kIn, ?_⟩) (star_plain hp.1) (star_any hp.2)
  exact run_makeS M F hr hb (hx sg) I1 r q
theorem pe_makeSS0 {CX : CXT} {k : Nat} {f C : Addr} {fd : FuncData} {ps : List Str} {sp : Sp} {E : L2.St → XK} {x : Str} {p : Pos} (M : Mk X.K C f) (F : FnOk X.prog X.w X.K X.mg X.base CX k f fd ps sp) (hr : Room (k + 1) X.A) (hg : Gl X x) (hm : X.mg x = some (.ref C)) (hb : Binds X.K fd ps []) (hx : ∀ sg, PassesAt CX X sg (E sg))
    (hdb : (x == ("__debug__" : Str)) = false) : PE X (.Call (.Name x p) [] [] pos) (tMakeSS C sp E tNil) := by
  refine ⟨fun pins s sg H Q I h => ?_⟩
  refine wpAny_Call_Name_kw (ld_glob I hg hm ?_ hdb)
  exact PySem.W.callWith_K0 I.kIn M.kp (run_makeS (us := []) M F hr hb (hx sg) I .nil h)
theorem make_sp {K : PySem.W.Frag} {rho : Rho} {st : Sto} {H : Hp} {sg : L2.St} {Q : VK} {c : Str} {C x dx : Addr} {f : List D → Sto → R D} {ds : List D} {vs : List V} (hC : PySem.W.nsIn K mainGlobals c = some (some (.ref C))) (w : Wld K rho st H) (rvs : RelDs K rho H ds vs)
    (h : OkR K cls W sg rho H (made st.length (f (.ref st.length :: ds) (st ++ [.ins c []]))) (VQ K Q)) (hx : H x = none) (hdx : H dx = none) (ne : dx ≠ x) : spF K cls f (.ref x :: vs) (upd (upd H dx (.own x)) x (.ins C dx [])) (fun v H2 => v = .non ∧ Q (.ref x) H2) (WE W sg) := by
  have hx2 : upd H dx (.own x) x = none := by rw [upd_ne (Ne.symm ne)]; exact hx
  have w1 := w.tmp hdx (.own x)
  have e1 := w.extTmp hdx (.own x)
  have e2 := w1.extNew hx2 (.ins C dx [])
  have w2 : Wld K (rho.add x) (st ++ [.ins c []]) (upd (upd H dx (.own x)) x (.ins C dx [])) := w1.new hx2 ⟨[], C, dx, upd_same, hC, rfl, .nil⟩
  have hl : (rho.add x).loc[st.length]? = some x := by rw [← w.len]; simp [Rho.add]
  refine ⟨rho.add x, st ++ [.ins c []], .ref st.length :: ds, w2, .cons (.ref hl) ((rvs.ext e1).ext e2), ?_⟩
  generalize f (.ref st.length :: ds) (st ++ [.ins c []]) = r at h
  cases r with
  | stuck => exact h.elim
  | exc k t => exact fun r2 H2 e3 w3 => h r2 H2 ((e1.trans e2).trans e3) w3
  | ok d t =>
    cases d with
    | non =>
      intro r2 H2 e3 w3 v rv
      cases rv
      exact ⟨rfl, h r2 H2 ((e1.trans e2).trans e3) w3 _ (.ref (e3.get hl))⟩
    | _ => exact h.elim
theorem pe_makeM {k : Nat} {fa C : Addr} {fd : FuncData} {ps : List Str} {f : List D → Sto → R D} {x : Str} {p : Pos} {es : List Expr} {ms : List ME} (hC : PySem.W.nsIn X.K mainGlobals x = some (some (.ref C))) (M : Mk X.K C fa) (F : FnOk X.prog X.w X.K X.mg X.base (L2.CX X.prog X.w) k fa fd ps (spF X.K cls f)) (hr : Room (k + 1) X.A) (hg : Gl X x) (hm : X.mg x = some (.ref C))
    (hb : Binds X.K fd ps []) (tk : Takes X W) (hdb : (x == ("__debug__" : Str)) = false) (hp : (e :: es).all plainE = true) (ha : PA X (e :: es) (tAm X.K cls W ms)) : PE X (.Call (.Name x p) (e :: es) [] pos) (tE X.K cls W (mMake x f ms)) := by
  refine PE.weak (pe_makeSS (E := WE W) M F hr hg hm hb (fun sg => passAt tk sg) ha hdb hp) fun sg H Q h => ?_
  obtain ⟨rho, env, st, w, re, h⟩ := h
  refine ⟨rho, env, st, w, re, OkR.mono (OkR.bind h) fun ds st1 rho1 H1 e1 w1 h1 vs rvs => fun y dy hy hdy ne => ?_⟩
  exact make_sp hC w1 rvs h1 hy hdy ne
theorem pe_make0M {k : Nat} {fa C : Addr} {fd : FuncData} {ps : List Str} {f : List D → Sto → R D} {x : Str} {p : Pos} (hC : PySem.W.nsIn X.K mainGlobals x = some (some (.ref C))) (M : Mk X.K C fa) (F : FnOk X.prog X.w X.K X.mg X.base (L2.CX X.prog X.w) k fa fd ps (spF X.K cls f)) (hr : Room (k + 1) X.A) (hg : Gl X x) (hm : X.mg x = some (.ref C))
    (hb : Binds X.K fd ps []) (tk : Takes X W) (hdb : (x == ("__debug__" : Str)) = false) : PE X (.Call (.Name x p) [] [] pos) (tE X.K cls W (mMake x f [])) := by
  refine PE.weak (pe_makeSS0 (E := WE W) M F hr hg hm hb (fun sg => passAt tk sg) hdb) fun sg H Q h => ?_
  obtain ⟨rho, env, st, w, re, h⟩ := h
  exact fun y dy hy hdy ne => make_sp (ds := []) hC w .nil h hy hdy ne
end
end MI
/-! MiX: further constructs: slices with a step, methods of texts, zip, a dict of one pair. -/
namespace MX
open PySem PySem.Spec PyProof.Rows L2 HT
section
variable {prog : Program} {w : World} {A : Around} {E : Value → Shared → Prop} {s : Shared}
theorem sliceApplied_step {sl : Addr} {vl vu : Value} {lo hi : Option Int} {k : Int} {t : Tok} {n : Nat} {Q : Int × Int × Nat → Shared → Prop} (hs : s.heap.IsSliceOf sl vl vu (.int k t)) (pl : IsPart vl lo) (pu : IsPart vu hi) (hk : k ≠ 0)
    (h : Q ((Builtin.Slice.sliceAdjust lo hi k n).1, k, Builtin.Slice.slicePlaces (Builtin.Slice.sliceAdjust lo hi k n).1 (Builtin.Slice.sliceAdjust lo hi k n).2 k) s) : wpAny (model prog w) A (Builtin.Slice.sliceApplied (.ref sl) (pure (n : Int))) Q E s := by
  obtain ⟨os, hos, hcs, hds⟩ := id hs
  unfold Builtin.Slice.sliceApplied Builtin.Slice.sliceFields
  refine wpAny_bind (wpAny_bind (wpAny_field hos hds (x := vl) rfl (wpAny_bind (wpAny_field hos hds (x := vu) rfl (wpAny_bind (wpAny_field hos hds (x := .int k t) rfl (wpAny_pure ?_)))))))
  refine wpAny_bind (slicePart_int ?_)
  show wpAny _ _ (if ((k : Int) == 0) = true then _ else _) _ _ s
  rw [if_neg (by simpa using hk)]
  refine wpAny_bind (slicePart_ pl (wpAny_bind (slicePart_ pu (wpAny_bind (wpAny_pure ?_)))))
  exact wpAny_pure h
end
/-- the items of xs[lo:hi:k] -/
def stepL {α : Type} (xs : List α) (lo hi : Option Int) (k : Int) : List α :=
  (List.range (Builtin.Slice.slicePlaces (Builtin.Slice.sliceAdjust lo hi k xs.length).1 (Builtin.Slice.sliceAdjust lo hi k xs.length).2 k)).filterMap fun (m : Nat) => xs[((Builtin.Slice.sliceAdjust lo hi k xs.length).1 + (m : Int) * k).toNat]?
section
variable {prog : Program} {w : World} {A : Around} {E : Value → Shared → Prop} {s : Shared}
theorem getItem_tuple_step {t sl : Addr} {items : Array Value} {vl vu : Value} {lo hi : Option Int} {k : Int} {tk : Tok} {Q : Value → Shared → Prop} (ht : IsTup s.heap t items) (hs : s.heap.IsSliceOf sl vl vu (.int k tk)) (pl : IsPart vl lo) (pu : IsPart vu hi) (hk : k ≠ 0) (h1 : k ≠ 1)
    (h : Q (.ref s.heap.objs.size) { s with heap := s.heap.push { cls := .type "tuple", data := .seq (stepL items.toList lo hi k).toArray } })
    (hsz : (stepL items.toList lo hi k).length ≤ sizeLine) : wpAny (model prog w) A (getItem (.ref t) (.ref sl)) Q E s := by
  have htake : sizeOk (.seq (stepL items.toList lo hi k).toArray) := by
    show (stepL items.toList lo hi k).toArray.size ≤ sizeLine
    rw [List.size_toArray]
    exact hsz
  obtain ⟨os, hos, hcs, hds⟩ := id hs
  have hTs : s.TypeIs (.ref sl) "slice" := ⟨os, hos, hcs⟩
  unfold getItem
  try with_reducible refine wpAny_holding ?_
  first | refine wpAny_bind (wpAny_pure ?_) | skip
  refine wpAny_bind (wpAny_sequenceKey ht.typeIs (by decide) ?_)
  refine wpAny_bind (wpAny_callSpecial?_slot (name := Str.ofString "__getitem__") ht.typeIs PyProof.Rows.slot_tuple_getitem
    (wpAny_call_entry PyProof.Rows.slot_tuple_getitem ht.typeIs PyProof.Rows.entry_tuple_getitem ?_ (PyProof.Rows.args_tuple_getitem _ _)))
  show wpAny _ _ (Builtin.Tuple.tupleItemsOf (.ref t) >>= _) _ _ s
  refine wpAny_bind (tupleItemsOf_ ht ?_)
  refine wpAny_bind (wpAny_typeOf hTs ?_)
  rw [if_pos (by decide)]
  refine wpAny_bind (sliceApplied_step hs pl pu hk ?_)
  generalize hlo : (Builtin.Slice.sliceAdjust lo hi k items.size).1 = a
  generalize hpl : Builtin.Slice.slicePlaces a (Builtin.Slice.sliceAdjust lo hi k items.size).2 k = b
  have hno : ¬ ((a == 0 && k == 1 && b == items.size) = true) := by
    intro q
    rw [Bool.and_eq_true, Bool.and_eq_true] at q
    exact h1 (eq_of_beq q.1.2)
  show wpAny _ _ (if (a == 0 && k == 1 && b == items.size) = true then _ else _) _ _ s
  rw [if_neg hno]
  have hpick : ((List.range b).filterMap fun (m : Nat) => items[(a + (m : Int) * k).toNat]?).toArray = (stepL items.toList lo hi k).toArray := by
    unfold stepL
    rw [show (items.toList.length : Int) = (items.size : Int) by simp, hlo, hpl]
    simp
  rw [hpick]
  first
    | exact wpAny_bind (m := Builtin.Tuple.tupleExact _) (wpAny_newObj_type (wpAny_pure ⟨_, rfl, wpAny_pure h⟩) htake)
    | exact wpAny_bind (m := Builtin.Tuple.tupleExact _) (wpAny_newObj_type (wpAny_bind (wpAny_pure (wpAny_pure ⟨_, rfl, wpAny_pure h⟩))) htake)
    | exact wpAny_bind (wpAny_bind (m := Builtin.Tuple.tupleExact _) (wpAny_newObj_type (wpAny_pure (wpAny_pure ⟨_, rfl, wpAny_pure h⟩)) htake))
    | exact wpAny_bind (wpAny_bind (m := Builtin.Tuple.tupleExact _) (wpAny_newObj_type (wpAny_pure ⟨_, rfl, wpAny_pure h⟩) htake))
end
theorem vals_filterMap {xs : List V} {us : List Value} (r : Vals xs us) (f : Nat → Nat) : ∀ ms : List Nat, Vals (ms.filterMap fun m => xs[f m]?) (ms.filterMap fun m => us[f m]?)
  | [] => .nil
  | m :: ms => by
    simp only [List.filterMap_cons]
    cases q : xs[f m]? with
    | none =>
      rw [r.none_of q]
      exact vals_filterMap r f ms
    | some x =>
      obtain ⟨u, h1, h2⟩ := r.get q
      rw [h1]
      exact .cons h2 (vals_filterMap r f ms)
theorem vals_step {xs : List V} {us : List Value} (r : Vals xs us) (lo hi : Option Int) (k : Int) : Vals (stepL xs lo hi k) (stepL us lo hi k) := by
  unfold stepL
  rw [r.length]
  exact vals_filterMap r (fun m => ((Builtin.Slice.sliceAdjust lo hi k us.length).1 + (m : Int) * k).toNat) _
section
variable {X : Cx} {e st : Expr} {lo hi : Option Expr} {te : TE} {tl th ts : TO} {p2 pos : Pos}
def tSlStep (K : PySem.W.Frag) (te : TE) (tl th ts : TO) : TE := fun sg H Q => te sg H fun x H1 => tl sg H1 fun l H2 => th sg H2 fun u H3 => ts sg H3 fun o H4 => ∃ a xs k, x = .ref a ∧ SqT K H4 a xs ∧ o = some k ∧ k ≠ 0 ∧ k ≠ 1 ∧ (stepL xs l u k).length ≤ sizeLine ∧ ∀ p, H4 p = none → Q (.ref p) (upd H4 p (.tup (stepL xs l u k)))
theorem pe_slStep (he : PE X e te) (hl : PO X lo tl) (hu : PO X hi th) (hst : PO X (some st) ts) : PE X (.Subscript e (.Slice lo hi (some st) p2) pos) (tSlStep X.K te tl th ts) := by
  refine ⟨fun pins s sg H Q I h => ?_⟩
  refine Subscript_ (thn (he.run pins s sg H _ I h) fun v s1 ⟨x, H1, I1, r1, q1⟩ => ?_)
  refine wpAny_Slice (thn (hl.run pins s1 sg H1 _ I1 q1) fun vl s2 ⟨l, H2, I2, pl, q2⟩ => thn (hu.run pins s2 sg H2 _ I2 q2) fun vu s3 ⟨u, H3, I3, pu, q3⟩ => thn (hst.run pins s3 sg H3 _ I3 q3) fun vs s4 ⟨o, H4, I4, ps, q4⟩ => ?_)
  obtain ⟨a, xs, k, rfl, hx, rfl, hk0, hk1, hz, q⟩ := q4
  cases r1
  cases ps with
  | int k tk =>
    have I5 : Inv X pins sg H4 { s4 with heap := s4.heap.push { cls := .type "slice", data := .fields #[vl, vu, .int k tk] } } := I4.kept (t' := s4.toks) fun b ob q => Heap.get?_push_of_some _ q
    obtain ⟨its, r, ht, hzz⟩ := I5.tuple hx
    have hr := vals_step r l u k
    show wpAny (model X.prog X.w) X.A (subscriptTail e (.Slice lo hi (some st) p2) (.ref a) (.ref s4.heap.objs.size)) (EP X pins sg Q) X.xe { s4 with heap := s4.heap.push { cls := .type "slice", data := .fields #[vl, vu, .int k tk] } }
    refine tail_any (ops := [.ref a, .ref s4.heap.objs.size]) ht.typeIs PyProof.Rows.slot_tuple_getitem.lookup ?_ (by with_unfolding_all rfl)
    refine getItem_tuple_step ht (Heap.IsSliceOf.new _ vl vu (.int k tk)) pl pu hk0 hk1 ?_ (by
      have := hr.length
      simpa [← this] using hz)
    refine ⟨.ref _, _, I5.laid (t' := s4.toks) (o := .tup (stepL xs l u k)) (fun b ob q => Heap.get?_push_of_some _ q) (Nat.le_refl _) ?_, rfl, q _ (I5.hok.fresh (Nat.le_refl _))⟩
    refine ⟨hz, _, hr, ?_⟩
    first
    | exact ⟨_, Heap.get?_push_size _ rfl, rfl, rfl, rfl⟩
    | exact ⟨_, Heap.get?_push_size _ rfl, rfl, rfl⟩
    | exact ⟨_, Heap.get?_push_size _ rfl, rfl, _, rfl⟩
end
end MX
/-! MiZ: zip of a list and a tuple. -/
namespace MI
open PySem PySem.Spec PyProof.Rows L2 RZ
/-- the iterator at i (its state by turns: T) hands out xs while the sequence stands (S) -/
structure Feed (P : Program) (w : World) (i l : Addr) (xs : Array Value) (T : Nat → Heap → Prop) (S : Heap → Prop) : Prop where
  tAt : ∀ {k : Nat} {h h' : Heap}, T k h → (∀ o, h.get? i = some o → h'.get? i = some o) → T k h'
  sAt : ∀ {h h' : Heap}, S h → (∀ o, h.get? l = some o → h'.get? l = some o) → S h'
  ob : ∀ {k : Nat} {h : Heap}, T k h → ∃ o, h.get? i = some o ∧ ∀ v, o.data ≠ .cell v
  nxt : ∀ {A : Around} {E : Value → Shared → Prop} {s : Shared} {Q : Value → Shared → Prop} {k : Nat} {x : Value}, T k s.heap → S s.heap → xs[k]? = some x →
    (∀ h', T (k + 1) h' → Heap.SameBut i s.heap h' → Q x { s with heap := h' }) → wpAny (model P w) A (Builtin.SmallTypes.nextOf (.ref i)) Q E s
  fin : ∀ {A : Around} {E : Value → Shared → Prop} {s : Shared} {Q : Value → Shared → Prop} {k : Nat}, A.handled = none → T k s.heap → S s.heap → xs[k]? = none →
    (∀ h' e, Heap.ExtBut i s.heap h' → (∃ o, h'.get? e = some o ∧ o.cls = .type "StopIteration") → E (.ref e) { s with heap := h' }) → wpAny (model P w) A (Builtin.SmallTypes.nextOf (.ref i)) Q E s
theorem feed_list {P : Program} {w : World} (i l : Addr) (xs : Array Value) : Feed P w i l xs (fun k h => h.IsListIter i l k) (fun h => h.IsList l xs) where
  tAt := fun t f => t.at f
  sAt := fun t f => t.at f
  ob := fun t => by
    obtain ⟨o, e, _, d⟩ := t
    exact ⟨o, e, fun v q => by rw [d] at q; cases q⟩
  nxt := fun t sq hx f => wpAny_nextOf_list_item t sq hx f
  fin := fun hh t sq hx f => wpAny_nextOf_list_end hh t sq hx f
theorem feed_tup {P : Program} {w : World} (i l : Addr) (xs : Array Value) : Feed P w i l xs (fun k h => h.IsTupleIter i l k) (fun h => h.IsTuple l xs) where
  tAt := fun t f => t.at f
  sAt := fun t f => t.at f
  ob := fun t => by
    obtain ⟨o, e, _, d⟩ := t
    exact ⟨o, e, fun v q => by rw [d] at q; cases q⟩
  nxt := fun t sq hx f => nextOf_tuple_item t sq hx f
  fin := fun hh t sq hx f => nextOf_tuple_end hh t sq hx f
section
variable {P : Program} {w : World} {A : Around} {E : Value → Shared → Prop} {s : Shared} {z a b i j l m : Addr} {xs ys : Array Value} {T U : Nat → Heap → Prop} {S V : Heap → Prop}
theorem Feed.tB (F : Feed P w i l xs T S) {k : Nat} {h h' : Heap} {c : Addr} (t : T k h) (e : Heap.ExtBut c h h') (n : i ≠ c) : T k h' := F.tAt t fun o q => e _ _ n q
theorem Feed.sB (F : Feed P w i l xs T S) {h h' : Heap} {c : Addr} (t : S h) (e : Heap.ExtBut c h h') (n : l ≠ c) : S h' := F.sAt t fun o q => e _ _ n q
theorem zz_item {k : Nat} {x y u v : Value} {Q : Value → Shared → Prop} (F : Feed P w i l xs T S) (G : Feed P w j m ys U V) (D : ZipApart z a b i j l m)
    (zz : IsZip s.heap z a b .none) (za : IsPair s.heap a (.ref i) (.ref j)) (zb : IsPair s.heap b u v) (t1 : T k s.heap) (t2 : U k s.heap) (s1 : S s.heap) (s2 : V s.heap) (hx : xs[k]? = some x) (hy : ys[k]? = some y)
    (fin : ∀ h', IsZip h' z a b (rawInt s.heap.objs.size) → IsPair h' b x y → T (k + 1) h' → U (k + 1) h' → IsPair h' s.heap.objs.size x y → h'.objs.size = s.heap.objs.size + 1 →
      (∀ c o, c ≠ z → c ≠ b → c ≠ i → c ≠ j → s.heap.get? c = some o → h'.get? c = some o) → Q (.ref s.heap.objs.size) { s with heap := h' }) :
    wpAny (model P w) A (Builtin.«zip.__next__» ⟨[.ref z], []⟩) (fun r s' => ∃ q, r = .done (.ret q) ∧ Q q s') E s := by
  show wpAny _ _ (field (.ref z) 2 >>= _) _ _ _
  refine wpAny_bind (wpAny_field zz rfl (x := .bool false) rfl ?_)
  show wpAny _ _ (field (.ref z) 3 >>= _) _ _ _
  refine wpAny_bind (wpAny_field zz rfl (x := .ref a) rfl ?_)
  refine wpAny_bind (wpAny_seqItems za rfl ?_)
  refine wpAny_bind (m := Builtin.SmallTypes.ownedTupleIsFree (.ref z)) ?_
  unfold Builtin.SmallTypes.ownedTupleIsFree
  refine wpAny_bind (wpAny_field zz rfl (x := .none) rfl (wpAny_pure ?_))
  simp only [if_true]
  refine wpAny_bind (wpAny_rule ?_)
  refine wpAny_bind (wpAny_field zz rfl (x := .ref b) rfl ?_)
  refine wpAny_bind (wpAny_setField_rec zz (by simp) fun g1 z1 e1 => ?_)
  replace z1 : IsZip g1 z a b .ellipsis := z1
  refine wpAny_bind ?_
  simp only [List.zipIdx_cons, List.zipIdx_nil, List.forIn_cons, List.forIn_nil]
  refine wpAny_bind (wpAny_bind (wpAny_onRaise ?_))
  refine wpAny_bind (m := Builtin.SmallTypes.nextOf (.ref i)) (F.nxt (F.tB t1 e1.extBut D.i1z) (F.sB s1 e1.extBut D.l1z) hx fun g2 t1' e2 => wpAny_pure ?_)
  have b2 : IsPair g2 b u v := e2.extBut _ _ D.TOi1 (e1.extBut _ _ D.TOz zb)
  refine wpAny_bind (wpAny_seqItems b2 rfl ?_)
  refine wpAny_bind (wpAny_updateSeq_pair b2 fun g3 b3 e3 => ?_)
  replace b3 : IsPair g3 b x v := b3
  refine wpAny_bind (wpAny_letGo (wpAny_pure ?_))
  refine wpAny_bind (wpAny_bind (wpAny_onRaise ?_))
  refine wpAny_bind (m := Builtin.SmallTypes.nextOf (.ref j)) (G.nxt (G.tB (G.tB (G.tB t2 e1.extBut D.i2z) e2.extBut D.i12.symm) e3.extBut D.TOi2.symm)
    (G.sB (G.sB (G.sB s2 e1.extBut D.l2z) e2.extBut D.l2i1) e3.extBut D.l2TO) hy fun g4 t2' e4 => wpAny_pure ?_)
  have b4 : IsPair g4 b x v := e4.extBut _ _ D.TOi2 b3
  refine wpAny_bind (wpAny_seqItems b4 rfl ?_)
  refine wpAny_bind (wpAny_updateSeq_pair b4 fun g5 b5 e5 => ?_)
  replace b5 : IsPair g5 b x y := b5
  refine wpAny_bind (wpAny_letGo (wpAny_pure (wpAny_pure ?_)))
  refine wpAny_bind (wpAny_seqItems b5 rfl ?_)
  refine wpAny_bind (wpAny_newTuple ?_)
  have sz : g5.objs.size = s.heap.objs.size := by rw [e5.1, e4.1, e3.1, e2.1, e1.1]
  have z5 : IsZip g5 z a b .ellipsis := e5.extBut _ _ D.TOz.symm (e4.extBut _ _ D.i2z.symm (e3.extBut _ _ D.TOz.symm (e2.extBut _ _ D.i1z.symm z1)))
  have k5 : ∀ c o, c ≠ z → c ≠ b → c ≠ i → c ≠ j → s.heap.get? c = some o → g5.get? c = some o := fun c o c1 c2 c3 c4 e =>
    e5.extBut _ _ c2 (e4.extBut _ _ c4 (e3.extBut _ _ c2 (e2.extBut _ _ c3 (e1.extBut _ _ c1 e))))
  have p1 : T (k + 1) g5 := F.tB (F.tB (F.tB t1' e3.extBut D.TOi1.symm) e4.extBut D.i12) e5.extBut D.TOi1.symm
  have p2 : U (k + 1) g5 := G.tB t2' e5.extBut D.TOi2.symm
  have zl : z < g5.objs.size := Heap.lt_size z5
  refine wpAny_bind (m := Builtin.SmallTypes.ownedTupleHandOut (.ref z) (.ref g5.objs.size)) ?_
  unfold Builtin.SmallTypes.ownedTupleHandOut
  have z6 : IsZip (g5.push { cls := .type "tuple", data := .seq #[x, y] }) z a b .ellipsis := Heap.get?_push_of_some _ z5
  refine wpAny_bind (wpAny_setField_rec z6 (by simp) fun g7 z7 e7 => ?_)
  replace z7 : IsZip g7 z a b (rawInt g5.objs.size) := z7
  refine wpAny_setField_rec z7 (by simp) fun g8 z8 e8 => ?_
  replace z8 : IsZip g8 z a b (rawInt g5.objs.size) := z8
  have up : ∀ c o, c ≠ z → g5.get? c = some o → g8.get? c = some o := fun c o c1 e => e8.extBut _ _ c1 (e7.extBut _ _ c1 (Heap.get?_push_of_some _ e))
  have n8 : IsPair g8 g5.objs.size x y := e8.extBut _ _ (Nat.ne_of_gt zl) (e7.extBut _ _ (Nat.ne_of_gt zl) (Heap.get?_push_size _ rfl))
  have sz8 : g8.objs.size = g5.objs.size + 1 := by rw [e8.1, e7.1, Heap.size_push]
  rw [sz] at z8 n8 sz8
  refine wpAny_pure ⟨_, rfl, ?_⟩
  show Q (.ref g5.objs.size) _
  rw [sz]
  exact fin g8 z8 (up _ _ D.TOz b5) (F.tAt p1 fun o e => up _ o D.i1z e) (G.tAt p2 fun o e => up _ o D.i2z e) n8 sz8 fun c o c1 c2 c3 c4 e => up c o c1 (k5 c o c1 c2 c3 c4 e)
theorem zz_end {k : Nat} {u v : Value} {Q : Fin → Shared → Prop} (hh : A.handled = none) (F : Feed P w i l xs T S) (G : Feed P w j m ys U V) (D : ZipApart z a b i j l m)
    (zz : IsZip s.heap z a b .none) (za : IsPair s.heap a (.ref i) (.ref j)) (zb : IsPair s.heap b u v) (t1 : T k s.heap) (t2 : U k s.heap) (s1 : S s.heap) (s2 : V s.heap) (hend : xs[k]? = none ∨ ys[k]? = none)
    (fin : ∀ h' e, (∀ c o, c ≠ z → c ≠ b → c ≠ i → c ≠ j → s.heap.get? c = some o → h'.get? c = some o) → (∃ o, h'.get? e = some o ∧ o.cls = .type "StopIteration") → E (.ref e) { s with heap := h' }) :
    wpAny (model P w) A (Builtin.«zip.__next__» ⟨[.ref z], []⟩) Q E s := by
  show wpAny _ _ (field (.ref z) 2 >>= _) _ _ _
  refine wpAny_bind (wpAny_field zz rfl (x := .bool false) rfl ?_)
  show wpAny _ _ (field (.ref z) 3 >>= _) _ _ _
  refine wpAny_bind (wpAny_field zz rfl (x := .ref a) rfl ?_)
  refine wpAny_bind (wpAny_seqItems za rfl ?_)
  refine wpAny_bind (m := Builtin.SmallTypes.ownedTupleIsFree (.ref z)) ?_
  unfold Builtin.SmallTypes.ownedTupleIsFree
  refine wpAny_bind (wpAny_field zz rfl (x := .none) rfl (wpAny_pure ?_))
  simp only [if_true]
  refine wpAny_bind (wpAny_rule ?_)
  refine wpAny_bind (wpAny_field zz rfl (x := .ref b) rfl ?_)
  refine wpAny_bind (wpAny_setField_rec zz (by simp) fun g1 z1 e1 => ?_)
  replace z1 : IsZip g1 z a b .ellipsis := z1
  refine wpAny_bind ?_
  simp only [List.zipIdx_cons, List.zipIdx_nil, List.forIn_cons, List.forIn_nil]
  refine wpAny_bind (wpAny_bind (wpAny_onRaise ?_))
  cases hx : xs[k]? with
  | none =>
    refine wpAny_bind (m := Builtin.SmallTypes.nextOf (.ref i)) (F.fin hh (F.tB t1 e1.extBut D.i1z) (F.sB s1 e1.extBut D.l1z) hx fun g2 e e2 he => ?_)
    obtain ⟨oe, q1, q2⟩ := he
    have z2 : IsZip g2 z a b .ellipsis := e2 _ _ D.i1z.symm z1
    have ne : e ≠ z := fun x => by subst x; rw [z2] at q1; cases q1; simp at q2
    refine wpAny_setField_rec z2 (by simp) fun g3 _ e3 => fin g3 e (fun c o c1 _ c3 _ x => e3.extBut _ _ c1 (e2 _ _ c3 (e1.extBut _ _ c1 x))) ⟨oe, e3.extBut _ _ ne q1, q2⟩
  | some x =>
    have hy : ys[k]? = none := by rcases hend with h | h; rw [hx] at h; cases h; exact h
    refine wpAny_bind (m := Builtin.SmallTypes.nextOf (.ref i)) (F.nxt (F.tB t1 e1.extBut D.i1z) (F.sB s1 e1.extBut D.l1z) hx fun g2 t1' e2 => wpAny_pure ?_)
    have b2 : IsPair g2 b u v := e2.extBut _ _ D.TOi1 (e1.extBut _ _ D.TOz zb)
    refine wpAny_bind (wpAny_seqItems b2 rfl ?_)
    refine wpAny_bind (wpAny_updateSeq_pair b2 fun g3 b3 e3 => ?_)
    refine wpAny_bind (wpAny_letGo (wpAny_pure ?_))
    refine wpAny_bind (wpAny_bind (wpAny_onRaise ?_))
    refine wpAny_bind (m := Builtin.SmallTypes.nextOf (.ref j)) (G.fin hh (G.tB (G.tB (G.tB t2 e1.extBut D.i2z) e2.extBut D.i12.symm) e3.extBut D.TOi2.symm)
      (G.sB (G.sB (G.sB s2 e1.extBut D.l2z) e2.extBut D.l2i1) e3.extBut D.l2TO) hy fun g4 e e4 he => ?_)
    obtain ⟨oe, q1, q2⟩ := he
    have z4 : IsZip g4 z a b .ellipsis := e4 _ _ D.i2z.symm (e3.extBut _ _ D.TOz.symm (e2.extBut _ _ D.i1z.symm z1))
    have ne : e ≠ z := fun x => by subst x; rw [z4] at q1; cases q1; simp at q2
    refine wpAny_setField_rec z4 (by simp) fun g5 _ e5 => fin g5 e (fun c o c1 c2 c3 c4 x => e5.extBut _ _ c1 (e4 _ _ c4 (e3.extBut _ _ c2 (e2.extBut _ _ c3 (e1.extBut _ _ c1 x))))) ⟨oe, e5.extBut _ _ ne q1, q2⟩
theorem zz_next {k : Nat} {x y u v : Value} {Q : Option Value → Shared → Prop} (f1 : Feed P w i l xs T S) (G : Feed P w j m ys U V) (D : ZipApart z a b i j l m)
    (zz : IsZip s.heap z a b .none) (za : IsPair s.heap a (.ref i) (.ref j)) (zb : IsPair s.heap b u v) (t1 : T k s.heap) (t2 : U k s.heap) (s1 : S s.heap) (s2 : V s.heap) (hx : xs[k]? = some x) (hy : ys[k]? = some y)
    (fin : ∀ h', IsZip h' z a b (rawInt s.heap.objs.size) → IsPair h' b x y → T (k + 1) h' → U (k + 1) h' → IsPair h' s.heap.objs.size x y → h'.objs.size = s.heap.objs.size + 1 →
      (∀ c o, c ≠ z → c ≠ b → c ≠ i → c ≠ j → s.heap.get? c = some o → h'.get? c = some o) → Q (some (.ref s.heap.objs.size)) { s with heap := h' }) :
    wpAny (model P w) A (pyNext (.ref z)) Q E s := by
  have ty : s.TypeIs (.ref z) "zip" := ⟨_, zz, rfl⟩
  unfold pyNext
  exact wpAny_bind (wpAny_attempt (wpAny_callSpecial?_slot (name := Str.ofString "__next__") ty F.slot_zip_next
    (wpAny_call_entry F.slot_zip_next ty F.entry_zip_next (zz_item f1 G D zz za zb t1 t2 s1 s2 hx hy fun h' a1 a2 a3 a4 a5 a6 a7 => wpAny_pure (fin h' a1 a2 a3 a4 a5 a6 a7)) (F.args_zip_next_1 _))))
theorem zz_stop {k : Nat} {u v : Value} {Q : Option Value → Shared → Prop} (hh : A.handled = none) (f1 : Feed P w i l xs T S) (G : Feed P w j m ys U V) (D : ZipApart z a b i j l m)
    (zz : IsZip s.heap z a b .none) (za : IsPair s.heap a (.ref i) (.ref j)) (zb : IsPair s.heap b u v) (t1 : T k s.heap) (t2 : U k s.heap) (s1 : S s.heap) (s2 : V s.heap) (hend : xs[k]? = none ∨ ys[k]? = none)
    (fin : ∀ h', (∀ c o, c ≠ z → c ≠ b → c ≠ i → c ≠ j → s.heap.get? c = some o → h'.get? c = some o) → Q none { s with heap := h' }) : wpAny (model P w) A (pyNext (.ref z)) Q E s := by
  have ty : s.TypeIs (.ref z) "zip" := ⟨_, zz, rfl⟩
  unfold pyNext
  refine wpAny_bind (wpAny_attempt (wpAny_callSpecial?_slot (name := Str.ofString "__next__") ty F.slot_zip_next
    (wpAny_call_entry F.slot_zip_next ty F.entry_zip_next (zz_end hh f1 G D zz za zb t1 t2 s1 s2 hend fun h' e kp he => ?_) (F.args_zip_next_1 _))))
  obtain ⟨o, ho, hc⟩ := he
  refine wpAny_bind (wpAny_isInstance (T := "StopIteration") (b := true) ⟨o, ho, hc⟩ isSubtype_stop ?_)
  exact wpAny_pure (fin _ kp)
abbrev zm1 (h : Heap) (l : Addr) : Heap := h.push { cls := .type "list_iterator", data := .fields #[.ref l, .int 0 0] }
abbrev zm2 (h : Heap) (l m : Addr) : Heap := (zm1 h l).push { cls := .type "tuple_iterator", data := .fields #[.ref m, .int 0 0] }
abbrev zm3 (h : Heap) (l m : Addr) : Heap := (zm2 h l m).push { cls := .type "tuple", data := .seq #[.ref h.objs.size, .ref (zm1 h l).objs.size] }
abbrev zm4 (h : Heap) (l m : Addr) : Heap := (zm3 h l m).push { cls := .type "tuple", data := .seq #[.none, .none] }
abbrev zm5 (h : Heap) (l m : Addr) : Heap := (zm4 h l m).push { cls := .type "zip", data := .fields #[.none, .bool false, .bool false, .ref (zm2 h l m).objs.size, .ref (zm3 h l m).objs.size] }
theorem zm_new (l m : Addr) (xs ys : Array Value) : Meets (Builtin.«zip.__new__» ⟨[.type "zip", .ref l, .ref m], []⟩) (fun _ R s => s.heap.IsList l xs ∧ s.heap.IsTuple m ys ∧
      R (.ok (.ret (.ref (zm4 s.heap l m).objs.size))) { s with heap := zm5 s.heap l m }) :=
  .of_wp fun prog w A R s h => by
    obtain ⟨hp, g, d, tk, os⟩ := s; obtain ⟨q1, q2, h⟩ := h
    have sb := sub_zip
    have l1 : Heap.IsList (Shared.heap ⟨hp, g, d, tk, os⟩) l xs := q1
    have l2 : Heap.IsTuple (Shared.heap ⟨hp.push { cls := .type "list_iterator", data := .fields #[.ref l, .int 0 0] }, g, d, tk, os⟩) m ys := Heap.IsTuple.push q2 _
    wp_walk using wpAny_pyIter_list l1, wpAny_pyIter_tuple l2
    exact ⟨_, rfl, h⟩
theorem zm_call {Q : Value → Shared → Prop} (q1 : s.heap.IsList l xs) (q2 : s.heap.IsTuple m ys)
    (fin : ∀ h', IsZip h' (s.heap.objs.size + 4) (s.heap.objs.size + 2) (s.heap.objs.size + 3) .none → IsPair h' (s.heap.objs.size + 2) (.ref s.heap.objs.size) (.ref (s.heap.objs.size + 1)) →
      IsPair h' (s.heap.objs.size + 3) .none .none → h'.IsListIter s.heap.objs.size l 0 → h'.IsTupleIter (s.heap.objs.size + 1) m 0 →
      (∀ c o, s.heap.get? c = some o → h'.get? c = some o) → Q (.ref (s.heap.objs.size + 4)) { s with heap := h' }) :
    wpAny (model P w) A (call (.type "zip") [.ref l, .ref m]) Q E s := by
  refine callType_new F.called_zip (by decide) (F.typeCall_zip_2 _ _) (F.newCall_zip_2 _ _) (fun ob => F.args_object_init_3 ob _ _) F.entry_zip_new (zm_new l m xs ys) ⟨q1, q2, ?_⟩
  have z1 : (zm1 s.heap l).objs.size = s.heap.objs.size + 1 := Heap.size_push ..
  have z2 : (zm2 s.heap l m).objs.size = s.heap.objs.size + 2 := by rw [Heap.size_push, z1]
  have z3 : (zm3 s.heap l m).objs.size = s.heap.objs.size + 3 := by rw [Heap.size_push, z2]
  have z4 : (zm4 s.heap l m).objs.size = s.heap.objs.size + 4 := by rw [Heap.size_push, z3]
  have g5 : (zm5 s.heap l m).get? (zm4 s.heap l m).objs.size = some _ := Heap.get?_push_size _ rfl
  have g4 : (zm5 s.heap l m).get? (zm3 s.heap l m).objs.size = some _ := Heap.get?_push_of_some _ (Heap.get?_push_size _ rfl)
  have g3 : (zm5 s.heap l m).get? (zm2 s.heap l m).objs.size = some _ := Heap.get?_push_of_some _ (Heap.get?_push_of_some _ (Heap.get?_push_size _ rfl))
  have g2 : (zm5 s.heap l m).get? (zm1 s.heap l).objs.size = some _ := Heap.get?_push_of_some _ (Heap.get?_push_of_some _ (Heap.get?_push_of_some _ (Heap.get?_push_size _ rfl)))
  have g1 : (zm5 s.heap l m).get? s.heap.objs.size = some _ := Heap.get?_push_of_some _ (Heap.get?_push_of_some _ (Heap.get?_push_of_some _ (Heap.get?_push_of_some _ (Heap.get?_push_size _ rfl))))
  show _ ∧ _
  rw [z2, z3, z4] at g5
  rw [z1, z2] at g3
  rw [z3] at g4
  rw [z1] at g2
  rw [z4]
  exact ⟨⟨_, g5, rfl⟩, fin _ g5 g3 g4 ⟨_, g1, rfl, rfl⟩ ⟨_, g2, rfl, rfl⟩ fun c o x =>
    Heap.get?_push_of_some _ (Heap.get?_push_of_some _ (Heap.get?_push_of_some _ (Heap.get?_push_of_some _ (Heap.get?_push_of_some _ x))))⟩
end
/-- turns of zip(list, tuple) -/
def ItzM (K : PySem.W.Frag) (l m : Addr) : It :=
  ⟨fun i H => ∃ (xs ys : List V) (x y : V), SqL K H l xs ∧ SqT K H m ys ∧ xs[i]? = some x ∧ ys[i]? = some y,
    fun i H v H' => ∃ t x y, v = .ref t ∧ H t = none ∧ H' = upd H t (.tup [x, y]) ∧ (∀ xs, SqL K H l xs → xs[i]? = some x) ∧ ∀ ys, SqT K H m ys → ys[i]? = some y,
    fun i H => ∃ xs ys : List V, SqL K H l xs ∧ SqT K H m ys ∧ (xs.length ≤ i ∨ ys.length ≤ i)⟩
theorem turn_zm {P : Program} {w : World} {K : PySem.W.Frag} {elts : List Expr} {kk : Nat} {tpos : Pos} {l m z a b i1 i2 : Addr} (D : ZipApart z a b i1 i2 l m) :
    Turn P w K (.Tuple elts kk tpos) (ItzM K l m) [z, a, b, i1, i2] z (fun i h => IsZip h z a b .none ∧ IsPair h a (.ref i1) (.ref i2) ∧ (∃ x y, IsPair h b x y) ∧ h.IsListIter i1 l i ∧ h.IsTupleIter i2 m i) where
  mem := by simp
  obj := fun i h st c hc => by
    obtain ⟨q1, q2, ⟨x, y, q3⟩, q4, q5⟩ := st
    simp only [List.mem_cons, List.not_mem_nil, or_false] at hc
    rcases hc with rfl | rfl | rfl | rfl | rfl
    · exact ⟨_, q1, fun v q => nomatch q⟩
    · exact ⟨_, q2, fun v q => nomatch q⟩
    · exact ⟨_, q3, fun v q => nomatch q⟩
    · exact (feed_list (P := P) (w := w) _ l #[]).ob q4
    · exact (feed_tup (P := P) (w := w) _ m #[]).ob q5
  keep := fun i h h' st k => by
    obtain ⟨q1, q2, ⟨x, y, q3⟩, q4, q5⟩ := st
    exact ⟨k z (by simp) _ q1, k a (by simp) _ q2, ⟨x, y, k b (by simp) _ q3⟩, q4.at fun o q => k i1 (by simp) o q, q5.at fun o q => k i2 (by simp) o q⟩
  item := by
    intro X hP hw hK hc i pins s σ H E I hf st hg
    subst hP hw hK
    obtain ⟨q1, q2, ⟨x0, y0, q3⟩, q4, q5⟩ := st
    obtain ⟨xs, ys, x, y, hqx, hqy, hx, hy⟩ := hg
    obtain ⟨us, rv, p, _⟩ := I.list hqx
    obtain ⟨vs, rv2, p2, _⟩ := I.tuple hqy
    obtain ⟨u, hu, ru⟩ := rv.get hx
    obtain ⟨v, hv, ru2⟩ := rv2.get hy
    have zl : z < s.heap.objs.size := Heap.lt_size q1
    refine zz_next (feed_list i1 l us.toArray) (feed_tup i2 m vs.toArray) D q1 q2 q3 q4 q5 p.isList p2 (x := u) (y := v) (by simpa using hu) (by simpa using hv) fun h' z' b' a1 a2 nT sz kp => ?_
    refine ⟨_, rfl, wpAny_letOwnedTupleGo_zip (s := { s with heap := h' }) z' fun h2 z2 sb => ?_⟩
    have nT2 : h2.get? s.heap.objs.size = some { cls := .type "tuple", data := .seq #[u, v] } := (sb.2 _ (Nat.ne_of_gt zl)).trans nT
    have new : ObjOk X.prog X.w (upd H s.heap.objs.size (.tup [x, y])) h2 s.heap.objs.size (.tup [x, y]) :=
      ⟨by show 2 ≤ sizeLine; decide, [u, v], .cons ru (.cons ru2 .nil), ⟨_, nT2, rfl, _, rfl⟩⟩
    have I1 : Inv X pins σ (upd H s.heap.objs.size (.tup [x, y])) { s with heap := h2 } :=
      I.turnedNew (t' := s.toks) (ch := [z, a, b, i1, i2]) (fun c o hb q => (sb.2 c (fun q' => hb (by simp [q']))).trans (kp c o (fun q' => hb (by simp [q'])) (fun q' => hb (by simp [q'])) (fun q' => hb (by simp [q'])) (fun q' => hb (by simp [q'])) q)) hf (Nat.le_refl _) new
    refine ⟨.ref s.heap.objs.size, _, I1, rfl, ⟨_, x, y, rfl, I.hok.fresh (Nat.le_refl _), rfl, fun l hl => by rw [I.list_inj hl hqx]; exact hx, fun l hl => by rw [I.tuple_inj hl hqy]; exact hy⟩, ⟨z2, ?_, ⟨u, v, ?_⟩, ?_, ?_⟩, fun c hcm => ?_⟩
    · exact (sb.2 _ D.TIz).trans (kp _ _ D.TIz D.TITO D.TIi1 D.TIi2 q2)
    · exact (sb.2 _ D.TOz).trans b'
    · exact a1.at fun o q => (sb.2 _ D.i1z).trans q
    · exact a2.at fun o q => (sb.2 _ D.i2z).trans q
    · have lt : c < s.heap.objs.size := by
        obtain ⟨o4, e4, _⟩ := q4
        obtain ⟨o5, e5, _⟩ := q5
        simp only [List.mem_cons, List.not_mem_nil, or_false] at hcm
        rcases hcm with rfl | rfl | rfl | rfl | rfl
        · exact zl
        · exact Heap.lt_size q2
        · exact Heap.lt_size q3
        · exact Heap.lt_size e4
        · exact Heap.lt_size e5
      rw [upd_ne (Nat.ne_of_lt lt)]
      exact (hf c hcm).1
  done := by
    intro X hP hw hK hc i pins s σ H E I hf st hg
    subst hP hw hK
    obtain ⟨q1, q2, ⟨x0, y0, q3⟩, q4, q5⟩ := st
    obtain ⟨xs, ys, hqx, hqy, hend⟩ := hg
    obtain ⟨us, rv, p, _⟩ := I.list hqx
    obtain ⟨vs, rv2, p2, _⟩ := I.tuple hqy
    have l1 := rv.length
    have l2 := rv2.length
    have he : us.toArray[i]? = none ∨ vs.toArray[i]? = none := by
      rcases hend with q | q
      · exact .inl (by simp; omega)
      · exact .inr (by simp; omega)
    exact zz_stop (I.ok.hd hc) (feed_list i1 l us.toArray) (feed_tup i2 m vs.toArray) D q1 q2 q3 q4 q5 p.isList p2 he fun h' kp => ⟨rfl, I.turnedL (t' := s.toks) (ch := [z, a, b, i1, i2]) (fun c o hb q =>
      kp c o (fun q' => hb (by simp [q'])) (fun q' => hb (by simp [q'])) (fun q' => hb (by simp [q'])) (fun q' => hb (by simp [q'])) q) hf⟩
  self := fun A i s Q E st h => wpAny_pyIter_zip st.1 h
def iZipM (K : PySem.W.Frag) (ta : TA) : TI := fun σ H R => ta σ H fun vs H1 => ∃ a b xs ys, vs = [.ref a, .ref b] ∧ SqL K H1 a xs ∧ SqT K H1 b ys ∧ R (ItzM K a b) H1
theorem pi_zm {X : Cx} {e e2 : Expr} {ta : TA} {p pos tpos : Pos} {elts : List Expr} {kk : Nat} (hg : Gl X "zip") (hm : X.mg "zip" = none) (ha : PA X [e, e2] ta)
    (hs : starEach [e, e2] X.env = (false, eval e X.env) :: starEach [e2] X.env) (hpl : (backTo pos (starEach [e2] X.env)).any (·.1) = false) :
    PI X (.Tuple elts kk tpos) (.Call (.Name "zip" p) [e, e2] [] pos) (iZipM X.K ta) := by
  refine ⟨fun pins s σ H R I h => ?_⟩
  refine Call_ (ld_blt I hg hm PyProof.Rows.boot_zip (PyProof.Rows.callWith_type1 (thn (ha.run pos pins s σ H _ I h) fun us s1 ⟨vs, H1, I1, r1, q1⟩ => ?_) hs hpl))
  obtain ⟨a, b, xs, ys, rfl, hqx, hqy, q⟩ := q1
  cases r1 with
  | cons r rr =>
    cases rr with
    | cons r' rr =>
      cases rr
      cases r
      cases r'
      have new5 : ∀ c, c ∈ [s1.heap.objs.size + 4, s1.heap.objs.size + 2, s1.heap.objs.size + 3, s1.heap.objs.size, s1.heap.objs.size + 1] → FpOk X pins H1 c := fun c hcm => by
        have hle : s1.heap.objs.size ≤ c := by
          simp only [List.mem_cons, List.not_mem_nil, or_false] at hcm
          rcases hcm with rfl | rfl | rfl | rfl | rfl <;> first | exact Nat.le_add_right _ _ | exact Nat.le_refl _
        exact I1.fpOk hle (I1.hok.fresh hle)
      obtain ⟨us, rv, p1, _⟩ := I1.list hqx
      obtain ⟨vs, rv2, p2, _⟩ := I1.tuple hqy
      obtain ⟨o2, ho2, _⟩ := id p2
      refine zm_call p1.isList (show s1.heap.IsTuple b vs.toArray from p2) fun h' zz za zb t1 t2 kp => wpAny_pyIter_zip zz ?_
      exact ⟨s1.heap.objs.size + 4, [s1.heap.objs.size + 4, s1.heap.objs.size + 2, s1.heap.objs.size + 3, s1.heap.objs.size, s1.heap.objs.size + 1], _, _, H1, rfl, I1.kept (t' := s1.toks) kp,
        turn_zm (PySem.W.ktu_apart s1.heap.objs.size a b p1.lt (Heap.lt_size ho2)), ⟨zz, za, ⟨_, _, zb⟩, t1, t2⟩, new5, q⟩
end MI
/-! MiS: sets made of a list: sorted(set(xs)), len(set(xs)). -/
namespace MI
open PySem PySem.Spec PyProof.Rows L2
section
variable {P : Program} {w : World} {A : Around} {E : Value → Shared → Prop} {s : Shared}
/-- what the list's items do to the set, turn by turn -/
structure SetSteps (P : Program) (w : World) (S n : Nat) (Pv : Nat → Value → Prop) (J : Nat → Heap → Prop) : Prop where
  stay : ∀ i h h', J i h → (∀ o, h.get? S = some o → h'.get? S = some o) → J i h'
  add : ∀ (i : Nat) (v : Value) (B : Around) (e : Value → Shared → Prop) (u : Shared) (q : Bool → Shared → Prop), i < n → Pv i v → J i u.heap →
    (∀ b h', Heap.SameBut S u.heap h' → J (i + 1) h' → q b { u with heap := h', toks := u.toks + 1 }) → wpAny (model P w) B (pyHash v >>= fun z => setAddHashed S v z) q e u
theorem upd_loop {I : Addr} {fp wr : List Addr} {G : Array GenState → Array GenState → Prop} {n : Nat} {Pv : Nat → Value → Prop} {St : Nat → Shared → Prop} {R : Result → Shared → Prop} {J : Nat → Heap → Prop}
    (W : WalksS P w A.in1 I fp wr G n Pv St) (S : Addr) (nS : S ∉ fp) (T : SetSteps P w S n Pv J) :
    ∀ (m i : Nat) (u : Shared), n - i = m → i ≤ n → St i u → J i u.heap → (∀ u', Moved (S :: wr) G u u' → J n u'.heap → R (.ok (.ret .none)) u') →
      codeAny (model P w) A (.builtin "set.update.loop" ⟨[.ref S, .ref I], []⟩) R u := by
  have nW : S ∉ wr := fun z => nS (W.sub _ z)
  have sub2 : ∀ b ∈ wr, b ∈ S :: wr := fun b z => List.mem_cons_of_mem _ z
  intro m
  induction m with
  | zero =>
    intro i u em hi st j fin
    obtain rfl : i = n := by omega
    refine codeAny_builtin F.entry_set_update_loop ?_
    rw [Around.under_plainId F.plain_set_update_loop _]
    show wpAny _ A.in1 (pyNext (.ref I) >>= _) _ _ u
    refine wpAny_bind (W.done u _ _ st fun u' mv => ?_)
    show wpAny _ A.in1 (ret Value.none) _ _ u'
    exact wpAny_pure (fin u' (mv.mono sub2) (T.stay i _ _ j fun o e => mv.heap S o nW e))
  | succ m ih =>
    intro i u em hi st j fin
    have lt : i < n := by omega
    refine codeAny_builtin F.entry_set_update_loop ?_
    rw [Around.under_plainId F.plain_set_update_loop _]
    show wpAny _ A.in1 (pyNext (.ref I) >>= _) _ _ u
    refine wpAny_bind (W.item i u _ _ lt st fun v u' hp st' mv => ?_)
    have j' : J i u'.heap := T.stay i _ _ j fun o e => mv.heap S o nW e
    show wpAny _ A.in1 (holding [v] (setAdd S v) >>= _) _ _ u'
    refine wpAny_bind (wpAny_holding ?_)
    unfold setAdd
    refine wpAny_holding ?_
    refine T.add i v _ _ u' _ lt hp j' fun b h' sb j2 => ?_
    refine wpAny_pure ⟨plainId_quiet F.plain_set_update_loop _, ih (i + 1) _ (by omega) lt (W.frame _ u' _ _ st' (Nat.le_succ _) fun c hc o e => ?_) j2 fun u2 mv2 jn => ?_⟩
    · rw [sb.2 c (fun z : c = S => nS (by rw [← z]; exact hc))]; exact e
    · refine fin u2 (Moved.trans W.gtrans ((mv.mono sub2).then_heap (Nat.le_succ _) fun c o hc e => ?_) mv2) jn
      rw [sb.2 c (fun z : c = S => hc (by rw [z]; exact List.mem_cons_self))]; exact e
/-- an empty set, just made -/
abbrev noSetYet (w : World) : Obj := { cls := .type "set", dict := none, data := .set #[] 0 (.fresh 0 0 (!w.params.followText "set-order")) }
theorem set_of_list {l : Addr} {items : Array Value} {J : Nat → Heap → Prop} {Q : Value → Shared → Prop} (hh : A.handled = none) (hl : s.heap.IsList l items)
    (T : SetSteps P w s.heap.objs.size items.size (fun i v => items[i]? = some v) J) (J0 : ∀ h, h.get? s.heap.objs.size = some (noSetYet w) → J 0 h)
    (fin : ∀ (h2 : Heap) (tk : Nat), J items.size h2 → (∀ b o, s.heap.get? b = some o → h2.get? b = some o) → Q (.ref s.heap.objs.size) { s with heap := h2, toks := tk }) :
    wpAny (model P w) A (call (.type "set") [.ref l]) Q E s := by
  obtain ⟨_, _, mro⟩ := F.called_set.mro
  have made := F.called_set.made
  have sub0 := F.called_set.sub
  refine wpAny_call (codeAny_of_tree ?_)
  show wpAny _ _ (callAny (.type "set") _) _ _ _
  refine wpAny_pure ⟨Code.quiet_builtin _ (by decide +kernel), codeAny_builtin F.entry_type_call ?_⟩
  rw [Around.under_plain (weight_type_call_type "set" [.ref l] []) rfl]
  have nt := F.called_set.notType
  have cc := F.called_set.canCreate
  have tc := F.typeCall_set_1 (.ref l)
  repeat (any_goals (first | assumption | wp_step))
  refine codeAny_mono (code_set_led1 (.ref l) (E := E) (Q₁ := fun ob s1 => ob = .ref s.heap.objs.size ∧ s1 = { s with heap := s.heap.push (noSetYet w) }) ⟨rfl, rfl⟩) fun r s1 hr => ?_
  cases r with
  | error e => exact hr
  | ok fl =>
    cases fl with
    | ret ob =>
      obtain ⟨rfl, rfl⟩ := hr
      have at0 : (s.heap.push (noSetYet w)).get? s.heap.objs.size = some (noSetYet w) := Heap.get?_push_size _ rfl
      have ty0 : Shared.TypeIs { s with heap := s.heap.push (noSetYet w) } (.ref s.heap.objs.size) "set" := ⟨_, at0, rfl⟩
      have li := F.called_set.init.lookup
      have bi := F.called_set.init.bind (.ref s.heap.objs.size)
      repeat (any_goals (first | assumption | wp_step))
      refine codeAny_mono (codeAny_call_builtin (R := wants (fun r s2 => r = .none ∧ ∃ h2 tk, s2 = { s with heap := h2, toks := tk } ∧ J items.size h2 ∧
          (∀ b o, s.heap.get? b = some o → h2.get? b = some o)) E) F.called_set.init.plain F.entry_set_init (check_set_init_1 ty0 ?_)) fun r2 s2 hr2 => ?_
      · obtain ⟨ol, hol, hcl, nl, hdl⟩ := hl
        obtain ⟨oc, od, oda, osl⟩ := ol
        simp only at hcl hdl
        subst hcl; subst hdl
        have hol2 : (s.heap.push (noSetYet w)).get? l = some { cls := .type "list", dict := od, data := .seq items nl, slots := osl } := Heap.get?_push_of_some _ hol
        have b1 := F.sub_list_set
        have b2 := F.sub_list_frozenset
        have b3 : (Value.type "list" == Value.type "dict") = false := by decide
        have isl : (s.heap.push (noSetYet w)).IsList l items := ⟨_, hol2, rfl, nl, rfl⟩
        unfold Builtin.«set.__init__» noKeywords Builtin.Frozenset.updateFrom
        generalize epi : pyIter = pit
        wp_walk
        subst epi
        refine wpAny_pyIter_list isl ?_
        refine wpAny_bind (wpAny_runValue ?_)
        have llt : l < s.heap.objs.size := Heap.lt_size hol
        have h3 : A.in1.in1.in1.handled = none := by simp [hh]
        have sz1 : (s.heap.push (noSetYet w)).objs.size = s.heap.objs.size + 1 := Heap.size_push ..
        have ne1 : l ≠ (s.heap.push (noSetYet w)).objs.size := by rw [sz1]; exact Nat.ne_of_lt (Nat.lt_succ_of_lt llt)
        have nf : s.heap.objs.size ∉ [(s.heap.push (noSetYet w)).objs.size, l] := by
          rw [sz1]
          intro z
          simp only [List.mem_cons, List.not_mem_nil, or_false] at z
          exact z.elim (Nat.ne_of_lt (Nat.lt_succ_self _)) (Nat.ne_of_gt llt)
        refine upd_loop ((Walks.list h3 _ l ne1 items).toS) s.heap.objs.size nf T (items.size - 0) 0 _ (by omega) (Nat.zero_le _)
          ⟨⟨_, Heap.get?_push_size _ rfl, rfl, rfl⟩, (isl.push _)⟩ ?j0 ?jn
        case j0 => exact J0 _ (Heap.get?_push_of_some _ at0)
        case jn =>
          intro s' mv jn
          obtain ⟨h2, g2, d2, tk2, os2⟩ := s'
          have eg : g2 = s.gens := mv.gens
          have ed : d2 = s.drawn := mv.drawn
          have eo : os2 = s.os := mv.os
          subst eg; subst ed; subst eo
          show wpAny _ _ _ _ _ _
          refine wpAny_pure ?_
          show wpAny _ _ (ret Value.none) _ _ _
          refine wpAny_pure ⟨rfl, h2, tk2, rfl, jn, fun b o e => ?_⟩
          have blt : b < s.heap.objs.size := Heap.lt_size e
          refine mv.heap b o (fun z => ?_) (Heap.get?_push_of_some _ (Heap.get?_push_of_some _ e))
          simp only [List.mem_cons, List.not_mem_nil, or_false, sz1] at z
          exact z.elim (Nat.ne_of_lt blt) (Nat.ne_of_lt (Nat.lt_succ_of_lt blt))
      · cases r2 with
        | error e => exact hr2
        | ok fl2 =>
          cases fl2 with
          | ret r =>
            obtain ⟨rfl, h2, tk, rfl, jn, kp⟩ := hr2
            repeat (any_goals (first | assumption | wp_step))
            exact fin _ _ jn kp
          | _ => exact hr2.elim
    | _ => exact hr.elim
end
end MI
/-! MiT: sorted(set(xs)), len(set(xs)) in the reading. -/
namespace MI
open PySem PySem.Spec PyProof.Rows L2
/-- the items of a list, each once, as first met -/
def dd {α : Type} [DecidableEq α] (xs : List α) : List α := xs.foldl (fun acc x => if x ∈ acc then acc else acc ++ [x]) []
theorem dd_snoc {α : Type} [DecidableEq α] (xs : List α) (x : α) : dd (xs ++ [x]) = if x ∈ dd xs then dd xs else dd xs ++ [x] := by
  unfold dd
  rw [List.foldl_append]
  rfl
theorem take_snoc {α : Type} {xs : List α} {i : Nat} {x : α} (h : xs[i]? = some x) : xs.take (i + 1) = xs.take i ++ [x] := by
  rw [List.take_add_one, h]; rfl
theorem snoc_rec {α : Type} {P : List α → Prop} (h0 : P []) (h1 : ∀ xs x, P xs → P (xs ++ [x])) (xs : List α) : P xs := by
  rw [← List.reverse_reverse xs]
  generalize xs.reverse = ys
  induction ys with
  | nil => exact h0
  | cons y ys ih => rw [List.reverse_cons]; exact h1 _ _ ih
theorem dd_mem {α : Type} [DecidableEq α] (xs : List α) (y : α) : y ∈ dd xs ↔ y ∈ xs := by
  refine snoc_rec (P := fun xs => y ∈ dd xs ↔ y ∈ xs) (by simp [dd]) (fun xs x ih => ?_) xs
  rw [dd_snoc]
  split
  · rename_i h
    rw [List.mem_append, ih]
    constructor
    · exact .inl
    · rintro (h2 | h2)
      · exact h2
      · rw [List.mem_singleton] at h2
        subst h2
        exact ih.mp h
  · rw [List.mem_append, List.mem_append, ih]
theorem dd_len {α : Type} [DecidableEq α] (xs : List α) : (dd xs).length ≤ xs.length := by
  refine snoc_rec (P := fun xs => (dd xs).length ≤ xs.length) (by simp [dd]) (fun xs x ih => ?_) xs
  rw [dd_snoc]
  split
  · simp; omega
  · simp; omega
theorem dd_nodup {α : Type} [DecidableEq α] {xs : List α} (h : xs.Nodup) : dd xs = xs := by
  have : ∀ xs : List α, xs.Nodup → dd xs = xs := fun xs => by
    refine snoc_rec (P := fun xs => xs.Nodup → dd xs = xs) (fun _ => rfl) (fun xs x ih hn => ?_) xs
    rw [List.nodup_append] at hn
    rw [dd_snoc, ih hn.1, if_neg]
    intro hm
    exact hn.2.2 x hm x (by simp) rfl
  exact this xs h
theorem dd_lt {α : Type} [DecidableEq α] {xs : List α} (h : ¬ xs.Nodup) : (dd xs).length < xs.length := by
  have : ∀ xs : List α, ¬ xs.Nodup → (dd xs).length < xs.length := fun xs => by
    refine snoc_rec (P := fun xs => ¬ xs.Nodup → (dd xs).length < xs.length) (fun h => absurd List.nodup_nil h) (fun xs x ih hn => ?_) xs
    rw [dd_snoc]
    split
    · have := dd_len xs
      simp; omega
    · rename_i hm
      have hx : ¬ xs.Nodup := fun hx => hn (by
        rw [List.nodup_append]
        refine ⟨hx, by simp, fun a ha b hb => ?_⟩
        rw [List.mem_singleton] at hb
        subst hb
        rintro rfl
        exact hm ((dd_mem xs a).mpr ha))
      have := ih hx
      simp; omega
  exact this xs h
section
variable {P : Program} {w : World} {α : Type} [DecidableEq α] {S : Addr}
theorem steps_knd (knd : KeyKind P w α) (ks : List α) (hb : ks.length + 1 < scanBound) {Pv : Nat → Value → Prop} (hv : ∀ i v, Pv i v → ∃ k, ks[i]? = some k ∧ knd.is k v = true ∧ v.scannable = true) :
    SetSteps P w S ks.length Pv (fun i h => h.SetOf knd S (fun k => decide (k ∈ dd (ks.take i))) (dd (ks.take i)).length) where
  stay := fun i h h' ⟨o, es, ep, t, ho, r⟩ f => ⟨o, es, ep, t, f o ho, r⟩
  add := fun i v B e u q hi hp j fin => by
    obtain ⟨k, hk, is, sc⟩ := hv i v hp
    refine wpAny_bind (knd.pyHash is ?_)
    have room : (dd (ks.take i)).length + 1 < scanBound := by
      have a := dd_len (ks.take i)
      have b := List.length_take_le i ks
      have c : (ks.take i).length ≤ ks.length := List.length_take_le' i ks
      omega
    refine wpAny_setAddHashed_of (s := { u with toks := u.toks + 1 }) is sc j room fun h' sb j2 => fin _ h' sb ?_
    have e1 : (fun k' => decide (k' ∈ dd (ks.take i)) || decide (k' = k)) = fun k' => decide (k' ∈ dd (ks.take (i + 1))) := by
      funext k'
      rw [take_snoc hk, dd_snoc]
      split
      · rename_i hm
        by_cases z : k' = k
        · subst z; simp [hm]
        · simp [z]
      · simp [List.mem_append]
    have e2 : (if decide (k ∈ dd (ks.take i)) = true then (dd (ks.take i)).length else (dd (ks.take i)).length + 1) = (dd (ks.take (i + 1))).length := by
      rw [take_snoc hk, dd_snoc]
      by_cases z : k ∈ dd (ks.take i)
      · simp [z]
      · simp [z]
    rw [e1, e2] at j2
    exact j2
theorem steps_int (ns : List Int) (hb : ns.length + 1 < scanBound) {Pv : Nat → Value → Prop} (hv : ∀ i v, Pv i v → ∃ k t, ns[i]? = some k ∧ v = .int k t) :
    SetSteps P w S ns.length Pv (fun i h => ∃ c, c ≤ i ∧ SetR w h S (fun j => decide (j ∈ ns.take i)) c) where
  stay := fun i h h' ⟨c, hc, R⟩ f => ⟨c, hc, R.at f⟩
  add := fun i v B e u q hi hp j fin => by
    obtain ⟨k, t, hk, rfl⟩ := hv i v hp
    obtain ⟨c, hc, R⟩ := j
    refine wpAny_bind ((intKind P w).pyHash (k := k) (intKind_is _ _ _ _) ?_)
    refine setR_add_hashed (s := { u with toks := u.toks + 1 }) R (by omega) fun h' sb R2 => fin _ h' sb ⟨_, ?_, R2.congr fun j => ?_⟩
    · split <;> omega
    · rw [take_snoc hk]
      simp [List.mem_append]
end
/-! ### the rules -/
section
variable {X : Cx}
/-- set(xs) of a list of ints -/
def rSetI (K : PySem.W.Frag) (w : World) : List V → Hp → VK → Prop := fun xs H Q => ∃ (l : Addr) (ns : List Int), xs = [V.ref l] ∧ SqL K H l (ns.map V.int) ∧ ns.length < 64 ∧
  ∀ p c, H p = none → c ≤ ns.length → Q (.ref p) (upd H p (SetO w p (fun j => decide (j ∈ ns)) c))
theorem cr_setI (hc : X.calm = true) : CallR X (.type "set") (rSetI X.K X.w) := by
  intro pins s σ H xs us Q I r h
  obtain ⟨l, ns, rfl, hl, h64, q⟩ := h
  rw [Vals.ref1 r]
  obtain ⟨its, rv, pl, hz⟩ := I.list hl
  have hi : IntsAre its ns := rv.ints
  have len : its.toArray.size = ns.length := by rw [List.size_toArray, ← rv.length, List.length_map]
  have hn : H s.heap.objs.size = none := I.hok.fresh (Nat.le_refl _)
  refine set_of_list (J := fun i h => ∃ c, c ≤ i ∧ SetR X.w h s.heap.objs.size (fun j => decide (j ∈ ns.take i)) c) (I.ok.hd hc) pl.isList ?_ (fun h z => ⟨0, Nat.le_refl _, setR_new_at z⟩) fun h2 tk j kp => ?_
  · rw [len]
    refine steps_int ns (by unfold scanBound; omega) fun i v hv => ?_
    have hi2 : i < ns.length := by
      have := (Array.getElem?_eq_some_iff.mp hv).1
      rw [len] at this
      exact this
    obtain ⟨t, e⟩ := PyProof.Rows.IntsAre.int_at hi i v (by simpa using hv)
    refine ⟨ns[i], t, List.getElem?_eq_getElem hi2, ?_⟩
    rw [e, List.getD_eq_getElem?_getD, List.getElem?_eq_getElem hi2]; rfl
  · obtain ⟨c, hc2, R⟩ := j
    rw [len] at hc2 R
    rw [List.take_length] at R
    exact ⟨.ref s.heap.objs.size, upd H s.heap.objs.size (SetO X.w s.heap.objs.size (fun j => decide (j ∈ ns)) c), I.laid (t' := tk) kp (Nat.le_refl _) (setO_new R), rfl, q _ c hn hc2⟩
/-- two strictly rising rows with the same members -/
theorem rising_eq : ∀ {xs ys : List Int}, xs.Pairwise (· < ·) → ys.Pairwise (· < ·) → (∀ k, k ∈ xs ↔ k ∈ ys) → xs = ys
  | [], [], _, _, _ => rfl
  | [], y :: ys, _, _, h => absurd ((h y).mpr (by simp)) (by simp)
  | x :: xs, [], _, _, h => absurd ((h x).mp (by simp)) (by simp)
  | x :: xs, y :: ys, h1, h2, h => by
    obtain ⟨a1, a2⟩ := List.pairwise_cons.mp h1
    obtain ⟨b1, b2⟩ := List.pairwise_cons.mp h2
    have e : x = y := by
      have p := (h x).mp (by simp)
      have q := (h y).mpr (by simp)
      rcases List.mem_cons.mp p with p | p
      · exact p
      · rcases List.mem_cons.mp q with q | q
        · exact q.symm
        · have := a1 y q
          have := b1 x p
          omega
    subst e
    congr 1
    refine rising_eq a2 b2 fun k => ⟨fun hk => ?_, fun hk => ?_⟩
    · rcases List.mem_cons.mp ((h k).mp (List.mem_cons_of_mem _ hk)) with e | e
      · subst e; exact absurd (a1 k hk) (by omega)
      · exact e
    · rcases List.mem_cons.mp ((h k).mpr (List.mem_cons_of_mem _ hk)) with e | e
      · subst e; exact absurd (b1 k hk) (by omega)
      · exact e
def sortDD (ns : List Int) : List Int := sortI (dd ns)
theorem sortI_perm (ns : List Int) : (sortI ns).Perm ns := List.mergeSort_perm ns _
theorem sortI_le (ns : List Int) : (sortI ns).Pairwise (· ≤ ·) := by
  have h1 : (sortI ns).Pairwise (fun a b => (decide (a ≤ b)) = true) := List.pairwise_mergeSort (le := fun a b => decide (a ≤ b)) (fun a b c h1 h2 => by simp at *; omega) (fun a b => by simp; omega) ns
  exact h1.imp fun h => by simpa using h
theorem dd_nodup' {α : Type} [DecidableEq α] (xs : List α) : (dd xs).Nodup := by
  refine snoc_rec (P := fun xs => (dd xs).Nodup) (by simp [dd]) (fun xs x ih => ?_) xs
  rw [dd_snoc]
  split
  · exact ih
  · rename_i hm
    rw [List.nodup_append]
    refine ⟨ih, by simp, fun a ha b hb => ?_⟩
    rw [List.mem_singleton] at hb
    subst hb
    rintro rfl
    exact hm ha
theorem sortDD_lt (ns : List Int) : (sortDD ns).Pairwise (· < ·) := lt_of_le_nodup _ (sortI_le _) ((sortI_perm _).nodup_iff.mpr (dd_nodup' ns))
theorem sortDD_mem (ns : List Int) (k : Int) : k ∈ sortDD ns ↔ k ∈ ns := by
  unfold sortDD
  rw [(sortI_perm _).mem_iff, dd_mem]
end
def bSortSet (ds : List D) (st : Sto) : R D := match ds with
  | [d] => match deref st d with
    | .lst es => match intsOf es with
      | some ns => if ns.length < 64 then .ok (.lst ((sortDD ns).map .int)) st else .stuck
      | none => .stuck
    | _ => .stuck
  | _ => .stuck
def bLenSet (ds : List D) (st : Sto) : R D := match ds with
  | [d] => match deref st d with
    | .lst es => match intsOf es with
      | some ns => if ns.length < 64 then .ok (.int (dd ns).length) st else .stuck
      | none => match strsOf es with
        | some ns => if ns.length < 64 then .ok (.int (dd ns).length) st else .stuck
        | none => .stuck
    | _ => .stuck
  | _ => .stuck
section
variable {X : Cx} {cls : Nat → Value} {W : WX} {pos : Pos} {a : Expr} {ma : ME}
theorem mCall1 (f : List D → Sto → R D) (m : ME) (env : DEnv) (st : Sto) : mCall f [m] env st = (m env st).bind fun d st => f [d] st := by
  unfold mCall mArgs
  cases m env st <;> rfl
theorem pe_sortSet {p p2 q : Pos} (hp : plainE a = true) (hg : Gl X "sorted") (hm : X.mg "sorted" = none) (hg2 : Gl X "set") (hm2 : X.mg "set" = none) (hc : X.calm = true) (ha : PE X a (tE X.K cls W ma)) :
    PE X (.Call (.Name "sorted" p) [.Call (.Name "set" p2) [a] [] q] [] pos) (tE X.K cls W (mCall bSortSet [ma])) := by
  have h1 := pe_callTy (cr_setI hc) hg2 hm2 PyProof.Rows.boot_set (pa_cons ha pa_nil (star_plain hp)) (by decide) (by decide) (star_plain hp) rfl (p := p2) (pos := q)
  refine PE.weak (pe_callB (cr_sortedSet hc) hg hm boot_sorted (pa_cons h1 pa_nil (star_plain rfl)) (by decide) (by decide) (star_plain rfl) rfl) fun sg H Q h => ?_
  obtain ⟨rho, env, st, w, re, h⟩ := h
  rw [mCall1] at h
  refine ⟨rho, env, st, w, re, OkR.mono (OkR.bind h) fun d st1 rho1 H1 e1 w1 h1 v rv => ?_⟩
  have q := deref_rel w1 rv
  unfold bSortSet at h1
  simp only at h1
  split at h1
  · rename_i es e
    rw [e] at q
    obtain ⟨l, ks, rfl, g1, g2⟩ := der_lst q
    split at h1
    · rename_i ns e2
      split at h1
      · rename_i h64
        rw [intsOf_rel g2 e2] at g1
        refine ⟨l, ns, rfl, SqL.of g1, h64, fun p c hp hc => ⟨p, _, c, rfl, upd_same, by omega, fun ns' p' pw mem hl hp' => ?_⟩⟩
        have e3 : ns' = sortDD ns := rising_eq pw (sortDD_lt ns) fun k => by rw [mem k, sortDD_mem]; simp
        subst e3
        have ex := w1.extTmp hp (SetO X.w p (fun j => decide (j ∈ ns)) c)
        have w2 := w1.tmp hp (SetO X.w p (fun j => decide (j ∈ ns)) c)
        exact h1 rho1 _ (ex.trans (w2.extTmp hp' _)) (w2.tmp hp' _) _ (.lst upd_same (w2.fresh hp') (rel_ints _))
      · exact h1.elim
    · exact h1.elim
  · exact h1.elim
theorem len_set {K : Type} [DecidableEq K] {knd : KeyKind X.prog X.w K} {A : Around} {E : Value → Shared → Prop} {s : Shared} {b : Addr} {S : K → Bool} {n : Nat} {Q : Value → Shared → Prop} (h : s.heap.SetOf knd b S n) (hn : n < 64)
    (q : Q (.int n (s.toks + 1)) { s with toks := s.toks + 1 + 1 }) : wpAny (model X.prog X.w) A (call (.builtin "len") [.ref b]) Q E s := by
  obtain ⟨o, es, ep, t, ho, hex, hd, _, _, _, hf, rfl⟩ := h
  exact call_len_set ho hex hd hf (by omega) q
def rLenSet (K : PySem.W.Frag) : V → Hp → VK → Prop := fun x H Q => (∃ (l : Addr) (ns : List Int), x = .ref l ∧ SqL K H l (ns.map V.int) ∧ ns.length < 64 ∧ Q (.int (dd ns).length) H) ∨
  ∃ (l : Addr) (ns : List Str), x = .ref l ∧ SqL K H l (ns.map V.str) ∧ ns.length < 64 ∧ Q (.int (dd ns).length) H
theorem pe_lenSet {p p2 q : Pos} (hp : plainE a = true) (hg : Gl X "len") (hm : X.mg "len" = none) (hg2 : Gl X "set") (hm2 : X.mg "set" = none) (hc : X.calm = true) {ta : TE} (ha : PE X a ta) :
    PE X (.Call (.Name "len" p) [.Call (.Name "set" p2) [a] [] q] [] pos) (fun sg H Q => ta sg H fun x H1 => rLenSet X.K x H1 Q) := by
  refine ⟨fun pins s σ H Q I h => ?_⟩
  refine Call_ (ld_blt I hg hm PySem.boot_len ?_)
  refine PyProof.Rows.callWith_builtin1 (PyProof.Rows.args_cons ?_ (star_plain rfl)) (star_plain rfl) rfl
  refine Call_ (ld_blt I hg2 hm2 PyProof.Rows.boot_set ?_)
  refine PyProof.Rows.callWith_type1 (PyProof.Rows.args_cons (thn (ha.run pins s σ H _ I h) fun v s1 ⟨x, H1, I1, r1, q1⟩ => PyProof.Rows.args_nil ?_) (star_plain hp)) (star_plain hp) rfl
  rcases q1 with ⟨l, ns, rfl, hl, h64, q1⟩ | ⟨l, ns, rfl, hl, h64, q1⟩
  · cases r1
    obtain ⟨its, rv, pl, hz⟩ := I1.list hl
    have hi : IntsAre its ns := rv.ints
    have len : its.toArray.size = ns.length := by rw [List.size_toArray, ← rv.length, List.length_map]
    refine set_of_list (J := fun i h => h.SetOf (intKind X.prog X.w) s1.heap.objs.size (fun k => decide (k ∈ dd (ns.take i))) (dd (ns.take i)).length) (I1.ok.hd hc) pl.isList ?_ (fun h z => ?_) fun h2 tk j kp => ?_
    · rw [len]
      refine steps_knd _ ns (by unfold scanBound; omega) fun i v hv => ?_
      have hi2 : i < ns.length := by
        have := (Array.getElem?_eq_some_iff.mp hv).1
        rw [len] at this
        exact this
      obtain ⟨t, e⟩ := PyProof.Rows.IntsAre.int_at hi i v (by simpa using hv)
      refine ⟨ns[i], List.getElem?_eq_getElem hi2, ?_⟩
      rw [e, List.getD_eq_getElem?_getD, List.getElem?_eq_getElem hi2]
      exact ⟨intKind_is _ _ _ _, rfl⟩
    · exact (setObjOf_fresh _).setOf z (by unfold scanBound; omega)
    · rw [len, List.take_length] at j
      refine PyProof.Rows.args_nil ?_
      have I2 : Inv X pins σ H1 { s1 with heap := h2, toks := tk } := I1.kept kp
      have := dd_len ns
      exact len_set j (by omega) ⟨.int (dd ns).length, H1, I2.tok _, ⟨_, rfl⟩, q1⟩
  · cases r1
    obtain ⟨its, rv, pl, hz⟩ := I1.list hl
    have len : its.toArray.size = ns.length := by rw [List.size_toArray, ← rv.length, List.length_map]
    refine set_of_list (J := fun i h => h.SetOf (strKind X.prog X.w) s1.heap.objs.size (fun k => decide (k ∈ dd (ns.take i))) (dd (ns.take i)).length) (I1.ok.hd hc) pl.isList ?_ (fun h z => ?_) fun h2 tk j kp => ?_
    · rw [len]
      refine steps_knd _ ns (by unfold scanBound; omega) fun i v hv => ?_
      have hi2 : i < ns.length := by
        have := (Array.getElem?_eq_some_iff.mp hv).1
        rw [len] at this
        exact this
      obtain ⟨u, hu, t, e⟩ := rv.get (i := i) (x := V.str ns[i]) (by rw [List.getElem?_map, List.getElem?_eq_getElem hi2]; rfl)
      have e2 : its[i]? = some v := by simpa using hv
      rw [hu] at e2
      cases e2
      subst e
      exact ⟨ns[i], List.getElem?_eq_getElem hi2, strKind_is _ _ _ _, rfl⟩
    · exact (setObjOf_fresh _).setOf z (by unfold scanBound; omega)
    · rw [len, List.take_length] at j
      refine PyProof.Rows.args_nil ?_
      have I2 : Inv X pins σ H1 { s1 with heap := h2, toks := tk } := I1.kept kp
      have := dd_len ns
      exact len_set j (by omega) ⟨.int (dd ns).length, H1, I2.tok _, ⟨_, rfl⟩, q1⟩
theorem pe_lenSetM {p p2 q : Pos} (hp : plainE a = true) (hg : Gl X "len") (hm : X.mg "len" = none) (hg2 : Gl X "set") (hm2 : X.mg "set" = none) (hc : X.calm = true) (ha : PE X a (tE X.K cls W ma)) :
    PE X (.Call (.Name "len" p) [.Call (.Name "set" p2) [a] [] q] [] pos) (tE X.K cls W (mCall bLenSet [ma])) := by
  refine PE.weak (pe_lenSet hp hg hm hg2 hm2 hc ha) fun sg H Q h => ?_
  obtain ⟨rho, env, st, w, re, h⟩ := h
  rw [mCall1] at h
  refine ⟨rho, env, st, w, re, OkR.mono (OkR.bind h) fun d st1 rho1 H1 e1 w1 h1 v rv => ?_⟩
  have q := deref_rel w1 rv
  unfold bLenSet at h1
  simp only at h1
  split at h1
  · rename_i es e
    rw [e] at q
    obtain ⟨l, ks, rfl, g1, g2⟩ := der_lst q
    split at h1
    · rename_i ns e2
      split at h1
      · rename_i h64
        rw [intsOf_rel g2 e2] at g1
        exact .inl ⟨l, ns, rfl, SqL.of g1, h64, ok_here w1 h1 (.int _)⟩
      · exact h1.elim
    · split at h1
      · rename_i ns e2
        split at h1
        · rename_i h64
          rw [strsOf_rel g2 e2] at g1
          exact .inr ⟨l, ns, rfl, SqL.of g1, h64, ok_here w1 h1 (.int _)⟩
        · exact h1.elim
      · exact h1.elim
  · exact h1.elim
end
end MI
/-! MiDd: sorted(d.keys()) of int keys, dict(d), == of dicts. -/
namespace MI
open PySem PySem.Spec PyProof.Rows L2
section
variable {X : Cx} {a : Expr} {ta : TE} {pos p apos cpos : Pos}
/-- the keys of a dict, one by one -/
theorem keys_ints {P : Program} {w : World} {vs : List (Key × Value)} {ks : List Int} (hkeys : vs.map (·.1) = ks.map Sum.inl) {acc : Array Value} (hacc : ItemsOf (fun i v => ∃ k x, vs[i]? = some (k, x) ∧ (mixKind P w).is k v = true) acc vs.length) : IntsAre acc.toList ks := by
  have hl : vs.length = ks.length := by
    have e := congrArg List.length hkeys
    rw [List.length_map, List.length_map] at e
    exact e
  have hal : acc.toList.length = ks.length := by rw [Array.length_toList, hacc.1, hl]
  refine ints_each hal fun j v e => ?_
  obtain ⟨k, x, e1, e2⟩ := hacc.2 j v (by rw [← Array.getElem?_toList]; exact e)
  have e3 : (vs.map (·.1))[j]? = some k := by rw [List.getElem?_map, e1]; rfl
  rw [hkeys, List.getElem?_map] at e3
  cases e4 : ks[j]? with
  | none => rw [e4] at e3; cases e3
  | some y =>
    rw [e4] at e3
    have e5 : Sum.inl y = k := Option.some.inj e3
    subst e5
    rcases keyIs_shape (show keyIs (Sum.inl y) v = true from e2) with ⟨i, t, ek, ev⟩ | ⟨z, t, ek, ev⟩
    · cases ek
      exact ⟨y, t, rfl, ev⟩
    · cases ek
def rSortKeys : V → Hp → VK → Prop := fun x H Q => ∃ (d : Addr) (kvs : List (Key × V)) (ks : List Int), x = .ref d ∧ Rd H d (.dK kvs) ∧ kvs.map (·.1) = ks.map Sum.inl ∧
  ∀ (ys : List Int) (p : Addr), ys.Perm ks → ys.Pairwise (· ≤ ·) → H p = none → Q (.ref p) (upd H p (.lst (ys.map V.int)))
theorem pe_sortKeys (hg : Gl X "sorted") (hm : X.mg "sorted" = none) (hc : X.calm = true) (ha : PE X a ta) (hbase : attributeBase a "keys" X.env (eval a X.env) = eval a X.env) (hline : (apos.endLine == cpos.line) = true) :
    PE X (.Call (.Name "sorted" p) [.Call (.Attribute a "keys" apos) [] [] cpos] [] pos) (fun sg H Q => ta sg H fun x H1 => rSortKeys x H1 Q) := by
  refine ⟨fun pins s σ H Q I h => ?_⟩
  refine Call_ (ld_blt I hg hm boot_sorted ?_)
  refine PyProof.Rows.callWith_builtin1 (PyProof.Rows.args_cons ?_ (star_plain rfl)) (star_plain rfl) rfl
  refine wpAny_Call_method (T := "dict") (id := "dict.keys") hbase rfl hline F.plainAttrs_dict F.slot_dict_keys F.type_dict_keys (thn (ha.run pins s σ H _ I h) fun u s1 ⟨x, H1, I1, rx, d, kvs, ks, ex, hd, hks, q⟩ => ?_)
  subst ex
  obtain rfl : u = Value.ref d := rx
  obtain ⟨z, lo, vs, rel, dd⟩ := dk_rd I1.hok hd
  obtain ⟨ep, hat⟩ := dd.dictAt
  refine ⟨dd.typeIs, dd.mapOf.noDict, ?_⟩
  have hkeys : vs.map (·.1) = ks.map Sum.inl := rel.keys.symm.trans hks
  have hl : vs.length = ks.length := by
    have e := congrArg List.length hkeys
    rw [List.length_map, List.length_map] at e
    exact e
  have hz : vs.length ≤ sizeLine := by rw [← rel.length]; exact z
  have I2 : Inv X pins σ H1 { s1 with heap := s1.heap.push { cls := .type "dict_keys", data := .fields #[.ref d] } } := I1.kept (t' := s1.toks) fun b ob q => Heap.get?_push_of_some _ q
  show wpAny _ _ (callWith cpos (.builtin "dict.keys") [.ref d] [] []) _ X.xe s1
  refine method_meetsIn F.slot_dict_keys F.entry_dict_keys rfl (PySem.evalArgs_none ⟨rfl, dd.typeIs, F.args_dict_keys_1 _, _, PySem.W.kdl_meets_keys (mixKind X.prog X.w) d lo, ⟨vs, dd⟩, ?_⟩)
  refine PyProof.Rows.args_nil ?_
  generalize hs2 : ({ s1 with heap := s1.heap.push { cls := .type "dict_keys", data := .fields #[.ref d] } } : Shared) = s2 at I2
  have hv : PySem.W.KdlKeysView s2.heap s1.heap.objs.size d ∧ s2.heap.DictAt (mixKind X.prog X.w) d vs ep := by
    subst hs2
    exact ⟨⟨_, Heap.get?_push_size _ rfl, rfl, rfl⟩, hat.push _⟩
  refine Calls.call_function_entry PyProof.Rows.kind_sorted PyProof.Rows.plain_sorted PyProof.Rows.entry_sorted (PyProof.Rows.args_sorted1 _) ?_
  unfold Builtin.«sorted»
  refine wpAny_bind (m := checkCount "sorted" 1 1 _) (wpAny_pure ?_)
  refine wpAny_bind (PySem.W.kdu_collect (A := X.A.in1) (PySem.W.kdl_keys (knd := mixKind X.prog X.w) (kvs := vs) (ep := ep)) (I2.ok.hd hc) hv hz fun h' tk acc hk hacc => ?_)
  have hS := keys_ints hkeys hacc
  have hal : acc.toList.length = ks.length := by rw [Array.length_toList, hacc.1, hl]
  have hz2 : acc.toList.length ≤ sizeLine := by rw [hal, ← hl]; exact hz
  have I3 : Inv X pins σ H1 { s2 with heap := h', toks := tk } := I2.kept hk
  refine wpAny_bind (wpAny_newList ?_ hz2)
  have hoL : (h'.push (seqObj "list" acc.toList.toArray 0)).get? h'.objs.size = some (seqObj "list" acc.toList.toArray 0) := Heap.get?_push_size _ rfl
  show wpAny _ _ _ _ _ { s2 with heap := h'.push (seqObj "list" acc.toList.toArray 0), toks := tk }
  refine wpAny_bind (wpAny_holding (wpAny_call_entry PyProof.Rows.slot_list_sort ⟨_, hoL, rfl⟩ PyProof.Rows.entry_list_sort
    (SrtO.list_sort_ord SrtO.swo_int (s := { s2 with heap := h'.push (seqObj "list" acc.toList.toArray 0), toks := tk }) hoL hz2 (fun h2 => SrtO.ints_sortable hS h2) fun out hs hb => ⟨_, rfl, ?_⟩)
    (PyProof.Rows.args_list_sort _)))
  obtain ⟨k1, k2, k3⟩ := SrtO.ints_out hS hs hb
  obtain ⟨e', he'⟩ := PyProof.Rows.sortedHeap_at (vs := acc.toList) (out := out.toArray) hoL
  have hlen : ((out.map SrtO.iv).map V.int).length ≤ sizeLine := by
    rw [List.length_map, k2.length_eq, ← hl]
    exact hz
  refine wpAny_pure ⟨_, rfl, .ref h'.objs.size, upd H1 h'.objs.size (.lst ((out.map SrtO.iv).map V.int)), I3.laid (t' := tk) (fun b u e => ?_) (Nat.le_refl _)
    (show ObjOk X.prog X.w _ _ _ (.lst ((out.map SrtO.iv).map V.int)) from ⟨hlen, out, e', vals_of_ints k1, he'⟩), rfl, q _ _ k2 k3 (I3.hok.fresh (Nat.le_refl _))⟩
  have hb : b < h'.objs.size := Heap.lt_size e
  rw [PyProof.Rows.sortedHeap_old (Nat.ne_of_lt hb) (by rw [size_push']; exact Nat.lt_succ_of_lt hb)]
  exact Heap.get?_push_of_some _ e
end
/-! ### the readings -/
def keysI : List (Key × D) → Option (List Int)
  | [] => some []
  | (.inl i, _) :: r => (keysI r).map (i :: ·)
  | _ => none
theorem keysI_rel {K : PySem.W.Frag} {rho : Rho} {H : Hp} : ∀ {ds : List (Key × D)} {vs : List (Key × V)} {ks : List Int}, RelK K rho H ds vs → keysI ds = some ks → vs.map (·.1) = ks.map Sum.inl
  | _, _, ks, .nil, h => by cases h; rfl
  | _, _, ks, .cons (k := .inl i) h t, e => by
    simp only [keysI, Option.map_eq_some_iff] at e
    obtain ⟨r, e, rfl⟩ := e
    simp only [List.map_cons]
    rw [keysI_rel t e]
  | _, _, ks, .cons (k := .inr i) h t, e => by simp [keysI] at e
@[simp] theorem keysI_map (ks : List Int) (f : Int → D) : keysI (ks.map fun k => (Sum.inl k, f k)) = some ks := by
  induction ks with
  | nil => rfl
  | cons n ns ih => simp [keysI, ih]
def bSortKeys (ds : List D) (st : Sto) : R D := match ds with
  | [x] => (match deref st x with
    | .dic kvs => (match keysI kvs with
      | some ks => .ok (.lst ((sortI ks).map .int)) st
      | none => .stuck)
    | _ => .stuck)
  | _ => .stuck
/-- dict(d) -/
def bDict (ds : List D) (st : Sto) : R D := match ds with
  | [x] => (match deref st x with
    | .dic kvs => .ok (.dic kvs) st
    | _ => .stuck)
  | _ => .stuck
def bDictN (ds : List D) (st : Sto) : R D := match ds with
  | [x] => (match deref st x with
    | .dic kvs => .ok (.ref st.length) (st ++ [.dic kvs])
    | _ => .stuck)
  | _ => .stuck
section
variable {X : Cx} {cls : Nat → Value} {W : WX} {pos p apos cpos : Pos} {a : Expr} {ma : ME}
theorem pe_sortKeysM (hg : Gl X "sorted") (hm : X.mg "sorted" = none) (hc : X.calm = true) (hb : noCall a = true) (hl : (apos.endLine == cpos.line) = true) (ha : PE X a (tE X.K cls W ma)) :
    PE X (.Call (.Name "sorted" p) [.Call (.Attribute a "keys" apos) [] [] cpos] [] pos) (tE X.K cls W (mCall bSortKeys [ma])) := by
  refine PE.weak (pe_sortKeys hg hm hc ha (base_ok hb) hl) fun sg H Q h => ?_
  obtain ⟨rho, env, st, w, re, h⟩ := h
  rw [mCall1] at h
  refine ⟨rho, env, st, w, re, OkR.mono (OkR.bind h) fun d st1 rho1 H1 e1 w1 h1 v rv => ?_⟩
  have q := deref_rel w1 rv
  unfold bSortKeys at h1
  simp only at h1
  split at h1
  · rename_i kvs e
    rw [e] at q
    obtain ⟨l, vs, rfl, g1, g2⟩ := der_dic q
    split at h1
    · rename_i ks e2
      refine ⟨l, vs, ks, rfl, .inl g1, keysI_rel g2 e2, fun ys p pm pw hp => ?_⟩
      have e3 : ys = sortI ks := sortI_eq pm pw
      subst e3
      exact h1 rho1 _ (w1.extTmp hp _) (w1.tmp hp _) _ (.lst upd_same (w1.fresh hp) (rel_ints _))
    · exact h1.elim
  · exact h1.elim
def rDict : List V → Hp → VK → Prop := fun xs H Q => ∃ (d : Addr) (kvs : List (Key × V)), xs = [.ref d] ∧ Rd H d (.dK kvs) ∧ ∀ p, H p = none → Q (.ref p) (upd H p (.dK kvs))
theorem cr_dict : CallR X (.type "dict") rDict := by
  intro pins s σ H xs us Q I r q
  obtain ⟨d, kvs, rfl, hd, q⟩ := q
  obtain ⟨u, rfl, rx⟩ := vals1 r
  cases rx
  exact d_copyOf I hd fun p s' hp I' => ⟨.ref p, _, I', rfl, q p hp⟩
theorem hop_dict {sg : L2.St} {rho : Rho} {st : Sto} {H : Hp} {Q : VK} {ds : List D} {vs : List V} (w : Wld X.K rho st H) (r : RelDs X.K rho H ds vs) (h : OkR X.K cls W sg rho H (bDict ds st) (VQ X.K Q)) : rDict vs H Q := by
  unfold bDict at h
  split at h
  · split at h
    · rename_i kvs e
      cases r with
      | cons rv t =>
        cases t
        have q := deref_rel w rv
        rw [e] at q
        obtain ⟨l, ks, rfl, g1, g2⟩ := der_dic q
        refine ⟨l, ks, rfl, .inl g1, fun p hp => ?_⟩
        exact h rho _ (w.extTmp hp _) (w.tmp hp _) _ (.dic upd_same (w.fresh hp) (g2.ext (w.extTmp hp _)))
    · exact h.elim
  · exact h.elim
theorem hop_dictN {sg : L2.St} {rho : Rho} {st : Sto} {H : Hp} {Q : VK} {ds : List D} {vs : List V} (w : Wld X.K rho st H) (r : RelDs X.K rho H ds vs) (h : OkR X.K cls W sg rho H (bDictN ds st) (VQ X.K Q)) : rDict vs H Q := by
  unfold bDictN at h
  split at h
  · split at h
    · rename_i kvs e
      cases r with
      | cons rv t =>
        cases t
        have q := deref_rel w rv
        rw [e] at q
        obtain ⟨l, ks, rfl, g1, g2⟩ := der_dic q
        exact ⟨l, ks, rfl, .inl g1, ok_new_dic w h g2⟩
    · exact h.elim
  · exact h.elim
end
end MI
/-! MiY: the further constructs in the reading. -/
namespace MI
open PySem PySem.Spec PyProof.Rows L2 MX RZ
/-- t[lo:hi:k], a tuple -/
def opSt (x : D) (lo hi : Option Int) (k : Option Int) (st : Sto) : R D := match x, k with
  | .tup ds, some k => if k ≠ 0 ∧ k ≠ 1 ∧ (stepL ds lo hi k).length ≤ sizeLine then .ok (.tup (stepL ds lo hi k)) st else .stuck
  | _, _ => .stuck
def mSt (a : ME) (lo hi k : Option ME) : ME := fun env st => (a env st).bind fun x st => (mOpt lo env st).bind fun i st => (mOpt hi env st).bind fun j st => (mOpt k env st).bind fun k st => opSt x i j k st
/-- methods of texts -/
def isStrD (d : D) : Bool := match d with
  | .str _ => true
  | _ => false
def mSplit (d : D) (ds : List D) (st : Sto) : R D := match d, ds with
  | .str a, [.str b] => if (b.length == 0) = false ∧ a.length + 2 ≤ sizeLine then .ok (.lst ((Txt.split a b).map .str)) st else .stuck
  | _, _ => .stuck
def mJoin (d : D) (ds : List D) (st : Sto) : R D := match d, ds with
  | .str a, [y] => match (seqOf st y).bind strsOf with
    | some ys => if (ys.map (·.length)).sum + ys.length * a.length ≤ 16777216 then .ok (.str (Txt.join a ys)) st else .stuck
    | none => .stuck
  | _, _ => .stuck
def mIndexS (d : D) (ds : List D) (st : Sto) : R D := match d, ds with
  | .str a, [.str b] => match Txt.index0 a b with
    | some k => .ok (.int (k : Nat)) st
    | none => .stuck
  | _, _ => .stuck
def mMethS (f : D → List D → Sto → R D) (o : ME) (es : List ME) : ME := fun env st => (o env st).bind fun d st => if isStrD d = true then (mArgs es env st).bind fun ds st => f d ds st else .stuck
def strM (x : Str) : Option (D → List D → Sto → R D) :=
  if x = "split" then some mSplit else if x = "join" then some mJoin else if x = "index" then some mIndexS else none
/-- zip of two lists, or of two tuples -/
def zipD (xs ys : List D) : List D := (xs.zip ys).map fun p => .tup [p.1, p.2]
/-- a list, of the store or by value -/
def lsOf (st : Sto) : D → Option (List (Nat × List D) × List D)
  | .lst xs => some ([], xs)
  | .ref l => match st[l]? with
    | some (.lst xs) => some ([(l, xs)], xs)
    | _ => none
  | _ => none
def iZip (a b : ME) : MIt := fun env st => (a env st).bind fun x st => (b env st).bind fun y st => match x, y with
  | .lst xs, .lst ys => .ok (.vals (zipD xs ys)) st
  | .tup xs, .tup ys => .ok (.vals (zipD xs ys)) st
  | .lst xs, .tup ys => .ok (.vals (zipD xs ys)) st
  | x, y => match lsOf st x, lsOf st y with
    | some p, some q => .ok (.multi (p.1 ++ q.1) (zipD p.2 q.2)) st
    | _, _ => .stuck
/-- {k: v} -/
def mDic1 (a b : ME) : ME := fun env st => match (a env st).bind fun x st => (b env st).bind fun y st => match keyOf x with
    | some k => .ok (.dic [(k, y)]) st
    | none => .stuck with
  | .ok d st => .ok d st
  | _ => .stuck
section
variable {X : Cx} {cls : Nat → Value} {W : WX} {pos : Pos} {a b c e o : Expr} {ma mb mc m mo : ME}
theorem relDs_filterMap {K : PySem.W.Frag} {rho : Rho} {H : Hp} {ds : List D} {vs : List V} (r : RelDs K rho H ds vs) (f : Nat → Nat) : ∀ ms : List Nat, RelDs K rho H (ms.filterMap fun m => ds[f m]?) (ms.filterMap fun m => vs[f m]?)
  | [] => .nil
  | m :: ms => by
    simp only [List.filterMap_cons]
    cases q : ds[f m]? with
    | none =>
      have : vs[f m]? = none := by
        rw [List.getElem?_eq_none_iff] at q ⊢
        rw [← r.length]; exact q
      rw [this]
      exact relDs_filterMap r f ms
    | some x =>
      obtain ⟨u, h1, h2⟩ := r.get q
      rw [h1]
      exact .cons h2 (relDs_filterMap r f ms)
theorem relDs_step {K : PySem.W.Frag} {rho : Rho} {H : Hp} {ds : List D} {vs : List V} (r : RelDs K rho H ds vs) (lo hi : Option Int) (k : Int) : RelDs K rho H (stepL ds lo hi k) (stepL vs lo hi k) := by
  unfold stepL
  rw [r.length]
  exact relDs_filterMap r (fun m => ((Builtin.Slice.sliceAdjust lo hi k vs.length).1 + (m : Int) * k).toNat) _
theorem pe_stM {lo hi : Option Expr} {st : Expr} {ml mh mk : Option ME} {p2 : Pos} (ha : PE X a (tE X.K cls W ma)) (hl : PO X lo (tOm X.K cls W ml)) (hh : PO X hi (tOm X.K cls W mh)) (hk : PO X (some st) (tOm X.K cls W mk)) : PE X (.Subscript a (.Slice lo hi (some st) p2) pos) (tE X.K cls W (mSt ma ml mh mk)) := by
  refine PE.weak (pe_slStep ha hl hh hk) fun sg H Q h => ?_
  obtain ⟨rho, env, st, w, re, h⟩ := h
  refine ⟨rho, env, st, w, re, OkR.mono (OkR.bind h) fun d st1 rho1 H1 e1 w1 h1 v rv => ?_⟩
  refine ⟨rho1, env, st1, w1, re.ext e1, OkR.mono (OkR.bind h1) fun i st2 rho2 H2 e2 w2 h2 => ?_⟩
  refine ⟨rho2, env, st2, w2, (re.ext e1).ext e2, OkR.mono (OkR.bind h2) fun j st3 rho3 H3 e3 w3 h3 => ?_⟩
  refine ⟨rho3, env, st3, w3, ((re.ext e1).ext e2).ext e3, OkR.mono (OkR.bind h3) fun kk st4 rho4 H4 e4 w4 h4 => ?_⟩
  have rv4 := ((rv.ext e2).ext e3).ext e4
  unfold opSt at h4
  split at h4
  · split at h4
    · rename_i k hc
      cases rv4 with
      | tup q1 q2 =>
        have rs := relDs_step q2 i j k
        exact ⟨_, _, k, rfl, q1, rfl, hc.1, hc.2.1, by rw [← rs.length]; exact hc.2.2, ok_tmp_tup w4 h4 rs⟩
    · exact h4.elim
  · exact h4.elim
/-! ### methods of texts -/
abbrev HopM (X : Cx) (cls : Nat → Value) (W : WX) (f : D → List D → Sto → R D) (r : L2.St → V → List V → Hp → VK → Prop) : Prop := ∀ {sg : L2.St} {rho : Rho} {st : Sto} {H : Hp} {Q : VK} {d : D} {v : V} {ds : List D} {vs : List V}, Wld X.K rho st H → RelD X.K rho H d v → RelDs X.K rho H ds vs → OkR X.K cls W sg rho H (f d ds st) (VQ X.K Q) → r sg v vs H Q
theorem rel_strs {K : PySem.W.Frag} {rho : Rho} {H : Hp} (ns : List Str) : RelDs K rho H (ns.map D.str) (ns.map V.str) := by
  induction ns with
  | nil => exact .nil
  | cons n ns ih => exact .cons (.str n) ih
theorem strM_ok (hc : X.calm = true) (tk : Takes X W) {x : Str} {f : D → List D → Sto → R D} (h : strM x = some f) : ∃ id r, Slot "str" x id ∧ typeOf (.builtin id) = pure (.type "method_descriptor") ∧ MtS X id r ∧ HopM X cls W f r := by
  unfold strM at h
  split at h
  · rename_i e
    cases h
    subst e
    refine ⟨_, _, PySem.F.slot_str_split, PySem.F.type_str_split, MtR.toS mt_split, fun {sg rho st H Q d v ds vs} w r rs h => ?_⟩
    unfold mSplit at h
    split at h
    · split at h
      · rename_i hc
        cases r
        obtain ⟨u, rfl, ru⟩ := relDs1 rs
        cases ru
        exact ⟨_, _, rfl, rfl, hc.1, hc.2, ok_tmp_lst w h (rel_strs _)⟩
      · exact h.elim
    · exact h.elim
  split at h
  · rename_i e
    cases h
    subst e
    refine ⟨_, _, PySem.F.slot_str_join, PySem.F.type_str_join, MtR.toS mt_join, fun {sg rho st H Q d v ds vs} w r rs h => ?_⟩
    unfold mJoin at h
    split at h
    · cases r
      obtain ⟨u, rfl, ru⟩ := relDs1 rs
      split at h
      · rename_i ys hy
        obtain ⟨es, h1, h2⟩ := Option.bind_eq_some_iff.mp hy
        obtain ⟨ad, ks, rfl, q1, q2⟩ := seqOf_rel w ru h1
        have e2 := strsOf_rel q1 h2
        subst e2
        split at h
        · exact ⟨_, ad, ys, rfl, rfl, q2, by assumption, ok_here w h (.str _)⟩
        · exact h.elim
      · exact h.elim
    · exact h.elim
  split at h
  · rename_i e
    cases h
    subst e
    refine ⟨_, _, PySem.F.slot_str_index, PySem.F.type_str_index, mt_indexX hc tk, fun {sg rho st H Q d v ds vs} w r rs h => ?_⟩
    unfold mIndexS at h
    split at h
    · cases r
      obtain ⟨u, rfl, ru⟩ := relDs1 rs
      cases ru
      split at h
      · rename_i k hk
        exact ⟨_, _, rfl, rfl, fun k' hk' => by rw [hk] at hk'; cases hk'; exact ok_here w h (.int _), fun hn => by rw [hk] at hn; cases hn⟩
      · exact h.elim
    · exact h.elim
  · cases h
theorem pe_methS {es : List Expr} {ms : List ME} {name : Str} {apos : Pos} {id : String} {f : D → List D → Sto → R D} {r : L2.St → V → List V → Hp → VK → Prop} (slot : Slot "str" name id) (hty : typeOf (.builtin id) = pure (.type "method_descriptor")) (hm : MtS X id r)
    (hop : HopM X cls W f r) (hb : noCall o = true) (hl : (apos.endLine == pos.line) = true) (hp : (e :: es).all plainE = true) (hn : (e :: es).length < 30) (ho : PE X o (tE X.K cls W mo)) (ha : PA X (e :: es) (tAm X.K cls W ms)) :
    PE X (.Call (.Attribute o name apos) (e :: es) [] pos) (tE X.K cls W (mMethS f mo ms)) := by
  have hp' := hp
  simp only [List.all_cons, Bool.and_eq_true] at hp
  refine PE.weak (pe_bmS PySem.F.plainAttrs_str slot hty hm ho ha (base_ok hb) ?_ hl (star_plain hp.1) (star_any hp.2)) fun sg H Q h => ?_
  · rw [star_all hp']
    have hk : (backToKw pos (keywordEach [] X.env)).all (fun x => x.1.isSome) = true := rfl
    rw [hk]
    have hn' : decide ((e :: es).length + 0 + 0 < 30) = true := by simpa using hn
    simpa using hn'
  · obtain ⟨rho, env, st, w, re, h⟩ := h
    refine ⟨rho, env, st, w, re, OkR.mono (OkR.bind h) fun d st1 rho1 H1 e1 w1 h1 v rv => ?_⟩
    split at h1
    · rename_i hl1
      have ty : tyV X.K "str" v H1 := by
        unfold isStrD at hl1
        split at hl1
        · cases rv; rfl
        · cases hl1
      refine ⟨ty, rho1, env, st1, w1, re.ext e1, OkR.mono (OkR.bind h1) fun ds st2 rho2 H2 e2 w2 h2 vs rvs => ?_⟩
      exact hop w2 (rv.ext e2) rvs h2
    · exact h1.elim
/-! ### zip -/
theorem zipD_get {xs ys : List D} {i : Nat} {d : D} (h : (zipD xs ys)[i]? = some d) : ∃ x y, xs[i]? = some x ∧ ys[i]? = some y ∧ d = .tup [x, y] := by
  unfold zipD at h
  rw [List.getElem?_map] at h
  obtain ⟨p, hp, rfl⟩ := Option.map_eq_some_iff.mp h
  rw [List.getElem?_zip_eq_some] at hp
  exact ⟨p.1, p.2, hp.1, hp.2, rfl⟩
theorem zipD_len (xs ys : List D) : (zipD xs ys).length = min xs.length ys.length := by simp [zipD]
theorem it_zipL {K : PySem.W.Frag} (a b : Addr) (xs ys : List D) (us vs : List V) : ItOk K (Itz K a b) (.vals (zipD xs ys)) (fun rho H => ((H a = some (.lst us) ∧ a ∉ rho) ∧ RelDs K rho H xs us) ∧ ((H b = some (.lst vs) ∧ b ∉ rho) ∧ RelDs K rho H ys vs)) where
  stab := fun rho H rho' H' p e => ⟨(it_lst (K := K) a xs us).stab _ _ _ _ p.1 e, (it_lst (K := K) b ys vs).stab _ _ _ _ p.2 e⟩
  go := fun i d rho st H w p _ hd => by
    obtain ⟨x, y, h1, h2, rfl⟩ := zipD_get hd
    obtain ⟨u, hu, _⟩ := p.1.2.get h1
    obtain ⟨v, hv, _⟩ := p.2.2.get h2
    exact ⟨us, vs, u, v, SqL.of p.1.1.1, SqL.of p.2.1.1, hu, hv⟩
  yld := fun i d rho st H x H' w p _ hd y => by
    obtain ⟨x1, y1, h1, h2, rfl⟩ := zipD_get hd
    obtain ⟨u, hu, ru⟩ := p.1.2.get h1
    obtain ⟨v, hv, rv⟩ := p.2.2.get h2
    obtain ⟨T, u', v', rfl, hT, rfl, f1, f2⟩ := y
    have e1 := f1 us (SqL.of p.1.1.1)
    have e2 := f2 vs (SqL.of p.2.1.1)
    rw [hu] at e1; cases e1
    rw [hv] at e2; cases e2
    have ex := w.extTmp hT (.tup [u, v])
    exact ⟨ex, w.tmp hT _, .tup (SqT.of upd_same) (.cons (ru.ext ex) (.cons (rv.ext ex) .nil))⟩
  stop := fun i rho st H w p _ hi => by
    have hi' : (zipD xs ys).length ≤ i := hi
    rw [zipD_len] at hi'
    refine ⟨us, vs, SqL.of p.1.1.1, SqL.of p.2.1.1, ?_⟩
    rw [← p.1.2.length, ← p.2.2.length]
    omega
  hide := fun rho H p xs' q h => ⟨(it_lst (K := K) a xs us).hide _ _ _ _ q.1 h, (it_lst (K := K) b ys vs).hide _ _ _ _ q.2 h⟩
  grow := fun rho H p xs' ys' hp h q => ⟨(it_lst (K := K) a xs us).grow _ _ _ _ _ hp h q.1, (it_lst (K := K) b ys vs).grow _ _ _ _ _ hp h q.2⟩
theorem it_zipT {K : PySem.W.Frag} (a b : Addr) (xs ys : List D) (us vs : List V) : ItOk K (ItzT K a b) (.vals (zipD xs ys)) (fun rho H => (SqT K H a us ∧ RelDs K rho H xs us) ∧ (SqT K H b vs ∧ RelDs K rho H ys vs)) where
  stab := fun rho H rho' H' p e => ⟨(it_tup (K := K) a xs us).stab _ _ _ _ p.1 e, (it_tup (K := K) b ys vs).stab _ _ _ _ p.2 e⟩
  go := fun i d rho st H w p _ hd => by
    obtain ⟨x, y, h1, h2, rfl⟩ := zipD_get hd
    obtain ⟨u, hu, _⟩ := p.1.2.get h1
    obtain ⟨v, hv, _⟩ := p.2.2.get h2
    exact ⟨us, vs, u, v, p.1.1, p.2.1, hu, hv⟩
  yld := fun i d rho st H x H' w p _ hd y => by
    obtain ⟨x1, y1, h1, h2, rfl⟩ := zipD_get hd
    obtain ⟨u, hu, ru⟩ := p.1.2.get h1
    obtain ⟨v, hv, rv⟩ := p.2.2.get h2
    obtain ⟨T, u', v', rfl, hT, rfl, f1, f2⟩ := y
    have e1 := f1 us p.1.1
    have e2 := f2 vs p.2.1
    rw [hu] at e1; cases e1
    rw [hv] at e2; cases e2
    have ex := w.extTmp hT (.tup [u, v])
    exact ⟨ex, w.tmp hT _, .tup (SqT.of upd_same) (.cons (ru.ext ex) (.cons (rv.ext ex) .nil))⟩
  stop := fun i rho st H w p _ hi => by
    have hi' : (zipD xs ys).length ≤ i := hi
    rw [zipD_len] at hi'
    refine ⟨us, vs, p.1.1, p.2.1, ?_⟩
    rw [← p.1.2.length, ← p.2.2.length]
    omega
  hide := fun rho H p xs' q h => ⟨(it_tup (K := K) a xs us).hide _ _ _ _ q.1 h, (it_tup (K := K) b ys vs).hide _ _ _ _ q.2 h⟩
  grow := fun rho H p xs' ys' hp h q => ⟨(it_tup (K := K) a xs us).grow _ _ _ _ _ hp h q.1, (it_tup (K := K) b ys vs).grow _ _ _ _ _ hp h q.2⟩
theorem it_zipM {K : PySem.W.Frag} (a b : Addr) (xs ys : List D) (us vs : List V) : ItOk K (ItzM K a b) (.vals (zipD xs ys)) (fun rho H => ((H a = some (.lst us) ∧ a ∉ rho) ∧ RelDs K rho H xs us) ∧ (SqT K H b vs ∧ RelDs K rho H ys vs)) where
  stab := fun rho H rho' H' p e => ⟨(it_lst (K := K) a xs us).stab _ _ _ _ p.1 e, (it_tup (K := K) b ys vs).stab _ _ _ _ p.2 e⟩
  go := fun i d rho st H w p _ hd => by
    obtain ⟨x, y, h1, h2, rfl⟩ := zipD_get hd
    obtain ⟨u, hu, _⟩ := p.1.2.get h1
    obtain ⟨v, hv, _⟩ := p.2.2.get h2
    exact ⟨us, vs, u, v, SqL.of p.1.1.1, p.2.1, hu, hv⟩
  yld := fun i d rho st H x H' w p _ hd y => by
    obtain ⟨x1, y1, h1, h2, rfl⟩ := zipD_get hd
    obtain ⟨u, hu, ru⟩ := p.1.2.get h1
    obtain ⟨v, hv, rv⟩ := p.2.2.get h2
    obtain ⟨T, u', v', rfl, hT, rfl, f1, f2⟩ := y
    have e1 := f1 us (SqL.of p.1.1.1)
    have e2 := f2 vs p.2.1
    rw [hu] at e1; cases e1
    rw [hv] at e2; cases e2
    have ex := w.extTmp hT (.tup [u, v])
    exact ⟨ex, w.tmp hT _, .tup (SqT.of upd_same) (.cons (ru.ext ex) (.cons (rv.ext ex) .nil))⟩
  stop := fun i rho st H w p _ hi => by
    have hi' : (zipD xs ys).length ≤ i := hi
    rw [zipD_len] at hi'
    refine ⟨us, vs, SqL.of p.1.1.1, p.2.1, ?_⟩
    rw [← p.1.2.length, ← p.2.2.length]
    omega
  hide := fun rho H p xs' q h => ⟨(it_lst (K := K) a xs us).hide _ _ _ _ q.1 h, (it_tup (K := K) b ys vs).hide _ _ _ _ q.2 h⟩
  grow := fun rho H p xs' ys' hp h q => ⟨(it_lst (K := K) a xs us).grow _ _ _ _ _ hp h q.1, (it_tup (K := K) b ys vs).grow _ _ _ _ _ hp h q.2⟩
/-! lists of the store or by value -/
inductive LsD : D → List (Nat × List D) → List D → Prop where
  | val (xs : List D) : LsD (.lst xs) [] xs
  | live (l : Nat) (xs : List D) : LsD (.ref l) [(l, xs)] xs
theorem lsOf_D {st : Sto} {x : D} {p : List (Nat × List D) × List D} (h : lsOf st x = some p) : LsD x p.1 p.2 ∧ ∀ r ∈ p.1, st[r.1]? = some (.lst r.2) := by
  unfold lsOf at h
  split at h
  · cases h; exact ⟨.val _, by simp⟩
  · split at h
    · rename_i hl
      cases h
      exact ⟨.live _ _, by simpa using hl⟩
    · cases h
  · cases h
def LsP (K : PySem.W.Frag) (x : D) (a : Addr) (xs : List D) (rho : Rho) (H : Hp) : Prop := match x with
  | .lst _ => ∃ vs, (H a = some (.lst vs) ∧ a ∉ rho) ∧ RelDs K rho H xs vs
  | .ref l => rho.loc[l]? = some a
  | _ => False
theorem LsP.get {K : PySem.W.Frag} {x : D} {p : List (Nat × List D)} {a : Addr} {xs : List D} {rho : Rho} {H : Hp} {st : Sto} (d : LsD x p xs) (h : LsP K x a xs rho H) (w : Wld K rho st H) (hs : ∀ r ∈ p, st[r.1]? = some (.lst r.2)) : ∃ vs, H a = some (.lst vs) ∧ RelDs K rho H xs vs := by
  cases d with
  | val xs => obtain ⟨vs, h1, h2⟩ := h; exact ⟨vs, h1.1, h2⟩
  | live l xs => exact w.obj l a _ h (hs (l, xs) (by simp))
theorem LsP.of {K : PySem.W.Frag} {x : D} {p : List (Nat × List D)} {xs : List D} {rho : Rho} {H : Hp} {v : V} (d : LsD x p xs) (r : RelD K rho H x v) : ∃ a, v = .ref a ∧ LsP K x a xs rho H := by
  cases d with
  | val xs => cases r with | lst h n r => exact ⟨_, rfl, _, ⟨h, n⟩, r⟩
  | live l xs => cases r with | ref h => exact ⟨_, rfl, h⟩
theorem LsP.stab {K : PySem.W.Frag} {x : D} {p : List (Nat × List D)} {a : Addr} {xs : List D} {rho rho' : Rho} {H H' : Hp} (d : LsD x p xs) (h : LsP K x a xs rho H) (e : Ext rho H rho' H') : LsP K x a xs rho' H' := by
  cases d with
  | val xs => obtain ⟨vs, h⟩ := h; exact ⟨vs, (it_lst (K := K) a xs vs).stab _ _ _ _ h e⟩
  | live l xs => exact (it_live (K := K) a l xs).stab _ _ _ _ h e
theorem LsP.hide {K : PySem.W.Frag} {x : D} {p : List (Nat × List D)} {a q : Addr} {xs : List D} {rho : Rho} {H : Hp} {zs : List V} (d : LsD x p xs) (h : LsP K x a xs rho H) (hq : H q = none) : LsP K x a xs (rho.hide q) (upd H q (.lst zs)) := by
  cases d with
  | val xs => obtain ⟨vs, h⟩ := h; exact ⟨vs, (it_lst (K := K) a xs vs).hide _ _ _ _ h hq⟩
  | live l xs => exact (it_live (K := K) a l xs).hide _ _ _ zs h hq
theorem LsP.grow {K : PySem.W.Frag} {x : D} {p : List (Nat × List D)} {a q : Addr} {xs : List D} {rho : Rho} {H : Hp} {zs ys : List V} (d : LsD x p xs) (hp : q ∈ rho.res) (hq : H q = some (.lst zs)) (h : LsP K x a xs rho H) : LsP K x a xs rho (upd H q (.lst ys)) := by
  cases d with
  | val xs => obtain ⟨vs, h⟩ := h; exact ⟨vs, (it_lst (K := K) a xs vs).grow _ _ _ _ _ hp hq h⟩
  | live l xs => exact (it_live (K := K) a l xs).grow _ _ _ _ ys hp hq h
theorem it_zipX {K : PySem.W.Frag} {x y : D} {p q : List (Nat × List D)} {xs ys : List D} (a b : Addr) (dx : LsD x p xs) (dy : LsD y q ys) : ItOk K (Itz K a b) (.multi (p ++ q) (zipD xs ys)) (fun rho H => LsP K x a xs rho H ∧ LsP K y b ys rho H) where
  stab := fun rho H rho' H' h e => ⟨h.1.stab dx e, h.2.stab dy e⟩
  go := fun i d rho st H w h hs hd => by
    obtain ⟨us, g1, r1⟩ := h.1.get dx w (fun r hr => hs r (List.mem_append_left _ hr))
    obtain ⟨vs, g2, r2⟩ := h.2.get dy w (fun r hr => hs r (List.mem_append_right _ hr))
    obtain ⟨x1, y1, h1, h2, rfl⟩ := zipD_get hd
    obtain ⟨u, hu, _⟩ := r1.get h1
    obtain ⟨v, hv, _⟩ := r2.get h2
    exact ⟨us, vs, u, v, SqL.of g1, SqL.of g2, hu, hv⟩
  yld := fun i d rho st H z H' w h hs hd y' => by
    obtain ⟨us, g1, r1⟩ := h.1.get dx w (fun r hr => hs r (List.mem_append_left _ hr))
    obtain ⟨vs, g2, r2⟩ := h.2.get dy w (fun r hr => hs r (List.mem_append_right _ hr))
    obtain ⟨x1, y1, h1, h2, rfl⟩ := zipD_get hd
    obtain ⟨u, hu, ru⟩ := r1.get h1
    obtain ⟨v, hv, rv⟩ := r2.get h2
    obtain ⟨T, u', v', rfl, hT, rfl, f1, f2⟩ := y'
    have e1 := f1 us (SqL.of g1)
    have e2 := f2 vs (SqL.of g2)
    rw [hu] at e1; cases e1
    rw [hv] at e2; cases e2
    have ex := w.extTmp hT (.tup [u, v])
    exact ⟨ex, w.tmp hT _, .tup (SqT.of upd_same) (.cons (ru.ext ex) (.cons (rv.ext ex) .nil))⟩
  stop := fun i rho st H w h hs hi => by
    obtain ⟨us, g1, r1⟩ := h.1.get dx w (fun r hr => hs r (List.mem_append_left _ hr))
    obtain ⟨vs, g2, r2⟩ := h.2.get dy w (fun r hr => hs r (List.mem_append_right _ hr))
    have hi' : (zipD xs ys).length ≤ i := hi
    rw [zipD_len] at hi'
    refine ⟨us, vs, SqL.of g1, SqL.of g2, ?_⟩
    rw [← r1.length, ← r2.length]
    omega
  hide := fun rho H p' xs' h hp => ⟨h.1.hide dx hp, h.2.hide dy hp⟩
  grow := fun rho H p' xs' ys' hp hq h => ⟨h.1.grow dx hp hq, h.2.grow dy hp hq⟩
theorem pi_zipM {elts : List Expr} {kk : Nat} {tpos p : Pos} (hp : plainE a = true) (hp2 : plainE b = true) (hg : Gl X "zip") (hm : X.mg "zip" = none) (ha : PE X a (tE X.K cls W ma)) (hb : PE X b (tE X.K cls W mb)) : PI X (.Tuple elts kk tpos) (.Call (.Name "zip" p) [a, b] [] pos) (tIm X.K cls W (iZip ma mb)) := by
  have hA : PA X [a, b] (tCons (tE X.K cls W ma) (tCons (tE X.K cls W mb) tNil)) := pa_cons ha (pa_cons hb pa_nil (star_plain hp2)) (star_plain hp)
  refine PI.weak (PI.or (pi_zipA hg hm hA (star_plain hp) (star_any (es := [b]) (by simp [hp2]))) (pi_zm hg hm hA (star_plain hp) (star_any (es := [b]) (by simp [hp2])))) fun sg H R0 hq => ?_
  obtain ⟨rho, env, st, w, re, hq⟩ := hq
  by_cases hz : ∃ xs ys st1 st2, ma env st = .ok (.lst xs) st1 ∧ mb env st1 = .ok (.tup ys) st2
  · refine .inr ?_
    obtain ⟨xs, ys, st1, st2, e1, e2⟩ := hz
    unfold iZip at hq
    rw [e1, R.bind_ok, e2, R.bind_ok] at hq
    refine ⟨rho, env, st, w, re, ?_⟩
    rw [e1]
    intro rho1 H1 x1 w1 v1 rv1
    refine ⟨rho1, env, st1, w1, re.ext x1, ?_⟩
    rw [e2]
    intro rho2 H2 x2 w2 v2 rv2
    have rv1 := rv1.ext x2
    cases rv1 with
    | lst q1 n1 r1 =>
      cases rv2 with
      | tup q2 r2 => exact ⟨_, _, _, _, rfl, SqL.of q1, q2, hq rho2 H2 (x1.trans x2) w2 _ _ (it_zipM _ _ _ _ _ _) ⟨⟨⟨q1, n1⟩, r1⟩, ⟨q2, r2⟩⟩ trivial⟩
  · refine .inl ⟨rho, env, st, w, re, ?_⟩
    unfold iZip at hq
    cases e1 : ma env st with
    | stuck => rw [e1] at hq; exact hq.elim
    | exc c s1 => rw [e1] at hq; exact hq
    | ok d1 st1 =>
      rw [e1, R.bind_ok] at hq
      intro rho1 H1 x1 w1 v1 rv1
      refine ⟨rho1, env, st1, w1, re.ext x1, ?_⟩
      cases e2 : mb env st1 with
      | stuck => rw [e2] at hq; exact hq.elim
      | exc c s1 => rw [e2] at hq; exact hq.from x1
      | ok d2 st2 =>
        rw [e2, R.bind_ok] at hq
        intro rho2 H2 x2 w2 v2 rv2
        have rv1 := rv1.ext x2
        replace hq := (hq.from x1).from x2
        split at hq
        · cases rv1 with
          | lst q1 n1 r1 =>
            cases rv2 with
            | lst q2 n2 r2 => exact ⟨_, _, _, _, rfl, .inl ⟨SqL.of q1, SqL.of q2, hq rho2 H2 (Ext.refl _ _) w2 _ _ (it_zipL _ _ _ _ _ _) ⟨⟨⟨q1, n1⟩, r1⟩, ⟨⟨q2, n2⟩, r2⟩⟩ trivial⟩⟩
        · cases rv1 with
          | tup q1 r1 =>
            cases rv2 with
            | tup q2 r2 => exact ⟨_, _, _, _, rfl, .inr ⟨q1, q2, hq rho2 H2 (Ext.refl _ _) w2 _ _ (it_zipT _ _ _ _ _ _) ⟨⟨q1, r1⟩, ⟨q2, r2⟩⟩ trivial⟩⟩
        · exact absurd ⟨_, _, _, _, e1, e2⟩ hz
        · split at hq
          · rename_i p q hx hy
            obtain ⟨dx, hsx⟩ := lsOf_D hx
            obtain ⟨dy, hsy⟩ := lsOf_D hy
            obtain ⟨a', rfl, la⟩ := LsP.of dx rv1
            obtain ⟨b', rfl, lb⟩ := LsP.of dy rv2
            obtain ⟨us, g1, _⟩ := la.get dx w2 hsx
            obtain ⟨vs, g2, _⟩ := lb.get dy w2 hsy
            exact ⟨_, _, _, _, rfl, .inl ⟨SqL.of g1, SqL.of g2, hq rho2 H2 (Ext.refl _ _) w2 _ _ (it_zipX _ _ dx dy) ⟨la, lb⟩ (fun r hr => (List.mem_append.mp hr).elim (hsx r) (hsy r))⟩⟩
          · exact hq.elim
/-! ### a dict of one pair -/
theorem pe_dic1M (ha : PE X a (tE X.K cls W ma)) (hb : PE X b (tE X.K cls W mb)) : PE X (.Dict [some a] [b] pos) (tE X.K cls W (mDic1 ma mb)) := by
  refine PE.weak (pe_disp (pps_cons ha hb pps_nil) rfl rfl (by simp) (by simp)) fun sg H Q h => ?_
  obtain ⟨rho, env, st, w, re, h⟩ := h
  intro p hp
  have np : p ∉ rho.res := fun z => w.fresh hp (.inr z)
  have w0 := w.hide hp (.dK []) trivial
  have re0 : RelEnv X.K (rho.hide p) (upd H p (.dK [])) env sg := ⟨re.len, fun i d h => let ⟨v, h1, h2⟩ := re.at_ i d h; ⟨v, h1, h2.hide hp⟩⟩
  have ex0 : Ext rho H ((rho.hide p).show_ rho.res) (upd H p (.dK [])) := w.extTmp hp _
  refine ⟨rho.hide p, env, st, w0, re0, ?_⟩
  unfold mDic1 at h
  cases q1 : ma env st with
  | stuck => rw [q1] at h; exact h.elim
  | exc c1 s1 => rw [q1] at h; exact h.elim
  | ok x st1 =>
    rw [q1] at h
    simp only [R.bind_ok] at h
    intro rho1 H1 e1 w1 vx rx
    refine ⟨rho1, env, st1, w1, re0.ext e1, ?_⟩
    cases q2 : mb env st1 with
    | stuck => rw [q2] at h; exact h.elim
    | exc c1 s1 => rw [q2] at h; exact h.elim
    | ok y st2 =>
      rw [q2] at h
      simp only [R.bind_ok] at h
      intro rho2 H2 e2 w2 vy ry
      cases hk : keyOf x with
      | none => rw [hk] at h; exact h.elim
      | some k =>
        rw [hk] at h
        simp only at h
        have e02 := e1.trans e2
        have pr0 : p ∈ (rho.hide p).res := List.mem_cons_self
        have hp2 : H2 p = some (.dK []) := e02.kres p _ upd_same pr0
        have hr2 : rho2.res = p :: rho.res := e02.res
        have pr2 : p ∈ rho2.res := by rw [hr2]; exact List.mem_cons_self
        have hsub : ∀ b ∈ rho.res, b ∈ rho2.res := fun b hb => by rw [hr2]; exact List.mem_cons_of_mem _ hb
        refine ⟨hp2, [(k, vy)], ?_, by simp, ?_⟩
        · rw [keyOf_rel (rx.ext e2) hk]; rfl
        · show Q (.ref p) (upd H2 p (.dK [(k, vy)]))
          refine h (rho2.show_ rho.res) _ ((Ext.inner hp rfl ex0 e02).over hp) ((w2.grow (o' := .dK [(k, vy)]) pr2 hp2 trivial trivial).show_ hsub) _ (.dic upd_same (fun z => ?_) (.cons ((ry.grow pr2 hp2 trivial).show_ hsub) .nil))
          rcases z with z | z
          · exact w2.dis p z pr2
          · exact np z
end
end MI
/-! MiIt: enumerate(list), reversed(list or tuple). -/
namespace MI
open PySem PySem.Spec PyProof.Rows L2 RT
def enumD (xs : List D) : List D := (List.range xs.length).map fun i : Nat => .tup [.int i, xs.getD i .non]
theorem enumD_len (xs : List D) : (enumD xs).length = xs.length := by simp [enumD]
theorem enumD_get {xs : List D} {i : Nat} {d : D} (h : (enumD xs)[i]? = some d) : ∃ x, xs[i]? = some x ∧ d = .tup [.int i, x] := by
  have hl := (List.getElem?_eq_some_iff.mp h).1
  rw [enumD_len] at hl
  unfold enumD at h
  rw [List.getElem?_map, List.getElem?_range hl] at h
  cases h
  exact ⟨xs[i], List.getElem?_eq_getElem hl, by simp [List.getD, List.getElem?_eq_getElem hl]⟩
def iEnumM (a : ME) : MIt := fun env st => (a env st).bind fun x st => match lsOf st x with
  | some p => .ok (.multi p.1 (enumD p.2)) st
  | none => .stuck
def iRevM (a : ME) : MIt := fun env st => (a env st).bind fun x st => match x with
  | .tup ds => .ok (.vals ds.reverse) st
  | x => match lsOf st x with
    | some p => .ok (.multi p.1 p.2.reverse) st
    | none => .stuck
/-- list(range(n)) -/
def bRangeL (ds : List D) (st : Sto) : R D := match ds with
  | [.int n] => if 0 ≤ n ∧ n ≤ 16777216 then .ok (.lst (rangeD 0 n.toNat)) st else .stuck
  | _ => .stuck
def bRangeLN (ds : List D) (st : Sto) : R D := match ds with
  | [.int n] => if 0 ≤ n ∧ n ≤ 16777216 then .ok (.ref st.length) (st ++ [.lst (rangeD 0 n.toNat)]) else .stuck
  | _ => .stuck
section
variable {X : Cx} {cls : Nat → Value} {W : WX} {pos : Pos} {a : Expr} {ma : ME}
theorem rel_range {K : PySem.W.Frag} {rho : Rho} {H : Hp} (n : Nat) : RelDs K rho H (rangeD 0 n) (rgV 0 n) := by
  unfold rangeD rgV
  rw [show ((n : Int) - 0).toNat = n by omega]
  induction List.range n with
  | nil => exact .nil
  | cons i is ih => exact .cons (.int _) ih
theorem pe_listRgM {p q pos2 : Pos} (hp : plainE a = true) (hg : Gl X "list") (hm : X.mg "list" = none) (hg2 : Gl X "range") (hm2 : X.mg "range" = none) (hc : X.calm = true) (N : Bool) (ha : PE X a (tE X.K cls W ma)) :
    PE X (.Call (.Name "list" p) [.Call (.Name "range" q) [a] [] pos2] [] pos) (tE X.K cls W (mCall (if N = true then bRangeLN else bRangeL) [ma])) := by
  refine PE.weak (pe_listRg hc hg hm (prg_1 hg2 hm2 ha (star_plain hp)) (star_plain rfl)) fun sg H Q h => ?_
  obtain ⟨rho, env, st, w, re, h⟩ := h
  rw [mCall1] at h
  refine ⟨rho, env, st, w, re, OkR.mono (OkR.bind h) fun d st1 rho1 H1 e1 w1 h1 v rv => ?_⟩
  have key : ∃ n : Int, d = .int n ∧ 0 ≤ n ∧ n ≤ 16777216 ∧ OkR X.K cls W sg rho1 H1 (if N = true then .ok (.ref st1.length) (st1 ++ [.lst (rangeD 0 n.toNat)]) else .ok (.lst (rangeD 0 n.toNat)) st1) (VQ X.K Q) := by
    cases N with
    | true =>
      simp only [if_true] at h1
      unfold bRangeLN at h1
      split at h1
      · rename_i n e
        cases e
        split at h1
        · rename_i hn
          exact ⟨n, rfl, hn.1, hn.2, h1⟩
        · exact h1.elim
      · exact h1.elim
    | false =>
      simp only [Bool.false_eq_true, if_false] at h1
      unfold bRangeL at h1
      split at h1
      · rename_i n e
        cases e
        split at h1
        · rename_i hn
          exact ⟨n, rfl, hn.1, hn.2, h1⟩
        · exact h1.elim
      · exact h1.elim
  obtain ⟨n, rfl, n0, n1, h2⟩ := key
  cases rv
  refine ⟨n, rfl, RgOk.of_le (by omega) (by omega) (by omega) n0, ?_⟩
  have e : rgV 0 n = rgV 0 ((n.toNat : Nat) : Int) := by rw [Int.toNat_of_nonneg n0]
  rw [e]
  cases N with
  | true => exact ok_new_lst w1 h2 (rel_range _)
  | false => exact ok_tmp_lst w1 h2 (rel_range _)
theorem it_enum {K : PySem.W.Frag} {x : D} {p : List (Nat × List D)} {xs : List D} (a : Addr) (dx : LsD x p xs) : ItOk K (Ite K a) (.multi p (enumD xs)) (fun rho H => LsP K x a xs rho H) where
  stab := fun rho H rho' H' h e => h.stab dx e
  go := fun i d rho st H w h hs hd => by
    obtain ⟨us, g1, r1⟩ := h.get dx w hs
    obtain ⟨x1, h1, rfl⟩ := enumD_get hd
    obtain ⟨u, hu, _⟩ := r1.get h1
    exact ⟨us, u, SqL.of g1, hu⟩
  yld := fun i d rho st H z H' w h hs hd y' => by
    obtain ⟨us, g1, r1⟩ := h.get dx w hs
    obtain ⟨x1, h1, rfl⟩ := enumD_get hd
    obtain ⟨u, hu, ru⟩ := r1.get h1
    obtain ⟨T, u', rfl, hT, rfl, f1⟩ := y'
    have e1 := f1 us (SqL.of g1)
    rw [hu] at e1; cases e1
    have ex := w.extTmp hT (.tup [.int (i : Nat), u])
    exact ⟨ex, w.tmp hT _, .tup (SqT.of upd_same) (.cons (.int _) (.cons (ru.ext ex) .nil))⟩
  stop := fun i rho st H w h hs hi => by
    obtain ⟨us, g1, r1⟩ := h.get dx w hs
    have hi' : (enumD xs).length ≤ i := hi
    rw [enumD_len] at hi'
    exact ⟨us, SqL.of g1, by rw [← r1.length]; exact hi'⟩
  hide := fun rho H p' xs' h hp => h.hide dx hp
  grow := fun rho H p' xs' ys' hp hq h => h.grow dx hp hq
theorem rev_get {α : Type} {xs : List α} {i : Nat} {d : α} (h : xs.reverse[i]? = some d) : i < xs.length ∧ xs[xs.length - 1 - i]? = some d := by
  have hl := (List.getElem?_eq_some_iff.mp h).1
  rw [List.length_reverse] at hl
  rw [List.getElem?_reverse hl] at h
  exact ⟨hl, h⟩
theorem it_rev {K : PySem.W.Frag} {x : D} {p : List (Nat × List D)} {xs : List D} (a : Addr) (dx : LsD x p xs) : ItOk K (Itv K a xs.length) (.multi p xs.reverse) (fun rho H => LsP K x a xs rho H) where
  stab := fun rho H rho' H' h e => h.stab dx e
  go := fun i d rho st H w h hs hd => by
    obtain ⟨us, g1, r1⟩ := h.get dx w hs
    obtain ⟨hl, h1⟩ := rev_get hd
    obtain ⟨u, hu, _⟩ := r1.get h1
    exact ⟨hl, us, u, SqL.of g1, hu⟩
  yld := fun i d rho st H z H' w h hs hd y' => by
    obtain ⟨us, g1, r1⟩ := h.get dx w hs
    obtain ⟨hl, h1⟩ := rev_get hd
    obtain ⟨u, hu, ru⟩ := r1.get h1
    obtain ⟨rfl, f1⟩ := y'
    have e1 := f1 us (SqL.of g1)
    rw [hu] at e1; cases e1
    exact ⟨Ext.refl _ _, w, ru⟩
  stop := fun i rho st H w h hs hi => by
    have hi' : xs.reverse.length ≤ i := hi
    rw [List.length_reverse] at hi'
    exact hi'
  hide := fun rho H p' xs' h hp => h.hide dx hp
  grow := fun rho H p' xs' ys' hp hq h => h.grow dx hp hq
theorem it_revT {K : PySem.W.Frag} (a : Addr) (xs : List D) (vs : List V) : ItOk K (ItvT K a xs.length) (.vals xs.reverse) (fun rho H => SqT K H a vs ∧ RelDs K rho H xs vs) where
  stab := (it_tup a xs vs).stab
  go := fun i d rho st H w h hs hd => by
    obtain ⟨hl, h1⟩ := rev_get hd
    obtain ⟨u, hu, _⟩ := h.2.get h1
    exact ⟨hl, vs, u, h.1, hu⟩
  yld := fun i d rho st H z H' w h hs hd y' => by
    obtain ⟨hl, h1⟩ := rev_get hd
    obtain ⟨u, hu, ru⟩ := h.2.get h1
    obtain ⟨rfl, f1⟩ := y'
    have e1 := f1 vs h.1
    rw [hu] at e1; cases e1
    exact ⟨Ext.refl _ _, w, ru⟩
  stop := fun i rho st H w h hs hi => by
    have hi' : xs.reverse.length ≤ i := hi
    rw [List.length_reverse] at hi'
    exact hi'
  hide := (it_tup a xs vs).hide
  grow := (it_tup a xs vs).grow
theorem pi_enumM {elts : List Expr} {kk : Nat} {tpos p : Pos} (hp : plainE a = true) (hg : Gl X "enumerate") (hm : X.mg "enumerate" = none) (ha : PE X a (tE X.K cls W ma)) : PI X (.Tuple elts kk tpos) (.Call (.Name "enumerate" p) [a] [] pos) (tIm X.K cls W (iEnumM ma)) := by
  have hA : PA X [a] (tCons (tE X.K cls W ma) tNil) := pa_cons ha pa_nil (star_plain hp)
  refine PI.weak (pi_enum hg hm hA (star_plain hp)) fun sg H R0 hq => ?_
  obtain ⟨rho, env, st, w, re, hq⟩ := hq
  refine ⟨rho, env, st, w, re, OkR.mono (OkR.bind hq) fun d st1 rho1 H1 e1 w1 h1 v rv => ?_⟩
  split at h1
  · rename_i p hx
    obtain ⟨dx, hsx⟩ := lsOf_D hx
    obtain ⟨a', rfl, la⟩ := LsP.of dx rv
    obtain ⟨us, g1, _⟩ := la.get dx w1 hsx
    exact ⟨_, _, rfl, SqL.of g1, h1 rho1 H1 (Ext.refl _ _) w1 _ _ (it_enum _ dx) la hsx⟩
  · exact h1.elim
theorem pi_revM {tg : Expr} {p : Pos} (hp : plainE a = true) (hg : Gl X "reversed") (hm : X.mg "reversed" = none) (ha : PE X a (tE X.K cls W ma)) : PI X tg (.Call (.Name "reversed" p) [a] [] pos) (tIm X.K cls W (iRevM ma)) := by
  refine PI.weak (pi_revA hg hm ha (star_plain hp)) fun sg H R0 hq => ?_
  obtain ⟨rho, env, st, w, re, hq⟩ := hq
  refine ⟨rho, env, st, w, re, OkR.mono (OkR.bind hq) fun d st1 rho1 H1 e1 w1 h1 v rv => ?_⟩
  split at h1
  · cases rv with
    | tup g r =>
      exact ⟨_, _, rfl, .inr ⟨g, by rw [← r.length]; exact h1 rho1 H1 (Ext.refl _ _) w1 _ _ (it_revT _ _ _) ⟨g, r⟩ trivial⟩⟩
  · split at h1
    · rename_i p hx
      obtain ⟨dx, hsx⟩ := lsOf_D hx
      obtain ⟨a', rfl, la⟩ := LsP.of dx rv
      obtain ⟨us, g1, r1⟩ := la.get dx w1 hsx
      exact ⟨_, us, rfl, .inl ⟨SqL.of g1, by rw [← r1.length]; exact h1 rho1 H1 (Ext.refl _ _) w1 _ _ (it_rev _ dx) la hsx⟩⟩
    · exact h1.elim
end
end MI
/-! MiK: from the text to its reading (ofE, ofS), and that it is right. -/
namespace MI
open PySem PySem.Spec PyProof.Rows L2

/-- what the reading of a def's body leans on -/
structure CC where
  N : List Str
  sc : Scope
  dfn : Bool
  cok : Str → Bool
  fns : List Str
  gl : List (Str × D)
  kd : List (Str × List (Str × D))
  xcs : List Str
  sub : Nat → Nat → Bool
  blt : List Str
  mt : Nat → Nat → Bool
  fuel : Nat
  ocl : List (Str × List Str × List (Str × Nat)) := []
def ixOf : List Str → Str → Option Nat
  | [], _ => none
  | y :: ys, x => if y = x then some 0 else (ixOf ys x).map (· + 1)
theorem ixOf_get : ∀ {N : List Str} {x : Str} {i : Nat}, ixOf N x = some i → N[i]? = some x
  | [], _, _, h => by cases h
  | y :: ys, x, i, h => by
    unfold ixOf at h
    split at h
    · rename_i e
      cases h
      subst e
      rfl
    · obtain ⟨j, hj, rfl⟩ := Option.map_eq_some_iff.mp h
      simpa using ixOf_get hj
/-- has the class that field -/
def CC.fldOk (c : CC) (f : Str) : Str → Bool := fun k => match c.ocl.lookup k with
  | some p => p.1.contains f
  | none => false
def CC.methOf (c : CC) (m : Str) : Option (Str × Nat) := (c.ocl.map (·.1)).findSome? fun k => match c.ocl.lookup k with
  | some p => (p.2.lookup m).map fun i => (k, i)
  | none => none
def CC.initOf (c : CC) (x : Str) : Option Nat := match c.ocl.lookup x with
  | some p => p.2.lookup ("__init__" : Str)
  | none => none
def CC.kind (c : CC) (x : Str) : Option NameKind := c.sc.names.lookup x
def CC.vis (c : CC) (x : Str) : Bool := match c.kind x with
  | some .local => true
  | some .cell => true
  | some .free => true
  | _ => false
def CC.glb (c : CC) (x : Str) : Bool := match c.kind x with
  | some .globalImplicit => true
  | _ => false
def CC.tgt (c : CC) (x : Str) : Bool := match c.kind x with
  | some .local => true
  | some .cell => c.cok x
  | _ => false
def okName (x : Str) : Bool := !(x == ("__debug__" : Str)) && !(x == ("__classdict__" : Str)) && !(decide (x = ("__name__" : Str)))
def CC.slot (c : CC) (x : Str) : Option Nat := if (c.vis x && okName x) = true then ixOf c.N x else none
def CC.tslot (c : CC) (x : Str) : Option Nat := if c.tgt x = true then ixOf c.N x else none
def CC.tslots (c : CC) : List Expr → Option (List Nat)
  | [] => some []
  | .Name x _ :: es => match c.tslot x, c.tslots es with
    | some i, some is => some (i :: is)
    | _, _ => none
  | _ => none
def CC.tg (c : CC) : Expr → Option (List Nat × MG)
  | .Name x _ => (c.tslot x).map fun i => ([i], gVar i)
  | .Tuple es _ _ => (c.tslots es).map fun is => (is, gTupV is)
  | _ => none
def CC.ownOf (c : CC) : Expr → List (Str × Nat)
  | .Name x _ => match ixOf c.N x with
    | some i => [(x, i)]
    | none => []
  | .Tuple es _ _ => es.filterMap fun e => match e with
    | .Name x _ => (ixOf c.N x).map fun i => (x, i)
    | _ => none
  | _ => []
def CC.kdOf (c : CC) : Expr → Option (List (Str × D))
  | .Name x _ => if (c.glb x && okName x) = true then c.kd.lookup x else none
  | _ => none
def kdCmp (op : CmpOp) (tab : List (Str × D)) : Option (ME → ME) := match op with
  | .In => some (mKIn tab false)
  | .NotIn => some (mKIn tab true)
  | _ => none
def CC.inner (c : CC) (scope : Scope) : CC := { c with sc := relS scope c.sc, dfn := false, cok := fun x => scope.names.lookup x == some .cell }
def testable : Expr → Bool
  | .IfExp .. => false
  | _ => true
def isBoolOp : Expr → Bool
  | .BoolOp .. => true
  | _ => false
def binF : Operator → Option (D → D → Sto → R D)
  | .Add => some opAdd
  | .Sub => some opSub
  | .Mult => some opMul
  | .Mod => some opMod
  | .FloorDiv => some opDiv
  | .Pow => some opPow
  | _ => none
def CC.binP (c : CC) (op : Operator) (p : Pos) : Option (D → D → Sto → R D) := match op with
  | .Add => if c.mt p.line p.col = true then some opAddN else some opAdd
  | .Mult => if c.mt p.line p.col = true then some opMulN else some opMul
  | op => binF op
def cmpF : CmpOp → Option (D → D → Sto → R D)
  | .Lt => some opLt
  | .LtE => some opLe
  | .Gt => some opGt
  | .GtE => some opGe
  | .Eq => some opEq
  | .NotEq => some opNe
  | .Is => some opIs
  | .IsNot => some opIsNot
  | .In => some opIn
  | .NotIn => some opNotIn
def bltB (x : Str) : Option (List D → Sto → R D) :=
  if x = "len" then some bLen else if x = "abs" then some bAbs else if x = "min" then some bMin else if x = "max" then some bMax else if x = "all" then some bAll
  else if x = "any" then some bAny else if x = "sum" then some bSum else if x = "ord" then some bOrd else if x = "sorted" then some bSorted else none
def bltT (x : Str) (n : Bool) : Option (List D → Sto → R D) :=
  if x = "tuple" then some bTuple else if x = "list" then (if n then some bListN else some bList) else if x = "str" then some bStr else if x = "dict" then (if n then some bDictN else some bDict) else none
/-- sorted(set(b)), len(set(b)) -/
def CC.setArg (c : CC) (x : Str) (a : Expr) (as : List Expr) : Option (Expr × (List D → Sto → R D)) := match a, as with
  | .Call (.Name y _) [b] [] _, [] => if y = "set" ∧ c.glb y = true ∧ y ∈ c.blt then (if x = "sorted" then some (b, bSortSet) else if x = "len" then some (b, bLenSet) else none) else none
  | .Call (.Attribute b m ap) [] [] q, [] => if m = "keys" ∧ (noCall b && (ap.endLine == q.line)) = true ∧ x = "sorted" then some (b, bSortKeys) else none
  | _, _ => none
/-- list(range(b)) -/
def CC.rngArg (c : CC) (x : Str) (a : Expr) (as : List Expr) (n : Bool) : Option (Expr × (List D → Sto → R D)) := match a, as with
  | .Call (.Name y _) [b] [] _, [] => if x = "list" ∧ y = "range" ∧ c.glb y = true ∧ y ∈ c.blt then some (b, if n = true then bRangeLN else bRangeL) else none
  | _, _ => none
def tyOf (x : Str) : Option String :=
  if x = "int" then some "int" else if x = "bool" then some "bool" else if x = "str" then some "str" else if x = "tuple" then some "tuple" else if x = "list" then some "list" else if x = "dict" then some "dict" else none
def lstM (x : Str) : Option (D → List D → Sto → R D) :=
  if x = "append" then some mAppend else if x = "pop" then some mPop else if x = "extend" then some mExtend else if x = "reverse" then some mReverse else none

mutual
noncomputable def ofE (Ph : Nat → List D → Sto → R D) : Nat → CC → Expr → Option ME
  | 0, _, _ => none
  | n + 1, c, e => match e with
    | .Name x _ => (match c.slot x with
      | some i => some (mVar i)
      | none => if (c.glb x && okName x) = true then (c.gl.lookup x).map mC else none)
    | .Constant k _ _ => (match k with
      | .int i => some (mC (.int i))
      | .bool b => some (mC (.bl b))
      | .none => some (mC .non)
      | .str s => some (mC (.str s))
      | _ => none)
    | .BinOp a op b p => (match c.binP op p, ofE Ph n c a, ofE Ph n c b with
      | some f, some ma, some mb => some (mBin f ma mb)
      | _, _, _ => none)
    | .UnaryOp .USub a _ => (ofE Ph n c a).map mNeg
    | .UnaryOp .Not a _ => if testable a = true then (ofE Ph n c a).map mNot else none
    | .BoolOp _ [a] _ => if testable a = true then ofE Ph n c a else none
    | .BoolOp .And (a :: b :: r) p => (match ofE Ph n c a, ofE Ph n c (.BoolOp .And (b :: r) p) with
      | some ma, some mb => if testable a = true then some (mAnd ma mb) else none
      | _, _ => none)
    | .BoolOp .Or (a :: b :: r) p => (match ofE Ph n c a, ofE Ph n c (.BoolOp .Or (b :: r) p) with
      | some ma, some mb => if testable a = true then some (mOr ma mb) else none
      | _, _ => none)
    | .Compare a [op] [b] _ => (match cmpF op, ofE Ph n c a, ofE Ph n c b with
      | some f, some ma, some mb => if behindInMarks op b = false then some (mBin f ma mb) else none
      | some _, some ma, none => (match c.kdOf b with
        | some tab => (kdCmp op tab).map fun g => g ma
        | none => none)
      | _, _, _ => none)
    | .Compare a [op, op'] [b, d] _ => (match cmpF op, cmpF op', ofE Ph n c a, ofE Ph n c b, ofE Ph n c d with
      | some f, some g, some ma, some mb, some md => if behindInMarks op' d = false then some (mChain f g ma mb md) else none
      | _, _, _, _, _ => none)
    | .IfExp t a b _ => (match ofE Ph n c t, ofE Ph n c a, ofE Ph n c b with
      | some mt, some ma, some mb => if testable t = true then some (mIfE mt ma mb) else none
      | _, _, _ => none)
    | .Tuple es _ _ => (ofEs Ph n c es).map mTup
    | .List es p => (ofEs Ph n c es).map (if c.mt p.line p.col = true then mNew else mLst)
    | .Dict [] [] p => some (if c.mt p.line p.col = true then mNewD else mC (.dic []))
    | .Dict [some a] [b] _ => (match ofE Ph n c a, ofE Ph n c b with
      | some ma, some mb => some (mDic1 ma mb)
      | _, _ => none)
    | .Subscript a (.Slice lo hi none _) _ => (match ofE Ph n c a, ofO Ph n c lo, ofO Ph n c hi with
      | some ma, some ml, some mh => some (mSl ma ml mh)
      | _, _, _ => none)
    | .Subscript a (.Slice lo hi (some s) _) _ => (match ofE Ph n c a, ofO Ph n c lo, ofO Ph n c hi, ofE Ph n c s with
      | some ma, some ml, some mh, some ms => some (mSt ma ml mh (some ms))
      | _, _, _, _ => none)
    | .Subscript a b _ => (match ofE Ph n c a, ofE Ph n c b with
      | some ma, some mb => if noSlice b = true then some (mBin opIx ma mb) else none
      | none, some mb => if noSlice b = true then (c.kdOf a).map fun tab => mKIx tab mb else none
      | _, _ => none)
    | .Call (.Name x _) [] [] _ => if (c.glb x && okName x) = true then (match ixOf c.fns x with
        | some i => some (mCall (Ph i) [])
        | none => (c.initOf x).map fun i => mMake x (Ph i) []) else none
    | .Call (.Name x _) (a :: as) [] p => if (c.glb x && okName x) = true then (match ixOf c.fns x with
        | some i => (ofEs Ph n c (a :: as)).map (mCall (Ph i))
        | none => (match c.initOf x with
        | some i => (ofEs Ph n c (a :: as)).map (mMake x (Ph i))
        | none => if x ∈ c.blt then (match bltB x with
          | some f => (match c.setArg x a as with
            | some (b, g) => (ofE Ph n c b).map fun m => mCall g [m]
            | none => (ofEs Ph n c (a :: as)).map (mCall f))
          | none => (match bltT x (c.mt p.line p.col) with
            | some f => (match c.rngArg x a as (c.mt p.line p.col) with
              | some (b, g) => (ofE Ph n c b).map fun m => mCall g [m]
              | none => (ofEs Ph n c (a :: as)).map (mCall f))
            | none => (match as with
              | [.Name t _] => if x = "isinstance" ∧ (c.glb t && okName t) = true ∧ t ∈ c.blt then (match tyOf t, ofE Ph n c a with
                | some T, some ma => some (mIsI T ma)
                | _, _ => none) else none
              | _ => none))) else none))
      else none
    | .Attribute e f _ => if noCall e = true then (ofE Ph n c e).map (mFld (c.fldOk f) f) else none
    | .Call (.Attribute o m ap) [] [] p => if (noCall o && (ap.endLine == p.line)) = true then (match c.methOf m, ofE Ph n c o with
      | some (k, i), some mo => some (mMethO k m (Ph i) mo [])
      | none, some mo => (lstM m).map fun f => mMethL f mo []
      | _, _ => none) else none
    | .Call (.Attribute o m ap) (a :: as) [] p => if (noCall o && (ap.endLine == p.line) && decide ((a :: as).length < 30)) = true then (match c.methOf m, lstM m, ofE Ph n c o, ofEs Ph n c (a :: as) with
      | some (k, i), _, some mo, some ms => some (mMethO k m (Ph i) mo ms)
      | none, some f, some mo, some ms => some (mMethL f mo ms)
      | none, none, some mo, some ms => (strM m).map fun f => mMethS f mo ms
      | _, _, _, _ => none) else none
    | .ListComp elt [⟨tg, it, ifs, 0⟩] scope p => (match ofLc Ph n c elt tg it ifs scope with
      | some (mi, vs, g, k, me) => some (if c.mt p.line p.col then mCompN mi vs g k me else mComp mi vs g k me)
      | none => none)
    | _ => none
noncomputable def ofEs (Ph : Nat → List D → Sto → R D) : Nat → CC → List Expr → Option (List ME)
  | 0, _, _ => none
  | _ + 1, _, [] => some []
  | n + 1, c, e :: es => match ofE Ph n c e, ofEs Ph n c es with
    | some m, some ms => some (m :: ms)
    | _, _ => none
noncomputable def ofO (Ph : Nat → List D → Sto → R D) : Nat → CC → Option Expr → Option (Option ME)
  | 0, _, _ => none
  | _ + 1, _, none => some none
  | n + 1, c, some e => (ofE Ph n c e).map some
noncomputable def ofI (Ph : Nat → List D → Sto → R D) : Nat → CC → Expr → Expr → Option MIt
  | 0, _, _, _ => none
  | n + 1, c, tg, e => match e with
    | .Call (.Name x _) [a] [] _ => if x = "range" ∧ c.glb x = true ∧ x ∈ c.blt then (ofE Ph n c a).map iRange1 else if x = "reversed" ∧ c.glb x = true ∧ x ∈ c.blt then (ofE Ph n c a).map iRevM
      else if x = "enumerate" ∧ c.glb x = true ∧ x ∈ c.blt then (match tg, ofE Ph n c a with
      | .Tuple _ _ _, some ma => some (iEnumM ma)
      | _, _ => none) else (ofE Ph n c e).map iSeq
    | .Call (.Name x _) [a, b] [] _ => if x = "range" ∧ c.glb x = true ∧ x ∈ c.blt then (match ofE Ph n c a, ofE Ph n c b with
      | some ma, some mb => some (iRange2 ma mb)
      | _, _ => none) else if x = "zip" ∧ c.glb x = true ∧ x ∈ c.blt then (match tg, ofE Ph n c a, ofE Ph n c b with
      | .Tuple _ _ _, some ma, some mb => some (iZip ma mb)
      | _, _, _ => none) else (ofE Ph n c e).map iSeq
    | .Call (.Name x _) [a, b, d] [] _ => if x = "range" ∧ c.glb x = true ∧ x ∈ c.blt then (match ofE Ph n c a, ofE Ph n c b, ofE Ph n c d with
      | some ma, some mb, some md => some (iRange3 ma mb md)
      | _, _, _ => none) else (ofE Ph n c e).map iSeq
    | e => (ofE Ph n c e).map iSeq
noncomputable def ofLc (Ph : Nat → List D → Sto → R D) : Nat → CC → Expr → Expr → Expr → List Expr → Scope → Option (MIt × List Nat × MG × Option ME × ME)
  | 0, _, _, _, _, _, _ => none
  | n + 1, c, elt, tg, it, ifs, scope => match ofI Ph n c tg it, (c.inner scope).tg tg, ofE Ph n (c.inner scope) elt with
    | some mi, some (vs, g), some me => if (noSet it && blkC c.N c.sc scope (c.ownOf tg)) = true ∧ (c.ownOf tg).map (·.2) = vs then (match ifs with
      | [] => some (mi, vs, g, none, me)
      | [t] => (match ofE Ph n (c.inner scope) t with
        | some mt => if testable t = true then some (mi, vs, g, some mt, me) else none
        | none => none)
      | _ => none) else none
    | _, _, _ => none
end

/-! ### the context -/
def XOk (K : PySem.W.Frag) (mg : Str → Option Value) (v : Value) (x : Str) : Prop := ∃ C, v = .ref C ∧ mg x = some (.ref C) ∧ PySem.W.excIn K C [.type "ValueError", .type "Exception", .type "BaseException", .type "object"] "ValueError.__new__" = true ∧ PySem.W.keepIn K (.ref C) = true ∧
  PySem.W.subIn K (.ref C) (.type "BaseException") = some true ∧ PySem.W.typeIn K (.ref C) = some (.type "type")
def FOk (P : Program) (w : World) (K : PySem.W.Frag) (mg : Str → Option Value) (base : Heap) (cls : Nat → Value) (k : Nat) (x : Str) (f : List D → Sto → R D) : Prop := ∃ fa fd ps, mg x = some (.ref fa) ∧ PySem.W.keepIn K (.ref fa) = true ∧ Binds K fd ps [] ∧ FnOk P w K mg base (L2.CX P w) k fa fd ps (spF K cls f)
def GOk (K : PySem.W.Frag) (mg : Str → Option Value) (x : Str) (d : D) : Prop := ∃ u v, mg x = some u ∧ RelV v u ∧ ∀ rho H, RelD K rho H d v
/-- a dict of the module's top with texts as keys -/
def KOk (K : PySem.W.Frag) (w : World) (mg : Str → Option Value) (x : Str) (tab : List (Str × D)) : Prop := ∃ d es n, mg x = some (.ref d) ∧ KDict K w d es n ∧
  ∀ z : Str, (tab.lookup z = none ∧ PySem.W.nsIn K d z = some none) ∨ ∃ t u v, tab.lookup z = some t ∧ PySem.W.nsIn K d z = some (some u) ∧ RelV v u ∧ ∀ rho H, RelD K rho H t v
/-- a class of the text: where it stands, its fields, its methods' numbers -/
def COk (P : Program) (w : World) (K : PySem.W.Frag) (mg : Str → Option Value) (base : Heap) (cls : Nat → Value) (k : Nat) (x : Str) (fl : List Str) (ms : List (Str × Nat)) (Ph : Nat → List D → Sto → R D) : Prop := ∃ C, PySem.W.nsIn K mainGlobals x = some (some (.ref C)) ∧ mg x = some (.ref C) ∧ Cls K C ∧ (∀ f ∈ fl, NoAttr K C f) ∧
  (∀ (m : Str) (i : Nat), ms.lookup m = some i → ∃ fa fd ps, Meth K C m fa ∧ Binds K fd ps [] ∧ FnOk P w K mg base (L2.CX P w) k fa fd ps (spF K cls (Ph i))) ∧ PySem.W.makesIn K C = true ∧ PySem.W.keepIn K (.ref C) = true
structure Good (X : Cx) (cls : Nat → Value) (W : WX) (c : CC) (Ph : Nat → List D → Sto → R D) (k : Nat) : Prop where
  calm : X.calm = true
  nd : X.N.Nodup
  hN : X.N = c.N
  sc : X.env.scope = c.sc
  cok : ∀ x, c.cok x = true → X.fn x = true
  room : Room (k + 1) X.A
  own : PassesOwn (model X.prog X.w) X.A X.env X.xe
  tk : Takes X W
  stk : c.dfn = true → X.stack = X.env :: X.outer ∧ X.env.frame = some X.env.locals
  blt : ∀ x ∈ c.blt, X.mg x = none
  fns : ∀ (i : Nat) (x : Str), c.fns[i]? = some x → FOk X.prog X.w X.K X.mg X.base cls k x (Ph i)
  gl : ∀ (x : Str) (d : D), c.gl.lookup x = some d → GOk X.K X.mg x d
  kd : ∀ (x : Str) (t : List (Str × D)), c.kd.lookup x = some t → KOk X.K X.w X.mg x t
  xcs : ∀ (i : Nat) (x : Str), c.xcs[i]? = some x → XOk X.K X.mg (cls i) x
  sub : c.xcs ≠ [] → ∀ a b, PySem.W.exmOne X.K (cls a) (cls b) = some (c.sub a b)
  ocl : ∀ (x : Str) (p : List Str × List (Str × Nat)), c.ocl.lookup x = some p → COk X.prog X.w X.K X.mg X.base cls k x p.1 p.2 Ph
section
variable {X : Cx} {cls : Nat → Value} {W : WX} {c : CC} {Ph : Nat → List D → Sto → R D} {k : Nat}
theorem Good.un (G : Good X cls W c Ph k) : X.A.units + 65 < cLine := by have := G.room.un; omega
theorem Good.visOk (G : Good X cls W c Ph k) {x : Str} {i : Nat} (h : c.slot x = some i) : X.N[i]? = some x ∧ Vis X.env.scope x ∧ (x == ("__debug__" : Str)) = false ∧ (x == ("__classdict__" : Str)) = false := by
  unfold CC.slot at h
  split at h
  · rename_i hc
    simp only [Bool.and_eq_true, okName, Bool.not_eq_true'] at hc
    refine ⟨by rw [G.hN]; exact ixOf_get h, ?_, hc.2.1.1, hc.2.1.2⟩
    rw [G.sc]
    have hv := hc.1
    unfold CC.vis CC.kind at hv
    unfold Vis
    split at hv
    · exact .inl (by assumption)
    · exact .inr (.inl (by assumption))
    · exact .inr (.inr (by assumption))
    · cases hv
  · cases h
theorem Good.roomK (G : Good X cls W c Ph k) : Room k X.A := G.room.mono (Nat.le_succ k)
theorem Good.fld (G : Good X cls W c Ph k) {f : Str} : ∀ x, c.fldOk f x = true → ∃ fl, ClsAt X.K x fl ∧ f ∈ fl := fun x h => by
  unfold CC.fldOk at h
  split at h
  · rename_i p hp
    obtain ⟨C, h1, h2, h3, h4, _⟩ := G.ocl x p hp
    refine ⟨p.1, fun C' hC => ?_, by simpa using h⟩
    rw [h1] at hC
    cases hC
    exact ⟨h3, h4⟩
  · cases h
theorem Good.meth (G : Good X cls W c Ph k) {m x : Str} {i : Nat} (h : c.methOf m = some (x, i)) : ∃ C fa fd ps, PySem.W.nsIn X.K mainGlobals x = some (some (.ref C)) ∧ Cls X.K C ∧ Meth X.K C m fa ∧ Binds X.K fd ps [] ∧ FnOk X.prog X.w X.K X.mg X.base (L2.CX X.prog X.w) k fa fd ps (spF X.K cls (Ph i)) := by
  unfold CC.methOf at h
  obtain ⟨y, _, hy⟩ := List.exists_of_findSome?_eq_some h
  split at hy
  · rename_i p hp
    obtain ⟨j, hj, e⟩ := Option.map_eq_some_iff.mp hy
    cases e
    obtain ⟨C, h1, h2, h3, h4, h5, _⟩ := G.ocl _ p hp
    obtain ⟨fa, fd, ps, a1, a2, a3⟩ := h5 m i hj
    exact ⟨C, fa, fd, ps, h1, h3, a1, a2, a3⟩
  · cases hy
theorem Good.mkO (G : Good X cls W c Ph k) {x : Str} {i : Nat} (h : c.initOf x = some i) : ∃ C fa fd ps, PySem.W.nsIn X.K mainGlobals x = some (some (.ref C)) ∧ X.mg x = some (.ref C) ∧ Mk X.K C fa ∧ Binds X.K fd ps [] ∧ FnOk X.prog X.w X.K X.mg X.base (L2.CX X.prog X.w) k fa fd ps (spF X.K cls (Ph i)) := by
  unfold CC.initOf at h
  split at h
  · rename_i p hp
    obtain ⟨C, h1, h2, h3, h4, h5, h6, h7⟩ := G.ocl _ p hp
    obtain ⟨fa, fd, ps, a1, a2, a3⟩ := h5 _ i h
    exact ⟨C, fa, fd, ps, h1, h2, ⟨h6, a1.at_, a1.fn, h7⟩, a2, a3⟩
  · cases h
theorem Good.glOk (G : Good X cls W c Ph k) {x : Str} (h : c.glb x = true) : Gl X x := by
  unfold CC.glb CC.kind at h
  show X.env.scope.names.lookup x = some .globalImplicit
  rw [G.sc]
  split at h
  · assumption
  · cases h
theorem okName_ok {x : Str} (h : okName x = true) : (x == ("__debug__" : Str)) = false ∧ (x == ("__classdict__" : Str)) = false ∧ x ≠ "__name__" := by
  simp only [okName, Bool.and_eq_true, Bool.not_eq_true', decide_eq_false_iff_not] at h
  exact ⟨h.1.1, h.1.2, h.2⟩
theorem Good.tgtOk (G : Good X cls W c Ph k) {x : Str} {i : Nat} (h : c.tslot x = some i) : X.N[i]? = some x ∧ Loc X.env.scope x ∧ (X.fn x = true ∨ X.env.scope.names.lookup x = some .local) := by
  unfold CC.tslot at h
  split at h
  · rename_i hc
    refine ⟨by rw [G.hN]; exact ixOf_get h, ?_⟩
    rw [G.sc]
    unfold CC.tgt CC.kind at hc
    split at hc
    · rename_i e
      exact ⟨.inl e, .inr e⟩
    · rename_i e
      exact ⟨.inr e, .inl (G.cok x hc)⟩
    · cases hc
  · cases h
theorem Good.names (G : Good X cls W c Ph k) : ∀ {es : List Expr} {is : List Nat}, c.tslots es = some is → NamesAt X es is
  | [], is, h => by cases h; exact .nil
  | e :: es, is, h => by
    cases e <;> simp only [CC.tslots, reduceCtorEq] at h
    split at h
    · rename_i i is' h1 h2
      cases h
      obtain ⟨a1, a2, a3⟩ := G.tgtOk h1
      exact .cons a1 a2 a3 (G.names h2)
    · cases h
theorem Good.tgPG (G : Good X cls W c Ph k) {tg : Expr} {vs : List Nat} {g : MG} (h : c.tg tg = some (vs, g)) : PG X tg (tGm X.K vs g) := by
  cases tg <;> simp only [CC.tg, Option.map_eq_some_iff, Prod.mk.injEq, reduceCtorEq] at h
  · obtain ⟨i, h1, rfl, rfl⟩ := h
    obtain ⟨a1, a2, a3⟩ := G.tgtOk h1
    exact pg_varM G.nd a1 a2 a3
  · obtain ⟨is, h1, rfl, rfl⟩ := h
    exact pg_tupM G.calm G.nd (G.names h1)
theorem Good.blk (G : Good X cls W c Ph k) {scope : Scope} (s : Shared) (H : Hp) (C : Addr) (cl : List (Str × Addr)) (fp : List Addr) : Good (X.blk s H scope (compEnvC scope cl C X.env) fp) cls WF (c.inner scope) Ph k where
  calm := G.calm
  nd := G.nd
  hN := G.hN
  sc := by
    show relabel scope X.env = relS scope c.sc
    rw [← G.sc]
    rfl
  cok := fun x h => h
  room := G.room
  own := PassesOwn.never
  tk := takes_none5
  stk := fun h => by cases h
  blt := G.blt
  fns := G.fns
  gl := G.gl
  kd := G.kd
  xcs := G.xcs
  sub := G.sub
  ocl := G.ocl
theorem Good.tr (G : Good X cls W c Ph k) {W' : WX} (pn : List (Addr × Obj)) (xe : Value → Shared → Prop) (tk : Takes (X.tr pn xe) W') (own : PassesOwn (model X.prog X.w) X.A X.env xe) : Good (X.tr pn xe) cls W' c Ph k where
  calm := G.calm
  nd := G.nd
  hN := G.hN
  sc := G.sc
  cok := G.cok
  room := G.room
  own := own
  tk := tk
  stk := G.stk
  blt := G.blt
  fns := G.fns
  gl := G.gl
  kd := G.kd
  xcs := G.xcs
  sub := G.sub
  ocl := G.ocl

/-! ### tables -/
abbrev Hop (X : Cx) (cls : Nat → Value) (W : WX) (f : D → D → Sto → R D) (r : R2) : Prop := ∀ {sg : L2.St} {rho : Rho} {st : Sto} {H : Hp} {Q : VK} {x y : D} {v u : V}, Wld X.K rho st H → RelD X.K rho H x v → RelD X.K rho H y u → OkR X.K cls W sg rho H (f x y st) (VQ X.K Q) → r v u H Q
theorem binF_ok {op : Operator} {f : D → D → Sto → R D} (h : binF op = some f) : ∃ r, OpR X (binaryOp op) r ∧ Hop X cls W f r := by
  cases op <;> simp only [binF, Option.some.injEq, reduceCtorEq] at h <;> subst h
  · exact ⟨_, op_addA, hop_add⟩
  · exact ⟨_, op_sub, hop_sub⟩
  · exact ⟨_, op_mulA, hop_mul⟩
  · exact ⟨_, op_mod, hop_mod⟩
  · exact ⟨_, op_pow, hop_pow⟩
  · exact ⟨_, op_fdivW, hop_div⟩
theorem binP_ok {op : Operator} {p : Pos} {f : D → D → Sto → R D} (h : c.binP op p = some f) : ∃ r, OpR X (binaryOp op) r ∧ Hop X cls W f r := by
  unfold CC.binP at h
  split at h
  · split at h
    · cases h; exact ⟨_, op_addA, hop_addN⟩
    · cases h; exact ⟨_, op_addA, hop_add⟩
  · split at h
    · cases h; exact ⟨_, op_mulA, hop_mulN⟩
    · cases h; exact ⟨_, op_mulA, hop_mul⟩
  · exact binF_ok h
theorem cmpF_ok (hu : X.A.units + 65 < cLine) {op : CmpOp} {f : D → D → Sto → R D} (h : cmpF op = some f) : ∃ r, OpR X (compareOp op) r ∧ Hop X cls W f r := by
  cases op <;> simp only [cmpF, Option.some.injEq, reduceCtorEq] at h <;> subst h
  · exact ⟨_, op_eqA (by omega), hop_eq⟩
  · exact ⟨_, op_neA (by omega), hop_ne⟩
  · exact ⟨_, op_lt, hop_cmp⟩
  · exact ⟨_, op_le, hop_cmp⟩
  · exact ⟨_, op_gt, hop_cmp⟩
  · exact ⟨_, op_ge, hop_cmp⟩
  · exact ⟨_, op_isA, hop_is⟩
  · exact ⟨_, op_isNotA, hop_isNot⟩
  · exact ⟨_, op_inA hu, hop_in⟩
  · exact ⟨_, op_notInA hu, hop_notIn⟩
theorem cmpF_bl {op : CmpOp} {f : D → D → Sto → R D} (h : cmpF op = some f) : ∀ x y st d st', f x y st = .ok d st' → ∃ b, d = .bl b := by
  intro x y st d st' q
  cases op <;> simp only [cmpF, Option.some.injEq, reduceCtorEq] at h <;> subst h
  · unfold opEq at q; split at q <;> first | (cases q; exact ⟨_, rfl⟩) | (split at q <;> first | (cases q; exact ⟨_, rfl⟩) | (split at q <;> first | (cases q; exact ⟨_, rfl⟩) | cases q) | cases q) | cases q
  · unfold opNe at q; split at q <;> first | (cases q; exact ⟨_, rfl⟩) | (split at q <;> first | (cases q; exact ⟨_, rfl⟩) | cases q) | cases q
  · unfold opLt opCmp at q; split at q <;> first | (cases q; exact ⟨_, rfl⟩) | cases q
  · unfold opLe opCmp at q; split at q <;> first | (cases q; exact ⟨_, rfl⟩) | cases q
  · unfold opGt opCmp at q; split at q <;> first | (cases q; exact ⟨_, rfl⟩) | cases q
  · unfold opGe opCmp at q; split at q <;> first | (cases q; exact ⟨_, rfl⟩) | cases q
  · unfold opIs at q; split at q <;> first | (cases q; exact ⟨_, rfl⟩) | cases q
  · unfold opIsNot at q; split at q <;> first | (cases q; exact ⟨_, rfl⟩) | cases q
  · unfold opIn at q; split at q <;> first | (cases q; exact ⟨_, rfl⟩) | cases q
  · unfold opNotIn at q; split at q <;> first | (cases q; exact ⟨_, rfl⟩) | cases q
abbrev HopC (X : Cx) (cls : Nat → Value) (W : WX) (f : List D → Sto → R D) (r : List V → Hp → VK → Prop) : Prop := ∀ {sg : L2.St} {rho : Rho} {st : Sto} {H : Hp} {Q : VK} {ds : List D} {vs : List V}, Wld X.K rho st H → RelDs X.K rho H ds vs → OkR X.K cls W sg rho H (f ds st) (VQ X.K Q) → r vs H Q
theorem bltB_ok (hc : X.calm = true) {x : Str} {f : List D → Sto → R D} (h : bltB x = some f) : ∃ id r, bootBuiltins x = some (.builtin id) ∧ CallR X (.builtin id) r ∧ HopC X cls W f r := by
  unfold bltB at h
  split at h
  · rename_i e; cases h; subst e; exact ⟨_, _, boot_len, call_lenA, hop_len⟩
  split at h
  · rename_i e; cases h; subst e; exact ⟨_, _, boot_abs, call_abs, hop_abs⟩
  split at h
  · rename_i e; cases h; subst e; exact ⟨_, _, boot_min, cr_minA hc, hop_min⟩
  split at h
  · rename_i e; cases h; subst e; exact ⟨_, _, boot_max, cr_maxA hc, hop_max⟩
  split at h
  · rename_i e; cases h; subst e; exact ⟨_, _, boot_all, cr_all hc, hop_all⟩
  split at h
  · rename_i e; cases h; subst e; exact ⟨_, _, boot_any, cr_any hc, hop_any⟩
  split at h
  · rename_i e; cases h; subst e; exact ⟨_, _, boot_sum, cr_sum hc, hop_sum⟩
  split at h
  · rename_i e; cases h; subst e; exact ⟨_, _, boot_ord, call_ord, hop_ord⟩
  split at h
  · rename_i e; cases h; subst e; exact ⟨_, _, boot_sorted, cr_sortedI, hop_sorted⟩
  · cases h
theorem bltT_ok {x : Str} {n : Bool} {f : List D → Sto → R D} (h : bltT x n = some f) : ∃ T r, bootBuiltins x = some (.type T) ∧ CallR X (.type T) r ∧ HopC X cls W f r := by
  unfold bltT at h
  split at h
  · rename_i e; cases h; subst e; exact ⟨_, _, boot_tuple, call_tuple_of, hop_tuple⟩
  split at h
  · rename_i e
    subst e
    split at h
    · cases h; exact ⟨_, _, boot_list, call_list_of, hop_listN⟩
    · cases h; exact ⟨_, _, boot_list, call_list_of, hop_list⟩
  split at h
  · rename_i e; cases h; subst e; exact ⟨_, _, boot_str, call_str_int, hop_str⟩
  split at h
  · rename_i e
    subst e
    split at h
    · cases h; exact ⟨_, _, boot_dict, cr_dict, hop_dictN⟩
    · cases h; exact ⟨_, _, boot_dict, cr_dict, hop_dict⟩
  · cases h
theorem tyOf_ok {t : Str} {T : String} (h : tyOf t = some T) : bootBuiltins t = some (.type T) := by
  unfold tyOf at h
  split at h
  · rename_i e; cases h; subst e; exact boot_int
  split at h
  · rename_i e; cases h; subst e; exact boot_bool
  split at h
  · rename_i e; cases h; subst e; exact boot_str
  split at h
  · rename_i e; cases h; subst e; exact boot_tuple
  split at h
  · rename_i e; cases h; subst e; exact boot_list
  split at h
  · rename_i e; cases h; subst e; exact boot_dict
  · cases h
theorem lstM_ok {x : Str} {f : D → List D → Sto → R D} (h : lstM x = some f) : ∃ id r, Slot "list" x id ∧ typeOf (.builtin id) = pure (.type "method_descriptor") ∧ MtR X id r ∧
    ∀ {sg : L2.St} {rho : Rho} {st : Sto} {H : Hp} {Q : VK} {d : D} {v : V} {ds : List D} {vs : List V}, Wld X.K rho st H → RelD X.K rho H d v → RelDs X.K rho H ds vs → OkR X.K cls W sg rho H (f d ds st) (VQ X.K Q) → r v vs H Q := by
  unfold lstM at h
  split at h
  · rename_i e; cases h; subst e; exact ⟨_, _, PySem.F.slot_list_append, PySem.F.type_list_append, mt_append, hop_append⟩
  split at h
  · rename_i e; cases h; subst e; exact ⟨_, _, PySem.F.slot_list_pop, PySem.F.type_list_pop, mt_popA, hop_pop⟩
  split at h
  · rename_i e; cases h; subst e; exact ⟨_, _, PySem.F.slot_list_extend, PySem.F.type_list_extend, mt_extendA, hop_extend⟩
  split at h
  · rename_i e; cases h; subst e; exact ⟨_, _, PySem.F.slot_list_reverse, PySem.F.type_list_reverse, mt_reverse, hop_reverse⟩
  · cases h
end
end MI
/-! MiL: the reading of expressions is right. -/
namespace MI
open PySem PySem.Spec PyProof.Rows L2
structure SndE (X : Cx) (cls : Nat → Value) (W : WX) (e : Expr) (m : ME) : Prop where
  plain : plainE e = true
  pe : PE X e (tE X.K cls W m)
  pt : testable e = true → PT X e (tTm X.K cls W m)
  pw : isBoolOp e = true → PW X e (tTm X.K cls W m)
structure SndAll (cls : Nat → Value) (Ph : Nat → List D → Sto → R D) (k n : Nat) : Prop where
  e : ∀ {X W c}, Good X cls W c Ph k → ∀ {e m}, ofE Ph n c e = some m → SndE X cls W e m
  es : ∀ {X W c}, Good X cls W c Ph k → ∀ {es ms}, ofEs Ph n c es = some ms → es.all plainE = true ∧ PA X es (tAm X.K cls W ms)
  o : ∀ {X W c}, Good X cls W c Ph k → ∀ {e m}, ofO Ph n c e = some m → PO X e (tOm X.K cls W m)
  i : ∀ {X W c}, Good X cls W c Ph k → ∀ {tg e m}, ofI Ph n c tg e = some m → PI X tg e (tIm X.K cls W m)
  lc : ∀ {X W c}, Good X cls W c Ph k → ∀ {elt tg it ifs scope mi vs g kk me}, ofLc Ph n c elt tg it ifs scope = some (mi, vs, g, kk, me) → LcOk X cls W elt tg it ifs scope vs mi g kk me
section
variable {cls : Nat → Value} {Ph : Nat → List D → Sto → R D} {k : Nat}
theorem sndE_plain {X : Cx} {W : WX} {e : Expr} {m : ME} (hp : plainE e = true) (hb : isBoolOp e = false) (pe : PE X e (tE X.K cls W m)) (he : ∀ whole, isTrue e X.env whole = (do let v ← whole; standAt e.pos; holding [v] (truthy v))) : SndE X cls W e m :=
  ⟨hp, pe, fun _ => pt_any pe he, fun h => by rw [hb] at h; cases h⟩
theorem snd_es {n : Nat} (ih : SndAll cls Ph k n) {X : Cx} {W : WX} {c : CC} (G : Good X cls W c Ph k) {es : List Expr} {ms : List ME} (h : ofEs Ph (n + 1) c es = some ms) : es.all plainE = true ∧ PA X es (tAm X.K cls W ms) := by
  cases es with
  | nil =>
    unfold ofEs at h
    cases h
    exact ⟨rfl, pa_nilM⟩
  | cons e es =>
    unfold ofEs at h
    split at h
    · rename_i m ms' h1 h2
      cases h
      have a := ih.e G h1
      have b := ih.es G h2
      exact ⟨by simp [a.plain, b.1], pa_consM a.plain a.pe b.2⟩
    · cases h
theorem snd_o {n : Nat} (ih : SndAll cls Ph k n) {X : Cx} {W : WX} {c : CC} (G : Good X cls W c Ph k) {e : Option Expr} {m : Option ME} (h : ofO Ph (n + 1) c e = some m) : PO X e (tOm X.K cls W m) := by
  cases e with
  | none =>
    unfold ofO at h
    cases h
    exact po_noneM
  | some e =>
    unfold ofO at h
    obtain ⟨m', h1, rfl⟩ := Option.map_eq_some_iff.mp h
    exact po_someM (ih.e G h1).pe
theorem snd_i {n : Nat} (ih : SndAll cls Ph k n) {X : Cx} {W : WX} {c : CC} (G : Good X cls W c Ph k) {tg e : Expr} {m : MIt} (h : ofI Ph (n + 1) c tg e = some m) : PI X tg e (tIm X.K cls W m) := by
  unfold ofI at h
  split at h
  · split at h
    · rename_i hc
      obtain ⟨rfl, hg, hb⟩ := hc
      obtain ⟨m', h1, rfl⟩ := Option.map_eq_some_iff.mp h
      exact pi_range1M (ih.e G h1).plain (G.glOk hg) (G.blt _ hb) (ih.e G h1).pe
    · split at h
      · rename_i hc
        obtain ⟨rfl, hg, hb⟩ := hc
        obtain ⟨m', h1, rfl⟩ := Option.map_eq_some_iff.mp h
        exact pi_revM (ih.e G h1).plain (G.glOk hg) (G.blt _ hb) (ih.e G h1).pe
      · split at h
        · rename_i hc
          obtain ⟨rfl, hg, hb⟩ := hc
          split at h
          · rename_i ma h1
            cases h
            exact pi_enumM (ih.e G h1).plain (G.glOk hg) (G.blt _ hb) (ih.e G h1).pe
          · cases h
        · obtain ⟨m', h1, rfl⟩ := Option.map_eq_some_iff.mp h
          exact pi_seqM (ih.e G h1).pe
  · split at h
    · rename_i hc
      obtain ⟨rfl, hg, hb⟩ := hc
      split at h
      · rename_i ma mb h1 h2
        cases h
        exact pi_range2M (ih.e G h1).plain (ih.e G h2).plain (G.glOk hg) (G.blt _ hb) (ih.e G h1).pe (ih.e G h2).pe
      · cases h
    · split at h
      · rename_i hc
        obtain ⟨rfl, hg, hb⟩ := hc
        split at h
        · rename_i ma mb h1 h2
          cases h
          exact pi_zipM (ih.e G h1).plain (ih.e G h2).plain (G.glOk hg) (G.blt _ hb) (ih.e G h1).pe (ih.e G h2).pe
        · cases h
      · obtain ⟨m', h1, rfl⟩ := Option.map_eq_some_iff.mp h
        exact pi_seqM (ih.e G h1).pe
  · split at h
    · rename_i hc
      obtain ⟨rfl, hg, hb⟩ := hc
      split at h
      · rename_i ma mb md h1 h2 h3
        cases h
        exact pi_range3M (ih.e G h1).plain (ih.e G h2).plain (ih.e G h3).plain (G.glOk hg) (G.blt _ hb) (ih.e G h1).pe (ih.e G h2).pe (ih.e G h3).pe
      · cases h
    · obtain ⟨m', h1, rfl⟩ := Option.map_eq_some_iff.mp h
      exact pi_seqM (ih.e G h1).pe
  · obtain ⟨m', h1, rfl⟩ := Option.map_eq_some_iff.mp h
    exact pi_seqM (ih.e G h1).pe
theorem snd_lc {n : Nat} (ih : SndAll cls Ph k n) {X : Cx} {W : WX} {c : CC} (G : Good X cls W c Ph k) {elt tg it : Expr} {ifs : List Expr} {scope : Scope} {mi : MIt} {vs : List Nat} {g : MG} {kk : Option ME} {me : ME} (h : ofLc Ph (n + 1) c elt tg it ifs scope = some (mi, vs, g, kk, me)) :
    LcOk X cls W elt tg it ifs scope vs mi g kk me := by
  unfold ofLc at h
  split at h
  · rename_i mi' vs' g' me' h1 h2 h3
    split at h
    · rename_i hc
      obtain ⟨hc, hv⟩ := hc
      simp only [Bool.and_eq_true] at hc
      have own : ∃ own : List (Str × Nat), own.map (·.2) = vs' ∧ BlkOk X.N X.env.scope scope own := ⟨c.ownOf tg, hv, by rw [G.hN, G.sc]; exact blkOk_by hc.2⟩
      split at h
      · cases h
        exact ⟨G.calm, G.nd, hc.1, ih.i G h1, own, fun s H C cl fp => (G.blk s H C cl fp).tgPG h2, fun s H C cl fp => pts_nil, fun s H C cl fp => (ih.e (G.blk s H C cl fp) h3).pe⟩
      · split at h
        · rename_i mt h4
          split at h
          · rename_i ht
            cases h
            exact ⟨G.calm, G.nd, hc.1, ih.i G h1, own, fun s H C cl fp => (G.blk s H C cl fp).tgPG h2, fun s H C cl fp => pts_one ((ih.e (G.blk s H C cl fp) h4).pt ht), fun s H C cl fp => (ih.e (G.blk s H C cl fp) h3).pe⟩
          · cases h
        · cases h
      · cases h
    · cases h
  · cases h
theorem kd_glb {X : Cx} {W : WX} {c : CC} (G : Good X cls W c Ph k) {b : Expr} {tab : List (Str × D)} (h : c.kdOf b = some tab) : ∃ x p, b = .Name x p ∧ Gl X x ∧ (x == ("__debug__" : Str)) = false ∧ KOk X.K X.w X.mg x tab := by
  unfold CC.kdOf at h
  split at h
  · split at h
    · rename_i hc
      simp only [Bool.and_eq_true] at hc
      exact ⟨_, _, rfl, G.glOk hc.1, (okName_ok hc.2).1, G.kd _ _ h⟩
    · cases h
  · cases h
theorem mKIn_bl {tab : List (Str × D)} {neg : Bool} {ma : ME} : ∀ env st d st', mKIn tab neg ma env st = .ok d st' → ∃ b, d = .bl b := by
  intro env st d st' q
  unfold mKIn at q
  cases q1 : ma env st with
  | ok d1 st1 =>
    rw [q1] at q
    cases d1 <;> first | (cases q; exact ⟨_, rfl⟩) | cases q
  | exc c st1 => rw [q1] at q; cases q
  | stuck => rw [q1] at q; cases q
theorem snd_kin {X : Cx} {W : WX} {c : CC} (G : Good X cls W c Ph k) {a b : Expr} {op : CmpOp} {p : Pos} {tab : List (Str × D)} {ma : ME} {g : ME → ME} (h1 : c.kdOf b = some tab) (h2 : kdCmp op tab = some g) (ha : PE X a (tE X.K cls W ma)) : SndE X cls W (.Compare a [op] [b] p) (g ma) := by
  obtain ⟨x, q, rfl, hg, hd, d, es, n, hm, D, hz⟩ := kd_glb G h1
  have hb : PE X (.Name x q) (tC (.ref d)) := pe_glob hg hm rfl hd
  cases op <;> simp only [kdCmp, Option.some.injEq, reduceCtorEq] at h2 <;> subst h2
  · have f : ∀ {sg : L2.St} {H : Hp} {Q : VK}, tE X.K cls W (mKIn tab false ma) sg H Q → tOp (fun x y H Q => ∃ (z : Str) (r : Option Value), x = .str z ∧ y = .ref d ∧ PySem.W.nsIn X.K d z = some r ∧ Q (.bl r.isSome) H) (tE X.K cls W ma) (tC (.ref d)) sg H Q := by
      intro sg H Q h
      obtain ⟨rho, env, st, w, re, h⟩ := h
      refine ⟨rho, env, st, w, re, OkR.mono (OkR.bind h) fun d1 st1 rho1 H1 e1 w1 h1 v1 rv1 => ?_⟩
      split at h1
      · rename_i z
        cases rv1
        rcases hz z with ⟨e, en⟩ | ⟨t, u, v, e, en, _, _⟩
        · rw [e] at h1
          exact ⟨z, none, rfl, rfl, en, ok_here w1 h1 (.bl _)⟩
        · rw [e] at h1
          exact ⟨z, some u, rfl, rfl, en, ok_here w1 h1 (.bl _)⟩
      · exact h1.elim
    exact ⟨rfl, PE.weak (pe_cmpR (op_in_kd D) ha hb rfl) fun _ _ _ h => f h, fun _ => PT.weak (pt_cmpR (op_in_kd D) ha hb rfl) fun sg H Q h => tT_of mKIn_bl (fun h => f h) h, fun q => by cases q⟩
  · have f : ∀ {sg : L2.St} {H : Hp} {Q : VK}, tE X.K cls W (mKIn tab true ma) sg H Q → tOp (fun x y H Q => ∃ (z : Str) (r : Option Value), x = .str z ∧ y = .ref d ∧ PySem.W.nsIn X.K d z = some r ∧ Q (.bl (!r.isSome)) H) (tE X.K cls W ma) (tC (.ref d)) sg H Q := by
      intro sg H Q h
      obtain ⟨rho, env, st, w, re, h⟩ := h
      refine ⟨rho, env, st, w, re, OkR.mono (OkR.bind h) fun d1 st1 rho1 H1 e1 w1 h1 v1 rv1 => ?_⟩
      split at h1
      · rename_i z
        cases rv1
        rcases hz z with ⟨e, en⟩ | ⟨t, u, v, e, en, _, _⟩
        · rw [e] at h1
          exact ⟨z, none, rfl, rfl, en, ok_here w1 h1 (.bl _)⟩
        · rw [e] at h1
          exact ⟨z, some u, rfl, rfl, en, ok_here w1 h1 (.bl _)⟩
      · exact h1.elim
    exact ⟨rfl, PE.weak (pe_cmpR (op_notIn_kd D) ha hb rfl) fun _ _ _ h => f h, fun _ => PT.weak (pt_cmpR (op_notIn_kd D) ha hb rfl) fun sg H Q h => tT_of mKIn_bl (fun h => f h) h, fun q => by cases q⟩
theorem snd_kix {X : Cx} {W : WX} {c : CC} (G : Good X cls W c Ph k) {a b : Expr} {p : Pos} {tab : List (Str × D)} {mb : ME} (h1 : c.kdOf a = some tab) (hs : noSlice b = true) (hb : PE X b (tE X.K cls W mb)) : PE X (.Subscript a b p) (tE X.K cls W (mKIx tab mb)) := by
  obtain ⟨x, q, rfl, hg, hd, d, es, n, hm, D, hz⟩ := kd_glb G h1
  have ha : PE X (.Name x q) (tC (.ref d)) := pe_glob hg hm rfl hd
  refine ⟨fun pins s sg H Q I h => ?_⟩
  have h' : tOp (rIxD X.K X.w) (tC (.ref d)) (tE X.K cls W mb) sg H Q := by
    obtain ⟨rho, env, st, w, re, h⟩ := h
    refine ⟨rho, env, st, w, re, OkR.mono (OkR.bind h) fun d1 st1 rho1 H1 e1 w1 h1 v1 rv1 => ?_⟩
    split at h1
    · rename_i z
      cases rv1
      rcases hz z with ⟨e, en⟩ | ⟨t, u, v, e, en, rv, r⟩
      · rw [e] at h1
        exact h1.elim
      · rw [e] at h1
        exact ⟨d, z, v, rfl, rfl, ⟨es, n, u, D.at_, D.lit, en, rv⟩, ok_here w1 h1 (r _ _)⟩
    · exact h1.elim
  refine Subscript_ (binT ha hb I h' fun v u s2 x y H2 I2 rx ry q => ?_)
  exact ix_kdict _ b pins s2 sg H2 x y v u Q I2 rx ry q (plainIx hs v u)
theorem snd_set {X : Cx} {W : WX} {c : CC} (G : Good X cls W c Ph k) {x : Str} {p pos : Pos} {a b : Expr} {as : List Expr} {g : List D → Sto → R D} {m : ME} (hg : Gl X x) (hm : X.mg x = none) (h : c.setArg x a as = some (b, g)) (hp : plainE b = true) (hb : PE X b (tE X.K cls W m)) :
    PE X (.Call (.Name x p) (a :: as) [] pos) (tE X.K cls W (mCall g [m])) := by
  unfold CC.setArg at h
  split at h
  · split at h
    · rename_i hy
      obtain ⟨rfl, g1, g2⟩ := hy
      split at h
      · rename_i e
        subst e
        cases h
        exact pe_sortSet hp hg hm (G.glOk g1) (G.blt _ g2) G.calm hb
      · split at h
        · rename_i e
          subst e
          cases h
          exact pe_lenSetM hp hg hm (G.glOk g1) (G.blt _ g2) G.calm hb
        · cases h
    · cases h
  · split at h
    · rename_i hy
      obtain ⟨rfl, g1, rfl⟩ := hy
      simp only [Bool.and_eq_true] at g1
      cases h
      exact pe_sortKeysM hg hm G.calm g1.1 g1.2 hb
    · cases h
  · cases h
theorem snd_rng {X : Cx} {W : WX} {c : CC} (G : Good X cls W c Ph k) {x : Str} {p pos : Pos} {a b : Expr} {as : List Expr} {g : List D → Sto → R D} {m : ME} {N : Bool} (hg : Gl X x) (hm : X.mg x = none) (h : c.rngArg x a as N = some (b, g)) (hp : plainE b = true) (hb : PE X b (tE X.K cls W m)) :
    PE X (.Call (.Name x p) (a :: as) [] pos) (tE X.K cls W (mCall g [m])) := by
  unfold CC.rngArg at h
  split at h
  · split at h
    · rename_i hy
      obtain ⟨rfl, rfl, g1, g2⟩ := hy
      cases h
      exact pe_listRgM hp hg hm (G.glOk g1) (G.blt _ g2) G.calm N hb
    · cases h
  · cases h
theorem snd_e {n : Nat} (ih : SndAll cls Ph k n) {X : Cx} {W : WX} {c : CC} (G : Good X cls W c Ph k) {e : Expr} {m : ME} (h : ofE Ph (n + 1) c e = some m) : SndE X cls W e m := by
  unfold ofE at h
  split at h
  · -- a name
    split at h
    · rename_i i hi
      cases h
      obtain ⟨a1, a2, a3, a4⟩ := G.visOk hi
      exact sndE_plain rfl rfl (pe_varM a1 a2 a3 a4) fun _ => rfl
    · split at h
      · rename_i hc
        simp only [Bool.and_eq_true] at hc
        obtain ⟨d, hd, rfl⟩ := Option.map_eq_some_iff.mp h
        obtain ⟨u, v, hm, rv, r⟩ := G.gl _ _ hd
        exact sndE_plain rfl rfl (pe_globM (G.glOk hc.1) hm rv r (okName_ok hc.2).1) fun _ => rfl
      · cases h
  · -- a constant
    split at h
    · cases h; exact sndE_plain rfl rfl (PE.weak pe_int fun _ _ _ q => tE_const (fun _ _ => .int _) q) fun _ => rfl
    · cases h; exact sndE_plain rfl rfl (PE.weak pe_bl fun _ _ _ q => tE_const (fun _ _ => .bl _) q) fun _ => rfl
    · cases h; exact sndE_plain rfl rfl (PE.weak pe_non fun _ _ _ q => tE_const (fun _ _ => .non) q) fun _ => rfl
    · cases h; exact sndE_plain rfl rfl (PE.weak pe_str fun _ _ _ q => tE_const (fun _ _ => .str _) q) fun _ => rfl
    · cases h
  · -- BinOp
    split at h
    · rename_i f ma mb h1 h2 h3
      cases h
      obtain ⟨r, ho, hop⟩ := binP_ok (X := X) (cls := cls) (W := W) h1
      exact sndE_plain rfl rfl (pe_binM ho hop (ih.e G h2).pe (ih.e G h3).pe) fun _ => rfl
    · cases h
  · -- -a
    obtain ⟨ma, h1, rfl⟩ := Option.map_eq_some_iff.mp h
    exact sndE_plain rfl rfl (pe_negM (ih.e G h1).pe) fun _ => rfl
  · -- not a
    split at h
    · rename_i ht
      obtain ⟨ma, h1, rfl⟩ := Option.map_eq_some_iff.mp h
      exact ⟨rfl, pe_notM (ih.e G h1).pe, fun _ => pt_notM ((ih.e G h1).pt ht), fun q => by cases q⟩
    · cases h
  · -- one
    rename_i op a p
    split at h
    · rename_i ht
      have s := ih.e G h
      have pw : PW X (.BoolOp op [a] p) (tTm X.K cls W m) := by
        cases op with
        | And => exact pw_and1 (s.pt ht)
        | Or => exact pw_or1 (s.pt ht)
      exact ⟨rfl, pe_one s.pe, fun _ => pw.pt, fun _ => pw⟩
    · cases h
  · -- and
    split at h
    · rename_i ma mb h1 h2
      split at h
      · rename_i ht
        cases h
        have a := ih.e G h1
        have b := ih.e G h2
        have pw := pw_andM (a.pt ht) (b.pw rfl)
        exact ⟨rfl, pe_andM a.pe b.pe, fun _ => pw.pt, fun _ => pw⟩
      · cases h
    · cases h
  · -- or
    split at h
    · rename_i ma mb h1 h2
      split at h
      · rename_i ht
        cases h
        have a := ih.e G h1
        have b := ih.e G h2
        have pw := pw_orM (a.pt ht) (b.pw rfl)
        exact ⟨rfl, pe_orM a.pe b.pe, fun _ => pw.pt, fun _ => pw⟩
      · cases h
    · cases h
  · -- a comparison
    split at h
    · rename_i f ma mb h1 h2 h3
      split at h
      · rename_i hm
        cases h
        obtain ⟨r, ho, hop⟩ := cmpF_ok (X := X) (cls := cls) (W := W) G.un h1
        exact ⟨rfl, pe_cmpM ho hop hm (ih.e G h2).pe (ih.e G h3).pe, fun _ => pt_cmpM ho hop (cmpF_bl h1) hm (ih.e G h2).pe (ih.e G h3).pe, fun q => by cases q⟩
      · cases h
    · rename_i f ma h1 h2 h3
      split at h
      · rename_i tab h4
        obtain ⟨g, h5, rfl⟩ := Option.map_eq_some_iff.mp h
        exact snd_kin G h4 h5 (ih.e G h2).pe
      · cases h
    · cases h
  · -- a chain
    split at h
    · rename_i f g ma mb md h1 h2 h3 h4 h5
      split at h
      · rename_i hm
        cases h
        obtain ⟨r, ho, hop⟩ := cmpF_ok (X := X) (cls := cls) (W := W) G.un h1
        obtain ⟨r', ho', hop'⟩ := cmpF_ok (X := X) (cls := cls) (W := W) G.un h2
        have a := (ih.e G h3).pe
        have b := (ih.e G h4).pe
        have d := (ih.e G h5).pe
        exact ⟨rfl, PE.weak (pe_chain ho ho' a b d (lastMarks_no hm)) fun _ _ _ q => tE_chain hop hop' q, fun _ => PT.weak (pt_chain ho ho' a b d (lastMarks_no hm)) fun sg H Q q => tT_of (mChain_bl (cmpF_bl h2)) (fun q => tE_chain hop hop' q) q, fun q => by cases q⟩
      · cases h
    · cases h
  · -- a if t else b
    split at h
    · rename_i mt ma mb h1 h2 h3
      split at h
      · rename_i ht
        cases h
        exact ⟨rfl, pe_ifM ((ih.e G h1).pt ht) (ih.e G h2).pe (ih.e G h3).pe, fun q => (by cases q), fun q => (by cases q)⟩
      · cases h
    · cases h
  · -- a tuple
    obtain ⟨ms, h1, rfl⟩ := Option.map_eq_some_iff.mp h
    exact sndE_plain rfl rfl (pe_tupM (ih.es G h1).2) fun _ => rfl
  · -- a list
    obtain ⟨ms, h1, rfl⟩ := Option.map_eq_some_iff.mp h
    split
    · exact sndE_plain rfl rfl (pe_newM (ih.es G h1).2) fun _ => rfl
    · exact sndE_plain rfl rfl (pe_lstM (ih.es G h1).2) fun _ => rfl
  · -- {}
    cases h
    split
    · exact sndE_plain rfl rfl pe_newDM fun _ => rfl
    · exact sndE_plain rfl rfl pe_dic0M fun _ => rfl
  · -- {a: b}
    split at h
    · rename_i ma mb h1 h2
      cases h
      exact sndE_plain rfl rfl (pe_dic1M (ih.e G h1).pe (ih.e G h2).pe) fun _ => rfl
    · cases h
  · -- a slice
    split at h
    · rename_i ma ml mh h1 h2 h3
      cases h
      exact sndE_plain rfl rfl (pe_slM (ih.e G h1).pe (ih.o G h2) (ih.o G h3)) fun _ => rfl
    · cases h
  · -- a slice with a step
    split at h
    · rename_i ma ml mh ms h1 h2 h3 h4
      cases h
      exact sndE_plain rfl rfl (pe_stM (ih.e G h1).pe (ih.o G h2) (ih.o G h3) (po_someM (ih.e G h4).pe)) fun _ => rfl
    · cases h
  · -- an item
    split at h
    · rename_i ma mb h1 h2
      split at h
      · rename_i hs
        cases h
        exact sndE_plain rfl rfl (pe_ixM (by have := G.un; omega) hs (ih.e G h1).pe (ih.e G h2).pe) fun _ => rfl
      · cases h
    · rename_i mb h1 h2
      split at h
      · rename_i hs
        obtain ⟨tab, h3, rfl⟩ := Option.map_eq_some_iff.mp h
        exact sndE_plain rfl rfl (snd_kix G h3 hs (ih.e G h2).pe) fun _ => rfl
      · cases h
    · cases h
  · -- f()
    split at h
    · rename_i hc
      simp only [Bool.and_eq_true] at hc
      split at h
      · rename_i i hi
        cases h
        obtain ⟨fa, fd, ps, hm, hk, hb, F⟩ := G.fns i _ (ixOf_get hi)
        exact sndE_plain rfl rfl (pe_call0M F G.roomK (G.glOk hc.1) hm hk hb G.tk (okName_ok hc.2).1) fun _ => rfl
      · obtain ⟨i, hi, rfl⟩ := Option.map_eq_some_iff.mp h
        obtain ⟨C, fa, fd, ps, hC, hm, M, hb, F⟩ := G.mkO hi
        exact sndE_plain rfl rfl (pe_make0M hC M F G.room (G.glOk hc.1) hm hb G.tk (okName_ok hc.2).1) fun _ => rfl
    · cases h
  · -- f(..)
    split at h
    · rename_i hc
      simp only [Bool.and_eq_true] at hc
      split at h
      · rename_i i hi
        obtain ⟨ms, h1, rfl⟩ := Option.map_eq_some_iff.mp h
        obtain ⟨fa, fd, ps, hm, hk, hb, F⟩ := G.fns i _ (ixOf_get hi)
        have a := ih.es G h1
        exact sndE_plain rfl rfl (pe_callM F G.roomK (G.glOk hc.1) hm hk hb G.tk (okName_ok hc.2).1 a.1 a.2) fun _ => rfl
      · split at h
        · rename_i i hi
          obtain ⟨ms, h1, rfl⟩ := Option.map_eq_some_iff.mp h
          obtain ⟨C, fa, fd, ps, hC, hm, M, hb, F⟩ := G.mkO hi
          have a := ih.es G h1
          exact sndE_plain rfl rfl (pe_makeM hC M F G.room (G.glOk hc.1) hm hb G.tk (okName_ok hc.2).1 a.1 a.2) fun _ => rfl
        · split at h
          · rename_i hbl
            have ok := okName_ok hc.2
            split at h
            · rename_i f hf
              split at h
              · rename_i b g hb
                obtain ⟨m, h1, rfl⟩ := Option.map_eq_some_iff.mp h
                exact sndE_plain rfl rfl (snd_set G (G.glOk hc.1) (G.blt _ hbl) hb (ih.e G h1).plain (ih.e G h1).pe) fun _ => rfl
              obtain ⟨ms, h1, rfl⟩ := Option.map_eq_some_iff.mp h
              obtain ⟨id, r, hv, hcr, hop⟩ := bltB_ok (X := X) (cls := cls) (W := W) G.calm hf
              have a := ih.es G h1
              exact sndE_plain rfl rfl (pe_callBM hcr hop (G.glOk hc.1) (G.blt _ hbl) hv ok.2.2 ok.1 a.1 a.2) fun _ => rfl
            · split at h
              · rename_i f hf
                split at h
                · rename_i b g hb
                  obtain ⟨m, h1, rfl⟩ := Option.map_eq_some_iff.mp h
                  exact sndE_plain rfl rfl (snd_rng G (G.glOk hc.1) (G.blt _ hbl) hb (ih.e G h1).plain (ih.e G h1).pe) fun _ => rfl
                obtain ⟨ms, h1, rfl⟩ := Option.map_eq_some_iff.mp h
                obtain ⟨T, r, hv, hcr, hop⟩ := bltT_ok (X := X) (cls := cls) (W := W) hf
                have a := ih.es G h1
                exact sndE_plain rfl rfl (pe_callTyM hcr hop (G.glOk hc.1) (G.blt _ hbl) hv ok.2.2 ok.1 a.1 a.2) fun _ => rfl
              · split at h
                · split at h
                  · rename_i hi
                    obtain ⟨rfl, hg2, hb2⟩ := hi
                    simp only [Bool.and_eq_true] at hg2
                    have ok2 := okName_ok hg2.2
                    split at h
                    · rename_i T ma h1 h2
                      cases h
                      exact sndE_plain rfl rfl (pe_isiM (ih.e G h2).plain (ih.e G h2).pe (G.glOk hc.1) (G.blt _ hbl) (G.glOk hg2.1) (G.blt _ hb2) (tyOf_ok h1) ok2.2.2 ok2.1) fun _ => rfl
                    · cases h
                  · cases h
                · cases h
          · cases h
    · cases h
  · -- e.f
    split at h
    · rename_i hc
      obtain ⟨ma, h1, rfl⟩ := Option.map_eq_some_iff.mp h
      exact sndE_plain rfl rfl (pe_fldM hc G.fld (ih.e G h1).pe) fun _ => rfl
    · cases h
  · -- o.m()
    split at h
    · rename_i hc
      simp only [Bool.and_eq_true] at hc
      split at h
      · rename_i kk i mo h1 h2
        cases h
        obtain ⟨C, fa, fd, ps, hC, cl, hm, hb, F⟩ := G.meth h1
        exact sndE_plain rfl rfl (pe_methO0M hc.1 hc.2 hC cl hm F G.roomK hb G.tk (ih.e G h2).pe) fun _ => rfl
      · rename_i mo h0 h2
        obtain ⟨f, h1, rfl⟩ := Option.map_eq_some_iff.mp h
        obtain ⟨id, r, slot, hty, hm, hop⟩ := lstM_ok (X := X) (cls := cls) (W := W) h1
        exact sndE_plain rfl rfl (pe_methL0 slot hty hm hop hc.1 hc.2 (ih.e G h2).pe) fun _ => rfl
      · cases h
    · cases h
  · -- o.m(..)
    split at h
    · rename_i hc
      simp only [Bool.and_eq_true, decide_eq_true_eq] at hc
      split at h
      · rename_i kk i mo ms h1 h2 h3
        cases h
        obtain ⟨C, fa, fd, ps, hC, cl, hm, hb, F⟩ := G.meth h1
        have a := ih.es G h3
        exact sndE_plain rfl rfl (pe_methOM hc.1.1 hc.1.2 a.1 hc.2 hC cl hm F G.roomK hb G.tk (ih.e G h2).pe a.2) fun _ => rfl
      · rename_i f mo ms h0 h1 h2 h3
        cases h
        obtain ⟨id, r, slot, hty, hm, hop⟩ := lstM_ok (X := X) (cls := cls) (W := W) h1
        have a := ih.es G h3
        exact sndE_plain rfl rfl (pe_methL slot hty hm hop hc.1.1 hc.1.2 a.1 hc.2 (ih.e G h2).pe a.2) fun _ => rfl
      · rename_i mo ms h0 h1 h2 h3
        obtain ⟨f, hf, rfl⟩ := Option.map_eq_some_iff.mp h
        obtain ⟨id, r, slot, hty, hm, hop⟩ := strM_ok (X := X) (cls := cls) (W := W) G.calm G.tk hf
        have a := ih.es G h3
        exact sndE_plain rfl rfl (pe_methS slot hty hm hop hc.1.1 hc.1.2 a.1 hc.2 (ih.e G h2).pe a.2) fun _ => rfl
      · cases h
    · cases h
  · -- a comprehension
    split at h
    · rename_i mi vs g kk me h1
      cases h
      exact sndE_plain rfl rfl ((ih.lc G h1).pe _) fun _ => rfl
    · cases h
  · cases h
theorem snd_all : ∀ n : Nat, SndAll cls Ph k n
  | 0 => ⟨fun _ _ _ h => (by unfold ofE at h; cases h), fun _ _ _ h => (by unfold ofEs at h; cases h), fun _ _ _ h => (by unfold ofO at h; cases h), fun _ _ _ _ h => (by unfold ofI at h; cases h), fun _ _ _ _ _ _ _ _ _ _ _ h => (by unfold ofLc at h; cases h)⟩
  | n + 1 => ⟨fun G _ _ h => snd_e (snd_all n) G h, fun G _ _ h => snd_es (snd_all n) G h, fun G _ _ h => snd_o (snd_all n) G h, fun G _ _ _ h => snd_i (snd_all n) G h, fun G _ _ _ _ _ _ _ _ _ _ h => snd_lc (snd_all n) G h⟩
end
end MI
/-! MiM: the reading of statements and defs is right. -/
namespace MI
open PySem PySem.Spec PyProof.Rows L2

/-! ### suites of except clauses: simple ones -/
def ofQ (c : CC) (e : Expr) : Option ME := match e with
    | .Name x _ => (match c.slot x with
      | some i => some (mVar i)
      | none => none)
    | .Constant k _ _ => (match k with
      | .int i => some (mC (.int i))
      | .bool b => some (mC (.bl b))
      | .none => some (mC .non)
      | .str s => some (mC (.str s))
      | _ => none)
    | _ => none
def ofQS (c : CC) (s : Stmt) : Option MS := match s with
  | .Return (some e) _ => (ofQ c e).map sRet
  | .Pass _ => some sSkip
  | .Continue _ => some fun env st => .ct env st
  | .Assign [.Name x _] e _ => (match c.tslot x, ofQ c e with
    | some i, some m => some (sAsg m (gVar i))
    | _, _ => none)
  | _ => none
def ofQSs (c : CC) : List Stmt → Option MS
  | [] => some sSkip
  | s :: ss => match ofQS c s, ofQSs c ss with
    | some a, some b => some (sSeq a b)
    | _, _ => none
def ofH (c : CC) : List ExceptHandler → Option (List (Nat × MS))
  | [] => some []
  | .ExceptHandler (some (.Name x _)) none (b :: bs) _ :: hs => if (c.glb x && okName x) = true then (match ixOf c.xcs x, ofQSs c (b :: bs), ofH c hs with
    | some i, some m, some r => some ((i, m) :: r)
    | _, _, _ => none) else none
  | _ => none

/-- is the assignment of a comprehension one step with it -/
def swB (c : CC) (e : Expr) (x : Str) (p : Pos) : Bool := match e with
  | .ListComp _ _ scope q => (match c.sc.kind with | .function => true | _ => false) && (match c.kind x with | some .local => true | _ => false) && (p.line == q.line) && !(scope.names.any fun (n, k) => n == x && (k == .local || k == .cell))
  | _ => false
/-- a name that a comprehension within takes up: no swap -/
def cellB (c : CC) (x : Str) : Bool := match c.kind x with
  | some .cell => true
  | _ => false

mutual
noncomputable def ofS (Ph : Nat → List D → Sto → R D) : Nat → CC → Stmt → Option MS
  | 0, _, _ => none
  | n + 1, c, s => match s with
    | .Return (some e) _ => (ofE Ph n c e).map sRet
    | .Return none _ => some (sRet (mC .non))
    | .Pass _ => some sSkip
    | .Break _ => some fun env st => .bk env st
    | .Continue _ => some fun env st => .ct env st
    | .Expr e _ => if noComp e = true then (ofE Ph n c e).map sExpr else none
    | .Assign [.Name x p] (.ListComp elt [⟨tg, it, ifs, 0⟩] scope q) _ => if swB c (.ListComp elt [⟨tg, it, ifs, 0⟩] scope q) x p = true then (match c.tslot x, ofLc Ph n c elt tg it ifs scope with
      | some i, some (mi, vs, g, kk, me) => some (sAsg (if c.mt q.line q.col then mCompN mi vs g kk me else mComp mi vs g kk me) (gVar i))
      | _, _ => none) else if cellB c x = true then (match c.tslot x, ofE Ph n c (.ListComp elt [⟨tg, it, ifs, 0⟩] scope q) with
      | some i, some m => some (sAsg m (gVar i))
      | _, _ => none) else none
    | .Assign [.Name x _] e _ => if noComp e = true then (match c.tslot x, ofE Ph n c e with
      | some i, some m => some (sAsg m (gVar i))
      | _, _ => none) else none
    | .Assign [.Tuple es _ _] e _ => if (noComp e && noTuple e) = true then (match c.tslots es, ofE Ph n c e with
      | some is, some m => some (sAsg m (gTupV is))
      | _, _ => none) else none
    | .Assign [.Attribute o f _] e _ => (match ofE Ph n c o, ofE Ph n c e with
      | some mo, some m => some (sFldS (c.fldOk f) f mo m)
      | _, _ => none)
    | .Assign [.Subscript o i _] e _ => if (noComp e && noSlice i) = true then (match ofE Ph n c o, ofE Ph n c i, ofE Ph n c e with
      | some mo, some mi, some m => some (sSet mo mi m)
      | _, _, _ => none) else none
    | .AugAssign (.Name x _) op e _ => (match c.tslot x, augF op, ofE Ph n c e with
      | some i, some f, some m => some (sAug i f m)
      | _, _, _ => none)
    | .AugAssign (.Subscript o i _) op e _ => if noSlice i = true then (match augF op, ofE Ph n c o, ofE Ph n c i, ofE Ph n c e with
      | some f, some mo, some mi, some m => some (sAugL f mo mi m)
      | _, _, _, _ => none) else none
    | .If t a b _ => if testable t = true then (match ofE Ph n c t, ofSs Ph n c a, ofSs Ph n c b with
      | some mt, some ma, some mb => some (sIf mt ma mb)
      | _, _, _ => none) else none
    | .While t a [] _ => if testable t = true then (match ofE Ph n c t, ofSs Ph n c a with
      | some mt, some ma => some (sWhile mt ma c.fuel)
      | _, _ => none) else none
    | .For tg it a [] _ => if noSet it = true then (match c.tg tg, ofI Ph n c tg it, ofSs Ph n c a with
      | some (_, g), some mi, some ma => some (sFor mi g ma)
      | _, _, _ => none) else none
    | .Raise (some (.Call (.Name x _) [] [] _)) none _ => if (c.glb x && okName x) = true then (ixOf c.xcs x).map sRaise else none
    | .Try body (h0 :: hs) [] [] _ => if c.dfn = true then (match ofSs Ph n c body, ofH c (h0 :: hs) with
      | some mb, some l => some (sTry c.sub mb l)
      | _, _ => none) else none
    | _ => none
noncomputable def ofSs (Ph : Nat → List D → Sto → R D) : Nat → CC → List Stmt → Option MS
  | 0, _, _ => none
  | _ + 1, _, [] => some sSkip
  | n + 1, c, s :: ss => match ofS Ph n c s, ofSs Ph n c ss with
    | some a, some b => some (sSeq a b)
    | _, _ => some sStuck
end
section
variable {cls : Nat → Value} {Ph : Nat → List D → Sto → R D} {k : Nat}
/-! ### the suites -/
theorem ofQ_ok {X : Cx} {W : WX} {c : CC} (G : Good X cls W c Ph k) {e : Expr} {m : ME} (h : ofQ c e = some m) (a : Addr) (pn : List (Addr × Obj)) : noComp e = true ∧ PE (X.suite a pn) e (tE X.K cls WF m) ∧ ∀ env st c st', m env st ≠ .exc c st' := by
  unfold ofQ at h
  split at h
  · split at h
    · rename_i i hi
      cases h
      obtain ⟨a1, a2, a3, a4⟩ := G.visOk hi
      refine ⟨rfl, pe_varM (X := X.suite a pn) a1 a2 a3 a4, fun env st c st' q => ?_⟩
      unfold mVar at q
      split at q <;> cases q
    · cases h
  · split at h
    · cases h; exact ⟨rfl, PE.weak (pe_int (X := X.suite a pn)) fun _ _ _ q => tE_const (fun _ _ => .int _) q, fun env st c st' q => by cases q⟩
    · cases h; exact ⟨rfl, PE.weak (pe_bl (X := X.suite a pn)) fun _ _ _ q => tE_const (fun _ _ => .bl _) q, fun env st c st' q => by cases q⟩
    · cases h; exact ⟨rfl, PE.weak (pe_non (X := X.suite a pn)) fun _ _ _ q => tE_const (fun _ _ => .non) q, fun env st c st' q => by cases q⟩
    · cases h; exact ⟨rfl, PE.weak (pe_str (X := X.suite a pn)) fun _ _ _ q => tE_const (fun _ _ => .str _) q, fun env st c st' q => by cases q⟩
    · cases h
  · cases h
theorem ofQS_ok {X : Cx} {W : WX} {c : CC} (G : Good X cls W c Ph k) {s : Stmt} {m : MS} (h : ofQS c s = some m) (a : Addr) (pn : List (Addr × Obj)) : PS (X.suite a pn) s (tS X.K cls WF m) ∧ Quiet m := by
  unfold ofQS at h
  split at h
  · obtain ⟨me, h1, rfl⟩ := Option.map_eq_some_iff.mp h
    obtain ⟨hc, pe, q⟩ := ofQ_ok G h1 a pn
    refine ⟨ps_retM (X := X.suite a pn) pe, fun env st => ?_⟩
    unfold sRet
    cases r : me env st with
    | exc c st' => exact absurd r (q env st c st')
    | ok d st' => trivial
    | stuck => trivial
  · cases h
    exact ⟨ps_passM (X := X.suite a pn), fun env st => trivial⟩
  · cases h
    exact ⟨ps_contM (X := X.suite a pn), fun env st => trivial⟩
  · split at h
    · rename_i i me h1 h2
      cases h
      obtain ⟨hc, pe, q⟩ := ofQ_ok G h2 a pn
      obtain ⟨a1, a2, a3⟩ := G.tgtOk h1
      refine ⟨ps_setM (X := X.suite a pn) G.nd a1 a2 a3 pe (swaps_no hc), fun env st => ?_⟩
      unfold sAsg
      cases r : me env st with
      | exc c st' => exact absurd r (q env st c st')
      | ok d st' => trivial
      | stuck => trivial
    · cases h
  · cases h
theorem ofQSs_ok {X : Cx} {W : WX} {c : CC} (G : Good X cls W c Ph k) (a : Addr) (pn : List (Addr × Obj)) : ∀ {ss : List Stmt} {m : MS}, ofQSs c ss = some m → PSs (X.suite a pn) ss (tS X.K cls WF m) ∧ Quiet m
  | [], m, h => by
    cases h
    exact ⟨pss_nilM (X := X.suite a pn), fun env st => trivial⟩
  | s :: ss, m, h => by
    unfold ofQSs at h
    split at h
    · rename_i m1 m2 h1 h2
      cases h
      obtain ⟨p1, q1⟩ := ofQS_ok G h1 a pn
      obtain ⟨p2, q2⟩ := ofQSs_ok G a pn h2
      refine ⟨pss_consM (X := X.suite a pn) p1 p2, fun env st => ?_⟩
      have z := q1 env st
      unfold sSeq
      cases r : m1 env st with
      | exc c env' st' => rw [r] at z; exact z.elim
      | nx env' st' => exact q2 env' st'
      | rt d st' => trivial
      | bk env' st' => trivial
      | ct env' st' => trivial
      | stuck => trivial
    · cases h
theorem ofH_ok {X : Cx} {W : WX} {c : CC} (G : Good X cls W c Ph k) : ∀ {hs : List ExceptHandler} {l : List (Nat × MS)}, ofH c hs = some l → HdsOk X hs (l.map fun h => (cls h.1, fun _ _ _ => tS X.K cls WF h.2)) ∧ ∀ h ∈ l, Quiet h.2
  | [], l, h => by
    cases h
    exact ⟨.nil, fun h hh => by cases hh⟩
  | hd :: hs, l, h => by
    unfold ofH at h
    split at h
    · rename_i e; cases e
    · rename_i hs' x np b bs pos' e1
      cases e1
      split at h
      · rename_i hc
        simp only [Bool.and_eq_true] at hc
        split at h
        · rename_i i m r h1 h2 h3
          cases h
          obtain ⟨p, q⟩ := ofH_ok G h3
          obtain ⟨C, hC, hm, _⟩ := G.xcs i _ (ixOf_get h1)
          refine ⟨.cons ⟨G.glOk hc.1, (okName_ok hc.2).1, .inl (by rw [hm]; exact congrArg some hC.symm)⟩ (fun a oe cls' d pn _ _ => (ofQSs_ok G a ((a, oe) :: pn) h2).1) p, fun h hh => ?_⟩
          rcases List.mem_cons.mp hh with rfl | hh
          · exact (ofQSs_ok G 0 [] h2).2
          · exact q h hh
        · cases h
      · cases h
    · cases h
theorem ofH_ne {c : CC} {h0 : ExceptHandler} {hs : List ExceptHandler} {l : List (Nat × MS)} (h : ofH c (h0 :: hs) = some l) : c.xcs ≠ [] := fun e => by
  unfold ofH at h
  split at h
  · rename_i z; cases z
  · split at h
    · split at h
      · rename_i i m r h1 h2 h3
        rw [e] at h1
        cases h1
      · cases h
    · cases h
  · cases h
theorem swB_ok {X : Cx} {W : WX} {c : CC} (G : Good X cls W c Ph k) {elt : Expr} {gs : List Comprehension} {scope : Scope} {q p : Pos} {x : Str} {l : Nat} (h : swB c (.ListComp elt gs scope q) x p = true) : swapsWith (.ListComp elt gs scope q) (some (.Name x p)) l X.env = pure true ∧ X.env.scope.names.lookup x = some .local := by
  unfold swB CC.kind at h
  simp only [Bool.and_eq_true, Bool.not_eq_true'] at h
  obtain ⟨⟨⟨h1, h2⟩, h3⟩, h4⟩ := h
  have k1 : X.env.scope.kind = .function := by
    rw [G.sc]
    split at h1
    · assumption
    · cases h1
  have k2 : X.env.scope.names.lookup x = some .local := by
    rw [G.sc]
    split at h2
    · assumption
    · cases h2
  exact ⟨sw_true k1 k2 h3 h4, k2⟩
theorem cellB_ok {X : Cx} {W : WX} {c : CC} (G : Good X cls W c Ph k) {elt : Expr} {gs : List Comprehension} {scope : Scope} {q p : Pos} {x : Str} {l : Nat} (h : cellB c x = true) : swapsWith (.ListComp elt gs scope q) (some (.Name x p)) l X.env = pure false := by
  unfold cellB CC.kind at h
  have k2 : X.env.scope.names.lookup x = some .cell := by
    rw [G.sc]
    split at h
    · assumption
    · cases h
  have k3 : X.env.kindOf x = some .cell := k2
  show (pure (X.env.blockKind == .function && X.env.kindOf x == some .local && p.line == q.line && !(scope.names.any fun (n, k) => n == x && (k == .local || k == .cell))) : Sem Bool) = pure false
  rw [k3]
  congr 1
  have : ((some NameKind.cell : Option NameKind) == some .local) = false := rfl
  rw [this]
  simp
/-! ### statements -/
structure SndS (cls : Nat → Value) (Ph : Nat → List D → Sto → R D) (k n : Nat) : Prop where
  s : ∀ {X W c}, Good X cls W c Ph k → ∀ {s m}, ofS Ph n c s = some m → PS X s (tS X.K cls W m)
  ss : ∀ {X W c}, Good X cls W c Ph k → ∀ {ss m}, ofSs Ph n c ss = some m → PSs X ss (tS X.K cls W m)
theorem snd_ss {n : Nat} (ih : SndS cls Ph k n) {X : Cx} {W : WX} {c : CC} (G : Good X cls W c Ph k) {ss : List Stmt} {m : MS} (h : ofSs Ph (n + 1) c ss = some m) : PSs X ss (tS X.K cls W m) := by
  cases ss with
  | nil =>
    unfold ofSs at h
    cases h
    exact pss_nilM
  | cons s ss =>
    unfold ofSs at h
    split at h
    · rename_i a b h1 h2
      cases h
      exact pss_consM (ih.s G h1) (ih.ss G h2)
    · cases h
      exact pss_stuck
theorem snd_s {n : Nat} (ih : SndS cls Ph k n) {X : Cx} {W : WX} {c : CC} (G : Good X cls W c Ph k) {s : Stmt} {m : MS} (h : ofS Ph (n + 1) c s = some m) : PS X s (tS X.K cls W m) := by
  have ie := snd_all (cls := cls) (Ph := Ph) (k := k) n
  unfold ofS at h
  split at h
  · obtain ⟨me, h1, rfl⟩ := Option.map_eq_some_iff.mp h
    exact ps_retM (ie.e G h1).pe
  · cases h; exact ps_retNM
  · cases h; exact ps_passM
  · cases h; exact ps_breakM
  · cases h; exact ps_contM
  · split at h
    · rename_i hc
      obtain ⟨me, h1, rfl⟩ := Option.map_eq_some_iff.mp h
      exact ps_exprM (ie.e G h1).pe hc
    · cases h
  · split at h
    · rename_i hsw
      split at h
      · rename_i i mi vs g kk me h1 h2
        cases h
        obtain ⟨sw, loc⟩ := swB_ok G hsw
        exact (ie.lc G h2).set _ (G.tgtOk h1).1 loc sw
      · cases h
    · split at h
      · rename_i hc
        split at h
        · rename_i i me h1 h2
          cases h
          obtain ⟨a1, a2, a3⟩ := G.tgtOk h1
          exact ps_setM G.nd a1 a2 a3 (ie.e G h2).pe (cellB_ok G hc)
        · cases h
      · cases h
  · split at h
    · rename_i hc
      split at h
      · rename_i i me h1 h2
        cases h
        obtain ⟨a1, a2, a3⟩ := G.tgtOk h1
        exact ps_setM G.nd a1 a2 a3 (ie.e G h2).pe (swaps_no hc)
      · cases h
    · cases h
  · split at h
    · rename_i hc
      simp only [Bool.and_eq_true] at hc
      split at h
      · rename_i is me h1 h2
        cases h
        exact ps_tupM G.calm G.nd (G.names h1) (ie.e G h2).pe hc.1 hc.2
      · cases h
    · cases h
  · split at h
    · rename_i mo me h1 h2
      cases h
      exact ps_fldM G.fld (ie.e G h1).pe (ie.e G h2).pe
    · cases h
  · split at h
    · rename_i hc
      simp only [Bool.and_eq_true] at hc
      split at h
      · rename_i mo mi me h1 h2 h3
        cases h
        exact ps_setIxM (by have := G.un; omega) (ie.e G h1).pe (ie.e G h2).pe (ie.e G h3).pe hc.1 hc.2
      · cases h
    · cases h
  · split at h
    · rename_i i f me h1 h2 h3
      cases h
      obtain ⟨a1, a2, a3⟩ := G.tgtOk h1
      exact ps_augM h2 G.nd a1 a2 a3 (ie.e G h3).pe
    · cases h
  · split at h
    · rename_i hc
      split at h
      · rename_i f mo mi me h1 h2 h3 h4
        cases h
        exact ps_augLM (by have := G.un; omega) h1 (ie.e G h2).pe (ie.e G h3).pe (ie.e G h4).pe hc
      · cases h
    · cases h
  · split at h
    · rename_i ht
      split at h
      · rename_i mt ma mb h1 h2 h3
        cases h
        exact ps_ifM ((ie.e G h1).pt ht) (ih.ss G h2) (ih.ss G h3)
      · cases h
    · cases h
  · split at h
    · rename_i ht
      split at h
      · rename_i mt ma h1 h2
        cases h
        exact ps_whileM G.own ((ie.e G h1).pt ht) (ih.ss G h2)
      · cases h
    · cases h
  · split at h
    · rename_i hs
      split at h
      · rename_i vs g mi ma h1 h2 h3
        cases h
        exact ps_forM G.own G.calm hs (ie.i G h2) (G.tgPG h1) (ih.ss G h3)
      · cases h
    · cases h
  · split at h
    · rename_i hc
      simp only [Bool.and_eq_true] at hc
      obtain ⟨i, hi, rfl⟩ := Option.map_eq_some_iff.mp h
      obtain ⟨C, hC, hm, he, hk, hb, ht⟩ := G.xcs i _ (ixOf_get hi)
      exact ps_raiseM hC G.calm G.tk he hm hk (raises_own hb ht) (G.glOk hc.1) (okName_ok hc.2).1
    · cases h
  · split at h
    · rename_i hd
      split at h
      · rename_i mb l h1 h2
        cases h
        obtain ⟨s1, s2⟩ := G.stk hd
        obtain ⟨p, q⟩ := ofH_ok G h2
        exact ps_tryM s1 s2 G.tk (fun W' pn xe tk own => ih.ss (G.tr pn xe tk own) h1) p (G.sub (ofH_ne h2)) q
      · cases h
    · cases h
  · cases h
theorem sndS_all : ∀ n : Nat, SndS cls Ph k n
  | 0 => ⟨fun _ _ _ h => (by unfold ofS at h; cases h), fun _ _ _ h => (by unfold ofSs at h; cases h)⟩
  | n + 1 => ⟨fun G _ _ h => snd_s (sndS_all n) G h, fun G _ _ h => snd_ss (sndS_all n) G h⟩
end
end MI
/-! MiN: defs, the table of a text, the law. -/
namespace MI
open PySem PySem.Spec PyProof.Rows L2
structure DefR where
  arity : Nat
  slots : Nat
  frz : Bool
  body : (Nat → List D → Sto → R D) → MS
def startD (n : Nat) (ds : List D) : DEnv := ds.map some ++ List.replicate (n - ds.length) none
def belowO (n : Nat) : SO → Bool
  | .lst ds => belows n ds
  | .dic kvs => belowk n kvs
  | .ins _ fs => belows n (fs.map (·.2))
  | .dicT kvs => belows n (kvs.map (·.2))
/-- what stood ahead stands as it stood, or knows nothing of what is new -/
def Same (st st' : Sto) : Prop := ∀ (i : Nat) (o : SO), i < st.length → st'[i]? = some o → st[i]? = some o ∨ belowO st.length o = true
open Classical in
/-- what a def made for itself is let go; what it hands back goes by value -/
noncomputable def freeze (st : Sto) (d : D) (st' : Sto) : R D :=
  if st'.length = st.length then .ok d st'
  else if Same st st' then (match d with
    | .ref l => if l < st.length then .ok d (st'.take st.length) else (match st'[l]? with
      | some (.lst ds) => if belows st.length ds = true then .ok (.lst ds) (st'.take st.length) else .ok d st'
      | some (.dic kvs) => if belowk st.length kvs = true then .ok (.dic kvs) (st'.take st.length) else .ok d st'
      | _ => .ok d st')
    | d => if below st.length d = true then .ok d (st'.take st.length) else .ok d st')
  else .ok d st'
open Classical in
noncomputable def cutSt (st st' : Sto) : Sto := if st'.length = st.length then st' else if Same st st' then st'.take st.length else st'
noncomputable def runDef (d : DefR) (Ph : Nat → List D → Sto → R D) (ds : List D) (st : Sto) : R D :=
  if ds.length = d.arity then (match d.body Ph (startD d.slots ds) st with
    | .rt v st' => if d.frz = true then freeze st v st' else .ok v st'
    | .nx _ st' => if d.frz = true then .ok .non (cutSt st st') else .ok .non st'
    | .exc c _ st' => if d.frz = true then .exc c (cutSt st st') else .exc c st'
    | _ => .stuck) else .stuck
noncomputable def Phi (tbl : List DefR) : Nat → Nat → List D → Sto → R D
  | 0, _, _, _ => .stuck
  | n + 1, i, ds, st => match tbl[i]? with
    | some d => runDef d (Phi tbl n) ds st
    | none => .stuck

section
variable {K : PySem.W.Frag} {cls : Nat → Value} {W : WX} {sg : L2.St} {rho rho' : Rho} {H H' : Hp} {st st' : Sto}
mutual
theorem below_rel : ∀ {d : D} {v : V}, RelD K rho H d v → below rho.loc.length d = true
  | _, _, .non => by simp [below]
  | _, _, .bl b => by simp [below]
  | _, _, .int i => by simp [below]
  | _, _, .str x => by simp [below]
  | _, _, .tup h r => by simp only [below]; exact belows_rel r
  | _, _, .lst h n r => by simp only [below]; exact belows_rel r
  | _, _, .fz h r => by simp only [below]; exact belows_rel r
  | _, _, .dic h n r => by simp only [below]; exact belowk_rel r
  | _, _, .ref h => by
    simp only [below, decide_eq_true_eq]
    exact (List.getElem?_eq_some_iff.mp h).1
theorem belows_rel : ∀ {ds : List D} {vs : List V}, RelDs K rho H ds vs → belows rho.loc.length ds = true
  | _, _, .nil => by simp [belows]
  | _, _, .cons h t => by simp [belows, below_rel h, belows_rel t]
theorem belowk_rel : ∀ {ds : List (Key × D)} {vs : List (Key × V)}, RelK K rho H ds vs → belowk rho.loc.length ds = true
  | _, _, .nil => by simp [belowk]
  | _, _, .cons h t => by simp [belowk, below_rel h, belowk_rel t]
end
/-- seen with fewer objects -/
structure Narrow (rho rho' : Rho) : Prop where
  loc : ∃ n, rho'.loc = rho.loc ++ n
  res : rho'.res = rho.res
theorem Narrow.notMem (n : Narrow rho rho') {a : Addr} (h : a ∉ rho') : a ∉ rho := fun z => h (by
  obtain ⟨m, e⟩ := n.loc
  rcases z with z | z
  · exact .inl (by rw [e]; exact List.mem_append_left _ z)
  · exact .inr (by rw [n.res]; exact z))
mutual
theorem RelD.narrow (n : Narrow rho rho') : ∀ {d : D} {v : V}, RelD K rho' H d v → below rho.loc.length d = true → RelD K rho H d v
  | _, _, .non, _ => .non
  | _, _, .bl b, _ => .bl b
  | _, _, .int i, _ => .int i
  | _, _, .str x, _ => .str x
  | _, _, .tup h r, b => .tup h (RelDs.narrow n r (by simpa only [below] using b))
  | _, _, .lst h m r, b => .lst h (n.notMem m) (RelDs.narrow n r (by simpa only [below] using b))
  | _, _, .fz h r, b => .fz h (RelDs.narrow n r (by simpa only [below] using b))
  | _, _, .dic h m r, b => .dic h (n.notMem m) (RelK.narrow n r (by simpa only [below] using b))
  | _, _, .ref h, b => .ref (by
      obtain ⟨m, e⟩ := n.loc
      have hl := by simpa only [below, decide_eq_true_eq] using b
      rw [e, List.getElem?_append_left hl] at h
      exact h)
theorem RelDs.narrow (n : Narrow rho rho') : ∀ {ds : List D} {vs : List V}, RelDs K rho' H ds vs → belows rho.loc.length ds = true → RelDs K rho H ds vs
  | _, _, .nil, _ => .nil
  | _, _, .cons h t, b => by
    simp only [belows, Bool.and_eq_true] at b
    exact .cons (RelD.narrow n h b.1) (RelDs.narrow n t b.2)
theorem RelK.narrow (n : Narrow rho rho') : ∀ {ds : List (Key × D)} {vs : List (Key × V)}, RelK K rho' H ds vs → belowk rho.loc.length ds = true → RelK K rho H ds vs
  | _, _, .nil, _ => .nil
  | _, _, .cons h t, b => by
    simp only [belowk, Bool.and_eq_true] at b
    exact .cons (RelD.narrow n h b.1) (RelK.narrow n t b.2)
end
theorem Ext.narrow (e : Ext rho H rho' H') : Narrow rho rho' := ⟨let ⟨n, h, _⟩ := e.new; ⟨n, h⟩, e.res⟩
theorem Ext.back (e : Ext rho H rho' H') : Ext rho H rho H' := ⟨⟨[], by simp, fun b hb => absurd hb (by simp)⟩, rfl, e.keep, e.kres, e.tup, e.frz, e.liv⟩
theorem Wld.back (w : Wld K rho st H) (e : Ext rho H rho' H') (w' : Wld K rho' st' H') (s : Same st st') : Wld K rho (st'.take st.length) H' := by
  have hle : st.length ≤ st'.length := by
    obtain ⟨n, en, _⟩ := e.new
    rw [← w.len, ← w'.len, en, List.length_append]
    omega
  refine ⟨by rw [List.length_take, w.len]; omega, w.nd, fun l a o h1 h2 => ?_, w.dis, fun b hb => w'.rsv b (by rw [e.res]; exact hb)⟩
  have hl : l < st.length := by rw [← w.len]; exact (List.getElem?_eq_some_iff.mp h1).1
  rw [List.getElem?_take_of_lt hl] at h2
  have q := w'.obj l a o (e.get h1) h2
  have hb : belowO rho.loc.length o = true := by
    rcases s l o hl h2 with q0 | q0
    · have q1 := w.obj l a o h1 q0
      cases o with
      | lst ds =>
        obtain ⟨vs0, h0, r0⟩ := q1
        exact belows_rel r0
      | dic ds =>
        obtain ⟨vs0, h0, r0⟩ := q1
        exact belowk_rel r0
      | ins c fs =>
        obtain ⟨vs0, C0, dx0, h0, h2, h3, r0⟩ := q1
        exact belows_rel r0
      | dicT fs =>
        obtain ⟨vs0, h0, h3, r0⟩ := q1
        exact belows_rel r0
    · rw [w.len]; exact q0
  cases o with
  | lst ds =>
    obtain ⟨vs, h, r⟩ := q
    exact ⟨vs, h, r.narrow e.narrow hb⟩
  | dic ds =>
    obtain ⟨vs, h, r⟩ := q
    exact ⟨vs, h, r.narrow e.narrow hb⟩
  | ins c fs =>
    obtain ⟨vs, C, dx, h, h2, h3, r⟩ := q
    exact ⟨vs, C, dx, h, h2, h3, r.narrow e.narrow hb⟩
  | dicT fs =>
    obtain ⟨vs, h, h3, r⟩ := q
    exact ⟨vs, h, h3, r.narrow e.narrow hb⟩
theorem out_of_old (w : Wld K rho st H) (e : Ext rho H rho' H') (w' : Wld K rho' st' H') {l : Nat} {a : Addr} (h : rho'.loc[l]? = some a) (hl : ¬ l < st.length) : a ∉ rho := fun z => by
  rcases z with z | z
  · obtain ⟨i, hi, ei⟩ := List.mem_iff_getElem.mp z
    have h1 : rho.loc[i]? = some a := by rw [List.getElem?_eq_getElem hi, ei]
    have h2 := e.get h1
    obtain ⟨b1, e1⟩ := List.getElem?_eq_some_iff.mp h
    obtain ⟨b2, e2⟩ := List.getElem?_eq_some_iff.mp h2
    have : l = i := (List.getElem_inj w'.nd).mp (e1.trans e2.symm)
    rw [← w.len] at hl
    omega
  · exact w'.dis a (List.mem_of_getElem? h) (by rw [e.res]; exact z)
theorem freeze_ok {d : D} {Q : VK} (w : Wld K rho st H) (h : OkR K cls W sg rho H (freeze st d st') (VQ K Q)) : OkR K cls W sg rho H (.ok d st') (VQ K Q) := by
  intro rho' H' e w' v rv
  unfold freeze at h
  split at h
  · exact h rho' H' e w' v rv
  · split at h
    · rename_i hs
      have wb := w.back e w' hs
      split at h
      · rename_i l
        split at h
        · rename_i hl
          exact h rho H' e.back wb v (rv.narrow e.narrow (by simp only [below, decide_eq_true_eq]; rw [w.len]; exact hl))
        · rename_i hl
          split at h
          · rename_i ds hd
            split at h
            · rename_i hb
              obtain ⟨a, vs, rfl, ha, h1, h2⟩ := ref_lst w' rv hd
              exact h rho H' e.back wb _ (.lst h1 (out_of_old w e w' ha hl) (h2.narrow e.narrow (by rw [w.len]; exact hb)))
            · exact h rho' H' e w' v rv
          · rename_i ds hd
            split at h
            · rename_i hb
              obtain ⟨a, vs, rfl, ha, h1, h2⟩ := ref_dic w' rv hd
              exact h rho H' e.back wb _ (.dic h1 (out_of_old w e w' ha hl) (h2.narrow e.narrow (by rw [w.len]; exact hb)))
            · exact h rho' H' e w' v rv
          · exact h rho' H' e w' v rv
      · split at h
        · rename_i hb
          exact h rho H' e.back wb v (rv.narrow e.narrow (by rw [w.len]; exact hb))
        · exact h rho' H' e w' v rv
    · exact h rho' H' e w' v rv
theorem cut_ok {d : D} {Q : VK} (hd : below 0 d = true) (w : Wld K rho st H) (h : OkR K cls W sg rho H (.ok d (cutSt st st')) (VQ K Q)) (hn : ∀ rho' H' v, RelD K rho' H' d v → RelD K rho H' d v) : OkR K cls W sg rho H (.ok d st') (VQ K Q) := by
  intro rho' H' e w' v rv
  unfold cutSt at h
  split at h
  · exact h rho' H' e w' v rv
  split at h
  · rename_i hs
    exact h rho H' e.back (w.back e w' hs) v (hn rho' H' v rv)
  · exact h rho' H' e w' v rv
theorem cut_exc {c : Nat} {P : D → Sto → Rho → Hp → Prop} (w : Wld K rho st H) (h : OkR K cls W sg rho H (.exc c (cutSt st st')) P) : OkR K cls W sg rho H (.exc c st') P := by
  intro rho' H' e w'
  unfold cutSt at h
  split at h
  · exact h rho' H' e w'
  split at h
  · rename_i hs
    exact h rho H' e.back (w.back e w' hs)
  · exact h rho' H' e w'
theorem relDs_map_start {N : List Str} {ds : List D} {vs : List V} (r : RelDs K rho H ds vs) : RelEnv K rho H (startD N.length ds) (L2.start N vs) := by
  have hl := r.length
  refine ⟨by simp [startD, L2.start, hl], fun i d h => ?_⟩
  unfold startD at h
  by_cases hi : i < ds.length
  · rw [List.getElem?_append_left (by simpa using hi), List.getElem?_map] at h
    obtain ⟨d', hd', e⟩ := Option.map_eq_some_iff.mp h
    cases e
    obtain ⟨v, hv, rv⟩ := r.get hd'
    refine ⟨v, ?_, rv⟩
    unfold L2.start
    rw [List.getElem?_append_left (by simpa [hl] using hi), List.getElem?_map, hv]
    rfl
  · rw [List.getElem?_append_right (by simpa using hi), List.getElem?_replicate] at h
    split at h <;> cases h
end

/-! ### a def -/
structure ModF (P : Program) (w : World) (K : PySem.W.Frag) (mg : Str → Option Value) (base : Heap) (cls : Nat → Value) (c : CC) (Ph : Nat → List D → Sto → R D) (k : Nat) : Prop where
  blt : ∀ x ∈ c.blt, mg x = none
  fns : ∀ (i : Nat) (x : Str), c.fns[i]? = some x → FOk P w K mg base cls k x (Ph i)
  gl : ∀ (x : Str) (d : D), c.gl.lookup x = some d → GOk K mg x d
  kd : ∀ (x : Str) (t : List (Str × D)), c.kd.lookup x = some t → KOk K w mg x t
  xcs : ∀ (i : Nat) (x : Str), c.xcs[i]? = some x → XOk K mg (cls i) x
  sub : c.xcs ≠ [] → ∀ a b, PySem.W.exmOne K (cls a) (cls b) = some (c.sub a b)
  ocl : ∀ (x : Str) (p : List Str × List (Str × Nat)), c.ocl.lookup x = some p → COk P w K mg base cls k x p.1 p.2 Ph
/-- the context of a def -/
def CC.at (c : CC) (N : List Str) (sc : Scope) : CC := { c with N := N, sc := sc, dfn := true, cok := fun _ => true }
theorem def_ok {P : Program} {w : World} {K : PySem.W.Frag} {mg : Str → Option Value} {base : Heap} {cls : Nat → Value} {c : CC} {Ph : Nat → List D → Sto → R D} {k n : Nat} {x qn : Str} {s : Stmt} {f : Addr} {fd : FuncData} {N ps : List Str} {d : DefR}
    (M : ModF P w K mg base cls c Ph k) (F : Fun K x qn s f fd) (S : FnScope N ps (defScope s)) (ha : d.arity = ps.length) (hs : d.slots = N.length) (hb : ofSs Ph n (c.at N (defScope s)) (defBody s) = some (d.body Ph)) :
    FnOk P w K mg base (L2.CX P w) (k + 2) f fd ps (spF K cls (runDef d Ph)) := by
  refine F.okX S (fun vs H Q E h => ?_) (fun cdv A outer s0 H vs Q E hr h => ?_)
  · obtain ⟨rho, st, ds, w0, r, h⟩ := h
    unfold runDef at h
    split at h
    · rename_i hl
      rw [← r.length, hl, ha]
    · exact h.elim
  · obtain ⟨rho, st, ds, w0, r, h⟩ := h
    have G : Good (cxOf (L2.CX P w) P w K mg base N qn (defScope s) f cdv A outer s0 H E) cls (fun cl d _ H => E cl d H) (c.at N (defScope s)) Ph k :=
      { calm := rfl, nd := S.nd, hN := rfl, sc := rfl, cok := fun _ _ => rfl, room := hr, own := passes_of rfl, tk := takes_of rfl rfl rfl rfl, stk := fun _ => ⟨rfl, rfl⟩,
        blt := M.blt, fns := M.fns, gl := M.gl, kd := M.kd, xcs := M.xcs, sub := M.sub, ocl := M.ocl }
    refine ⟨_, (sndS_all n).ss G hb, rho, startD N.length ds, st, w0, relDs_map_start r, ?_⟩
    unfold runDef at h
    split at h
    · rw [hs] at h
      cases q : d.body Ph (startD N.length ds) st with
      | rt v st' =>
        rw [q] at h
        have h' : OkR K cls (fun cl d _ H => E cl d H) [] rho H (.ok v st') (VQ K Q) := by
          simp only at h
          split at h
          · exact freeze_ok w0 h
          · exact h
        exact fun v rho' H' e w' rv => h' rho' H' e w' v rv
      | nx env st' =>
        rw [q] at h
        have h' : OkR K cls (fun cl d _ H => E cl d H) [] rho H (.ok .non st') (VQ K Q) := by
          simp only at h
          split at h
          · exact cut_ok rfl w0 h fun rho' H' v rv => by cases rv; exact .non
          · exact h
        exact fun sg rho' H' e w' re => h' rho' H' e w' .non .non
      | exc cl env st' =>
        rw [q] at h
        have h' : OkR K cls (fun cl d _ H => E cl d H) [] rho H (.exc cl st') (VQ K Q) := by
          simp only at h
          split at h
          · exact cut_exc w0 h
          · exact h
        exact fun sg rho' H' e w' re => h' rho' H' e w'
      | bk env st' => rw [q] at h; exact h.elim
      | ct env st' => rw [q] at h; exact h.elim
      | stuck => rw [q] at h; exact h.elim
    · exact h.elim
/-- a def of the text as it stands behind the top -/
structure DefOk (K : PySem.W.Frag) (mg : Str → Option Value) (c : CC) (x : Str) (d : DefR) : Prop where
  ex : ∃ (s : Stmt) (f : Addr) (fd : FuncData) (N ps : List Str) (n : Nat), mg x = some (.ref f) ∧ Fun K x x s f fd ∧ Binds K fd ps [] ∧ FnScope N ps (defScope s) ∧ d.arity = ps.length ∧ d.slots = N.length ∧ ∀ Ph, ofSs Ph n (c.at N (defScope s)) (defBody s) = some (d.body Ph)
/-- a method of a class as it stands behind the top -/
structure MthOk (K : PySem.W.Frag) (C : Addr) (c : CC) (m : Str) (d : DefR) : Prop where
  ex : ∃ (qn : Str) (s : Stmt) (f : Addr) (fd : FuncData) (N ps : List Str) (n : Nat), Meth K C m f ∧ Fun K m qn s f fd ∧ Binds K fd ps [] ∧ FnScope N ps (defScope s) ∧ d.arity = ps.length ∧ d.slots = N.length ∧ ∀ Ph, ofSs Ph n (c.at N (defScope s)) (defBody s) = some (d.body Ph)
/-- a class as it stands behind the top -/
def ClOk (K : PySem.W.Frag) (mg : Str → Option Value) (c : CC) (tbl : List DefR) (x : Str) (fl : List Str) (ms : List (Str × Nat)) : Prop := ∃ C, PySem.W.nsIn K mainGlobals x = some (some (.ref C)) ∧ mg x = some (.ref C) ∧ Cls K C ∧ (∀ f ∈ fl, NoAttr K C f) ∧
  (∀ (m : Str) (i : Nat), ms.lookup m = some i → ∃ d, tbl[i]? = some d ∧ MthOk K C c m d) ∧ PySem.W.makesIn K C = true ∧ PySem.W.keepIn K (.ref C) = true
theorem phi_ok {P : Program} {w : World} {K : PySem.W.Frag} {mg : Str → Option Value} {base : Heap} {cls : Nat → Value} {c : CC} {tbl : List DefR}
    (blt : ∀ x ∈ c.blt, mg x = none) (gl : ∀ (x : Str) (d : D), c.gl.lookup x = some d → GOk K mg x d) (kd : ∀ (x : Str) (t : List (Str × D)), c.kd.lookup x = some t → KOk K w mg x t) (xcs : ∀ (i : Nat) (x : Str), c.xcs[i]? = some x → XOk K mg (cls i) x) (sub : c.xcs ≠ [] → ∀ a b, PySem.W.exmOne K (cls a) (cls b) = some (c.sub a b))
    (ocl : ∀ (x : Str) (p : List Str × List (Str × Nat)), c.ocl.lookup x = some p → ClOk K mg c tbl x p.1 p.2)
    (defs : ∀ (i : Nat) (x : Str), c.fns[i]? = some x → ∃ d, tbl[i]? = some d ∧ DefOk K mg c x d) : ∀ (n : Nat), ModF P w K mg base cls c (Phi tbl n) (2 * n)
  | 0 => ⟨blt, fun i x hx => by
      obtain ⟨d, hd, ⟨s, f, fd, N, ps, m, h1, h2, h3, _⟩⟩ := defs i x hx
      exact ⟨f, fd, ps, h1, h2.kp, h3, ⟨fun vs H Q E ⟨_, _, _, _, _, h⟩ => h.elim, fun _ _ _ _ _ _ _ _ _ _ _ _ _ ⟨_, _, _, _, _, h⟩ => h.elim⟩⟩, gl, kd, xcs, sub, fun x p hx => by
      obtain ⟨C, h1, h2, h3, h4, h5, h6⟩ := ocl x p hx
      refine ⟨C, h1, h2, h3, h4, fun m i hm => ?_, h6⟩
      obtain ⟨d, hd, ⟨qn, s, f, fd, N, ps, m, g1, g2, g3, _⟩⟩ := h5 m i hm
      exact ⟨f, fd, ps, g1, g3, ⟨fun vs H Q E ⟨_, _, _, _, _, h⟩ => h.elim, fun _ _ _ _ _ _ _ _ _ _ _ _ _ ⟨_, _, _, _, _, h⟩ => h.elim⟩⟩⟩
  | n + 1 => by
    have M := phi_ok (P := P) (w := w) (base := base) (cls := cls) blt gl kd xcs sub ocl defs n
    have step : ∀ {i : Nat} {d : DefR}, tbl[i]? = some d → Phi tbl (n + 1) i = runDef d (Phi tbl n) := fun {i d} hd => by
      funext ds st
      show (match tbl[i]? with | some d => runDef d (Phi tbl n) ds st | none => .stuck) = _
      rw [hd]
    refine ⟨blt, fun i x hx => ?_, gl, kd, xcs, sub, fun x p hx => ?_⟩
    · obtain ⟨d, hd, ⟨s, f, fd, N, ps, m, h1, h2, h3, h4, h5, h6, h7⟩⟩ := defs i x hx
      refine ⟨f, fd, ps, h1, h2.kp, h3, ?_⟩
      rw [step hd]
      exact def_ok M h2 h4 h5 h6 (h7 (Phi tbl n))
    · obtain ⟨C, h1, h2, h3, h4, h5, h6⟩ := ocl x p hx
      refine ⟨C, h1, h2, h3, h4, fun m i hm => ?_, h6⟩
      obtain ⟨d, hd, ⟨qn, s, f, fd, N, ps, k, g1, g2, g3, g4, g5, g6, g7⟩⟩ := h5 m i hm
      refine ⟨f, fd, ps, g1, g3, ?_⟩
      rw [step hd]
      exact def_ok M g2 g4 g5 g6 (g7 (Phi tbl n))
/-- a dict of the top, row by row: key, hash, its token, value, its reading -/
structure KRow where
  key : Str
  hash : Int
  tok : Tok
  val : Value
  d : D
def KRow.ent (r : KRow) : DictEntry := ⟨r.hash, .str r.key r.tok, r.val⟩
theorem keysLit_rows {P : Params} : ∀ {rows : List KRow}, (∀ r ∈ rows, r.hash = PyData.keyHash P r.key) → PySem.W.KeysLit P (rows.map KRow.ent)
  | [], _ => trivial
  | r :: rows, h => ⟨⟨r.key, r.tok, rfl, h r (by simp)⟩, keysLit_rows fun z hz => h z (by simp [hz])⟩
theorem find_rows (z : Str) : ∀ rows : List KRow, ((rows.map fun r => (r.key, r.d)).lookup z = none ∧ (rows.map KRow.ent).find? (·.key.isStr z) = none) ∨
    ∃ r ∈ rows, (rows.map fun r => (r.key, r.d)).lookup z = some r.d ∧ (rows.map KRow.ent).find? (·.key.isStr z) = some r.ent
  | [] => .inl ⟨rfl, rfl⟩
  | r :: rows => by
    by_cases e : r.key = z
    · refine .inr ⟨r, by simp, ?_, ?_⟩
      · simp [List.lookup_cons, e]
      · simp [List.find?_cons, KRow.ent, Value.isStr, e]
    · have e1 : (z == r.key) = false := by
        cases q : z == r.key with
        | false => rfl
        | true => exact absurd (eq_of_beq q).symm e
      have e2 : (r.key == z) = false := by
        cases q : r.key == z with
        | false => rfl
        | true => exact absurd (eq_of_beq q) e
      rcases find_rows z rows with ⟨h1, h2⟩ | ⟨r', hr, h1, h2⟩
      · refine .inl ⟨?_, ?_⟩
        · simp only [List.map_cons, List.lookup_cons, e1]; exact h1
        · simp only [List.map_cons, List.find?_cons, KRow.ent, Value.isStr, e2]; exact h2
      · refine .inr ⟨r', by simp [hr], ?_, ?_⟩
        · simp only [List.map_cons, List.lookup_cons, e1]; exact h1
        · simp only [List.map_cons, List.find?_cons, KRow.ent, Value.isStr, e2]; exact h2
theorem noRef_rows : ∀ rows : List KRow, (rows.map KRow.ent).any (·.refKey) = false
  | [] => rfl
  | r :: rows => by simp only [List.map_cons, List.any_cons, noRef_rows rows]; rfl
theorem kok_mk {K : PySem.W.Frag} {w : World} {mg : Str → Option Value} {x : Str} {d : Addr} {n : Nat} (rows : List KRow) {tab : List (Str × D)} (ht : tab = rows.map fun r => (r.key, r.d)) (hm : mg x = some (.ref d)) (hl : K.lookup d = some ⟨.type "dict", none, .dict (rows.map KRow.ent).toArray n, #[]⟩)
    (hh : ∀ r ∈ rows, r.hash = PyData.keyHash w.params r.key) (low : (d == sysModules) = false) (hv : ∀ r ∈ rows, ∃ v, RelV v r.val ∧ ∀ rho H, RelD K rho H r.d v) : KOk K w mg x tab := by
  subst ht
  refine ⟨d, _, n, hm, ⟨hl, by simpa using keysLit_rows hh, low⟩, fun z => ?_⟩
  unfold PySem.W.nsIn
  rw [hl]
  rcases find_rows z rows with ⟨h1, h2⟩ | ⟨r, hr, h1, h2⟩
  · refine .inl ⟨h1, ?_⟩
    simp only [h2, noRef_rows]
    rfl
  · obtain ⟨v, rv, rd⟩ := hv r hr
    refine .inr ⟨r.d, r.val, v, h1, ?_, rv, rd⟩
    simp only [h2]
    rfl
theorem sizeLine_ge' {n : Nat} (h : n ≤ 1000) : n ≤ sizeLine := by rw [sizeLine_eq]; omega
/-- a tuple of the top -/
theorem ktup_mk {K : PySem.W.Frag} {a : Addr} {od : Option Addr} {its : Array Value} {n : Nat} {sl : Array (Option Value)} {vs : List V} {ds : List D} (hl : K.lookup a = some ⟨.type "tuple", od, .seq its n, sl⟩) (hs : its.size ≤ 1000) (hv : Vals vs its.toList) (hd : ∀ rho H, RelDs K rho H ds vs) : ∀ rho H, RelD K rho H (.tup ds) (.ref a) :=
  fun rho H => .tup (.inr ⟨_, its, n, hl, rfl, rfl, sizeLine_ge' hs, hv⟩) (hd rho H)
theorem exm_mk {K : PySem.W.Frag} {A B : Addr} {r : Bool} (h1 : PySem.W.subIn K (.ref B) (.type "BaseException") = some true) (h2 : PySem.W.isClsIn K B = true) (h3 : PySem.W.typeIn K (.ref B) = some (.type "type")) (h4 : PySem.W.subIn K (.ref A) (.ref B) = some r) :
    PySem.W.exmOne K (.ref A) (.ref B) = some r := by
  unfold PySem.W.exmOne PySem.W.kitCls
  rw [h1, if_pos (by decide)]
  unfold PySem.W.isClsIn at h2
  simp only [h2, h3, Bool.true_and]
  rw [if_pos (by decide)]
  exact h4
/-- the law's own head -/
theorem law_sp {K : PySem.W.Frag} {cls : Nat → Value} {f : List D → Sto → R D} {H : Hp} {a : Addr} {ns : List Int} (hO : Only H) (hS : SqL K H a (ns.map V.int)) (h : ∃ st, f [.fz (ns.map .int)] [] = .ok (.bl true) st) : spF K cls f [.ref a] H (fun v _ => v = .bl true) fun _ _ _ => False := by
  obtain ⟨st, h⟩ := h
  have hz : FzL K H a (ns.map V.int) := by
    rcases hS with (hS | hS) | hS
    · rcases hO a with z | ⟨o, xs, z⟩
      · rw [hS] at z; cases z
      · rw [hS] at z; cases z
    · exact .inl hS
    · exact .inr hS
  refine ⟨⟨[], []⟩, [], [.fz (ns.map .int)], ⟨rfl, List.nodup_nil, fun l a o h => by simp at h, fun a ha => (by cases ha), fun b hb => (by cases hb)⟩, .cons (.fz hz (rel_ints ns)) .nil, ?_⟩
  rw [h]
  intro rho' H' e w v rv
  cases rv
  rfl
/-- from the law's reading to the walk that the head leaves -/
theorem walk_ofX {l : PySem.W.OpenLaw} {n k : Nat} {q : Program} {loose : List Str} {XP : (Str → Option Value) → Heap → Prop} {YP : World → Heap → Prop} {d : DefRec} {K : Params → PySem.W.Frag} {f : List D → Sto → R D} {x : Str}
    (hn : l.most = some n) (hn2 : n ≤ sizeLine) (hdf : d.params.defaults = []) (hr : Room k callerA)
    (hY : ∀ (w : World) (h : Heap), YP w h → (K w.params).In h)
    (F : ∀ (w : World) (mg : Str → Option Value) (fa : Addr) (h : Heap), (K w.params).In h → h.Ns mainGlobals mg → mg d.name = some (.ref fa) →
      ∃ (cls : Nat → Value) (fd : FuncData), (∀ (s : Shared) (u : Value), BindsTo s fd ⟨[u], []⟩ [(x, u)]) ∧
        ∀ base : Heap, (K w.params).In base → base.Ns mainGlobals mg → FnOk l.prog w (K w.params) mg base (L2.CX l.prog w) k fa fd [x] (spF (K w.params) cls f))
    (hf : ∀ ns : List Int, ns.length ≤ n → ∃ st, f [.fz (ns.map .int)] [] = .ok (.bl true) st) :
    PySem.W.WalkO q loose XP YP l.row.toRowW d [] (fun f vs => PySem.call f vs) := by
  refine Att.attach_call hn hdf fun w s₀ s₁ mg mb fa o pm cd doc a vs ns G Y ho hd hcd hmg hobj hints hlen hg => ?_
  have KX := hY w _ Y
  obtain ⟨cls, fd, hb, hF⟩ := F w mg fa _ KX G.T.g hmg
  exact law_call KX G.T.g G.T.b G.T.builtins G.T.nolimit hg hobj hints (Nat.le_trans hlen hn2) hr hF hb (fun H hO hS => law_sp hO hS (hf ns hlen)) fun H e s' h => by
    obtain ⟨_, _, _, _, _, _, _, _, _, _, _, _, h⟩ := h
    exact h
end MI
/-! MiP: how readings are run in plain Lean; the draws. -/
namespace MI
open PySem PySem.Spec PyProof.Rows L2 MX
def onB (x : D) (t f : R D) : R D := match x with
  | .bl true => t
  | .bl false => f
  | _ => .stuck
@[simp] theorem onB_bl (b : Bool) (t f : R D) : onB (.bl b) t f = if b = true then t else f := by cases b <;> rfl
def onT (r : R Bool) (t f : Sto → SR) (env : DEnv) : SR := match r with
  | .ok true st => t st
  | .ok false st => f st
  | .exc x st => .exc x env st
  | .stuck => .stuck
@[simp] theorem onT_ok (b : Bool) (st : Sto) (t f : Sto → SR) (env : DEnv) : onT (.ok b st) t f env = if b = true then t st else f st := by cases b <;> rfl
@[simp] theorem onT_exc (c : Nat) (st : Sto) (t f : Sto → SR) (env : DEnv) : onT (.exc c st) t f env = .exc c env st := rfl
def onTR {α : Type} (r : R Bool) (t f : Sto → R α) : R α := match r with
  | .ok true st => t st
  | .ok false st => f st
  | _ => .stuck
@[simp] theorem onTR_ok {α : Type} (b : Bool) (st : Sto) (t f : Sto → R α) : onTR (.ok b st) t f = if b = true then t st else f st := by cases b <;> rfl
section
variable {env : DEnv} {st : Sto}
@[simp] theorem sSeq_app (a b : MS) : sSeq a b env st = (a env st).then b := rfl
@[simp] theorem then_nx (f : DEnv → Sto → SR) : (SR.nx env st).then f = f env st := rfl
@[simp] theorem then_rt (d : D) (f : DEnv → Sto → SR) : (SR.rt d st).then f = .rt d st := rfl
@[simp] theorem then_bk (f : DEnv → Sto → SR) : (SR.bk env st).then f = .bk env st := rfl
@[simp] theorem then_ct (f : DEnv → Sto → SR) : (SR.ct env st).then f = .ct env st := rfl
@[simp] theorem then_exc (c : Nat) (f : DEnv → Sto → SR) : (SR.exc c env st).then f = .exc c env st := rfl
@[simp] theorem then_stuck (f : DEnv → Sto → SR) : (SR.stuck).then f = .stuck := rfl
@[simp] theorem sSkip_app : sSkip env st = .nx env st := rfl
@[simp] theorem sAsg_app (e : ME) (g : MG) : sAsg e g env st = (match e env st with | .ok d st => (match g d env with | some env => SR.nx env st | none => .stuck) | .exc c st => .exc c env st | .stuck => .stuck) := rfl
@[simp] theorem sExpr_app (e : ME) : sExpr e env st = (match e env st with | .ok _ st => SR.nx env st | .exc c st => .exc c env st | .stuck => .stuck) := rfl
@[simp] theorem sRet_app (e : ME) : sRet e env st = (match e env st with | .ok d st => SR.rt d st | .exc c st => .exc c env st | .stuck => .stuck) := rfl
@[simp] theorem sIf_app (c : ME) (a b : MS) : sIf c a b env st = onT (mT c env st) (a env) (b env) env := rfl
theorem sWhile_succ (c : ME) (b : MS) (n : Nat) : sWhile c b (n + 1) env st = onT (mT c env st) (fun st => (match b env st with
      | .nx env st => sWhile c b n env st
      | .ct env st => sWhile c b n env st
      | .bk env st => .nx env st
      | .rt d st => .rt d st
      | .exc x env st => .exc x env st
      | .stuck => .stuck)) (fun st => .nx env st) env := rfl
@[simp] theorem sFor_app (it : MIt) (g : MG) (b : MS) : sFor it g b env st = (match it env st with | .ok s st => forGo s g b s.items env st | .exc c st => .exc c env st | .stuck => .stuck) := rfl
@[simp] theorem sRaise_app (c : Nat) : sRaise c env st = .exc c env st := rfl
@[simp] theorem gVar_app (i : Nat) (d : D) : gVar i d env = some (env.set i (some d)) := rfl
@[simp] theorem gTupV_app (is : List Nat) (ds : List D) : gTupV is (.tup ds) env = gVars is ds env := rfl
@[simp] theorem gVars_nil : gVars [] [] env = some env := rfl
@[simp] theorem gVars_cons (i : Nat) (is : List Nat) (d : D) (ds : List D) : gVars (i :: is) (d :: ds) env = gVars is ds (env.set i (some d)) := rfl
@[simp] theorem mVar_app (i : Nat) : mVar i env st = (match env[i]? with | some (some d) => R.ok d st | _ => .stuck) := rfl
@[simp] theorem mC_app (d : D) : mC d env st = .ok d st := rfl
@[simp] theorem mBin_app (f : D → D → Sto → R D) (a b : ME) : mBin f a b env st = (a env st).bind fun x st => (b env st).bind fun y st => f x y st := rfl
@[simp] theorem mNeg_app (a : ME) : mNeg a env st = (a env st).bind fun x st => (match x with | .int i => R.ok (.int (-i)) st | _ => .stuck) := rfl
@[simp] theorem mAnd_app (a b : ME) : mAnd a b env st = (a env st).bind fun x st => onB x (b env st) (.ok (.bl false) st) := rfl
@[simp] theorem mOr_app (a b : ME) : mOr a b env st = (a env st).bind fun x st => onB x (.ok (.bl true) st) (b env st) := rfl
@[simp] theorem mNot_app (a : ME) : mNot a env st = (a env st).bind fun x st => (match x with | .bl b => R.ok (.bl (!b)) st | _ => .stuck) := rfl
@[simp] theorem mT_app (a : ME) : mT a env st = (a env st).bind fun x st => (match truth st x with | some b => R.ok b st | none => .stuck) := rfl
@[simp] theorem truth_bl (b : Bool) : truth st (.bl b) = some b := rfl
@[simp] theorem mIfE_app (c a b : ME) : mIfE c a b env st = (mT c env st).bind fun k st => if k = true then a env st else b env st := rfl
@[simp] theorem mArgs_nil : mArgs [] env st = .ok [] st := rfl
@[simp] theorem mArgs_cons (e : ME) (es : List ME) : mArgs (e :: es) env st = (e env st).bind fun d st => (mArgs es env st).bind fun ds st => .ok (d :: ds) st := rfl
@[simp] theorem mTup_app (es : List ME) : mTup es env st = (mArgs es env st).bind fun ds st => if ds.length ≤ sizeLine then .ok (.tup ds) st else .stuck := rfl
@[simp] theorem mLst_app (es : List ME) : mLst es env st = (mArgs es env st).bind fun ds st => if ds.length ≤ sizeLine then .ok (.lst ds) st else .stuck := rfl
@[simp] theorem mNew_app (es : List ME) : mNew es env st = (mArgs es env st).bind fun ds st => if ds.length ≤ sizeLine then .ok (.ref st.length) (st ++ [.lst ds]) else .stuck := rfl
@[simp] theorem mNewD_app : mNewD env st = .ok (.ref st.length) (st ++ [.dic []]) := rfl
@[simp] theorem mDic1_app (a b : ME) : mDic1 a b env st = (match (a env st).bind fun x st => (b env st).bind fun y st => (match keyOf x with | some k => R.ok (.dic [(k, y)]) st | none => .stuck) with | .ok d st => R.ok d st | _ => .stuck) := rfl
@[simp] theorem mCall_app (f : List D → Sto → R D) (es : List ME) : mCall f es env st = (mArgs es env st).bind fun ds st => f ds st := rfl
@[simp] theorem mIsI_app (T : String) (a : ME) : mIsI T a env st = (a env st).bind fun x st => isInst T x st := rfl
@[simp] theorem mOpt_none : mOpt none env st = .ok none st := rfl
@[simp] theorem mOpt_some (a : ME) : mOpt (some a) env st = (a env st).bind fun x st => (match x with | .int i => R.ok (some i) st | _ => .stuck) := rfl
@[simp] theorem mSl_app (a : ME) (lo hi : Option ME) : mSl a lo hi env st = (a env st).bind fun x st => (mOpt lo env st).bind fun i st => (mOpt hi env st).bind fun j st => opSl x i j st := rfl
@[simp] theorem mSt_app (a : ME) (lo hi k : Option ME) : mSt a lo hi k env st = (a env st).bind fun x st => (mOpt lo env st).bind fun i st => (mOpt hi env st).bind fun j st => (mOpt k env st).bind fun k st => opSt x i j k st := rfl
@[simp] theorem mMethL_app (f : D → List D → Sto → R D) (o : ME) (es : List ME) : mMethL f o es env st = (o env st).bind fun d st => if isLst st d = true then (mArgs es env st).bind fun ds st => f d ds st else .stuck := rfl
@[simp] theorem mMethS_app (f : D → List D → Sto → R D) (o : ME) (es : List ME) : mMethS f o es env st = (o env st).bind fun d st => if isStrD d = true then (mArgs es env st).bind fun ds st => f d ds st else .stuck := rfl
@[simp] theorem iSeq_app (a : ME) : iSeq a env st = (a env st).bind fun x st => (match x with
  | .ref l => (match st[l]? with | some (.lst ds) => R.ok (.live l ds) st | _ => .stuck)
  | .tup ds => .ok (.vals ds) st
  | .lst ds => .ok (.vals ds) st
  | .fz ds => .ok (.vals ds) st
  | .str z => .ok (.vals (z.cps.toList.map fun c => .str ⟨#[c]⟩)) st
  | _ => .stuck) := rfl
@[simp] theorem iRange1_app (a : ME) : iRange1 a env st = (a env st).bind fun x st => (match x with | .int j => if -(2 ^ 62) ≤ j ∧ j < 2 ^ 62 then R.ok (.vals (rangeD 0 j.toNat)) st else .stuck | _ => .stuck) := rfl
@[simp] theorem iRange2_app (a b : ME) : iRange2 a b env st = (a env st).bind fun x st => (b env st).bind fun y st => (match x, y with | .int i, .int j => if -(2 ^ 62) ≤ i ∧ i < 2 ^ 62 ∧ -(2 ^ 62) ≤ j ∧ j < 2 ^ 62 then R.ok (.vals (rangeD i (j - i).toNat)) st else .stuck | _, _ => .stuck) := rfl
@[simp] theorem iZip_app (a b : ME) : iZip a b env st = (a env st).bind fun x st => (b env st).bind fun y st => (match x, y with | .lst xs, .lst ys => R.ok (.vals (zipD xs ys)) st | .tup xs, .tup ys => .ok (.vals (zipD xs ys)) st | .lst xs, .tup ys => .ok (.vals (zipD xs ys)) st | x, y => (match lsOf st x, lsOf st y with | some p, some q => .ok (.multi (p.1 ++ q.1) (zipD p.2 q.2)) st | _, _ => .stuck)) := rfl
@[simp] theorem items_multi (ls : List (Nat × List D)) (ds : List D) : (Src.multi ls ds).items = ds := rfl
@[simp] theorem items_vals (ds : List D) : (Src.vals ds).items = ds := rfl
@[simp] theorem items_live (l : Nat) (ds : List D) : (Src.live l ds).items = ds := rfl
@[simp] theorem holds_vals (ds : List D) : (Src.vals ds).holds st = True := rfl
@[simp] theorem forGo_nil (s : Src) (g : MG) (b : MS) : forGo s g b [] env st = .nx env st := rfl
theorem forGo_cons (s : Src) (g : MG) (b : MS) (d : D) (ds : List D) : forGo s g b (d :: ds) env st = (match g d env with
    | none => SR.stuck
    | some env => match b env st with
      | .nx env st => if s.holds st then forGo s g b ds env st else .stuck
      | .ct env st => if s.holds st then forGo s g b ds env st else .stuck
      | .bk env st => .nx env st
      | .rt d st => .rt d st
      | .exc x env st => .exc x env st
      | .stuck => .stuck) := rfl
theorem mComp_app (it : MIt) (vs : List Nat) (g : MG) (c : Option ME) (e : ME) : mComp it vs g c e env st = (it env st).bind fun s st => (match compGo s g c e (wipeD env vs) s.items st with | .ok ys st => if ys.length ≤ sizeLine then R.ok (.lst ys) st else .stuck | _ => .stuck) := rfl
theorem mCompN_app (it : MIt) (vs : List Nat) (g : MG) (c : Option ME) (e : ME) : mCompN it vs g c e env st = (it env st).bind fun s st => (match compGo s g c e (wipeD env vs) s.items st with | .ok ys st => if ys.length ≤ sizeLine then R.ok (.ref st.length) (st ++ [.lst ys]) else .stuck | _ => .stuck) := rfl
@[simp] theorem compGo_nil (s : Src) (g : MG) (c : Option ME) (e : ME) : compGo s g c e env [] st = .ok [] st := rfl
theorem compGo_cons (s : Src) (g : MG) (c : Option ME) (e : ME) (d : D) (ds : List D) : compGo s g c e env (d :: ds) st = (match g d env with
    | none => R.stuck
    | some env' => onTR (match c with | none => R.ok true st | some c => mT c env' st) (fun st => (match e env' st with
        | .ok y st => if s.holds st then (match compGo s g c e env ds st with
          | .ok ys st => R.ok (y :: ys) st
          | _ => .stuck) else .stuck
        | _ => .stuck)) (fun st => if s.holds st then compGo s g c e env ds st else .stuck)) := rfl
@[simp] theorem wipeD_nil : wipeD env [] = env := rfl
@[simp] theorem wipeD_cons (v : Nat) (vs : List Nat) : wipeD env (v :: vs) = (wipeD env vs).set v none := rfl
/-! operations on what is known -/
@[simp] theorem opAdd_ii (i j : Int) : opAdd (.int i) (.int j) st = .ok (.int (i + j)) st := rfl
@[simp] theorem opAdd_ib (i : Int) (k : Bool) : opAdd (.int i) (.bl k) st = .ok (.int (i + b2i k)) st := rfl
@[simp] theorem opAdd_tt (a b : List D) : opAdd (.tup a) (.tup b) st = if a.length + b.length ≤ sizeLine then .ok (.tup (a ++ b)) st else .stuck := rfl
@[simp] theorem opAdd_ss (a b : Str) : opAdd (.str a) (.str b) st = if a.length + b.length ≤ sizeLine then .ok (.str (a ++ b)) st else .stuck := rfl
@[simp] theorem opAdd_ll (a b : List D) : opAdd (.lst a) (.lst b) st = if a.length + b.length ≤ sizeLine then .ok (.lst (a ++ b)) st else .stuck := rfl
@[simp] theorem opSub_ii (i j : Int) : opSub (.int i) (.int j) st = .ok (.int (i - j)) st := rfl
@[simp] theorem opMul_ii (i j : Int) : opMul (.int i) (.int j) st = if mulOk i j then .ok (.int (i * j)) st else .stuck := rfl
@[simp] theorem opMod_ii (i j : Int) : opMod (.int i) (.int j) st = if 0 < j then .ok (.int (i % j)) st else .stuck := rfl
@[simp] theorem opDiv_ii (i j : Int) : opDiv (.int i) (.int j) st = if CDivW i j then .ok (.int (i / j)) st else .stuck := rfl
@[simp] theorem opPow_ii (i j : Int) : opPow (.int i) (.int j) st = if CPow i j then .ok (.int (i ^ j.toNat)) st else .stuck := rfl
@[simp] theorem opLt_ii (i j : Int) : opLt (.int i) (.int j) st = .ok (.bl (decide (i < j))) st := rfl
@[simp] theorem opLe_ii (i j : Int) : opLe (.int i) (.int j) st = .ok (.bl (decide (i ≤ j))) st := rfl
@[simp] theorem opGt_ii (i j : Int) : opGt (.int i) (.int j) st = .ok (.bl (decide (j < i))) st := rfl
@[simp] theorem opGe_ii (i j : Int) : opGe (.int i) (.int j) st = .ok (.bl (decide (j ≤ i))) st := rfl
@[simp] theorem deref_non : deref st .non = .non := rfl
@[simp] theorem deref_bl (b : Bool) : deref st (.bl b) = .bl b := rfl
@[simp] theorem deref_int (i : Int) : deref st (.int i) = .int i := rfl
@[simp] theorem deref_str (x : Str) : deref st (.str x) = .str x := rfl
@[simp] theorem deref_tup (x : List D) : deref st (.tup x) = .tup x := rfl
@[simp] theorem deref_lst (x : List D) : deref st (.lst x) = .lst x := rfl
@[simp] theorem deref_fz (x : List D) : deref st (.fz x) = .fz x := rfl
@[simp] theorem deref_dic (x : List (Key × D)) : deref st (.dic x) = .dic x := rfl
theorem deref_ref_lst {l : Nat} {xs : List D} (h : st[l]? = some (.lst xs)) : deref st (.ref l) = .lst xs := by simp [deref, h]
theorem deref_ref_dic {l : Nat} {xs : List (Key × D)} (h : st[l]? = some (.dic xs)) : deref st (.ref l) = .dic xs := by simp [deref, h]
theorem mulOk_r {i j : Int} (h1 : -(2 ^ 64) < j) (h2 : j < 2 ^ 64) : mulOk i j := .inl (.inr ⟨h1, h2⟩)
theorem mulOk_l {i j : Int} (h1 : -(2 ^ 64) < i) (h2 : i < 2 ^ 64) : mulOk i j := .inl (.inl ⟨h1, h2⟩)
theorem sizeLine_ge {n : Nat} (h : n ≤ 16777216) : n ≤ sizeLine := by rw [sizeLine_eq]; exact h
end
/-! ### equality -/
theorem eqD_int (st : Sto) (i j : Int) : eqD st (.int i) (.int j) = some (decide (i = j)) := by
  simp [eqD, noRef, toPy, SeqAt.shaped, PyData.canLay0, PyData.depth, PyData.eqv]
  by_cases h : i = j <;> simp [h]
theorem eqD_bl (st : Sto) (i j : Bool) : eqD st (.bl i) (.bl j) = some (decide (i = j)) := by
  simp [eqD, noRef, toPy, SeqAt.shaped, PyData.canLay0, PyData.depth, PyData.eqv]
  cases i <;> cases j <;> rfl
@[simp] theorem opEq_ii {st : Sto} (i j : Int) : opEq (.int i) (.int j) st = .ok (.bl (decide (i = j))) st := by simp [opEq, eqD_int]
@[simp] theorem opNe_ii {st : Sto} (i j : Int) : opNe (.int i) (.int j) st = .ok (.bl (!decide (i = j))) st := by simp [opNe, eqD_int]
@[simp] theorem opEq_bb {st : Sto} (i j : Bool) : opEq (.bl i) (.bl j) st = .ok (.bl (decide (i = j))) st := by simp [opEq, eqD_bl]
/-! ### isinstance -/
def D.isI : D → Bool
  | .int _ => true
  | .bl _ => true
  | _ => false
def D.isB : D → Bool
  | .bl _ => true
  | _ => false
def D.isS : D → Bool
  | .str _ => true
  | _ => false
def D.isT : D → Bool
  | .tup _ => true
  | _ => false
def D.isL : D → Bool
  | .lst _ => true
  | _ => false
def D.isD : D → Bool
  | .dic _ => true
  | _ => false
/-- a value by itself -/
def D.pl : D → Bool
  | .ref _ => false
  | .fz _ => false
  | _ => true
@[simp] theorem pl_non  : D.pl (D.non) = true := rfl
@[simp] theorem pl_bl (b : Bool) : D.pl (D.bl b) = true := rfl
@[simp] theorem pl_int (i : Int) : D.pl (D.int i) = true := rfl
@[simp] theorem pl_str (x : Str) : D.pl (D.str x) = true := rfl
@[simp] theorem pl_tup (x : List D) : D.pl (D.tup x) = true := rfl
@[simp] theorem pl_lst (x : List D) : D.pl (D.lst x) = true := rfl
@[simp] theorem pl_dic (x : List (Key × D)) : D.pl (D.dic x) = true := rfl
@[simp] theorem pl_fz (x : List D) : D.pl (D.fz x) = false := rfl
@[simp] theorem pl_ref (l : Nat) : D.pl (D.ref l) = false := rfl
@[simp] theorem isI_non  : D.isI (D.non) = false := rfl
@[simp] theorem isI_bl (b : Bool) : D.isI (D.bl b) = true := rfl
@[simp] theorem isI_int (i : Int) : D.isI (D.int i) = true := rfl
@[simp] theorem isI_str (x : Str) : D.isI (D.str x) = false := rfl
@[simp] theorem isI_tup (x : List D) : D.isI (D.tup x) = false := rfl
@[simp] theorem isI_lst (x : List D) : D.isI (D.lst x) = false := rfl
@[simp] theorem isI_dic (x : List (Key × D)) : D.isI (D.dic x) = false := rfl
@[simp] theorem isI_fz (x : List D) : D.isI (D.fz x) = false := rfl
@[simp] theorem isI_ref (l : Nat) : D.isI (D.ref l) = false := rfl
@[simp] theorem isB_non  : D.isB (D.non) = false := rfl
@[simp] theorem isB_bl (b : Bool) : D.isB (D.bl b) = true := rfl
@[simp] theorem isB_int (i : Int) : D.isB (D.int i) = false := rfl
@[simp] theorem isB_str (x : Str) : D.isB (D.str x) = false := rfl
@[simp] theorem isB_tup (x : List D) : D.isB (D.tup x) = false := rfl
@[simp] theorem isB_lst (x : List D) : D.isB (D.lst x) = false := rfl
@[simp] theorem isB_dic (x : List (Key × D)) : D.isB (D.dic x) = false := rfl
@[simp] theorem isB_fz (x : List D) : D.isB (D.fz x) = false := rfl
@[simp] theorem isB_ref (l : Nat) : D.isB (D.ref l) = false := rfl
@[simp] theorem isS_non  : D.isS (D.non) = false := rfl
@[simp] theorem isS_bl (b : Bool) : D.isS (D.bl b) = false := rfl
@[simp] theorem isS_int (i : Int) : D.isS (D.int i) = false := rfl
@[simp] theorem isS_str (x : Str) : D.isS (D.str x) = true := rfl
@[simp] theorem isS_tup (x : List D) : D.isS (D.tup x) = false := rfl
@[simp] theorem isS_lst (x : List D) : D.isS (D.lst x) = false := rfl
@[simp] theorem isS_dic (x : List (Key × D)) : D.isS (D.dic x) = false := rfl
@[simp] theorem isS_fz (x : List D) : D.isS (D.fz x) = false := rfl
@[simp] theorem isS_ref (l : Nat) : D.isS (D.ref l) = false := rfl
@[simp] theorem isT_non  : D.isT (D.non) = false := rfl
@[simp] theorem isT_bl (b : Bool) : D.isT (D.bl b) = false := rfl
@[simp] theorem isT_int (i : Int) : D.isT (D.int i) = false := rfl
@[simp] theorem isT_str (x : Str) : D.isT (D.str x) = false := rfl
@[simp] theorem isT_tup (x : List D) : D.isT (D.tup x) = true := rfl
@[simp] theorem isT_lst (x : List D) : D.isT (D.lst x) = false := rfl
@[simp] theorem isT_dic (x : List (Key × D)) : D.isT (D.dic x) = false := rfl
@[simp] theorem isT_fz (x : List D) : D.isT (D.fz x) = false := rfl
@[simp] theorem isT_ref (l : Nat) : D.isT (D.ref l) = false := rfl
@[simp] theorem isL_non  : D.isL (D.non) = false := rfl
@[simp] theorem isL_bl (b : Bool) : D.isL (D.bl b) = false := rfl
@[simp] theorem isL_int (i : Int) : D.isL (D.int i) = false := rfl
@[simp] theorem isL_str (x : Str) : D.isL (D.str x) = false := rfl
@[simp] theorem isL_tup (x : List D) : D.isL (D.tup x) = false := rfl
@[simp] theorem isL_lst (x : List D) : D.isL (D.lst x) = true := rfl
@[simp] theorem isL_dic (x : List (Key × D)) : D.isL (D.dic x) = false := rfl
@[simp] theorem isL_fz (x : List D) : D.isL (D.fz x) = false := rfl
@[simp] theorem isL_ref (l : Nat) : D.isL (D.ref l) = false := rfl
@[simp] theorem isD_non  : D.isD (D.non) = false := rfl
@[simp] theorem isD_bl (b : Bool) : D.isD (D.bl b) = false := rfl
@[simp] theorem isD_int (i : Int) : D.isD (D.int i) = false := rfl
@[simp] theorem isD_str (x : Str) : D.isD (D.str x) = false := rfl
@[simp] theorem isD_tup (x : List D) : D.isD (D.tup x) = false := rfl
@[simp] theorem isD_lst (x : List D) : D.isD (D.lst x) = false := rfl
@[simp] theorem isD_dic (x : List (Key × D)) : D.isD (D.dic x) = true := rfl
@[simp] theorem isD_fz (x : List D) : D.isD (D.fz x) = false := rfl
@[simp] theorem isD_ref (l : Nat) : D.isD (D.ref l) = false := rfl
theorem isInst_int {st : Sto} {d : D} (h : d.pl = true) : isInst "int" d st = .ok (.bl d.isI) st := by
  cases d <;> first | (unfold isInst tyName; simp only [deref_non, deref_bl, deref_int, deref_str, deref_tup, deref_lst, deref_dic]; rfl) | exact Bool.noConfusion h
theorem isInst_bool {st : Sto} {d : D} (h : d.pl = true) : isInst "bool" d st = .ok (.bl d.isB) st := by
  cases d <;> first | (unfold isInst tyName; simp only [deref_non, deref_bl, deref_int, deref_str, deref_tup, deref_lst, deref_dic]; rfl) | exact Bool.noConfusion h
theorem isInst_str {st : Sto} {d : D} (h : d.pl = true) : isInst "str" d st = .ok (.bl d.isS) st := by
  cases d <;> first | (unfold isInst tyName; simp only [deref_non, deref_bl, deref_int, deref_str, deref_tup, deref_lst, deref_dic]; rfl) | exact Bool.noConfusion h
theorem isInst_tuple {st : Sto} {d : D} (h : d.pl = true) : isInst "tuple" d st = .ok (.bl d.isT) st := by
  cases d <;> first | (unfold isInst tyName; simp only [deref_non, deref_bl, deref_int, deref_str, deref_tup, deref_lst, deref_dic]; rfl) | exact Bool.noConfusion h
theorem isInst_list {st : Sto} {d : D} (h : d.pl = true) : isInst "list" d st = .ok (.bl d.isL) st := by
  cases d <;> first | (unfold isInst tyName; simp only [deref_non, deref_bl, deref_int, deref_str, deref_tup, deref_lst, deref_dic]; rfl) | exact Bool.noConfusion h
theorem isInst_dict {st : Sto} {d : D} (h : d.pl = true) : isInst "dict" d st = .ok (.bl d.isD) st := by
  cases d <;> first | (unfold isInst tyName; simp only [deref_non, deref_bl, deref_int, deref_str, deref_tup, deref_lst, deref_dic]; rfl) | exact Bool.noConfusion h
@[simp] theorem ii_int_non {st : Sto}  : isInst "int" (D.non) st = .ok (.bl false) st := isInst_int rfl
@[simp] theorem ii_int_bl {st : Sto} (b : Bool) : isInst "int" (D.bl b) st = .ok (.bl true) st := isInst_int rfl
@[simp] theorem ii_int_int {st : Sto} (i : Int) : isInst "int" (D.int i) st = .ok (.bl true) st := isInst_int rfl
@[simp] theorem ii_int_str {st : Sto} (x : Str) : isInst "int" (D.str x) st = .ok (.bl false) st := isInst_int rfl
@[simp] theorem ii_int_tup {st : Sto} (x : List D) : isInst "int" (D.tup x) st = .ok (.bl false) st := isInst_int rfl
@[simp] theorem ii_int_lst {st : Sto} (x : List D) : isInst "int" (D.lst x) st = .ok (.bl false) st := isInst_int rfl
@[simp] theorem ii_int_dic {st : Sto} (x : List (Key × D)) : isInst "int" (D.dic x) st = .ok (.bl false) st := isInst_int rfl
@[simp] theorem ii_bool_non {st : Sto}  : isInst "bool" (D.non) st = .ok (.bl false) st := isInst_bool rfl
@[simp] theorem ii_bool_bl {st : Sto} (b : Bool) : isInst "bool" (D.bl b) st = .ok (.bl true) st := isInst_bool rfl
@[simp] theorem ii_bool_int {st : Sto} (i : Int) : isInst "bool" (D.int i) st = .ok (.bl false) st := isInst_bool rfl
@[simp] theorem ii_bool_str {st : Sto} (x : Str) : isInst "bool" (D.str x) st = .ok (.bl false) st := isInst_bool rfl
@[simp] theorem ii_bool_tup {st : Sto} (x : List D) : isInst "bool" (D.tup x) st = .ok (.bl false) st := isInst_bool rfl
@[simp] theorem ii_bool_lst {st : Sto} (x : List D) : isInst "bool" (D.lst x) st = .ok (.bl false) st := isInst_bool rfl
@[simp] theorem ii_bool_dic {st : Sto} (x : List (Key × D)) : isInst "bool" (D.dic x) st = .ok (.bl false) st := isInst_bool rfl
@[simp] theorem ii_str_non {st : Sto}  : isInst "str" (D.non) st = .ok (.bl false) st := isInst_str rfl
@[simp] theorem ii_str_bl {st : Sto} (b : Bool) : isInst "str" (D.bl b) st = .ok (.bl false) st := isInst_str rfl
@[simp] theorem ii_str_int {st : Sto} (i : Int) : isInst "str" (D.int i) st = .ok (.bl false) st := isInst_str rfl
@[simp] theorem ii_str_str {st : Sto} (x : Str) : isInst "str" (D.str x) st = .ok (.bl true) st := isInst_str rfl
@[simp] theorem ii_str_tup {st : Sto} (x : List D) : isInst "str" (D.tup x) st = .ok (.bl false) st := isInst_str rfl
@[simp] theorem ii_str_lst {st : Sto} (x : List D) : isInst "str" (D.lst x) st = .ok (.bl false) st := isInst_str rfl
@[simp] theorem ii_str_dic {st : Sto} (x : List (Key × D)) : isInst "str" (D.dic x) st = .ok (.bl false) st := isInst_str rfl
@[simp] theorem ii_tuple_non {st : Sto}  : isInst "tuple" (D.non) st = .ok (.bl false) st := isInst_tuple rfl
@[simp] theorem ii_tuple_bl {st : Sto} (b : Bool) : isInst "tuple" (D.bl b) st = .ok (.bl false) st := isInst_tuple rfl
@[simp] theorem ii_tuple_int {st : Sto} (i : Int) : isInst "tuple" (D.int i) st = .ok (.bl false) st := isInst_tuple rfl
@[simp] theorem ii_tuple_str {st : Sto} (x : Str) : isInst "tuple" (D.str x) st = .ok (.bl false) st := isInst_tuple rfl
@[simp] theorem ii_tuple_tup {st : Sto} (x : List D) : isInst "tuple" (D.tup x) st = .ok (.bl true) st := isInst_tuple rfl
@[simp] theorem ii_tuple_lst {st : Sto} (x : List D) : isInst "tuple" (D.lst x) st = .ok (.bl false) st := isInst_tuple rfl
@[simp] theorem ii_tuple_dic {st : Sto} (x : List (Key × D)) : isInst "tuple" (D.dic x) st = .ok (.bl false) st := isInst_tuple rfl
@[simp] theorem ii_list_non {st : Sto}  : isInst "list" (D.non) st = .ok (.bl false) st := isInst_list rfl
@[simp] theorem ii_list_bl {st : Sto} (b : Bool) : isInst "list" (D.bl b) st = .ok (.bl false) st := isInst_list rfl
@[simp] theorem ii_list_int {st : Sto} (i : Int) : isInst "list" (D.int i) st = .ok (.bl false) st := isInst_list rfl
@[simp] theorem ii_list_str {st : Sto} (x : Str) : isInst "list" (D.str x) st = .ok (.bl false) st := isInst_list rfl
@[simp] theorem ii_list_tup {st : Sto} (x : List D) : isInst "list" (D.tup x) st = .ok (.bl false) st := isInst_list rfl
@[simp] theorem ii_list_lst {st : Sto} (x : List D) : isInst "list" (D.lst x) st = .ok (.bl true) st := isInst_list rfl
@[simp] theorem ii_list_dic {st : Sto} (x : List (Key × D)) : isInst "list" (D.dic x) st = .ok (.bl false) st := isInst_list rfl
@[simp] theorem ii_dict_non {st : Sto}  : isInst "dict" (D.non) st = .ok (.bl false) st := isInst_dict rfl
@[simp] theorem ii_dict_bl {st : Sto} (b : Bool) : isInst "dict" (D.bl b) st = .ok (.bl false) st := isInst_dict rfl
@[simp] theorem ii_dict_int {st : Sto} (i : Int) : isInst "dict" (D.int i) st = .ok (.bl false) st := isInst_dict rfl
@[simp] theorem ii_dict_str {st : Sto} (x : Str) : isInst "dict" (D.str x) st = .ok (.bl false) st := isInst_dict rfl
@[simp] theorem ii_dict_tup {st : Sto} (x : List D) : isInst "dict" (D.tup x) st = .ok (.bl false) st := isInst_dict rfl
@[simp] theorem ii_dict_lst {st : Sto} (x : List D) : isInst "dict" (D.lst x) st = .ok (.bl false) st := isInst_dict rfl
@[simp] theorem ii_dict_dic {st : Sto} (x : List (Key × D)) : isInst "dict" (D.dic x) st = .ok (.bl true) st := isInst_dict rfl
end MI
/-! MiQ: the draws that every law begins with. -/
namespace MI
open PySem PySem.Spec PyProof.Rows L2 MX
@[simp] theorem bind_ok {α β : Type} (a : α) (st : Sto) (f : α → Sto → R β) : (R.ok a st).bind f = f a st := rfl
@[simp] theorem bind_exc {α β : Type} (c : Nat) (st : Sto) (f : α → Sto → R β) : (R.exc c st : R α).bind f = .exc c st := rfl
@[simp] theorem bind_stuck {α β : Type} (f : α → Sto → R β) : (R.stuck : R α).bind f = .stuck := rfl
theorem phi_at {tbl : List DefR} {n i : Nat} {d : DefR} {ds : List D} {st : Sto} (h : tbl[i]? = some d) : Phi tbl (n + 1) i ds st = runDef d (Phi tbl n) ds st := by
  simp [Phi, h]
theorem freeze_same {st st' : Sto} {d : D} (h : st'.length = st.length) : freeze st d st' = .ok d st' := by simp [freeze, h]
@[simp] theorem freeze_refl {st : Sto} {d : D} : freeze st d st = .ok d st := freeze_same rfl
@[simp] theorem cutSt_refl {st : Sto} : cutSt st st = st := by simp [cutSt]
theorem runDef_rt {d : DefR} {Ph : Nat → List D → Sto → R D} {ds : List D} {st st' : Sto} {v : D} (ha : ds.length = d.arity)
    (h : d.body Ph (startD d.slots ds) st = .rt v st') (hl : st'.length = st.length) : runDef d Ph ds st = .ok v st' := by
  simp [runDef, ha, h, freeze_same hl]
theorem runDef_frz {d : DefR} {Ph : Nat → List D → Sto → R D} {ds : List D} {st st' st2 : Sto} {v v2 : D} (ha : ds.length = d.arity) (hf : d.frz = true)
    (h : d.body Ph (startD d.slots ds) st = .rt v st') (hz : freeze st v st' = .ok v2 st2) : runDef d Ph ds st = .ok v2 st2 := by
  simp [runDef, ha, h, hf, hz]
theorem runDef_raw {d : DefR} {Ph : Nat → List D → Sto → R D} {ds : List D} {st st' : Sto} {v : D} (ha : ds.length = d.arity) (hf : d.frz = false)
    (h : d.body Ph (startD d.slots ds) st = .rt v st') : runDef d Ph ds st = .ok v st' := by
  simp [runDef, ha, h, hf]
/-- a loop whose body goes on -/
theorem forGo_ind {g : MG} {b : MS} {xs : List D} (I : Nat → DEnv → Sto → Prop) (ds : List D)
    (step : ∀ (i : Nat) (d : D) (env : DEnv) (st : Sto), ds[i]? = some d → I i env st → ∃ env', g d env = some env' ∧ ∃ e2 s2, b env' st = .nx e2 s2 ∧ I (i + 1) e2 s2)
    {env : DEnv} {st : Sto} (h : I 0 env st) : ∃ e2 s2, forGo (.vals xs) g b ds env st = .nx e2 s2 ∧ I ds.length e2 s2 := by
  induction ds generalizing I env st with
  | nil => exact ⟨env, st, rfl, h⟩
  | cons d ds ih =>
    obtain ⟨env', hg, e2, s2, hb, hI⟩ := step 0 d env st rfl h
    obtain ⟨e3, s3, h3, hI3⟩ := ih (fun i => I (i + 1)) (fun i d env st hd hi => step (i + 1) d env st (by simpa using hd) hi) hI
    refine ⟨e3, s3, ?_, hI3⟩
    rw [forGo_cons]
    simp [hg, hb, h3]
/-- a loop whose body goes on or returns -/
theorem forGo_or {g : MG} {b : MS} {xs : List D} (I : Nat → DEnv → Sto → Prop) (Q : D → Sto → Prop) (ds : List D)
    (step : ∀ (i : Nat) (d : D) (env : DEnv) (st : Sto), ds[i]? = some d → I i env st → ∃ env', g d env = some env' ∧ ((∃ e2 s2, b env' st = .nx e2 s2 ∧ I (i + 1) e2 s2) ∨ (∃ v s2, b env' st = .rt v s2 ∧ Q v s2)))
    {env : DEnv} {st : Sto} (h : I 0 env st) : (∃ e2 s2, forGo (.vals xs) g b ds env st = .nx e2 s2 ∧ I ds.length e2 s2) ∨ (∃ v s2, forGo (.vals xs) g b ds env st = .rt v s2 ∧ Q v s2) := by
  induction ds generalizing I env st with
  | nil => exact .inl ⟨env, st, rfl, h⟩
  | cons d ds ih =>
    obtain ⟨env', hg, hb⟩ := step 0 d env st rfl h
    rcases hb with ⟨e2, s2, hb, hI⟩ | ⟨v, s2, hb, hq⟩
    · rcases ih (fun i => I (i + 1)) (fun i d env st hd hi => step (i + 1) d env st (by simpa using hd) hi) hI with ⟨e3, s3, h3, hI3⟩ | ⟨v, s3, h3, hq⟩
      · refine .inl ⟨e3, s3, ?_, hI3⟩
        rw [forGo_cons]
        simp [hg, hb, h3]
      · refine .inr ⟨v, s3, ?_, hq⟩
        rw [forGo_cons]
        simp [hg, hb, h3]
    · refine .inr ⟨v, s2, ?_, hq⟩
      rw [forGo_cons]
      simp [hg, hb]
@[simp] theorem rangeD_len (lo : Int) (n : Nat) : (rangeD lo n).length = n := by simp [rangeD]
theorem rangeD_at {lo : Int} {n i : Nat} {d : D} (h : (rangeD lo n)[i]? = some d) : i < n ∧ d = .int (lo + i) := by
  have hl := (List.getElem?_eq_some_iff.mp h).1
  rw [rangeD_len] at hl
  unfold rangeD at h
  rw [List.getElem?_map, List.getElem?_range hl] at h
  exact ⟨hl, (Option.some.inj h).symm⟩
theorem range_ok {i : Int} (h0 : 0 ≤ i) (h1 : i < 100000000) : -(2 ^ 62) ≤ i ∧ i < 2 ^ 62 := ⟨by omega, by omega⟩
theorem iRange1_int {a : ME} {env : DEnv} {st st' : Sto} {i : Int} (h : a env st = .ok (.int i) st') (h0 : 0 ≤ i) (hn : i < 100000000) : iRange1 a env st = .ok (.vals (rangeD 0 i.toNat)) st' := by
  rw [iRange1_app, h, bind_ok]
  simp only [if_pos (range_ok h0 hn)]
theorem iRange1_nat {a : ME} {env : DEnv} {st st' : Sto} {n : Nat} (h : a env st = .ok (.int n) st') (hn : n < 100000000) : iRange1 a env st = .ok (.vals (rangeD 0 n)) st' := by
  have := iRange1_int h (by omega) (by omega)
  rwa [Int.toNat_natCast] at this
/-! ### mixed -/
noncomputable def gMixed (Ph : Nat → List D → Sto → R D) : MS := (sSeq (sAsg (mBin opMod (mBin opAdd (mBin opAdd (mBin opMul (mBin opMod (mVar 0) (mC (.int 2147483647))) (mC (.int 48271))) (mBin opMul (mBin opMul (mC (.int 7919)) (mVar 1)) (mVar 1))) (mC (.int 104729))) (mC (.int 2147483647))) (gVar 2))
  (sSeq (sRet (mBin opMod (mBin opMul (mVar 2) (mVar 2)) (mC (.int 2147483629))))
  sSkip))
def mixZ (c k : Int) : Int := (c % 2147483647 * 48271 + 7919 * k * k + 104729) % 2147483647
def mixedZ (c k : Int) : Int := mixZ c k * mixZ c k % 2147483629
theorem mixedZ_ge (c k : Int) : 0 ≤ mixedZ c k := Int.emod_nonneg _ (by decide)
theorem mixedZ_lt (c k : Int) : mixedZ c k < 2147483629 := Int.emod_lt_of_pos _ (by decide)
theorem mixed_ok {Ph : Nat → List D → Sto → R D} {c k : Int} {st : Sto} (h0 : 0 ≤ k) (h1 : k < 1000) :
    runDef ⟨2, 3, true, gMixed⟩ Ph [.int c, .int k] st = .ok (.int (mixedZ c k)) st := by
  refine runDef_rt rfl ?_ rfl
  have a : mulOk (c % 2147483647) 48271 := mulOk_r (by decide) (by decide)
  have b : mulOk 7919 k := mulOk_l (by decide) (by decide)
  have d : mulOk (7919 * k) k := mulOk_r (by omega) (by omega)
  have l := Int.emod_nonneg (c % 2147483647 * 48271 + 7919 * k * k + 104729) (b := 2147483647) (by decide)
  have u := Int.emod_lt_of_pos (c % 2147483647 * 48271 + 7919 * k * k + 104729) (b := 2147483647) (by decide)
  have e : mulOk (mixZ c k) (mixZ c k) := mulOk_r (by unfold mixZ; omega) (by unfold mixZ; omega)
  unfold mixZ at e
  simp [gMixed, startD, a, b, d, e]
  rfl
/-! ### draws -/
noncomputable def gDraws (im F : Nat) (Ph : Nat → List D → Sto → R D) : MS := (sSeq (sAsg (mNew []) (gVar 1))
  (sSeq (sFor (iRange1 (mCall bMin [(mCall bLen [(mVar 0)]), (mC (.int 63))])) (gVar 2)
    (sSeq (sAsg (mCall bAbs [(mBin opIx (mVar 0) (mVar 2))]) (gVar 3))
  (sSeq (sIf (mBin opLt (mVar 3) (mBin opPow (mC (.int 10)) (mC (.int 18))))
    (sSeq (sFor (iRange1 (mC (.int 12))) (gVar 4)
    (sSeq (sExpr (mMethL mAppend (mVar 1) [(mCall (Ph im) [(mCall (Ph im) [(mVar 3), (mBin opAdd (mBin opMul (mC (.int 3)) (mVar 4)) (mC (.int 1)))]), (mBin opAdd (mBin opAdd (mVar 4) (mVar 2)) (mC (.int 2)))])]))
  sSkip))
  sSkip)
    sSkip)
  (sSeq (sWhile (mAnd (mBin opGe (mVar 3) (mBin opPow (mC (.int 10)) (mC (.int 18)))) (mBin opLt (mCall bLen [(mVar 1)]) (mC (.int 900))))
    (sSeq (sExpr (mMethL mAppend (mVar 1) [(mBin opMod (mVar 3) (mC (.int 2147483629)))]))
  (sSeq (sAsg (mBin opDiv (mVar 3) (mC (.int 2147483629))) (gVar 3))
  sSkip)) F)
  (sSeq (sIf (mBin opGe (mVar 3) (mC (.int 2147483629)))
    (sSeq (sExpr (mMethL mAppend (mVar 1) [(mBin opMod (mVar 3) (mC (.int 2147483629)))]))
  sSkip)
    sSkip)
  sSkip)))))
  (sSeq (sRet (mVar 1))
  sSkip)))
def InD (ds : List Int) : Prop := ∀ d ∈ ds, 0 ≤ d ∧ d < 2147483629
theorem InD.app {ds : List Int} {x : Int} (h : InD ds) (h0 : 0 ≤ x) (h1 : x < 2147483629) : InD (ds ++ [x]) := by
  intro d hd
  rcases List.mem_append.mp hd with hd | hd
  · exact h d hd
  · simp at hd; subst hd; exact ⟨h0, h1⟩
theorem append_at {st : Sto} {ds : List Int} {x : Int} (h : ds.length < 16777216) : mAppend (.ref st.length) [.int x] (st ++ [.lst (ds.map .int)]) = .ok .non (st ++ [.lst ((ds ++ [x]).map .int)]) := by
  have hs : ds.length < sizeLine := by rw [sizeLine_eq]; exact h
  simp [mAppend, hs]
theorem isLst_at {st : Sto} {ds : List D} : isLst (st ++ [.lst ds]) (.ref st.length) = true := by simp [isLst, deref]
theorem len_at {st : Sto} {ds : List D} : bLen [.ref st.length] (st ++ [.lst ds]) = .ok (.int ds.length) (st ++ [.lst ds]) := by
  simp [bLen, lenD, deref]
theorem atN {α : Type} {xs : List α} {n : Nat} {x : α} (h : xs[n]? = some x) : atI xs (n : Int) = some x := by
  have hl := (List.getElem?_eq_some_iff.mp h).1
  have : ixN xs.length (n : Int) = some n := by
    unfold ixN
    rw [if_pos (by omega), if_pos (by omega)]
    rfl
  simp [atI, this, h]
theorem atI_int {α : Type} {xs : List α} {i : Int} (h0 : 0 ≤ i) (h1 : i < xs.length) : ∃ x, atI xs i = some x ∧ xs[i.toNat]? = some x := by
  obtain ⟨n, rfl⟩ := Int.eq_ofNat_of_zero_le h0
  have hl : n < xs.length := by omega
  exact ⟨xs[n], atN (List.getElem?_eq_getElem hl), by simp [hl]⟩
@[simp] theorem bMin_app (i j : Int) (st : Sto) : bMin [.int i, .int j] st = .ok (.int (if j < i then j else i)) st := rfl
@[simp] theorem bAbs_app (i : Int) (st : Sto) : bAbs [.int i] st = .ok (.int (if i < 0 then -i else i)) st := rfl
@[simp] theorem bLen_fz (ds : List D) (st : Sto) : bLen [.fz ds] st = .ok (.int ds.length) st := rfl
@[simp] theorem bLen_tup (ds : List D) (st : Sto) : bLen [.tup ds] st = .ok (.int ds.length) st := rfl
@[simp] theorem bLen_lst (ds : List D) (st : Sto) : bLen [.lst ds] st = .ok (.int ds.length) st := rfl
theorem opIx_fz {ds : List D} {n : Nat} {d : D} {st : Sto} (h : ds[n]? = some d) : opIx (.fz ds) (.int n) st = .ok d st := by simp [opIx, atN h]
theorem draws_for {im : Nat} {Ph : Nat → List D → Sto → R D} {st : Sto} {S : D} {x k : Int} {e4 : Option D}
    (hm : ∀ (c k : Int) (st : Sto), 0 ≤ k → k < 1000 → Ph im [.int c, .int k] st = .ok (.int (mixedZ c k)) st)
    (hk0 : 0 ≤ k) (hk1 : k < 63) {ds : List Int} (hd : InD ds) (hl : ds.length < 10000) :
    ∃ a ds', InD ds' ∧ ds'.length ≤ ds.length + 12 ∧
      forGo (.vals (rangeD 0 12)) (gVar 4) (sSeq (sExpr (mMethL mAppend (mVar 1) [(mCall (Ph im) [(mCall (Ph im) [(mVar 3), (mBin opAdd (mBin opMul (mC (.int 3)) (mVar 4)) (mC (.int 1)))]), (mBin opAdd (mBin opAdd (mVar 4) (mVar 2)) (mC (.int 2)))])])) sSkip) (rangeD 0 12)
        [some S, some (.ref st.length), some (.int k), some (.int x), e4] (st ++ [.lst (ds.map .int)]) = .nx [some S, some (.ref st.length), some (.int k), some (.int x), a] (st ++ [.lst (ds'.map .int)]) := by
  obtain ⟨e2, s2, h2, a, ds', he, hs, hi, hn⟩ := forGo_ind (g := gVar 4) (b := (sSeq (sExpr (mMethL mAppend (mVar 1) [(mCall (Ph im) [(mCall (Ph im) [(mVar 3), (mBin opAdd (mBin opMul (mC (.int 3)) (mVar 4)) (mC (.int 1)))]), (mBin opAdd (mBin opAdd (mVar 4) (mVar 2)) (mC (.int 2)))])])) sSkip)) (xs := rangeD 0 12)
    (fun i env s => ∃ a ds', env = [some S, some (.ref st.length), some (.int k), some (.int x), a] ∧ s = st ++ [.lst (ds'.map .int)] ∧ InD ds' ∧ ds'.length = ds.length + i) (rangeD 0 12)
    (fun i d env s hd hi => by
      obtain ⟨hlt, rfl⟩ := rangeD_at hd
      obtain ⟨a, ds', rfl, rfl, hi, hn⟩ := hi
      refine ⟨_, rfl, _, _, ?_, some (.int (0 + i)), ds' ++ [mixedZ (mixedZ x (3 * i + 1)) (i + k + 2)], rfl, rfl, hi.app (mixedZ_ge _ _) (mixedZ_lt _ _), by simp; omega⟩
      have b : mulOk 3 (i : Int) := mulOk_l (by decide) (by decide)
      have m1 := fun st => hm x (3 * i + 1) st (by omega) (by omega)
      have m2 := fun st => hm (mixedZ x (3 * i + 1)) (i + k + 2) st (by omega) (by omega)
      have ap := append_at (st := st) (ds := ds') (x := mixedZ (mixedZ x (3 * i + 1)) (i + k + 2)) (by omega)
      simp [b, m1, m2, isLst_at, ap]) ⟨e4, ds, rfl, rfl, hd, rfl⟩
  subst he hs
  exact ⟨a, ds', hi, by simpa using Nat.le_of_eq hn, h2⟩
theorem draws_while {im : Nat} {st : Sto} {S : D} {k : Int} {e4 : Option D} : ∀ (f : Nat) {x : Int} {ds : List Int}, InD ds → 1000 ≤ f + ds.length → 0 < f → 
    ∃ y ds', InD ds' ∧ ds'.length ≤ max ds.length 900 ∧
      sWhile (mAnd (mBin opGe (mVar 3) (mBin opPow (mC (.int 10)) (mC (.int 18)))) (mBin opLt (mCall bLen [(mVar 1)]) (mC (.int 900))))
    (sSeq (sExpr (mMethL mAppend (mVar 1) [(mBin opMod (mVar 3) (mC (.int 2147483629)))]))
  (sSeq (sAsg (mBin opDiv (mVar 3) (mC (.int 2147483629))) (gVar 3))
  sSkip)) f
        [some S, some (.ref st.length), some (.int k), some (.int x), e4] (st ++ [.lst (ds.map .int)]) = .nx [some S, some (.ref st.length), some (.int k), some (.int y), e4] (st ++ [.lst (ds'.map .int)])
  | 0, _, _, _, _, h => absurd h (by decide)
  | f + 1, x, ds, hd, hf, _ => by
    have p : CPow 10 18 := by decide
    have q : CDivW x 2147483629 := by unfold CDivW; decide
    by_cases hx : (1000000000000000000 : Int) ≤ x
    · by_cases hl : ds.length < 900
      · have ap := append_at (st := st) (ds := ds) (x := x % 2147483629) (by omega)
        obtain ⟨y, ds', hi, hn, h⟩ := draws_while (im := im) (st := st) (S := S) (k := k) (e4 := e4) f (x := x / 2147483629) (ds := ds ++ [x % 2147483629]) (hd.app (Int.emod_nonneg _ (by decide)) (Int.emod_lt_of_pos _ (by decide))) (by simp; omega) (by omega)
        refine ⟨y, ds', hi, by simp at hn; omega, ?_⟩
        have hl' : (ds.length : Int) < 900 := by omega
        rw [sWhile_succ]
        simp [p, q, hx, hl', len_at, isLst_at, ap]
        simpa using h
      · refine ⟨x, ds, hd, by omega, ?_⟩
        have hl' : ¬ (ds.length : Int) < 900 := by omega
        rw [sWhile_succ]
        simp [p, q, hx, hl', len_at]
    · refine ⟨x, ds, hd, by omega, ?_⟩
      rw [sWhile_succ]
      simp [p, hx]
theorem draws_body {im F : Nat} (hF : 1000 ≤ F) {Ph : Nat → List D → Sto → R D} {st : Sto} {ns : List Int}
    (hm : ∀ (c k : Int) (st : Sto), 0 ≤ k → k < 1000 → Ph im [.int c, .int k] st = .ok (.int (mixedZ c k)) st) :
    ∃ ds, InD ds ∧ gDraws im F Ph (startD 5 [.fz (ns.map .int)]) st = .rt (.ref st.length) (st ++ [.lst (ds.map .int)]) := by
  have hb := forGo_ind (g := gVar 2) (b := (sSeq (sAsg (mCall bAbs [(mBin opIx (mVar 0) (mVar 2))]) (gVar 3))
  (sSeq (sIf (mBin opLt (mVar 3) (mBin opPow (mC (.int 10)) (mC (.int 18))))
    (sSeq (sFor (iRange1 (mC (.int 12))) (gVar 4)
    (sSeq (sExpr (mMethL mAppend (mVar 1) [(mCall (Ph im) [(mCall (Ph im) [(mVar 3), (mBin opAdd (mBin opMul (mC (.int 3)) (mVar 4)) (mC (.int 1)))]), (mBin opAdd (mBin opAdd (mVar 4) (mVar 2)) (mC (.int 2)))])]))
  sSkip))
  sSkip)
    sSkip)
  (sSeq (sWhile (mAnd (mBin opGe (mVar 3) (mBin opPow (mC (.int 10)) (mC (.int 18)))) (mBin opLt (mCall bLen [(mVar 1)]) (mC (.int 900))))
    (sSeq (sExpr (mMethL mAppend (mVar 1) [(mBin opMod (mVar 3) (mC (.int 2147483629)))]))
  (sSeq (sAsg (mBin opDiv (mVar 3) (mC (.int 2147483629))) (gVar 3))
  sSkip)) F)
  (sSeq (sIf (mBin opGe (mVar 3) (mC (.int 2147483629)))
    (sSeq (sExpr (mMethL mAppend (mVar 1) [(mBin opMod (mVar 3) (mC (.int 2147483629)))]))
  sSkip)
    sSkip)
  sSkip))))) (xs := rangeD 0 (min ns.length 63))
    (fun i env s => ∃ a b c ds', env = [some (.fz (ns.map .int)), some (.ref st.length), a, b, c] ∧ s = st ++ [.lst (ds'.map .int)] ∧ InD ds' ∧ ds'.length ≤ 901 + 20 * i) (rangeD 0 (min ns.length 63))
    (fun i d env s hd hi => by
      obtain ⟨hlt, rfl⟩ := rangeD_at hd
      obtain ⟨a, b, c, ds', rfl, rfl, hi, hn⟩ := hi
      have hin : i < ns.length := by omega
      have ix := fun st => opIx_fz (ds := ns.map .int) (n := i) (d := .int ns[i]) (st := st) (by simp [hin])
      have p : CPow 10 18 := by decide
      have last : ∀ (x : Int) (e4 : Option D) (ds1 : List Int), InD ds1 → ds1.length ≤ 913 + 20 * i → ∃ e2 s2, ((sSeq (sWhile (mAnd (mBin opGe (mVar 3) (mBin opPow (mC (.int 10)) (mC (.int 18)))) (mBin opLt (mCall bLen [(mVar 1)]) (mC (.int 900))))
    (sSeq (sExpr (mMethL mAppend (mVar 1) [(mBin opMod (mVar 3) (mC (.int 2147483629)))]))
  (sSeq (sAsg (mBin opDiv (mVar 3) (mC (.int 2147483629))) (gVar 3))
  sSkip)) F)
  (sSeq (sIf (mBin opGe (mVar 3) (mC (.int 2147483629)))
    (sSeq (sExpr (mMethL mAppend (mVar 1) [(mBin opMod (mVar 3) (mC (.int 2147483629)))]))
  sSkip)
    sSkip)
  sSkip)) [some (.fz (ns.map .int)), some (.ref st.length), some (.int (0 + i)), some (.int x), e4] (st ++ [.lst (ds1.map .int)])) = .nx e2 s2 ∧ ∃ a b c ds', e2 = [some (.fz (ns.map .int)), some (.ref st.length), a, b, c] ∧ s2 = st ++ [.lst (ds'.map .int)] ∧ InD ds' ∧ ds'.length ≤ 901 + 20 * (i + 1) := by
        intro x e4 ds1 h1 n1
        obtain ⟨y, ds2, h2, n2, e⟩ := draws_while (im := im) (st := st) (S := .fz (ns.map .int)) (k := 0 + i) (e4 := e4) F (x := x) (ds := ds1) h1 (by omega) (by omega)
        rw [sSeq_app, e, then_nx]
        by_cases hy : 2147483629 ≤ y
        · have ap := append_at (st := st) (ds := ds2) (x := y % 2147483629) (by omega)
          refine ⟨_, _, ?_, some (.int (0 + i)), some (.int y), e4, ds2 ++ [y % 2147483629], rfl, rfl, h2.app (Int.emod_nonneg _ (by decide)) (Int.emod_lt_of_pos _ (by decide)), by simp; omega⟩
          simp [hy, isLst_at, ap]
        · refine ⟨_, _, ?_, some (.int (0 + i)), some (.int y), e4, ds2, rfl, rfl, h2, by omega⟩
          simp [hy]
      refine ⟨_, rfl, ?_⟩
      by_cases hx : (if ns[i] < 0 then -ns[i] else ns[i]) < (1000000000000000000 : Int)
      · obtain ⟨a4, ds1, h1, n1, e⟩ := draws_for (st := st) (S := .fz (ns.map .int)) (x := (if ns[i] < 0 then -ns[i] else ns[i])) (k := 0 + i) (e4 := c) hm (by omega) (by omega) hi (by omega)
        obtain ⟨e2, s2, e3, h3⟩ := last (if ns[i] < 0 then -ns[i] else ns[i]) a4 ds1 h1 (by omega)
        refine ⟨e2, s2, ?_, h3⟩
        rw [← e3]
        simp only [Int.zero_add] at e ⊢
        have hx' : (if ns[i] < 0 then -ns[i] else ns[i]) < 1000000000000000000 := hx
        simp [ix, p, hx', e]
      · obtain ⟨e2, s2, e3, h3⟩ := last (if ns[i] < 0 then -ns[i] else ns[i]) c ds' hi (by omega)
        refine ⟨e2, s2, ?_, h3⟩
        rw [← e3]
        simp only [Int.zero_add]
        have hx' : ¬ (if ns[i] < 0 then -ns[i] else ns[i]) < 1000000000000000000 := hx
        simp [ix, p, hx']) ⟨none, none, none, [], rfl, rfl, fun _ h => absurd h (by simp), by simp⟩
  obtain ⟨e2, s2, h2, a, b, c, ds', rfl, rfl, hi, hn⟩ := hb
  refine ⟨ds', hi, ?_⟩
  unfold gDraws
  have hmin : (if (63 : Int) < (ns.length : Int) then (63 : Int) else (ns.length : Int)) = ((min ns.length 63 : Nat) : Int) := by split <;> omega
  have hmin' : (((min ns.length 63 : Nat) : Int)).toNat = min ns.length 63 := by simp
  have h0 : (0 : Nat) ≤ sizeLine := Nat.zero_le _
  have hit : ∀ s, iRange1 (mCall bMin [(mCall bLen [(mVar 0)]), (mC (.int 63))]) [some (.fz (ns.map .int)), some (.ref st.length), none, none, none] s = .ok (.vals (rangeD 0 (min ns.length 63))) s := by
    intro s
    refine iRange1_nat ?_ (by omega)
    simp only [mCall_app, mArgs_cons, mArgs_nil, bind_ok, mC_app, mVar_app, List.getElem?_cons_zero, bLen_fz, bMin_app, List.length_map, hmin]
  have hs : startD 5 [.fz (ns.map .int)] = [some (.fz (ns.map .int)), none, none, none, none] := rfl
  simp only [sSeq_app, sAsg_app, mNew_app, mArgs_nil, bind_ok, List.length_nil, if_pos h0, gVar_app, then_nx, sFor_app, hs, List.set_cons_succ, List.set_cons_zero, hit, items_vals]
  simp only [List.map_nil] at h2
  rw [h2]
  simp
end MI
/-! MiR: next, equality of plain data. -/
namespace MI
open PySem PySem.Spec PyProof.Rows L2 MX
/-- plain data: no ref, no dict, strings that can be laid, depth at most k -/
def Pln (k : Nat) (d : D) : Prop := noRef d = true ∧ PyData.canLay0 (toPy d) = true ∧ PyData.depth (toPy d) ≤ k
def Plns (k : Nat) (ds : List D) : Prop := noRefs ds = true ∧ PyData.canLayAll0 (toPys ds) = true ∧ PyData.depthAll (toPys ds) ≤ k
theorem Plns.nil {k : Nat} : Plns k [] := ⟨by simp [noRefs], by simp [toPys, PyData.canLayAll0], by simp [toPys, PyData.depthAll]⟩
theorem Plns.cons {k : Nat} {d : D} {ds : List D} (h : Pln k d) (t : Plns k ds) : Plns k (d :: ds) :=
  ⟨by simp [noRefs, h.1, t.1], by simp [toPys, PyData.canLayAll0, h.2.1, t.2.1], by simp only [toPys, PyData.depthAll]; exact Nat.max_le.mpr ⟨h.2.2, t.2.2⟩⟩
theorem Plns.of {k : Nat} : ∀ {ds : List D}, (∀ d ∈ ds, Pln k d) → Plns k ds
  | [], _ => .nil
  | d :: ds, h => .cons (h d (by simp)) (Plns.of fun x hx => h x (by simp [hx]))
theorem Pln.int {k : Nat} {i : Int} : Pln k (.int i) := ⟨by simp [noRef], by simp [toPy, PyData.canLay0], by simp [toPy, PyData.depth]⟩
theorem Pln.bl {k : Nat} {i : Bool} : Pln k (.bl i) := ⟨by simp [noRef], by simp [toPy, PyData.canLay0], by simp [toPy, PyData.depth]⟩
theorem Pln.non {k : Nat} : Pln k .non := ⟨by simp [noRef], by simp [toPy, PyData.canLay0], by simp [toPy, PyData.depth]⟩
theorem Pln.str {k : Nat} {x : Str} (h : PyData.canLay0 (.str x) = true) : Pln k (.str x) := ⟨by simp [noRef], by simpa [toPy] using h, by simp [toPy, PyData.depth]⟩
theorem Pln.tup {k : Nat} {ds : List D} (h : Plns k ds) : Pln (k + 1) (.tup ds) := ⟨by simp [noRef, h.1], by simp [toPy, PyData.canLay0, h.2.1], by simp [toPy, PyData.depth]; exact h.2.2⟩
theorem Pln.lst {k : Nat} {ds : List D} (h : Plns k ds) : Pln (k + 1) (.lst ds) := ⟨by simp [noRef, h.1], by simp [toPy, PyData.canLay0, h.2.1], by simp [toPy, PyData.depth]; exact h.2.2⟩
theorem Plns.ints {k : Nat} {ns : List Int} : Plns k (ns.map .int) := Plns.of fun d hd => by
  obtain ⟨i, _, rfl⟩ := List.mem_map.mp hd
  exact .int
def beqD (x y : D) : Bool := PyData.eqv (toPy x) (toPy y)
theorem Pln.shaped {k : Nat} {d : D} (h : Pln k d) (hk : k ≤ 64) : SeqAt.shaped (toPy d) = true := by
  simp [SeqAt.shaped, h.2.1]
  exact Nat.le_trans h.2.2 hk
theorem eqD_pl {st : Sto} {k j : Nat} {x y : D} (h1 : Pln k (deref st x)) (h2 : Pln j (deref st y)) (hk : k ≤ 64) (hj : j ≤ 64) : eqD st x y = some (beqD (deref st x) (deref st y)) := by
  simp [eqD, h1.1, h2.1, h1.shaped hk, h2.shaped hj, beqD]
theorem opEq_pl {st : Sto} {k j : Nat} {x y : D} (h1 : Pln k (deref st x)) (h2 : Pln j (deref st y)) (hk : k ≤ 64) (hj : j ≤ 64) : opEq x y st = .ok (.bl (beqD (deref st x) (deref st y))) st := by
  simp [opEq, eqD_pl h1 h2 hk hj]
theorem opNe_pl {st : Sto} {k j : Nat} {x y : D} (h1 : Pln k (deref st x)) (h2 : Pln j (deref st y)) (hk : k ≤ 64) (hj : j ≤ 64) : opNe x y st = .ok (.bl (!beqD (deref st x) (deref st y))) st := by
  simp [opNe, eqD_pl h1 h2 hk hj]
mutual
theorem eqv_refl : ∀ {d : PyData}, PyData.canLay0 d = true → PyData.eqv d d = true
  | .none, _ => by simp [PyData.eqv]
  | .bool _, _ => by simp [PyData.eqv]
  | .int _, _ => by simp [PyData.eqv]
  | .str _, _ => by simp [PyData.eqv]
  | .list xs, h => by simp only [PyData.eqv]; exact eqvAll_refl (by simpa [PyData.canLay0] using h)
  | .tuple xs, h => by simp only [PyData.eqv]; exact eqvAll_refl (by simpa [PyData.canLay0] using h)
  | .dict _, h => by simp [PyData.canLay0] at h
theorem eqvAll_refl : ∀ {ds : List PyData}, PyData.canLayAll0 ds = true → PyData.eqvAll ds ds = true
  | [], _ => by simp [PyData.eqvAll]
  | d :: ds, h => by
    simp [PyData.canLayAll0] at h
    simp [PyData.eqvAll, eqv_refl h.1, eqvAll_refl h.2]
end
theorem beqD_refl {k : Nat} {d : D} (h : Pln k d) : beqD d d = true := eqv_refl h.2.1
@[simp] theorem beqD_int (i j : Int) : beqD (.int i) (.int j) = decide (i = j) := by
  simp [beqD, toPy, PyData.eqv]
  by_cases h : i = j <;> simp [h]
@[simp] theorem beqD_bl (i j : Bool) : beqD (.bl i) (.bl j) = decide (i = j) := by
  cases i <;> cases j <;> rfl
@[simp] theorem beqD_str (x y : Str) : beqD (.str x) (.str y) = (x == y) := by
  simp [beqD, toPy, PyData.eqv]
theorem eqvAll_ints : ∀ (a b : List Int), PyData.eqvAll (toPys (a.map .int)) (toPys (b.map .int)) = decide (a = b)
  | [], [] => by simp [toPys, PyData.eqvAll]
  | [], _ :: _ => by simp [toPys, PyData.eqvAll]
  | _ :: _, [] => by simp [toPys, PyData.eqvAll]
  | x :: a, y :: b => by
    have := beqD_int x y
    unfold beqD at this
    simp [toPys, PyData.eqvAll, eqvAll_ints a b, this]
@[simp] theorem beqD_lst_nil (ds : List D) : beqD (.lst ds) (.lst []) = ds.isEmpty := by
  cases ds <;> simp [beqD, toPy, toPys, PyData.eqv, PyData.eqvAll]
/-! ### comprehensions that map -/
theorem compGo_map {g : MG} {e : ME} {env : DEnv} {xs : List D} {st : Sto} (F : D → D) : ∀ (ds : List D), (∀ d ∈ ds, ∃ env', g d env = some env' ∧ e env' st = .ok (F d) st) → compGo (.vals xs) g none e env ds st = .ok (ds.map F) st
  | [], _ => rfl
  | d :: ds, h => by
    obtain ⟨env', h1, h2⟩ := h d (by simp)
    have ih := compGo_map (g := g) (e := e) (env := env) (xs := xs) (st := st) F ds fun x hx => h x (by simp [hx])
    rw [compGo_cons]
    simp [h1, h2, ih]
theorem mComp_map {it : MIt} {vs : List Nat} {g : MG} {e : ME} {env : DEnv} {st st' : Sto} {ds : List D} (F : D → D) (hi : it env st = .ok (.vals ds) st')
    (h : ∀ d ∈ ds, ∃ env', g d (wipeD env vs) = some env' ∧ e env' st' = .ok (F d) st') (hl : ds.length ≤ 10000000) : mComp it vs g none e env st = .ok (.lst (ds.map F)) st' := by
  have h1 := compGo_map (xs := ds) F ds h
  have h2 : (ds.map F).length ≤ sizeLine := sizeLine_ge (by simp; omega)
  rw [mComp_app, hi, bind_ok, items_vals, h1]
  simp only [if_pos h2]
theorem bAll_map (p : D → Bool) (ds : List D) (st : Sto) : bAll [.lst (ds.map fun d => .bl (p d))] st = .ok (.bl (ds.all p)) st := by
  have : (ds.map fun d => D.bl (p d)) = (ds.map p).map .bl := by simp
  simp only [this, bAll, deref_lst, boolsOf_map]
  simp [List.all_map]
theorem bAny_map (p : D → Bool) (ds : List D) (st : Sto) : bAny [.lst (ds.map fun d => .bl (p d))] st = .ok (.bl (ds.any p)) st := by
  have : (ds.map fun d => D.bl (p d)) = (ds.map p).map .bl := by simp
  simp only [this, bAny, deref_lst, boolsOf_map]
  simp [List.any_map]
/-! ### letting go of what a def made -/
theorem freeze_cut {st pre new : Sto} {d : D} (hl : pre.length = st.length) (hp : ∀ o ∈ pre, belowO st.length o = true) (hd : below st.length d = true) (hr : ∀ l, d ≠ .ref l) : freeze st d (pre ++ new) = .ok d pre := by
  unfold freeze
  by_cases h : (pre ++ new).length = st.length
  · have : new = [] := by
      simp [hl] at h
      exact h
    subst this
    rw [if_pos h, List.append_nil]
  · rw [if_neg h, if_pos]
    · have ht : (pre ++ new).take st.length = pre := by rw [← hl]; simp
      cases d <;> first | exact absurd rfl (hr _) | (simp only [if_pos hd, ht])
    · intro i o hi ho
      rw [List.getElem?_append_left (by omega)] at ho
      exact .inr (hp o (List.mem_of_getElem? ho))
theorem law_done {d : DefR} {Ph : Nat → List D → Sto → R D} {ds : List D} {st : Sto} {b : Bool} (ha : ds.length = d.arity) (hf : d.frz = true) (h : d.body Ph (startD d.slots ds) [] = .rt (.bl b) st) :
    ∃ s, runDef d Ph ds [] = .ok (.bl b) s := by
  unfold runDef
  rw [if_pos ha, h]
  show ∃ s, (if d.frz = true then freeze [] (.bl b) st else .ok (.bl b) st) = .ok (.bl b) s
  rw [if_pos hf]
  unfold freeze
  split
  · exact ⟨_, rfl⟩
  · split
    · exact ⟨_, rfl⟩
    · exact ⟨_, rfl⟩
theorem belows_ints (n : Nat) : ∀ ns : List Int, belows n (ns.map .int) = true
  | [] => by simp [belows]
  | x :: ns => by simp [belows, below, belows_ints n ns]
/-! ### next -/
noncomputable def gNext (Ph : Nat → List D → Sto → R D) : MS := (sSeq (sIf (mBin opEq (mVar 0) (mLst []))
    (sSeq (sRet (mC (.int 0)))
  sSkip)
    sSkip)
  (sSeq (sRet (mMethL mPop (mVar 0) [(mC (.int 0))]))
  sSkip))
theorem next_ok {Ph : Nat → List D → Sto → R D} {l : Nat} {st : Sto} {ds : List Int} (hs : st[l]? = some (.lst (ds.map .int))) (hd : InD ds) :
    ∃ x ds', 0 ≤ x ∧ x < 2147483629 ∧ InD ds' ∧ runDef ⟨1, 1, true, gNext⟩ Ph [.ref l] st = .ok (.int x) (st.set l (.lst (ds'.map .int))) := by
  have hde : deref st (.ref l) = .lst (ds.map .int) := deref_ref_lst hs
  have hl : l < st.length := (List.getElem?_eq_some_iff.mp hs).1
  have heq : opEq (.ref l) (.lst []) st = .ok (.bl (ds.map D.int).isEmpty) st := by
    rw [opEq_pl (k := 64) (j := 64) (by rw [hde]; exact .lst .ints) (.lst .nil) (by omega) (by omega), hde, deref_lst, beqD_lst_nil]
  cases ds with
  | nil =>
    refine ⟨0, [], by decide, by decide, hd, ?_⟩
    have : st.set l (.lst (List.map D.int [])) = st := by
      apply List.ext_getElem? ; intro i
      by_cases h : l = i
      · subst h; rw [hs]; simp [hl]
      · simp [h]
    rw [this]
    refine runDef_rt rfl ?_ rfl
    simp [gNext, startD, heq]
  | cons x ds =>
    refine ⟨x, ds, (hd x (by simp)).1, (hd x (by simp)).2, fun d h => hd d (by simp [h]), ?_⟩
    refine runDef_rt rfl ?_ (by simp)
    have hil : isLst st (.ref l) = true := by simp [isLst, hde]
    have hpop : mPop (.ref l) [.int 0] st = .ok (.int x) (st.set l (.lst (ds.map .int))) := by
      have e : seqIndex? 0 ((ds.length : Nat) + 1) = some 0 := by
        have := seqIndex_of (k := 0) (n := ds.length + 1) (by omega) (by omega)
        simpa using this
      simp [mPop, hs, e]
    simp [gNext, startD, heq, hil, hpop]
end MI
/-! MiW: what a reading comes to, as a question asked backwards. -/
namespace MI
open PySem PySem.Spec PyProof.Rows L2 MX
def R.wq {α : Type} (r : R α) (Q : α → Sto → Prop) (X : Nat → Sto → Prop) : Prop := match r with
  | .ok a st => Q a st
  | .exc c st => X c st
  | .stuck => False
def SR.wq (r : SR) (N : DEnv → Sto → Prop) (T : D → Sto → Prop) (X : Nat → DEnv → Sto → Prop) : Prop := match r with
  | .nx env st => N env st
  | .rt d st => T d st
  | .exc c env st => X c env st
  | _ => False
abbrev nX : Nat → Sto → Prop := fun _ _ => False
abbrev nXS : Nat → DEnv → Sto → Prop := fun _ _ _ => False
section
variable {α β : Type} {Q : α → Sto → Prop} {X : Nat → Sto → Prop} {P : D → Sto → Prop} {env : DEnv} {st : Sto} {N : DEnv → Sto → Prop} {T : D → Sto → Prop} {Y : Nat → DEnv → Sto → Prop}
theorem R.wq.mono {r : R α} {Q' : α → Sto → Prop} {X' : Nat → Sto → Prop} (h : r.wq Q X) (f : ∀ a st, Q a st → Q' a st) (g : ∀ c st, X c st → X' c st) : r.wq Q' X' := by
  cases r with
  | ok a st => exact f _ _ h
  | exc c st => exact g _ _ h
  | stuck => exact h
theorem SR.wq.mono {r : SR} {N' : DEnv → Sto → Prop} {T' : D → Sto → Prop} {Y' : Nat → DEnv → Sto → Prop} (h : r.wq N T Y) (f : ∀ e st, N e st → N' e st) (g : ∀ d st, T d st → T' d st) (k : ∀ c e st, Y c e st → Y' c e st) : r.wq N' T' Y' := by
  cases r with
  | nx e st => exact f _ _ h
  | rt d st => exact g _ _ h
  | exc c e st => exact k _ _ _ h
  | bk e st => exact h
  | ct e st => exact h
  | stuck => exact h
theorem R.wq.get {r : R α} (h : r.wq Q nX) : ∃ a st, r = .ok a st ∧ Q a st := by
  cases r with
  | ok a st => exact ⟨a, st, rfl, h⟩
  | exc c st => exact h.elim
  | stuck => exact h.elim
theorem R.wq.eq {r : R α} {a : α} {s : Sto} (h : r.wq (fun b t => b = a ∧ t = s) nX) : r = .ok a s := by
  obtain ⟨b, t, e, rfl, rfl⟩ := h.get
  exact e
theorem R.wq.exq {r : R α} {c : Nat} {s : Sto} (h : r.wq (fun _ _ => False) (fun b t => b = c ∧ t = s)) : r = .exc c s := by
  cases r with
  | ok a st => exact h.elim
  | exc b t => obtain ⟨rfl, rfl⟩ := h; rfl
  | stuck => exact h.elim
theorem wq_of {r : R α} {a : α} {s : Sto} (e : r = .ok a s) (h : Q a s) : r.wq Q X := by rw [e]; exact h
theorem wq_ox {r : R α} {c : Nat} {s : Sto} (e : r = .exc c s) (h : X c s) : r.wq Q X := by rw [e]; exact h
theorem q_ok {a : α} : (R.ok a st).wq Q X ↔ Q a st := Iff.rfl
theorem q_exc {c : Nat} : (R.exc c st : R α).wq Q X ↔ X c st := Iff.rfl
theorem q_bind {r : R β} {f : β → Sto → R α} : (r.bind f).wq Q X ↔ r.wq (fun a st => (f a st).wq Q X) X := by cases r <;> rfl
/-! expressions -/
theorem q_C {d : D} : (mC d env st).wq P X ↔ P d st := Iff.rfl
theorem q_bin {f : D → D → Sto → R D} {a b : ME} : (mBin f a b env st).wq P X ↔ (a env st).wq (fun x st => (b env st).wq (fun y st => (f x y st).wq P X) X) X := by
  unfold mBin
  rw [q_bind]
  simp only [q_bind]
theorem q_neg {a : ME} : (mNeg a env st).wq P X ↔ (a env st).wq (fun x st => match x with | .int i => P (.int (-i)) st | _ => False) X := by
  unfold mNeg
  cases a env st with
  | ok x s => cases x <;> first | rfl | (rename_i k; cases k <;> rfl)
  | exc c s => rfl
  | stuck => rfl
/-- a truth is needed -/
def onBool (x : D) (t f : Prop) : Prop := match x with
  | .bl true => t
  | .bl false => f
  | _ => False
theorem on_bl {b : Bool} {t f : Prop} : onBool (.bl b) t f ↔ (b = true → t) ∧ (b = false → f) := by cases b <;> simp [onBool]
theorem q_and {a b : ME} : (mAnd a b env st).wq P X ↔ (a env st).wq (fun x st => onBool x ((b env st).wq P X) (P (.bl false) st)) X := by
  unfold mAnd
  cases a env st with
  | ok x s => cases x <;> first | rfl | (rename_i k; cases k <;> rfl)
  | exc c s => rfl
  | stuck => rfl
theorem q_or {a b : ME} : (mOr a b env st).wq P X ↔ (a env st).wq (fun x st => onBool x (P (.bl true) st) ((b env st).wq P X)) X := by
  unfold mOr
  cases a env st with
  | ok x s => cases x <;> first | rfl | (rename_i k; cases k <;> rfl)
  | exc c s => rfl
  | stuck => rfl
theorem q_not {a : ME} : (mNot a env st).wq P X ↔ (a env st).wq (fun x st => onBool x (P (.bl false) st) (P (.bl true) st)) X := by
  unfold mNot
  cases a env st with
  | ok x s => cases x <;> first | rfl | (rename_i k; cases k <;> rfl)
  | exc c s => rfl
  | stuck => rfl
def onTruth (st : Sto) (x : D) (t f : Prop) : Prop := match truth st x with
  | some true => t
  | some false => f
  | none => False
theorem ot_bl {b : Bool} {t f : Prop} : onTruth st (.bl b) t f ↔ (b = true → t) ∧ (b = false → f) := by cases b <;> simp [onTruth, truth, deref]
theorem q_ifE {c a b : ME} : (mIfE c a b env st).wq P X ↔ (c env st).wq (fun x st => onTruth st x ((a env st).wq P X) ((b env st).wq P X)) X := by
  unfold mIfE mT
  cases c env st with
  | ok x s =>
    rw [R.bind_ok]
    show _ ↔ onTruth s x _ _
    unfold onTruth
    cases truth s x with
    | none => rfl
    | some k => cases k <;> rfl
  | exc c s => rfl
  | stuck => rfl
theorem q_args0 {L : List D → Sto → Prop} : (mArgs [] env st).wq L X ↔ L [] st := Iff.rfl
theorem q_args {e : ME} {es : List ME} {L : List D → Sto → Prop} : (mArgs (e :: es) env st).wq L X ↔ (e env st).wq (fun d st => (mArgs es env st).wq (fun ds st => L (d :: ds) st) X) X := by
  rw [mArgs_cons, q_bind]
  simp only [q_bind]
  rfl
theorem args_len : ∀ {es : List ME} {env : DEnv} {st st' : Sto} {ds : List D}, mArgs es env st = .ok ds st' → ds.length = es.length
  | [], _, _, _, _, h => by cases h; rfl
  | e :: es, env, st, st', ds, h => by
    unfold mArgs at h
    cases q : e env st with
    | ok d s1 =>
      rw [q, R.bind_ok] at h
      cases q2 : mArgs es env s1 with
      | ok ds2 s2 =>
        rw [q2, R.bind_ok] at h
        cases h
        simp [args_len q2]
      | exc c s => rw [q2] at h; cases h
      | stuck => rw [q2] at h; cases h
    | exc c s => rw [q] at h; cases h
    | stuck => rw [q] at h; cases h
theorem q_tup {es : List ME} (h : es.length ≤ 16777216) : (mTup es env st).wq P X ↔ (mArgs es env st).wq (fun ds st => P (.tup ds) st) X := by
  unfold mTup
  rw [q_bind]
  cases q : mArgs es env st with
  | ok ds s => simp [R.wq, if_pos (show ds.length ≤ sizeLine by rw [args_len q]; exact sizeLine_ge h)]
  | exc c s => rfl
  | stuck => rfl
theorem q_lst {es : List ME} (h : es.length ≤ 16777216) : (mLst es env st).wq P X ↔ (mArgs es env st).wq (fun ds st => P (.lst ds) st) X := by
  unfold mLst
  rw [q_bind]
  cases q : mArgs es env st with
  | ok ds s => simp [R.wq, if_pos (show ds.length ≤ sizeLine by rw [args_len q]; exact sizeLine_ge h)]
  | exc c s => rfl
  | stuck => rfl
theorem q_new {es : List ME} (h : es.length ≤ 16777216) : (mNew es env st).wq P X ↔ (mArgs es env st).wq (fun ds st => P (.ref st.length) (st ++ [.lst ds])) X := by
  unfold mNew
  rw [q_bind]
  cases q : mArgs es env st with
  | ok ds s => simp [R.wq, if_pos (show ds.length ≤ sizeLine by rw [args_len q]; exact sizeLine_ge h)]
  | exc c s => rfl
  | stuck => rfl
theorem q_call {f : List D → Sto → R D} {es : List ME} : (mCall f es env st).wq P X ↔ (mArgs es env st).wq (fun ds st => (f ds st).wq P X) X := by
  unfold mCall
  rw [q_bind]
theorem q_isI {t : String} {a : ME} : (mIsI t a env st).wq P X ↔ (a env st).wq (fun x st => (isInst t x st).wq P X) X := by
  unfold mIsI
  rw [q_bind]
theorem q_chain {f g : D → D → Sto → R D} {a b c : ME} : (mChain f g a b c env st).wq P X ↔ (a env st).wq (fun x st => (b env st).wq (fun y st => (f x y st).wq (fun z st => onBool z ((c env st).wq (fun w st => (g y w st).wq P X) X) (P (.bl false) st)) X) X) X := by
  unfold mChain
  rw [q_bind]
  have h2 : ∀ (x : D) (s : Sto), ((b env s).bind fun y st => (f x y st).bind fun z st => match z with | .bl true => (c env st).bind fun w st => g y w st | .bl false => .ok (.bl false) st | _ => .stuck).wq P X ↔ (b env s).wq (fun y st => (f x y st).wq (fun z st => onBool z ((c env st).wq (fun w st => (g y w st).wq P X) X) (P (.bl false) st)) X) X := fun x s => by
    cases b env s with
    | ok y s2 =>
      rw [R.bind_ok]
      show _ ↔ (f x y s2).wq _ X
      cases f x y s2 with
      | ok z s3 =>
        rw [R.bind_ok]
        show _ ↔ onBool z _ _
        cases z <;> first | rfl | (rename_i k; cases k <;> first | rfl | exact q_bind)
      | exc k s3 => rfl
      | stuck => rfl
    | exc k s2 => rfl
    | stuck => rfl
  cases a env st with
  | ok x s => exact h2 x s
  | exc k s => rfl
  | stuck => rfl
theorem q_opt0 {L : Option Int → Sto → Prop} : (mOpt none env st).wq L X ↔ L none st := Iff.rfl
theorem q_opt {a : ME} {L : Option Int → Sto → Prop} : (mOpt (some a) env st).wq L X ↔ (a env st).wq (fun x st => match x with | .int i => L (some i) st | _ => False) X := by
  unfold mOpt
  cases q : a env st with
  | ok x s => cases x <;> (simp only [q]; rfl)
  | exc c s => simp only [q]; rfl
  | stuck => simp only [q]; rfl
theorem q_sl {a : ME} {lo hi : Option ME} : (mSl a lo hi env st).wq P X ↔ (a env st).wq (fun x st => (mOpt lo env st).wq (fun i st => (mOpt hi env st).wq (fun j st => (opSl x i j st).wq P X) X) X) X := by
  unfold mSl
  simp only [q_bind]
theorem q_st {a : ME} {lo hi k : Option ME} : (mSt a lo hi k env st).wq P X ↔ (a env st).wq (fun x st => (mOpt lo env st).wq (fun i st => (mOpt hi env st).wq (fun j st => (mOpt k env st).wq (fun k st => (opSt x i j k st).wq P X) X) X) X) X := by
  unfold mSt
  simp only [q_bind]
theorem q_methL {f : D → List D → Sto → R D} {o : ME} {es : List ME} : (mMethL f o es env st).wq P X ↔ (o env st).wq (fun d st => isLst st d = true ∧ (mArgs es env st).wq (fun ds st => (f d ds st).wq P X) X) X := by
  unfold mMethL
  cases o env st with
  | ok d s =>
    rw [R.bind_ok]
    show _ ↔ isLst s d = true ∧ _
    by_cases h : isLst s d = true
    · simp only [h, if_true, q_bind, true_and]
    · simp only [h, if_false]
      exact ⟨fun z => z.elim, fun z => absurd z.1 (by simp)⟩
  | exc k s => rfl
  | stuck => rfl
theorem q_methS {f : D → List D → Sto → R D} {o : ME} {es : List ME} : (mMethS f o es env st).wq P X ↔ (o env st).wq (fun d st => isStrD d = true ∧ (mArgs es env st).wq (fun ds st => (f d ds st).wq P X) X) X := by
  unfold mMethS
  cases o env st with
  | ok d s =>
    rw [R.bind_ok]
    show _ ↔ isStrD d = true ∧ _
    by_cases h : isStrD d = true
    · simp only [h, if_true, q_bind, true_and]
    · simp only [h, if_false]
      exact ⟨fun z => z.elim, fun z => absurd z.1 (by simp)⟩
  | exc k s => rfl
  | stuck => rfl
/-! operations on known values -/
theorem q_if {c : Prop} [Decidable c] {r : R α} : (if c then r else .stuck).wq Q X ↔ c ∧ r.wq Q X := by
  by_cases h : c <;> simp [h, R.wq]
theorem q_add {i j : Int} : (opAdd (.int i) (.int j) st).wq P X ↔ P (.int (i + j)) st := Iff.rfl
theorem q_addT {a b : List D} : (opAdd (.tup a) (.tup b) st).wq P X ↔ a.length + b.length ≤ sizeLine ∧ P (.tup (a ++ b)) st := by rw [opAdd_tt, q_if]; rfl
theorem q_addL {a b : List D} : (opAdd (.lst a) (.lst b) st).wq P X ↔ a.length + b.length ≤ sizeLine ∧ P (.lst (a ++ b)) st := by rw [opAdd_ll, q_if]; rfl
theorem q_addS {a b : Str} : (opAdd (.str a) (.str b) st).wq P X ↔ a.length + b.length ≤ sizeLine ∧ P (.str (a ++ b)) st := by rw [opAdd_ss, q_if]; rfl
theorem q_sub {i j : Int} : (opSub (.int i) (.int j) st).wq P X ↔ P (.int (i - j)) st := Iff.rfl
theorem q_mul {i j : Int} : (opMul (.int i) (.int j) st).wq P X ↔ mulOk i j ∧ P (.int (i * j)) st := by rw [opMul_ii, q_if]; rfl
theorem q_mod {i j : Int} : (opMod (.int i) (.int j) st).wq P X ↔ 0 < j ∧ P (.int (i % j)) st := by rw [opMod_ii, q_if]; rfl
theorem q_div {i j : Int} : (opDiv (.int i) (.int j) st).wq P X ↔ CDivW i j ∧ P (.int (i / j)) st := by rw [opDiv_ii, q_if]; rfl
theorem q_pow {i j : Int} : (opPow (.int i) (.int j) st).wq P X ↔ CPow i j ∧ P (.int (i ^ j.toNat)) st := by rw [opPow_ii, q_if]; rfl
theorem q_lt {i j : Int} : (opLt (.int i) (.int j) st).wq P X ↔ P (.bl (decide (i < j))) st := Iff.rfl
theorem q_le {i j : Int} : (opLe (.int i) (.int j) st).wq P X ↔ P (.bl (decide (i ≤ j))) st := Iff.rfl
theorem q_gt {i j : Int} : (opGt (.int i) (.int j) st).wq P X ↔ P (.bl (decide (j < i))) st := Iff.rfl
theorem q_ge {i j : Int} : (opGe (.int i) (.int j) st).wq P X ↔ P (.bl (decide (j ≤ i))) st := Iff.rfl
theorem q_eq {i j : Int} : (opEq (.int i) (.int j) st).wq P X ↔ P (.bl (decide (i = j))) st := by rw [opEq_ii]; rfl
theorem q_ne {i j : Int} : (opNe (.int i) (.int j) st).wq P X ↔ P (.bl (!decide (i = j))) st := by rw [opNe_ii]; rfl
theorem q_eqB {i j : Bool} : (opEq (.bl i) (.bl j) st).wq P X ↔ P (.bl (decide (i = j))) st := by rw [opEq_bb]; rfl
theorem q_neB {i j : Bool} : (opNe (.bl i) (.bl j) st).wq P X ↔ P (.bl (!decide (i = j))) st := by simp [opNe, eqD_bl]; rfl
theorem q_isB {i j : Bool} : (opIs (.bl i) (.bl j) st).wq P X ↔ P (.bl (decide (i = j))) st := Iff.rfl
theorem q_isNB {i j : Bool} : (opIsNot (.bl i) (.bl j) st).wq P X ↔ P (.bl (!decide (i = j))) st := Iff.rfl
theorem q_lenT {ds : List D} : (bLen [.tup ds] st).wq P X ↔ P (.int ds.length) st := Iff.rfl
theorem q_lenL {ds : List D} : (bLen [.lst ds] st).wq P X ↔ P (.int ds.length) st := Iff.rfl
theorem q_tupL {ds : List D} : (bTuple [.lst ds] st).wq P X ↔ P (.tup ds) st := Iff.rfl
theorem q_tupT {ds : List D} : (bTuple [.tup ds] st).wq P X ↔ P (.tup ds) st := Iff.rfl
theorem q_listT {ds : List D} : (bList [.tup ds] st).wq P X ↔ P (.lst ds) st := Iff.rfl
theorem q_listL {ds : List D} : (bList [.lst ds] st).wq P X ↔ P (.lst ds) st := Iff.rfl
theorem ix_at {α : Type} {ds : List α} {i : Int} {d : α} (h0 : 0 ≤ i) (h : ds[i.toNat]? = some d) : atI ds i = some d := by
  obtain ⟨n, rfl⟩ := Int.eq_ofNat_of_zero_le h0
  exact atN (by simpa using h)
theorem q_ixT {ds : List D} {i : Int} : (opIx (.tup ds) (.int i) st).wq P X ↔ ∃ d, atI ds i = some d ∧ P d st := by
  unfold opIx
  simp only [deref_tup]
  cases atI ds i <;> simp [R.wq]
theorem q_ixL {ds : List D} {i : Int} : (opIx (.lst ds) (.int i) st).wq P X ↔ ∃ d, atI ds i = some d ∧ P d st := by
  unfold opIx
  simp only [deref_lst]
  cases atI ds i <;> simp [R.wq]
theorem q_slT {ds : List D} {lo hi : Option Int} : (opSl (.tup ds) lo hi st).wq P X ↔ P (.tup (cutL ds lo hi)) st := Iff.rfl
theorem q_slL {ds : List D} {lo hi : Option Int} : (opSl (.lst ds) lo hi st).wq P X ↔ P (.lst (cutL ds lo hi)) st := Iff.rfl
theorem q_stT {ds : List D} {lo hi : Option Int} {k : Int} : (opSt (.tup ds) lo hi (some k) st).wq P X ↔ (k ≠ 0 ∧ k ≠ 1 ∧ (stepL ds lo hi k).length ≤ sizeLine) ∧ P (.tup (stepL ds lo hi k)) st := by
  unfold opSt
  rw [q_if]
  rfl
/-! statements -/
theorem q_seq {a b : MS} : (sSeq a b env st).wq N T Y ↔ (a env st).wq (fun e s => (b e s).wq N T Y) T Y := by
  unfold sSeq
  cases a env st <;> rfl
theorem q_skip : (sSkip env st).wq N T Y ↔ N env st := Iff.rfl
theorem q_asg {e : ME} {i : Nat} : (sAsg e (gVar i) env st).wq N T Y ↔ (e env st).wq (fun d s => N (env.set i (some d)) s) (fun c s => Y c env s) := by
  unfold sAsg
  cases e env st <;> rfl
theorem q_asgT {e : ME} {is : List Nat} : (sAsg e (gTupV is) env st).wq N T Y ↔ (e env st).wq (fun d s => ∃ env', gTupV is d env = some env' ∧ N env' s) (fun c s => Y c env s) := by
  unfold sAsg
  cases e env st with
  | ok d s =>
    show SR.wq (match gTupV is d env with | some env => .nx env s | none => .stuck) N T Y ↔ ∃ env', gTupV is d env = some env' ∧ N env' s
    cases gTupV is d env <;> simp [SR.wq]
  | exc c s => rfl
  | stuck => rfl
theorem q_expr {e : ME} : (sExpr e env st).wq N T Y ↔ (e env st).wq (fun _ s => N env s) (fun c s => Y c env s) := by
  unfold sExpr
  cases e env st <;> rfl
theorem q_ret {e : ME} : (sRet e env st).wq N T Y ↔ (e env st).wq T (fun c s => Y c env s) := by
  unfold sRet
  cases e env st <;> rfl
theorem q_sIf {c : ME} {a b : MS} : (sIf c a b env st).wq N T Y ↔ (c env st).wq (fun x s => onTruth s x ((a env s).wq N T Y) ((b env s).wq N T Y)) (fun k s => Y k env s) := by
  unfold sIf mT
  cases c env st with
  | ok x s =>
    rw [R.bind_ok]
    show _ ↔ onTruth s x _ _
    unfold onTruth
    cases truth s x with
    | none => rfl
    | some k => cases k <;> rfl
  | exc c s => rfl
  | stuck => rfl
theorem q_raise {c : Nat} : (sRaise c env st).wq N T Y ↔ Y c env st := Iff.rfl
theorem q_for {it : MIt} {g : MG} {b : MS} : (sFor it g b env st).wq N T Y ↔ (it env st).wq (fun s t => (forGo s g b s.items env t).wq N T Y) (fun c s => Y c env s) := by
  unfold sFor
  cases it env st <;> rfl
theorem q_set {o i e : ME} : (sSet o i e env st).wq N T Y ↔ (e env st).wq (fun d st => (o env st).wq (fun x st => (i env st).wq (fun y st => (setAt x y d st).wq (fun _ s => N env s) (fun c s => Y c env s)) (fun c s => Y c env s)) (fun c s => Y c env s)) (fun c s => Y c env s) := by
  unfold sSet
  have : ∀ r : R Unit, SR.wq (match r with | .ok _ st => .nx env st | .exc c st => .exc c env st | .stuck => .stuck) N T Y ↔ r.wq (fun _ s => N env s) (fun c s => Y c env s) := fun r => by cases r <;> rfl
  have h2 := this ((e env st).bind fun d st => (o env st).bind fun x st => (i env st).bind fun y st => setAt x y d st)
  simp only [q_bind] at h2
  exact h2
theorem q_try {sub : Nat → Nat → Bool} {b : MS} {hs : List (Nat × MS)} : (sTry sub b hs env st).wq N T Y ↔ (b env st).wq N T (fun c e s => (sTry.pick sub c e s hs).wq N T Y) := by
  unfold sTry
  cases b env st <;> rfl
theorem q_pick0 {sub : Nat → Nat → Bool} {c : Nat} : (sTry.pick sub c env st []).wq N T Y ↔ Y c env st := Iff.rfl
theorem q_pick {sub : Nat → Nat → Bool} {c h : Nat} {s : MS} {hs : List (Nat × MS)} : (sTry.pick sub c env st ((h, s) :: hs)).wq N T Y ↔ (sub c h = true → (s env st).wq N T Y) ∧ (sub c h = false → (sTry.pick sub c env st hs).wq N T Y) := by
  have e : sTry.pick sub c env st ((h, s) :: hs) = if sub c h = true then s env st else sTry.pick sub c env st hs := rfl
  rw [e]
  cases sub c h <;> simp
/-! loops -/
theorem for_wq {s : Src} {g : MG} {b : MS} (I : Nat → DEnv → Sto → Prop) : ∀ (ds : List D) {env : DEnv} {st : Sto}, I 0 env st →
    (∀ i d env st, ds[i]? = some d → I i env st → ∃ env', g d env = some env' ∧ (b env' st).wq (fun e t => s.holds t ∧ I (i + 1) e t) T Y) → (∀ env st, I ds.length env st → N env st) → (forGo s g b ds env st).wq N T Y
  | [], env, st, h0, _, fin => fin env st h0
  | d :: ds, env, st, h0, step, fin => by
    obtain ⟨env', hg, hb⟩ := step 0 d env st rfl h0
    unfold forGo
    simp only [hg]
    cases q : b env' st with
    | nx e t =>
      rw [q] at hb
      obtain ⟨h1, h2⟩ := hb
      simp only [if_pos h1]
      exact for_wq (fun i => I (i + 1)) ds h2 (fun i d env st hd hi => step (i + 1) d env st (by simpa using hd) hi) fin
    | rt v t => rw [q] at hb; exact hb
    | exc c e t => rw [q] at hb; exact hb
    | bk e t => rw [q] at hb; exact hb.elim
    | ct e t => rw [q] at hb; exact hb.elim
    | stuck => rw [q] at hb; exact hb.elim
theorem while_wq {c : ME} {b : MS} (I : Nat → DEnv → Sto → Prop)
    (step : ∀ k env st, I k env st → (c env st).wq (fun x s => onTruth s x ((b env s).wq (fun e t => ∃ k', k' < k ∧ I k' e t) T Y) (N env s)) (fun k s => Y k env s)) :
    ∀ (f k : Nat) (env : DEnv) (st : Sto), k < f → I k env st → (sWhile c b f env st).wq N T Y
  | 0, _, _, _, h, _ => absurd h (Nat.not_lt_zero _)
  | f + 1, k, env, st, h, hi => by
    have hs := step k env st hi
    rw [sWhile_succ]
    unfold mT
    cases q : c env st with
    | stuck => rw [q] at hs; exact hs.elim
    | exc x s => rw [q] at hs; exact hs
    | ok x s =>
      rw [q] at hs
      rw [R.bind_ok]
      have hs : onTruth s x _ _ := hs
      unfold onTruth at hs
      cases q2 : truth s x with
      | none => rw [q2] at hs; exact hs.elim
      | some t =>
        rw [q2] at hs
        cases t with
        | false => exact hs
        | true =>
          simp only [onT_ok, if_true]
          have hs : (b env s).wq _ T Y := hs
          cases q3 : b env s with
          | nx e t =>
            rw [q3] at hs
            obtain ⟨k', h1, h2⟩ := hs
            exact while_wq I step f k' e t (by omega) h2
          | rt v t => rw [q3] at hs; exact hs
          | exc c e t => rw [q3] at hs; exact hs
          | bk e t => rw [q3] at hs; exact hs.elim
          | ct e t => rw [q3] at hs; exact hs.elim
          | stuck => rw [q3] at hs; exact hs.elim
/-! comprehensions -/
theorem comp_wq {s : Src} {g : MG} {e : ME} {env : DEnv} (I : Nat → List D → Sto → Prop) : ∀ (ds : List D) {ys : List D} {st : Sto}, I 0 ys st →
    (∀ i d ys st, ds[i]? = some d → I i ys st → ∃ env', g d env = some env' ∧ (e env' st).wq (fun y t => s.holds t ∧ I (i + 1) (ys ++ [y]) t) nX) →
    ∃ zs t, compGo s g none e env ds st = .ok zs t ∧ I ds.length (ys ++ zs) t
  | [], ys, st, h0, _ => ⟨[], st, rfl, by simpa using h0⟩
  | d :: ds, ys, st, h0, step => by
    obtain ⟨env', hg, he⟩ := step 0 d ys st rfl h0
    obtain ⟨y, t, e1, h1, h2⟩ := he.get
    obtain ⟨zs, t2, e2, h3⟩ := comp_wq (s := s) (g := g) (e := e) (env := env) (fun i => I (i + 1)) ds h2 (fun i d ys st hd hi => step (i + 1) d ys st (by simpa using hd) hi)
    refine ⟨y :: zs, t2, ?_, by simpa using h3⟩
    rw [compGo_cons]
    simp [hg, e1, h1, e2]
theorem q_comp {it : MIt} {vs : List Nat} {g : MG} {c : Option ME} {e : ME} : (mComp it vs g c e env st).wq P X ↔ (it env st).wq (fun s t => (compGo s g c e (wipeD env vs) s.items t).wq (fun ys t => ys.length ≤ sizeLine ∧ P (.lst ys) t) nX) X := by
  unfold mComp
  cases it env st with
  | ok s t =>
    rw [R.bind_ok]
    show _ ↔ (compGo s g c e (wipeD env vs) s.items t).wq _ nX
    cases compGo s g c e (wipeD env vs) s.items t with
    | ok ys t => exact q_if
    | exc c t => rfl
    | stuck => rfl
  | exc k s => rfl
  | stuck => rfl
/-- all of a row, a test that changes nothing -/
theorem all_wp {it : MIt} {vs : List Nat} {g : MG} {e : ME} (ds : List D) (p : D → Bool) (hi : it env st = .ok (.vals ds) st) (hl : ds.length ≤ 16777216)
    (h : ∀ d ∈ ds, ∃ env', g d (wipeD env vs) = some env' ∧ e env' st = .ok (.bl (p d)) st) : mCall bAll [mComp it vs g none e] env st = .ok (.bl (ds.all p)) st := by
  have h1 := compGo_map (xs := ds) (fun d => .bl (p d)) ds h
  have h2 : (ds.map fun d => D.bl (p d)).length ≤ sizeLine := sizeLine_ge (by simpa using hl)
  have h3 : mComp it vs g none e env st = .ok (.lst (ds.map fun d => .bl (p d))) st := by
    rw [mComp_app, hi, bind_ok, items_vals, h1]
    simp only [if_pos h2]
  rw [mCall_app, mArgs_cons, h3]
  exact bAll_map p ds st
/-! defs -/
theorem def_wq {d : DefR} {Ph : Nat → List D → Sto → R D} {ds : List D} (ha : ds.length = d.arity) (hf : d.frz = true)
    (h : (d.body Ph (startD d.slots ds) st).wq (fun _ t => P .non (cutSt st t)) (fun v t => (freeze st v t).wq P X) (fun c _ t => X c (cutSt st t))) : (runDef d Ph ds st).wq P X := by
  unfold runDef
  rw [if_pos ha]
  cases q : d.body Ph (startD d.slots ds) st with
  | nx e t => rw [q] at h; simp only [hf, if_true]; exact h
  | rt v t => rw [q] at h; simp only [hf, if_true]; exact h
  | exc c e t => rw [q] at h; simp only [hf, if_true]; exact h
  | bk e t => rw [q] at h; exact h.elim
  | ct e t => rw [q] at h; exact h.elim
  | stuck => rw [q] at h; exact h.elim
theorem fz_sameq {v : D} {s : Sto} (h : s.length = st.length) : (freeze st v s).wq P X ↔ P v s := by rw [freeze_same h]; rfl
/-- a def that changes nothing -/
theorem def_pureq {d : DefR} {Ph : Nat → List D → Sto → R D} {ds : List D} {v : D} (ha : ds.length = d.arity) (hf : d.frz = true)
    (h : (d.body Ph (startD d.slots ds) st).wq (fun _ _ => False) (fun u t => u = v ∧ t = st) nXS) : runDef d Ph ds st = .ok v st := by
  refine (def_wq (P := fun u t => u = v ∧ t = st) (X := nX) ha hf (h.mono (fun _ _ z => z.elim) (fun u t z => ?_) (fun _ _ _ z => z))).eq
  obtain ⟨rfl, rfl⟩ := z
  rw [fz_sameq rfl]
  exact ⟨rfl, rfl⟩
theorem def_raiseq {d : DefR} {Ph : Nat → List D → Sto → R D} {ds : List D} {c : Nat} (ha : ds.length = d.arity) (hf : d.frz = true)
    (h : (d.body Ph (startD d.slots ds) st).wq (fun _ _ => False) (fun _ _ => False) (fun k _ t => k = c ∧ t = st)) : runDef d Ph ds st = .exc c st := by
  refine (def_wq (P := fun _ _ => False) (X := fun k t => k = c ∧ t = st) ha hf (h.mono (fun _ _ z => z.elim) (fun u t z => z.elim) (fun k _ t z => ?_))).exq
  obtain ⟨rfl, rfl⟩ := z
  exact ⟨rfl, cutSt_refl⟩
end

/-! the same, closed: so nothing is run where it is looked at -/
@[irreducible] def R.wp {α : Type} (r : R α) (Q : α → Sto → Prop) (X : Nat → Sto → Prop) : Prop := r.wq Q X
@[irreducible] def SR.wp (r : SR) (N : DEnv → Sto → Prop) (T : D → Sto → Prop) (X : Nat → DEnv → Sto → Prop) : Prop := r.wq N T X
theorem wp_eq {α : Type} {r : R α} {Q : α → Sto → Prop} {X : Nat → Sto → Prop} : r.wp Q X = r.wq Q X := by unfold R.wp; rfl
theorem swp_eq {r : SR} {N : DEnv → Sto → Prop} {T : D → Sto → Prop} {X : Nat → DEnv → Sto → Prop} : r.wp N T X = r.wq N T X := by unfold SR.wp; rfl
section
variable {α β : Type} {Q : α → Sto → Prop} {X : Nat → Sto → Prop} {P : D → Sto → Prop} {env : DEnv} {st : Sto} {N : DEnv → Sto → Prop} {T : D → Sto → Prop} {Y : Nat → DEnv → Sto → Prop}
theorem R.wp.mono {r : R α} {Q' : α → Sto → Prop} {X' : Nat → Sto → Prop} (h : r.wp Q X) (f : ∀ a st, Q a st → Q' a st) (g : ∀ c st, X c st → X' c st) : r.wp Q' X' := by
  rw [wp_eq] at h ⊢
  exact R.wq.mono h f g
theorem SR.wp.mono {r : SR} {N' : DEnv → Sto → Prop} {T' : D → Sto → Prop} {Y' : Nat → DEnv → Sto → Prop} (h : r.wp N T Y) (f : ∀ e st, N e st → N' e st) (g : ∀ d st, T d st → T' d st) (k : ∀ c e st, Y c e st → Y' c e st) : r.wp N' T' Y' := by
  rw [swp_eq] at h ⊢
  exact SR.wq.mono h f g k
theorem R.wp.get {r : R α} (h : r.wp Q nX) : ∃ a st, r = .ok a st ∧ Q a st := by
  rw [wp_eq] at h
  exact R.wq.get h
theorem R.wp.eq {r : R α} {a : α} {s : Sto} (h : r.wp (fun b t => b = a ∧ t = s) nX) : r = .ok a s := by
  rw [wp_eq] at h
  exact R.wq.eq h
theorem R.wp.exq {r : R α} {c : Nat} {s : Sto} (h : r.wp (fun _ _ => False) (fun b t => b = c ∧ t = s)) : r = .exc c s := by
  rw [wp_eq] at h
  exact R.wq.exq h
theorem SR.wp.rt {r : SR} {P : D → Prop} (h : r.wp (fun _ _ => False) (fun v _ => P v) nXS) : ∃ v st, r = .rt v st ∧ P v := by
  rw [swp_eq] at h
  cases r with
  | rt v st => exact ⟨v, st, rfl, h⟩
  | nx e st => exact h.elim
  | exc c e st => exact h.elim
  | bk e st => exact h.elim
  | ct e st => exact h.elim
  | stuck => exact h.elim
theorem wp_of {r : R α} {a : α} {s : Sto} (e : r = .ok a s) (h : Q a s) : r.wp Q X := by rw [wp_eq, e]; exact h
theorem wp_ox {r : R α} {c : Nat} {s : Sto} (e : r = .exc c s) (h : X c s) : r.wp Q X := by rw [wp_eq, e]; exact h
theorem w_ok {a : α} : (R.ok a st).wp Q X ↔ Q a st := by
  simp only [wp_eq, swp_eq]
  exact q_ok
theorem w_exc {c : Nat} : (R.exc c st : R α).wp Q X ↔ X c st := by
  simp only [wp_eq, swp_eq]
  exact q_exc
theorem w_bind {r : R β} {f : β → Sto → R α} : (r.bind f).wp Q X ↔ r.wp (fun a st => (f a st).wp Q X) X := by
  simp only [wp_eq, swp_eq]
  exact q_bind
theorem w_C {d : D} : (mC d env st).wp P X ↔ P d st := by
  simp only [wp_eq, swp_eq]
  exact q_C
theorem w_bin {f : D → D → Sto → R D} {a b : ME} : (mBin f a b env st).wp P X ↔ (a env st).wp (fun x st => (b env st).wp (fun y st => (f x y st).wp P X) X) X := by
  simp only [wp_eq, swp_eq]
  exact q_bin
theorem w_neg {a : ME} : (mNeg a env st).wp P X ↔ (a env st).wp (fun x st => match x with | .int i => P (.int (-i)) st | _ => False) X := by
  simp only [wp_eq, swp_eq]
  exact q_neg
theorem w_and {a b : ME} : (mAnd a b env st).wp P X ↔ (a env st).wp (fun x st => onBool x ((b env st).wp P X) (P (.bl false) st)) X := by
  simp only [wp_eq, swp_eq]
  exact q_and
theorem w_or {a b : ME} : (mOr a b env st).wp P X ↔ (a env st).wp (fun x st => onBool x (P (.bl true) st) ((b env st).wp P X)) X := by
  simp only [wp_eq, swp_eq]
  exact q_or
theorem w_not {a : ME} : (mNot a env st).wp P X ↔ (a env st).wp (fun x st => onBool x (P (.bl false) st) (P (.bl true) st)) X := by
  simp only [wp_eq, swp_eq]
  exact q_not
theorem w_ifE {c a b : ME} : (mIfE c a b env st).wp P X ↔ (c env st).wp (fun x st => onTruth st x ((a env st).wp P X) ((b env st).wp P X)) X := by
  simp only [wp_eq, swp_eq]
  exact q_ifE
theorem w_args0 {L : List D → Sto → Prop} : (mArgs [] env st).wp L X ↔ L [] st := by
  simp only [wp_eq, swp_eq]
  exact q_args0
theorem w_args {e : ME} {es : List ME} {L : List D → Sto → Prop} : (mArgs (e :: es) env st).wp L X ↔ (e env st).wp (fun d st => (mArgs es env st).wp (fun ds st => L (d :: ds) st) X) X := by
  simp only [wp_eq, swp_eq]
  exact q_args
theorem w_tup {es : List ME} (h : es.length ≤ 16777216) : (mTup es env st).wp P X ↔ (mArgs es env st).wp (fun ds st => P (.tup ds) st) X := by
  simp only [wp_eq, swp_eq]
  exact q_tup h
theorem w_lst {es : List ME} (h : es.length ≤ 16777216) : (mLst es env st).wp P X ↔ (mArgs es env st).wp (fun ds st => P (.lst ds) st) X := by
  simp only [wp_eq, swp_eq]
  exact q_lst h
theorem w_new {es : List ME} (h : es.length ≤ 16777216) : (mNew es env st).wp P X ↔ (mArgs es env st).wp (fun ds st => P (.ref st.length) (st ++ [.lst ds])) X := by
  simp only [wp_eq, swp_eq]
  exact q_new h
theorem w_call {f : List D → Sto → R D} {es : List ME} : (mCall f es env st).wp P X ↔ (mArgs es env st).wp (fun ds st => (f ds st).wp P X) X := by
  simp only [wp_eq, swp_eq]
  exact q_call
theorem w_isI {t : String} {a : ME} : (mIsI t a env st).wp P X ↔ (a env st).wp (fun x st => (isInst t x st).wp P X) X := by
  simp only [wp_eq, swp_eq]
  exact q_isI
theorem w_chain {f g : D → D → Sto → R D} {a b c : ME} : (mChain f g a b c env st).wp P X ↔ (a env st).wp (fun x st => (b env st).wp (fun y st => (f x y st).wp (fun z st => onBool z ((c env st).wp (fun w st => (g y w st).wp P X) X) (P (.bl false) st)) X) X) X := by
  simp only [wp_eq, swp_eq]
  exact q_chain
theorem w_opt0 {L : Option Int → Sto → Prop} : (mOpt none env st).wp L X ↔ L none st := by
  simp only [wp_eq, swp_eq]
  exact q_opt0
theorem w_opt {a : ME} {L : Option Int → Sto → Prop} : (mOpt (some a) env st).wp L X ↔ (a env st).wp (fun x st => match x with | .int i => L (some i) st | _ => False) X := by
  simp only [wp_eq, swp_eq]
  exact q_opt
theorem w_sl {a : ME} {lo hi : Option ME} : (mSl a lo hi env st).wp P X ↔ (a env st).wp (fun x st => (mOpt lo env st).wp (fun i st => (mOpt hi env st).wp (fun j st => (opSl x i j st).wp P X) X) X) X := by
  simp only [wp_eq, swp_eq]
  exact q_sl
theorem w_st {a : ME} {lo hi k : Option ME} : (mSt a lo hi k env st).wp P X ↔ (a env st).wp (fun x st => (mOpt lo env st).wp (fun i st => (mOpt hi env st).wp (fun j st => (mOpt k env st).wp (fun k st => (opSt x i j k st).wp P X) X) X) X) X := by
  simp only [wp_eq, swp_eq]
  exact q_st
theorem w_methL {f : D → List D → Sto → R D} {o : ME} {es : List ME} : (mMethL f o es env st).wp P X ↔ (o env st).wp (fun d st => isLst st d = true ∧ (mArgs es env st).wp (fun ds st => (f d ds st).wp P X) X) X := by
  simp only [wp_eq, swp_eq]
  exact q_methL
theorem w_methS {f : D → List D → Sto → R D} {o : ME} {es : List ME} : (mMethS f o es env st).wp P X ↔ (o env st).wp (fun d st => isStrD d = true ∧ (mArgs es env st).wp (fun ds st => (f d ds st).wp P X) X) X := by
  simp only [wp_eq, swp_eq]
  exact q_methS
theorem w_if {c : Prop} [Decidable c] {r : R α} : (if c then r else .stuck).wp Q X ↔ c ∧ r.wp Q X := by
  simp only [wp_eq, swp_eq]
  exact q_if
theorem w_add {i j : Int} : (opAdd (.int i) (.int j) st).wp P X ↔ P (.int (i + j)) st := by
  simp only [wp_eq, swp_eq]
  exact q_add
theorem w_addT {a b : List D} : (opAdd (.tup a) (.tup b) st).wp P X ↔ a.length + b.length ≤ sizeLine ∧ P (.tup (a ++ b)) st := by
  simp only [wp_eq, swp_eq]
  exact q_addT
theorem w_addL {a b : List D} : (opAdd (.lst a) (.lst b) st).wp P X ↔ a.length + b.length ≤ sizeLine ∧ P (.lst (a ++ b)) st := by
  simp only [wp_eq, swp_eq]
  exact q_addL
theorem w_addS {a b : Str} : (opAdd (.str a) (.str b) st).wp P X ↔ a.length + b.length ≤ sizeLine ∧ P (.str (a ++ b)) st := by
  simp only [wp_eq, swp_eq]
  exact q_addS
theorem w_sub {i j : Int} : (opSub (.int i) (.int j) st).wp P X ↔ P (.int (i - j)) st := by
  simp only [wp_eq, swp_eq]
  exact q_sub
theorem w_mul {i j : Int} : (opMul (.int i) (.int j) st).wp P X ↔ mulOk i j ∧ P (.int (i * j)) st := by
  simp only [wp_eq, swp_eq]
  exact q_mul
theorem w_mod {i j : Int} : (opMod (.int i) (.int j) st).wp P X ↔ 0 < j ∧ P (.int (i % j)) st := by
  simp only [wp_eq, swp_eq]
  exact q_mod
theorem w_div {i j : Int} : (opDiv (.int i) (.int j) st).wp P X ↔ CDivW i j ∧ P (.int (i / j)) st := by
  simp only [wp_eq, swp_eq]
  exact q_div
theorem w_pow {i j : Int} : (opPow (.int i) (.int j) st).wp P X ↔ CPow i j ∧ P (.int (i ^ j.toNat)) st := by
  simp only [wp_eq, swp_eq]
  exact q_pow
theorem w_lt {i j : Int} : (opLt (.int i) (.int j) st).wp P X ↔ P (.bl (decide (i < j))) st := by
  simp only [wp_eq, swp_eq]
  exact q_lt
theorem w_le {i j : Int} : (opLe (.int i) (.int j) st).wp P X ↔ P (.bl (decide (i ≤ j))) st := by
  simp only [wp_eq, swp_eq]
  exact q_le
theorem w_gt {i j : Int} : (opGt (.int i) (.int j) st).wp P X ↔ P (.bl (decide (j < i))) st := by
  simp only [wp_eq, swp_eq]
  exact q_gt
theorem w_ge {i j : Int} : (opGe (.int i) (.int j) st).wp P X ↔ P (.bl (decide (j ≤ i))) st := by
  simp only [wp_eq, swp_eq]
  exact q_ge
theorem w_eq {i j : Int} : (opEq (.int i) (.int j) st).wp P X ↔ P (.bl (decide (i = j))) st := by
  simp only [wp_eq, swp_eq]
  exact q_eq
theorem w_ne {i j : Int} : (opNe (.int i) (.int j) st).wp P X ↔ P (.bl (!decide (i = j))) st := by
  simp only [wp_eq, swp_eq]
  exact q_ne
theorem w_eqB {i j : Bool} : (opEq (.bl i) (.bl j) st).wp P X ↔ P (.bl (decide (i = j))) st := by
  simp only [wp_eq, swp_eq]
  exact q_eqB
theorem w_neB {i j : Bool} : (opNe (.bl i) (.bl j) st).wp P X ↔ P (.bl (!decide (i = j))) st := by
  simp only [wp_eq, swp_eq]
  exact q_neB
theorem w_isB {i j : Bool} : (opIs (.bl i) (.bl j) st).wp P X ↔ P (.bl (decide (i = j))) st := by
  simp only [wp_eq, swp_eq]
  exact q_isB
theorem w_isNB {i j : Bool} : (opIsNot (.bl i) (.bl j) st).wp P X ↔ P (.bl (!decide (i = j))) st := by
  simp only [wp_eq, swp_eq]
  exact q_isNB
theorem w_lenT {ds : List D} : (bLen [.tup ds] st).wp P X ↔ P (.int ds.length) st := by
  simp only [wp_eq, swp_eq]
  exact q_lenT
theorem w_lenL {ds : List D} : (bLen [.lst ds] st).wp P X ↔ P (.int ds.length) st := by
  simp only [wp_eq, swp_eq]
  exact q_lenL
theorem w_tupL {ds : List D} : (bTuple [.lst ds] st).wp P X ↔ P (.tup ds) st := by
  simp only [wp_eq, swp_eq]
  exact q_tupL
theorem w_tupT {ds : List D} : (bTuple [.tup ds] st).wp P X ↔ P (.tup ds) st := by
  simp only [wp_eq, swp_eq]
  exact q_tupT
theorem w_listT {ds : List D} : (bList [.tup ds] st).wp P X ↔ P (.lst ds) st := by
  simp only [wp_eq, swp_eq]
  exact q_listT
theorem w_listL {ds : List D} : (bList [.lst ds] st).wp P X ↔ P (.lst ds) st := by
  simp only [wp_eq, swp_eq]
  exact q_listL
theorem w_ixT {ds : List D} {i : Int} : (opIx (.tup ds) (.int i) st).wp P X ↔ ∃ d, atI ds i = some d ∧ P d st := by
  simp only [wp_eq, swp_eq]
  exact q_ixT
theorem w_ixL {ds : List D} {i : Int} : (opIx (.lst ds) (.int i) st).wp P X ↔ ∃ d, atI ds i = some d ∧ P d st := by
  simp only [wp_eq, swp_eq]
  exact q_ixL
theorem w_slT {ds : List D} {lo hi : Option Int} : (opSl (.tup ds) lo hi st).wp P X ↔ P (.tup (cutL ds lo hi)) st := by
  simp only [wp_eq, swp_eq]
  exact q_slT
theorem w_slL {ds : List D} {lo hi : Option Int} : (opSl (.lst ds) lo hi st).wp P X ↔ P (.lst (cutL ds lo hi)) st := by
  simp only [wp_eq, swp_eq]
  exact q_slL
theorem w_stT {ds : List D} {lo hi : Option Int} {k : Int} : (opSt (.tup ds) lo hi (some k) st).wp P X ↔ (k ≠ 0 ∧ k ≠ 1 ∧ (stepL ds lo hi k).length ≤ sizeLine) ∧ P (.tup (stepL ds lo hi k)) st := by
  simp only [wp_eq, swp_eq]
  exact q_stT
theorem w_seq {a b : MS} : (sSeq a b env st).wp N T Y ↔ (a env st).wp (fun e s => (b e s).wp N T Y) T Y := by
  simp only [wp_eq, swp_eq]
  exact q_seq
theorem w_skip : (sSkip env st).wp N T Y ↔ N env st := by
  simp only [wp_eq, swp_eq]
  exact q_skip
theorem w_asg {e : ME} {i : Nat} : (sAsg e (gVar i) env st).wp N T Y ↔ (e env st).wp (fun d s => N (env.set i (some d)) s) (fun c s => Y c env s) := by
  simp only [wp_eq, swp_eq]
  exact q_asg
theorem w_asgT {e : ME} {is : List Nat} : (sAsg e (gTupV is) env st).wp N T Y ↔ (e env st).wp (fun d s => ∃ env', gTupV is d env = some env' ∧ N env' s) (fun c s => Y c env s) := by
  simp only [wp_eq, swp_eq]
  exact q_asgT
theorem w_expr {e : ME} : (sExpr e env st).wp N T Y ↔ (e env st).wp (fun _ s => N env s) (fun c s => Y c env s) := by
  simp only [wp_eq, swp_eq]
  exact q_expr
theorem w_ret {e : ME} : (sRet e env st).wp N T Y ↔ (e env st).wp T (fun c s => Y c env s) := by
  simp only [wp_eq, swp_eq]
  exact q_ret
theorem w_sIf {c : ME} {a b : MS} : (sIf c a b env st).wp N T Y ↔ (c env st).wp (fun x s => onTruth s x ((a env s).wp N T Y) ((b env s).wp N T Y)) (fun k s => Y k env s) := by
  simp only [wp_eq, swp_eq]
  exact q_sIf
theorem w_raise {c : Nat} : (sRaise c env st).wp N T Y ↔ Y c env st := by
  simp only [wp_eq, swp_eq]
  exact q_raise
theorem w_for {it : MIt} {g : MG} {b : MS} : (sFor it g b env st).wp N T Y ↔ (it env st).wp (fun s t => (forGo s g b s.items env t).wp N T Y) (fun c s => Y c env s) := by
  simp only [wp_eq, swp_eq]
  exact q_for
theorem w_set {o i e : ME} : (sSet o i e env st).wp N T Y ↔ (e env st).wp (fun d st => (o env st).wp (fun x st => (i env st).wp (fun y st => (setAt x y d st).wp (fun _ s => N env s) (fun c s => Y c env s)) (fun c s => Y c env s)) (fun c s => Y c env s)) (fun c s => Y c env s) := by
  simp only [wp_eq, swp_eq]
  exact q_set
theorem w_try {sub : Nat → Nat → Bool} {b : MS} {hs : List (Nat × MS)} : (sTry sub b hs env st).wp N T Y ↔ (b env st).wp N T (fun c e s => (sTry.pick sub c e s hs).wp N T Y) := by
  simp only [wp_eq, swp_eq]
  exact q_try
theorem w_pick0 {sub : Nat → Nat → Bool} {c : Nat} : (sTry.pick sub c env st []).wp N T Y ↔ Y c env st := by
  simp only [wp_eq, swp_eq]
  exact q_pick0
theorem w_pick {sub : Nat → Nat → Bool} {c h : Nat} {s : MS} {hs : List (Nat × MS)} : (sTry.pick sub c env st ((h, s) :: hs)).wp N T Y ↔ (sub c h = true → (s env st).wp N T Y) ∧ (sub c h = false → (sTry.pick sub c env st hs).wp N T Y) := by
  simp only [wp_eq, swp_eq]
  exact q_pick
theorem w_comp {it : MIt} {vs : List Nat} {g : MG} {c : Option ME} {e : ME} : (mComp it vs g c e env st).wp P X ↔ (it env st).wp (fun s t => (compGo s g c e (wipeD env vs) s.items t).wp (fun ys t => ys.length ≤ sizeLine ∧ P (.lst ys) t) nX) X := by
  simp only [wp_eq, swp_eq]
  exact q_comp
theorem fz_same {v : D} {s : Sto} (h : s.length = st.length) : (freeze st v s).wp P X ↔ P v s := by
  simp only [wp_eq, swp_eq]
  exact fz_sameq h
theorem for_wp {s : Src} {g : MG} {b : MS} (I : Nat → DEnv → Sto → Prop) (ds : List D) {env : DEnv} {st : Sto} (h0 : I 0 env st)
    (step : ∀ i d env st, ds[i]? = some d → I i env st → ∃ env', g d env = some env' ∧ (b env' st).wp (fun e t => s.holds t ∧ I (i + 1) e t) T Y) (fin : ∀ env st, I ds.length env st → N env st) : (forGo s g b ds env st).wp N T Y := by
  rw [swp_eq]
  refine for_wq I ds h0 (fun i d env st a b => ?_) fin
  obtain ⟨env', h1, h2⟩ := step i d env st a b
  rw [swp_eq] at h2
  exact ⟨env', h1, h2⟩
theorem while_wp {c : ME} {b : MS} (I : Nat → DEnv → Sto → Prop)
    (step : ∀ k env st, I k env st → (c env st).wp (fun x s => onTruth s x ((b env s).wp (fun e t => ∃ k', k' < k ∧ I k' e t) T Y) (N env s)) (fun k s => Y k env s)) (f k : Nat) (env : DEnv) (st : Sto) (hk : k < f) (hi : I k env st) : (sWhile c b f env st).wp N T Y := by
  rw [swp_eq]
  refine while_wq I (fun k env st h => ?_) f k env st hk hi
  have h2 := step k env st h
  simp only [wp_eq, swp_eq] at h2
  exact h2
theorem comp_wp {s : Src} {g : MG} {e : ME} {env : DEnv} (I : Nat → List D → Sto → Prop) (ds : List D) {ys : List D} {st : Sto} (h0 : I 0 ys st)
    (step : ∀ i d ys st, ds[i]? = some d → I i ys st → ∃ env', g d env = some env' ∧ (e env' st).wp (fun y t => s.holds t ∧ I (i + 1) (ys ++ [y]) t) nX) : ∃ zs t, compGo s g none e env ds st = .ok zs t ∧ I ds.length (ys ++ zs) t := by
  refine comp_wq I ds h0 fun i d ys st a b => ?_
  obtain ⟨env', h1, h2⟩ := step i d ys st a b
  rw [wp_eq] at h2
  exact ⟨env', h1, h2⟩
theorem def_wp {d : DefR} {Ph : Nat → List D → Sto → R D} {ds : List D} (ha : ds.length = d.arity) (hf : d.frz = true)
    (h : (d.body Ph (startD d.slots ds) st).wp (fun _ t => P .non (cutSt st t)) (fun v t => (freeze st v t).wp P X) (fun c _ t => X c (cutSt st t))) : (runDef d Ph ds st).wp P X := by
  simp only [wp_eq, swp_eq] at h ⊢
  exact def_wq ha hf h
theorem def_pure {d : DefR} {Ph : Nat → List D → Sto → R D} {ds : List D} {v : D} (ha : ds.length = d.arity) (hf : d.frz = true)
    (h : (d.body Ph (startD d.slots ds) st).wp (fun _ _ => False) (fun u t => u = v ∧ t = st) nXS) : runDef d Ph ds st = .ok v st := by
  rw [swp_eq] at h
  exact def_pureq ha hf h
theorem def_raise {d : DefR} {Ph : Nat → List D → Sto → R D} {ds : List D} {c : Nat} (ha : ds.length = d.arity) (hf : d.frz = true)
    (h : (d.body Ph (startD d.slots ds) st).wp (fun _ _ => False) (fun _ _ => False) (fun k _ t => k = c ∧ t = st)) : runDef d Ph ds st = .exc c st := by
  rw [swp_eq] at h
  exact def_raiseq ha hf h
end
end MI
/-! MiU: slices, rows of ints, and other helps for plain laws. -/
namespace MI
open PySem PySem.Spec PyProof.Rows L2 MX
/-! ### slices -/
theorem cut_from {α : Type} (xs : List α) (k : Nat) : cutL xs (some (k : Int)) none = xs.drop k := by
  unfold cutL
  show (xs.drop (HT.sIx xs.length 0 (some (k : Int)))).take (xs.length - HT.sIx xs.length 0 (some (k : Int))) = _
  rw [show HT.sIx xs.length 0 (some (k : Int)) = min k xs.length from HT.sIx_nat _ _ _]
  rw [List.take_of_length_le (by rw [List.length_drop]; omega)]
  by_cases h : k ≤ xs.length
  · rw [Nat.min_eq_left h]
  · rw [Nat.min_eq_right (by omega), List.drop_length, List.drop_eq_nil_of_le (by omega)]
theorem cut_to {α : Type} (xs : List α) (k : Nat) : cutL xs none (some (k : Int)) = xs.take k := by
  unfold cutL
  show (xs.drop 0).take (HT.sIx xs.length xs.length (some (k : Int)) - 0) = _
  rw [show HT.sIx xs.length xs.length (some (k : Int)) = min k xs.length from HT.sIx_nat _ _ _, List.drop_zero, Nat.sub_zero]
  by_cases h : k ≤ xs.length
  · rw [Nat.min_eq_left h]
  · rw [Nat.min_eq_right (by omega), List.take_length, List.take_of_length_le (by omega)]
/-- every second item, the first one first -/
def alt {α : Type} : List α → List α
  | [] => []
  | [x] => [x]
  | x :: _ :: r => x :: alt r
theorem alt_eq {α : Type} : ∀ ys : List α, (List.range ((ys.length + 1) / 2)).filterMap (fun m => ys[2 * m]?) = alt ys
  | [] => by simp [alt]
  | [x] => by simp [alt, List.range_succ]
  | x :: y :: r => by
    have e : ((x :: y :: r).length + 1) / 2 = (r.length + 1) / 2 + 1 := by simp only [List.length_cons]; omega
    rw [e, List.range_succ_eq_map, List.filterMap_cons, List.filterMap_map]
    show x :: _ = _
    rw [alt, ← alt_eq r]
    congr 1
theorem step2 {α : Type} (xs : List α) (k : Nat) : stepL xs (some (k : Int)) none 2 = alt (xs.drop k) := by
  rw [← alt_eq]
  unfold stepL
  have h1 : (Builtin.Slice.sliceAdjust (some (k : Int)) none 2 xs.length) = (((min k xs.length : Nat) : Int), (xs.length : Int)) := by
    unfold Builtin.Slice.sliceAdjust
    simp only [show ¬ ((2 : Int) < 0) by decide, if_false, show ¬ ((k : Int) < 0) by omega]
    congr 1
    omega
  rw [h1]
  have h2 : Builtin.Slice.slicePlaces ((min k xs.length : Nat) : Int) (xs.length : Int) 2 = ((xs.drop k).length + 1) / 2 := by
    unfold Builtin.Slice.slicePlaces
    simp only [show ((2 : Int) > 0) by decide, if_true, List.length_drop]
    split <;> omega
  simp only [h2]
  have h3 : ∀ m : Nat, xs[(((min k xs.length : Nat) : Int) + (m : Int) * 2).toNat]? = (xs.drop k)[2 * m]? := fun m => by
    rw [List.getElem?_drop]
    by_cases h : k ≤ xs.length
    · congr 1; omega
    · rw [List.getElem?_eq_none (by omega), List.getElem?_eq_none (by omega)]
  simp only [h3]
theorem alt_len {α : Type} : ∀ xs : List α, (alt xs).length ≤ xs.length
  | [] => Nat.le_refl _
  | [x] => Nat.le_refl _
  | x :: y :: r => by simp only [alt, List.length_cons]; have := alt_len r; omega
theorem alt_map {α β : Type} (f : α → β) : ∀ xs : List α, alt (xs.map f) = (alt xs).map f
  | [] => rfl
  | [x] => rfl
  | x :: y :: r => by simp only [List.map_cons, alt, alt_map f r]
theorem atI0 {α : Type} (x : α) (r : List α) : atI (x :: r) 0 = some x := atN (n := 0) rfl
theorem atI1 {α : Type} (x y : α) (r : List α) : atI (x :: y :: r) 1 = some y := atN (n := 1) rfl
theorem atI2 {α : Type} (x y z : α) (r : List α) : atI (x :: y :: z :: r) 2 = some z := atN (n := 2) rfl
theorem small_le {n : Nat} (h : n ≤ 1000000) : n ≤ sizeLine := sizeLine_ge (by omega)
theorem divOk {i : Int} {j : Int} (h : CDivW 0 j) : CDivW i j := h
theorem divOkP {i j : Int} (h0 : 0 < j) (h1 : j < 4611686018427387904) : CDivW i j := by
  unfold CDivW
  refine ⟨h0, ?_⟩
  have : j.natAbs.log2 < 62 := (Nat.log2_lt (by omega)).mpr (by omega)
  omega
theorem mul_small {i j : Int} (h0 : 0 ≤ j) (h1 : j < 10000000000) : mulOk i j := mulOk_r (by omega) (by omega)
theorem mul_small' {i j : Int} (h0 : 0 ≤ i) (h1 : i < 10000000000) : mulOk i j := mulOk_l (by omega) (by omega)
/-! ### all of a row -/
theorem comp_all {it : MIt} {vs : List Nat} {g : MG} {e : ME} {env : DEnv} {st : Sto} {P : D → Sto → Prop} {X Y : Nat → Sto → Prop} (ds : List D) (p : D → Bool) (hi : it env st = .ok (.vals ds) st) (hl : ds.length ≤ 1000000)
    (h : ∀ d ∈ ds, ∃ env', g d (wipeD env vs) = some env' ∧ (e env' st).wp (fun x t => x = .bl (p d) ∧ t = st) nX) (q : P (.bl (ds.all p)) st) : (mComp it vs g none e env st).wp (fun d st => (bAll [d] st).wp P X) Y := by
  have h1 := mComp_map (vs := vs) (g := g) (e := e) (fun d => .bl (p d)) hi (fun d hd => let ⟨env', a, b⟩ := h d hd; ⟨env', a, b.eq⟩) (by omega)
  rw [h1, w_ok, bAll_map]
  exact w_ok.mpr q
theorem ints_all (ns : List Int) (p : D → Bool) : (ns.map D.int).all p = ns.all fun i => p (.int i) := by rw [List.all_map]; rfl
/-! ### one turn more of a while -/
theorem while_step {c : ME} {b : MS} {f : Nat} {env : DEnv} {st : Sto} {N : DEnv → Sto → Prop} {T : D → Sto → Prop} {Y : Nat → DEnv → Sto → Prop}
    (h : (c env st).wp (fun x s => onTruth s x ((b env s).wp (fun e t => (sWhile c b f e t).wp N T Y) T Y) (N env s)) (fun k s => Y k env s)) : (sWhile c b (f + 1) env st).wp N T Y := by
  simp only [wp_eq, swp_eq] at h ⊢
  rw [sWhile_succ]
  unfold mT
  cases q : c env st with
  | stuck => rw [q] at h; exact h.elim
  | exc x s => rw [q] at h; exact h
  | ok x s =>
    rw [q] at h
    rw [R.bind_ok]
    have h : onTruth s x _ _ := h
    unfold onTruth at h
    cases q2 : truth s x with
    | none => rw [q2] at h; exact h.elim
    | some t =>
      rw [q2] at h
      cases t with
      | false => exact h
      | true =>
        simp only [onT_ok, if_true]
        have h : (b env s).wq _ T Y := h
        cases q3 : b env s with
        | nx e t => rw [q3] at h; exact h
        | rt v t => rw [q3] at h; exact h
        | exc c e t => rw [q3] at h; exact h
        | bk e t => rw [q3] at h; exact h.elim
        | ct e t => rw [q3] at h; exact h.elim
        | stuck => rw [q3] at h; exact h.elim
/-! ### next -/
/-- what the draws' next does -/
def NextOk (f : List D → Sto → R D) : Prop := ∀ (l : Nat) (st : Sto) (ds : List Int), st[l]? = some (.lst (ds.map .int)) → InD ds → ∃ x ds', 0 ≤ x ∧ x < 2147483629 ∧ InD ds' ∧ f [.ref l] st = .ok (.int x) (st.set l (.lst (ds'.map .int)))
theorem next_at {f : List D → Sto → R D} (h : NextOk f) {ds : List Int} {tl : Sto} (hd : InD ds) : ∃ x ds', 0 ≤ x ∧ x < 2147483629 ∧ InD ds' ∧ f [.ref 0] (.lst (ds.map .int) :: tl) = .ok (.int x) (.lst (ds'.map .int) :: tl) := by
  obtain ⟨x, ds', h0, h1, h2, h3⟩ := h 0 (.lst (ds.map .int) :: tl) ds rfl hd
  exact ⟨x, ds', h0, h1, h2, h3⟩
theorem next_wp {f : List D → Sto → R D} (h : NextOk f) {ds : List Int} {tl : Sto} {P : D → Sto → Prop} {X : Nat → Sto → Prop} (hd : InD ds) (q : ∀ x ds', 0 ≤ x → x < 2147483629 → InD ds' → P (.int x) (.lst (ds'.map .int) :: tl)) : (f [.ref 0] (.lst (ds.map .int) :: tl)).wp P X := by
  obtain ⟨x, ds', h0, h1, h2, h3⟩ := next_at h (tl := tl) hd
  rw [h3]
  exact w_ok.mpr (q x ds' h0 h1 h2)
theorem next_def {Ph : Nat → List D → Sto → R D} : NextOk (runDef ⟨1, 1, true, gNext⟩ Ph) := fun l st ds hs hd => next_ok hs hd
/-- indexing a literal row by a remainder -/
theorem ix_mem {ds : List D} {i : Int} {st : Sto} {P : D → Sto → Prop} {X : Nat → Sto → Prop} (h0 : 0 ≤ i) (h1 : i < ds.length) (q : ∀ d ∈ ds, P d st) : (opIx (.lst ds) (.int i) st).wp P X := by
  rw [w_ixL]
  obtain ⟨x, hx, h2⟩ := atI_int h0 h1
  exact ⟨x, hx, q x (List.mem_of_getElem? h2)⟩
/-! ### range with a step -/
theorem fits63 {i : Int} (h0 : -1000000 ≤ i) (h1 : i ≤ 1000000) : Builtin.Range.rangeFitsLong i = true := by
  unfold Builtin.Range.rangeFitsLong
  simp only [Bool.and_eq_true, decide_eq_true_eq]
  omega
theorem range_small {i j k : Int} (i0 : 0 ≤ i) (i1 : i ≤ 100000) (j0 : 0 ≤ j) (j1 : j ≤ 100000) (k0 : 0 < k) (k1 : k ≤ 100000) : Builtin.Range.small i j k = true := by
  have hn : 0 ≤ Builtin.Range.rangeSize i j k ∧ Builtin.Range.rangeSize i j k ≤ 1000000 := by
    unfold Builtin.Range.rangeSize
    rw [if_pos k0]
    split
    · have a := Int.ediv_nonneg (a := j - i - 1) (b := k) (by omega) (by omega)
      have b := Int.ediv_le_self k (show 0 ≤ j - i - 1 by omega)
      omega
    · omega
  unfold Builtin.Range.small
  rw [if_pos k0, fits63 (i := i) (by omega) (by omega), fits63 (i := j) (by omega) (by omega), fits63 (i := k) (by omega) (by omega), fits63 (i := Builtin.Range.rangeSize i j k) (by omega) (by omega), fits63 (i := j + (k - 1)) (by omega) (by omega)]
  simp
theorem iRange3_ok {a b c : ME} {env : DEnv} {st : Sto} {i j k : Int} {n : Nat} (ha : a env st = .ok (.int i) st) (hb : b env st = .ok (.int j) st) (hc : c env st = .ok (.int k) st) (i0 : 0 ≤ i) (i1 : i ≤ 100000) (j0 : 0 ≤ j) (j1 : j ≤ 100000) (k0 : 0 < k) (k1 : k ≤ 100000)
    (hn : (Builtin.Range.rangeSize i j k).toNat = n) : iRange3 a b c env st = .ok (.vals (rangeC i k n)) st := by
  unfold iRange3
  rw [ha, bind_ok, hb, bind_ok, hc, bind_ok]
  have h : k ≠ 0 ∧ k.natAbs < 1073741824 ∧ Builtin.Range.small i j k = true := ⟨by omega, by omega, range_small i0 i1 j0 j1 k0 k1⟩
  simp only [if_pos h, hn]
theorem size_by2 {n : Nat} (k : Nat) : (Builtin.Range.rangeSize (k : Int) (n : Int) 2).toNat = (n - k + 1) / 2 := by
  unfold Builtin.Range.rangeSize
  rw [if_pos (by decide)]
  split <;> omega
theorem rng1_wp {a : ME} {env : DEnv} {st : Sto} {Q : Src → Sto → Prop} {X : Nat → Sto → Prop} (h : (a env st).wp (fun d t => ∃ i : Int, d = .int i ∧ 0 ≤ i ∧ i < 100000000 ∧ Q (.vals (rangeD 0 i.toNat)) t) X) : (iRange1 a env st).wp Q X := by
  rw [wp_eq] at h ⊢
  cases q : a env st with
  | ok d t =>
    rw [q] at h
    obtain ⟨i, rfl, i0, i1, hq⟩ := h
    rw [iRange1_int q i0 i1]
    exact hq
  | exc c t =>
    rw [q] at h
    rw [iRange1_app, q]
    exact h
  | stuck =>
    rw [q] at h
    exact h.elim
theorem draws_def {Ph : Nat → List D → Sto → R D} {im F : Nat} (hF : 1000 ≤ F) {ns : List Int} (hm : ∀ (c k : Int) (st : Sto), 0 ≤ k → k < 1000 → Ph im [.int c, .int k] st = .ok (.int (mixedZ c k)) st) :
    ∃ ds, InD ds ∧ runDef ⟨1, 5, false, gDraws im F⟩ Ph [.fz (ns.map .int)] [] = .ok (.ref 0) [.lst (ds.map .int)] := by
  obtain ⟨ds, h1, h2⟩ := draws_body (F := F) (im := im) (st := []) (ns := ns) hF hm
  exact ⟨ds, h1, runDef_raw rfl rfl h2⟩
/-! ### comprehensions that choose -/
theorem compGo_filter {g : MG} {c e : ME} {env : DEnv} {xs : List D} {st : Sto} (p : D → Bool) : ∀ (ds : List D), (∀ d ∈ ds, ∃ env', g d env = some env' ∧ (c env' st).wp (fun x t => x = .bl (p d) ∧ t = st) nX ∧ (e env' st).wp (fun x t => x = d ∧ t = st) nX) → compGo (.vals xs) g (some c) e env ds st = .ok (ds.filter p) st
  | [], _ => rfl
  | d :: ds, h => by
    obtain ⟨env', h1, h2, h3⟩ := h d (by simp)
    have ih := compGo_filter (g := g) (c := c) (e := e) (env := env) (xs := xs) (st := st) p ds fun x hx => h x (by simp [hx])
    rw [compGo_cons]
    have hT : mT c env' st = .ok (p d) st := by
      unfold mT
      rw [h2.eq]
      rfl
    simp only [h1, hT]
    cases q : p d with
    | true => simp [q, h3.eq, ih]
    | false => simp [q, ih]
theorem comp_filter {it : MIt} {vs : List Nat} {g : MG} {c e : ME} {env : DEnv} {st : Sto} {P : D → Sto → Prop} {Y : Nat → Sto → Prop} (ds : List D) (p : D → Bool) (hi : it env st = .ok (.vals ds) st) (hl : ds.length ≤ 1000000)
    (h : ∀ d ∈ ds, ∃ env', g d (wipeD env vs) = some env' ∧ (c env' st).wp (fun x t => x = .bl (p d) ∧ t = st) nX ∧ (e env' st).wp (fun x t => x = d ∧ t = st) nX) (q : P (.lst (ds.filter p)) st) : (mComp it vs g (some c) e env st).wp P Y := by
  have h1 := compGo_filter (xs := ds) p ds h
  have h2 : (ds.filter p).length ≤ sizeLine := small_le (Nat.le_trans (List.length_filter_le p ds) hl)
  rw [mComp_app, hi, bind_ok, items_vals, h1]
  simp only [if_pos h2]
  exact w_ok.mpr q
theorem opEq_nil (ds : List D) (st : Sto) : opEq (.tup ds) (.tup []) st = .ok (.bl ds.isEmpty) st := by
  unfold opEq
  cases q : eqD st (.tup ds) (.tup []) with
  | none => rfl
  | some b =>
    unfold eqD at q
    split at q
    · cases q
      cases ds <;> simp [toPy, toPys, PyData.eqv, PyData.eqvAll]
    · cases q
theorem w_eqNil {ds : List D} {st : Sto} {P : D → Sto → Prop} {X : Nat → Sto → Prop} : (opEq (.tup ds) (.tup []) st).wp P X ↔ P (.bl ds.isEmpty) st := by rw [opEq_nil, w_ok]
theorem bMax_tup (a : Int) (r : List Int) (st : Sto) : bMax [.tup (.int a :: r.map .int)] st = .ok (.int (r.foldl max a)) st := by
  have e : intsOf (D.int a :: r.map .int) = some (a :: r) := intsOf_map (a :: r)
  simp only [bMax, intSeq, deref_tup, e]
theorem bMin_tup (a : Int) (r : List Int) (st : Sto) : bMin [.tup (.int a :: r.map .int)] st = .ok (.int (r.foldl min a)) st := by
  have e : intsOf (D.int a :: r.map .int) = some (a :: r) := intsOf_map (a :: r)
  simp only [bMin, intSeq, deref_tup, e]
theorem notIn_tup (i : Int) (r : List Int) (st : Sto) : opNotIn (.int i) (.tup (r.map .int)) st = .ok (.bl (!decide (i ∈ r))) st := by
  simp only [opNotIn, isIn, deref_tup, intsOf_map, Option.map_some]
theorem in_tup (i : Int) (r : List Int) (st : Sto) : opIn (.int i) (.tup (r.map .int)) st = .ok (.bl (decide (i ∈ r))) st := by
  simp only [opIn, isIn, deref_tup, intsOf_map, Option.map_some]
theorem max_le {a b : Int} {r : List Int} : r.foldl max a ≤ b ↔ ∀ i ∈ a :: r, i ≤ b := by
  constructor
  · intro h i hi
    rcases List.mem_cons.mp hi with rfl | hi
    · exact Int.le_trans (foldl_max_ge r i).1 h
    · exact Int.le_trans ((foldl_max_ge r a).2 i hi) h
  · intro h
    exact h _ (foldl_max_mem r a)
theorem lt_min {a b : Int} {r : List Int} : b < r.foldl min a ↔ ∀ i ∈ a :: r, b < i := by
  constructor
  · intro h i hi
    rcases List.mem_cons.mp hi with rfl | hi
    · exact Int.lt_of_lt_of_le h (foldl_min_le r i).1
    · exact Int.lt_of_lt_of_le h ((foldl_min_le r a).2 i hi)
  · intro h
    exact h _ (foldl_min_mem r a)
theorem cutL_mem {α : Type} {xs : List α} {lo hi : Option Int} {x : α} (h : x ∈ cutL xs lo hi) : x ∈ xs := List.mem_of_mem_drop (List.mem_of_mem_take h)
theorem cutL_len {α : Type} (xs : List α) (lo hi : Option Int) : (cutL xs lo hi).length ≤ xs.length := by
  unfold cutL
  rw [List.length_take, List.length_drop]
  omega
theorem stepL_mem {α : Type} {xs : List α} {lo hi : Option Int} {k : Int} {x : α} (h : x ∈ stepL xs lo hi k) : x ∈ xs := by
  unfold stepL at h
  obtain ⟨m, _, h2⟩ := List.mem_filterMap.mp h
  exact List.mem_of_getElem? h2
theorem stepRev_len {α : Type} (xs : List α) : (stepL xs none none (-1)).length ≤ xs.length := by
  unfold stepL
  refine Nat.le_trans (List.length_filterMap_le ..) ?_
  rw [List.length_range]
  unfold Builtin.Slice.slicePlaces Builtin.Slice.sliceAdjust
  simp only [show ¬ ((-1 : Int) > 0) by decide, if_false, show ((-1 : Int) < 0) by decide, if_true]
  split
  · rw [show -(-1 : Int) = 1 from rfl, Int.ediv_one]; omega
  · omega
theorem w_dic1 {k : Int} {d : D} {env : DEnv} {st : Sto} {P : D → Sto → Prop} {X : Nat → Sto → Prop} : (mDic1 (mC (.int k)) (mC d) env st).wp P X ↔ P (.dic [(.inl k, d)]) st := by
  rw [show mDic1 (mC (.int k)) (mC d) env st = .ok (.dic [(.inl k, d)]) st from rfl, w_ok]
end MI
/-! the text of the law, as data -/
namespace LK55
open PySem PySem.Spec PyProof.Rows L2 MI
def topS (i : Nat) : Stmt := PySem.Challenge.pw_snapshelf_k55_disks_cut.main.body.getD i (.Pass ⟨0, 0, 0, 0⟩)
def clsS (i j : Nat) : Stmt := match topS i with | .ClassDef _ _ _ b _ _ _ _ _ _ _ => b.getD j (.Pass ⟨0, 0, 0, 0⟩) | _ => .Pass ⟨0, 0, 0, 0⟩
def ocl0 : List (Str × List Str × List (Str × Nat)) := [(("Disk" : Str), [("places" : Str), ("copies" : Str)], [(("__init__" : Str), 24), (("cell" : Str), 25), (("rot" : Str), 26), (("write" : Str), 27), (("look" : Str), 28), (("read" : Str), 29), (("twin" : Str), 30)])]
def fOk (f : Str) : Str → Bool := fun k => match ocl0.lookup k with | some p => p.1.contains f | none => false
def G_FACTOR : D := .int 65599
def G_ROUND : D := .int 2147483647
def G_SPOTS_AHEAD : D := .int 4
def Sub (a b : Nat) : Bool := match min a 0, min b 0 with
  | 0, 0 => true
  | _, _ => true
/-- groups_of(steps); slots: 0 steps, 1 groups, 2 step -/
noncomputable def b_groups_of (Ph : Nat → List D → Sto → R D) : MS := (sSeq (sAsg (mNew [(mNew [])]) (gVar 1))
  (sSeq (sFor (iSeq (mVar 0)) (gVar 2)
    (sSeq (sIf (mBin opEq (mBin opIx (mVar 2) (mC (.int 0))) (mC (.str (⟨#[108, 105, 110, 101]⟩ : Str))))
    (sSeq (sExpr (mMethL mAppend (mVar 1) [(mNew [])]))
  sSkip)
    (sSeq (sExpr (mMethL mAppend (mBin opIx (mVar 1) (mNeg (mC (.int 1)))) [(mVar 2)]))
  sSkip))
  sSkip))
  (sSeq (sRet (mVar 1))
  sSkip)))
noncomputable def d_groups_of : DefR := ⟨1, 3, false, b_groups_of⟩
/-- do_puts(disk, puts); slots: 0 disk, 1 puts, 2 word, 3 copy, 4 spot, 5 content -/
noncomputable def b_do_puts (Ph : Nat → List D → Sto → R D) : MS := (sSeq (sFor (iSeq (mVar 1)) (gTupV [2, 3, 4, 5])
    (sSeq (sExpr (mMethO "Disk" "write" (Ph 27) (mVar 0) [(mVar 3), (mVar 4), (mVar 5)]))
  sSkip))
  sSkip)
noncomputable def d_do_puts : DefR := ⟨2, 6, true, b_do_puts⟩
/-- cut_steps(disk, steps, group, kept); slots: 0 disk, 1 steps, 2 group, 3 kept, 4 groups, 5 puts, 6 number -/
noncomputable def b_cut_steps (Ph : Nat → List D → Sto → R D) : MS := (sSeq (sAsg (mCall (Ph 0) [(mVar 1)]) (gVar 4))
  (sSeq (sFor (iSeq (mSl (mVar 4) none (some (mVar 2)))) (gVar 5)
    (sSeq (sExpr (mCall (Ph 1) [(mVar 0), (mVar 5)]))
  sSkip))
  (sSeq (sExpr (mCall (Ph 1) [(mVar 0), (mComp (iSeq (mVar 3)) [6] (gVar 6) none (mBin opIx (mBin opIx (mVar 4) (mVar 2)) (mVar 6)))]))
  sSkip)))
noncomputable def d_cut_steps : DefR := ⟨4, 7, false, b_cut_steps⟩
/-- after_cut(disk, steps, group, kept); slots: 0 disk, 1 steps, 2 group, 3 kept, 4 other -/
noncomputable def b_after_cut (Ph : Nat → List D → Sto → R D) : MS := (sSeq (sAsg (mMethO "Disk" "twin" (Ph 30) (mVar 0) []) (gVar 4))
  (sSeq (sExpr (mCall (Ph 2) [(mVar 4), (mVar 1), (mVar 2), (mVar 3)]))
  (sSeq (sRet (mVar 4))
  sSkip)))
noncomputable def d_after_cut : DefR := ⟨4, 5, false, b_after_cut⟩
/-- is_number(one); slots: 0 one -/
noncomputable def b_is_number (Ph : Nat → List D → Sto → R D) : MS := (sSeq (sRet (mAnd (mIsI "int" (mVar 0)) (mNot (mIsI "bool" (mVar 0)))))
  sSkip)
noncomputable def d_is_number : DefR := ⟨1, 1, true, b_is_number⟩
/-- is_content(one); slots: 0 one, 1 number -/
noncomputable def b_is_content (Ph : Nat → List D → Sto → R D) : MS := (sSeq (sRet (mAnd (mIsI "tuple" (mVar 0)) (mCall bAll [(mComp (iSeq (mVar 0)) [1] (gVar 1) none (mAnd (mCall (Ph 4) [(mVar 1)]) (mBin opGe (mVar 1) (mC (.int 0)))))])))
  sSkip)
noncomputable def d_is_content : DefR := ⟨1, 2, true, b_is_content⟩
/-- sum_of(spot, content); slots: 0 spot, 1 content, 2 found, 3 number -/
noncomputable def b_sum_of (Ph : Nat → List D → Sto → R D) : MS := (sSeq (sAsg (mBin opAdd (mVar 0) (mC (.int 1))) (gVar 2))
  (sSeq (sFor (iSeq (mVar 1)) (gVar 3)
    (sSeq (sAsg (mBin opMod (mBin opAdd (mBin opAdd (mBin opMul (mVar 2) (mC G_FACTOR)) (mVar 3)) (mC (.int 1))) (mC G_ROUND)) (gVar 2))
  sSkip))
  (sSeq (sRet (mVar 2))
  sSkip)))
noncomputable def d_sum_of : DefR := ⟨2, 4, true, b_sum_of⟩
/-- cell_of(spot, content); slots: 0 spot, 1 content -/
noncomputable def b_cell_of (Ph : Nat → List D → Sto → R D) : MS := (sSeq (sRet (mTup [(mCall (Ph 6) [(mVar 0), (mVar 1)]), (mVar 1)]))
  sSkip)
noncomputable def d_cell_of : DefR := ⟨2, 2, true, b_cell_of⟩
/-- is_right(spot, cell); slots: 0 spot, 1 cell -/
noncomputable def b_is_right (Ph : Nat → List D → Sto → R D) : MS := (sSeq (sIf (mOr (mNot (mIsI "tuple" (mVar 1))) (mOr (mBin opNe (mCall bLen [(mVar 1)]) (mC (.int 2))) (mNot (mCall (Ph 4) [(mBin opIx (mVar 1) (mC (.int 0)))]))))
    (sSeq (sRet (mC (.bl false)))
  sSkip)
    sSkip)
  (sSeq (sRet (mAnd (mCall (Ph 5) [(mBin opIx (mVar 1) (mC (.int 1)))]) (mBin opEq (mBin opIx (mVar 1) (mC (.int 0))) (mCall (Ph 6) [(mVar 0), (mBin opIx (mVar 1) (mC (.int 1)))]))))
  sSkip))
noncomputable def d_is_right : DefR := ⟨2, 2, true, b_is_right⟩
/-- _law_mixed(_law_cell_here, _law_k); slots: 0 _law_cell_here, 1 _law_k, 2 _law_number -/
noncomputable def b__law_mixed (Ph : Nat → List D → Sto → R D) : MS := (sSeq (sAsg (mBin opMod (mBin opAdd (mBin opAdd (mBin opMul (mBin opMod (mVar 0) (mC (.int 2147483647))) (mC (.int 48271))) (mBin opMul (mBin opMul (mC (.int 7919)) (mVar 1)) (mVar 1))) (mC (.int 104729))) (mC (.int 2147483647))) (gVar 2))
  (sSeq (sRet (mBin opMod (mBin opMul (mVar 2) (mVar 2)) (mC (.int 2147483629))))
  sSkip))
noncomputable def d__law_mixed : DefR := ⟨2, 3, true, b__law_mixed⟩
/-- _law_draws(_law_script); slots: 0 _law_script, 1 _law_drawn, 2 _law_k, 3 _law_cell_here, 4 _law_j -/
noncomputable def b__law_draws (Ph : Nat → List D → Sto → R D) : MS := (sSeq (sAsg (mNew []) (gVar 1))
  (sSeq (sFor (iRange1 (mCall bMin [(mCall bLen [(mVar 0)]), (mC (.int 63))])) (gVar 2)
    (sSeq (sAsg (mCall bAbs [(mBin opIx (mVar 0) (mVar 2))]) (gVar 3))
  (sSeq (sIf (mBin opLt (mVar 3) (mBin opPow (mC (.int 10)) (mC (.int 18))))
    (sSeq (sFor (iRange1 (mC (.int 12))) (gVar 4)
    (sSeq (sExpr (mMethL mAppend (mVar 1) [(mCall (Ph 9) [(mCall (Ph 9) [(mVar 3), (mBin opAdd (mBin opMul (mC (.int 3)) (mVar 4)) (mC (.int 1)))]), (mBin opAdd (mBin opAdd (mVar 4) (mVar 2)) (mC (.int 2)))])]))
  sSkip))
  sSkip)
    sSkip)
  (sSeq (sWhile (mAnd (mBin opGe (mVar 3) (mBin opPow (mC (.int 10)) (mC (.int 18)))) (mBin opLt (mCall bLen [(mVar 1)]) (mC (.int 900))))
    (sSeq (sExpr (mMethL mAppend (mVar 1) [(mBin opMod (mVar 3) (mC (.int 2147483629)))]))
  (sSeq (sAsg (mBin opDiv (mVar 3) (mC (.int 2147483629))) (gVar 3))
  sSkip)) 1000)
  (sSeq (sIf (mBin opGe (mVar 3) (mC (.int 2147483629)))
    (sSeq (sExpr (mMethL mAppend (mVar 1) [(mBin opMod (mVar 3) (mC (.int 2147483629)))]))
  sSkip)
    sSkip)
  sSkip)))))
  (sSeq (sRet (mVar 1))
  sSkip)))
noncomputable def d__law_draws : DefR := ⟨1, 5, false, b__law_draws⟩
/-- _law_next(_law_drawn); slots: 0 _law_drawn -/
noncomputable def b__law_next (Ph : Nat → List D → Sto → R D) : MS := (sSeq (sIf (mBin opEq (mVar 0) (mLst []))
    (sSeq (sRet (mC (.int 0)))
  sSkip)
    sSkip)
  (sSeq (sRet (mMethL mPop (mVar 0) [(mC (.int 0))]))
  sSkip))
noncomputable def d__law_next : DefR := ⟨1, 1, true, b__law_next⟩
/-- _law_same(_law_found, _law_due); slots: 0 _law_found, 1 _law_due -/
noncomputable def b__law_same (Ph : Nat → List D → Sto → R D) : MS := (sSeq (sIf (mIsI "tuple" (mVar 1))
    (sSeq (sIf (mOr (mNot (mIsI "tuple" (mVar 0))) (mBin opNe (mCall bLen [(mVar 0)]) (mCall bLen [(mVar 1)])))
    (sSeq (sRet (mC (.bl false)))
  sSkip)
    sSkip)
  (sSeq (sRet (mCall (Ph 13) [(mCall bList [(mVar 0)]), (mCall bList [(mVar 1)])]))
  sSkip))
    sSkip)
  (sSeq (sIf (mIsI "list" (mVar 1))
    (sSeq (sRet (mAnd (mIsI "list" (mVar 0)) (mAnd (mBin opEq (mCall bLen [(mVar 0)]) (mCall bLen [(mVar 1)])) (mCall (Ph 13) [(mVar 0), (mVar 1)]))))
  sSkip)
    sSkip)
  (sSeq (sIf (mIsI "str" (mVar 1))
    (sSeq (sRet (mAnd (mIsI "str" (mVar 0)) (mBin opEq (mVar 0) (mVar 1))))
  sSkip)
    sSkip)
  (sSeq (sIf (mBin opIs (mVar 1) (mC (.non)))
    (sSeq (sRet (mBin opIs (mVar 0) (mC (.non))))
  sSkip)
    sSkip)
  (sSeq (sRet (mAnd (mIsI "int" (mVar 0)) (mAnd (mNot (mIsI "bool" (mVar 0))) (mBin opEq (mVar 0) (mVar 1)))))
  sSkip)))))
noncomputable def d__law_same : DefR := ⟨2, 2, true, b__law_same⟩
/-- _law_all_same(_law_found, _law_due); slots: 0 _law_found, 1 _law_due, 2 _law_one, 3 _law_other -/
noncomputable def b__law_all_same (Ph : Nat → List D → Sto → R D) : MS := (sSeq (sFor (iZip (mVar 0) (mVar 1)) (gTupV [2, 3])
    (sSeq (sIf (mNot (mCall (Ph 12) [(mVar 2), (mVar 3)]))
    (sSeq (sRet (mC (.bl false)))
  sSkip)
    sSkip)
  sSkip))
  (sSeq (sRet (mC (.bl true)))
  sSkip))
noncomputable def d__law_all_same : DefR := ⟨2, 4, true, b__law_all_same⟩
/-- _law_cell(_law_spot, _law_content_here); slots: 0 _law_spot, 1 _law_content_here, 2 _law_number, 3 _law_one -/
noncomputable def b__law_cell (Ph : Nat → List D → Sto → R D) : MS := (sSeq (sAsg (mBin opAdd (mVar 0) (mC (.int 1))) (gVar 2))
  (sSeq (sFor (iSeq (mVar 1)) (gVar 3)
    (sSeq (sAsg (mBin opMod (mBin opAdd (mBin opAdd (mBin opMul (mVar 2) (mC (.int 65599))) (mVar 3)) (mC (.int 1))) (mC (.int 2147483647))) (gVar 2))
  sSkip))
  (sSeq (sRet (mTup [(mVar 2), (mVar 1)]))
  sSkip)))
noncomputable def d__law_cell : DefR := ⟨2, 4, true, b__law_cell⟩
/-- _law_content(_law_drawn); slots: 0 _law_drawn, 1 _law_number, 2 _law_k -/
noncomputable def b__law_content (Ph : Nat → List D → Sto → R D) : MS := (sSeq (sAsg (mCall (Ph 11) [(mVar 0)]) (gVar 1))
  (sSeq (sRet (mCall bTuple [(mComp (iRange1 (mBin opMod (mVar 1) (mC (.int 5)))) [2] (gVar 2) none (mBin opMod (mBin opAdd (mBin opDiv (mVar 1) (mC (.int 7))) (mBin opMul (mBin opMul (mVar 2) (mVar 2)) (mVar 1))) (mBin opIx (mLst [(mC (.int 3)), (mC (.int 1000)), (mBin opPow (mC (.int 10)) (mC (.int 12)))]) (mBin opMod (mBin opDiv (mVar 1) (mC (.int 3))) (mC (.int 3))))))]))
  sSkip))
noncomputable def d__law_content : DefR := ⟨1, 3, true, b__law_content⟩
/-- _law_put(_law_drawn, _law_spots); slots: 0 _law_drawn, 1 _law_spots, 2 _law_number, 3 _law_spot -/
noncomputable def b__law_put (Ph : Nat → List D → Sto → R D) : MS := (sSeq (sAsg (mCall (Ph 11) [(mVar 0)]) (gVar 2))
  (sSeq (sAsg (mBin opIx (mLst [(mBin opMod (mBin opDiv (mVar 2) (mC (.int 2))) (mVar 1)), (mBin opMod (mBin opDiv (mVar 2) (mC (.int 2))) (mC (.int 3)))]) (mBin opMod (mBin opDiv (mVar 2) (mC (.int 64))) (mC (.int 2)))) (gVar 3))
  (sSeq (sRet (mTup [(mC (.str (⟨#[112, 117, 116]⟩ : Str))), (mBin opMod (mVar 2) (mC (.int 2))), (mVar 3), (mCall (Ph 15) [(mVar 0)])]))
  sSkip)))
noncomputable def d__law_put : DefR := ⟨2, 4, true, b__law_put⟩
/-- _law_steps(_law_drawn, _law_spots); slots: 0 _law_drawn, 1 _law_spots, 2 _law_steps_here, 3 _law_k -/
noncomputable def b__law_steps (Ph : Nat → List D → Sto → R D) : MS := (sSeq (sAsg (mNew []) (gVar 2))
  (sSeq (sFor (iRange1 (mBin opMod (mCall (Ph 11) [(mVar 0)]) (mC (.int 21)))) (gVar 3)
    (sSeq (sIf (mBin opEq (mBin opMod (mCall (Ph 11) [(mVar 0)]) (mC (.int 4))) (mC (.int 0)))
    (sSeq (sExpr (mMethL mAppend (mVar 2) [(mTup [(mC (.str (⟨#[108, 105, 110, 101]⟩ : Str)))])]))
  sSkip)
    (sSeq (sExpr (mMethL mAppend (mVar 2) [(mCall (Ph 16) [(mVar 0), (mVar 1)])]))
  sSkip))
  sSkip))
  (sSeq (sRet (mVar 2))
  sSkip)))
noncomputable def d__law_steps : DefR := ⟨2, 4, true, b__law_steps⟩
/-- _law_groups(_law_steps_here); slots: 0 _law_steps_here, 1 _law_groups_here, 2 _law_step -/
noncomputable def b__law_groups (Ph : Nat → List D → Sto → R D) : MS := (sSeq (sAsg (mNew [(mNew [])]) (gVar 1))
  (sSeq (sFor (iSeq (mVar 0)) (gVar 2)
    (sSeq (sIf (mBin opEq (mVar 2) (mTup [(mC (.str (⟨#[108, 105, 110, 101]⟩ : Str)))]))
    (sSeq (sExpr (mMethL mAppend (mVar 1) [(mNew [])]))
  sSkip)
    (sSeq (sExpr (mMethL mAppend (mBin opIx (mVar 1) (mNeg (mC (.int 1)))) [(mVar 2)]))
  sSkip))
  sSkip))
  (sSeq (sRet (mVar 1))
  sSkip)))
noncomputable def d__law_groups : DefR := ⟨1, 3, false, b__law_groups⟩
/-- _law_kept(_law_drawn, _law_many); slots: 0 _law_drawn, 1 _law_many, 2 _law_left, 3 _law_kept_here, 4 _law_k -/
noncomputable def b__law_kept (Ph : Nat → List D → Sto → R D) : MS := (sSeq (sAsg (mCall bRangeLN [(mVar 1)]) (gVar 2))
  (sSeq (sAsg (mNew []) (gVar 3))
  (sSeq (sFor (iRange1 (mBin opIx (mLst [(mC (.int 0)), (mVar 1), (mBin opMod (mCall (Ph 11) [(mVar 0)]) (mBin opAdd (mVar 1) (mC (.int 1))))]) (mBin opMod (mCall (Ph 11) [(mVar 0)]) (mC (.int 3))))) (gVar 4)
    (sSeq (sExpr (mMethL mAppend (mVar 3) [(mMethL mPop (mVar 2) [(mBin opMod (mCall (Ph 11) [(mVar 0)]) (mCall bLen [(mVar 2)]))])]))
  sSkip))
  (sSeq (sRet (mVar 3))
  sSkip))))
noncomputable def d__law_kept : DefR := ⟨2, 5, true, b__law_kept⟩
/-- _law_fill(_law_disk, _law_cells, _law_drawn); slots: 0 _law_disk, 1 _law_cells, 2 _law_drawn, 3 _law_k, 4 _law_number, 5 _law_word, 6 _law_copy, 7 _law_spot, 8 _law_content_here, 9 _law_cell_here -/
noncomputable def b__law_fill (Ph : Nat → List D → Sto → R D) : MS := (sSeq (sFor (iRange1 (mBin opMod (mCall (Ph 11) [(mVar 2)]) (mC (.int 31)))) (gVar 3)
    (sSeq (sAsg (mCall (Ph 16) [(mVar 2), (mBin opAdd (mFld (fOk "places") "places" (mVar 0)) (mC (.int 4)))]) (gTupV [5, 6, 7, 8]))
  (sSeq (sAsg (mCall (Ph 11) [(mVar 2)]) (gVar 4))
  (sSeq (sIf (mBin opEq (mBin opMod (mVar 4) (mC (.int 3))) (mC (.int 0)))
    (sSeq (sAsg (mBin opIx (mLst [(mC (.non)), (mC (.int 7)), (mC (.str (⟨#[97]⟩ : Str))), (mTup [(mC (.int 1)), (mC (.int 2)), (mC (.int 3))]), (mTup [(mC (.int 0)), (mTup [(mC (.int 0))])]), (mTup [])]) (mBin opMod (mBin opDiv (mVar 4) (mC (.int 3))) (mC (.int 6)))) (gVar 9))
  (sSeq (sIf (mOr (mBin opNe (mVar 7) (mC (.int 0))) (mBin opNe (mVar 9) (mTup [(mC (.int 0)), (mTup [(mC (.int 0))])])))
    (sSeq (sExpr (mMethO "Disk" "rot" (Ph 26) (mVar 0) [(mVar 6), (mVar 7), (mVar 9)]))
  (sSeq (sSet (mBin opIx (mVar 1) (mVar 6)) (mVar 7) (mVar 9))
  sSkip))
    sSkip)
  sSkip))
    (sSeq (sExpr (mMethO "Disk" "write" (Ph 27) (mVar 0) [(mVar 6), (mVar 7), (mVar 8)]))
  (sSeq (sSet (mBin opIx (mVar 1) (mVar 6)) (mVar 7) (mCall (Ph 14) [(mVar 7), (mVar 8)]))
  sSkip)))
  sSkip))))
  sSkip)
noncomputable def d__law_fill : DefR := ⟨3, 10, false, b__law_fill⟩
/-- _law_cut(_law_cells, _law_steps_here, _law_group, _law_kept_here); slots: 0 _law_cells, 1 _law_steps_here, 2 _law_group, 3 _law_kept_here, 4 _law_found, 5 _law_groups_here, 6 _law_puts, 7 _law_one, 8 _law_word, 9 _law_copy, 10 _law_spot, 11 _law_content_here, 12 _law_number -/
noncomputable def b__law_cut (Ph : Nat → List D → Sto → R D) : MS := (sSeq (sAsg (mNew [(mCall bListN [(mBin opIx (mVar 0) (mC (.int 0)))]), (mCall bListN [(mBin opIx (mVar 0) (mC (.int 1)))])]) (gVar 4))
  (sSeq (sAsg (mCall (Ph 18) [(mVar 1)]) (gVar 5))
  (sSeq (sAsg (mComp (iSeq (mVar 3)) [12] (gVar 12) none (mBin opIx (mBin opIx (mVar 5) (mVar 2)) (mVar 12))) (gVar 6))
  (sSeq (sFor (iRevM (mSl (mVar 5) none (some (mVar 2)))) (gVar 7)
    (sSeq (sAsg (mBin opAdd (mVar 7) (mVar 6)) (gVar 6))
  sSkip))
  (sSeq (sFor (iSeq (mVar 6)) (gTupV [8, 9, 10, 11])
    (sSeq (sSet (mBin opIx (mVar 4) (mVar 9)) (mVar 10) (mCall (Ph 14) [(mVar 10), (mVar 11)]))
  sSkip))
  (sSeq (sRet (mVar 4))
  sSkip))))))
noncomputable def d__law_cut : DefR := ⟨4, 13, false, b__law_cut⟩
/-- _law_has(_law_disk, _law_cells); slots: 0 _law_disk, 1 _law_cells, 2 _law_copy, 3 _law_spot -/
noncomputable def b__law_has (Ph : Nat → List D → Sto → R D) : MS := (sSeq (sFor (iRange1 (mC (.int 2))) (gVar 2)
    (sSeq (sFor (iRange1 (mCall bLen [(mBin opIx (mVar 1) (mC (.int 0)))])) (gVar 3)
    (sSeq (sIf (mNot (mCall (Ph 12) [(mMethO "Disk" "cell" (Ph 25) (mVar 0) [(mVar 2), (mVar 3)]), (mBin opIx (mBin opIx (mVar 1) (mVar 2)) (mVar 3))]))
    (sSeq (sRet (mC (.bl false)))
  sSkip)
    sSkip)
  sSkip))
  sSkip))
  (sSeq (sRet (mBin opEq (mFld (fOk "places") "places" (mVar 0)) (mBin opSub (mCall bLen [(mBin opIx (mVar 1) (mC (.int 0)))]) (mC (.int 4)))))
  sSkip))
noncomputable def d__law_has : DefR := ⟨2, 4, true, b__law_has⟩
/-- law(_law_script); slots: 0 _law_script, 1 _law_drawn, 2 _law_disk, 3 _law_cells, 4 _law_steps_here, 5 _law_groups_here, 6 _law_k, 7 _law_group, 8 _law_kept_here, 9 _law_handed, 10 _law_found, 11 _law_due -/
noncomputable def b_law (Ph : Nat → List D → Sto → R D) : MS := (sSeq (sAsg (mCall (Ph 10) [(mVar 0)]) (gVar 1))
  (sSeq (sAsg (mMake "Disk" (Ph 24) [(mBin opAdd (mC (.int 8)) (mBin opMod (mCall (Ph 11) [(mVar 1)]) (mC (.int 5))))]) (gVar 2))
  (sSeq (sAsg (mNew [(mBin opMulN (mNew [(mC (.non))]) (mBin opAdd (mFld (fOk "places") "places" (mVar 2)) (mC (.int 4)))), (mBin opMulN (mNew [(mC (.non))]) (mBin opAdd (mFld (fOk "places") "places" (mVar 2)) (mC (.int 4))))]) (gVar 3))
  (sSeq (sExpr (mCall (Ph 20) [(mVar 2), (mVar 3), (mVar 1)]))
  (sSeq (sAsg (mCall (Ph 17) [(mVar 1), (mBin opAdd (mFld (fOk "places") "places" (mVar 2)) (mC (.int 4)))]) (gVar 4))
  (sSeq (sAsg (mCall (Ph 18) [(mVar 4)]) (gVar 5))
  (sSeq (sFor (iRange1 (mC (.int 3))) (gVar 6)
    (sSeq (sAsg (mBin opMod (mCall (Ph 11) [(mVar 1)]) (mCall bLen [(mVar 5)])) (gVar 7))
  (sSeq (sAsg (mCall (Ph 19) [(mVar 1), (mCall bLen [(mBin opIx (mVar 5) (mVar 7))])]) (gVar 8))
  (sSeq (sAsg (mLst [(mCall bList [(mVar 4)]), (mCall bList [(mVar 8)])]) (gVar 9))
  (sSeq (sAsg (mCall (Ph 3) [(mVar 2), (mBin opIx (mVar 9) (mC (.int 0))), (mVar 7), (mBin opIx (mVar 9) (mC (.int 1)))]) (gVar 10))
  (sSeq (sAsg (mCall (Ph 21) [(mVar 3), (mVar 4), (mVar 7), (mVar 8)]) (gVar 11))
  (sSeq (sIf (mOr (mNot (mCall (Ph 22) [(mVar 10), (mVar 11)])) (mOr (mNot (mCall (Ph 22) [(mVar 2), (mVar 3)])) (mBin opNe (mVar 9) (mLst [(mVar 4), (mVar 8)]))))
    (sSeq (sRet (mC (.bl false)))
  sSkip)
    sSkip)
  (sSeq (sExpr (mMethO "Disk" "write" (Ph 27) (mVar 10) [(mBin opMod (mVar 6) (mC (.int 2))), (mC (.int 5)), (mTup [(mVar 6), (mVar 6)])]))
  (sSeq (sExpr (mMethO "Disk" "write" (Ph 27) (mVar 2) [(mBin opSub (mC (.int 1)) (mBin opMod (mVar 6) (mC (.int 2)))), (mC (.int 6)), (mTup [(mC (.int 7)), (mVar 6)])]))
  (sSeq (sSet (mBin opIx (mVar 11) (mBin opMod (mVar 6) (mC (.int 2)))) (mC (.int 5)) (mCall (Ph 14) [(mC (.int 5)), (mTup [(mVar 6), (mVar 6)])]))
  (sSeq (sSet (mBin opIx (mVar 3) (mBin opSub (mC (.int 1)) (mBin opMod (mVar 6) (mC (.int 2))))) (mC (.int 6)) (mCall (Ph 14) [(mC (.int 6)), (mTup [(mC (.int 7)), (mVar 6)])]))
  (sSeq (sIf (mOr (mNot (mCall (Ph 22) [(mVar 10), (mVar 11)])) (mNot (mCall (Ph 22) [(mVar 2), (mVar 3)])))
    (sSeq (sRet (mC (.bl false)))
  sSkip)
    sSkip)
  (sSeq (sIf (mNot (mCall (Ph 22) [(mCall (Ph 3) [(mVar 2), (mVar 4), (mVar 7), (mVar 8)]), (mCall (Ph 21) [(mVar 3), (mVar 4), (mVar 7), (mVar 8)])]))
    (sSeq (sRet (mC (.bl false)))
  sSkip)
    sSkip)
  sSkip)))))))))))))
  (sSeq (sRet (mC (.bl true)))
  sSkip))))))))
noncomputable def d_law : DefR := ⟨1, 12, true, b_law⟩
/-- Disk___init__(self, places); slots: 0 self, 1 places -/
noncomputable def b_Disk___init__ (Ph : Nat → List D → Sto → R D) : MS := (sSeq (sFldS (fOk "places") "places" (mVar 0) (mVar 1))
  (sSeq (sFldS (fOk "copies") "copies" (mVar 0) (mNew [(mBin opMulN (mNew [(mC (.non))]) (mBin opAdd (mC G_SPOTS_AHEAD) (mVar 1))), (mBin opMulN (mNew [(mC (.non))]) (mBin opAdd (mC G_SPOTS_AHEAD) (mVar 1)))]))
  sSkip))
noncomputable def d_Disk___init__ : DefR := ⟨2, 2, false, b_Disk___init__⟩
/-- Disk_cell(self, copy, spot); slots: 0 self, 1 copy, 2 spot -/
noncomputable def b_Disk_cell (Ph : Nat → List D → Sto → R D) : MS := (sSeq (sRet (mBin opIx (mBin opIx (mFld (fOk "copies") "copies" (mVar 0)) (mVar 1)) (mVar 2)))
  sSkip)
noncomputable def d_Disk_cell : DefR := ⟨3, 3, true, b_Disk_cell⟩
/-- Disk_rot(self, copy, spot, cell); slots: 0 self, 1 copy, 2 spot, 3 cell -/
noncomputable def b_Disk_rot (Ph : Nat → List D → Sto → R D) : MS := (sSeq (sSet (mBin opIx (mFld (fOk "copies") "copies" (mVar 0)) (mVar 1)) (mVar 2) (mVar 3))
  sSkip)
noncomputable def d_Disk_rot : DefR := ⟨4, 4, true, b_Disk_rot⟩
/-- Disk_write(self, copy, spot, content); slots: 0 self, 1 copy, 2 spot, 3 content -/
noncomputable def b_Disk_write (Ph : Nat → List D → Sto → R D) : MS := (sSeq (sSet (mBin opIx (mFld (fOk "copies") "copies" (mVar 0)) (mVar 1)) (mVar 2) (mCall (Ph 7) [(mVar 2), (mVar 3)]))
  sSkip)
noncomputable def d_Disk_write : DefR := ⟨4, 4, true, b_Disk_write⟩
/-- Disk_look(self, copy, spot); slots: 0 self, 1 copy, 2 spot, 3 cell -/
noncomputable def b_Disk_look (Ph : Nat → List D → Sto → R D) : MS := (sSeq (sAsg (mBin opIx (mBin opIx (mFld (fOk "copies") "copies" (mVar 0)) (mVar 1)) (mVar 2)) (gVar 3))
  (sSeq (sIf (mNot (mCall (Ph 8) [(mVar 2), (mVar 3)]))
    (sSeq (sRet (mC (.non)))
  sSkip)
    sSkip)
  (sSeq (sRet (mBin opIx (mVar 3) (mC (.int 1))))
  sSkip)))
noncomputable def d_Disk_look : DefR := ⟨3, 4, true, b_Disk_look⟩
/-- Disk_read(self, spot); slots: 0 self, 1 spot, 2 copy, 3 content -/
noncomputable def b_Disk_read (Ph : Nat → List D → Sto → R D) : MS := (sSeq (sFor (iRange1 (mC (.int 2))) (gVar 2)
    (sSeq (sAsg (mMethO "Disk" "look" (Ph 28) (mVar 0) [(mVar 2), (mVar 1)]) (gVar 3))
  (sSeq (sIf (mBin opIsNot (mVar 3) (mC (.non)))
    (sSeq (sRet (mVar 3))
  sSkip)
    sSkip)
  sSkip)))
  (sSeq (sRaise 0)
  sSkip))
noncomputable def d_Disk_read : DefR := ⟨2, 4, true, b_Disk_read⟩
/-- Disk_twin(self); slots: 0 self, 1 found, 2 cells -/
noncomputable def b_Disk_twin (Ph : Nat → List D → Sto → R D) : MS := (sSeq (sAsg (mMake "Disk" (Ph 24) [(mFld (fOk "places") "places" (mVar 0))]) (gVar 1))
  (sSeq (sFldS (fOk "copies") "copies" (mVar 1) (mCompN (iSeq (mFld (fOk "copies") "copies" (mVar 0))) [2] (gVar 2) none (mCall bListN [(mVar 2)])))
  (sSeq (sRet (mVar 1))
  sSkip)))
noncomputable def d_Disk_twin : DefR := ⟨1, 3, false, b_Disk_twin⟩
noncomputable def tbl : List DefR := [d_groups_of, d_do_puts, d_cut_steps, d_after_cut, d_is_number, d_is_content, d_sum_of, d_cell_of, d_is_right, d__law_mixed, d__law_draws, d__law_next, d__law_same, d__law_all_same, d__law_cell, d__law_content, d__law_put, d__law_steps, d__law_groups, d__law_kept, d__law_fill, d__law_cut, d__law_has, d_law, d_Disk___init__, d_Disk_cell, d_Disk_rot, d_Disk_write, d_Disk_look, d_Disk_read, d_Disk_twin]
def cc : CC := { N := [], sc := { kind := .function, names := [], isGenerator := false, isCoroutine := false }, dfn := true, cok := fun _ => true, fns := [("groups_of" : Str), ("do_puts" : Str), ("cut_steps" : Str), ("after_cut" : Str), ("is_number" : Str), ("is_content" : Str), ("sum_of" : Str), ("cell_of" : Str), ("is_right" : Str), ("_law_mixed" : Str), ("_law_draws" : Str), ("_law_next" : Str), ("_law_same" : Str), ("_law_all_same" : Str), ("_law_cell" : Str), ("_law_content" : Str), ("_law_put" : Str), ("_law_steps" : Str), ("_law_groups" : Str), ("_law_kept" : Str), ("_law_fill" : Str), ("_law_cut" : Str), ("_law_has" : Str), ("law" : Str)], gl := [("FACTOR", G_FACTOR), ("ROUND", G_ROUND), ("SPOTS_AHEAD", G_SPOTS_AHEAD)], kd := [], xcs := ["Lost"], sub := Sub, blt := ["len", "abs", "min", "all", "tuple", "list", "str", "isinstance", "int", "bool", "range", "zip", "reversed"], mt := fun l c => [(3, 13), (3, 14), (6, 26), (52, 22), (52, 23), (52, 56), (78, 23), (78, 24), (85, 17), (131, 22), (139, 23), (139, 24), (142, 36), (147, 16), (148, 21), (165, 17), (165, 18), (165, 39), (182, 17), (182, 18), (182, 51)].contains (l, c), fuel := 1000, ocl := ocl0 }
/-- one level more -/
theorem phi_groups_of (n : Nat) (ds : List D) (st : Sto) : Phi tbl (n + 1) 0 ds st = runDef d_groups_of (Phi tbl n) ds st := rfl
theorem phi_do_puts (n : Nat) (ds : List D) (st : Sto) : Phi tbl (n + 1) 1 ds st = runDef d_do_puts (Phi tbl n) ds st := rfl
theorem phi_cut_steps (n : Nat) (ds : List D) (st : Sto) : Phi tbl (n + 1) 2 ds st = runDef d_cut_steps (Phi tbl n) ds st := rfl
theorem phi_after_cut (n : Nat) (ds : List D) (st : Sto) : Phi tbl (n + 1) 3 ds st = runDef d_after_cut (Phi tbl n) ds st := rfl
theorem phi_is_number (n : Nat) (ds : List D) (st : Sto) : Phi tbl (n + 1) 4 ds st = runDef d_is_number (Phi tbl n) ds st := rfl
theorem phi_is_content (n : Nat) (ds : List D) (st : Sto) : Phi tbl (n + 1) 5 ds st = runDef d_is_content (Phi tbl n) ds st := rfl
theorem phi_sum_of (n : Nat) (ds : List D) (st : Sto) : Phi tbl (n + 1) 6 ds st = runDef d_sum_of (Phi tbl n) ds st := rfl
theorem phi_cell_of (n : Nat) (ds : List D) (st : Sto) : Phi tbl (n + 1) 7 ds st = runDef d_cell_of (Phi tbl n) ds st := rfl
theorem phi_is_right (n : Nat) (ds : List D) (st : Sto) : Phi tbl (n + 1) 8 ds st = runDef d_is_right (Phi tbl n) ds st := rfl
theorem phi__law_mixed (n : Nat) (ds : List D) (st : Sto) : Phi tbl (n + 1) 9 ds st = runDef d__law_mixed (Phi tbl n) ds st := rfl
theorem phi__law_draws (n : Nat) (ds : List D) (st : Sto) : Phi tbl (n + 1) 10 ds st = runDef d__law_draws (Phi tbl n) ds st := rfl
theorem phi__law_next (n : Nat) (ds : List D) (st : Sto) : Phi tbl (n + 1) 11 ds st = runDef d__law_next (Phi tbl n) ds st := rfl
theorem phi__law_same (n : Nat) (ds : List D) (st : Sto) : Phi tbl (n + 1) 12 ds st = runDef d__law_same (Phi tbl n) ds st := rfl
theorem phi__law_all_same (n : Nat) (ds : List D) (st : Sto) : Phi tbl (n + 1) 13 ds st = runDef d__law_all_same (Phi tbl n) ds st := rfl
theorem phi__law_cell (n : Nat) (ds : List D) (st : Sto) : Phi tbl (n + 1) 14 ds st = runDef d__law_cell (Phi tbl n) ds st := rfl
theorem phi__law_content (n : Nat) (ds : List D) (st : Sto) : Phi tbl (n + 1) 15 ds st = runDef d__law_content (Phi tbl n) ds st := rfl
theorem phi__law_put (n : Nat) (ds : List D) (st : Sto) : Phi tbl (n + 1) 16 ds st = runDef d__law_put (Phi tbl n) ds st := rfl
theorem phi__law_steps (n : Nat) (ds : List D) (st : Sto) : Phi tbl (n + 1) 17 ds st = runDef d__law_steps (Phi tbl n) ds st := rfl
theorem phi__law_groups (n : Nat) (ds : List D) (st : Sto) : Phi tbl (n + 1) 18 ds st = runDef d__law_groups (Phi tbl n) ds st := rfl
theorem phi__law_kept (n : Nat) (ds : List D) (st : Sto) : Phi tbl (n + 1) 19 ds st = runDef d__law_kept (Phi tbl n) ds st := rfl
theorem phi__law_fill (n : Nat) (ds : List D) (st : Sto) : Phi tbl (n + 1) 20 ds st = runDef d__law_fill (Phi tbl n) ds st := rfl
theorem phi__law_cut (n : Nat) (ds : List D) (st : Sto) : Phi tbl (n + 1) 21 ds st = runDef d__law_cut (Phi tbl n) ds st := rfl
theorem phi__law_has (n : Nat) (ds : List D) (st : Sto) : Phi tbl (n + 1) 22 ds st = runDef d__law_has (Phi tbl n) ds st := rfl
theorem phi_law (n : Nat) (ds : List D) (st : Sto) : Phi tbl (n + 1) 23 ds st = runDef d_law (Phi tbl n) ds st := rfl
theorem phi_Disk___init__ (n : Nat) (ds : List D) (st : Sto) : Phi tbl (n + 1) 24 ds st = runDef d_Disk___init__ (Phi tbl n) ds st := rfl
theorem phi_Disk_cell (n : Nat) (ds : List D) (st : Sto) : Phi tbl (n + 1) 25 ds st = runDef d_Disk_cell (Phi tbl n) ds st := rfl
theorem phi_Disk_rot (n : Nat) (ds : List D) (st : Sto) : Phi tbl (n + 1) 26 ds st = runDef d_Disk_rot (Phi tbl n) ds st := rfl
theorem phi_Disk_write (n : Nat) (ds : List D) (st : Sto) : Phi tbl (n + 1) 27 ds st = runDef d_Disk_write (Phi tbl n) ds st := rfl
theorem phi_Disk_look (n : Nat) (ds : List D) (st : Sto) : Phi tbl (n + 1) 28 ds st = runDef d_Disk_look (Phi tbl n) ds st := rfl
theorem phi_Disk_read (n : Nat) (ds : List D) (st : Sto) : Phi tbl (n + 1) 29 ds st = runDef d_Disk_read (Phi tbl n) ds st := rfl
theorem phi_Disk_twin (n : Nat) (ds : List D) (st : Sto) : Phi tbl (n + 1) 30 ds st = runDef d_Disk_twin (Phi tbl n) ds st := rfl
end LK55
namespace MI
open PySem PySem.Spec PyProof.Rows L2 MX MI
local macro_rules | `(tactic| trivial) => `(tactic| simp only [w_ok, w_exc, w_C, w_bin, w_neg, w_and, w_or, w_not, w_ifE, w_args0, w_args, w_tup, w_lst, w_new, w_call, w_isI, w_chain, w_opt0, w_opt, w_sl, w_st, w_methL, w_methS, on_bl, ot_bl, w_add, w_addT, w_addL, w_addS, w_sub, w_mul, w_mod, w_div, w_pow, w_lt, w_le, w_gt, w_ge, w_eq, w_ne, w_eqB, w_neB, w_isB, w_isNB, w_lenT, w_lenL, w_tupL, w_tupT, w_listT, w_listL, w_ixT, w_ixL, w_slT, w_slL, w_stT, w_seq, w_skip, w_asg, w_asgT, w_expr, w_ret, w_sIf, w_raise, w_for, w_set, w_try, w_pick0, w_pick,
  mVar_app, List.getElem?_cons_zero, List.getElem?_cons_succ, List.set_cons_zero, List.set_cons_succ, startD, List.map_cons, List.map_nil, List.length_cons, List.length_nil, List.length_map, Nat.zero_add, Nat.reduceAdd, Nat.reduceSub, List.replicate, List.cons_append, List.nil_append, gTupV_app, gVars_nil, gVars_cons, gVar_app, Option.some.injEq, exists_eq_left', wipeD_nil, wipeD_cons, atI0, atI1, atI2,
  decide_eq_true_eq, decide_eq_false_iff_not, Bool.not_eq_true', Bool.not_eq_false', Int.reduceLT, Int.reduceLE, Int.reduceAdd, Int.reduceMul, Int.reduceSub, Int.reduceNeg, true_and, and_true, Bool.true_eq_false, Bool.false_eq_true, false_implies, implies_true, true_implies, Nat.reduceLeDiff, fz_same, ii_int_int, ii_bool_int, ii_int_bl, ii_bool_bl, ii_tuple_tup, ii_str_str, ii_list_lst, ii_list_tup, ii_tuple_lst, ii_tuple_int, ii_list_int, ii_str_int, ii_str_tup, ii_int_str, ii_int_tup, ii_int_lst, ii_int_non, ii_bool_str, ii_tuple_str, ii_tuple_non, ii_list_non, ii_str_non, not_true_eq_false, not_false_eq_true, holds_vals, items_vals, eq_self])
theorem holds_live (l : Nat) (ds : List D) (st : Sto) : (Src.live l ds).holds st ↔ st[l]? = some (.lst ds) := Iff.rfl
theorem last_at (st : Sto) (o : SO) : (st ++ [o])[st.length]? = some o := by simp
theorem set_last (st : Sto) (o o' : SO) : (st ++ [o]).set st.length o' = st ++ [o'] := by simp
theorem ext_tup {st : Sto} {xs ys : List D} (h : xs.length + ys.length ≤ 1000000) : mExtend (.ref st.length) [.tup ys] (st ++ [.lst xs]) = .ok .non (st ++ [.lst (xs ++ ys)]) := by
  unfold mExtend
  simp only [last_at, deref_tup, if_pos (small_le h), set_last]
theorem isl_last {st : Sto} {xs : List D} : isLst (st ++ [.lst xs]) (.ref st.length) = true := by simp [isLst, deref]
theorem old_at {T : Sto} {i : Nat} {o x : SO} (h : T[i]? = some o) : (T ++ [x])[i]? = some o := by
  have hi : i < T.length := (List.getElem?_eq_some_iff.mp h).1
  rw [List.getElem?_append_left hi]
  exact h
theorem iSeq_ref {i l : Nat} {env : DEnv} {st : Sto} {ds : List D} (he : env[i]? = some (some (.ref l))) (h : st[l]? = some (.lst ds)) : iSeq (mVar i) env st = .ok (.live l ds) st := by
  unfold iSeq mVar
  simp only [he, bind_ok, h]
theorem isl_ref {due : List D} {st : Sto} {l : Nat} (h : st[l]? = some (.lst due)) : isInst "list" (.ref l) st = .ok (.bl true) st := by
  unfold isInst tyName
  rw [deref_ref_lst h]
  rfl
theorem app_ref {due : List D} {st : Sto} {l : Nat} {x : D} (h : st[l]? = some (.lst due)) (hl : due.length < 1000000) : mAppend (.ref l) [x] st = .ok .non (st.set l (.lst (due ++ [x]))) := by
  unfold mAppend
  have hz : due.length < sizeLine := by rw [sizeLine_eq]; omega
  simp only [h, if_pos hz]
theorem isLst_ref {due : List D} {st : Sto} {l : Nat} (h : st[l]? = some (.lst due)) : isLst st (.ref l) = true := by
  unfold isLst
  rw [deref_ref_lst h]
/-! ### a leaf drawn -/
noncomputable def g__law_leaf (i__law_next : Nat) (Ph : Nat → List D → Sto → R D) : MS := (sSeq (sAsg (mCall (Ph i__law_next) [(mVar 0)]) (gVar 1))
  (sSeq (sIf (mBin opEq (mBin opMod (mVar 1) (mC (.int 4))) (mC (.int 0)))
    (sSeq (sRet (mBin opIx (mLst [(mTup []), (mTup [(mC (.int 0))]), (mTup [(mC (.int 255)), (mC (.int 0))]), (mTup [(mC (.int 7)), (mC (.int 7)), (mC (.int 7)), (mC (.int 7)), (mC (.int 7)), (mC (.int 7)), (mC (.int 7)), (mC (.int 7))])]) (mBin opMod (mBin opDiv (mVar 1) (mC (.int 4))) (mC (.int 4)))))
  sSkip)
    sSkip)
  (sSeq (sRet (mCall bTuple [(mComp (iRange1 (mBin opMod (mBin opDiv (mVar 1) (mC (.int 3))) (mC (.int 9)))) [2] (gVar 2) none (mBin opMod (mBin opAdd (mBin opDiv (mVar 1) (mC (.int 7))) (mBin opMul (mBin opMul (mVar 2) (mVar 2)) (mBin opMod (mVar 1) (mC (.int 5))))) (mC (.int 256))))]))
  sSkip)))
def LeafDrawOk (f : List D → Sto → R D) : Prop := ∀ (l : Nat) (st : Sto) (ds : List Int), st[l]? = some (.lst (ds.map .int)) → InD ds → ∃ (x : List Int) (ds' : List Int), (∀ i ∈ x, 0 ≤ i ∧ i ≤ 255) ∧ x.length ≤ 8 ∧ InD ds' ∧ f [.ref l] st = .ok (.tup (x.map .int)) (st.set l (.lst (ds'.map .int)))
theorem leafdraw_ok {Ph : Nat → List D → Sto → R D} {i : Nat} (hn : NextOk (Ph i)) : LeafDrawOk (runDef ⟨1, 3, true, g__law_leaf i⟩ Ph) := fun l st ds hs hd => by
  obtain ⟨y, ds1, y0, y1, h1, e1⟩ := hn l st ds hs hd
  have key : (runDef ⟨1, 3, true, g__law_leaf i⟩ Ph [.ref l] st).wp (fun v t => ∃ x : List Int, (∀ i ∈ x, 0 ≤ i ∧ i ≤ 255) ∧ x.length ≤ 8 ∧ v = .tup (x.map .int) ∧ t = st.set l (.lst (ds1.map .int))) nX := by
    refine def_wp rfl rfl ?_
    unfold g__law_leaf
    trivial
    rw [e1]
    trivial
    refine ⟨fun h4 => ⟨divOkP (by decide) (by decide), ?_⟩, fun h4 => ?_⟩
    · obtain ⟨d, hd, hm⟩ := atI_int (xs := [D.tup [], D.tup [D.int 0], D.tup [D.int 255, D.int 0], D.tup [D.int 7, D.int 7, D.int 7, D.int 7, D.int 7, D.int 7, D.int 7, D.int 7]]) (i := y / 4 % 4) (by omega) (by show y / 4 % 4 < 4; omega)
      refine ⟨d, hd, ?_⟩
      rw [fz_same (by simp)]
      have hm := List.mem_of_getElem? hm
      simp only [List.mem_cons, List.not_mem_nil, or_false] at hm
      rcases hm with rfl | rfl | rfl | rfl
      · (exact ⟨[], by simp, by decide, rfl, rfl⟩)
      · (exact ⟨[0], by simp, by decide, rfl, rfl⟩)
      · (exact ⟨[255, 0], by simp, by decide, rfl, rfl⟩)
      · (exact ⟨[7, 7, 7, 7, 7, 7, 7, 7], by simp, by decide, rfl, rfl⟩)
    · have hr : iRange1 (mBin opMod (mBin opDiv (mVar 1) (mC (.int 3))) (mC (.int 9))) [some (.ref l), some (.int y), none] (st.set l (.lst (ds1.map .int))) = .ok (.vals (rangeD 0 (y / 3 % 9).toNat)) (st.set l (.lst (ds1.map .int))) := by
        refine iRange1_int (R.wp.eq ?_) (by omega) (by omega)
        trivial
        exact divOkP (by decide) (by decide)
      have hM := mComp_map (vs := [2]) (g := gVar 2) (e := (mBin opMod (mBin opAdd (mBin opDiv (mVar 1) (mC (.int 7))) (mBin opMul (mBin opMul (mVar 2) (mVar 2)) (mBin opMod (mVar 1) (mC (.int 5))))) (mC (.int 256)))) (fun d => match d with | .int k => D.int ((y / 7 + k * k * (y % 5)) % 256) | d => d) hr (fun x hx => by
        obtain ⟨k, hk, rfl⟩ := List.mem_map.mp hx
        refine ⟨_, rfl, R.wp.eq ?_⟩
        trivial
        have hk := List.mem_range.mp hk
        exact ⟨divOkP (by decide) (by decide), mul_small (by omega) (by omega), mul_small (by omega) (by omega)⟩) (by rw [rangeD_len]; omega)
      rw [hM]
      trivial
      rw [fz_same (by simp)]
      refine ⟨(List.range (y / 3 % 9).toNat).map fun k : Nat => (y / 7 + (0 + (k : Int)) * (0 + (k : Int)) * (y % 5)) % 256, fun i hi => ?_, by simp; omega, ?_, rfl⟩
      · obtain ⟨k, _, rfl⟩ := List.mem_map.mp hi
        omega
      · simp [rangeD]
  obtain ⟨v, t, e, x, a, b, rfl, rfl⟩ := key.get
  exact ⟨x, ds1, a, b, h1, e⟩
end MI
namespace MI
open PySem PySem.Spec PyProof.Rows L2 MX MI
local macro_rules | `(tactic| trivial) => `(tactic| simp only [w_ok, w_exc, w_C, w_bin, w_neg, w_and, w_or, w_not, w_ifE, w_args0, w_args, w_tup, w_lst, w_new, w_call, w_isI, w_chain, w_opt0, w_opt, w_sl, w_st, w_methL, w_methS, on_bl, ot_bl, w_add, w_addT, w_addL, w_addS, w_sub, w_mul, w_mod, w_div, w_pow, w_lt, w_le, w_gt, w_ge, w_eq, w_ne, w_eqB, w_neB, w_isB, w_isNB, w_lenT, w_lenL, w_tupL, w_tupT, w_listT, w_listL, w_ixT, w_ixL, w_slT, w_slL, w_stT, w_seq, w_skip, w_asg, w_asgT, w_expr, w_ret, w_sIf, w_raise, w_for, w_set, w_try, w_pick0, w_pick,
  mVar_app, List.getElem?_cons_zero, List.getElem?_cons_succ, List.set_cons_zero, List.set_cons_succ, startD, List.map_cons, List.map_nil, List.length_cons, List.length_nil, List.length_map, Nat.zero_add, Nat.reduceAdd, Nat.reduceSub, List.replicate, List.cons_append, List.nil_append, gTupV_app, gVars_nil, gVars_cons, gVar_app, Option.some.injEq, exists_eq_left', wipeD_nil, wipeD_cons, atI0, atI1, atI2,
  decide_eq_true_eq, decide_eq_false_iff_not, Bool.not_eq_true', Bool.not_eq_false', Int.reduceLT, Int.reduceLE, Int.reduceAdd, Int.reduceMul, Int.reduceSub, Int.reduceNeg, true_and, and_true, Bool.true_eq_false, Bool.false_eq_true, false_implies, implies_true, true_implies, Nat.reduceLeDiff, fz_same, ii_int_int, ii_bool_int, ii_int_bl, ii_bool_bl, ii_tuple_tup, ii_str_str, ii_list_lst, ii_list_tup, ii_tuple_lst, ii_tuple_int, ii_list_int, ii_str_int, ii_str_tup, ii_int_str, ii_int_tup, ii_int_lst, ii_int_non, ii_bool_str, ii_tuple_str, ii_tuple_non, ii_list_non, ii_str_non, not_true_eq_false, not_false_eq_true, holds_vals, items_vals, eq_self])
/-! wp rules for objects; stores. -/
section
variable {α : Type} {Q : α → Sto → Prop} {X : Nat → Sto → Prop} {P : D → Sto → Prop} {env : DEnv} {st : Sto} {N : DEnv → Sto → Prop} {T : D → Sto → Prop} {Y : Nat → DEnv → Sto → Prop}
theorem w_fld {ok : Str → Bool} {f : Str} {a : ME} : (mFld ok f a env st).wp P X ↔ (a env st).wp (fun x st => (getFld ok f x st).wp P X) X := by
  unfold mFld
  rw [w_bind]
theorem w_methO {c m : Str} {f : List D → Sto → R D} {o : ME} {es : List ME} : (mMethO c m f o es env st).wp P X ↔ (o env st).wp (fun x st => isObj c m x st = true ∧ (mArgs es env st).wp (fun ds st => (f (x :: ds) st).wp P X) X) X := by
  unfold mMethO
  rw [w_bind]
  simp only [wp_eq]
  cases o env st with
  | ok d s =>
    show R.wq (if isObj c m d s = true then _ else _) P X ↔ isObj c m d s = true ∧ _
    by_cases h : isObj c m d s = true
    · simp only [h, if_true, q_bind, true_and]
    · simp only [h, if_false]
      exact ⟨fun z => z.elim, fun z => absurd z.1 (by simp)⟩
  | exc k s => rfl
  | stuck => rfl
theorem w_make {c : Str} {f : List D → Sto → R D} {es : List ME} : (mMake c f es env st).wp P X ↔ (mArgs es env st).wp (fun ds st => (f (.ref st.length :: ds) (st ++ [.ins c []])).wp (fun v t => v = .non ∧ P (.ref st.length) t) X) X := by
  unfold mMake
  rw [w_bind]
  simp only [wp_eq]
  have key : ∀ (ds : List D) (s : Sto), (made s.length (f (.ref s.length :: ds) (s ++ [.ins c []]))).wq P X ↔ (f (.ref s.length :: ds) (s ++ [.ins c []])).wq (fun v t => v = .non ∧ P (.ref s.length) t) X := fun ds s => by
    cases f (.ref s.length :: ds) (s ++ [.ins c []]) with
    | ok v t =>
      cases v <;> first
      | exact ⟨fun h => ⟨rfl, h⟩, fun h => h.2⟩
      | exact ⟨fun h => h.elim, fun h => absurd h.1 (by intro z; cases z)⟩
    | exc k t => rfl
    | stuck => rfl
  simp only [key]
theorem w_fldS {ok : Str → Bool} {f : Str} {o e : ME} : (sFldS ok f o e env st).wp N T Y ↔ (e env st).wp (fun d st => (o env st).wp (fun x st => (setFld ok f x d st).wp (fun _ t => N env t) (fun c s => Y c env s)) (fun c s => Y c env s)) (fun c s => Y c env s) := by
  unfold sFldS
  simp only [wp_eq, swp_eq]
  cases q : e env st with
  | stuck => simp only [R.bind_stuck]; rfl
  | exc c s => simp only [R.bind_exc]; rfl
  | ok d s =>
    simp only [R.bind_ok]
    cases q2 : o env s with
    | stuck => simp only [R.bind_stuck]; show _ ↔ R.wq (o env s) _ _; rw [q2]; rfl
    | exc c s2 => simp only [R.bind_exc]; show _ ↔ R.wq (o env s) _ _; rw [q2]; rfl
    | ok x s2 =>
      simp only [R.bind_ok]
      show _ ↔ R.wq (o env s) _ _
      rw [q2]
      show _ ↔ R.wq (setFld ok f x d s2) _ _
      cases setFld ok f x d s2 <;> rfl
/-! fields -/
theorem getFld_at {ok : Str → Bool} {f c : Str} {l : Nat} {fs : List (Str × D)} {d : D} (h : st[l]? = some (.ins c fs)) (ho : ok c = true) (hf : fs.lookup f = some d) : getFld ok f (.ref l) st = .ok d st := by
  unfold getFld
  simp only [h, ho, if_true, hf]
theorem setFld_at {ok : Str → Bool} {f c : Str} {l : Nat} {fs : List (Str × D)} {d : D} (h : st[l]? = some (.ins c fs)) (ho : ok c = true) (hf : fs.length < 1000) : setFld ok f (.ref l) d st = .ok () (st.set l (.ins c (putFD f d fs))) := by
  unfold setFld
  simp only [h, ho, hf, and_self, if_true]
theorem isObj_at {c m : Str} {l : Nat} {fs : List (Str × D)} (h : st[l]? = some (.ins c fs)) (hf : fs.lookup m = none) : isObj c m (.ref l) st = true := by
  unfold isObj
  simp only [h, hf, decide_true]
  rfl
/-! lists of the store -/
theorem ix_ref {l : Nat} {ds : List D} {i : Nat} {d : D} (h : st[l]? = some (.lst ds)) (hi : ds[i]? = some d) : opIx (.ref l) (.int (i : Int)) st = .ok d st := by
  unfold opIx
  simp only [deref_ref_lst h, atN hi]
theorem set_ref {l : Nat} {ds : List D} {i : Nat} {d : D} (h : st[l]? = some (.lst ds)) (hi : i < ds.length) (hl : ds.length ≤ 1000000) : setAt (.ref l) (.int (i : Int)) d st = .ok () (st.set l (.lst (ds.set i d))) := by
  unfold setAt
  have e : ixN ds.length (i : Int) = some i := by
    unfold ixN
    simp
    omega
  simp only [h, e]
theorem len_ref {l : Nat} {ds : List D} (h : st[l]? = some (.lst ds)) : bLen [.ref l] st = .ok (.int ds.length) st := by
  unfold bLen lenD
  simp only [deref_ref_lst h]
theorem mulN_non {l k : Nat} (h : st[l]? = some (.lst [.non])) (hk : k ≤ 1000) : opMulN (.ref l) (.int (k : Int)) st = .ok (.ref st.length) (st ++ [.lst (List.replicate k .non)]) := by
  unfold opMulN
  simp only [deref_ref_lst h]
  have e : (List.replicate k [D.non]).flatten = List.replicate k D.non := by
    induction k with
    | zero => rfl
    | succ n ih => rw [List.replicate_succ, List.flatten_cons, ih (by omega), List.replicate_succ]; rfl
  have hl : ([D.non] : List D).length * ((k : Int)).toNat ≤ sizeLine := small_le (by simp; omega)
  rw [if_pos ⟨by omega, by omega, hl⟩, Int.toNat_natCast, e]
/-- a def without a return -/
theorem def_unit {d : DefR} {Ph : Nat → List D → Sto → R D} {ds : List D} {st' : Sto} (ha : ds.length = d.arity) (hf : d.frz = true) (hl : st'.length = st.length)
    (h : (d.body Ph (startD d.slots ds) st).wp (fun _ t => t = st') (fun v t => v = .non ∧ t = st') nXS) : runDef d Ph ds st = .ok .non st' := by
  refine (def_wp (P := fun v t => v = .non ∧ t = st') (X := nX) ha hf (h.mono (fun _ t z => ?_) (fun v t z => ?_) (fun _ _ _ z => z))).eq
  · subst z
    refine ⟨rfl, ?_⟩
    unfold cutSt
    rw [if_pos hl]
  · obtain ⟨rfl, rfl⟩ := z
    rw [fz_same hl]
    exact ⟨rfl, rfl⟩
/-- a def without a return whose objects stay -/
theorem raw_unit {d : DefR} {Ph : Nat → List D → Sto → R D} {ds : List D} {P : Sto → Prop} (ha : ds.length = d.arity) (hf : d.frz = false)
    (h : (d.body Ph (startD d.slots ds) st).wp (fun _ t => P t) (fun v t => v = .non ∧ P t) nXS) : ∃ t, runDef d Ph ds st = .ok .non t ∧ P t := by
  rw [swp_eq] at h
  unfold runDef
  rw [if_pos ha]
  cases q : d.body Ph (startD d.slots ds) st with
  | rt v t => rw [q] at h; obtain ⟨rfl, h⟩ := h; exact ⟨t, by simp [hf], h⟩
  | nx e t => rw [q] at h; exact ⟨t, by simp [hf], h⟩
  | exc c e t => rw [q] at h; exact h.elim
  | bk e t => rw [q] at h; exact h.elim
  | ct e t => rw [q] at h; exact h.elim
  | stuck => rw [q] at h; exact h.elim
/-- a new list handed back by value -/
theorem freeze_new {st1 : Sto} {ds : List D} (hl : st1.length = st.length) (hs : ∀ (i : Nat) (o : SO), i < st.length → st1[i]? = some o → st[i]? = some o ∨ belowO st.length o = true) (hb : belows st.length ds = true) : freeze st (.ref st.length) (st1 ++ [.lst ds]) = .ok (.lst ds) st1 := by
  have hS : Same st (st1 ++ [.lst ds]) := fun i o hi ho => by
    rw [List.getElem?_append_left (by omega)] at ho
    exact hs i o hi ho
  unfold freeze
  rw [if_neg (by simp; omega), if_pos hS]
  simp only [Nat.lt_irrefl, if_false]
  have e : (st1 ++ [SO.lst ds])[st.length]? = some (.lst ds) := by rw [← hl]; simp
  rw [e]
  simp only [hb, if_true]
  rw [← hl, List.take_left]
theorem w_isNN : (opIs .non .non st).wp P X ↔ P (.bl true) st := by rw [show opIs .non .non st = .ok (.bl true) st from rfl, w_ok]
theorem w_isIN {i : Int} : (opIs (.int i) .non st).wp P X ↔ P (.bl false) st := by rw [show opIs (.int i) .non st = .ok (.bl false) st from rfl, w_ok]
theorem w_isTN {i : List D} : (opIs (.tup i) .non st).wp P X ↔ P (.bl false) st := by rw [show opIs (.tup i) .non st = .ok (.bl false) st from rfl, w_ok]
theorem w_isSN {i : Str} : (opIs (.str i) .non st).wp P X ↔ P (.bl false) st := by rw [show opIs (.str i) .non st = .ok (.bl false) st from rfl, w_ok]
theorem w_inNN : (opIsNot .non .non st).wp P X ↔ P (.bl false) st := by rw [show opIsNot .non .non st = .ok (.bl false) st from rfl, w_ok]
theorem w_inTN {i : List D} : (opIsNot (.tup i) .non st).wp P X ↔ P (.bl true) st := by rw [show opIsNot (.tup i) .non st = .ok (.bl true) st from rfl, w_ok]
theorem set_set (st : Sto) (l : Nat) (a b : SO) : (st.set l a).set l b = st.set l b := by simp
end
end MI
/-! MiBl: blocks. The texts of the program's defs, and what they come to. -/
namespace MI
open PySem PySem.Spec PyProof.Rows L2 MX
local macro_rules | `(tactic| trivial) => `(tactic| simp only [w_ok, w_exc, w_C, w_bin, w_neg, w_and, w_or, w_not, w_ifE, w_args0, w_args, w_tup, w_lst, w_new, w_call, w_isI, w_chain, w_opt0, w_opt, w_sl, w_st, w_methL, w_methS, on_bl, ot_bl, w_add, w_addT, w_addL, w_addS, w_sub, w_mul, w_mod, w_div, w_pow, w_lt, w_le, w_gt, w_ge, w_eq, w_ne, w_eqB, w_neB, w_isB, w_isNB, w_lenT, w_lenL, w_tupL, w_tupT, w_listT, w_listL, w_ixT, w_ixL, w_slT, w_slL, w_stT, w_seq, w_skip, w_asg, w_asgT, w_expr, w_ret, w_sIf, w_raise, w_for, w_set, w_try, w_pick0, w_pick,
  mVar_app, List.getElem?_cons_zero, List.getElem?_cons_succ, List.set_cons_zero, List.set_cons_succ, startD, List.map_cons, List.map_nil, List.length_cons, List.length_nil, List.length_map, Nat.zero_add, Nat.reduceAdd, Nat.reduceSub, List.replicate, List.cons_append, List.nil_append, gTupV_app, gVars_nil, gVars_cons, gVar_app, Option.some.injEq, exists_eq_left', wipeD_nil, wipeD_cons, atI0, atI1, atI2,
  decide_eq_true_eq, decide_eq_false_iff_not, Bool.not_eq_true', Bool.not_eq_false', Int.reduceLT, Int.reduceLE, Int.reduceAdd, Int.reduceMul, Int.reduceSub, Int.reduceNeg, true_and, and_true, Bool.true_eq_false, Bool.false_eq_true, false_implies, implies_true, true_implies, Nat.reduceLeDiff, fz_same, ii_int_int, ii_bool_int, ii_int_bl, ii_bool_bl, ii_tuple_tup, ii_str_str, ii_list_lst, ii_list_tup, ii_tuple_lst, ii_tuple_int, ii_list_int, ii_str_int, ii_str_tup, ii_int_str, ii_int_tup, ii_int_lst, ii_int_non, ii_bool_str, ii_tuple_str, ii_tuple_non, ii_list_non, ii_str_non, not_true_eq_false, not_false_eq_true, holds_vals, items_vals, eq_self])
/-- name_of(code); slots: 0 code, 1 name -/
noncomputable def g_name_of (x_NoName : Nat) (Ph : Nat → List D → Sto → R D) : MS := (sSeq (sIf (mOr (mNot (mIsI "int" (mVar 0))) (mOr (mIsI "bool" (mVar 0)) (mOr (mBin opLt (mVar 0) (mC (.int 1))) (mBin opGe (mVar 0) (mBin opPow (mC (.int 27)) (mC (.int 8)))))))
    (sSeq (sRaise x_NoName)
  sSkip)
    sSkip)
  (sSeq (sAsg (mC (.str (⟨#[]⟩ : Str))) (gVar 1))
  (sSeq (sWhile (mBin opGt (mVar 0) (mC (.int 0)))
    (sSeq (sIf (mBin opEq (mBin opMod (mVar 0) (mC (.int 27))) (mC (.int 0)))
    (sSeq (sRaise x_NoName)
  sSkip)
    sSkip)
  (sSeq (sAsg (mBin opAdd (mBin opIx (mC (.str (⟨#[97, 98, 99, 100, 101, 102, 103, 104, 105, 106, 107, 108, 109, 110, 111, 112, 113, 114, 115, 116, 117, 118, 119, 120, 121, 122]⟩ : Str))) (mBin opSub (mBin opMod (mVar 0) (mC (.int 27))) (mC (.int 1)))) (mVar 1)) (gVar 1))
  (sSeq (sAsg (mBin opDiv (mVar 0) (mC (.int 27))) (gVar 0))
  sSkip))) 1000)
  (sSeq (sRet (mVar 1))
  sSkip))))
/-- is_number(one); slots: 0 one -/
noncomputable def g_is_number (Ph : Nat → List D → Sto → R D) : MS := (sSeq (sRet (mAnd (mIsI "int" (mVar 0)) (mNot (mIsI "bool" (mVar 0)))))
  sSkip)
/-- is_content(one); slots: 0 one, 1 number -/
noncomputable def g_is_content (i_is_number : Nat) (Ph : Nat → List D → Sto → R D) : MS := (sSeq (sRet (mAnd (mIsI "tuple" (mVar 0)) (mCall bAll [(mComp (iSeq (mVar 0)) [1] (gVar 1) none (mAnd (mCall (Ph i_is_number) [(mVar 1)]) (mBin opGe (mVar 1) (mC (.int 0)))))])))
  sSkip)
/-- height_of(many); slots: 0 many, 1 height, 2 most -/
noncomputable def g_height_of (Ph : Nat → List D → Sto → R D) : MS := (sSeq (sAsg (mC (.int 1)) (gVar 1))
  (sSeq (sAsg (mC (.int 4)) (gVar 2))
  (sSeq (sWhile (mBin opLt (mVar 2) (mVar 0))
    (sSeq (sAsg (mBin opAdd (mVar 1) (mC (.int 1))) (gVar 1))
  (sSeq (sAsg (mBin opMul (mVar 2) (mC (.int 4))) (gVar 2))
  sSkip)) 1000)
  (sSeq (sRet (mVar 1))
  sSkip))))
/-- tops_of(many); slots: 0 many, 1 below -/
noncomputable def g_tops_of (Ph : Nat → List D → Sto → R D) : MS := (sSeq (sAsg (mC (.int 1)) (gVar 1))
  (sSeq (sWhile (mBin opLt (mBin opMul (mVar 1) (mC (.int 4))) (mVar 0))
    (sSeq (sAsg (mBin opMul (mVar 1) (mC (.int 4))) (gVar 1))
  sSkip) 1000)
  (sSeq (sRet (mBin opDiv (mBin opSub (mBin opAdd (mVar 0) (mVar 1)) (mC (.int 1))) (mVar 1)))
  sSkip)))
/-- is_code(number); slots: 0 number -/
noncomputable def g_is_code (i_name_of x_NoName : Nat) (sub : Nat → Nat → Bool) (Ph : Nat → List D → Sto → R D) : MS := (sSeq (sTry sub (sSeq (sExpr (mCall (Ph i_name_of) [(mVar 0)]))
  sSkip) [(x_NoName, (sSeq (sRet (mC (.bl false)))
  sSkip))])
  (sSeq (sRet (mC (.bl true)))
  sSkip))
/-- are_rising(numbers); slots: 0 numbers, 1 one, 2 other -/
noncomputable def g_are_rising (Ph : Nat → List D → Sto → R D) : MS := (sSeq (sRet (mCall bAll [(mComp (iZip (mVar 0) (mSl (mVar 0) (some (mC (.int 1))) none)) [1, 2] (gTupV [1, 2]) none (mBin opLt (mVar 1) (mVar 2)))]))
  sSkip)
/-- is_leaf_block(content); slots: 0 content, 1 number -/
noncomputable def g_is_leaf_block (Ph : Nat → List D → Sto → R D) : MS := (sSeq (sRet (mAnd (mBin opLe (mCall bLen [(mVar 0)]) (mBin opAdd (mC (.int 1)) (mC (.int 8)))) (mCall bAll [(mComp (iSeq (mVar 0)) [1] (gVar 1) none (mBin opLe (mVar 1) (mC (.int 255))))])))
  sSkip)
/-- is_branch_block(content); slots: 0 content, 1 place -/
noncomputable def g_is_branch_block (Ph : Nat → List D → Sto → R D) : MS := (sSeq (sRet (mAnd (mChain opLe opLe (mC (.int 2)) (mCall bLen [(mVar 0)]) (mBin opAdd (mC (.int 1)) (mC (.int 4)))) (mCall bAll [(mComp (iSeq (mVar 0)) [1] (gVar 1) none (mBin opGt (mVar 1) (mC (.int 0))))])))
  sSkip)
/-- is_file_block(content); slots: 0 content, 1 place -/
noncomputable def g_is_file_block (i_tops_of : Nat) (Ph : Nat → List D → Sto → R D) : MS := (sSeq (sIf (mOr (mBin opLt (mCall bLen [(mVar 0)]) (mC (.int 2))) (mOr (mBin opGt (mBin opIx (mVar 0) (mC (.int 1))) (mC (.int 64))) (mBin opNe (mCall bLen [(mVar 0)]) (mBin opAdd (mC (.int 2)) (mCall (Ph i_tops_of) [(mBin opIx (mVar 0) (mC (.int 1)))])))))
    (sSeq (sRet (mC (.bl false)))
  sSkip)
    sSkip)
  (sSeq (sRet (mCall bAll [(mComp (iSeq (mSl (mVar 0) (some (mC (.int 2))) none)) [1] (gVar 1) none (mBin opGt (mVar 1) (mC (.int 0))))]))
  sSkip))
/-- is_folder_block(content); slots: 0 content, 1 codes, 2 code, 3 place -/
noncomputable def g_is_folder_block (i_are_rising i_is_code : Nat) (Ph : Nat → List D → Sto → R D) : MS := (sSeq (sAsg (mSt (mVar 0) (some (mC (.int 1))) none (some (mC (.int 2)))) (gVar 1))
  (sSeq (sIf (mOr (mBin opEq (mBin opMod (mCall bLen [(mVar 0)]) (mC (.int 2))) (mC (.int 0))) (mOr (mBin opGt (mCall bLen [(mVar 1)]) (mC (.int 8))) (mNot (mCall (Ph i_are_rising) [(mVar 1)]))))
    (sSeq (sRet (mC (.bl false)))
  sSkip)
    sSkip)
  (sSeq (sRet (mAnd (mCall bAll [(mComp (iSeq (mVar 1)) [2] (gVar 2) none (mCall (Ph i_is_code) [(mVar 2)]))]) (mCall bAll [(mComp (iSeq (mSt (mVar 0) (some (mC (.int 2))) none (some (mC (.int 2))))) [3] (gVar 3) none (mBin opGt (mVar 3) (mC (.int 0))))])))
  sSkip)))
/-- is_block(content); slots: 0 content -/
noncomputable def g_is_block (i_is_content i_is_leaf_block i_is_branch_block i_is_file_block i_is_folder_block : Nat) (Ph : Nat → List D → Sto → R D) : MS := (sSeq (sIf (mOr (mNot (mCall (Ph i_is_content) [(mVar 0)])) (mOr (mBin opEq (mCall bLen [(mVar 0)]) (mC (.int 0))) (mBin opGt (mBin opIx (mVar 0) (mC (.int 0))) (mC (.int 3)))))
    (sSeq (sRet (mC (.bl false)))
  sSkip)
    sSkip)
  (sSeq (sIf (mBin opEq (mBin opIx (mVar 0) (mC (.int 0))) (mC (.int 0)))
    (sSeq (sRet (mCall (Ph i_is_leaf_block) [(mVar 0)]))
  sSkip)
    sSkip)
  (sSeq (sIf (mBin opEq (mBin opIx (mVar 0) (mC (.int 0))) (mC (.int 1)))
    (sSeq (sRet (mCall (Ph i_is_branch_block) [(mVar 0)]))
  sSkip)
    sSkip)
  (sSeq (sIf (mBin opEq (mBin opIx (mVar 0) (mC (.int 0))) (mC (.int 2)))
    (sSeq (sRet (mCall (Ph i_is_file_block) [(mVar 0)]))
  sSkip)
    sSkip)
  (sSeq (sRet (mCall (Ph i_is_folder_block) [(mVar 0)]))
  sSkip)))))
/-- kind_of(content); slots: 0 content -/
noncomputable def g_kind_of (Ph : Nat → List D → Sto → R D) : MS := (sSeq (sRet (mBin opIx (mC (.tup [(.str (⟨#[108, 101, 97, 102]⟩ : Str)), (.str (⟨#[98, 114, 97, 110, 99, 104]⟩ : Str)), (.str (⟨#[102, 105, 108, 101]⟩ : Str)), (.str (⟨#[102, 111, 108, 100, 101, 114]⟩ : Str))])) (mBin opIx (mVar 0) (mC (.int 0)))))
  sSkip)
/-- links(content); slots: 0 content -/
noncomputable def g_links (Ph : Nat → List D → Sto → R D) : MS := (sSeq (sIf (mBin opEq (mBin opIx (mVar 0) (mC (.int 0))) (mC (.int 0)))
    (sSeq (sRet (mTup []))
  sSkip)
    sSkip)
  (sSeq (sIf (mBin opEq (mBin opIx (mVar 0) (mC (.int 0))) (mC (.int 1)))
    (sSeq (sRet (mSl (mVar 0) (some (mC (.int 1))) none))
  sSkip)
    sSkip)
  (sSeq (sIf (mBin opEq (mBin opIx (mVar 0) (mC (.int 0))) (mC (.int 2)))
    (sSeq (sRet (mSl (mVar 0) (some (mC (.int 2))) none))
  sSkip)
    sSkip)
  (sSeq (sRet (mSt (mVar 0) (some (mC (.int 2))) none (some (mC (.int 2)))))
  sSkip))))
/-- _law_same(_law_found, _law_due); slots: 0 _law_found, 1 _law_due -/
noncomputable def g__law_same (i__law_all_same : Nat) (Ph : Nat → List D → Sto → R D) : MS := (sSeq (sIf (mIsI "tuple" (mVar 1))
    (sSeq (sIf (mOr (mNot (mIsI "tuple" (mVar 0))) (mBin opNe (mCall bLen [(mVar 0)]) (mCall bLen [(mVar 1)])))
    (sSeq (sRet (mC (.bl false)))
  sSkip)
    sSkip)
  (sSeq (sRet (mCall (Ph i__law_all_same) [(mCall bList [(mVar 0)]), (mCall bList [(mVar 1)])]))
  sSkip))
    sSkip)
  (sSeq (sIf (mIsI "list" (mVar 1))
    (sSeq (sRet (mAnd (mIsI "list" (mVar 0)) (mAnd (mBin opEq (mCall bLen [(mVar 0)]) (mCall bLen [(mVar 1)])) (mCall (Ph i__law_all_same) [(mVar 0), (mVar 1)]))))
  sSkip)
    sSkip)
  (sSeq (sIf (mIsI "str" (mVar 1))
    (sSeq (sRet (mAnd (mIsI "str" (mVar 0)) (mBin opEq (mVar 0) (mVar 1))))
  sSkip)
    sSkip)
  (sSeq (sIf (mBin opIs (mVar 1) (mC (.non)))
    (sSeq (sRet (mBin opIs (mVar 0) (mC (.non))))
  sSkip)
    sSkip)
  (sSeq (sRet (mAnd (mIsI "int" (mVar 0)) (mAnd (mNot (mIsI "bool" (mVar 0))) (mBin opEq (mVar 0) (mVar 1)))))
  sSkip)))))
/-- _law_all_same(_law_found, _law_due); slots: 0 _law_found, 1 _law_due, 2 _law_one, 3 _law_other -/
noncomputable def g__law_all_same (i__law_same : Nat) (Ph : Nat → List D → Sto → R D) : MS := (sSeq (sFor (iZip (mVar 0) (mVar 1)) (gTupV [2, 3])
    (sSeq (sIf (mNot (mCall (Ph i__law_same) [(mVar 2), (mVar 3)]))
    (sSeq (sRet (mC (.bl false)))
  sSkip)
    sSkip)
  sSkip))
  (sSeq (sRet (mC (.bl true)))
  sSkip))
/-- _law_code(_law_number); slots: 0 _law_number, 1 _law_code_here, 2 _law_k -/
noncomputable def g__law_code (Ph : Nat → List D → Sto → R D) : MS := (sSeq (sAsg (mC (.int 0)) (gVar 1))
  (sSeq (sFor (iRange1 (mBin opAdd (mC (.int 1)) (mBin opMod (mVar 0) (mC (.int 8))))) (gVar 2)
    (sSeq (sAsg (mBin opAdd (mBin opAdd (mBin opMul (mVar 1) (mC (.int 27))) (mC (.int 1))) (mBin opMod (mBin opDiv (mVar 0) (mBin opMul (mC (.int 8)) (mBin opAdd (mVar 2) (mC (.int 1))))) (mC (.int 26)))) (gVar 1))
  sSkip))
  (sSeq (sRet (mVar 1))
  sSkip)))
/-- _law_tops(_law_many); slots: 0 _law_many -/
noncomputable def g__law_tops (Ph : Nat → List D → Sto → R D) : MS := (sSeq (sWhile (mBin opGt (mVar 0) (mC (.int 4)))
    (sSeq (sAsg (mBin opDiv (mBin opAdd (mVar 0) (mC (.int 3))) (mC (.int 4))) (gVar 0))
  sSkip) 1000)
  (sSeq (sRet (mVar 0))
  sSkip))
/-- _law_places(_law_drawn, _law_many); slots: 0 _law_drawn, 1 _law_many, 2 _law_number, 3 _law_size, 4 _law_k -/
noncomputable def g__law_places (i__law_next : Nat) (Ph : Nat → List D → Sto → R D) : MS := (sSeq (sAsg (mCall (Ph i__law_next) [(mVar 0)]) (gVar 2))
  (sSeq (sAsg (mBin opIx (mLst [(mC (.int 3)), (mC (.int 400)), (mBin opPow (mC (.int 10)) (mC (.int 12)))]) (mBin opMod (mVar 2) (mC (.int 3)))) (gVar 3))
  (sSeq (sRet (mCall bTuple [(mComp (iRange1 (mVar 1)) [4] (gVar 4) none (mBin opAdd (mC (.int 1)) (mBin opMod (mBin opAdd (mBin opDiv (mBin opDiv (mVar 2) (mC (.int 3))) (mBin opAdd (mVar 4) (mC (.int 1)))) (mBin opMul (mVar 4) (mBin opMod (mVar 2) (mC (.int 3))))) (mVar 3))))]))
  sSkip)))
/-- _law_block(_law_drawn, _law_way); slots: 0 _law_drawn, 1 _law_way, 2 _law_number, 3 _law_codes, 4 _law_places_here, 5 _law_content, 6 _law_code_here, 7 _law_place, 8 _law_k -/
noncomputable def g__law_block (i__law_next i__law_places i__law_tops i__law_code : Nat) (Ph : Nat → List D → Sto → R D) : MS := (sSeq (sAsg (mCall (Ph i__law_next) [(mVar 0)]) (gVar 2))
  (sSeq (sIf (mBin opEq (mVar 1) (mC (.int 0)))
    (sSeq (sRet (mBin opAdd (mTup [(mC (.int 0))]) (mCall bTuple [(mComp (iRange1 (mBin opMod (mVar 2) (mC (.int 9)))) [8] (gVar 8) none (mBin opMod (mBin opAdd (mBin opDiv (mVar 2) (mC (.int 9))) (mBin opMul (mBin opMul (mVar 8) (mVar 8)) (mVar 2))) (mC (.int 256))))])))
  sSkip)
    sSkip)
  (sSeq (sIf (mBin opEq (mVar 1) (mC (.int 1)))
    (sSeq (sRet (mBin opAdd (mTup [(mC (.int 1))]) (mCall (Ph i__law_places) [(mVar 0), (mBin opAdd (mC (.int 1)) (mBin opMod (mVar 2) (mC (.int 4))))])))
  sSkip)
    sSkip)
  (sSeq (sIf (mBin opEq (mVar 1) (mC (.int 2)))
    (sSeq (sRet (mBin opAdd (mTup [(mC (.int 2)), (mBin opMod (mVar 2) (mC (.int 65)))]) (mCall (Ph i__law_places) [(mVar 0), (mCall (Ph i__law_tops) [(mBin opMod (mVar 2) (mC (.int 65)))])])))
  sSkip)
    sSkip)
  (sSeq (sAsg (mCall bSortSet [(mComp (iRange1 (mBin opMod (mVar 2) (mC (.int 9)))) [8] (gVar 8) none (mCall (Ph i__law_code) [(mBin opAdd (mBin opDiv (mVar 2) (mC (.int 9))) (mCall (Ph i__law_next) [(mVar 0)]))]))]) (gVar 3))
  (sSeq (sAsg (mCall (Ph i__law_places) [(mVar 0), (mCall bLen [(mVar 3)])]) (gVar 4))
  (sSeq (sAsg (mTup [(mC (.int 3))]) (gVar 5))
  (sSeq (sFor (iZip (mVar 3) (mVar 4)) (gTupV [6, 7])
    (sSeq (sAsg (mBin opAdd (mVar 5) (mTup [(mVar 6), (mVar 7)])) (gVar 5))
  sSkip))
  (sSeq (sRet (mVar 5))
  sSkip)))))))))
/-! ### numbers, contents -/
def NumOk (f : List D → Sto → R D) : Prop := ∀ (d : D) (st : Sto), d.pl = true → f [d] st = .ok (.bl (d.isI && !d.isB)) st
theorem number_ok {Ph : Nat → List D → Sto → R D} : NumOk (runDef ⟨1, 1, true, g_is_number⟩ Ph) := fun d st h => by
  refine def_pure rfl rfl ?_
  unfold g_is_number
  trivial
  rw [isInst_int h, w_ok, isInst_bool h, w_ok]
  cases d <;> simp [onBool]
def numB : D → Bool
  | .int i => decide (0 ≤ i)
  | _ => false
def contentB : D → Bool
  | .tup ds => ds.all numB
  | _ => false
/-- what may be asked -/
def okC (d : D) : Prop := d.pl = true ∧ ∀ ds, d = .tup ds → (∀ x ∈ ds, x.pl = true) ∧ ds.length ≤ 1000
def ContentOk (f : List D → Sto → R D) : Prop := ∀ (d : D) (st : Sto), okC d → f [d] st = .ok (.bl (contentB d)) st
theorem content_ok {Ph : Nat → List D → Sto → R D} {i : Nat} (hn : NumOk (Ph i)) : ContentOk (runDef ⟨1, 2, true, g_is_content i⟩ Ph) := fun d st h => by
  refine def_pure rfl rfl ?_
  unfold g_is_content
  trivial
  rw [isInst_tuple h.1, w_ok]
  cases d with
  | tup ds =>
    simp only [isT_tup]
    trivial
    obtain ⟨h1, h2⟩ := h.2 ds rfl
    refine comp_all ds numB rfl (by omega) (fun x hx => ⟨_, rfl, ?_⟩) ⟨rfl, rfl⟩
    trivial
    rw [hn x st (h1 x hx), w_ok]
    cases x <;> simp [onBool, numB] <;> exact w_ok.mpr ⟨rfl, rfl⟩
  | _ => simp [onBool, contentB]
/-! ### heights -/
def htN (n : Int) : Int := if n ≤ 4 then 1 else if n ≤ 16 then 2 else 3
theorem height_ok {Ph : Nat → List D → Sto → R D} {n : Int} {st : Sto} (h : n ≤ 64) : runDef ⟨1, 3, true, g_height_of⟩ Ph [.int n] st = .ok (.int (htN n)) st := by
  refine def_pure rfl rfl ?_
  unfold g_height_of
  trivial
  refine while_step (f := 999) ?_
  trivial
  refine ⟨fun a => ⟨mul_small (by decide) (by decide), while_step (f := 998) ?_⟩, fun a => ?_⟩
  · trivial
    refine ⟨fun b => ⟨mul_small (by decide) (by decide), while_step (f := 997) ?_⟩, fun b => ?_⟩
    · trivial
      refine ⟨fun c => absurd c (by omega), fun c => ?_⟩
      unfold htN
      rw [if_neg (by omega), if_neg (by omega)]
    · unfold htN
      rw [if_neg (by omega), if_pos (by omega)]
  · unfold htN
    rw [if_pos (by omega)]
def topN (n : Int) : Int := if n ≤ 4 then n else if n ≤ 16 then (n + 3) / 4 else (n + 15) / 16
theorem tops_ok {Ph : Nat → List D → Sto → R D} {n : Int} {st : Sto} (h0 : 0 ≤ n) (h : n ≤ 64) : runDef ⟨1, 2, true, g_tops_of⟩ Ph [.int n] st = .ok (.int (topN n)) st := by
  have c1 : CDivW 0 1 := by decide
  have c4 : CDivW 0 4 := by decide
  have c16 : CDivW 0 16 := by decide
  refine def_pure rfl rfl ?_
  unfold g_tops_of
  trivial
  refine while_step (f := 999) ?_
  trivial
  refine ⟨mul_small (by decide) (by decide), fun a => ⟨mul_small (by decide) (by decide), while_step (f := 998) ?_⟩, fun a => ?_⟩
  · trivial
    refine ⟨mul_small (by decide) (by decide), fun b => ⟨mul_small (by decide) (by decide), while_step (f := 997) ?_⟩, fun b => ?_⟩
    · trivial
      refine ⟨mul_small (by decide) (by decide), fun c => absurd c (by omega), fun c => ⟨divOk c16, ?_⟩⟩
      unfold topN
      rw [if_neg (by omega), if_neg (by omega)]
      congr 2
      omega
    · refine ⟨divOk c4, ?_⟩
      unfold topN
      rw [if_neg (by omega), if_pos (by omega)]
      congr 2
      omega
  · refine ⟨divOk c1, ?_⟩
    unfold topN
    rw [if_pos (by omega)]
    congr 2
    omega
theorem ltops_ok {Ph : Nat → List D → Sto → R D} {n : Int} {st : Sto} (h0 : 0 ≤ n) (h : n ≤ 64) : runDef ⟨1, 1, true, g__law_tops⟩ Ph [.int n] st = .ok (.int (topN n)) st := by
  have c4 : CDivW 0 4 := by decide
  refine def_pure rfl rfl ?_
  unfold g__law_tops
  trivial
  refine while_step (f := 999) ?_
  trivial
  refine ⟨fun a => ⟨divOk c4, while_step (f := 998) ?_⟩, fun a => ?_⟩
  · trivial
    refine ⟨fun b => ⟨divOk c4, while_step (f := 997) ?_⟩, fun b => ?_⟩
    · trivial
      refine ⟨fun c => absurd c (by omega), fun c => ?_⟩
      unfold topN
      rw [if_neg (by omega), if_neg (by omega)]
      congr 1
      omega
    · unfold topN
      rw [if_neg (by omega), if_pos (by omega)]
  · unfold topN
    rw [if_pos (by omega)]
/-! ### names of codes -/
def noZ : Nat → Int → Bool
  | 0, _ => true
  | f + 1, n => decide (n = 0) || (!decide (n % 27 = 0) && noZ f (n / 27))
def nmF : Nat → Int → List Nat
  | 0, _ => []
  | f + 1, n => if n = 0 then [] else nmF f (n / 27) ++ [96 + (n % 27).toNat]
def codeB (n : Int) : Bool := decide (1 ≤ n) && decide (n < 282429536481) && noZ 8 n
def nmS (n : Int) : Str := ⟨(nmF 8 n).toArray⟩
abbrev letters : Str := ⟨#[97, 98, 99, 100, 101, 102, 103, 104, 105, 106, 107, 108, 109, 110, 111, 112, 113, 114, 115, 116, 117, 118, 119, 120, 121, 122]⟩
theorem letters_at : ∀ n : Nat, n < 26 → letters.cps.toList[n]? = some (97 + n) := by decide
theorem letter_ix {i : Int} (h0 : 0 ≤ i) (h1 : i < 26) : atI letters.cps.toList i = some (97 + i.toNat) := ix_at h0 (letters_at _ (by omega))
theorem w_ixS {z : Str} {i : Int} {st : Sto} {P : D → Sto → Prop} {X : Nat → Sto → Prop} : (opIx (.str z) (.int i) st).wp P X ↔ z.length ≤ sizeLine ∧ ∃ c, atI z.cps.toList i = some c ∧ P (.str ⟨#[c]⟩) st := by
  unfold opIx
  simp only [deref_str]
  rw [w_if]
  cases atI z.cps.toList i <;> simp [wp_eq, R.wq]
theorem str_app_cps (a b : Str) : (a ++ b).cps.toList = a.cps.toList ++ b.cps.toList := by
  show (a.cps ++ b.cps).toList = _
  simp
theorem str_len (s : Str) : s.length = s.cps.toList.length := by simp [Str.length]
theorem str_eq {a b : Str} (h : a.cps.toList = b.cps.toList) : a = b := Str.ext' (Array.toList_inj.mp h)
theorem nmF_len : ∀ (f : Nat) (n : Int), (nmF f n).length ≤ f
  | 0, _ => Nat.le_refl _
  | f + 1, n => by
    unfold nmF
    split
    · simp
    · simp only [List.length_append, List.length_singleton]
      have := nmF_len f (n / 27)
      omega
theorem pow27 (k : Nat) : (27 : Int) ^ (k + 1) = 27 ^ k * 27 := Int.pow_succ ..
def NameOfOk (f : List D → Sto → R D) (x : Nat) : Prop := ∀ (c : Int) (st : Sto), f [.int c] st = if codeB c = true then .ok (.str (nmS c)) st else .exc x st
theorem nameof_ok {Ph : Nat → List D → Sto → R D} {x : Nat} : NameOfOk (runDef ⟨1, 2, true, g_name_of x⟩ Ph) x := fun c st => by
  have c27 : CDivW 0 27 := by decide
  have p8 : CPow 27 8 := by decide
  have lz : letters.length ≤ sizeLine := small_le (by decide)
  have key : (runDef ⟨1, 2, true, g_name_of x⟩ Ph [.int c] st).wp (fun v t => codeB c = true ∧ v = .str (nmS c) ∧ t = st) (fun k t => codeB c = false ∧ k = x ∧ t = st) := by
    refine def_wp rfl rfl ?_
    unfold g_name_of
    trivial
    have e8 : (27 : Int) ^ (8 : Int).toNat = 282429536481 := by decide
    refine ⟨fun h1 => ?_, fun h1 => ⟨p8, ?_⟩⟩
    · refine ⟨?_, cutSt_refl⟩
      unfold codeB
      rw [decide_eq_false (by omega)]
      rfl
    rw [e8]
    refine ⟨fun h2 => ?_, fun h2 => ?_⟩
    · refine ⟨?_, cutSt_refl⟩
      unfold codeB
      rw [decide_eq_false (by omega : ¬ c < 282429536481)]
      simp
    have hc : codeB c = noZ 8 c := by
      unfold codeB
      rw [decide_eq_true (by omega : 1 ≤ c), decide_eq_true (by omega : c < 282429536481)]
      rfl
    rw [hc]
    refine while_wp (fun k env t => ∃ (d : Int) (s : Str), env = [some (.int d), some (.str s)] ∧ t = st ∧ 0 ≤ d ∧ d < 27 ^ k ∧ k ≤ 8 ∧ noZ k d = noZ 8 c ∧ nmF k d ++ s.cps.toList = nmF 8 c ∧ s.cps.toList.length + k ≤ 8) ?_ 1000 8 _ _ (by decide) ⟨c, ⟨#[]⟩, rfl, rfl, by omega, by omega, by omega, rfl, by simp, by simp⟩
    rintro k env t ⟨d, s, rfl, rfl, d0, d1, k8, e1, e2, e3⟩
    trivial
    refine ⟨fun hd => ?_, fun hd => ?_⟩
    · cases k with
      | zero => simp at d1; omega
      | succ k =>
        have hd0 : ¬ d = 0 := by omega
        rw [pow27] at d1
        refine ⟨fun hm => ?_, fun hm => ?_⟩
        · refine ⟨?_, cutSt_refl⟩
          rw [← e1]
          unfold noZ
          rw [decide_eq_false hd0, decide_eq_true hm]
          rfl
        · rw [w_ixS]
          refine ⟨lz, _, letter_ix (by omega) (by omega), ?_⟩
          trivial
          have ln : (⟨#[97 + (d % 27 - 1).toNat]⟩ : Str).length = 1 := rfl
          refine ⟨small_le (by rw [ln, str_len]; omega), divOk c27, k, Nat.lt_succ_self k, d / 27, _, rfl, by omega, by omega, by omega, ?_, ?_, ?_⟩
          · rw [← e1]
            conv => rhs; unfold noZ
            rw [decide_eq_false hd0, decide_eq_false hm]
            simp
          · rw [← e2, str_app_cps]
            conv => rhs; unfold nmF
            rw [if_neg hd0, List.append_assoc]
            congr 2
            simp
            omega
          · rw [str_app_cps, List.length_append]
            have : (⟨#[97 + (d % 27 - 1).toNat]⟩ : Str).cps.toList.length = 1 := rfl
            omega
    · have hd0 : d = 0 := by omega
      subst hd0
      have e4 : noZ 8 c = true := by
        rw [← e1]
        cases k <;> simp [noZ]
      have e5 : nmF k 0 = [] := by cases k <;> simp [nmF]
      rw [e5, List.nil_append] at e2
      refine ⟨e4, ?_⟩
      congr 1
      exact str_eq (by rw [e2]; rfl)
  by_cases h : codeB c = true
  · rw [if_pos h]
    refine (key.mono (fun v t z => z.2) (fun k t z => ?_)).eq
    rw [h] at z
    exact Bool.noConfusion z.1
  · rw [if_neg h]
    refine (key.mono (fun v t z => absurd z.1 h) (fun k t z => z.2)).exq
def IsCodeOk (f : List D → Sto → R D) : Prop := ∀ (c : Int) (st : Sto), f [.int c] st = .ok (.bl (codeB c)) st
theorem iscode_ok {Ph : Nat → List D → Sto → R D} {i x : Nat} {sub : Nat → Nat → Bool} (hs : sub x x = true) (hn : NameOfOk (Ph i) x) : IsCodeOk (runDef ⟨1, 1, true, g_is_code i x sub⟩ Ph) := fun c st => by
  refine def_pure rfl rfl ?_
  unfold g_is_code
  trivial
  rw [hn c st]
  by_cases h : codeB c = true
  · rw [if_pos h, w_ok, h]
    exact ⟨rfl, rfl⟩
  · rw [if_neg h, w_exc]
    have h' : codeB c = false := by simpa using h
    rw [h']
    exact ⟨fun _ => ⟨rfl, rfl⟩, fun z => by rw [hs] at z; cases z⟩
/-! ### the kinds -/
def risingB : List Int → Bool
  | [] => true
  | [_] => true
  | x :: y :: r => decide (x < y) && risingB (y :: r)
theorem rising_zip : ∀ ns : List Int, (zipD (ns.map .int) ((ns.map .int).drop 1)).all (fun d => match d with | .tup [.int a, .int b] => decide (a < b) | _ => false) = risingB ns
  | [] => rfl
  | [x] => rfl
  | x :: y :: r => by
    have ih := rising_zip (y :: r)
    simp only [zipD, List.map_cons, List.drop_succ_cons, List.drop_zero, List.zip_cons_cons, List.all_cons, risingB] at ih ⊢
    rw [ih]
def RisingOk (f : List D → Sto → R D) : Prop := ∀ (ns : List Int) (st : Sto), ns.length ≤ 1000 → f [.tup (ns.map .int)] st = .ok (.bl (risingB ns)) st
theorem rising_ok {Ph : Nat → List D → Sto → R D} : RisingOk (runDef ⟨1, 3, true, g_are_rising⟩ Ph) := fun ns st hl => by
  refine def_pure rfl rfl ?_
  unfold g_are_rising
  trivial
  have hz : iZip (mVar 0) (mSl (mVar 0) (some (mC (D.int 1))) none) [some (.tup (ns.map .int)), none, none] st = .ok (.vals (zipD (ns.map .int) ((ns.map .int).drop 1))) st := by
    have := cut_from (ns.map D.int) 1
    simp only [iZip_app, mVar_app, List.getElem?_cons_zero, bind_ok, mSl_app, mOpt_some, mC_app, mOpt_none, opSl, deref_tup]
    rw [← this]
    rfl
  refine comp_all _ (fun d => match d with | .tup [.int a, .int b] => decide (a < b) | _ => false) hz (by rw [zipD_len, List.length_map]; omega) (fun d hd => ?_) ⟨by rw [rising_zip], rfl⟩
  obtain ⟨i, hi⟩ := List.getElem?_of_mem hd
  obtain ⟨x, y, h1, h2, rfl⟩ := zipD_get hi
  rw [List.getElem?_map] at h1
  obtain ⟨a, _, rfl⟩ := Option.map_eq_some_iff.mp h1
  rw [List.getElem?_drop, List.getElem?_map] at h2
  obtain ⟨b, _, rfl⟩ := Option.map_eq_some_iff.mp h2
  refine ⟨_, rfl, ?_⟩
  trivial
def leafN (ns : List Int) : Bool := decide (ns.length ≤ 9) && ns.all fun i => decide (i ≤ 255)
def branchN (ns : List Int) : Bool := decide (2 ≤ ns.length) && decide (ns.length ≤ 5) && ns.all fun i => decide (0 < i)
def fileN (ns : List Int) : Bool := match ns with
  | _ :: m :: r => decide (m ≤ 64) && decide ((r.length : Int) = topN m) && r.all fun i => decide (0 < i)
  | _ => false
def folderN (ns : List Int) : Bool := decide (ns.length % 2 = 1) && decide ((alt (ns.drop 1)).length ≤ 8) && risingB (alt (ns.drop 1)) && (alt (ns.drop 1)).all codeB && (alt (ns.drop 2)).all fun i => decide (0 < i)
def blockN (ns : List Int) : Bool := match ns with
  | [] => false
  | h :: r => if h > 3 then false else if h = 0 then leafN ns else if h = 1 then branchN ns else if h = 2 then fileN ns else folderN ns
def OnInts (f : List D → Sto → R D) (p : List Int → Bool) : Prop := ∀ (ns : List Int) (st : Sto), (∀ i ∈ ns, 0 ≤ i) → ns.length ≤ 1000 → f [.tup (ns.map .int)] st = .ok (.bl (p ns)) st
theorem leafblk_ok {Ph : Nat → List D → Sto → R D} : OnInts (runDef ⟨1, 2, true, g_is_leaf_block⟩ Ph) leafN := fun ns st _ hl => by
  refine def_pure rfl rfl ?_
  unfold g_is_leaf_block
  trivial
  refine ⟨fun h => ?_, fun h => ?_⟩
  · refine comp_all (ns.map .int) (fun d => match d with | .int i => decide (i ≤ 255) | _ => false) rfl (by rw [List.length_map]; omega) (fun d hd => ?_) ⟨?_, rfl⟩
    · obtain ⟨i, _, rfl⟩ := List.mem_map.mp hd
      refine ⟨_, rfl, ?_⟩
      trivial
    · rw [ints_all, leafN, decide_eq_true (by omega)]
      rfl
  · rw [leafN, decide_eq_false (by omega)]
    rfl
theorem branchblk_ok {Ph : Nat → List D → Sto → R D} : OnInts (runDef ⟨1, 2, true, g_is_branch_block⟩ Ph) branchN := fun ns st _ hl => by
  refine def_pure rfl rfl ?_
  unfold g_is_branch_block
  trivial
  refine ⟨fun h => ⟨fun h2 => ?_, fun h2 => ?_⟩, fun h => ?_⟩
  · refine comp_all (ns.map .int) (fun d => match d with | .int i => decide (0 < i) | _ => false) rfl (by rw [List.length_map]; omega) (fun d hd => ?_) ⟨?_, rfl⟩
    · obtain ⟨i, _, rfl⟩ := List.mem_map.mp hd
      refine ⟨_, rfl, ?_⟩
      trivial
    · rw [ints_all, branchN, decide_eq_true (by omega), decide_eq_true (by omega)]
      rfl
  · rw [branchN, decide_eq_false (by omega : ¬ ns.length ≤ 5)]
    simp
  · rw [branchN, decide_eq_false (by omega)]
    rfl
theorem fileN_cons (a m : Int) (r : List Int) : fileN (a :: m :: r) = (decide (m ≤ 64) && decide ((r.length : Int) = topN m) && r.all fun i => decide (0 < i)) := rfl
theorem fileblk_ok {Ph : Nat → List D → Sto → R D} {i : Nat} (ht : ∀ (n : Int) (st : Sto), 0 ≤ n → n ≤ 64 → Ph i [.int n] st = .ok (.int (topN n)) st) : OnInts (runDef ⟨1, 2, true, g_is_file_block i⟩ Ph) fileN := fun ns st h0 hl => by
  refine def_pure rfl rfl ?_
  unfold g_is_file_block
  match ns, h0, hl with
  | [], _, _ =>
    trivial
    exact ⟨fun _ => rfl, fun h => absurd h (by decide)⟩
  | [a], _, _ =>
    trivial
    exact ⟨fun _ => rfl, fun h => absurd h (by decide)⟩
  | a :: m :: r, h0, hl =>
    have m0 : 0 ≤ m := h0 m (by simp)
    trivial
    refine ⟨fun h => absurd h (by omega), fun h => ⟨fun h1 => ?_, fun h1 => ?_⟩⟩
    · rw [fileN_cons, decide_eq_false (by omega)]
      rfl
    · rw [ht m st m0 (by omega)]
      trivial
      refine ⟨fun h2 => ?_, fun h2 => ?_⟩
      · rw [fileN_cons, decide_eq_true (by omega : m ≤ 64), decide_eq_false (by omega)]
        rfl
      · have e := cut_from (D.int a :: D.int m :: r.map D.int) 2
        refine comp_all (r.map .int) (fun d => match d with | .int i => decide (0 < i) | _ => false) ?_ (by rw [List.length_map]; simp at hl; omega) (fun d hd => ?_) ⟨?_, rfl⟩
        · simp only [iSeq_app, mSl_app, mVar_app, List.getElem?_cons_zero, bind_ok, mOpt_some, mC_app, mOpt_none, opSl, deref_tup]
          rw [show cutL (D.int a :: D.int m :: r.map D.int) (some 2) none = r.map D.int from e]
        · obtain ⟨i, _, rfl⟩ := List.mem_map.mp hd
          refine ⟨_, rfl, ?_⟩
          trivial
        · rw [ints_all, fileN_cons, decide_eq_true (by omega : m ≤ 64), decide_eq_true (by omega)]
          rfl
theorem folderblk_ok {Ph : Nat → List D → Sto → R D} {ir ic : Nat} (hr : RisingOk (Ph ir)) (hc : IsCodeOk (Ph ic)) : OnInts (runDef ⟨1, 4, true, g_is_folder_block ir ic⟩ Ph) folderN := fun ns st h0 hl => by
  have e1 : stepL (ns.map D.int) (some 1) none 2 = (alt (ns.drop 1)).map .int := by
    rw [show stepL (ns.map D.int) (some 1) none 2 = alt ((ns.map D.int).drop 1) from step2 _ 1, ← List.map_drop, alt_map]
  have e2 : stepL (ns.map D.int) (some 2) none 2 = (alt (ns.drop 2)).map .int := by
    rw [show stepL (ns.map D.int) (some 2) none 2 = alt ((ns.map D.int).drop 2) from step2 _ 2, ← List.map_drop, alt_map]
  have l1 : (alt (ns.drop 1)).length ≤ 1000 := by have := alt_len (ns.drop 1); rw [List.length_drop] at this; omega
  have l2 : (alt (ns.drop 2)).length ≤ 1000 := by have := alt_len (ns.drop 2); rw [List.length_drop] at this; omega
  refine def_pure rfl rfl ?_
  unfold g_is_folder_block
  trivial
  rw [e1]
  trivial
  refine ⟨⟨by decide, by decide, small_le (by omega)⟩, fun h => ?_, fun h => ⟨fun h1 => ?_, fun h1 => ?_⟩⟩
  · unfold folderN
    rw [decide_eq_false (by omega : ¬ ns.length % 2 = 1)]
    rfl
  · unfold folderN
    rw [decide_eq_false (by omega : ¬ (alt (ns.drop 1)).length ≤ 8)]
    simp
  · rw [hr _ st l1]
    trivial
    cases hb : risingB (alt (ns.drop 1)) with
    | false =>
      simp only [Bool.false_eq_true, false_implies, true_implies, true_and]
      unfold folderN
      rw [hb]
      simp
    | true =>
      simp only [Bool.true_eq_false, false_implies, true_implies, and_true]
      refine comp_all ((alt (ns.drop 1)).map .int) (fun d => match d with | .int i => codeB i | _ => false) rfl (by rw [List.length_map]; omega) (fun d hd => ?_) ?_
      · obtain ⟨i, _, rfl⟩ := List.mem_map.mp hd
        refine ⟨_, rfl, ?_⟩
        trivial
        rw [hc i st]
        trivial
      · rw [ints_all]
        trivial
        have hodd : decide (ns.length % 2 = 1) = true := decide_eq_true (by omega)
        have h8 : decide ((alt (ns.drop 1)).length ≤ 8) = true := decide_eq_true (by omega)
        refine ⟨fun h3 => ?_, fun h3 => ?_⟩
        · refine comp_all ((alt (ns.drop 2)).map .int) (fun d => match d with | .int i => decide (0 < i) | _ => false) ?_ (by rw [List.length_map]; omega) (fun d hd => ?_) ⟨?_, rfl⟩
          · simp only [iSeq_app, mSt_app, mVar_app, List.getElem?_cons_zero, bind_ok, mOpt_some, mC_app, mOpt_none, opSt, e2]
            rw [if_pos ⟨by decide, by decide, small_le (by rw [List.length_map]; omega)⟩]
            rfl
          · obtain ⟨i, _, rfl⟩ := List.mem_map.mp hd
            refine ⟨_, rfl, ?_⟩
            trivial
          · rw [ints_all]
            unfold folderN
            rw [hodd, h8, hb]
            congr 1
            simp only [Bool.true_and]
            rw [show (alt (ns.drop 1)).all codeB = true from h3]
            rfl
        · unfold folderN
          rw [hodd, h8, hb, show (alt (ns.drop 1)).all codeB = false from h3]
          rfl
def blockB (d : D) : Bool := match d with
  | .tup ds => (match intsOf ds with | some ns => ns.all (fun i => decide (0 ≤ i)) && blockN ns | none => false)
  | _ => false
theorem blockB_tup (ds : List D) : blockB (.tup ds) = (match intsOf ds with | some ns => ns.all (fun i => decide (0 ≤ i)) && blockN ns | none => false) := rfl
theorem content_ints {ds : List D} (h : ds.all numB = true) : ∃ ns : List Int, ds = ns.map .int ∧ ∀ i ∈ ns, 0 ≤ i := by
  induction ds with
  | nil => exact ⟨[], rfl, fun i hi => by cases hi⟩
  | cons d ds ih =>
    simp only [List.all_cons, Bool.and_eq_true] at h
    obtain ⟨ns, rfl, h2⟩ := ih h.2
    cases d <;> simp only [numB, Bool.false_eq_true, false_and] at h
    rename_i i
    refine ⟨i :: ns, rfl, fun j hj => ?_⟩
    rcases List.mem_cons.mp hj with rfl | hj
    · simpa using h.1
    · exact h2 j hj
theorem intsOf_num {ds : List D} : (match intsOf ds with | some ns => ns.all (fun i => decide (0 ≤ i)) | none => false) = ds.all numB := by
  induction ds with
  | nil => rfl
  | cons d ds ih =>
    cases d <;> simp only [intsOf, List.all_cons, numB, Bool.false_and]
    rename_i i
    cases q : intsOf ds with
    | none => rw [q] at ih; simp only [Option.map_none]; rw [← ih]; simp
    | some ns => rw [q] at ih; simp only [Option.map_some, List.all_cons]; rw [← ih]
theorem ints_noneg (ns : List Int) (h : ∀ i ∈ ns, 0 ≤ i) : ns.all (fun i => decide (0 ≤ i)) = true := List.all_eq_true.mpr fun i hi => decide_eq_true (h i hi)
theorem blockN_cons (h : Int) (r : List Int) : blockN (h :: r) = if 3 < h then false else if h = 0 then leafN (h :: r) else if h = 1 then branchN (h :: r) else if h = 2 then fileN (h :: r) else folderN (h :: r) := rfl
def BlockOk (f : List D → Sto → R D) : Prop := ∀ (d : D) (st : Sto), okC d → f [d] st = .ok (.bl (blockB d)) st
theorem block_ok {Ph : Nat → List D → Sto → R D} {i0 i1 i2 i3 i4 : Nat} (hc : ContentOk (Ph i0)) (h1 : OnInts (Ph i1) leafN) (h2 : OnInts (Ph i2) branchN) (h3 : OnInts (Ph i3) fileN) (h4 : OnInts (Ph i4) folderN) : BlockOk (runDef ⟨1, 1, true, g_is_block i0 i1 i2 i3 i4⟩ Ph) := fun d st h => by
  refine def_pure rfl rfl ?_
  unfold g_is_block
  trivial
  rw [hc d st h]
  trivial
  have hno : contentB d = false → blockB d = false := fun h3 => by
    cases d <;> try rfl
    rename_i ds
    have h3 : ds.all numB = false := h3
    have := intsOf_num (ds := ds)
    rw [blockB_tup]
    cases q : intsOf ds with
    | none => rfl
    | some ns =>
      rw [q] at this
      have this : ns.all (fun i => decide (0 ≤ i)) = ds.all numB := this
      show (ns.all (fun i => decide (0 ≤ i)) && blockN ns) = false
      rw [this, h3]
      rfl
  cases hb : contentB d with
  | false =>
    simp only [Bool.false_eq_true, false_implies, true_implies, true_and]
    rw [hno hb]
  | true =>
    simp only [Bool.true_eq_false, false_implies, true_implies, and_true]
    cases d with
    | tup ds =>
      obtain ⟨ns, rfl, hn⟩ := content_ints (show ds.all numB = true from hb)
      have hl : ns.length ≤ 1000 := by have := (h.2 _ rfl).2; simpa using this
      have hB : blockB (.tup (ns.map .int)) = blockN ns := by
        rw [blockB_tup, intsOf_map]
        show (ns.all (fun i => decide (0 ≤ i)) && blockN ns) = blockN ns
        rw [ints_noneg ns hn]
        rfl
      rw [hB]
      cases ns with
      | nil =>
        trivial
        exact ⟨fun _ => rfl, fun z => absurd z (by decide)⟩
      | cons a r =>
        have a0 : 0 ≤ a := hn a (by simp)
        trivial
        refine ⟨fun z => absurd z (by omega), fun _ => ⟨fun z => ?_, fun z => ⟨fun z0 => ?_, fun z0 => ⟨fun z1 => ?_, fun z1 => ⟨fun z2 => ?_, fun z2 => ?_⟩⟩⟩⟩⟩
        · rw [blockN_cons, if_pos z]
        · have := h1 (a :: r) st hn hl
          simp only [List.map_cons] at this
          rw [this]
          trivial
          rw [blockN_cons, if_neg z, if_pos z0]
        · have := h2 (a :: r) st hn hl
          simp only [List.map_cons] at this
          rw [this]
          trivial
          rw [blockN_cons, if_neg z, if_neg z0, if_pos z1]
        · have := h3 (a :: r) st hn hl
          simp only [List.map_cons] at this
          rw [this]
          trivial
          rw [blockN_cons, if_neg z, if_neg z0, if_neg z1, if_pos z2]
        · have := h4 (a :: r) st hn hl
          simp only [List.map_cons] at this
          rw [this]
          trivial
          rw [blockN_cons, if_neg z, if_neg z0, if_neg z1, if_neg z2]
    | _ => cases hb
/-! ### links -/
def linksN (ns : List Int) : List Int := match ns with
  | [] => []
  | h :: r => if h = 0 then [] else if h = 1 then r else if h = 2 then r.drop 1 else alt (r.drop 1)
theorem linksN_cons (h : Int) (r : List Int) : linksN (h :: r) = if h = 0 then [] else if h = 1 then r else if h = 2 then r.drop 1 else alt (r.drop 1) := rfl
theorem cut1 {α : Type} (x : α) (r : List α) : cutL (x :: r) (some 1) none = r := cut_from (x :: r) 1
theorem cut2 {α : Type} (x : α) (r : List α) : cutL (x :: r) (some 2) none = r.drop 1 := cut_from (x :: r) 2
theorem stp2 {α : Type} (x : α) (r : List α) : stepL (x :: r) (some 2) none 2 = alt (r.drop 1) := step2 (x :: r) 2
def LinksOk (f : List D → Sto → R D) : Prop := ∀ (h : Int) (r : List Int) (st : Sto), r.length ≤ 10000 → f [.tup ((h :: r).map .int)] st = .ok (.tup ((linksN (h :: r)).map .int)) st
theorem links_ok {Ph : Nat → List D → Sto → R D} : LinksOk (runDef ⟨1, 1, true, g_links⟩ Ph) := fun h r st hl => by
  refine def_pure rfl rfl ?_
  unfold g_links
  trivial
  refine ⟨fun z => ?_, fun z => ⟨fun z1 => ?_, fun z1 => ⟨fun z2 => ?_, fun z2 => ?_⟩⟩⟩
  · rw [linksN_cons, if_pos z]
    rfl
  · rw [linksN_cons, if_neg z, if_pos z1, cut1]
  · rw [linksN_cons, if_neg z, if_neg z1, if_pos z2, cut2, List.map_drop]
  · rw [linksN_cons, if_neg z, if_neg z1, if_neg z2, stp2, ← List.map_drop, alt_map]
    have := alt_len (r.drop 1)
    rw [List.length_drop] at this
    exact ⟨⟨by decide, by decide, small_le (by rw [List.length_map]; omega)⟩, rfl⟩
/-! ### same -/
def SameOk (f : List D → Sto → R D) : Prop := ∀ (i j : Int) (st : Sto), f [.int i, .int j] st = .ok (.bl (decide (i = j))) st
theorem same_int {Ph : Nat → List D → Sto → R D} {i : Nat} : SameOk (runDef ⟨2, 2, true, g__law_same i⟩ Ph) := fun a b st => by
  refine def_pure rfl rfl ?_
  unfold g__law_same
  trivial
  have e : opIs (.int b) .non st = .ok (.bl false) st := rfl
  rw [e]
  trivial
theorem allsame_ints {Ph : Nat → List D → Sto → R D} {i : Nat} (hs : SameOk (Ph i)) (ns : List Int) (st : Sto) : runDef ⟨2, 4, true, g__law_all_same i⟩ Ph [.lst (ns.map .int), .lst (ns.map .int)] st = .ok (.bl true) st := by
  refine def_pure rfl rfl ?_
  unfold g__law_all_same
  trivial
  have hz : iZip (mVar 0) (mVar 1) [some (.lst (ns.map .int)), some (.lst (ns.map .int)), none, none] st = .ok (.vals (zipD (ns.map .int) (ns.map .int))) st := rfl
  rw [hz, w_ok]
  refine for_wp (fun _ env t => (∃ a b, env = [some (.lst (ns.map .int)), some (.lst (ns.map .int)), a, b]) ∧ t = st) _ ⟨⟨_, _, rfl⟩, rfl⟩ ?_ ?_
  · rintro k d env t hd ⟨⟨a, b, rfl⟩, rfl⟩
    obtain ⟨x, y, h1, h2, rfl⟩ := zipD_get hd
    rw [h1] at h2
    cases h2
    rw [List.getElem?_map] at h1
    obtain ⟨n, _, rfl⟩ := Option.map_eq_some_iff.mp h1
    refine ⟨_, rfl, ?_⟩
    trivial
    rw [hs n n t]
    trivial
    exact ⟨_, _, rfl⟩
  · rintro env t ⟨⟨a, b, rfl⟩, rfl⟩
    trivial
theorem same_tup {Ph : Nat → List D → Sto → R D} {i : Nat} {ns : List Int} {st : Sto} (ha : Ph i [.lst (ns.map .int), .lst (ns.map .int)] st = .ok (.bl true) st) : runDef ⟨2, 2, true, g__law_same i⟩ Ph [.tup (ns.map .int), .tup (ns.map .int)] st = .ok (.bl true) st := by
  refine def_pure rfl rfl ?_
  unfold g__law_same
  trivial
  rw [ha]
  exact w_ok.mpr ⟨rfl, rfl⟩
/-! ### the law's codes, places -/
theorem noZ_succ (f : Nat) (n : Int) : noZ (f + 1) n = (decide (n = 0) || (!decide (n % 27 = 0) && noZ f (n / 27))) := rfl
theorem noZ_mono : ∀ (f g : Nat) (n : Int), 0 ≤ n → n < 27 ^ f → f ≤ g → noZ g n = noZ f n
  | 0, 0, _, _, _, _ => rfl
  | 0, g + 1, n, h0, h1, _ => by
    have : n = 0 := by simp at h1; omega
    rw [noZ_succ, decide_eq_true this]
    rfl
  | f + 1, 0, _, _, _, h => absurd h (by omega)
  | f + 1, g + 1, n, h0, h1, h => by
    rw [pow27] at h1
    rw [noZ_succ, noZ_succ, noZ_mono f g (n / 27) (by omega) (by omega) (by omega)]
theorem codeB_step {f : Nat} {c d : Int} (hf : f < 8) (h0 : 0 ≤ c) (h1 : c < 27 ^ f) (hz : noZ f c = true) (d1 : 1 ≤ d) (d2 : d ≤ 26) : 0 < c * 27 + d ∧ c * 27 + d < 27 ^ (f + 1) ∧ noZ (f + 1) (c * 27 + d) = true := by
  rw [pow27]
  refine ⟨by omega, by omega, ?_⟩
  rw [noZ_succ, decide_eq_false (by omega), decide_eq_false (by omega), show (c * 27 + d) / 27 = c by omega, hz]
  rfl
theorem lcode_ok {Ph : Nat → List D → Sto → R D} {n : Int} {st : Sto} (h0 : 0 ≤ n) : ∃ c : Int, codeB c = true ∧ runDef ⟨1, 3, true, g__law_code⟩ Ph [.int n] st = .ok (.int c) st := by
  have key : (runDef ⟨1, 3, true, g__law_code⟩ Ph [.int n] st).wp (fun v t => (∃ c : Int, codeB c = true ∧ v = .int c) ∧ t = st) nX := by
    refine def_wp rfl rfl ?_
    unfold g__law_code
    trivial
    have hr : iRange1 (mBin opAdd (mC (.int 1)) (mBin opMod (mVar 0) (mC (.int 8)))) [some (.int n), some (.int 0), none] st = .ok (.vals (rangeD 0 (1 + n % 8).toNat)) st := by
      refine iRange1_int ?_ (by omega) (by omega)
      refine R.wp.eq ?_
      trivial
    rw [hr, w_ok]
    refine for_wp (fun k env t => t = st ∧ ∃ (c : Int) (e : Option D), env = [some (.int n), some (.int c), e] ∧ 0 ≤ c ∧ c < 27 ^ k ∧ noZ k c = true ∧ (0 < k → 0 < c)) _ ⟨rfl, 0, none, rfl, by omega, by decide, rfl, fun h => absurd h (by decide)⟩ ?_ ?_
    · rintro k d env t hd ⟨rfl, c, e, rfl, c0, c1, cz, cp⟩
      obtain ⟨hk, rfl⟩ := rangeD_at hd
      refine ⟨_, rfl, ?_⟩
      trivial
      have q : (0 + (k : Int)) = k := by omega
      have q8 : CDivW n (8 * (k + 1 : Int)) := divOkP (by omega) (by omega)
      have s := codeB_step (d := 1 + n / (8 * (k + 1)) % 26) (by omega) c0 c1 cz (by omega) (by omega)
      rw [q]
      refine ⟨mul_small (by decide) (by decide), mul_small' (by decide) (by decide), q8, _, _, rfl, by omega, ?_, ?_, fun _ => by omega⟩
      · have := s.2.1
        omega
      · have := s.2.2
        rw [show c * 27 + 1 + n / (8 * ((k : Int) + 1)) % 26 = c * 27 + (1 + n / (8 * (k + 1)) % 26) by omega]
        exact this
    · rintro env t ⟨rfl, c, e, rfl, c0, c1, cz, cp⟩
      trivial
      simp only [items_vals, rangeD_len] at c1 cz cp
      refine ⟨c, ?_, rfl⟩
      have h8 : (1 + n % 8).toNat ≤ 8 := by omega
      have p1 : (27 : Int) ^ (1 + n % 8).toNat ≤ 27 ^ 8 := by
        have : ∀ m : Nat, m ≤ 8 → (27 : Int) ^ m ≤ 27 ^ 8 := by decide
        exact this _ h8
      have := cp (by omega)
      unfold codeB
      rw [decide_eq_true (by omega : 1 ≤ c), decide_eq_true (by omega), noZ_mono _ 8 c c0 c1 h8, cz]
      rfl
  obtain ⟨v, t, e, ⟨c, hc, rfl⟩, rfl⟩ := key.get
  exact ⟨c, hc, e⟩
end MI
namespace MI
open PySem PySem.Spec PyProof.Rows L2 MX MI
local macro_rules | `(tactic| trivial) => `(tactic| simp only [w_ok, w_exc, w_C, w_bin, w_neg, w_and, w_or, w_not, w_ifE, w_args0, w_args, w_tup, w_lst, w_new, w_call, w_isI, w_chain, w_opt0, w_opt, w_sl, w_st, w_methL, w_methS, on_bl, ot_bl, w_add, w_addT, w_addL, w_addS, w_sub, w_mul, w_mod, w_div, w_pow, w_lt, w_le, w_gt, w_ge, w_eq, w_ne, w_eqB, w_neB, w_isB, w_isNB, w_lenT, w_lenL, w_tupL, w_tupT, w_listT, w_listL, w_ixT, w_ixL, w_slT, w_slL, w_stT, w_seq, w_skip, w_asg, w_asgT, w_expr, w_ret, w_sIf, w_raise, w_for, w_set, w_try, w_pick0, w_pick, w_fld, w_methO, w_make, w_fldS, items_live, items_multi, ii_list_str, ii_str_lst, w_isNN, w_isIN, w_isTN, w_isSN, w_inNN, w_inTN, decide_true, decide_false,
  mVar_app, List.getElem?_cons_zero, List.getElem?_cons_succ, List.set_cons_zero, List.set_cons_succ, startD, List.map_cons, List.map_nil, List.length_cons, List.length_nil, List.length_map, Nat.zero_add, Nat.reduceAdd, Nat.reduceSub, List.replicate, List.cons_append, List.nil_append, gTupV_app, gVars_nil, gVars_cons, gVar_app, Option.some.injEq, exists_eq_left', wipeD_nil, wipeD_cons, atI0, atI1, atI2,
  decide_eq_true_eq, decide_eq_false_iff_not, Bool.not_eq_true', Bool.not_eq_false', Int.reduceLT, Int.reduceLE, Int.reduceAdd, Int.reduceMul, Int.reduceSub, Int.reduceNeg, true_and, and_true, Bool.true_eq_false, Bool.false_eq_true, false_implies, implies_true, true_implies, Nat.reduceLeDiff, fz_same, ii_int_int, ii_bool_int, ii_int_bl, ii_bool_bl, ii_tuple_tup, ii_str_str, ii_list_lst, ii_list_tup, ii_tuple_lst, ii_tuple_int, ii_list_int, ii_str_int, ii_str_tup, ii_int_str, ii_int_tup, ii_int_lst, ii_int_non, ii_bool_str, ii_tuple_str, ii_tuple_non, ii_list_non, ii_str_non, not_true_eq_false, not_false_eq_true, holds_vals, items_vals, eq_self])
-- s2
/-! _law_same: alike, with lists of the store. -/
def EqA (d e : D) : Prop := (∃ i, d = .int i ∧ e = .int i) ∨ (∃ x : Str, PyData.canLay0 (.str x) = true ∧ d = .str x ∧ e = .str x) ∨ (d = .non ∧ e = .non)
def EqD (st : Sto) : Nat → D → D → Prop
  | 0, d, e => EqA d e
  | n + 1, d, e => EqA d e ∨ (∃ xs ys : List D, d = .tup xs ∧ e = .tup ys ∧ xs.length = ys.length ∧ ∀ (i : Nat) (a b : D), xs[i]? = some a → ys[i]? = some b → EqD st n a b) ∨
    (∃ p q : List (Nat × List D) × List D, lsOf st d = some p ∧ lsOf st e = some q ∧ p.2.length = q.2.length ∧ ∀ (i : Nat) (a b : D), p.2[i]? = some a → q.2[i]? = some b → EqD st n a b)
def SameD (f : List D → Sto → R D) (n : Nat) : Prop := ∀ (st : Sto) (d e : D), EqD st n d e → f [d, e] st = .ok (.bl true) st
def AllD (f : List D → Sto → R D) (n : Nat) : Prop := ∀ (st : Sto) (x y : D) (p q : List (Nat × List D) × List D), lsOf st x = some p → lsOf st y = some q → p.2.length = q.2.length → (∀ (i : Nat) (a b : D), p.2[i]? = some a → q.2[i]? = some b → EqD st n a b) → f [x, y] st = .ok (.bl true) st
theorem iZip_ls {env : DEnv} {st : Sto} {x y : D} {p q : List (Nat × List D) × List D} {i j : Nat} (h0 : env[i]? = some (some x)) (h1 : env[j]? = some (some y)) (hx : lsOf st x = some p) (hy : lsOf st y = some q) : ∃ s, iZip (mVar i) (mVar j) env st = .ok s st ∧ s.items = zipD p.2 q.2 ∧ s.holds st := by
  have hs1 := (lsOf_D hx).2
  have hs2 := (lsOf_D hy).2
  have v0 : mVar i env st = .ok x st := by simp only [mVar, h0]
  have v1 : mVar j env st = .ok y st := by simp only [mVar, h1]
  rw [iZip_app, v0, R.bind_ok, v1, R.bind_ok]
  have gen : ∃ s, (match lsOf st x, lsOf st y with | some p, some q => R.ok (Src.multi (p.1 ++ q.1) (zipD p.2 q.2)) st | _, _ => .stuck) = .ok s st ∧ s.items = zipD p.2 q.2 ∧ s.holds st :=
    ⟨Src.multi (p.1 ++ q.1) (zipD p.2 q.2), by rw [hx, hy], rfl, fun r hr => (List.mem_append.mp hr).elim (hs1 r) (hs2 r)⟩
  cases x <;> cases y <;> first
    | exact gen
    | (simp only [lsOf, reduceCtorEq] at hy; done)
    | (simp only [lsOf, reduceCtorEq] at hx; done)
    | (simp only [lsOf] at hx hy
       cases hx
       cases hy
       exact ⟨_, rfl, rfl, True.intro⟩)
    | (simp only [lsOf, reduceCtorEq] at hx; done)
    | (simp only [lsOf, reduceCtorEq] at hy; done)
theorem alld_ok {Ph : Nat → List D → Sto → R D} {i n : Nat} (hs : SameD (Ph i) n) : AllD (runDef ⟨2, 4, true, g__law_all_same i⟩ Ph) n := fun st x y p q hx hy hl he => by
  refine def_pure rfl rfl ?_
  unfold g__law_all_same
  trivial
  obtain ⟨s, e1, e2, e3⟩ := iZip_ls (env := [some x, some y, none, none]) (i := 0) (j := 1) rfl rfl hx hy
  rw [e1]
  trivial
  refine for_wp (fun k env t => ∃ a b, env = [some x, some y, a, b] ∧ t = st) _ ⟨none, none, rfl, rfl⟩ ?_ ?_
  · rintro k d env t hk ⟨a, b, rfl, rfl⟩
    rw [e2] at hk
    obtain ⟨u, v, hu, hv, rfl⟩ := zipD_get hk
    refine ⟨_, rfl, ?_⟩
    trivial
    rw [hs t u v (he k u v hu hv)]
    trivial
    exact ⟨e3, _, _, rfl⟩
  · rintro env t ⟨a, b, rfl, rfl⟩
    trivial
theorem isI_ls {st : Sto} {x : D} {p : List (Nat × List D) × List D} (h : lsOf st x = some p) : isInst "list" x st = .ok (.bl true) st ∧ isInst "tuple" x st = .ok (.bl false) st ∧ bLen [x] st = .ok (.int p.2.length) st := by
  unfold lsOf at h
  split at h
  · cases h
    exact ⟨rfl, rfl, rfl⟩
  · split at h
    · rename_i hl
      cases h
      have hd := deref_ref_lst hl
      refine ⟨?_, ?_, ?_⟩
      · unfold isInst tyName; rw [hd]; rfl
      · unfold isInst tyName; rw [hd]; rfl
      · exact len_ref hl
    · cases h
  · cases h
theorem same0_ok {Ph : Nat → List D → Sto → R D} {i : Nat} : SameD (runDef ⟨2, 2, true, g__law_same i⟩ Ph) 0 := fun st d e h => by
  refine def_pure rfl rfl ?_
  unfold g__law_same
  rcases h with ⟨k, rfl, rfl⟩ | ⟨x, hx, rfl, rfl⟩ | ⟨rfl, rfl⟩
  · trivial
  · trivial
    have e : opEq (.str x) (.str x) st = .ok (.bl true) st := by
      rw [opEq_pl (k := 0) (j := 0) (.str hx) (.str hx) (by decide) (by decide)]
      simp only [deref_str, beqD_refl (k := 0) (Pln.str hx)]
    rw [e]
    trivial
  · trivial
theorem sameS_ok {Ph : Nat → List D → Sto → R D} {i n : Nat} (ha : AllD (Ph i) n) : SameD (runDef ⟨2, 2, true, g__law_same i⟩ Ph) (n + 1) := fun st d e h => by
  rcases h with h | ⟨xs, ys, rfl, rfl, hl, he⟩ | ⟨p, q, hx, hy, hl, he⟩
  · exact same0_ok st d e h
  · refine def_pure rfl rfl ?_
    unfold g__law_same
    trivial
    refine ⟨fun z => absurd (by rw [hl]) z, fun _ => ?_⟩
    rw [ha st (.lst xs) (.lst ys) ([], xs) ([], ys) rfl rfl hl he]
    trivial
  · obtain ⟨a1, a2, a3⟩ := isI_ls hx
    obtain ⟨b1, b2, b3⟩ := isI_ls hy
    refine def_pure rfl rfl ?_
    unfold g__law_same
    trivial
    rw [b2]
    trivial
    rw [b1]
    trivial
    rw [a1]
    trivial
    rw [a3]
    trivial
    rw [b3]
    trivial
    rw [hl]
    trivial
    rw [ha st d e p q hx hy hl he]
    trivial
theorem eqD_zero {st : Sto} {n : Nat} {d e : D} (h : EqA d e) : EqD st n d e := by
  cases n with
  | zero => exact h
  | succ n => exact Or.inl h
end MI
namespace MI
open PySem PySem.Spec PyProof.Rows L2 MX MI
local macro_rules | `(tactic| trivial) => `(tactic| simp only [w_ok, w_exc, w_C, w_bin, w_neg, w_and, w_or, w_not, w_ifE, w_args0, w_args, w_tup, w_lst, w_new, w_call, w_isI, w_chain, w_opt0, w_opt, w_sl, w_st, w_methL, w_methS, on_bl, ot_bl, w_add, w_addT, w_addL, w_addS, w_sub, w_mul, w_mod, w_div, w_pow, w_lt, w_le, w_gt, w_ge, w_eq, w_ne, w_eqB, w_neB, w_isB, w_isNB, w_lenT, w_lenL, w_tupL, w_tupT, w_listT, w_listL, w_ixT, w_ixL, w_slT, w_slL, w_stT, w_seq, w_skip, w_asg, w_asgT, w_expr, w_ret, w_sIf, w_raise, w_for, w_set, w_try, w_pick0, w_pick, w_fld, w_methO, w_make, w_fldS, items_live, items_multi, ii_list_str, ii_str_lst, w_isNN, w_isIN, w_isTN, w_isSN, w_inNN, w_inTN, decide_true, decide_false,
  mVar_app, List.getElem?_cons_zero, List.getElem?_cons_succ, List.set_cons_zero, List.set_cons_succ, startD, List.map_cons, List.map_nil, List.length_cons, List.length_nil, List.length_map, Nat.zero_add, Nat.reduceAdd, Nat.reduceSub, List.replicate, List.cons_append, List.nil_append, gTupV_app, gVars_nil, gVars_cons, gVar_app, Option.some.injEq, exists_eq_left', wipeD_nil, wipeD_cons, atI0, atI1, atI2,
  decide_eq_true_eq, decide_eq_false_iff_not, Bool.not_eq_true', Bool.not_eq_false', Int.reduceLT, Int.reduceLE, Int.reduceAdd, Int.reduceMul, Int.reduceSub, Int.reduceNeg, true_and, and_true, Bool.true_eq_false, Bool.false_eq_true, false_implies, implies_true, true_implies, Nat.reduceLeDiff, fz_same, ii_int_int, ii_bool_int, ii_int_bl, ii_bool_bl, ii_tuple_tup, ii_str_str, ii_list_lst, ii_list_tup, ii_tuple_lst, ii_tuple_int, ii_list_int, ii_str_int, ii_str_tup, ii_int_str, ii_int_tup, ii_int_lst, ii_int_non, ii_bool_str, ii_tuple_str, ii_tuple_non, ii_list_non, ii_str_non, not_true_eq_false, not_false_eq_true, holds_vals, items_vals, eq_self])
-- s2
/-! Disks, steps, groups: the bodies with their callees as letters. -/
/-- groups_of(steps); slots: 0 steps, 1 groups, 2 step -/
noncomputable def g_groups_of (Ph : Nat → List D → Sto → R D) : MS := (sSeq (sAsg (mNew [(mNew [])]) (gVar 1))
  (sSeq (sFor (iSeq (mVar 0)) (gVar 2)
    (sSeq (sIf (mBin opEq (mBin opIx (mVar 2) (mC (.int 0))) (mC (.str (⟨#[108, 105, 110, 101]⟩ : Str))))
    (sSeq (sExpr (mMethL mAppend (mVar 1) [(mNew [])]))
  sSkip)
    (sSeq (sExpr (mMethL mAppend (mBin opIx (mVar 1) (mNeg (mC (.int 1)))) [(mVar 2)]))
  sSkip))
  sSkip))
  (sSeq (sRet (mVar 1))
  sSkip)))
/-- do_puts(disk, puts); slots: 0 disk, 1 puts, 2 word, 3 copy, 4 spot, 5 content -/
noncomputable def g_do_puts (i_Disk_write : Nat) (Ph : Nat → List D → Sto → R D) : MS := (sSeq (sFor (iSeq (mVar 1)) (gTupV [2, 3, 4, 5])
    (sSeq (sExpr (mMethO "Disk" "write" (Ph i_Disk_write) (mVar 0) [(mVar 3), (mVar 4), (mVar 5)]))
  sSkip))
  sSkip)
/-- do_steps(disk, steps); slots: 0 disk, 1 steps, 2 puts -/
noncomputable def g_do_steps (i_groups_of i_do_puts : Nat) (Ph : Nat → List D → Sto → R D) : MS := (sSeq (sFor (iSeq (mCall (Ph i_groups_of) [(mVar 1)])) (gVar 2)
    (sSeq (sExpr (mCall (Ph i_do_puts) [(mVar 0), (mVar 2)]))
  sSkip))
  sSkip)
/-- sum_of(spot, content); slots: 0 spot, 1 content, 2 found, 3 number -/
noncomputable def g_sum_of (Ph : Nat → List D → Sto → R D) : MS := (sSeq (sAsg (mBin opAdd (mVar 0) (mC (.int 1))) (gVar 2))
  (sSeq (sFor (iSeq (mVar 1)) (gVar 3)
    (sSeq (sAsg (mBin opMod (mBin opAdd (mBin opAdd (mBin opMul (mVar 2) (mC (.int 65599))) (mVar 3)) (mC (.int 1))) (mC (.int 2147483647))) (gVar 2))
  sSkip))
  (sSeq (sRet (mVar 2))
  sSkip)))
/-- cell_of(spot, content); slots: 0 spot, 1 content -/
noncomputable def g_cell_of (i_sum_of : Nat) (Ph : Nat → List D → Sto → R D) : MS := (sSeq (sRet (mTup [(mCall (Ph i_sum_of) [(mVar 0), (mVar 1)]), (mVar 1)]))
  sSkip)
/-- _law_sum(_law_spot, _law_content_here); slots: 0 _law_spot, 1 _law_content_here, 2 _law_number, 3 _law_one -/
noncomputable def g__law_sum (Ph : Nat → List D → Sto → R D) : MS := (sSeq (sAsg (mBin opAdd (mVar 0) (mC (.int 1))) (gVar 2))
  (sSeq (sFor (iSeq (mVar 1)) (gVar 3)
    (sSeq (sAsg (mBin opMod (mBin opAdd (mBin opAdd (mBin opMul (mVar 2) (mC (.int 65599))) (mVar 3)) (mC (.int 1))) (mC (.int 2147483647))) (gVar 2))
  sSkip))
  (sSeq (sRet (mVar 2))
  sSkip)))
/-- _law_content(_law_drawn); slots: 0 _law_drawn, 1 _law_number, 2 _law_k -/
noncomputable def g__law_content (i__law_next : Nat) (Ph : Nat → List D → Sto → R D) : MS := (sSeq (sAsg (mCall (Ph i__law_next) [(mVar 0)]) (gVar 1))
  (sSeq (sRet (mCall bTuple [(mComp (iRange1 (mBin opMod (mVar 1) (mC (.int 5)))) [2] (gVar 2) none (mBin opMod (mBin opAdd (mBin opDiv (mVar 1) (mC (.int 7))) (mBin opMul (mBin opMul (mVar 2) (mVar 2)) (mVar 1))) (mBin opIx (mLst [(mC (.int 3)), (mC (.int 1000)), (mBin opPow (mC (.int 10)) (mC (.int 12)))]) (mBin opMod (mBin opDiv (mVar 1) (mC (.int 3))) (mC (.int 3))))))]))
  sSkip))
/-- _law_steps(_law_drawn, _law_spots); slots: 0 _law_drawn, 1 _law_spots, 2 _law_steps_here, 3 _law_k, 4 _law_number, 5 _law_spot -/
noncomputable def g__law_steps (i__law_next i__law_content : Nat) (Ph : Nat → List D → Sto → R D) : MS := (sSeq (sAsg (mNew []) (gVar 2))
  (sSeq (sFor (iRange1 (mBin opMod (mCall (Ph i__law_next) [(mVar 0)]) (mC (.int 25)))) (gVar 3)
    (sSeq (sAsg (mCall (Ph i__law_next) [(mVar 0)]) (gVar 4))
  (sSeq (sIf (mBin opEq (mBin opMod (mVar 4) (mC (.int 4))) (mC (.int 0)))
    (sSeq (sExpr (mMethL mAppend (mVar 2) [(mTup [(mC (.str (⟨#[108, 105, 110, 101]⟩ : Str)))])]))
  sSkip)
    (sSeq (sAsg (mBin opIx (mLst [(mBin opMod (mBin opDiv (mVar 4) (mC (.int 8))) (mVar 1)), (mBin opMod (mBin opDiv (mVar 4) (mC (.int 8))) (mC (.int 3)))]) (mBin opMod (mBin opDiv (mVar 4) (mC (.int 512))) (mC (.int 2)))) (gVar 5))
  (sSeq (sExpr (mMethL mAppend (mVar 2) [(mTup [(mC (.str (⟨#[112, 117, 116]⟩ : Str))), (mBin opMod (mBin opDiv (mVar 4) (mC (.int 4))) (mC (.int 2))), (mVar 5), (mCall (Ph i__law_content) [(mVar 0)])])]))
  sSkip)))
  sSkip)))
  (sSeq (sRet (mVar 2))
  sSkip)))
/-- _law_groups(_law_steps_here); slots: 0 _law_steps_here, 1 _law_groups_here, 2 _law_step -/
noncomputable def g__law_groups (Ph : Nat → List D → Sto → R D) : MS := (sSeq (sAsg (mNew [(mNew [])]) (gVar 1))
  (sSeq (sFor (iSeq (mVar 0)) (gVar 2)
    (sSeq (sIf (mBin opEq (mVar 2) (mTup [(mC (.str (⟨#[108, 105, 110, 101]⟩ : Str)))]))
    (sSeq (sExpr (mMethL mAppend (mVar 1) [(mNew [])]))
  sSkip)
    (sSeq (sExpr (mMethL mAppend (mBin opIx (mVar 1) (mNeg (mC (.int 1)))) [(mVar 2)]))
  sSkip))
  sSkip))
  (sSeq (sRet (mVar 1))
  sSkip)))
/-- _law_put(_law_cells, _law_puts); slots: 0 _law_cells, 1 _law_puts, 2 _law_word, 3 _law_copy, 4 _law_spot, 5 _law_content_here -/
noncomputable def g__law_put (i__law_sum : Nat) (Ph : Nat → List D → Sto → R D) : MS := (sSeq (sFor (iSeq (mVar 1)) (gTupV [2, 3, 4, 5])
    (sSeq (sSet (mBin opIx (mVar 0) (mVar 3)) (mVar 4) (mTup [(mCall (Ph i__law_sum) [(mVar 4), (mVar 5)]), (mVar 5)]))
  sSkip))
  sSkip)
/-- _law_has(_law_disk, _law_cells); slots: 0 _law_disk, 1 _law_cells, 2 _law_copy, 3 _law_spot -/
noncomputable def g__law_has (i__law_same i_Disk_cell : Nat) (Ph : Nat → List D → Sto → R D) : MS := (sSeq (sFor (iRange1 (mC (.int 2))) (gVar 2)
    (sSeq (sFor (iRange1 (mCall bLen [(mBin opIx (mVar 1) (mC (.int 0)))])) (gVar 3)
    (sSeq (sIf (mNot (mCall (Ph i__law_same) [(mMethO "Disk" "cell" (Ph i_Disk_cell) (mVar 0) [(mVar 2), (mVar 3)]), (mBin opIx (mBin opIx (mVar 1) (mVar 2)) (mVar 3))]))
    (sSeq (sRet (mC (.bl false)))
  sSkip)
    sSkip)
  sSkip))
  sSkip))
  (sSeq (sRet (mC (.bl true)))
  sSkip))
/-- _law_filled(_law_disk, _law_drawn); slots: 0 _law_disk, 1 _law_drawn, 2 _law_cells, 3 _law_step -/
noncomputable def g__law_filled (fk : Str → Str → Bool) (i__law_steps i_Disk_write i__law_put : Nat) (Ph : Nat → List D → Sto → R D) : MS := (sSeq (sAsg (mNew [(mBin opMulN (mNew [(mC (.non))]) (mBin opAdd (mFld (fk "places") "places" (mVar 0)) (mC (.int 4)))), (mBin opMulN (mNew [(mC (.non))]) (mBin opAdd (mFld (fk "places") "places" (mVar 0)) (mC (.int 4))))]) (gVar 2))
  (sSeq (sFor (iSeq (mCall (Ph i__law_steps) [(mVar 1), (mBin opAdd (mFld (fk "places") "places" (mVar 0)) (mC (.int 4)))])) (gVar 3)
    (sSeq (sIf (mBin opNe (mVar 3) (mTup [(mC (.str (⟨#[108, 105, 110, 101]⟩ : Str)))]))
    (sSeq (sExpr (mMethO "Disk" "write" (Ph i_Disk_write) (mVar 0) [(mBin opIx (mVar 3) (mC (.int 1))), (mBin opIx (mVar 3) (mC (.int 2))), (mBin opIx (mVar 3) (mC (.int 3)))]))
  (sSeq (sExpr (mCall (Ph i__law_put) [(mVar 2), (mLst [(mVar 3)])]))
  sSkip))
    sSkip)
  sSkip))
  (sSeq (sRet (mVar 2))
  sSkip)))
/-- Disk___init__(self, places); slots: 0 self, 1 places -/
noncomputable def g_Disk___init__ (fk : Str → Str → Bool) (Ph : Nat → List D → Sto → R D) : MS := (sSeq (sFldS (fk "places") "places" (mVar 0) (mVar 1))
  (sSeq (sFldS (fk "copies") "copies" (mVar 0) (mNew [(mBin opMulN (mNew [(mC (.non))]) (mBin opAdd (mC (.int 4)) (mVar 1))), (mBin opMulN (mNew [(mC (.non))]) (mBin opAdd (mC (.int 4)) (mVar 1)))]))
  sSkip))
/-- Disk_cell(self, copy, spot); slots: 0 self, 1 copy, 2 spot -/
noncomputable def g_Disk_cell (fk : Str → Str → Bool) (Ph : Nat → List D → Sto → R D) : MS := (sSeq (sRet (mBin opIx (mBin opIx (mFld (fk "copies") "copies" (mVar 0)) (mVar 1)) (mVar 2)))
  sSkip)
/-- Disk_write(self, copy, spot, content); slots: 0 self, 1 copy, 2 spot, 3 content -/
noncomputable def g_Disk_write (fk : Str → Str → Bool) (i_cell_of : Nat) (Ph : Nat → List D → Sto → R D) : MS := (sSeq (sSet (mBin opIx (mFld (fk "copies") "copies" (mVar 0)) (mVar 1)) (mVar 2) (mCall (Ph i_cell_of) [(mVar 2), (mVar 3)]))
  sSkip)

structure Cell where
  d : D
  eq : ∀ st, EqD st 2 d d
def cellD (x : Cell) : D := x.d
def noC : Cell := ⟨.non, fun _ => .inl (.inr (.inr ⟨rfl, rfl⟩))⟩
theorem eq_pair (st : Sto) (i : Int) (c : List Int) : EqD st 2 (.tup [.int i, .tup (c.map .int)]) (.tup [.int i, .tup (c.map .int)]) := by
  refine .inr (.inl ⟨_, _, rfl, rfl, rfl, fun i a b h1 h2 => ?_⟩)
  rw [h1] at h2
  cases h2
  match i, h1 with
  | 0, h => cases h; exact .inl (.inl ⟨_, rfl, rfl⟩)
  | 1, h =>
    cases h
    refine .inr (.inl ⟨_, _, rfl, rfl, rfl, fun j c d h3 h4 => ?_⟩)
    rw [h3] at h4
    cases h4
    rw [List.getElem?_map] at h3
    obtain ⟨n, _, rfl⟩ := Option.map_eq_some_iff.mp h3
    exact .inl ⟨n, rfl, rfl⟩
  | n + 2, h => simp at h
def sumZ (spot : Int) (c : List Int) : Int := c.foldl (fun a n => (a * 65599 + n + 1) % 2147483647) (spot + 1)
def SumOk (f : List D → Sto → R D) : Prop := ∀ (s : Int) (c : List Int) (st : Sto), f [.int s, .tup (c.map .int)] st = .ok (.int (sumZ s c)) st
theorem sum_loop {Ph : Nat → List D → Sto → R D} {s : Int} {c : List Int} {st : Sto} : (g_sum_of Ph [some (.int s), some (.tup (c.map .int)), none, none] st).wp (fun _ _ => False) (fun u t => u = .int (sumZ s c) ∧ t = st) nXS := by
  unfold g_sum_of
  trivial
  have hi : iSeq (mVar 1) [some (.int s), some (.tup (c.map .int)), some (.int (s + 1)), none] st = .ok (.vals (c.map .int)) st := rfl
  rw [hi]
  trivial
  refine for_wp (fun k env t => ∃ e, env = [some (.int s), some (.tup (c.map .int)), some (.int ((c.take k).foldl (fun a n => (a * 65599 + n + 1) % 2147483647) (s + 1))), e] ∧ t = st) _ ⟨none, by simp, rfl⟩ ?_ ?_
  · rintro k d env t hk ⟨e, rfl, rfl⟩
    rw [List.getElem?_map] at hk
    obtain ⟨n, hn, rfl⟩ := Option.map_eq_some_iff.mp hk
    refine ⟨_, rfl, ?_⟩
    trivial
    refine ⟨mul_small (by decide) (by decide), some (.int n), ?_⟩
    rw [List.take_succ, hn]
    simp [List.foldl_append]
  · rintro env t ⟨e, rfl, rfl⟩
    trivial
    simp [sumZ]
theorem sumof_ok {Ph : Nat → List D → Sto → R D} : SumOk (runDef ⟨2, 4, true, g_sum_of⟩ Ph) := fun s c st => def_pure rfl rfl (sum_loop (Ph := Ph))
theorem lsum_ok {Ph : Nat → List D → Sto → R D} : SumOk (runDef ⟨2, 4, true, g__law_sum⟩ Ph) := fun s c st => def_pure rfl rfl (sum_loop (Ph := Ph))
def rightC (s : Nat) (c : List Int) : Cell := ⟨.tup [.int (sumZ s c), .tup (c.map .int)], fun st => eq_pair st _ _⟩
def CellOk (f : List D → Sto → R D) : Prop := ∀ (s : Nat) (c : List Int) (st : Sto), f [.int (s : Int), .tup (c.map .int)] st = .ok (cellD (rightC s c)) st
theorem cellof_ok {Ph : Nat → List D → Sto → R D} {i : Nat} (hs : SumOk (Ph i)) : CellOk (runDef ⟨2, 2, true, g_cell_of i⟩ Ph) := fun s c st => by
  refine def_pure rfl rfl ?_
  unfold g_cell_of
  trivial
  rw [hs]
  trivial
  rfl
/-! ### two copies in the store -/
abbrev Cells := List Cell × List Cell
structure Put where
  copy : Nat
  spot : Nat
  con : List Int
def setC (A : Cells) (c s : Nat) (x : Cell) : Cells := if c = 0 then (A.1.set s x, A.2) else (A.1, A.2.set s x)
def app (A : Cells) (q : Put) : Cells := setC A q.copy q.spot (rightC q.spot q.con)
def two (st : Sto) (l0 l1 : Nat) (A : Cells) : Sto := (st.set l0 (.lst (A.1.map cellD))).set l1 (.lst (A.2.map cellD))
theorem two_len (st : Sto) (l0 l1 : Nat) (A : Cells) : (two st l0 l1 A).length = st.length := by simp [two]
theorem two_ne {st : Sto} {l0 l1 l : Nat} {A : Cells} (h0 : l ≠ l0) (h1 : l ≠ l1) : (two st l0 l1 A)[l]? = st[l]? := by
  unfold two
  rw [List.getElem?_set_ne (Ne.symm h1), List.getElem?_set_ne (Ne.symm h0)]
theorem two_at0 {st : Sto} {l0 l1 : Nat} {A : Cells} (h : l0 ≠ l1) (b : l0 < st.length) : (two st l0 l1 A)[l0]? = some (.lst (A.1.map cellD)) := by
  unfold two
  rw [List.getElem?_set_ne (Ne.symm h), List.getElem?_set_self b]
theorem two_at1 {st : Sto} {l0 l1 : Nat} {A : Cells} (b : l1 < st.length) : (two st l0 l1 A)[l1]? = some (.lst (A.2.map cellD)) := by
  unfold two
  rw [List.getElem?_set_self (by simpa using b)]
theorem two_set0 {st : Sto} {l0 l1 : Nat} {A : Cells} (h : l0 ≠ l1) (x : List Cell) : (two st l0 l1 A).set l0 (.lst (x.map cellD)) = two st l0 l1 (x, A.2) := by
  unfold two
  rw [List.set_comm _ _ (Ne.symm h), List.set_set]
theorem two_set1 {st : Sto} {l0 l1 : Nat} {A : Cells} (x : List Cell) : (two st l0 l1 A).set l1 (.lst (x.map cellD)) = two st l0 l1 (A.1, x) := by
  unfold two
  rw [List.set_set]
theorem two_same {st : Sto} {l0 l1 : Nat} {A : Cells} (h0 : st[l0]? = some (.lst (A.1.map cellD))) (h1 : st[l1]? = some (.lst (A.2.map cellD))) : two st l0 l1 A = st := by
  unfold two
  obtain ⟨b0, e0⟩ := List.getElem?_eq_some_iff.mp h0
  obtain ⟨b1, e1⟩ := List.getElem?_eq_some_iff.mp h1
  rw [← e0, List.set_getElem_self, ← e1, List.set_getElem_self]
theorem two_two {st : Sto} {l0 l1 : Nat} {A B : Cells} (h : l0 ≠ l1) : two (two st l0 l1 A) l0 l1 B = two st l0 l1 B := by
  show ((two st l0 l1 A).set l0 (.lst (B.1.map cellD))).set l1 (.lst (B.2.map cellD)) = _
  rw [two_set0 h, two_set1]
abbrev sDisk : Str := "Disk"
abbrev sPlaces : Str := "places"
abbrev sCopies : Str := "copies"
def diskO (p lo : Nat) : SO := .ins sDisk [(sPlaces, .int (p : Int)), (sCopies, .ref lo)]
structure TwoAt (st : Sto) (lo l0 l1 : Nat) : Prop where
  out : st[lo]? = some (.lst [.ref l0, .ref l1])
  n01 : l0 ≠ l1
  no0 : lo ≠ l0
  no1 : lo ≠ l1
  b0 : l0 < st.length
  b1 : l1 < st.length
structure DiskAt (st : Sto) (l lo l0 l1 p : Nat) : Prop extends TwoAt st lo l0 l1 where
  ins : st[l]? = some (diskO p lo)
  nl0 : l ≠ l0
  nl1 : l ≠ l1
/-- q is a put on copies of n spots -/
def Put.Ok (n : Nat) (q : Put) : Prop := q.copy < 2 ∧ q.spot < n
def Cells.Of (n : Nat) (A : Cells) : Prop := A.1.length = n ∧ A.2.length = n
theorem setC_of {n c s : Nat} {x : Cell} {A : Cells} (h : Cells.Of n A) : Cells.Of n (setC A c s x) := by
  unfold setC Cells.Of at *
  split <;> simp [h]
theorem app_of {n : Nat} {A : Cells} {q : Put} (h : Cells.Of n A) : Cells.Of n (app A q) := setC_of h
def slotC (c l0 l1 : Nat) : Nat := if c = 0 then l0 else l1
def slotOf (q : Put) (l0 l1 : Nat) : Nat := slotC q.copy l0 l1
theorem copy2 {c : Nat} (h : c < 2) : c = 0 ∨ c = 1 := by omega
/-- the list of a copy, then the cell set -/
theorem set_twoC {st : Sto} {lo l0 l1 n c s : Nat} {x : Cell} {A : Cells} (t : TwoAt st lo l0 l1) (hA : Cells.Of n A) (hc : c < 2) (hs : s < n) (hn : n ≤ 1000) : (opIx (.ref lo) (.int (c : Int)) (two st l0 l1 A) = .ok (.ref (slotC c l0 l1)) (two st l0 l1 A)) ∧
    setAt (.ref (slotC c l0 l1)) (.int (s : Int)) (cellD x) (two st l0 l1 A) = .ok () (two st l0 l1 (setC A c s x)) := by
  have ho : (two st l0 l1 A)[lo]? = some (.lst [.ref l0, .ref l1]) := by rw [two_ne t.no0 t.no1]; exact t.out
  rcases copy2 hc with e | e
  · have es : slotC c l0 l1 = l0 := by unfold slotC; rw [if_pos e]
    refine ⟨?_, ?_⟩
    · rw [es, e]
      exact ix_ref ho rfl
    · rw [es, set_ref (two_at0 t.n01 t.b0) (by rw [List.length_map, hA.1]; exact hs) (by rw [List.length_map, hA.1]; omega)]
      rw [← List.map_set, two_set0 t.n01]
      unfold setC
      rw [if_pos e]
  · have es : slotC c l0 l1 = l1 := by unfold slotC; rw [if_neg (by omega)]
    refine ⟨?_, ?_⟩
    · rw [es, e]
      exact ix_ref ho rfl
    · rw [es, set_ref (two_at1 t.b1) (by rw [List.length_map, hA.2]; exact hs) (by rw [List.length_map, hA.2]; omega)]
      rw [← List.map_set, two_set1]
      unfold setC
      rw [if_neg (by omega)]
theorem set_two {st : Sto} {lo l0 l1 n : Nat} {A : Cells} {q : Put} (t : TwoAt st lo l0 l1) (hA : Cells.Of n A) (hq : q.Ok n) (hn : n ≤ 1000) : (opIx (.ref lo) (.int (q.copy : Int)) (two st l0 l1 A) = .ok (.ref (slotOf q l0 l1)) (two st l0 l1 A)) ∧
    setAt (.ref (slotOf q l0 l1)) (.int (q.spot : Int)) (cellD (rightC q.spot q.con)) (two st l0 l1 A) = .ok () (two st l0 l1 (app A q)) := set_twoC t hA hq.1 hq.2 hn
def WriteOk (f : List D → Sto → R D) : Prop := ∀ (st : Sto) (l lo l0 l1 p n : Nat) (A : Cells) (q : Put), DiskAt st l lo l0 l1 p → Cells.Of n A → q.Ok n → n ≤ 1000 → f [.ref l, .int (q.copy : Int), .int (q.spot : Int), .tup (q.con.map .int)] (two st l0 l1 A) = .ok .non (two st l0 l1 (app A q))
theorem write_ok {Ph : Nat → List D → Sto → R D} {fk : Str → Str → Bool} {i : Nat} (hf : fk sCopies sDisk = true) (hc : CellOk (Ph i)) : WriteOk (runDef ⟨4, 4, true, g_Disk_write fk i⟩ Ph) := fun st l lo l0 l1 p n A q hd hA hq hn => by
  refine def_unit rfl rfl (by rw [two_len, two_len]) ?_
  unfold g_Disk_write
  trivial
  rw [hc]
  trivial
  have hl : (two st l0 l1 A)[l]? = some (diskO p lo) := by rw [two_ne hd.nl0 hd.nl1]; exact hd.ins
  obtain ⟨s1, s2⟩ := set_two hd.toTwoAt hA hq hn
  rw [getFld_at (d := .ref lo) hl hf rfl]
  trivial
  rw [s1]
  trivial
  rw [s2]
  trivial
def DCellOk (f : List D → Sto → R D) : Prop := ∀ (st : Sto) (l lo l0 l1 p n c s : Nat) (A : Cells) (x : Cell), DiskAt st l lo l0 l1 p → Cells.Of n A → c < 2 → (if c = 0 then A.1 else A.2)[s]? = some x → f [.ref l, .int (c : Int), .int (s : Int)] (two st l0 l1 A) = .ok (cellD x) (two st l0 l1 A)
theorem ix_two {st : Sto} {lo l0 l1 c s : Nat} {A : Cells} {x : Cell} (t : TwoAt st lo l0 l1) (hc : c < 2) (hx : (if c = 0 then A.1 else A.2)[s]? = some x) : ∃ m, opIx (.ref lo) (.int (c : Int)) (two st l0 l1 A) = .ok (.ref m) (two st l0 l1 A) ∧ opIx (.ref m) (.int (s : Int)) (two st l0 l1 A) = .ok (cellD x) (two st l0 l1 A) := by
  have ho : (two st l0 l1 A)[lo]? = some (.lst [.ref l0, .ref l1]) := by rw [two_ne t.no0 t.no1]; exact t.out
  rcases copy2 hc with rfl | rfl
  · simp only [if_true] at hx
    exact ⟨l0, ix_ref ho rfl, ix_ref (two_at0 t.n01 t.b0) (by rw [List.getElem?_map, hx]; rfl)⟩
  · simp only [Nat.one_ne_zero, if_false] at hx
    exact ⟨l1, ix_ref ho rfl, ix_ref (two_at1 t.b1) (by rw [List.getElem?_map, hx]; rfl)⟩
theorem dcell_ok {Ph : Nat → List D → Sto → R D} {fk : Str → Str → Bool} (hf : fk sCopies sDisk = true) : DCellOk (runDef ⟨3, 3, true, g_Disk_cell fk⟩ Ph) := fun st l lo l0 l1 p n c s A x hd hA hc hx => by
  refine def_pure rfl rfl ?_
  unfold g_Disk_cell
  trivial
  have hl : (two st l0 l1 A)[l]? = some (diskO p lo) := by rw [two_ne hd.nl0 hd.nl1]; exact hd.ins
  obtain ⟨m, s1, s2⟩ := ix_two hd.toTwoAt hc hx
  rw [getFld_at (d := .ref lo) hl hf rfl]
  trivial
  rw [s1]
  trivial
  rw [s2]
  trivial
end MI
namespace MI
open PySem PySem.Spec PyProof.Rows L2 MX MI
local macro_rules | `(tactic| trivial) => `(tactic| simp only [w_ok, w_exc, w_C, w_bin, w_neg, w_and, w_or, w_not, w_ifE, w_args0, w_args, w_tup, w_lst, w_new, w_call, w_isI, w_chain, w_opt0, w_opt, w_sl, w_st, w_methL, w_methS, on_bl, ot_bl, w_add, w_addT, w_addL, w_addS, w_sub, w_mul, w_mod, w_div, w_pow, w_lt, w_le, w_gt, w_ge, w_eq, w_ne, w_eqB, w_neB, w_isB, w_isNB, w_lenT, w_lenL, w_tupL, w_tupT, w_listT, w_listL, w_ixT, w_ixL, w_slT, w_slL, w_stT, w_seq, w_skip, w_asg, w_asgT, w_expr, w_ret, w_sIf, w_raise, w_for, w_set, w_try, w_pick0, w_pick, w_fld, w_methO, w_make, w_fldS, items_live, items_multi, ii_list_str, ii_str_lst, w_isNN, w_isIN, w_isTN, w_isSN, w_inNN, w_inTN, decide_true, decide_false,
  mVar_app, List.getElem?_cons_zero, List.getElem?_cons_succ, List.set_cons_zero, List.set_cons_succ, startD, List.map_cons, List.map_nil, List.length_cons, List.length_nil, List.length_map, Nat.zero_add, Nat.reduceAdd, Nat.reduceSub, List.replicate, List.cons_append, List.nil_append, gTupV_app, gVars_nil, gVars_cons, gVar_app, Option.some.injEq, exists_eq_left', wipeD_nil, wipeD_cons, atI0, atI1, atI2,
  decide_eq_true_eq, decide_eq_false_iff_not, Bool.not_eq_true', Bool.not_eq_false', Int.reduceLT, Int.reduceLE, Int.reduceAdd, Int.reduceMul, Int.reduceSub, Int.reduceNeg, true_and, and_true, Bool.true_eq_false, Bool.false_eq_true, false_implies, implies_true, true_implies, Nat.reduceLeDiff, fz_same, ii_int_int, ii_bool_int, ii_int_bl, ii_bool_bl, ii_tuple_tup, ii_str_str, ii_list_lst, ii_list_tup, ii_tuple_lst, ii_tuple_int, ii_list_int, ii_str_int, ii_str_tup, ii_int_str, ii_int_tup, ii_int_lst, ii_int_non, ii_bool_str, ii_tuple_str, ii_tuple_non, ii_list_non, ii_str_non, not_true_eq_false, not_false_eq_true, holds_vals, items_vals, eq_self])
-- s2
abbrev sLine : Str := ⟨#[108, 105, 110, 101]⟩
abbrev sPut : Str := ⟨#[112, 117, 116]⟩
def Put.d (q : Put) : D := .tup [.str sPut, .int (q.copy : Int), .int (q.spot : Int), .tup (q.con.map .int)]
abbrev Step := Option Put
def stepD : Step → D
  | none => .tup [.str sLine]
  | some q => q.d
/-! ### puts done -/
def PutsAt (st : Sto) (l0 l1 : Nat) (d : D) (qs : List Put) : Prop := d = .lst (qs.map Put.d) ∨ ∃ r, d = .ref r ∧ r ≠ l0 ∧ r ≠ l1 ∧ st[r]? = some (.lst (qs.map Put.d))
theorem putsAt_seq {st : Sto} {l0 l1 i : Nat} {d : D} {qs : List Put} {A : Cells} {env : DEnv} (h : PutsAt st l0 l1 d qs) (he : env[i]? = some (some d)) : ∃ s : Src, iSeq (mVar i) env (two st l0 l1 A) = .ok s (two st l0 l1 A) ∧ s.items = qs.map Put.d ∧ ∀ B, s.holds (two st l0 l1 B) := by
  rcases h with rfl | ⟨r, rfl, h0, h1, hr⟩
  · exact ⟨.vals (qs.map Put.d), by unfold iSeq mVar; simp only [he, bind_ok], rfl, fun _ => True.intro⟩
  · exact ⟨.live r (qs.map Put.d), iSeq_ref he (by rw [two_ne h0 h1]; exact hr), rfl, fun B => by show (two st l0 l1 B)[r]? = _; rw [two_ne h0 h1]; exact hr⟩
def DoPutsOk (f : List D → Sto → R D) : Prop := ∀ (st : Sto) (l lo l0 l1 p n : Nat) (A : Cells) (qs : List Put) (d : D), DiskAt st l lo l0 l1 p → Cells.Of n A → (∀ q ∈ qs, q.Ok n) → n ≤ 1000 → PutsAt st l0 l1 d qs → f [.ref l, d] (two st l0 l1 A) = .ok .non (two st l0 l1 (qs.foldl app A))
theorem fold_of {n : Nat} : ∀ {qs : List Put} {A : Cells}, Cells.Of n A → Cells.Of n (qs.foldl app A)
  | [], _, h => h
  | _ :: qs, _, h => fold_of (qs := qs) (app_of h)
theorem fold_take {qs : List Put} {A : Cells} {k : Nat} {q : Put} (h : qs[k]? = some q) : (qs.take (k + 1)).foldl app A = app ((qs.take k).foldl app A) q := by
  rw [List.take_succ, h]
  simp [List.foldl_append]
theorem isObj_two {st : Sto} {l lo l0 l1 p : Nat} {A : Cells} {m : Str} (hd : DiskAt st l lo l0 l1 p) (hm : m ≠ sPlaces) (hm2 : m ≠ sCopies) : isObj sDisk m (.ref l) (two st l0 l1 A) = true := by
  refine isObj_at (fs := [(sPlaces, .int (p : Int)), (sCopies, .ref lo)]) (by rw [two_ne hd.nl0 hd.nl1]; exact hd.ins) ?_
  have e1 : (m == sPlaces) = false := by simpa using hm
  have e2 : (m == sCopies) = false := by simpa using hm2
  simp only [List.lookup_cons, e1, e2, List.lookup_nil]
theorem doputs_ok {Ph : Nat → List D → Sto → R D} {i : Nat} (hw : WriteOk (Ph i)) : DoPutsOk (runDef ⟨2, 6, true, g_do_puts i⟩ Ph) := fun st l lo l0 l1 p n A qs d hd hA hq hn hp => by
  refine def_unit rfl rfl (by rw [two_len, two_len]) ?_
  unfold g_do_puts
  trivial
  obtain ⟨s, e1, e2, e3⟩ := putsAt_seq (A := A) (env := [some (.ref l), some d, none, none, none, none]) (i := 1) hp rfl
  rw [e1]
  trivial
  refine for_wp (fun k env t => ∃ a b c e, env = [some (.ref l), some d, a, b, c, e] ∧ t = two st l0 l1 ((qs.take k).foldl app A)) _ ⟨none, none, none, none, rfl, rfl⟩ ?_ ?_
  · rintro k x env t hk ⟨a, b, c, e, rfl, rfl⟩
    rw [e2, List.getElem?_map] at hk
    obtain ⟨q, hqk, rfl⟩ := Option.map_eq_some_iff.mp hk
    refine ⟨_, rfl, ?_⟩
    trivial
    refine ⟨isObj_two hd (by decide) (by decide), ?_⟩
    rw [hw st l lo l0 l1 p n _ q hd (fold_of hA) (hq q (List.mem_of_getElem? hqk)) hn]
    trivial
    exact ⟨e3 _, _, _, _, _, rfl, by rw [fold_take hqk]⟩
  · rintro env t ⟨a, b, c, e, rfl, rfl⟩
    rw [e2]
    simp
def LPutOk (f : List D → Sto → R D) : Prop := ∀ (st : Sto) (lo l0 l1 n : Nat) (A : Cells) (qs : List Put) (d : D), TwoAt st lo l0 l1 → Cells.Of n A → (∀ q ∈ qs, q.Ok n) → n ≤ 1000 → PutsAt st l0 l1 d qs → f [.ref lo, d] (two st l0 l1 A) = .ok .non (two st l0 l1 (qs.foldl app A))
theorem lput_ok {Ph : Nat → List D → Sto → R D} {i : Nat} (hw : SumOk (Ph i)) : LPutOk (runDef ⟨2, 6, true, g__law_put i⟩ Ph) := fun st lo l0 l1 n A qs d hd hA hq hn hp => by
  refine def_unit rfl rfl (by rw [two_len, two_len]) ?_
  unfold g__law_put
  trivial
  obtain ⟨s, e1, e2, e3⟩ := putsAt_seq (A := A) (env := [some (.ref lo), some d, none, none, none, none]) (i := 1) hp rfl
  rw [e1]
  trivial
  refine for_wp (fun k env t => ∃ a b c e, env = [some (.ref lo), some d, a, b, c, e] ∧ t = two st l0 l1 ((qs.take k).foldl app A)) _ ⟨none, none, none, none, rfl, rfl⟩ ?_ ?_
  · rintro k x env t hk ⟨a, b, c, e, rfl, rfl⟩
    rw [e2, List.getElem?_map] at hk
    obtain ⟨q, hqk, rfl⟩ := Option.map_eq_some_iff.mp hk
    refine ⟨_, rfl, ?_⟩
    trivial
    rw [hw]
    trivial
    obtain ⟨s1, s2⟩ := set_two hd (fold_of (qs := qs.take k) hA) (hq q (List.mem_of_getElem? hqk)) hn
    rw [s1]
    trivial
    have s3 : setAt (.ref (slotOf q l0 l1)) (.int (q.spot : Int)) (.tup [.int (sumZ q.spot q.con), .tup (q.con.map .int)]) (two st l0 l1 ((qs.take k).foldl app A)) = _ := s2
    rw [s3]
    trivial
    exact ⟨e3 _, _, _, _, _, rfl, by rw [fold_take hqk]⟩
  · rintro env t ⟨a, b, c, e, rfl, rfl⟩
    rw [e2]
    simp
/-! ### groups -/
def gstep (p : List (List Put) × List Put) : Step → List (List Put) × List Put
  | none => (p.1 ++ [p.2], [])
  | some q => (p.1, p.2 ++ [q])
def groups (ss : List Step) : List (List Put) := (ss.foldl gstep ([], [])).1 ++ [(ss.foldl gstep ([], [])).2]
theorem groups_flat (ss : List Step) : (groups ss).flatten = ss.filterMap id := by
  have key : ∀ (ss : List Step) (p : List (List Put) × List Put), ((ss.foldl gstep p).1 ++ [(ss.foldl gstep p).2]).flatten = p.1.flatten ++ p.2 ++ ss.filterMap id := by
    intro ss
    induction ss with
    | nil => intro p; simp
    | cons s ss ih =>
      intro p
      rw [List.foldl_cons, ih]
      cases s <;> simp [gstep]
  have := key ss ([], [])
  simpa [groups] using this
def rf (L k : Nat) : Nat := if k = 0 then L else L + 1 + k
def gso (g : List Put) : SO := .lst (g.map Put.d)
def gout (L n : Nat) : List D := (List.range n).map fun k => D.ref (rf L k)
def gst (L : Nat) : List (List Put) → List SO
  | [] => []
  | g :: r => gso g :: .lst (gout L (r.length + 1)) :: r.map gso
theorem gst_len (L : Nat) (g : List Put) (r : List (List Put)) : (gst L (g :: r)).length = r.length + 2 := by simp [gst]
theorem gst_out {st : Sto} {gs : List (List Put)} (h : gs ≠ []) : (st ++ gst st.length gs)[st.length + 1]? = some (.lst (gout st.length gs.length)) := by
  cases gs with
  | nil => exact absurd rfl h
  | cons g r =>
    rw [List.getElem?_append_right (by omega)]
    simp [gst]
theorem gst_at {st : Sto} {gs : List (List Put)} {k : Nat} {g : List Put} (h : gs[k]? = some g) : (st ++ gst st.length gs)[rf st.length k]? = some (gso g) := by
  cases gs with
  | nil => simp at h
  | cons g0 r =>
    cases k with
    | zero =>
      simp at h
      subst h
      rw [List.getElem?_append_right (by simp [rf])]
      simp [rf, gst]
    | succ k =>
      simp at h
      have e : rf st.length (k + 1) = st.length + (k + 2) := by simp [rf]; omega
      rw [e, List.getElem?_append_right (by omega), Nat.add_sub_cancel_left]
      simp [gst, h]
theorem rf_inj_out (L k : Nat) : rf L k ≠ L + 1 := by
  unfold rf
  split <;> omega
theorem rf_ge (L k : Nat) : L ≤ rf L k := by
  unfold rf
  split <;> omega
theorem gst_new {st : Sto} {gs : List (List Put)} (h : gs ≠ []) : ((st ++ gst st.length gs) ++ [SO.lst []]).set (st.length + 1) (SO.lst (gout st.length gs.length ++ [D.ref (st ++ gst st.length gs).length])) = st ++ gst st.length (gs ++ [[]]) := by
  cases gs with
  | nil => exact absurd rfl h
  | cons g r =>
    have e : (st ++ gst st.length (g :: r)).length = rf st.length (r.length + 1) := by
      rw [List.length_append, gst_len]
      simp [rf]
      omega
    rw [e, List.append_assoc, List.set_append_right _ _ (by omega), Nat.add_sub_cancel_left]
    congr 1
    simp only [gst, List.cons_append, List.set_cons_succ, List.set_cons_zero, List.length_append, List.length_cons, List.length_nil, List.map_append, List.map_cons, List.map_nil]
    have e2 : gout st.length (r.length + 1) ++ [D.ref (rf st.length (r.length + 1))] = gout st.length (r.length + (0 + 1) + 1) := by
      unfold gout
      rw [show r.length + (0 + 1) + 1 = (r.length + 1) + 1 by omega, List.range_succ (n := r.length + 1)]
      simp
    rw [e2]
    rfl
theorem gst_last {st : Sto} {pre : List (List Put)} {l : List Put} {q : Put} : (st ++ gst st.length (pre ++ [l])).set (rf st.length pre.length) (.lst (l.map Put.d ++ [q.d])) = st ++ gst st.length (pre ++ [l ++ [q]]) := by
  rw [List.set_append_right _ _ (rf_ge _ _)]
  congr 1
  cases pre with
  | nil => simp [gst, rf, gso]
  | cons g r =>
    have e : rf st.length (g :: r).length - st.length = r.length + 1 + 1 := by simp [rf]; omega
    rw [e]
    simp only [gst, List.cons_append, List.set_cons_succ, List.length_append, List.length_cons, List.length_nil, List.map_append, List.map_cons, List.map_nil]
    congr 2
    rw [List.set_append_right _ _ (by simp)]
    simp [gso]
theorem gout_last (L n : Nat) : atI (gout L (n + 1)) (-1) = some (.ref (rf L n)) := by
  have hl : (gout L (n + 1)).length = n + 1 := by simp [gout]
  have h : (gout L (n + 1))[n]? = some (.ref (rf L n)) := by simp [gout]
  unfold atI ixN
  rw [hl, if_neg (by decide), if_pos (by omega)]
  show (gout L (n + 1))[_]? = _
  rw [show (-1 + ((n + 1 : Nat) : Int)).toNat = n by omega]
  exact h
def GroupsOk (f : List D → Sto → R D) : Prop := ∀ (st : Sto) (ss : List Step), ss.length ≤ 1000 → f [.lst (ss.map stepD)] st = .ok (.ref (st.length + 1)) (st ++ gst st.length (groups ss))
end MI
namespace MI
open PySem PySem.Spec PyProof.Rows L2 MX MI
local macro_rules | `(tactic| trivial) => `(tactic| simp only [w_ok, w_exc, w_C, w_bin, w_neg, w_and, w_or, w_not, w_ifE, w_args0, w_args, w_tup, w_lst, w_new, w_call, w_isI, w_chain, w_opt0, w_opt, w_sl, w_st, w_methL, w_methS, on_bl, ot_bl, w_add, w_addT, w_addL, w_addS, w_sub, w_mul, w_mod, w_div, w_pow, w_lt, w_le, w_gt, w_ge, w_eq, w_ne, w_eqB, w_neB, w_isB, w_isNB, w_lenT, w_lenL, w_tupL, w_tupT, w_listT, w_listL, w_ixT, w_ixL, w_slT, w_slL, w_stT, w_seq, w_skip, w_asg, w_asgT, w_expr, w_ret, w_sIf, w_raise, w_for, w_set, w_try, w_pick0, w_pick, w_fld, w_methO, w_make, w_fldS, items_live, items_multi, ii_list_str, ii_str_lst, w_isNN, w_isIN, w_isTN, w_isSN, w_inNN, w_inTN, decide_true, decide_false,
  mVar_app, List.getElem?_cons_zero, List.getElem?_cons_succ, List.set_cons_zero, List.set_cons_succ, startD, List.map_cons, List.map_nil, List.length_cons, List.length_nil, List.length_map, Nat.zero_add, Nat.reduceAdd, Nat.reduceSub, List.replicate, List.cons_append, List.nil_append, gTupV_app, gVars_nil, gVars_cons, gVar_app, Option.some.injEq, exists_eq_left', wipeD_nil, wipeD_cons, atI0, atI1, atI2,
  decide_eq_true_eq, decide_eq_false_iff_not, Bool.not_eq_true', Bool.not_eq_false', Int.reduceLT, Int.reduceLE, Int.reduceAdd, Int.reduceMul, Int.reduceSub, Int.reduceNeg, true_and, and_true, Bool.true_eq_false, Bool.false_eq_true, false_implies, implies_true, true_implies, Nat.reduceLeDiff, fz_same, ii_int_int, ii_bool_int, ii_int_bl, ii_bool_bl, ii_tuple_tup, ii_str_str, ii_list_lst, ii_list_tup, ii_tuple_lst, ii_tuple_int, ii_list_int, ii_str_int, ii_str_tup, ii_int_str, ii_int_tup, ii_int_lst, ii_int_non, ii_bool_str, ii_tuple_str, ii_tuple_non, ii_list_non, ii_str_non, not_true_eq_false, not_false_eq_true, holds_vals, items_vals, eq_self])
-- s2
theorem ixT_neg {st : Sto} {l n L : Nat} (h : st[l]? = some (.lst (gout L (n + 1)))) : opIx (.ref l) (.int (-1)) st = .ok (.ref (rf L n)) st := by
  unfold opIx
  simp only [deref_ref_lst h, gout_last]
theorem pln_step (s : Step) : Pln 2 (stepD s) := by
  cases s with
  | none => exact .tup (.cons (.str (by decide +kernel)) .nil)
  | some q => exact .tup (.cons (.str (by decide +kernel)) (.cons .int (.cons .int (.cons (.tup .ints) .nil))))
theorem eq_line (s : Step) (st : Sto) : opEq (stepD s) (.tup [.str sLine]) st = .ok (.bl s.isNone) st := by
  have h2 : Pln 2 (D.tup [.str sLine]) := .tup (.cons (.str (by decide +kernel)) .nil)
  have d : deref st (stepD s) = stepD s := by cases s <;> rfl
  rw [opEq_pl (x := stepD s) (y := .tup [.str sLine]) (k := 2) (j := 2) (by rw [d]; exact pln_step s) h2 (by decide) (by decide), d]
  cases s with
  | none => simp only [deref_tup]; exact congrArg (fun b => R.ok (D.bl b) st) (beqD_refl h2)
  | some q => rfl
theorem eq_word (s : Step) (st : Sto) : ∃ w, opIx (stepD s) (.int 0) st = .ok w st ∧ opEq w (.str sLine) st = .ok (.bl s.isNone) st := by
  cases s with
  | none =>
    refine ⟨.str sLine, rfl, ?_⟩
    rw [opEq_pl (x := .str sLine) (y := .str sLine) (k := 0) (j := 0) (.str (by decide +kernel)) (.str (by decide +kernel)) (by decide) (by decide)]
    exact congrArg (fun b => R.ok (D.bl b) st) (beqD_refl (k := 0) (.str (by decide +kernel)))
  | some q =>
    refine ⟨.str sPut, rfl, ?_⟩
    rw [opEq_pl (x := .str sPut) (y := .str sLine) (k := 0) (j := 0) (.str (by decide +kernel)) (.str (by decide +kernel)) (by decide) (by decide)]
    rfl
theorem ne_line (s : Step) (st : Sto) : opNe (stepD s) (.tup [.str sLine]) st = .ok (.bl s.isSome) st := by
  have h2 : Pln 2 (D.tup [.str sLine]) := .tup (.cons (.str (by decide +kernel)) .nil)
  have d : deref st (stepD s) = stepD s := by cases s <;> rfl
  rw [opNe_pl (x := stepD s) (y := .tup [.str sLine]) (k := 2) (j := 2) (by rw [d]; exact pln_step s) h2 (by decide) (by decide), d]
  cases s with
  | none => simp only [deref_tup]; exact congrArg (fun b => R.ok (D.bl (!b)) st) (beqD_refl h2)
  | some q => rfl
/-- the loop of both -/
theorem groups_loop {st : Sto} {ss : List Step} {t : ME} (hl : ss.length ≤ 1000) (ht : ∀ (s : Step) (env : DEnv) (T : Sto), env[2]? = some (some (stepD s)) → t env T = .ok (.bl s.isNone) T) {a : D} :
    (forGo (.vals (ss.map stepD)) (gVar 2) (sSeq (sIf t (sSeq (sExpr (mMethL mAppend (mVar 1) [(mNew [])])) sSkip) (sSeq (sExpr (mMethL mAppend (mBin opIx (mVar 1) (mNeg (mC (.int 1)))) [(mVar 2)])) sSkip)) sSkip) (ss.map stepD) [some a, some (.ref (st.length + 1)), none] (st ++ gst st.length [[]])).wp
      (fun env T => T = st ++ gst st.length (groups ss) ∧ env[1]? = some (some (.ref (st.length + 1)))) (fun _ _ => False) nXS := by
  refine for_wp (fun k env T => ∃ (e : Option D) (pre : List (List Put)) (l : List Put), (ss.take k).foldl gstep ([], []) = (pre, l) ∧ pre.length ≤ k ∧ l.length ≤ k ∧ env = [some a, some (.ref (st.length + 1)), e] ∧ T = st ++ gst st.length (pre ++ [l])) _ ⟨none, [], [], rfl, by simp, by simp, rfl, rfl⟩ ?_ ?_
  · rintro k d env T hk ⟨e, pre, l, hf, hp, hl2, rfl, rfl⟩
    rw [List.getElem?_map] at hk
    obtain ⟨s, hs, rfl⟩ := Option.map_eq_some_iff.mp hk
    have hkl : k < ss.length := (List.getElem?_eq_some_iff.mp hs).1
    have hf2 : (ss.take (k + 1)).foldl gstep ([], []) = gstep (pre, l) s := by
      rw [List.take_succ, hs]
      simp [List.foldl_append, hf]
    have hout := gst_out (st := st) (gs := pre ++ [l]) (by simp)
    rw [List.length_append, List.length_singleton] at hout
    refine ⟨_, rfl, ?_⟩
    rw [w_seq, w_sIf, ht s _ _ rfl, w_ok, ot_bl]
    cases s with
    | none =>
      refine ⟨fun _ => ?_, fun z => Bool.noConfusion z⟩
      trivial
      refine ⟨isLst_ref hout, ?_⟩
      rw [app_ref (old_at hout) (by simp [gout]; omega)]
      trivial
      refine ⟨some (stepD none), pre ++ [l], [], hf2, by simp; omega, by simp, rfl, ?_⟩
      have := gst_new (st := st) (gs := pre ++ [l]) (by simp)
      rw [List.length_append, List.length_singleton] at this
      exact this
    | some q =>
      refine ⟨fun z => Bool.noConfusion z, fun _ => ?_⟩
      have hlast : (st ++ gst st.length (pre ++ [l]))[rf st.length pre.length]? = some (.lst (l.map Put.d)) := gst_at (gs := pre ++ [l]) (k := pre.length) (by simp)
      trivial
      rw [ixT_neg hout]
      trivial
      refine ⟨isLst_ref hlast, ?_⟩
      rw [app_ref hlast (by simp; omega)]
      trivial
      exact ⟨some (stepD (some q)), pre, l ++ [q], hf2, by omega, by simp; omega, rfl, gst_last⟩
  · rintro env T ⟨e, pre, l, hf, hp, hl2, rfl, rfl⟩
    refine ⟨?_, rfl⟩
    rw [List.length_map, List.take_length] at hf
    unfold groups
    rw [hf]
theorem rt_raw {d : DefR} {Ph : Nat → List D → Sto → R D} {ds : List D} {st st' : Sto} {v : D} (ha : ds.length = d.arity) (hf : d.frz = false) (h : (d.body Ph (startD d.slots ds) st).wp (fun _ _ => False) (fun u t => u = v ∧ t = st') nXS) : runDef d Ph ds st = .ok v st' := by
  rw [swp_eq] at h
  cases q : d.body Ph (startD d.slots ds) st with
  | rt u t => rw [q] at h; obtain ⟨rfl, rfl⟩ := h; exact runDef_raw ha hf q
  | nx e t => rw [q] at h; exact h.elim
  | exc c e t => rw [q] at h; exact h.elim
  | bk e t => rw [q] at h; exact h.elim
  | ct e t => rw [q] at h; exact h.elim
  | stuck => rw [q] at h; exact h.elim
theorem groups_new {st : Sto} {env : DEnv} {P : D → Sto → Prop} {X : Nat → Sto → Prop} (h : P (.ref (st.length + 1)) (st ++ gst st.length [[]])) : (mNew [(mNew [])] env st).wp P X := by
  trivial
  have e : (st ++ [SO.lst []]).length = st.length + 1 := by simp
  rw [e, List.append_assoc]
  exact h
theorem groupsof_ok {Ph : Nat → List D → Sto → R D} : GroupsOk (runDef ⟨1, 3, false, g_groups_of⟩ Ph) := fun st ss hl => by
  refine rt_raw rfl rfl ?_
  unfold g_groups_of
  rw [w_seq, w_asg]
  refine groups_new ?_
  trivial
  have hi : iSeq (mVar 0) [some (.lst (ss.map stepD)), some (.ref (st.length + 1)), none] (st ++ gst st.length [[]]) = .ok (.vals (ss.map stepD)) (st ++ gst st.length [[]]) := rfl
  rw [hi]
  trivial
  refine (groups_loop hl (fun s env T h => ?_)).mono (fun env T h => ?_) (fun _ _ z => z.elim) (fun _ _ _ z => z)
  · obtain ⟨w, e1, e2⟩ := eq_word s T
    refine R.wp.eq ?_
    have v : mVar 2 env T = .ok (stepD s) T := by simp only [mVar, h]
    rw [w_bin, w_bin, v, w_ok, w_C, e1, w_ok, w_C, e2, w_ok]
    exact ⟨rfl, rfl⟩
  · obtain ⟨rfl, h1⟩ := h
    simp only [h1, w_ok, and_self]
theorem lgroups_ok {Ph : Nat → List D → Sto → R D} : GroupsOk (runDef ⟨1, 3, false, g__law_groups⟩ Ph) := fun st ss hl => by
  refine rt_raw rfl rfl ?_
  unfold g__law_groups
  rw [w_seq, w_asg]
  refine groups_new ?_
  trivial
  have hi : iSeq (mVar 0) [some (.lst (ss.map stepD)), some (.ref (st.length + 1)), none] (st ++ gst st.length [[]]) = .ok (.vals (ss.map stepD)) (st ++ gst st.length [[]]) := rfl
  rw [hi]
  trivial
  refine (groups_loop hl (fun s env T h => ?_)).mono (fun env T h => ?_) (fun _ _ z => z.elim) (fun _ _ _ z => z)
  · refine R.wp.eq ?_
    have v : mVar 2 env T = .ok (stepD s) T := by simp only [mVar, h]
    rw [w_bin, v]
    trivial
    rw [eq_line]
    trivial
  · obtain ⟨rfl, h1⟩ := h
    simp only [h1, w_ok, and_self]
theorem groups_ne (ss : List Step) : groups ss ≠ [] := by simp [groups]
theorem groups_mem {ss : List Step} {n : Nat} (h : ∀ q, some q ∈ ss → Put.Ok n q) : ∀ g ∈ groups ss, ∀ q ∈ g, q.Ok n := fun g hg q hq => by
  have : q ∈ (groups ss).flatten := List.mem_flatten.mpr ⟨g, hg, hq⟩
  rw [groups_flat] at this
  obtain ⟨s, hs, e⟩ := List.mem_filterMap.mp this
  simp only [id] at e
  subst e
  exact h q hs
theorem two_app {st g : Sto} {l0 l1 : Nat} {A : Cells} (b0 : l0 < st.length) (b1 : l1 < st.length) : two st l0 l1 A ++ g = two (st ++ g) l0 l1 A := by
  unfold two
  rw [List.set_append_left _ _ b0, List.set_append_left _ _ (by simpa using b1)]
theorem TwoAt.app {st g : Sto} {lo l0 l1 : Nat} (h : TwoAt st lo l0 l1) : TwoAt (st ++ g) lo l0 l1 :=
  ⟨by rw [List.getElem?_append_left (List.getElem?_eq_some_iff.mp h.out).1]; exact h.out, h.n01, h.no0, h.no1, by have := h.b0; simp; omega, by have := h.b1; simp; omega⟩
theorem DiskAt.app {st g : Sto} {l lo l0 l1 p : Nat} (h : DiskAt st l lo l0 l1 p) : DiskAt (st ++ g) l lo l0 l1 p :=
  ⟨h.toTwoAt.app, by rw [List.getElem?_append_left (List.getElem?_eq_some_iff.mp h.ins).1]; exact h.ins, h.nl0, h.nl1⟩
/-- each group done, one behind another -/
theorem over_groups {f : List D → Sto → R D} {st : Sto} {o : D} {l0 l1 n : Nat} {A : Cells} {ss : List Step} {env0 : List (Option D)} {i : Nat} {b : MS} (b0 : l0 < st.length) (b1 : l1 < st.length) (hA : Cells.Of n A) (hs : ∀ q, some q ∈ ss → Put.Ok n q) (N : DEnv → Sto → Prop)
    (hb : ∀ (env : DEnv) (B : Cells) (g : List Put) (r : Nat), Cells.Of n B → (∀ q ∈ g, q.Ok n) → PutsAt (st ++ gst st.length (groups ss)) l0 l1 (.ref r) g → (b ((env0).set i (some (.ref r))) (two (st ++ gst st.length (groups ss)) l0 l1 B)).wp (fun e t => e = env0.set i (some (.ref r)) ∧ t = two (st ++ gst st.length (groups ss)) l0 l1 (g.foldl MI.app B)) (fun _ _ => False) nXS)
    (fin : ∀ x, N (env0.set i x) (two (st ++ gst st.length (groups ss)) l0 l1 ((ss.filterMap id).foldl MI.app A)) ∧ N env0 (two (st ++ gst st.length (groups ss)) l0 l1 ((ss.filterMap id).foldl MI.app A))) :
    (forGo (.live (st.length + 1) (gout st.length (groups ss).length)) (gVar i) b (gout st.length (groups ss).length) env0 (two (st ++ gst st.length (groups ss)) l0 l1 A)).wp N (fun _ _ => False) nXS := by
  have hl : ∀ B, (two (st ++ gst st.length (groups ss)) l0 l1 B)[st.length + 1]? = some (.lst (gout st.length (groups ss).length)) := fun B => by
    rw [two_ne (by omega) (by omega)]
    exact gst_out (groups_ne ss)
  refine for_wp (fun k env T => (env = env0 ∨ ∃ x, env = env0.set i x) ∧ T = two (st ++ gst st.length (groups ss)) l0 l1 (((groups ss).take k).flatten.foldl MI.app A)) _ ⟨.inl rfl, rfl⟩ ?_ ?_
  · rintro k d env T hk ⟨he, rfl⟩
    have hkl : k < (groups ss).length := by
      have := (List.getElem?_eq_some_iff.mp hk).1
      simpa [gout, Src.items] using this
    have hd : d = .ref (rf st.length k) := by
      simp [gout, Src.items, hkl] at hk
      exact hk.symm
    subst hd
    have hg : (groups ss)[k]? = some (groups ss)[k] := List.getElem?_eq_getElem hkl
    have hset : env.set i (some (.ref (rf st.length k))) = env0.set i (some (.ref (rf st.length k))) := by
      rcases he with rfl | ⟨x, rfl⟩
      · rfl
      · rw [List.set_set]
    refine ⟨env0.set i (some (.ref (rf st.length k))), by unfold gVar; rw [hset], ?_⟩
    refine (hb env0 _ (groups ss)[k] (rf st.length k) (fold_of hA) (groups_mem hs _ (List.getElem_mem hkl)) (.inr ⟨_, rfl, ?_, ?_, gst_at hg⟩)).mono (fun e t h => ?_) (fun _ _ z => z) (fun _ _ _ z => z)
    · have := rf_ge st.length k; omega
    · have := rf_ge st.length k; omega
    · obtain ⟨rfl, rfl⟩ := h
      refine ⟨hl _, .inr ⟨_, rfl⟩, ?_⟩
      rw [List.take_succ, hg, Option.toList_some, List.flatten_append, List.foldl_append]
      simp only [List.flatten_cons, List.flatten_nil, List.append_nil]
  · rintro env T ⟨he, rfl⟩
    have e : ((groups ss).take (gout st.length (groups ss).length).length).flatten = ss.filterMap id := by
      rw [← groups_flat]
      simp [gout]
    rw [e]
    rcases he with rfl | ⟨x, rfl⟩
    · exact (fin none).2
    · exact (fin x).1
def DoStepsOk (f : List D → Sto → R D) : Prop := ∀ (st : Sto) (l lo l0 l1 p n : Nat) (A : Cells) (ss : List Step), DiskAt st l lo l0 l1 p → Cells.Of n A → (∀ q, some q ∈ ss → Put.Ok n q) → n ≤ 1000 → ss.length ≤ 1000 → f [.ref l, .lst (ss.map stepD)] (two st l0 l1 A) = .ok .non (two (st ++ gst st.length (groups ss)) l0 l1 ((ss.filterMap id).foldl app A))
theorem dosteps_ok {Ph : Nat → List D → Sto → R D} {i j : Nat} (hg : GroupsOk (Ph i)) (hp : DoPutsOk (Ph j)) : DoStepsOk (runDef ⟨2, 3, false, g_do_steps i j⟩ Ph) := fun st l lo l0 l1 p n A ss hd hA hs hn hl => by
  obtain ⟨t, e, rfl⟩ := raw_unit (d := ⟨2, 3, false, g_do_steps i j⟩) (Ph := Ph) (ds := [.ref l, .lst (ss.map stepD)]) (st := two st l0 l1 A) (P := fun t => t = two (st ++ gst st.length (groups ss)) l0 l1 ((ss.filterMap id).foldl app A)) rfl rfl (by
    unfold g_do_steps
    trivial
    have hi : iSeq (mCall (Ph i) [mVar 1]) [some (.ref l), some (.lst (ss.map stepD)), none] (two st l0 l1 A) = .ok (.live (st.length + 1) (gout st.length (groups ss).length)) (two (st ++ gst st.length (groups ss)) l0 l1 A) := by
      have e0 : mCall (Ph i) [mVar 1] [some (.ref l), some (.lst (ss.map stepD)), none] (two st l0 l1 A) = .ok (.ref (st.length + 1)) (two (st ++ gst st.length (groups ss)) l0 l1 A) := by
        refine R.wp.eq ?_
        trivial
        rw [hg _ ss hl]
        trivial
        rw [two_len]
        exact ⟨rfl, two_app hd.b0 hd.b1⟩
      unfold iSeq
      rw [e0, bind_ok]
      have := hd.b0
      have := hd.b1
      have h2 : (two (st ++ gst st.length (groups ss)) l0 l1 A)[st.length + 1]? = some (.lst (gout st.length (groups ss).length)) := by
        rw [two_ne (by omega) (by omega)]
        exact gst_out (groups_ne ss)
      simp only [h2]
    rw [hi]
    trivial
    refine (over_groups (f := Ph j) (o := .ref l) (i := 2) hd.b0 hd.b1 hA hs (fun _ t => t = two (st ++ gst st.length (groups ss)) l0 l1 ((ss.filterMap id).foldl app A)) (fun env B g r hB hq hr => ?_) ?_).mono (fun _ _ h => h) (fun _ _ z => z.elim) (fun _ _ _ z => z)
    · trivial
      rw [hp _ l lo l0 l1 p n B g _ hd.app hB hq hn hr]
      trivial
    · exact fun x => ⟨rfl, rfl⟩)
  exact e
end MI
namespace MI
open PySem PySem.Spec PyProof.Rows L2 MX MI
local macro_rules | `(tactic| trivial) => `(tactic| simp only [w_ok, w_exc, w_C, w_bin, w_neg, w_and, w_or, w_not, w_ifE, w_args0, w_args, w_tup, w_lst, w_new, w_call, w_isI, w_chain, w_opt0, w_opt, w_sl, w_st, w_methL, w_methS, on_bl, ot_bl, w_add, w_addT, w_addL, w_addS, w_sub, w_mul, w_mod, w_div, w_pow, w_lt, w_le, w_gt, w_ge, w_eq, w_ne, w_eqB, w_neB, w_isB, w_isNB, w_lenT, w_lenL, w_tupL, w_tupT, w_listT, w_listL, w_ixT, w_ixL, w_slT, w_slL, w_stT, w_seq, w_skip, w_asg, w_asgT, w_expr, w_ret, w_sIf, w_raise, w_for, w_set, w_try, w_pick0, w_pick, w_fld, w_methO, w_make, w_fldS, items_live, items_multi, ii_list_str, ii_str_lst, w_isNN, w_isIN, w_isTN, w_isSN, w_inNN, w_inTN, decide_true, decide_false,
  mVar_app, List.getElem?_cons_zero, List.getElem?_cons_succ, List.set_cons_zero, List.set_cons_succ, startD, List.map_cons, List.map_nil, List.length_cons, List.length_nil, List.length_map, Nat.zero_add, Nat.reduceAdd, Nat.reduceSub, List.replicate, List.cons_append, List.nil_append, gTupV_app, gVars_nil, gVars_cons, gVar_app, Option.some.injEq, exists_eq_left', wipeD_nil, wipeD_cons, atI0, atI1, atI2,
  decide_eq_true_eq, decide_eq_false_iff_not, Bool.not_eq_true', Bool.not_eq_false', Int.reduceLT, Int.reduceLE, Int.reduceAdd, Int.reduceMul, Int.reduceSub, Int.reduceNeg, true_and, and_true, Bool.true_eq_false, Bool.false_eq_true, false_implies, implies_true, true_implies, Nat.reduceLeDiff, fz_same, ii_int_int, ii_bool_int, ii_int_bl, ii_bool_bl, ii_tuple_tup, ii_str_str, ii_list_lst, ii_list_tup, ii_tuple_lst, ii_tuple_int, ii_list_int, ii_str_int, ii_str_tup, ii_int_str, ii_int_tup, ii_int_lst, ii_int_non, ii_bool_str, ii_tuple_str, ii_tuple_non, ii_list_non, ii_str_non, not_true_eq_false, not_false_eq_true, holds_vals, items_vals, eq_self])
-- s2
theorem ix_ref0 {st : Sto} {l : Nat} {d : D} {r : List D} (h : st[l]? = some (.lst (d :: r))) : opIx (.ref l) (.int 0) st = .ok d st := ix_ref (i := 0) h rfl
theorem ix_ref1 {st : Sto} {l : Nat} {c d : D} {r : List D} (h : st[l]? = some (.lst (c :: d :: r))) : opIx (.ref l) (.int 1) st = .ok d st := ix_ref (i := 1) h rfl
theorem eq_cell (st : Sto) (x : Cell) : EqD st 2 (cellD x) (cellD x) := x.eq st
def HasOk (f : List D → Sto → R D) : Prop := ∀ (st : Sto) (l lo l0 l1 p mo m0 m1 n : Nat) (A : Cells), DiskAt st l lo l0 l1 p → st[l0]? = some (.lst (A.1.map cellD)) → st[l1]? = some (.lst (A.2.map cellD)) → TwoAt st mo m0 m1 → st[m0]? = some (.lst (A.1.map cellD)) → st[m1]? = some (.lst (A.2.map cellD)) → Cells.Of n A → n ≤ 1000 → f [.ref l, .ref mo] st = .ok (.bl true) st
theorem has_ok {Ph : Nat → List D → Sto → R D} {i j : Nat} (hs : SameD (Ph i) 2) (hc : DCellOk (Ph j)) : HasOk (runDef ⟨2, 4, true, g__law_has i j⟩ Ph) := fun st l lo l0 l1 p mo m0 m1 n A hd a0 a1 ht b0 b1 hA hn => by
  have e0 : two st l0 l1 A = st := two_same a0 a1
  have e1 : two st m0 m1 A = st := two_same b0 b1
  refine def_pure rfl rfl ?_
  unfold g__law_has
  trivial
  have hr : iRange1 (mC (.int 2)) [some (.ref l), some (.ref mo), none, none] st = .ok (.vals (rangeD 0 2)) st := iRange1_nat (n := 2) rfl (by decide)
  rw [hr]
  trivial
  refine for_wp (fun k env t => t = st ∧ ∃ a b, env = [some (.ref l), some (.ref mo), a, b]) _ ⟨rfl, none, none, rfl⟩ ?_ ?_
  · rintro c d env t hk ⟨rfl, a, b, rfl⟩
    obtain ⟨hc2, rfl⟩ := rangeD_at hk
    refine ⟨_, rfl, ?_⟩
    trivial
    have hr2 : iRange1 (mCall bLen [(mBin opIx (mVar 1) (mC (.int 0)))]) [some (.ref l), some (.ref mo), some (.int (0 + (c : Int))), b] t = .ok (.vals (rangeD 0 n)) t := by
      refine iRange1_nat (R.wp.eq ?_) (by omega)
      trivial
      rw [ix_ref0 ht.out]
      trivial
      rw [len_ref b0]
      trivial
      rw [hA.1]
    rw [hr2]
    trivial
    refine for_wp (fun k env t' => t' = t ∧ ∃ b, env = [some (.ref l), some (.ref mo), some (.int (0 + (c : Int))), b]) _ ⟨rfl, b, rfl⟩ ?_ ?_
    · rintro s d env t' hk2 ⟨rfl, b, rfl⟩
      obtain ⟨hs2, rfl⟩ := rangeD_at hk2
      have hx : ∃ x, (if c = 0 then A.1 else A.2)[s]? = some x := by
        have : s < (if c = 0 then A.1 else A.2).length := by split <;> simp [hA.1, hA.2, hs2]
        exact ⟨_, List.getElem?_eq_getElem this⟩
      obtain ⟨x, hx⟩ := hx
      refine ⟨_, rfl, ?_⟩
      have z1 : (0 + (c : Int)) = c := by omega
      have z2 : (0 + (s : Int)) = s := by omega
      rw [z1, z2]
      trivial
      refine ⟨by rw [← e0]; exact isObj_two hd (by decide) (by decide), ?_⟩
      have hcc := hc t' l lo l0 l1 p n c s A x hd hA hc2 hx
      rw [e0] at hcc
      rw [hcc]
      trivial
      obtain ⟨m, q1, q2⟩ := ix_two ht hc2 hx
      rw [e1] at q1 q2
      rw [q1]
      trivial
      rw [q2]
      trivial
      rw [hs _ _ _ (eq_cell t' x)]
      trivial
      exact ⟨_, rfl⟩
    · rintro env t' ⟨rfl, b, rfl⟩
      exact ⟨rfl, _, _, rfl⟩
  · rintro env t ⟨rfl, a, b, rfl⟩
    trivial
/-! ### contents, steps drawn -/
def ContDrawOk (f : List D → Sto → R D) : Prop := ∀ (st : Sto) (ds : List Int), st[0]? = some (.lst (ds.map .int)) → InD ds → ∃ (c ds' : List Int), c.length ≤ 4 ∧ InD ds' ∧ f [.ref 0] st = .ok (.tup (c.map .int)) (st.set 0 (.lst (ds'.map .int)))
theorem contdraw_ok {Ph : Nat → List D → Sto → R D} {i : Nat} (hn : NextOk (Ph i)) : ContDrawOk (runDef ⟨1, 3, true, g__law_content i⟩ Ph) := fun st ds hs hd => by
  obtain ⟨y, ds1, y0, y1, h1, e1⟩ := hn 0 st ds hs hd
  have key : (runDef ⟨1, 3, true, g__law_content i⟩ Ph [.ref 0] st).wp (fun v t => ∃ c : List Int, c.length ≤ 4 ∧ v = .tup (c.map .int) ∧ t = st.set 0 (.lst (ds1.map .int))) nX := by
    refine def_wp rfl rfl ?_
    unfold g__law_content
    trivial
    rw [e1]
    trivial
    have hr : iRange1 (mBin opMod (mVar 1) (mC (.int 5))) [some (.ref 0), some (.int y), none] (st.set 0 (.lst (ds1.map .int))) = .ok (.vals (rangeD 0 (y % 5).toNat)) (st.set 0 (.lst (ds1.map .int))) := by
      refine iRange1_int (R.wp.eq ?_) (by omega) (by omega)
      trivial
    obtain ⟨z, hz0, hz⟩ : ∃ z : Int, 0 < z ∧ atI [D.int 3, D.int 1000, D.int (10 ^ Int.toNat 12)] (y / 3 % 3) = some (.int z) := by
      obtain ⟨d, hd2, hm⟩ := atI_int (xs := [D.int 3, D.int 1000, D.int (10 ^ Int.toNat 12)]) (i := y / 3 % 3) (by omega) (by show y / 3 % 3 < 3; omega)
      have hm := List.mem_of_getElem? hm
      simp only [List.mem_cons, List.not_mem_nil, or_false] at hm
      rcases hm with rfl | rfl | rfl
      · exact ⟨_, by decide, hd2⟩
      · exact ⟨_, by decide, hd2⟩
      · exact ⟨_, by decide, hd2⟩
    have hM := mComp_map (vs := [2]) (g := gVar 2) (e := (mBin opMod (mBin opAdd (mBin opDiv (mVar 1) (mC (.int 7))) (mBin opMul (mBin opMul (mVar 2) (mVar 2)) (mVar 1))) (mBin opIx (mLst [(mC (.int 3)), (mC (.int 1000)), (mBin opPow (mC (.int 10)) (mC (.int 12)))]) (mBin opMod (mBin opDiv (mVar 1) (mC (.int 3))) (mC (.int 3)))))) (fun d => match d with | .int k => D.int ((y / 7 + k * k * y) % z) | d => d) hr (fun x hx => by
      obtain ⟨k, hk, rfl⟩ := List.mem_map.mp hx
      have hk := List.mem_range.mp hk
      refine ⟨[some (.ref 0), some (.int y), some (.int (0 + (k : Int)))], rfl, R.wp.eq ?_⟩
      trivial
      refine ⟨divOkP (by decide) (by decide), mul_small (by omega) (by omega), mul_small (by omega) (by omega), by decide, divOkP (by decide) (by decide), _, hz, ?_⟩
      rw [w_mod]
      exact ⟨hz0, rfl, rfl⟩) (by rw [rangeD_len]; omega)
    rw [hM]
    trivial
    rw [fz_same (by simp)]
    refine ⟨(List.range (y % 5).toNat).map fun k : Nat => (y / 7 + (0 + (k : Int)) * (0 + (k : Int)) * y) % z, by simp; omega, ?_, rfl⟩
    simp [rangeD]
  obtain ⟨v, t, e, c, a, rfl, rfl⟩ := key.get
  exact ⟨c, ds1, a, h1, e⟩
end MI
namespace MI
open PySem PySem.Spec PyProof.Rows L2 MX MI
local macro_rules | `(tactic| trivial) => `(tactic| simp only [w_ok, w_exc, w_C, w_bin, w_neg, w_and, w_or, w_not, w_ifE, w_args0, w_args, w_tup, w_lst, w_new, w_call, w_isI, w_chain, w_opt0, w_opt, w_sl, w_st, w_methL, w_methS, on_bl, ot_bl, w_add, w_addT, w_addL, w_addS, w_sub, w_mul, w_mod, w_div, w_pow, w_lt, w_le, w_gt, w_ge, w_eq, w_ne, w_eqB, w_neB, w_isB, w_isNB, w_lenT, w_lenL, w_tupL, w_tupT, w_listT, w_listL, w_ixT, w_ixL, w_slT, w_slL, w_stT, w_seq, w_skip, w_asg, w_asgT, w_expr, w_ret, w_sIf, w_raise, w_for, w_set, w_try, w_pick0, w_pick, w_fld, w_methO, w_make, w_fldS, items_live, items_multi, ii_list_str, ii_str_lst, w_isNN, w_isIN, w_isTN, w_isSN, w_inNN, w_inTN, decide_true, decide_false,
  mVar_app, List.getElem?_cons_zero, List.getElem?_cons_succ, List.set_cons_zero, List.set_cons_succ, startD, List.map_cons, List.map_nil, List.length_cons, List.length_nil, List.length_map, Nat.zero_add, Nat.reduceAdd, Nat.reduceSub, List.replicate, List.cons_append, List.nil_append, gTupV_app, gVars_nil, gVars_cons, gVar_app, Option.some.injEq, exists_eq_left', wipeD_nil, wipeD_cons, atI0, atI1, atI2,
  decide_eq_true_eq, decide_eq_false_iff_not, Bool.not_eq_true', Bool.not_eq_false', Int.reduceLT, Int.reduceLE, Int.reduceAdd, Int.reduceMul, Int.reduceSub, Int.reduceNeg, true_and, and_true, Bool.true_eq_false, Bool.false_eq_true, false_implies, implies_true, true_implies, Nat.reduceLeDiff, fz_same, ii_int_int, ii_bool_int, ii_int_bl, ii_bool_bl, ii_tuple_tup, ii_str_str, ii_list_lst, ii_list_tup, ii_tuple_lst, ii_tuple_int, ii_list_int, ii_str_int, ii_str_tup, ii_int_str, ii_int_tup, ii_int_lst, ii_int_non, ii_bool_str, ii_tuple_str, ii_tuple_non, ii_list_non, ii_str_non, not_true_eq_false, not_false_eq_true, holds_vals, items_vals, eq_self])
-- s2
def StepsOk (f : List D → Sto → R D) : Prop := ∀ (st : Sto) (ds : List Int) (n : Nat), st[0]? = some (.lst (ds.map .int)) → InD ds → 3 ≤ n → n ≤ 100 → ∃ (ss : List Step) (ds' : List Int), ss.length ≤ 24 ∧ (∀ q, some q ∈ ss → Put.Ok n q) ∧ InD ds' ∧ f [.ref 0, .int (n : Int)] st = .ok (.lst (ss.map stepD)) (st.set 0 (.lst (ds'.map .int)))
theorem below_step (n : Nat) (s : Step) : below n (stepD s) = true := by
  cases s with
  | none => simp [stepD, below, belows]
  | some q => simp [stepD, Put.d, below, belows, belows_ints]
theorem belows_steps (n : Nat) : ∀ ss : List Step, belows n (ss.map stepD) = true
  | [] => rfl
  | s :: ss => by simp [belows, below_step, belows_steps n ss]
theorem at0_set {st : Sto} {ds : List Int} {o : SO} (h : st[0]? = some o) : (st.set 0 (.lst (ds.map .int)))[0]? = some (.lst (ds.map .int)) := by
  have := (List.getElem?_eq_some_iff.mp h).1
  rw [List.getElem?_set_self this]
theorem frz_steps {st : Sto} {ds : List Int} {ss : List Step} : freeze st (.ref st.length) (st.set 0 (.lst (ds.map .int)) ++ [.lst (ss.map stepD)]) = .ok (.lst (ss.map stepD)) (st.set 0 (.lst (ds.map .int))) := by
  refine freeze_new (by simp) (fun i o hi ho => ?_) (belows_steps _ _)
  by_cases e : i = 0
  · subst e
    rw [List.getElem?_set_self hi] at ho
    cases ho
    exact .inr (belows_ints _ _)
  · rw [List.getElem?_set_ne (Ne.symm e)] at ho
    exact .inl ho
theorem set0_app {st : Sto} {o : SO} {x : List SO} (h : 0 < st.length) : (st ++ x).set 0 o = st.set 0 o ++ x := List.set_append_left _ _ h
theorem steps_ok {Ph : Nat → List D → Sto → R D} {i j : Nat} (hn : NextOk (Ph i)) (hc : ContDrawOk (Ph j)) : StepsOk (runDef ⟨2, 6, true, g__law_steps i j⟩ Ph) := fun st ds n hs hd n3 n100 => by
  have hpos : 0 < st.length := (List.getElem?_eq_some_iff.mp hs).1
  have key : (runDef ⟨2, 6, true, g__law_steps i j⟩ Ph [.ref 0, .int (n : Int)] st).wp (fun v t => ∃ (ss : List Step) (ds' : List Int), ss.length ≤ 24 ∧ (∀ q, some q ∈ ss → Put.Ok n q) ∧ InD ds' ∧ v = .lst (ss.map stepD) ∧ t = st.set 0 (.lst (ds'.map .int))) nX := by
    refine def_wp rfl rfl ?_
    unfold g__law_steps
    trivial
    obtain ⟨y, ds1, y0, y1, h1, e1⟩ := hn 0 (st ++ [.lst []]) ds (by rw [List.getElem?_append_left hpos]; exact hs) hd
    rw [set0_app hpos] at e1
    have hr : iRange1 (mBin opMod (mCall (Ph i) [mVar 0]) (mC (.int 25))) [some (.ref 0), some (.int (n : Int)), some (.ref st.length), none, none, none] (st ++ [.lst []]) = .ok (.vals (rangeD 0 (y % 25).toNat)) (st.set 0 (.lst (ds1.map .int)) ++ [.lst []]) := by
      refine iRange1_int (R.wp.eq ?_) (by omega) (by omega)
      trivial
      rw [e1]
      trivial
    rw [hr]
    trivial
    refine for_wp (fun k env t => ∃ (a b c : Option D) (ss : List Step) (ds2 : List Int), ss.length ≤ k ∧ (∀ q, some q ∈ ss → Put.Ok n q) ∧ InD ds2 ∧ env = [some (.ref 0), some (.int (n : Int)), some (.ref st.length), a, b, c] ∧ t = st.set 0 (.lst (ds2.map .int)) ++ [.lst (ss.map stepD)]) _ ⟨none, none, none, [], ds1, by simp, by simp, h1, rfl, rfl⟩ ?_ ?_
    · rintro k d env t hk ⟨a, b, c, ss, ds2, i1, i2, i3, rfl, rfl⟩
      obtain ⟨hk1, rfl⟩ := rangeD_at hk
      have hpos2 : 0 < (st.set 0 (.lst (ds2.map .int))).length := by simpa using hpos
      obtain ⟨z, ds3, z0, z1, h3, e3⟩ := hn 0 (st.set 0 (.lst (ds2.map .int)) ++ [.lst (ss.map stepD)]) ds2 (by rw [List.getElem?_append_left hpos2]; exact at0_set hs) i3
      rw [set0_app hpos2, List.set_set] at e3
      have hL : (st.set 0 (.lst (ds3.map .int))).length = st.length := by simp
      refine ⟨_, rfl, ?_⟩
      trivial
      rw [e3]
      trivial
      refine ⟨fun h4 => ?_, fun h4 => ?_⟩
      · rw [← hL]
        refine ⟨isl_last, ?_⟩
        have ea : mAppend (.ref (st.set 0 (.lst (ds3.map .int))).length) [.tup [.str sLine]] (st.set 0 (.lst (ds3.map .int)) ++ [.lst (ss.map stepD)]) = .ok .non (st.set 0 (.lst (ds3.map .int)) ++ [.lst (ss.map stepD ++ [.tup [.str sLine]])]) := by
          rw [app_ref (last_at _ _) (by simp; omega), set_last]
        rw [ea]
        trivial
        refine ⟨_, _, _, ss ++ [none], ds3, by simp; omega, fun q hq => i2 q (by simpa using hq), h3, rfl, by simp [stepD]⟩
      · have hn0 : 0 ≤ z / 8 % (n : Int) := Int.emod_nonneg _ (by omega)
        have hn1 : z / 8 % (n : Int) < n := Int.emod_lt_of_pos _ (by omega)
        refine ⟨divOkP (by decide) (by decide), by omega, divOkP (by decide) (by decide), ?_⟩
        obtain ⟨d, hd2, hm⟩ := atI_int (xs := [D.int (z / 8 % (n : Int)), D.int (z / 8 % 3)]) (i := z / 512 % 2) (by omega) (by show z / 512 % 2 < 2; omega)
        have hm := List.mem_of_getElem? hm
        simp only [List.mem_cons, List.not_mem_nil, or_false] at hm
        obtain ⟨sp, hsp, rfl⟩ : ∃ sp : Nat, sp < n ∧ d = .int (sp : Int) := by
          rcases hm with rfl | rfl
          · exact ⟨(z / 8 % (n : Int)).toNat, by omega, by rw [Int.toNat_of_nonneg hn0]⟩
          · exact ⟨(z / 8 % 3).toNat, by omega, by rw [Int.toNat_of_nonneg (by omega)]⟩
        refine ⟨divOkP (by decide) (by decide), _, hd2, ?_⟩
        rw [← hL]
        refine ⟨isl_last, divOkP (by decide) (by decide), ?_⟩
        have hpos3 : 0 < (st.set 0 (.lst (ds3.map .int))).length := by simpa using hpos
        obtain ⟨con, ds4, c4, h4', e4⟩ := hc (st.set 0 (.lst (ds3.map .int)) ++ [.lst (ss.map stepD)]) ds3 (by rw [List.getElem?_append_left hpos3]; exact at0_set hs) h3
        rw [set0_app hpos3, List.set_set] at e4
        rw [e4]
        trivial
        have hL4 : (st.set 0 (.lst (ds3.map .int))).length = (st.set 0 (.lst (ds4.map .int))).length := by simp
        rw [hL4]
        have hcp : z / 4 % 2 = (((z / 4 % 2).toNat : Nat) : Int) := by rw [Int.toNat_of_nonneg (by omega)]
        have ea : mAppend (.ref (st.set 0 (.lst (ds4.map .int))).length) [.tup [.str sPut, .int (z / 4 % 2), .int (sp : Int), .tup (con.map .int)]] (st.set 0 (.lst (ds4.map .int)) ++ [.lst (ss.map stepD)]) = .ok .non (st.set 0 (.lst (ds4.map .int)) ++ [.lst (ss.map stepD ++ [.tup [.str sPut, .int (z / 4 % 2), .int (sp : Int), .tup (con.map .int)]])]) := by
          rw [app_ref (last_at _ _) (by simp; omega), set_last]
        rw [ea]
        trivial
        refine ⟨_, _, _, ss ++ [some ⟨(z / 4 % 2).toNat, sp, con⟩], ds4, by simp; omega, fun q hq => ?_, h4', rfl, ?_⟩
        · rcases List.mem_append.mp hq with hq | hq
          · exact i2 q hq
          · simp at hq
            subst hq
            exact ⟨by show (z / 4 % 2).toNat < 2; omega, hsp⟩
        · rw [List.map_append]
          simp only [List.map_cons, List.map_nil, stepD, Put.d]
          rw [← hcp]
    · rintro env t ⟨a, b, c, ss, ds2, i1, i2, i3, rfl, rfl⟩
      trivial
      rw [frz_steps]
      trivial
      refine ⟨ss, ds2, ?_, i2, i3, rfl, rfl⟩
      rw [rangeD_len] at i1
      omega
  obtain ⟨v, t, e, ss, ds', a, b, c, rfl, rfl⟩ := key.get
  exact ⟨ss, ds', a, b, c, e⟩
/-! ### a new disk -/
def blanks (n : Nat) : SO := .lst (List.replicate n .non)
def dsk (L p : Nat) : List SO := [diskO p (L + 5), .lst [.non], blanks (p + 4), .lst [.non], blanks (p + 4), .lst [.ref (L + 2), .ref (L + 4)]]
def cls0 (L n : Nat) : List SO := [.lst [.non], blanks n, .lst [.non], blanks n, .lst [.ref (L + 1), .ref (L + 3)]]
/-- two blank copies made -/
theorem two_new {T : Sto} {e : ME} {env : DEnv} {n : Nat} {P : D → Sto → Prop} {X : Nat → Sto → Prop} (hn : n ≤ 1000) (he : ∀ S : Sto, e env (T ++ S) = .ok (.int (n : Int)) (T ++ S)) (h : P (.ref (T.length + 4)) (T ++ cls0 T.length n)) :
    (mNew [(mBin opMulN (mNew [(mC (.non))]) e), (mBin opMulN (mNew [(mC (.non))]) e)] env T).wp P X := by
  simp only [w_new, List.length_cons, List.length_nil, Nat.zero_add, Nat.reduceAdd, Nat.reduceLeDiff, w_args, w_args0, w_bin, w_C]
  rw [he [.lst [.non]], w_ok, mulN_non (last_at _ _) hn, w_ok]
  have e1 : (T ++ [SO.lst [D.non]]) ++ [.lst (List.replicate n .non)] ++ [.lst [.non]] = T ++ [.lst [.non], blanks n, .lst [.non]] := by simp [blanks]
  rw [e1, he, w_ok]
  have hl : ((T ++ [SO.lst [D.non]]) ++ [SO.lst (List.replicate n .non)]).length = T.length + 2 := by simp
  rw [hl, mulN_non (k := n) (by simp) hn, w_ok]
  have hl2 : (T ++ [SO.lst [D.non]]).length = T.length + 1 := by simp
  have hl3 : (T ++ [SO.lst [D.non], blanks n, SO.lst [D.non]]).length = T.length + 3 := by simp
  have hl4 : (T ++ [SO.lst [D.non], blanks n, SO.lst [D.non]] ++ [SO.lst (List.replicate n D.non)]).length = T.length + 4 := by simp
  rw [hl2, hl3, hl4]
  have e2 : T ++ [SO.lst [D.non], blanks n, SO.lst [D.non]] ++ [SO.lst (List.replicate n D.non)] ++ [SO.lst [D.ref (T.length + 1), D.ref (T.length + 3)]] = T ++ cls0 T.length n := by simp [cls0, blanks]
  rw [e2]
  exact h
def InitOk (f : List D → Sto → R D) : Prop := ∀ (st : Sto) (p : Nat), p ≤ 900 → f [.ref st.length, .int (p : Int)] (st ++ [.ins sDisk []]) = .ok .non (st ++ dsk st.length p)
theorem init_ok {Ph : Nat → List D → Sto → R D} {fk : Str → Str → Bool} (hf : fk sCopies sDisk = true) (hf2 : fk sPlaces sDisk = true) : InitOk (runDef ⟨2, 2, false, g_Disk___init__ fk⟩ Ph) := fun st p hp => by
  obtain ⟨t, e, rfl⟩ := raw_unit (d := ⟨2, 2, false, g_Disk___init__ fk⟩) (Ph := Ph) (ds := [.ref st.length, .int (p : Int)]) (st := st ++ [.ins sDisk []]) (P := fun t => t = st ++ dsk st.length p) rfl rfl (by
    unfold g_Disk___init__
    simp only [w_seq, w_fldS, w_skip, mVar_app, startD, List.map_cons, List.map_nil, List.length_cons, List.length_nil, Nat.reduceAdd, Nat.reduceSub, List.replicate, List.append_nil, List.getElem?_cons_zero, List.getElem?_cons_succ, w_ok]
    rw [setFld_at (last_at _ _) hf2 (by decide), w_ok, set_last]
    have hpf : putFD sPlaces (.int (p : Int)) [] = [(sPlaces, .int (p : Int))] := rfl
    have hpf' : putFD (Str.ofString "places") (.int (p : Int)) [] = [(sPlaces, .int (p : Int))] := rfl
    simp only [hpf']
    have hl : (st ++ [SO.ins sDisk [(sPlaces, D.int (p : Int))]]).length = st.length + 1 := by simp
    refine two_new (n := p + 4) (T := st ++ [SO.ins sDisk [(sPlaces, D.int (p : Int))]]) (by omega) (fun S => R.wp.eq ?_) ?_
    · trivial
      show D.int _ = D.int _
      congr 1
      omega
    · rw [setFld_at (fs := [(sPlaces, .int (p : Int))]) (c := sDisk) (by simp) hf (by simp), w_ok, hl]
      have hpc : putFD (Str.ofString "copies") (.ref (st.length + 1 + 4)) [(sPlaces, .int (p : Int))] = [(sPlaces, .int (p : Int)), (sCopies, .ref (st.length + 5))] := rfl
      rw [hpc, List.append_assoc, List.set_append_right _ _ (Nat.le_refl _), Nat.sub_self]
      rfl)
  exact e
end MI
namespace MI
open PySem PySem.Spec PyProof.Rows L2 MX MI
local macro_rules | `(tactic| trivial) => `(tactic| simp only [w_ok, w_exc, w_C, w_bin, w_neg, w_and, w_or, w_not, w_ifE, w_args0, w_args, w_tup, w_lst, w_new, w_call, w_isI, w_chain, w_opt0, w_opt, w_sl, w_st, w_methL, w_methS, on_bl, ot_bl, w_add, w_addT, w_addL, w_addS, w_sub, w_mul, w_mod, w_div, w_pow, w_lt, w_le, w_gt, w_ge, w_eq, w_ne, w_eqB, w_neB, w_isB, w_isNB, w_lenT, w_lenL, w_tupL, w_tupT, w_listT, w_listL, w_ixT, w_ixL, w_slT, w_slL, w_stT, w_seq, w_skip, w_asg, w_asgT, w_expr, w_ret, w_sIf, w_raise, w_for, w_set, w_try, w_pick0, w_pick, w_fld, w_methO, w_make, w_fldS, items_live, items_multi, ii_list_str, ii_str_lst, w_isNN, w_isIN, w_isTN, w_isSN, w_inNN, w_inTN, decide_true, decide_false,
  mVar_app, List.getElem?_cons_zero, List.getElem?_cons_succ, List.set_cons_zero, List.set_cons_succ, startD, List.map_cons, List.map_nil, List.length_cons, List.length_nil, List.length_map, Nat.zero_add, Nat.reduceAdd, Nat.reduceSub, List.replicate, List.cons_append, List.nil_append, gTupV_app, gVars_nil, gVars_cons, gVar_app, Option.some.injEq, exists_eq_left', wipeD_nil, wipeD_cons, atI0, atI1, atI2,
  decide_eq_true_eq, decide_eq_false_iff_not, Bool.not_eq_true', Bool.not_eq_false', Int.reduceLT, Int.reduceLE, Int.reduceAdd, Int.reduceMul, Int.reduceSub, Int.reduceNeg, true_and, and_true, Bool.true_eq_false, Bool.false_eq_true, false_implies, implies_true, true_implies, Nat.reduceLeDiff, fz_same, ii_int_int, ii_bool_int, ii_int_bl, ii_bool_bl, ii_tuple_tup, ii_str_str, ii_list_lst, ii_list_tup, ii_tuple_lst, ii_tuple_int, ii_list_int, ii_str_int, ii_str_tup, ii_int_str, ii_int_tup, ii_int_lst, ii_int_non, ii_bool_str, ii_tuple_str, ii_tuple_non, ii_list_non, ii_str_non, not_true_eq_false, not_false_eq_true, holds_vals, items_vals, eq_self])
-- s2
theorem two_comm {st : Sto} {l0 l1 m0 m1 : Nat} {A B : Cells} (h00 : l0 ≠ m0) (h01 : l0 ≠ m1) (h10 : l1 ≠ m0) (h11 : l1 ≠ m1) : two (two st l0 l1 A) m0 m1 B = two (two st m0 m1 B) l0 l1 A := by
  unfold two
  rw [List.set_comm _ _ h10, List.set_comm _ _ h00, List.set_comm _ _ h11, List.set_comm _ _ h01]
theorem TwoAt.in2 {st : Sto} {lo l0 l1 m0 m1 : Nat} {B : Cells} (h : TwoAt st lo l0 l1) (n0 : lo ≠ m0) (n1 : lo ≠ m1) : TwoAt (two st m0 m1 B) lo l0 l1 :=
  ⟨by rw [two_ne n0 n1]; exact h.out, h.n01, h.no0, h.no1, by rw [two_len]; exact h.b0, by rw [two_len]; exact h.b1⟩
theorem DiskAt.in2 {st : Sto} {l lo l0 l1 p m0 m1 : Nat} {B : Cells} (h : DiskAt st l lo l0 l1 p) (n0 : lo ≠ m0) (n1 : lo ≠ m1) (k0 : l ≠ m0) (k1 : l ≠ m1) : DiskAt (two st m0 m1 B) l lo l0 l1 p :=
  ⟨h.toTwoAt.in2 n0 n1, by rw [two_ne k0 k1]; exact h.ins, h.nl0, h.nl1⟩
/-- a disk and the law's own cells -/
structure Sit (S : Sto) (l lo l0 l1 p mo m0 m1 : Nat) : Prop where
  d : DiskAt S l lo l0 l1 p
  t : TwoAt S mo m0 m1
  a00 : l0 ≠ m0
  a01 : l0 ≠ m1
  a10 : l1 ≠ m0
  a11 : l1 ≠ m1
  c0 : lo ≠ m0
  c1 : lo ≠ m1
  k0 : l ≠ m0
  k1 : l ≠ m1
  e0 : mo ≠ l0
  e1 : mo ≠ l1
theorem Sit.app {S g : Sto} {l lo l0 l1 p mo m0 m1 : Nat} (h : Sit S l lo l0 l1 p mo m0 m1) : Sit (S ++ g) l lo l0 l1 p mo m0 m1 :=
  ⟨h.d.app, h.t.app, h.a00, h.a01, h.a10, h.a11, h.c0, h.c1, h.k0, h.k1, h.e0, h.e1⟩
def four (S : Sto) (l0 l1 m0 m1 : Nat) (A B : Cells) : Sto := two (two S l0 l1 A) m0 m1 B
section
variable {S : Sto} {l lo l0 l1 p mo m0 m1 n : Nat} {A B : Cells}
theorem four_len : (four S l0 l1 m0 m1 A B).length = S.length := by unfold four; rw [two_len, two_len]
theorem four_ne {j : Nat} (h0 : j ≠ l0) (h1 : j ≠ l1) (h2 : j ≠ m0) (h3 : j ≠ m1) : (four S l0 l1 m0 m1 A B)[j]? = S[j]? := by unfold four; rw [two_ne h2 h3, two_ne h0 h1]
theorem Sit.flip (h : Sit S l lo l0 l1 p mo m0 m1) : four S l0 l1 m0 m1 A B = two (two S m0 m1 B) l0 l1 A := two_comm h.a00 h.a01 h.a10 h.a11
theorem Sit.at4 (h : Sit S l lo l0 l1 p mo m0 m1) : (four S l0 l1 m0 m1 A B)[l0]? = some (.lst (A.1.map cellD)) ∧ (four S l0 l1 m0 m1 A B)[l1]? = some (.lst (A.2.map cellD)) ∧ (four S l0 l1 m0 m1 A B)[m0]? = some (.lst (B.1.map cellD)) ∧ (four S l0 l1 m0 m1 A B)[m1]? = some (.lst (B.2.map cellD)) := by
  refine ⟨?_, ?_, ?_, ?_⟩
  · unfold four; rw [two_ne h.a00 h.a01]; exact two_at0 h.d.n01 h.d.b0
  · unfold four; rw [two_ne h.a10 h.a11]; exact two_at1 h.d.b1
  · unfold four; exact two_at0 h.t.n01 (by rw [two_len]; exact h.t.b0)
  · unfold four; exact two_at1 (by rw [two_len]; exact h.t.b1)
theorem Sit.d4 (h : Sit S l lo l0 l1 p mo m0 m1) : DiskAt (four S l0 l1 m0 m1 A B) l lo l0 l1 p := (h.d.in2 h.d.no0 h.d.no1 h.d.nl0 h.d.nl1).in2 h.c0 h.c1 h.k0 h.k1
theorem Sit.t4 (h : Sit S l lo l0 l1 p mo m0 m1) : TwoAt (four S l0 l1 m0 m1 A B) mo m0 m1 := (h.t.in2 h.e0 h.e1).in2 h.t.no0 h.t.no1
theorem Sit.dB (h : Sit S l lo l0 l1 p mo m0 m1) : DiskAt (two S m0 m1 B) l lo l0 l1 p := h.d.in2 h.c0 h.c1 h.k0 h.k1
theorem Sit.tA (h : Sit S l lo l0 l1 p mo m0 m1) : TwoAt (two S l0 l1 A) mo m0 m1 := h.t.in2 h.e0 h.e1
theorem four_app {g : Sto} (h : Sit S l lo l0 l1 p mo m0 m1) : four S l0 l1 m0 m1 A B ++ g = four (S ++ g) l0 l1 m0 m1 A B := by
  unfold four
  rw [two_app (by rw [two_len]; exact h.t.b0) (by rw [two_len]; exact h.t.b1), two_app h.d.b0 h.d.b1]
/-! the calls at such a store -/
theorem Sit.write {f : List D → Sto → R D} (hw : WriteOk f) (h : Sit S l lo l0 l1 p mo m0 m1) {q : Put} (hA : Cells.Of n A) (hq : q.Ok n) (hn : n ≤ 1000) : f [.ref l, .int (q.copy : Int), .int (q.spot : Int), .tup (q.con.map .int)] (four S l0 l1 m0 m1 A B) = .ok .non (four S l0 l1 m0 m1 (MI.app A q) B) := by
  rw [h.flip, h.flip]
  exact hw _ l lo l0 l1 p n A q h.dB hA hq hn
theorem Sit.lput {f : List D → Sto → R D} (hw : LPutOk f) (h : Sit S l lo l0 l1 p mo m0 m1) {qs : List Put} {d : D} (hB : Cells.Of n B) (hq : ∀ q ∈ qs, q.Ok n) (hn : n ≤ 1000) (hp : PutsAt (two S l0 l1 A) m0 m1 d qs) : f [.ref mo, d] (four S l0 l1 m0 m1 A B) = .ok .non (four S l0 l1 m0 m1 A (qs.foldl MI.app B)) := hw _ mo m0 m1 n B qs d h.tA hB hq hn hp
theorem Sit.has {f : List D → Sto → R D} (hw : HasOk f) (h : Sit S l lo l0 l1 p mo m0 m1) (hA : Cells.Of n A) (hn : n ≤ 1000) : f [.ref l, .ref mo] (four S l0 l1 m0 m1 A A) = .ok (.bl true) (four S l0 l1 m0 m1 A A) := by
  obtain ⟨a, b, c, d⟩ := h.at4 (A := A) (B := A)
  exact hw _ l lo l0 l1 p mo m0 m1 n A h.d4 a b h.t4 c d hA hn
theorem Sit.dosteps {f : List D → Sto → R D} (hw : DoStepsOk f) (h : Sit S l lo l0 l1 p mo m0 m1) {ss : List Step} (hA : Cells.Of n A) (hs : ∀ q, some q ∈ ss → Put.Ok n q) (hn : n ≤ 1000) (hl : ss.length ≤ 1000) : f [.ref l, .lst (ss.map stepD)] (four S l0 l1 m0 m1 A B) = .ok .non (four (S ++ gst S.length (groups ss)) l0 l1 m0 m1 ((ss.filterMap id).foldl MI.app A) B) := by
  rw [h.flip, h.app.flip, hw _ l lo l0 l1 p n A ss h.dB hA hs hn hl, two_len, ← two_app h.t.b0 h.t.b1]
theorem Sit.groups {f : List D → Sto → R D} (hw : GroupsOk f) (h : Sit S l lo l0 l1 p mo m0 m1) {ss : List Step} (hl : ss.length ≤ 1000) : f [.lst (ss.map stepD)] (four S l0 l1 m0 m1 A B) = .ok (.ref (S.length + 1)) (four (S ++ gst S.length (MI.groups ss)) l0 l1 m0 m1 A B) := by
  rw [hw _ ss hl, four_len, four_app h]
end
def blank (n : Nat) : Cells := (List.replicate n noC, List.replicate n noC)
theorem blank_of (n : Nat) : Cells.Of n (blank n) := by simp [blank, Cells.Of]
theorem blank_map (n : Nat) : (List.replicate n noC).map cellD = List.replicate n .non := by simp [cellD, noC]
/-- the situation behind a new disk and new cells -/
theorem sit_new (st : Sto) (p : Nat) : Sit (st ++ dsk st.length p ++ cls0 (st.length + 6) (p + 4)) st.length (st.length + 5) (st.length + 2) (st.length + 4) p (st.length + 6 + 4) (st.length + 6 + 1) (st.length + 6 + 3) := by
  have g : ∀ (k : Nat) (o : SO), (dsk st.length p ++ cls0 (st.length + 6) (p + 4))[k]? = some o → (st ++ dsk st.length p ++ cls0 (st.length + 6) (p + 4))[st.length + k]? = some o := fun k o h => by
    rw [List.append_assoc, List.getElem?_append_right (by omega), Nat.add_sub_cancel_left]
    exact h
  have hlen : (st ++ dsk st.length p ++ cls0 (st.length + 6) (p + 4)).length = st.length + 11 := by simp [dsk, cls0]
  refine ⟨⟨⟨g 5 _ rfl, by omega, by omega, by omega, by rw [hlen]; omega, by rw [hlen]; omega⟩, g 0 _ rfl, by omega, by omega⟩, ⟨?_, by omega, by omega, by omega, by rw [hlen]; omega, by rw [hlen]; omega⟩, by omega, by omega, by omega, by omega, by omega, by omega, by omega, by omega, by omega, by omega⟩
  rw [show st.length + 6 + 4 = st.length + 10 by omega]
  exact g 10 _ rfl
theorem sit_blank (st : Sto) (p : Nat) : four (st ++ dsk st.length p ++ cls0 (st.length + 6) (p + 4)) (st.length + 2) (st.length + 4) (st.length + 6 + 1) (st.length + 6 + 3) (blank (p + 4)) (blank (p + 4)) = st ++ dsk st.length p ++ cls0 (st.length + 6) (p + 4) := by
  have g : ∀ (k : Nat) (o : SO), (dsk st.length p ++ cls0 (st.length + 6) (p + 4))[k]? = some o → (st ++ dsk st.length p ++ cls0 (st.length + 6) (p + 4))[st.length + k]? = some o := fun k o h => by
    rw [List.append_assoc, List.getElem?_append_right (by omega), Nat.add_sub_cancel_left]
    exact h
  have hb : ∀ n, (SO.lst ((List.replicate n noC).map cellD)) = blanks n := fun n => by rw [blank_map]; rfl
  unfold four
  rw [two_same (A := blank (p + 4)) (l0 := st.length + 2) (l1 := st.length + 4)]
  · rw [two_same (A := blank (p + 4))]
    · show _ = some (SO.lst ((List.replicate (p + 4) noC).map cellD))
      rw [hb, show st.length + 6 + 1 = st.length + 7 by omega]; exact g 7 _ rfl
    · show _ = some (SO.lst ((List.replicate (p + 4) noC).map cellD))
      rw [hb, show st.length + 6 + 3 = st.length + 9 by omega]; exact g 9 _ rfl
  · show _ = some (SO.lst ((List.replicate (p + 4) noC).map cellD))
    rw [hb]; exact g 2 _ rfl
  · show _ = some (SO.lst ((List.replicate (p + 4) noC).map cellD))
    rw [hb]; exact g 4 _ rfl
theorem rt2 {r : SR} {P : D → Sto → Prop} (h : r.wp (fun _ _ => False) P nXS) : ∃ v t, r = .rt v t ∧ P v t := by
  rw [swp_eq] at h
  cases r with
  | rt v t => exact ⟨v, t, rfl, h⟩
  | nx e t => exact h.elim
  | exc c e t => exact h.elim
  | bk e t => exact h.elim
  | ct e t => exact h.elim
  | stuck => exact h.elim
/-- a def that gives its own object away -/
theorem raw_wp {d : DefR} {Ph : Nat → List D → Sto → R D} {ds : List D} {st : Sto} {P : D → Sto → Prop} (ha : ds.length = d.arity) (hf : d.frz = false) (h : (d.body Ph (startD d.slots ds) st).wp (fun _ _ => False) P nXS) : ∃ v t, runDef d Ph ds st = .ok v t ∧ P v t := by
  obtain ⟨v, t, q, hp⟩ := rt2 h
  exact ⟨v, t, runDef_raw ha hf q, hp⟩
/-! ### cells filled -/
theorem Sit.set0 {S : Sto} {l lo l0 l1 p mo m0 m1 : Nat} {o : SO} (h : Sit S l lo l0 l1 p mo m0 m1) (h1 : l ≠ 0) (h2 : lo ≠ 0) (h3 : mo ≠ 0) : Sit (S.set 0 o) l lo l0 l1 p mo m0 m1 :=
  ⟨⟨⟨by rw [List.getElem?_set_ne (Ne.symm h2)]; exact h.d.out, h.d.n01, h.d.no0, h.d.no1, by simpa using h.d.b0, by simpa using h.d.b1⟩, by rw [List.getElem?_set_ne (Ne.symm h1)]; exact h.d.ins, h.d.nl0, h.d.nl1⟩,
    ⟨by rw [List.getElem?_set_ne (Ne.symm h3)]; exact h.t.out, h.t.n01, h.t.no0, h.t.no1, by simpa using h.t.b0, by simpa using h.t.b1⟩, h.a00, h.a01, h.a10, h.a11, h.c0, h.c1, h.k0, h.k1, h.e0, h.e1⟩
theorem four_set0 {S : Sto} {l0 l1 m0 m1 : Nat} {A B : Cells} {o : SO} (h0 : l0 ≠ 0) (h1 : l1 ≠ 0) (h2 : m0 ≠ 0) (h3 : m1 ≠ 0) : (four S l0 l1 m0 m1 A B).set 0 o = four (S.set 0 o) l0 l1 m0 m1 A B := by
  unfold four two
  rw [List.set_comm _ _ h3, List.set_comm _ _ h2, List.set_comm _ _ h1, List.set_comm _ _ h0]
def FilledOk (f : List D → Sto → R D) : Prop := ∀ (st : Sto) (ds : List Int) (p : Nat), st[0]? = some (.lst (ds.map .int)) → InD ds → p ≤ 90 → ∃ (A : Cells) (ds' : List Int), Cells.Of (p + 4) A ∧ InD ds' ∧ f [.ref st.length, .ref 0] (st ++ dsk st.length p) = .ok (.ref (st.length + 6 + 4)) (four ((st ++ dsk st.length p ++ cls0 (st.length + 6) (p + 4)).set 0 (.lst (ds'.map .int))) (st.length + 2) (st.length + 4) (st.length + 6 + 1) (st.length + 6 + 3) A A)
theorem filled_ok {Ph : Nat → List D → Sto → R D} {fk : Str → Str → Bool} {i j k : Nat} (hf2 : fk sPlaces sDisk = true) (hst : StepsOk (Ph i)) (hw : WriteOk (Ph j)) (hp : LPutOk (Ph k)) : FilledOk (runDef ⟨2, 4, false, g__law_filled fk i j k⟩ Ph) := fun st ds p hs hd hp90 => by
  have hpos : 0 < st.length := (List.getElem?_eq_some_iff.mp hs).1
  have hl6 : (st ++ dsk st.length p).length = st.length + 6 := by simp [dsk]
  have hins : ∀ S : Sto, ((st ++ dsk st.length p) ++ S)[st.length]? = some (diskO p (st.length + 5)) := fun S => by
    rw [List.append_assoc, List.getElem?_append_right (Nat.le_refl _), Nat.sub_self]
    rfl
  have hfld : ∀ (env : DEnv) (S : Sto), env[0]? = some (some (.ref st.length)) → mBin opAdd (mFld (fk "places") "places" (mVar 0)) (mC (.int 4)) env ((st ++ dsk st.length p) ++ S) = .ok (.int ((p + 4 : Nat) : Int)) ((st ++ dsk st.length p) ++ S) := fun env S h => by
    refine R.wp.eq ?_
    have v : mVar 0 env ((st ++ dsk st.length p) ++ S) = .ok (.ref st.length) ((st ++ dsk st.length p) ++ S) := by simp only [mVar, h]
    rw [w_bin, w_fld, v, w_ok, getFld_at (d := .int (p : Int)) (hins S) hf2 rfl, w_ok, w_C, w_add]
    exact ⟨by congr 1, rfl⟩
  obtain ⟨v, t, e, A, ds', a1, a2, rfl, rfl⟩ := raw_wp (d := ⟨2, 4, false, g__law_filled fk i j k⟩) (Ph := Ph) (ds := [.ref st.length, .ref 0]) (st := st ++ dsk st.length p) (P := fun v t => ∃ (A : Cells) (ds' : List Int), Cells.Of (p + 4) A ∧ InD ds' ∧ v = .ref (st.length + 6 + 4) ∧ t = four ((st ++ dsk st.length p ++ cls0 (st.length + 6) (p + 4)).set 0 (.lst (ds'.map .int))) (st.length + 2) (st.length + 4) (st.length + 6 + 1) (st.length + 6 + 3) A A) rfl rfl (by
    unfold g__law_filled
    rw [w_seq, w_asg]
    refine two_new (n := p + 4) (by omega) (fun S => hfld _ S rfl) ?_
    rw [hl6]
    simp only [w_seq, w_asg, w_for, w_ret, startD, List.map_cons, List.map_nil, List.length_cons, List.length_nil, Nat.reduceAdd, Nat.reduceSub, List.replicate, List.cons_append, List.nil_append, List.set_cons_zero, List.set_cons_succ, w_skip]
    have hs2 : (st ++ dsk st.length p ++ cls0 (st.length + 6) (p + 4))[0]? = some (.lst (ds.map .int)) := by
      rw [List.append_assoc, List.getElem?_append_left hpos]; exact hs
    obtain ⟨ss, ds1, s1, s2, s3, s4⟩ := hst (st ++ dsk st.length p ++ cls0 (st.length + 6) (p + 4)) ds (p + 4) hs2 hd (by omega) (by omega)
    have hi : iSeq (mCall (Ph i) [(mVar 1), (mBin opAdd (mFld (fk "places") "places" (mVar 0)) (mC (.int 4)))]) [some (.ref st.length), some (.ref 0), some (.ref (st.length + 6 + 4)), none] (st ++ dsk st.length p ++ cls0 (st.length + 6) (p + 4)) = .ok (.vals (ss.map stepD)) ((st ++ dsk st.length p ++ cls0 (st.length + 6) (p + 4)).set 0 (.lst (ds1.map .int))) := by
      have e0 : mCall (Ph i) [(mVar 1), (mBin opAdd (mFld (fk "places") "places" (mVar 0)) (mC (.int 4)))] [some (.ref st.length), some (.ref 0), some (.ref (st.length + 6 + 4)), none] (st ++ dsk st.length p ++ cls0 (st.length + 6) (p + 4)) = .ok (.lst (ss.map stepD)) ((st ++ dsk st.length p ++ cls0 (st.length + 6) (p + 4)).set 0 (.lst (ds1.map .int))) := by
        refine R.wp.eq ?_
        simp only [w_call, w_args, w_args0, mVar_app, List.getElem?_cons_zero, List.getElem?_cons_succ, w_ok]
        rw [hfld _ _ rfl]
        simp only [w_ok]
        rw [s4, w_ok]
        exact ⟨rfl, rfl⟩
      unfold iSeq
      rw [e0, bind_ok]
    rw [hi, w_ok]
    have hS := (sit_new st p).set0 (o := .lst (ds1.map .int)) (by omega) (by omega) (by omega)
    have hB : (st ++ dsk st.length p ++ cls0 (st.length + 6) (p + 4)).set 0 (.lst (ds1.map .int)) = four ((st ++ dsk st.length p ++ cls0 (st.length + 6) (p + 4)).set 0 (.lst (ds1.map .int))) (st.length + 2) (st.length + 4) (st.length + 6 + 1) (st.length + 6 + 3) (blank (p + 4)) (blank (p + 4)) := by
      rw [← four_set0 (by omega) (by omega) (by omega) (by omega), sit_blank]
    have hB2 := hB
    generalize hSe : (st ++ dsk st.length p ++ cls0 (st.length + 6) (p + 4)).set 0 (.lst (ds1.map .int)) = S at hS hB hB2 ⊢
    rw [items_vals]
    refine for_wp (fun k env t => ∃ (x : Option D) (A : Cells), Cells.Of (p + 4) A ∧ env = [some (.ref st.length), some (.ref 0), some (.ref (st.length + 6 + 4)), x] ∧ t = four S (st.length + 2) (st.length + 4) (st.length + 6 + 1) (st.length + 6 + 3) A A) _ ⟨none, blank (p + 4), blank_of _, rfl, hB⟩ ?_ ?_
    · rintro k d env t hk ⟨x, A, hA, rfl, rfl⟩
      rw [List.getElem?_map] at hk
      obtain ⟨s, hsk, rfl⟩ := Option.map_eq_some_iff.mp hk
      refine ⟨_, rfl, ?_⟩
      trivial
      rw [ne_line]
      trivial
      cases s with
      | none => exact ⟨fun z => Bool.noConfusion z, fun _ => ⟨_, A, hA, rfl, rfl⟩⟩
      | some q =>
        refine ⟨fun _ => ?_, fun z => Bool.noConfusion z⟩
        have hq := s2 q (List.mem_of_getElem? hsk)
        have hob : isObj sDisk "write" (.ref st.length) (four S (st.length + 2) (st.length + 4) (st.length + 6 + 1) (st.length + 6 + 3) A A) = true := by rw [hS.flip]; exact isObj_two hS.dB (by decide) (by decide)
        have i1 : atI [D.str sPut, .int (q.copy : Int), .int (q.spot : Int), .tup (q.con.map .int)] 1 = some (.int (q.copy : Int)) := rfl
        have i2 : atI [D.str sPut, .int (q.copy : Int), .int (q.spot : Int), .tup (q.con.map .int)] 2 = some (.int (q.spot : Int)) := rfl
        have i3 : atI [D.str sPut, .int (q.copy : Int), .int (q.spot : Int), .tup (q.con.map .int)] 3 = some (.tup (q.con.map .int)) := rfl
        simp only [stepD, Put.d, w_ixT]
        refine ⟨hob, _, i1, _, i2, _, i3, ?_⟩
        rw [hS.write hw hA hq (by omega)]
        trivial
        have := hS.lput hp (A := MI.app A q) (B := A) (qs := [q]) (d := .lst [q.d]) hA (by simpa using hq) (by omega) (.inl rfl)
        simp only [Put.d] at this
        rw [this]
        trivial
        first
        | exact ⟨_, MI.app A q, app_of hA, rfl, rfl⟩
        | exact ⟨_, MI.app A q, app_of hA, rfl⟩
    · rintro env t ⟨x, A, hA, rfl, rfl⟩
      trivial
      exact ⟨A, ds1, hA, s3, by rw [hSe]⟩)
  exact ⟨A, ds', a1, a2, e⟩
end MI
namespace MI
open PySem PySem.Spec PyProof.Rows L2 MX MI
local macro_rules | `(tactic| trivial) => `(tactic| simp only [w_ok, w_exc, w_C, w_bin, w_neg, w_and, w_or, w_not, w_ifE, w_args0, w_args, w_tup, w_lst, w_new, w_call, w_isI, w_chain, w_opt0, w_opt, w_sl, w_st, w_methL, w_methS, on_bl, ot_bl, w_add, w_addT, w_addL, w_addS, w_sub, w_mul, w_mod, w_div, w_pow, w_lt, w_le, w_gt, w_ge, w_eq, w_ne, w_eqB, w_neB, w_isB, w_isNB, w_lenT, w_lenL, w_tupL, w_tupT, w_listT, w_listL, w_ixT, w_ixL, w_slT, w_slL, w_stT, w_seq, w_skip, w_asg, w_asgT, w_expr, w_ret, w_sIf, w_raise, w_for, w_set, w_try, w_pick0, w_pick, w_fld, w_methO, w_make, w_fldS, items_live, items_multi, ii_list_str, ii_str_lst, w_isNN, w_isIN, w_isTN, w_isSN, w_inNN, w_inTN, decide_true, decide_false,
  mVar_app, List.getElem?_cons_zero, List.getElem?_cons_succ, List.set_cons_zero, List.set_cons_succ, startD, List.map_cons, List.map_nil, List.length_cons, List.length_nil, List.length_map, Nat.zero_add, Nat.reduceAdd, Nat.reduceSub, List.replicate, List.cons_append, List.nil_append, gTupV_app, gVars_nil, gVars_cons, gVar_app, Option.some.injEq, exists_eq_left', wipeD_nil, wipeD_cons, atI0, atI1, atI2,
  decide_eq_true_eq, decide_eq_false_iff_not, Bool.not_eq_true', Bool.not_eq_false', Int.reduceLT, Int.reduceLE, Int.reduceAdd, Int.reduceMul, Int.reduceSub, Int.reduceNeg, true_and, and_true, Bool.true_eq_false, Bool.false_eq_true, false_implies, implies_true, true_implies, Nat.reduceLeDiff, fz_same, ii_int_int, ii_bool_int, ii_int_bl, ii_bool_bl, ii_tuple_tup, ii_str_str, ii_list_lst, ii_list_tup, ii_tuple_lst, ii_tuple_int, ii_list_int, ii_str_int, ii_str_tup, ii_int_str, ii_int_tup, ii_int_lst, ii_int_non, ii_bool_str, ii_tuple_str, ii_tuple_non, ii_list_non, ii_str_non, not_true_eq_false, not_false_eq_true, holds_vals, items_vals, eq_self])
-- s2
/-! groups in the store -/
structure GrAt (T : Sto) (L : Nat) (gs : List (List Put)) : Prop where
  out : T[L + 1]? = some (.lst (gout L gs.length))
  at_ : ∀ (k : Nat) (g : List Put), gs[k]? = some g → T[rf L k]? = some (gso g)
theorem GrAt.app {T g : Sto} {L : Nat} {gs : List (List Put)} (h : GrAt T L gs) : GrAt (T ++ g) L gs :=
  ⟨by rw [List.getElem?_append_left (List.getElem?_eq_some_iff.mp h.out).1]; exact h.out, fun k x hk => by rw [List.getElem?_append_left (List.getElem?_eq_some_iff.mp (h.at_ k x hk)).1]; exact h.at_ k x hk⟩
theorem eq_put (T : Sto) (q : Put) : EqD T 2 q.d q.d := by
  refine .inr (.inl ⟨_, _, rfl, rfl, rfl, fun i a b h1 h2 => ?_⟩)
  rw [h1] at h2
  cases h2
  match i, h1 with
  | 0, h => cases h; exact .inl (.inr (.inl ⟨_, by decide +kernel, rfl, rfl⟩))
  | 1, h => cases h; exact .inl (.inl ⟨_, rfl, rfl⟩)
  | 2, h => cases h; exact .inl (.inl ⟨_, rfl, rfl⟩)
  | 3, h =>
    cases h
    refine .inr (.inl ⟨_, _, rfl, rfl, rfl, fun j c d h3 h4 => ?_⟩)
    rw [h3] at h4
    cases h4
    rw [List.getElem?_map] at h3
    obtain ⟨n, _, rfl⟩ := Option.map_eq_some_iff.mp h3
    exact .inl ⟨n, rfl, rfl⟩
  | n + 4, h => simp at h
theorem lsOf_ref {T : Sto} {l : Nat} {xs : List D} (h : T[l]? = some (.lst xs)) : lsOf T (.ref l) = some ([(l, xs)], xs) := by
  unfold lsOf
  simp only [h]
theorem gout_at {L n k : Nat} {a : D} (h : (gout L n)[k]? = some a) : k < n ∧ a = .ref (rf L k) := by
  have hl := (List.getElem?_eq_some_iff.mp h).1
  simp [gout] at hl
  simp [gout, hl] at h
  exact ⟨hl, h.symm⟩
theorem eq_groups {T : Sto} {L L' : Nat} {gs : List (List Put)} (h : GrAt T L gs) (h' : GrAt T L' gs) : EqD T 4 (.ref (L + 1)) (.ref (L' + 1)) := by
  refine .inr (.inr ⟨_, _, lsOf_ref h.out, lsOf_ref h'.out, by simp [gout], fun k a b h1 h2 => ?_⟩)
  obtain ⟨hk, rfl⟩ := gout_at h1
  obtain ⟨_, rfl⟩ := gout_at h2
  have g := List.getElem?_eq_getElem hk
  refine .inr (.inr ⟨_, _, lsOf_ref (h.at_ k _ g), lsOf_ref (h'.at_ k _ g), rfl, fun j c d h3 h4 => ?_⟩)
  have h3 : (gs[k].map Put.d)[j]? = some c := h3
  have h4 : (gs[k].map Put.d)[j]? = some d := h4
  rw [h3] at h4
  cases h4
  rw [List.getElem?_map] at h3
  obtain ⟨q, _, rfl⟩ := Option.map_eq_some_iff.mp h3
  exact eq_put T q
section
variable {S : Sto} {l lo l0 l1 p mo m0 m1 n : Nat} {A B : Cells}
theorem Sit.lt (h : Sit S l lo l0 l1 p mo m0 m1) : l < S.length ∧ lo < S.length ∧ l0 < S.length ∧ l1 < S.length ∧ mo < S.length ∧ m0 < S.length ∧ m1 < S.length :=
  ⟨(List.getElem?_eq_some_iff.mp h.d.ins).1, (List.getElem?_eq_some_iff.mp h.d.out).1, h.d.b0, h.d.b1, (List.getElem?_eq_some_iff.mp h.t.out).1, h.t.b0, h.t.b1⟩
theorem Sit.grAt (h : Sit S l lo l0 l1 p mo m0 m1) (ss : List Step) : GrAt (four (S ++ gst S.length (MI.groups ss)) l0 l1 m0 m1 A B) S.length (MI.groups ss) := by
  obtain ⟨a, b, c, d, e, f, g⟩ := h.lt
  refine ⟨?_, fun k x hk => ?_⟩
  · rw [four_ne (by omega) (by omega) (by omega) (by omega)]
    exact gst_out (groups_ne ss)
  · have := rf_ge S.length k
    rw [four_ne (by omega) (by omega) (by omega) (by omega)]
    exact gst_at hk
theorem Sit.setL (h : Sit S l lo l0 l1 p mo m0 m1) {j : Nat} {o : SO} (h1 : j ≠ l) (h2 : j ≠ lo) (h3 : j ≠ mo) : Sit (S.set j o) l lo l0 l1 p mo m0 m1 :=
  ⟨⟨⟨by rw [List.getElem?_set_ne h2]; exact h.d.out, h.d.n01, h.d.no0, h.d.no1, by simpa using h.d.b0, by simpa using h.d.b1⟩, by rw [List.getElem?_set_ne h1]; exact h.d.ins, h.d.nl0, h.d.nl1⟩,
    ⟨by rw [List.getElem?_set_ne h3]; exact h.t.out, h.t.n01, h.t.no0, h.t.no1, by simpa using h.t.b0, by simpa using h.t.b1⟩, h.a00, h.a01, h.a10, h.a11, h.c0, h.c1, h.k0, h.k1, h.e0, h.e1⟩
theorem four_set {j : Nat} {o : SO} (h0 : j ≠ l0) (h1 : j ≠ l1) (h2 : j ≠ m0) (h3 : j ≠ m1) : (four S l0 l1 m0 m1 A B).set j o = four (S.set j o) l0 l1 m0 m1 A B := by
  unfold four two
  rw [List.set_comm _ _ (Ne.symm h3), List.set_comm _ _ (Ne.symm h2), List.set_comm _ _ (Ne.symm h1), List.set_comm _ _ (Ne.symm h0)]
/-- the law's own puts, group by group -/
theorem Sit.lputs {Ph : Nat → List D → Sto → R D} {ip ig : Nat} (hg : GroupsOk (Ph ig)) (hp : LPutOk (Ph ip)) (h : Sit S l lo l0 l1 p mo m0 m1) {ss : List Step} {env : DEnv} {is im iv : Nat} {N : DEnv → Sto → Prop} {T : D → Sto → Prop} (hB : Cells.Of n B) (hs : ∀ q, some q ∈ ss → Put.Ok n q) (hn : n ≤ 1000) (hl : ss.length ≤ 1000)
    (h1 : env[is]? = some (some (.lst (ss.map stepD)))) (h2 : env[im]? = some (some (.ref mo))) (h3 : iv < env.length) (h4 : iv ≠ im)
    (fin : ∀ x, N (env.set iv x) (four (S ++ gst S.length (MI.groups ss)) l0 l1 m0 m1 A ((ss.filterMap id).foldl MI.app B)) ∧ N env (four (S ++ gst S.length (MI.groups ss)) l0 l1 m0 m1 A ((ss.filterMap id).foldl MI.app B))) :
    (sFor (iSeq (mCall (Ph ig) [(mVar is)])) (gVar iv) (sSeq (sExpr (mCall (Ph ip) [(mVar im), (mVar iv)])) sSkip) env (four S l0 l1 m0 m1 A B)).wp N T nXS := by
  obtain ⟨_, _, b0, b1, _, c0, c1⟩ := h.lt
  have e0 : mCall (Ph ig) [mVar is] env (four S l0 l1 m0 m1 A B) = .ok (.ref (S.length + 1)) (four (S ++ gst S.length (MI.groups ss)) l0 l1 m0 m1 A B) := by
    refine R.wp.eq ?_
    have v : mVar is env (four S l0 l1 m0 m1 A B) = .ok (.lst (ss.map stepD)) (four S l0 l1 m0 m1 A B) := by simp only [mVar, h1]
    rw [w_call, w_args, v, w_ok, w_args0, h.groups hg hl, w_ok]
    exact ⟨rfl, rfl⟩
  have hi : iSeq (mCall (Ph ig) [mVar is]) env (four S l0 l1 m0 m1 A B) = .ok (.live (S.length + 1) (gout S.length (MI.groups ss).length)) (four (S ++ gst S.length (MI.groups ss)) l0 l1 m0 m1 A B) := by
    unfold iSeq
    rw [e0, bind_ok]
    have h2 := (h.grAt (A := A) (B := B) ss).out
    simp only [h2]
  rw [w_for, hi, w_ok, items_live]
  have hlen : (two S l0 l1 A).length = S.length := two_len _ _ _ _
  have ea : four (S ++ gst S.length (MI.groups ss)) l0 l1 m0 m1 A B = two (two S l0 l1 A ++ gst (two S l0 l1 A).length (MI.groups ss)) m0 m1 B := by
    unfold four
    rw [two_app b0 b1, hlen]
  have eb : ∀ B', four (S ++ gst S.length (MI.groups ss)) l0 l1 m0 m1 A B' = two (two S l0 l1 A ++ gst (two S l0 l1 A).length (MI.groups ss)) m0 m1 B' := fun B' => by
    unfold four
    rw [two_app b0 b1, hlen]
  have hlive : (Src.live (S.length + 1) (gout S.length (MI.groups ss).length)) = .live ((two S l0 l1 A).length + 1) (gout (two S l0 l1 A).length (MI.groups ss).length) := by rw [hlen]
  have hgo : gout S.length (MI.groups ss).length = gout (two S l0 l1 A).length (MI.groups ss).length := by rw [hlen]
  rw [ea, hlive, hgo]
  refine (over_groups (f := Ph ip) (o := .ref mo) (st := two S l0 l1 A) (i := iv) (by rw [hlen]; exact c0) (by rw [hlen]; exact c1) hB hs N (fun env' B' g r hB' hq hr => ?_) ?_).mono (fun _ _ z => z) (fun _ _ z => z.elim) (fun _ _ _ z => z)
  · have v1 : ∀ T : Sto, mVar im (env.set iv (some (.ref r))) T = .ok (.ref mo) T := fun T => by
      simp only [mVar, List.getElem?_set_ne h4, h2]
    have v2 : ∀ T : Sto, mVar iv (env.set iv (some (.ref r))) T = .ok (.ref r) T := fun T => by
      simp only [mVar, List.getElem?_set_self h3]
    have hc := hp _ mo m0 m1 n B' g (.ref r) h.tA.app hB' hq hn hr
    rw [w_seq, w_expr, w_call, w_args, v1, w_ok, w_args, v2, w_ok, w_args0, hc, w_ok, w_skip]
    exact ⟨rfl, rfl⟩
  · intro x
    have := fin x
    rw [eb] at this
    exact this
end
end MI
namespace MI
open PySem PySem.Spec PyProof.Rows L2 MX MI
local macro_rules | `(tactic| trivial) => `(tactic| simp only [w_ok, w_exc, w_C, w_bin, w_neg, w_and, w_or, w_not, w_ifE, w_args0, w_args, w_tup, w_lst, w_new, w_call, w_isI, w_chain, w_opt0, w_opt, w_sl, w_st, w_methL, w_methS, on_bl, ot_bl, w_add, w_addT, w_addL, w_addS, w_sub, w_mul, w_mod, w_div, w_pow, w_lt, w_le, w_gt, w_ge, w_eq, w_ne, w_eqB, w_neB, w_isB, w_isNB, w_lenT, w_lenL, w_tupL, w_tupT, w_listT, w_listL, w_ixT, w_ixL, w_slT, w_slL, w_stT, w_seq, w_skip, w_asg, w_asgT, w_expr, w_ret, w_sIf, w_raise, w_for, w_set, w_try, w_pick0, w_pick, w_fld, w_methO, w_make, w_fldS, items_live, items_multi, ii_list_str, ii_str_lst, w_isNN, w_isIN, w_isTN, w_isSN, w_inNN, w_inTN, decide_true, decide_false,
  mVar_app, List.getElem?_cons_zero, List.getElem?_cons_succ, List.set_cons_zero, List.set_cons_succ, startD, List.map_cons, List.map_nil, List.length_cons, List.length_nil, List.length_map, Nat.zero_add, Nat.reduceAdd, Nat.reduceSub, List.replicate, List.cons_append, List.nil_append, gTupV_app, gVars_nil, gVars_cons, gVar_app, Option.some.injEq, exists_eq_left', wipeD_nil, wipeD_cons, atI0, atI1, atI2,
  decide_eq_true_eq, decide_eq_false_iff_not, Bool.not_eq_true', Bool.not_eq_false', Int.reduceLT, Int.reduceLE, Int.reduceAdd, Int.reduceMul, Int.reduceSub, Int.reduceNeg, true_and, and_true, Bool.true_eq_false, Bool.false_eq_true, false_implies, implies_true, true_implies, Nat.reduceLeDiff, fz_same, ii_int_int, ii_bool_int, ii_int_bl, ii_bool_bl, ii_tuple_tup, ii_str_str, ii_list_lst, ii_list_tup, ii_tuple_lst, ii_tuple_int, ii_list_int, ii_str_int, ii_str_tup, ii_int_str, ii_int_tup, ii_int_lst, ii_int_non, ii_bool_str, ii_tuple_str, ii_tuple_non, ii_list_non, ii_str_non, not_true_eq_false, not_false_eq_true, holds_vals, items_vals, eq_self])
-- s2
/-- cut_steps(disk, steps, group, kept); slots: 0 disk, 1 steps, 2 group, 3 kept, 4 groups, 5 puts, 6 number -/
noncomputable def g_cut_steps (i_groups_of i_do_puts : Nat) (Ph : Nat → List D → Sto → R D) : MS := (sSeq (sAsg (mCall (Ph i_groups_of) [(mVar 1)]) (gVar 4))
  (sSeq (sFor (iSeq (mSl (mVar 4) none (some (mVar 2)))) (gVar 5)
    (sSeq (sExpr (mCall (Ph i_do_puts) [(mVar 0), (mVar 5)]))
  sSkip))
  (sSeq (sExpr (mCall (Ph i_do_puts) [(mVar 0), (mComp (iSeq (mVar 3)) [6] (gVar 6) none (mBin opIx (mBin opIx (mVar 4) (mVar 2)) (mVar 6)))]))
  sSkip)))
/-- _law_kept(_law_drawn, _law_many); slots: 0 _law_drawn, 1 _law_many, 2 _law_left, 3 _law_kept_here, 4 _law_k -/
noncomputable def g__law_kept (i__law_next : Nat) (Ph : Nat → List D → Sto → R D) : MS := (sSeq (sAsg (mCall bRangeLN [(mVar 1)]) (gVar 2))
  (sSeq (sAsg (mNew []) (gVar 3))
  (sSeq (sFor (iRange1 (mBin opIx (mLst [(mC (.int 0)), (mVar 1), (mCall bMin [(mC (.int 1)), (mVar 1)]), (mBin opMod (mCall (Ph i__law_next) [(mVar 0)]) (mBin opAdd (mVar 1) (mC (.int 1))))]) (mBin opMod (mCall (Ph i__law_next) [(mVar 0)]) (mC (.int 4))))) (gVar 4)
    (sSeq (sExpr (mMethL mAppend (mVar 3) [(mMethL mPop (mVar 2) [(mBin opMod (mCall (Ph i__law_next) [(mVar 0)]) (mCall bLen [(mVar 2)]))])]))
  sSkip))
  (sSeq (sRet (mVar 3))
  sSkip))))
/-- _law_cut(_law_cells, _law_groups_here, _law_group, _law_kept_here); slots: 0 _law_cells, 1 _law_groups_here, 2 _law_group, 3 _law_kept_here, 4 _law_found, 5 _law_puts, 6 _law_one, 7 _law_number -/
noncomputable def g__law_cut (i__law_put : Nat) (Ph : Nat → List D → Sto → R D) : MS := (sSeq (sAsg (mCompN (iSeq (mVar 0)) [6] (gVar 6) none (mCall bListN [(mVar 6)])) (gVar 4))
  (sSeq (sFor (iSeq (mSl (mVar 1) none (some (mVar 2)))) (gVar 5)
    (sSeq (sExpr (mCall (Ph i__law_put) [(mVar 4), (mVar 5)]))
  sSkip))
  (sSeq (sExpr (mCall (Ph i__law_put) [(mVar 4), (mComp (iSeq (mVar 3)) [7] (gVar 7) none (mBin opIx (mBin opIx (mVar 1) (mVar 2)) (mVar 7)))]))
  (sSeq (sRet (mVar 4))
  sSkip))))
/-- Disk_twin(self); slots: 0 self, 1 found, 2 cells -/
noncomputable def g_Disk_twin (fk : Str → Str → Bool) (i_Disk___init__ : Nat) (Ph : Nat → List D → Sto → R D) : MS := (sSeq (sAsg (mMake "Disk" (Ph i_Disk___init__) [(mFld (fk "places") "places" (mVar 0))]) (gVar 1))
  (sSeq (sFldS (fk "copies") "copies" (mVar 1) (mCompN (iSeq (mFld (fk "copies") "copies" (mVar 0))) [2] (gVar 2) none (mCall bListN [(mVar 2)])))
  (sSeq (sRet (mVar 1))
  sSkip)))

/-! stores that grow -/
def Grow (T T' : Sto) : Prop := T.length ≤ T'.length ∧ ∀ j, j < T.length → T'[j]? = T[j]?
theorem Grow.refl (T : Sto) : Grow T T := ⟨Nat.le_refl _, fun _ _ => rfl⟩
theorem Grow.trans {A B C : Sto} (h : Grow A B) (g : Grow B C) : Grow A C := ⟨Nat.le_trans h.1 g.1, fun j hj => by rw [g.2 j (by have := h.1; omega), h.2 j hj]⟩
theorem Grow.app (T g : Sto) : Grow T (T ++ g) := ⟨by simp, fun j hj => List.getElem?_append_left hj⟩
theorem Grow.two {T S : Sto} {l0 l1 : Nat} {A : Cells} (h : Grow T S) (h0 : T.length ≤ l0) (h1 : T.length ≤ l1) : Grow T (two S l0 l1 A) := ⟨by rw [two_len]; exact h.1, fun j hj => by rw [two_ne (by omega) (by omega)]; exact h.2 j hj⟩
theorem Grow.get {T T' : Sto} (h : Grow T T') {j : Nat} {o : SO} (hj : T[j]? = some o) : T'[j]? = some o := by rw [h.2 j (List.getElem?_eq_some_iff.mp hj).1]; exact hj
theorem TwoAt.grow {T T' : Sto} {lo l0 l1 : Nat} (t : TwoAt T lo l0 l1) (h : Grow T T') : TwoAt T' lo l0 l1 := ⟨h.get t.out, t.n01, t.no0, t.no1, by have := t.b0; have := h.1; omega, by have := t.b1; have := h.1; omega⟩
theorem DiskAt.grow {T T' : Sto} {l lo l0 l1 p : Nat} (t : DiskAt T l lo l0 l1 p) (h : Grow T T') : DiskAt T' l lo l0 l1 p := ⟨t.toTwoAt.grow h, h.get t.ins, t.nl0, t.nl1⟩
theorem GrAt.grow {T T' : Sto} {L : Nat} {gs : List (List Put)} (t : GrAt T L gs) (h : Grow T T') : GrAt T' L gs := ⟨h.get t.out, fun k g hk => h.get (t.at_ k g hk)⟩
/-! the groups ahead of one -/
theorem over_gr {X : Sto} {L l0 l1 n m i : Nat} {A : Cells} {gs : List (List Put)} {env0 : DEnv} {b : MS} (hg : GrAt X L gs) (hn : ∀ k, k < gs.length → rf L k ≠ l0 ∧ rf L k ≠ l1) (hA : Cells.Of n A) (hs : ∀ g ∈ gs, ∀ q ∈ g, q.Ok n) (hm : m ≤ gs.length) (N : DEnv → Sto → Prop)
    (hb : ∀ (B : Cells) (g : List Put) (r : Nat), Cells.Of n B → (∀ q ∈ g, q.Ok n) → PutsAt X l0 l1 (.ref r) g → (b (env0.set i (some (.ref r))) (two X l0 l1 B)).wp (fun e t => e = env0.set i (some (.ref r)) ∧ t = two X l0 l1 (g.foldl MI.app B)) (fun _ _ => False) nXS)
    (fin : ∀ x, N (env0.set i x) (two X l0 l1 ((gs.take m).flatten.foldl MI.app A)) ∧ N env0 (two X l0 l1 ((gs.take m).flatten.foldl MI.app A))) :
    (forGo (.vals ((gout L gs.length).take m)) (gVar i) b ((gout L gs.length).take m) env0 (two X l0 l1 A)).wp N (fun _ _ => False) nXS := by
  refine for_wp (fun k env T => (env = env0 ∨ ∃ x, env = env0.set i x) ∧ T = two X l0 l1 ((gs.take k).flatten.foldl MI.app A)) _ ⟨.inl rfl, rfl⟩ ?_ ?_
  · rintro k d env T hk ⟨he, rfl⟩
    have hkm : k < m := by
      have := (List.getElem?_eq_some_iff.mp hk).1
      simp at this
      omega
    rw [List.getElem?_take_of_lt hkm] at hk
    obtain ⟨hkl, rfl⟩ := gout_at hk
    have hg' : gs[k]? = some gs[k] := List.getElem?_eq_getElem hkl
    have hset : env.set i (some (.ref (rf L k))) = env0.set i (some (.ref (rf L k))) := by
      rcases he with rfl | ⟨x, rfl⟩
      · rfl
      · rw [List.set_set]
    refine ⟨env0.set i (some (.ref (rf L k))), by unfold gVar; rw [hset], ?_⟩
    refine (hb _ gs[k] (rf L k) (fold_of hA) (hs _ (List.getElem_mem hkl)) (.inr ⟨_, rfl, (hn k hkl).1, (hn k hkl).2, hg.at_ k _ hg'⟩)).mono (fun e t h => ?_) (fun _ _ z => z) (fun _ _ _ z => z)
    obtain ⟨rfl, rfl⟩ := h
    refine ⟨True.intro, .inr ⟨_, rfl⟩, ?_⟩
    rw [List.take_succ, hg', Option.toList_some, List.flatten_append, List.foldl_append]
    simp only [List.flatten_cons, List.flatten_nil, List.append_nil]
  · rintro env T ⟨he, rfl⟩
    have e : ((gout L gs.length).take m).length = m := by simp [gout]; omega
    rw [e]
    rcases he with rfl | ⟨x, rfl⟩
    · exact (fin none).2
    · exact (fin x).1
theorem getD_at {α : Type} {xs : List α} {k : Nat} {d : α} (h : k < xs.length) : xs.getD k d = xs[k] := by simp [List.getD, List.getElem?_eq_getElem h]
def keptOf (g : List Put) (ks : List Nat) : List Put := ks.filterMap fun k => g[k]?
def cutF (A : Cells) (gs : List (List Put)) (g : Nat) (ks : List Nat) : Cells := (keptOf (gs.getD g []) ks).foldl app ((gs.take g).flatten.foldl app A)
def natsD (ks : List Nat) : List D := ks.map fun k : Nat => D.int (k : Int)
theorem kept_map {g : List Put} : ∀ {ks : List Nat}, (∀ k ∈ ks, k < g.length) → (natsD ks).map (fun d => match d with | .int k => (g.getD k.toNat ⟨0, 0, []⟩).d | d => d) = (keptOf g ks).map Put.d
  | [], _ => rfl
  | k :: ks, h => by
    have hk := h k (by simp)
    have ih := kept_map (ks := ks) fun j hj => h j (by simp [hj])
    unfold natsD keptOf at ih ⊢
    rw [List.filterMap_cons, List.getElem?_eq_getElem hk]
    simp only [List.map_cons]
    rw [ih, Int.toNat_natCast, getD_at hk]
theorem kept_mem {g : List Put} {ks : List Nat} {q : Put} (h : q ∈ keptOf g ks) : q ∈ g := by
  obtain ⟨k, _, e⟩ := List.mem_filterMap.mp h
  exact List.mem_of_getElem? e
/-- those kept of a group, as a list by value -/
theorem kept_comp {X : Sto} {L g : Nat} {gs : List (List Put)} {ks : List Nat} {env : DEnv} {ig ik io iv : Nat} (hg : GrAt X L gs) (hlt : g < gs.length) (hk : ∀ k ∈ ks, k < (gs.getD g []).length) (hl : ks.length ≤ 1000)
    (h1 : env[io]? = some (some (.ref (L + 1)))) (h2 : env[ig]? = some (some (.int (g : Int)))) (h3 : env[ik]? = some (some (.lst (natsD ks)))) (hv : iv < env.length) (n1 : iv ≠ io) (n2 : iv ≠ ig) (n3 : iv ≠ ik) :
    mComp (iSeq (mVar ik)) [iv] (gVar iv) none (mBin opIx (mBin opIx (mVar io) (mVar ig)) (mVar iv)) env X = .ok (.lst ((keptOf (gs.getD g []) ks).map Put.d)) X := by
  have hi : iSeq (mVar ik) env X = .ok (.vals (natsD ks)) X := by unfold iSeq mVar; simp only [h3, bind_ok]
  have hgl : gs[g]? = some (gs.getD g []) := by rw [List.getD, List.getElem?_eq_getElem hlt]; rfl
  have hM := mComp_map (vs := [iv]) (g := gVar iv) (e := mBin opIx (mBin opIx (mVar io) (mVar ig)) (mVar iv)) (fun d => match d with | .int k => ((gs.getD g []).getD k.toNat ⟨0, 0, []⟩).d | d => d) hi (fun x hx => by
    obtain ⟨k, hkm, rfl⟩ := List.mem_map.mp hx
    have hkl := hk k hkm
    refine ⟨(wipeD env [iv]).set iv (some (.int (k : Int))), rfl, R.wp.eq ?_⟩
    have g1 : ((wipeD env [iv]).set iv (some (.int (k : Int))))[io]? = some (some (.ref (L + 1))) := by
      rw [List.getElem?_set_ne n1]; simp only [wipeD]; rw [List.getElem?_set_ne n1]; exact h1
    have g2 : ((wipeD env [iv]).set iv (some (.int (k : Int))))[ig]? = some (some (.int (g : Int))) := by
      rw [List.getElem?_set_ne n2]; simp only [wipeD]; rw [List.getElem?_set_ne n2]; exact h2
    have g3 : ((wipeD env [iv]).set iv (some (.int (k : Int))))[iv]? = some (some (.int (k : Int))) := by
      rw [List.getElem?_set_self]; simpa [wipeD] using hv
    have v1 : ∀ T, mVar io ((wipeD env [iv]).set iv (some (.int (k : Int)))) T = .ok (.ref (L + 1)) T := fun T => by simp only [mVar, g1]
    have v2 : ∀ T, mVar ig ((wipeD env [iv]).set iv (some (.int (k : Int)))) T = .ok (.int (g : Int)) T := fun T => by simp only [mVar, g2]
    have v3 : ∀ T, mVar iv ((wipeD env [iv]).set iv (some (.int (k : Int)))) T = .ok (.int (k : Int)) T := fun T => by simp only [mVar, g3]
    rw [w_bin, w_bin, v1, w_ok, v2, w_ok, ix_ref hg.out (d := .ref (rf L g)) (by simp [gout, hlt]), w_ok, v3, w_ok, ix_ref (hg.at_ g _ hgl) (d := ((gs.getD g [])[k]).d) (by rw [List.getElem?_map, List.getElem?_eq_getElem hkl]; rfl), w_ok]
    refine ⟨?_, rfl⟩
    show ((gs.getD g [])[k]).d = ((gs.getD g []).getD ((k : Int)).toNat _).d
    rw [Int.toNat_natCast, getD_at hkl]) (by simp [natsD]; omega)
  rw [hM, kept_map hk]
theorem sl_gout {X : Sto} {L g : Nat} {gs : List (List Put)} (hg : GrAt X L gs) : opSl (.ref (L + 1)) none (some (g : Int)) X = .ok (.lst ((gout L gs.length).take g)) X := by
  unfold opSl
  simp only [deref_ref_lst hg.out, cut_to]
def CutOk (f : List D → Sto → R D) : Prop := ∀ (st : Sto) (l lo l0 l1 p n : Nat) (A : Cells) (ss : List MI.Step) (g : Nat) (ks : List Nat), DiskAt st l lo l0 l1 p → Cells.Of n A → (∀ q, some q ∈ ss → Put.Ok n q) → n ≤ 1000 → ss.length ≤ 1000 → g < (groups ss).length → (∀ k ∈ ks, k < ((groups ss).getD g []).length) → ks.length ≤ 1000 →
  f [.ref l, .lst (ss.map stepD), .int (g : Int), .lst (natsD ks)] (two st l0 l1 A) = .ok .non (two (st ++ gst st.length (groups ss)) l0 l1 (cutF A (groups ss) g ks))
theorem cutsteps_ok {Ph : Nat → List D → Sto → R D} {i j : Nat} (hg : GroupsOk (Ph i)) (hp : DoPutsOk (Ph j)) : CutOk (runDef ⟨4, 7, false, g_cut_steps i j⟩ Ph) := fun st l lo l0 l1 p n A ss g ks hd hA hs hn hl hgl hk hkl => by
  obtain ⟨t, e, rfl⟩ := raw_unit (d := ⟨4, 7, false, g_cut_steps i j⟩) (Ph := Ph) (ds := [.ref l, .lst (ss.map stepD), .int (g : Int), .lst (natsD ks)]) (st := two st l0 l1 A) (P := fun t => t = two (st ++ gst st.length (groups ss)) l0 l1 (cutF A (groups ss) g ks)) rfl rfl (by
    unfold g_cut_steps
    trivial
    rw [hg _ ss hl, two_len, two_app hd.b0 hd.b1]
    trivial
    have b0 := hd.b0
    have b1 := hd.b1
    have hX : ∀ B, GrAt (two (st ++ gst st.length (groups ss)) l0 l1 B) st.length (groups ss) := fun B => ⟨by rw [two_ne (by omega) (by omega)]; exact gst_out (groups_ne ss), fun k x hx => by have := rf_ge st.length k; rw [two_ne (by omega) (by omega)]; exact gst_at hx⟩
    have hi : iSeq (mSl (mVar 4) none (some (mVar 2))) [some (.ref l), some (.lst (ss.map stepD)), some (.int (g : Int)), some (.lst (natsD ks)), some (.ref (st.length + 1)), none, none] (two (st ++ gst st.length (groups ss)) l0 l1 A) = .ok (.vals ((gout st.length (groups ss).length).take g)) (two (st ++ gst st.length (groups ss)) l0 l1 A) := by
      have e0 : mSl (mVar 4) none (some (mVar 2)) [some (.ref l), some (.lst (ss.map stepD)), some (.int (g : Int)), some (.lst (natsD ks)), some (.ref (st.length + 1)), none, none] (two (st ++ gst st.length (groups ss)) l0 l1 A) = .ok (.lst ((gout st.length (groups ss).length).take g)) (two (st ++ gst st.length (groups ss)) l0 l1 A) := by
        refine R.wp.eq ?_
        trivial
        rw [sl_gout (hX A)]
        trivial
      unfold iSeq
      rw [e0, bind_ok]
    rw [hi]
    trivial
    refine (over_gr (X := st ++ gst st.length (groups ss)) (L := st.length) (i := 5) (m := g) (gs := groups ss) ⟨gst_out (groups_ne ss), fun k x hx => gst_at hx⟩ (fun k hk => by have := rf_ge st.length k; omega) hA (groups_mem hs) (by omega) _ (fun B x r hB hq hr => ?_) ?_).mono (fun _ _ h => h) (fun _ _ z => z.elim) (fun _ _ _ z => z)
    · trivial
      rw [hp _ l lo l0 l1 p n B x _ hd.app hB hq hn hr]
      trivial
    · have hgm : (groups ss).getD g [] ∈ groups ss := by rw [List.getD, List.getElem?_eq_getElem hgl]; exact List.getElem_mem hgl
      refine fun x => ⟨?_, ?_⟩
      all_goals
        first | trivial | skip
        rw [kept_comp (io := 4) (ig := 2) (ik := 3) (iv := 6) (hX _) hgl hk hkl rfl rfl rfl (by simp) (by decide) (by decide) (by decide)]
        trivial
        rw [hp _ l lo l0 l1 p n _ (keptOf ((groups ss).getD g []) ks) _ hd.app (fold_of hA) (fun q hq => groups_mem hs _ hgm q (kept_mem hq)) hn (.inl rfl)]
        trivial
        rfl)
  exact e
end MI
namespace MI
open PySem PySem.Spec PyProof.Rows L2 MX MI
local macro_rules | `(tactic| trivial) => `(tactic| simp only [w_ok, w_exc, w_C, w_bin, w_neg, w_and, w_or, w_not, w_ifE, w_args0, w_args, w_tup, w_lst, w_new, w_call, w_isI, w_chain, w_opt0, w_opt, w_sl, w_st, w_methL, w_methS, on_bl, ot_bl, w_add, w_addT, w_addL, w_addS, w_sub, w_mul, w_mod, w_div, w_pow, w_lt, w_le, w_gt, w_ge, w_eq, w_ne, w_eqB, w_neB, w_isB, w_isNB, w_lenT, w_lenL, w_tupL, w_tupT, w_listT, w_listL, w_ixT, w_ixL, w_slT, w_slL, w_stT, w_seq, w_skip, w_asg, w_asgT, w_expr, w_ret, w_sIf, w_raise, w_for, w_set, w_try, w_pick0, w_pick, w_fld, w_methO, w_make, w_fldS, items_live, items_multi, ii_list_str, ii_str_lst, w_isNN, w_isIN, w_isTN, w_isSN, w_inNN, w_inTN, decide_true, decide_false,
  mVar_app, List.getElem?_cons_zero, List.getElem?_cons_succ, List.set_cons_zero, List.set_cons_succ, startD, List.map_cons, List.map_nil, List.length_cons, List.length_nil, List.length_map, Nat.zero_add, Nat.reduceAdd, Nat.reduceSub, List.replicate, List.cons_append, List.nil_append, gTupV_app, gVars_nil, gVars_cons, gVar_app, Option.some.injEq, exists_eq_left', wipeD_nil, wipeD_cons, atI0, atI1, atI2,
  decide_eq_true_eq, decide_eq_false_iff_not, Bool.not_eq_true', Bool.not_eq_false', Int.reduceLT, Int.reduceLE, Int.reduceAdd, Int.reduceMul, Int.reduceSub, Int.reduceNeg, true_and, and_true, Bool.true_eq_false, Bool.false_eq_true, false_implies, implies_true, true_implies, Nat.reduceLeDiff, fz_same, ii_int_int, ii_bool_int, ii_int_bl, ii_bool_bl, ii_tuple_tup, ii_str_str, ii_list_lst, ii_list_tup, ii_tuple_lst, ii_tuple_int, ii_list_int, ii_str_int, ii_str_tup, ii_int_str, ii_int_tup, ii_int_lst, ii_int_non, ii_bool_str, ii_tuple_str, ii_tuple_non, ii_list_non, ii_str_non, not_true_eq_false, not_false_eq_true, holds_vals, items_vals, eq_self])
-- s2
theorem comp_two {T : Sto} {lo a b v : Nat} {xs ys : List D} {it : MIt} {env : DEnv} (hv : v < env.length) (hi : it env T = .ok (.live lo [.ref a, .ref b]) T) (ho : T[lo]? = some (.lst [.ref a, .ref b])) (ha : T[a]? = some (.lst xs)) (hb : T[b]? = some (.lst ys)) :
    mCompN it [v] (gVar v) none (mCall bListN [mVar v]) env T = .ok (.ref (T.length + 2)) (T ++ [.lst xs, .lst ys, .lst [.ref T.length, .ref (T.length + 1)]]) := by
  have e1 : ∀ (r : Nat) (zs : List D) (S : Sto), S[r]? = some (.lst zs) → mCall bListN [mVar v] ((wipeD env [v]).set v (some (.ref r))) S = .ok (.ref S.length) (S ++ [.lst zs]) := fun r zs S h => by
    refine R.wp.eq ?_
    have g3 : ((wipeD env [v]).set v (some (.ref r)))[v]? = some (some (.ref r)) := by
      rw [List.getElem?_set_self]; simpa [wipeD] using hv
    have v3 : mVar v ((wipeD env [v]).set v (some (.ref r))) S = .ok (.ref r) S := by simp only [mVar, g3]
    rw [w_call, w_args, v3, w_ok, w_args0]
    have : bListN [.ref r] S = .ok (.ref S.length) (S ++ [.lst zs]) := by
      unfold bListN
      simp only [seqOf, deref_ref_lst h]
    rw [this, w_ok]
    exact ⟨rfl, rfl⟩
  have q1 := e1 a xs T ha
  have q2 := e1 b ys (T ++ [.lst xs]) (old_at hb)
  have k1 : (Src.live lo [D.ref a, D.ref b]).holds (T ++ [.lst xs]) := old_at ho
  have k2 : (Src.live lo [D.ref a, D.ref b]).holds (T ++ [.lst xs] ++ [.lst ys]) := old_at (old_at ho)
  have hc : compGo (.live lo [.ref a, .ref b]) (gVar v) none (mCall bListN [mVar v]) (wipeD env [v]) [.ref a, .ref b] T = .ok [.ref T.length, .ref (T.length + 1)] (T ++ [.lst xs] ++ [.lst ys]) := by
    rw [compGo_cons]
    simp only [gVar, onTR, q1, if_pos k1]
    rw [compGo_cons]
    simp only [gVar, onTR, q2, if_pos k2, compGo_nil]
    simp
  rw [mCompN_app, hi, bind_ok, items_live, hc]
  have hz : ([D.ref T.length, D.ref (T.length + 1)] : List D).length ≤ sizeLine := small_le (by simp)
  simp only [if_pos hz]
  simp
def twn (L p : Nat) (A : Cells) : List SO := [diskO p (L + 8), .lst [.non], blanks (p + 4), .lst [.non], blanks (p + 4), .lst [.ref (L + 2), .ref (L + 4)], .lst (A.1.map cellD), .lst (A.2.map cellD), .lst [.ref (L + 6), .ref (L + 7)]]
def TwinOk (f : List D → Sto → R D) : Prop := ∀ (st : Sto) (l lo l0 l1 p : Nat) (A : Cells), DiskAt st l lo l0 l1 p → st[l0]? = some (.lst (A.1.map cellD)) → st[l1]? = some (.lst (A.2.map cellD)) → p ≤ 900 → f [.ref l] st = .ok (.ref st.length) (st ++ twn st.length p A)
theorem twin_ok {Ph : Nat → List D → Sto → R D} {fk : Str → Str → Bool} {i : Nat} (hf : fk sCopies sDisk = true) (hf2 : fk sPlaces sDisk = true) (hI : InitOk (Ph i)) : TwinOk (runDef ⟨1, 3, false, g_Disk_twin fk i⟩ Ph) := fun st l lo l0 l1 p A hd a0 a1 hp => by
  refine rt_raw rfl rfl ?_
  unfold g_Disk_twin
  simp only [w_seq, w_asg, w_make, w_fldS, w_skip, w_ret, w_args, w_args0, w_fld, mVar_app, startD, List.map_cons, List.map_nil, List.length_cons, List.length_nil, Nat.reduceAdd, Nat.reduceSub, List.replicate, List.cons_append, List.nil_append, List.getElem?_cons_zero, List.getElem?_cons_succ, List.set_cons_zero, List.set_cons_succ, w_ok]
  rw [getFld_at (d := .int (p : Int)) hd.ins hf2 rfl]
  simp only [w_ok]
  rw [hI st p hp]
  simp only [w_ok, true_and]
  have hD := hd.app (g := dsk st.length p)
  have hi : iSeq (mFld (fk "copies") "copies" (mVar 0)) [some (.ref l), some (.ref st.length), none] (st ++ dsk st.length p) = .ok (.live lo [.ref l0, .ref l1]) (st ++ dsk st.length p) := by
    have e0 : mFld (fk "copies") "copies" (mVar 0) [some (.ref l), some (.ref st.length), none] (st ++ dsk st.length p) = .ok (.ref lo) (st ++ dsk st.length p) := by
      refine R.wp.eq ?_
      trivial
      rw [getFld_at (d := .ref lo) hD.ins hf rfl]
      trivial
    unfold iSeq
    rw [e0, bind_ok]
    have := hD.out
    simp only [this]
  have hg0 : (st ++ dsk st.length p)[l0]? = some (.lst (A.1.map cellD)) := by rw [List.getElem?_append_left hd.b0]; exact a0
  have hg1 : (st ++ dsk st.length p)[l1]? = some (.lst (A.2.map cellD)) := by rw [List.getElem?_append_left hd.b1]; exact a1
  rw [comp_two (v := 2) (by simp) hi hD.out hg0 hg1]
  have hl : (st ++ dsk st.length p).length = st.length + 6 := by simp [dsk]
  simp only [w_ok]
  rw [hl]
  have hins : ((st ++ dsk st.length p) ++ [SO.lst (A.1.map cellD), .lst (A.2.map cellD), .lst [.ref (st.length + 6), .ref (st.length + 6 + 1)]])[st.length]? = some (diskO p (st.length + 5)) := by
    rw [List.append_assoc, List.getElem?_append_right (Nat.le_refl _), Nat.sub_self]
    rfl
  rw [setFld_at hins hf (by simp), w_ok]
  rw [List.append_assoc, List.set_append_right _ _ (Nat.le_refl _), Nat.sub_self]
  first | rfl | exact ⟨rfl, rfl⟩
theorem twn_disk (st : Sto) (p : Nat) (A : Cells) : DiskAt (st ++ twn st.length p A) st.length (st.length + 8) (st.length + 6) (st.length + 7) p ∧ (st ++ twn st.length p A)[st.length + 6]? = some (.lst (A.1.map cellD)) ∧ (st ++ twn st.length p A)[st.length + 7]? = some (.lst (A.2.map cellD)) := by
  have g : ∀ (k : Nat) (o : SO), (twn st.length p A)[k]? = some o → (st ++ twn st.length p A)[st.length + k]? = some o := fun k o h => by
    rw [List.getElem?_append_right (by omega), Nat.add_sub_cancel_left]
    exact h
  have hlen : (st ++ twn st.length p A).length = st.length + 9 := by simp [twn]
  exact ⟨⟨⟨g 8 _ rfl, by omega, by omega, by omega, by rw [hlen]; omega, by rw [hlen]; omega⟩, g 0 _ rfl, by omega, by omega⟩, g 6 _ rfl, g 7 _ rfl⟩
def LCutOk (f : List D → Sto → R D) : Prop := ∀ (T : Sto) (mo m0 m1 n G : Nat) (A : Cells) (gs : List (List Put)) (g : Nat) (ks : List Nat), TwoAt T mo m0 m1 → T[m0]? = some (.lst (A.1.map cellD)) → T[m1]? = some (.lst (A.2.map cellD)) → GrAt T G gs → Cells.Of n A → (∀ x ∈ gs, ∀ q ∈ x, q.Ok n) → n ≤ 1000 → g < gs.length → (∀ k ∈ ks, k < (gs.getD g []).length) → ks.length ≤ 1000 →
  f [.ref mo, .ref (G + 1), .int (g : Int), .lst (natsD ks)] T = .ok (.ref (T.length + 2)) (two (T ++ [.lst (A.1.map cellD), .lst (A.2.map cellD), .lst [.ref T.length, .ref (T.length + 1)]]) T.length (T.length + 1) (cutF A gs g ks))
theorem lcut_ok {Ph : Nat → List D → Sto → R D} {j : Nat} (hp : LPutOk (Ph j)) : LCutOk (runDef ⟨4, 8, false, g__law_cut j⟩ Ph) := fun T mo m0 m1 n G A gs g ks ht a0 a1 hG hA hs hn hgl hk hkl => by
  refine rt_raw rfl rfl ?_
  unfold g__law_cut
  have hi : iSeq (mVar 0) [some (.ref mo), some (.ref (G + 1)), some (.int (g : Int)), some (.lst (natsD ks)), none, none, none, none] T = .ok (.live mo [.ref m0, .ref m1]) T := iSeq_ref rfl ht.out
  trivial
  rw [comp_two (v := 6) (by simp) hi ht.out a0 a1]
  trivial
  have hX0 : two (T ++ [SO.lst (A.1.map cellD), .lst (A.2.map cellD), .lst [.ref T.length, .ref (T.length + 1)]]) T.length (T.length + 1) A = T ++ [SO.lst (A.1.map cellD), .lst (A.2.map cellD), .lst [.ref T.length, .ref (T.length + 1)]] := two_same (by simp) (by rw [List.getElem?_append_right (by omega)]; simp)
  have hGX := hG.app (g := [SO.lst (A.1.map cellD), .lst (A.2.map cellD), .lst [.ref T.length, .ref (T.length + 1)]])
  have hrf : ∀ k, k < gs.length → rf G k < T.length := fun k hk => (List.getElem?_eq_some_iff.mp (hG.at_ k _ (List.getElem?_eq_getElem hk))).1
  have hgo : G + 1 < T.length := (List.getElem?_eq_some_iff.mp hG.out).1
  have hTX : TwoAt (T ++ [SO.lst (A.1.map cellD), .lst (A.2.map cellD), .lst [.ref T.length, .ref (T.length + 1)]]) (T.length + 2) T.length (T.length + 1) := ⟨by rw [List.getElem?_append_right (by omega)]; simp, by omega, by omega, by omega, by simp, by simp⟩
  rw [← hX0]
  generalize T ++ [SO.lst (A.1.map cellD), .lst (A.2.map cellD), .lst [.ref T.length, .ref (T.length + 1)]] = X at hGX hTX ⊢
  have hGB : ∀ B, GrAt (two X T.length (T.length + 1) B) G gs := fun B => ⟨by rw [two_ne (by omega) (by omega)]; exact hGX.out, fun k x hx => by
    have hkl := (List.getElem?_eq_some_iff.mp hx).1
    have := hrf k hkl
    rw [two_ne (by omega) (by omega)]
    exact hGX.at_ k x hx⟩
  have hi2 : iSeq (mSl (mVar 1) none (some (mVar 2))) [some (.ref mo), some (.ref (G + 1)), some (.int (g : Int)), some (.lst (natsD ks)), some (.ref (T.length + 2)), none, none, none] (two X T.length (T.length + 1) A) = .ok (.vals ((gout G gs.length).take g)) (two X T.length (T.length + 1) A) := by
    have e0 : mSl (mVar 1) none (some (mVar 2)) [some (.ref mo), some (.ref (G + 1)), some (.int (g : Int)), some (.lst (natsD ks)), some (.ref (T.length + 2)), none, none, none] (two X T.length (T.length + 1) A) = .ok (.lst ((gout G gs.length).take g)) (two X T.length (T.length + 1) A) := by
      refine R.wp.eq ?_
      trivial
      rw [sl_gout (hGB A)]
      trivial
    unfold iSeq
    rw [e0, bind_ok]
  rw [hi2]
  trivial
  refine (over_gr (X := X) (L := G) (i := 5) (m := g) (gs := gs) hGX (fun k hk => by have := hrf k hk; omega) hA hs (by omega) _ (fun B x r hB hq hr => ?_) ?_).mono (fun _ _ h => h) (fun _ _ z => z.elim) (fun _ _ _ z => z)
  · trivial
    rw [hp _ (T.length + 2) T.length (T.length + 1) n B x _ hTX hB hq hn hr]
    trivial
  · have hgm : gs.getD g [] ∈ gs := by rw [List.getD, List.getElem?_eq_getElem hgl]; exact List.getElem_mem hgl
    refine fun x => ⟨?_, ?_⟩
    all_goals
      first | trivial | skip
      rw [kept_comp (io := 1) (ig := 2) (ik := 3) (iv := 7) (hGB _) hgl hk hkl rfl rfl rfl (by simp) (by decide) (by decide) (by decide)]
      trivial
      rw [hp _ (T.length + 2) T.length (T.length + 1) n _ (keptOf (gs.getD g []) ks) _ hTX (fold_of hA) (fun q hq => hs _ hgm q (kept_mem hq)) hn (.inl rfl)]
      trivial
      rw [two_two (by omega)]
      rfl
/-! ### numbers kept -/
theorem erase_map {α β : Type} (f : α → β) : ∀ (xs : List α) (k : Nat), (xs.map f).eraseIdx k = (xs.eraseIdx k).map f
  | [], _ => rfl
  | _ :: _, 0 => rfl
  | x :: xs, k + 1 => by simp [List.eraseIdx, erase_map f xs k]
theorem freeze_ref {st st1 new : Sto} {l : Nat} {ds : List D} (hl : st1.length = st.length) (hn : new ≠ []) (hg : (st1 ++ new)[l]? = some (.lst ds)) (hge : st.length ≤ l) (hs : ∀ (i : Nat) (o : SO), i < st.length → st1[i]? = some o → st[i]? = some o ∨ belowO st.length o = true) (hb : belows st.length ds = true) : freeze st (.ref l) (st1 ++ new) = .ok (.lst ds) st1 := by
  have hS : Same st (st1 ++ new) := fun i o hi ho => by
    rw [List.getElem?_append_left (by omega)] at ho
    exact hs i o hi ho
  have hnl : 0 < new.length := List.length_pos_iff.mpr hn
  unfold freeze
  rw [if_neg (by simp; omega), if_pos hS]
  have : ¬ l < st.length := by omega
  simp only [this, if_false, hg, hb, if_true]
  rw [← hl, List.take_left]
theorem belows_nats (n : Nat) : ∀ ks : List Nat, belows n (natsD ks) = true
  | [] => rfl
  | k :: ks => by simp only [natsD, List.map_cons, belows, below, Bool.true_and]; exact belows_nats n ks
theorem pop_nats {st : Sto} {l : Nat} {ls : List Nat} {i : Int} (h : st[l]? = some (.lst (natsD ls))) (h0 : 0 ≤ i) (h1 : i < ls.length) (h2 : ls.length ≤ 1000) : ∃ k ∈ ls, mPop (.ref l) [.int i] st = .ok (.int (k : Int)) (st.set l (.lst (natsD (ls.eraseIdx i.toNat)))) := by
  have hi : i.toNat < ls.length := by omega
  refine ⟨ls[i.toNat], List.getElem_mem hi, ?_⟩
  have hlen : (natsD ls).length = ls.length := by simp [natsD]
  have e1 : seqIndex? i (natsD ls).length = some i.toNat := by rw [hlen]; exact seqIndex_of h0 h1
  have e2 : (natsD ls)[i.toNat]? = some (.int (ls[i.toNat] : Int)) := by simp [natsD, hi]
  have e3 : (natsD ls).eraseIdx i.toNat = natsD (ls.eraseIdx i.toNat) := by unfold natsD; rw [erase_map]
  unfold mPop
  simp only [h]
  rw [if_pos ⟨by omega, by omega⟩]
  simp only [e1, e2, e3]
def KeptOk (f : List D → Sto → R D) : Prop := ∀ (st : Sto) (ds : List Int) (many : Nat), st[0]? = some (.lst (ds.map .int)) → InD ds → many ≤ 100 → ∃ (ks : List Nat) (ds' : List Int), (∀ k ∈ ks, k < many) ∧ ks.length ≤ many ∧ InD ds' ∧ f [.ref 0, .int (many : Int)] st = .ok (.lst (natsD ks)) (st.set 0 (.lst (ds'.map .int)))
theorem rangeD_nats (n : Nat) : rangeD 0 n = natsD (List.range n) := by unfold rangeD natsD; simp
theorem lkept_ok {Ph : Nat → List D → Sto → R D} {i : Nat} (hn : NextOk (Ph i)) : KeptOk (runDef ⟨2, 5, true, g__law_kept i⟩ Ph) := fun st ds many hs hd hm => by
  have hpos : 0 < st.length := (List.getElem?_eq_some_iff.mp hs).1
  have key : (runDef ⟨2, 5, true, g__law_kept i⟩ Ph [.ref 0, .int (many : Int)] st).wp (fun v t => ∃ (ks : List Nat) (ds' : List Int), (∀ k ∈ ks, k < many) ∧ ks.length ≤ many ∧ InD ds' ∧ v = .lst (natsD ks) ∧ t = st.set 0 (.lst (ds'.map .int))) nX := by
    refine def_wp rfl rfl ?_
    unfold g__law_kept
    trivial
    have hb : bRangeLN [.int (many : Int)] st = .ok (.ref st.length) (st ++ [.lst (natsD (List.range many))]) := by
      unfold bRangeLN
      simp only
      rw [if_pos ⟨by omega, by omega⟩, Int.toNat_natCast, rangeD_nats]
    rw [hb]
    trivial
    have e0 : (st ++ [SO.lst (natsD (List.range many))]).length = st.length + 1 := by simp
    rw [e0, List.append_assoc]
    have nx : ∀ (S : Sto) (ds : List Int), st[0]? = some (.lst (ds.map .int)) ∨ True → InD ds → ∃ (y : Int) (ds' : List Int), 0 ≤ y ∧ y < 2147483629 ∧ InD ds' ∧ Ph i [.ref 0] (st.set 0 (.lst (ds.map .int)) ++ S) = .ok (.int y) (st.set 0 (.lst (ds'.map .int)) ++ S) := fun S ds _ hd => by
      have hpos2 : 0 < (st.set 0 (.lst (ds.map .int))).length := by simpa using hpos
      obtain ⟨z, ds3, z0, z1, h3, e3⟩ := hn 0 (st.set 0 (.lst (ds.map .int)) ++ S) ds (by rw [List.getElem?_append_left hpos2]; exact at0_set hs) hd
      rw [set0_app hpos2, List.set_set] at e3
      exact ⟨z, ds3, z0, z1, h3, e3⟩
    have hst : st = st.set 0 (.lst (ds.map .int)) := by
      obtain ⟨b, e⟩ := List.getElem?_eq_some_iff.mp hs
      rw [← e, List.set_getElem_self]
    have hr : ∃ (c : Nat) (ds1 : List Int), c ≤ many ∧ InD ds1 ∧ iRange1 (mBin opIx (mLst [(mC (.int 0)), (mVar 1), (mCall bMin [(mC (.int 1)), (mVar 1)]), (mBin opMod (mCall (Ph i) [(mVar 0)]) (mBin opAdd (mVar 1) (mC (.int 1))))]) (mBin opMod (mCall (Ph i) [(mVar 0)]) (mC (.int 4)))) [some (.ref 0), some (.int (many : Int)), some (.ref st.length), some (.ref (st.length + 1)), none] (st ++ ([.lst (natsD (List.range many))] ++ [.lst []])) = .ok (.vals (rangeD 0 c)) (st.set 0 (.lst (ds1.map .int)) ++ [.lst (natsD (List.range many)), .lst []]) := by
      obtain ⟨y, ds1, y0, y1, h1, e1⟩ := nx [.lst (natsD (List.range many)), .lst []] ds (.inr True.intro) hd
      obtain ⟨z, ds2, z0, z1, h2, e2⟩ := nx [.lst (natsD (List.range many)), .lst []] ds1 (.inr True.intro) h1
      rw [← hst] at e1
      have hmod0 : 0 ≤ y % ((many : Int) + 1) := Int.emod_nonneg _ (by omega)
      have hmod1 : y % ((many : Int) + 1) < many + 1 := Int.emod_lt_of_pos _ (by omega)
      obtain ⟨d, hd2, hmem⟩ := atI_int (xs := [D.int 0, D.int (many : Int), D.int (if (many : Int) < 1 then (many : Int) else 1), D.int (y % ((many : Int) + 1))]) (i := z % 4) (by omega) (by show z % 4 < 4; omega)
      have hmem := List.mem_of_getElem? hmem
      simp only [List.mem_cons, List.not_mem_nil, or_false] at hmem
      obtain ⟨c, hc, rfl⟩ : ∃ c : Nat, c ≤ many ∧ d = .int (c : Int) := by
        rcases hmem with rfl | rfl | rfl | rfl
        · exact ⟨0, by omega, rfl⟩
        · exact ⟨many, by omega, rfl⟩
        · by_cases h : (many : Int) < 1
          · exact ⟨many, by omega, by rw [if_pos h]⟩
          · exact ⟨1, by omega, by rw [if_neg h]; rfl⟩
        · exact ⟨(y % ((many : Int) + 1)).toNat, by omega, by rw [Int.toNat_of_nonneg hmod0]⟩
      refine ⟨c, ds2, hc, h2, iRange1_nat (R.wp.eq ?_) (by omega)⟩
      trivial
      have hmin : bMin [.int 1, .int (many : Int)] (st ++ [.lst (natsD (List.range many)), .lst []]) = .ok (.int (if (many : Int) < 1 then (many : Int) else 1)) (st ++ [.lst (natsD (List.range many)), .lst []]) := rfl
      rw [hmin]
      trivial
      have e1' : Ph i [.ref 0] (st ++ [.lst (natsD (List.range many)), .lst []]) = _ := e1
      rw [e1']
      trivial
      refine ⟨by omega, ?_⟩
      rw [e2]
      trivial
      exact ⟨_, hd2, rfl⟩
    obtain ⟨c, ds1, hc, h1, er⟩ := hr
    rw [er]
    trivial
    refine for_wp (fun k env t => ∃ (x : Option D) (ls ks : List Nat) (ds2 : List Int), ls.length + k = many ∧ ks.length = k ∧ (∀ j ∈ ls, j < many) ∧ (∀ j ∈ ks, j < many) ∧ InD ds2 ∧ env = [some (.ref 0), some (.int (many : Int)), some (.ref st.length), some (.ref (st.length + 1)), x] ∧ t = st.set 0 (.lst (ds2.map .int)) ++ [.lst (natsD ls), .lst (natsD ks)]) _ ⟨none, List.range many, [], ds1, by simp, rfl, by simp, by simp, h1, rfl, rfl⟩ ?_ ?_
    · rintro k d env t hk ⟨x, ls, ks, ds2, i1, i2, i3, i4, i5, rfl, rfl⟩
      obtain ⟨hk1, rfl⟩ := rangeD_at hk
      obtain ⟨y, ds3, y0, y1, h3, e3⟩ := nx [.lst (natsD ls), .lst (natsD ks)] ds2 (.inr True.intro) i5
      have hlen : ∀ ds : List Int, (st.set 0 (SO.lst (ds.map .int))).length = st.length := fun ds => by simp
      have g1 : ∀ ds : List Int, (st.set 0 (SO.lst (ds.map .int)) ++ [SO.lst (natsD ls), SO.lst (natsD ks)])[st.length]? = some (.lst (natsD ls)) := fun ds => by
        rw [List.getElem?_append_right (by rw [hlen]; omega), hlen, Nat.sub_self]; rfl
      have g2 : ∀ (ds : List Int) (o : SO), (st.set 0 (SO.lst (ds.map .int)) ++ [o, SO.lst (natsD ks)])[st.length + 1]? = some (.lst (natsD ks)) := fun ds o => by
        rw [List.getElem?_append_right (by rw [hlen]; omega), hlen, Nat.add_sub_cancel_left]; rfl
      refine ⟨_, rfl, ?_⟩
      trivial
      refine ⟨isLst_ref (g2 ds2 _), isLst_ref (g1 ds2), ?_⟩
      rw [e3]
      trivial
      rw [len_ref (g1 ds3)]
      trivial
      have hll : (natsD ls).length = ls.length := by simp [natsD]
      have m0 : 0 ≤ y % (ls.length : Int) := Int.emod_nonneg _ (by omega)
      have m1 : y % (ls.length : Int) < ls.length := Int.emod_lt_of_pos _ (by omega)
      rw [hll]
      refine ⟨by omega, ?_⟩
      obtain ⟨j, hj, ep⟩ := pop_nats (g1 ds3) m0 m1 (by omega)
      rw [ep]
      trivial
      have es : (st.set 0 (SO.lst (ds3.map .int)) ++ [SO.lst (natsD ls), SO.lst (natsD ks)]).set st.length (SO.lst (natsD (ls.eraseIdx (y % (ls.length : Int)).toNat))) = st.set 0 (SO.lst (ds3.map .int)) ++ [SO.lst (natsD (ls.eraseIdx (y % (ls.length : Int)).toNat)), SO.lst (natsD ks)] := by
        rw [List.set_append_right _ _ (by rw [hlen]; omega), hlen, Nat.sub_self]; rfl
      rw [es, app_ref (g2 ds3 _) (by simp [natsD]; omega)]
      trivial
      have es2 : (st.set 0 (SO.lst (ds3.map .int)) ++ [SO.lst (natsD (ls.eraseIdx (y % (ls.length : Int)).toNat)), SO.lst (natsD ks)]).set (st.length + 1) (SO.lst (natsD ks ++ [D.int (j : Int)])) = st.set 0 (SO.lst (ds3.map .int)) ++ [SO.lst (natsD (ls.eraseIdx (y % (ls.length : Int)).toNat)), SO.lst (natsD (ks ++ [j]))] := by
        rw [List.set_append_right _ _ (by rw [hlen]; omega), hlen, Nat.add_sub_cancel_left]
        simp [natsD]
      rw [es2]
      refine ⟨some (.int (0 + (k : Int))), ls.eraseIdx (y % (ls.length : Int)).toNat, ks ++ [j], ds3, ?_, by simp [i2], fun a ha => i3 a (List.mem_of_mem_eraseIdx ha), fun a ha => ?_, h3, rfl, rfl⟩
      · rw [List.length_eraseIdx_of_lt (by omega)]; omega
      · rcases List.mem_append.mp ha with ha | ha
        · exact i4 a ha
        · rw [List.mem_singleton.mp ha]; exact i3 j hj
    · rintro env t ⟨x, ls, ks, ds2, i1, i2, i3, i4, i5, rfl, rfl⟩
      trivial
      have hlen : (st.set 0 (SO.lst (ds2.map .int))).length = st.length := by simp
      have hfz : freeze st (.ref (st.length + 1)) (st.set 0 (.lst (ds2.map .int)) ++ [.lst (natsD ls), .lst (natsD ks)]) = .ok (.lst (natsD ks)) (st.set 0 (.lst (ds2.map .int))) := by
        refine freeze_ref hlen (by simp) (by rw [List.getElem?_append_right (by rw [hlen]; omega), hlen, Nat.add_sub_cancel_left]; rfl) (by omega) (fun i o hi ho => ?_) (belows_nats _ _)
        by_cases e : i = 0
        · subst e
          rw [List.getElem?_set_self hi] at ho
          cases ho
          exact .inr (belows_ints _ _)
        · rw [List.getElem?_set_ne (Ne.symm e)] at ho
          exact .inl ho
      rw [hfz]
      trivial
      refine ⟨ks, ds2, i4, ?_, i5, rfl, rfl⟩
      rw [rangeD_len] at i2
      omega
  obtain ⟨v, t, e, ks, ds', a, b, c, rfl, rfl⟩ := key.get
  exact ⟨ks, ds', a, b, c, e⟩
end MI
namespace MI
open PySem PySem.Spec PyProof.Rows L2 MX MI
local macro_rules | `(tactic| trivial) => `(tactic| simp only [w_ok, w_exc, w_C, w_bin, w_neg, w_and, w_or, w_not, w_ifE, w_args0, w_args, w_tup, w_lst, w_new, w_call, w_isI, w_chain, w_opt0, w_opt, w_sl, w_st, w_methL, w_methS, on_bl, ot_bl, w_add, w_addT, w_addL, w_addS, w_sub, w_mul, w_mod, w_div, w_pow, w_lt, w_le, w_gt, w_ge, w_eq, w_ne, w_eqB, w_neB, w_isB, w_isNB, w_lenT, w_lenL, w_tupL, w_tupT, w_listT, w_listL, w_ixT, w_ixL, w_slT, w_slL, w_stT, w_seq, w_skip, w_asg, w_asgT, w_expr, w_ret, w_sIf, w_raise, w_for, w_set, w_try, w_pick0, w_pick, w_fld, w_methO, w_make, w_fldS, items_live, items_multi, ii_list_str, ii_str_lst, w_isNN, w_isIN, w_isTN, w_isSN, w_inNN, w_inTN, decide_true, decide_false,
  mVar_app, List.getElem?_cons_zero, List.getElem?_cons_succ, List.set_cons_zero, List.set_cons_succ, startD, List.map_cons, List.map_nil, List.length_cons, List.length_nil, List.length_map, Nat.zero_add, Nat.reduceAdd, Nat.reduceSub, List.replicate, List.cons_append, List.nil_append, gTupV_app, gVars_nil, gVars_cons, gVar_app, Option.some.injEq, exists_eq_left', wipeD_nil, wipeD_cons, atI0, atI1, atI2,
  decide_eq_true_eq, decide_eq_false_iff_not, Bool.not_eq_true', Bool.not_eq_false', Int.reduceLT, Int.reduceLE, Int.reduceAdd, Int.reduceMul, Int.reduceSub, Int.reduceNeg, true_and, and_true, Bool.true_eq_false, Bool.false_eq_true, false_implies, implies_true, true_implies, Nat.reduceLeDiff, fz_same, ii_int_int, ii_bool_int, ii_int_bl, ii_bool_bl, ii_tuple_tup, ii_str_str, ii_list_lst, ii_list_tup, ii_tuple_lst, ii_tuple_int, ii_list_int, ii_str_int, ii_str_tup, ii_int_str, ii_int_tup, ii_int_lst, ii_int_non, ii_bool_str, ii_tuple_str, ii_tuple_non, ii_list_non, ii_str_non, not_true_eq_false, not_false_eq_true, holds_vals, items_vals, eq_self])
-- s2
/-- a disk with its cells -/
structure Dk (T : Sto) (l lo l0 l1 p : Nat) (A : Cells) : Prop where
  d : DiskAt T l lo l0 l1 p
  a0 : T[l0]? = some (.lst (A.1.map cellD))
  a1 : T[l1]? = some (.lst (A.2.map cellD))
/-- two lists of cells of the law's own -/
structure Cl (T : Sto) (mo m0 m1 : Nat) (A : Cells) : Prop where
  t : TwoAt T mo m0 m1
  a0 : T[m0]? = some (.lst (A.1.map cellD))
  a1 : T[m1]? = some (.lst (A.2.map cellD))
/-- other at two places alone -/
def Upd (T T' : Sto) (j0 j1 : Nat) : Prop := T'.length = T.length ∧ ∀ j, j ≠ j0 → j ≠ j1 → T'[j]? = T[j]?
section
variable {T T' : Sto} {l lo l0 l1 p mo m0 m1 n j0 j1 : Nat} {A B : Cells}
theorem Dk.lt (h : Dk T l lo l0 l1 p A) : l < T.length ∧ lo < T.length ∧ l0 < T.length ∧ l1 < T.length := ⟨(List.getElem?_eq_some_iff.mp h.d.ins).1, (List.getElem?_eq_some_iff.mp h.d.out).1, h.d.b0, h.d.b1⟩
theorem Cl.lt (h : Cl T mo m0 m1 A) : mo < T.length ∧ m0 < T.length ∧ m1 < T.length := ⟨(List.getElem?_eq_some_iff.mp h.t.out).1, h.t.b0, h.t.b1⟩
theorem Dk.keep (h : Dk T l lo l0 l1 p A) (hl : T.length ≤ T'.length) (k : ∀ j, j = l ∨ j = lo ∨ j = l0 ∨ j = l1 → T'[j]? = T[j]?) : Dk T' l lo l0 l1 p A :=
  ⟨⟨⟨by rw [k _ (.inr (.inl rfl))]; exact h.d.out, h.d.n01, h.d.no0, h.d.no1, by have := h.d.b0; omega, by have := h.d.b1; omega⟩, by rw [k _ (.inl rfl)]; exact h.d.ins, h.d.nl0, h.d.nl1⟩, by rw [k _ (.inr (.inr (.inl rfl)))]; exact h.a0, by rw [k _ (.inr (.inr (.inr rfl)))]; exact h.a1⟩
theorem Cl.keep (h : Cl T mo m0 m1 A) (hl : T.length ≤ T'.length) (k : ∀ j, j = mo ∨ j = m0 ∨ j = m1 → T'[j]? = T[j]?) : Cl T' mo m0 m1 A :=
  ⟨⟨by rw [k _ (.inl rfl)]; exact h.t.out, h.t.n01, h.t.no0, h.t.no1, by have := h.t.b0; omega, by have := h.t.b1; omega⟩, by rw [k _ (.inr (.inl rfl))]; exact h.a0, by rw [k _ (.inr (.inr rfl))]; exact h.a1⟩
theorem Dk.grow (h : Dk T l lo l0 l1 p A) (g : Grow T T') : Dk T' l lo l0 l1 p A := ⟨h.d.grow g, g.get h.a0, g.get h.a1⟩
theorem Cl.grow (h : Cl T mo m0 m1 A) (g : Grow T T') : Cl T' mo m0 m1 A := ⟨h.t.grow g, g.get h.a0, g.get h.a1⟩
theorem Dk.upd (h : Dk T l lo l0 l1 p A) (g : Upd T T' j0 j1) (k : ∀ j, j = l ∨ j = lo ∨ j = l0 ∨ j = l1 → j ≠ j0 ∧ j ≠ j1) : Dk T' l lo l0 l1 p A := h.keep (by rw [g.1]; omega) fun j hj => g.2 j (k j hj).1 (k j hj).2
theorem Cl.upd (h : Cl T mo m0 m1 A) (g : Upd T T' j0 j1) (k : ∀ j, j = mo ∨ j = m0 ∨ j = m1 → j ≠ j0 ∧ j ≠ j1) : Cl T' mo m0 m1 A := h.keep (by rw [g.1]; omega) fun j hj => g.2 j (k j hj).1 (k j hj).2
theorem GrAt.upd {G : Nat} {gs : List (List Put)} (h : GrAt T G gs) (g : Upd T T' j0 j1) (k0 : j0 < G) (k1 : j1 < G) : GrAt T' G gs :=
  ⟨by rw [g.2 _ (by omega) (by omega)]; exact h.out, fun k x hx => by have := rf_ge G k; rw [g.2 _ (by omega) (by omega)]; exact h.at_ k x hx⟩
theorem upd_two : Upd T (two T j0 j1 B) j0 j1 := ⟨two_len _ _ _ _, fun _ h0 h1 => two_ne h0 h1⟩
theorem upd0 {o : SO} : Upd T (T.set 0 o) 0 0 := ⟨by simp, fun j h _ => List.getElem?_set_ne (Ne.symm h)⟩
theorem Dk.two (h : Dk T l lo l0 l1 p A) : Dk (two T l0 l1 B) l lo l0 l1 p B := ⟨h.d.in2 h.d.no0 h.d.no1 h.d.nl0 h.d.nl1, two_at0 h.d.n01 h.d.b0, two_at1 h.d.b1⟩
theorem Cl.two (h : Cl T mo m0 m1 A) : Cl (two T m0 m1 B) mo m0 m1 B := ⟨h.t.in2 h.t.no0 h.t.no1, two_at0 h.t.n01 h.t.b0, two_at1 h.t.b1⟩
theorem Dk.obj {m : Str} (h : Dk T l lo l0 l1 p A) (hm : m ≠ sPlaces) (hm2 : m ≠ sCopies) : isObj sDisk m (.ref l) T = true := by
  have := isObj_two (A := A) (m := m) h.d hm hm2
  rwa [two_same h.a0 h.a1] at this
/-! what is done at a disk -/
theorem Dk.write {f : List D → Sto → R D} (hf : WriteOk f) (h : Dk T l lo l0 l1 p A) {q : Put} (hA : Cells.Of n A) (hq : q.Ok n) (hn : n ≤ 1000) : f [.ref l, .int (q.copy : Int), .int (q.spot : Int), .tup (q.con.map .int)] T = .ok .non (MI.two T l0 l1 (app A q)) := by
  have := hf T l lo l0 l1 p n A q h.d hA hq hn
  rwa [two_same h.a0 h.a1] at this
def RotOk (f : List D → Sto → R D) : Prop := ∀ (st : Sto) (l lo l0 l1 p n c s : Nat) (A : Cells) (x : Cell), DiskAt st l lo l0 l1 p → Cells.Of n A → c < 2 → s < n → n ≤ 1000 → f [.ref l, .int (c : Int), .int (s : Int), cellD x] (MI.two st l0 l1 A) = .ok .non (MI.two st l0 l1 (setC A c s x))
theorem Dk.rot {f : List D → Sto → R D} (hf : RotOk f) (h : Dk T l lo l0 l1 p A) {c s : Nat} {x : Cell} (hA : Cells.Of n A) (hc : c < 2) (hs : s < n) (hn : n ≤ 1000) : f [.ref l, .int (c : Int), .int (s : Int), cellD x] T = .ok .non (MI.two T l0 l1 (setC A c s x)) := by
  have := hf T l lo l0 l1 p n c s A x h.d hA hc hs hn
  rwa [two_same h.a0 h.a1] at this
/-- Disk.rot(self, copy, spot, cell); slots: 0 self, 1 copy, 2 spot, 3 cell -/
noncomputable def g_Disk_rot (fk : Str → Str → Bool) (Ph : Nat → List D → Sto → R D) : MS := (sSeq (sSet (mBin opIx (mFld (fk "copies") "copies" (mVar 0)) (mVar 1)) (mVar 2) (mVar 3))
  sSkip)
theorem rot_ok {Ph : Nat → List D → Sto → R D} {fk : Str → Str → Bool} (hf : fk sCopies sDisk = true) : RotOk (runDef ⟨4, 4, true, g_Disk_rot fk⟩ Ph) := fun st l lo l0 l1 p n c s A x hd hA hc hs hn => by
  refine def_unit rfl rfl (by rw [two_len, two_len]) ?_
  unfold g_Disk_rot
  trivial
  have hl : (MI.two st l0 l1 A)[l]? = some (diskO p lo) := by rw [two_ne hd.nl0 hd.nl1]; exact hd.ins
  obtain ⟨s1, s2⟩ := set_twoC (x := x) hd.toTwoAt hA hc hs hn
  rw [getFld_at (d := .ref lo) hl hf rfl]
  trivial
  rw [s1]
  trivial
  rw [s2]
  trivial
/-- a cell of the law's own set -/
theorem Cl.set {c s : Nat} {x : Cell} (h : Cl T mo m0 m1 A) (hA : Cells.Of n A) (hc : c < 2) (hs : s < n) (hn : n ≤ 1000) : opIx (.ref mo) (.int (c : Int)) T = .ok (.ref (slotC c m0 m1)) T ∧ setAt (.ref (slotC c m0 m1)) (.int (s : Int)) (cellD x) T = .ok () (MI.two T m0 m1 (setC A c s x)) := by
  have := set_twoC (x := x) h.t hA hc hs hn
  rwa [two_same h.a0 h.a1] at this
theorem Dk.twin {f : List D → Sto → R D} (hf : TwinOk f) (h : Dk T l lo l0 l1 p A) (hp : p ≤ 900) : f [.ref l] T = .ok (.ref T.length) (T ++ twn T.length p A) ∧ Dk (T ++ twn T.length p A) T.length (T.length + 8) (T.length + 6) (T.length + 7) p A := by
  obtain ⟨x, y, z⟩ := twn_disk T p A
  exact ⟨hf T l lo l0 l1 p A h.d h.a0 h.a1 hp, x, y, z⟩
theorem Dk.cut {f : List D → Sto → R D} (hf : CutOk f) {ss : List MI.Step} {g : Nat} {ks : List Nat} (h : Dk T l lo l0 l1 p A) (hA : Cells.Of n A) (hs : ∀ q, some q ∈ ss → Put.Ok n q) (hn : n ≤ 1000) (hl : ss.length ≤ 1000) (hgl : g < (groups ss).length) (hk : ∀ k ∈ ks, k < ((groups ss).getD g []).length) (hkl : ks.length ≤ 1000) :
    f [.ref l, .lst (ss.map stepD), .int (g : Int), .lst (natsD ks)] T = .ok .non (MI.two (T ++ gst T.length (groups ss)) l0 l1 (cutF A (groups ss) g ks)) := by
  have e := hf T l lo l0 l1 p n A ss g ks h.d hA hs hn hl hgl hk hkl
  rwa [two_same h.a0 h.a1] at e
theorem Dk.dos {f : List D → Sto → R D} (hf : DoStepsOk f) {ss : List MI.Step} (h : Dk T l lo l0 l1 p A) (hA : Cells.Of n A) (hs : ∀ q, some q ∈ ss → Put.Ok n q) (hn : n ≤ 1000) (hl : ss.length ≤ 1000) :
    f [.ref l, .lst (ss.map stepD)] T = .ok .non (MI.two (T ++ gst T.length (groups ss)) l0 l1 ((ss.filterMap id).foldl MI.app A)) := by
  have e := hf T l lo l0 l1 p n A ss h.d hA hs hn hl
  rwa [two_same h.a0 h.a1] at e
theorem Dk.has {f : List D → Sto → R D} (hf : HasOk f) (h : Dk T l lo l0 l1 p A) (hc : Cl T mo m0 m1 A) (hA : Cells.Of n A) (hn : n ≤ 1000) : f [.ref l, .ref mo] T = .ok (.bl true) T := hf T l lo l0 l1 p mo m0 m1 n A h.d h.a0 h.a1 hc.t hc.a0 hc.a1 hA hn
/-- a new disk; new cells behind it -/
theorem dk_new (st : Sto) (p : Nat) : Dk (st ++ dsk st.length p) st.length (st.length + 5) (st.length + 2) (st.length + 4) p (blank (p + 4)) := by
  have g : ∀ (k : Nat) (o : SO), (dsk st.length p)[k]? = some o → (st ++ dsk st.length p)[st.length + k]? = some o := fun k o h => by
    rw [List.getElem?_append_right (by omega), Nat.add_sub_cancel_left]
    exact h
  have hb : ∀ n, (SO.lst ((List.replicate n noC).map cellD)) = blanks n := fun n => by rw [blank_map]; rfl
  have hlen : (st ++ dsk st.length p).length = st.length + 6 := by simp [dsk]
  exact ⟨⟨⟨g 5 _ rfl, by omega, by omega, by omega, by rw [hlen]; omega, by rw [hlen]; omega⟩, g 0 _ rfl, by omega, by omega⟩, (g 2 _ rfl).trans (by rw [← hb]; rfl), (g 4 _ rfl).trans (by rw [← hb]; rfl)⟩
theorem cl_new (st : Sto) (n : Nat) : Cl (st ++ cls0 st.length n) (st.length + 4) (st.length + 1) (st.length + 3) (blank n) := by
  have g : ∀ (k : Nat) (o : SO), (cls0 st.length n)[k]? = some o → (st ++ cls0 st.length n)[st.length + k]? = some o := fun k o h => by
    rw [List.getElem?_append_right (by omega), Nat.add_sub_cancel_left]
    exact h
  have hb : ∀ n, (SO.lst ((List.replicate n noC).map cellD)) = blanks n := fun n => by rw [blank_map]; rfl
  have hlen : (st ++ cls0 st.length n).length = st.length + 5 := by simp [cls0]
  exact ⟨⟨g 4 _ rfl, by omega, by omega, by omega, by rw [hlen]; omega, by rw [hlen]; omega⟩, (g 1 _ rfl).trans (by rw [← hb]; rfl), (g 3 _ rfl).trans (by rw [← hb]; rfl)⟩
end
end MI
namespace LK55
open PySem PySem.Spec PyProof.Rows L2 MX MI
local macro_rules | `(tactic| trivial) => `(tactic| simp only [w_ok, w_exc, w_C, w_bin, w_neg, w_and, w_or, w_not, w_ifE, w_args0, w_args, w_tup, w_lst, w_new, w_call, w_isI, w_chain, w_opt0, w_opt, w_sl, w_st, w_methL, w_methS, on_bl, ot_bl, w_add, w_addT, w_addL, w_addS, w_sub, w_mul, w_mod, w_div, w_pow, w_lt, w_le, w_gt, w_ge, w_eq, w_ne, w_eqB, w_neB, w_isB, w_isNB, w_lenT, w_lenL, w_tupL, w_tupT, w_listT, w_listL, w_ixT, w_ixL, w_slT, w_slL, w_stT, w_seq, w_skip, w_asg, w_asgT, w_expr, w_ret, w_sIf, w_raise, w_for, w_set, w_try, w_pick0, w_pick, w_fld, w_methO, w_make, w_fldS, items_live, items_multi, ii_list_str, ii_str_lst, w_isNN, w_isIN, w_isTN, w_isSN, w_inNN, w_inTN, decide_true, decide_false,
  mVar_app, List.getElem?_cons_zero, List.getElem?_cons_succ, List.set_cons_zero, List.set_cons_succ, startD, List.map_cons, List.map_nil, List.length_cons, List.length_nil, List.length_map, Nat.zero_add, Nat.reduceAdd, Nat.reduceSub, List.replicate, List.cons_append, List.nil_append, gTupV_app, gVars_nil, gVars_cons, gVar_app, Option.some.injEq, exists_eq_left', wipeD_nil, wipeD_cons, atI0, atI1, atI2,
  decide_eq_true_eq, decide_eq_false_iff_not, Bool.not_eq_true', Bool.not_eq_false', Int.reduceLT, Int.reduceLE, Int.reduceAdd, Int.reduceMul, Int.reduceSub, Int.reduceNeg, true_and, and_true, Bool.true_eq_false, Bool.false_eq_true, false_implies, implies_true, true_implies, Nat.reduceLeDiff, fz_same, ii_int_int, ii_bool_int, ii_int_bl, ii_bool_bl, ii_tuple_tup, ii_str_str, ii_list_lst, ii_list_tup, ii_tuple_lst, ii_tuple_int, ii_list_int, ii_str_int, ii_str_tup, ii_int_str, ii_int_tup, ii_int_lst, ii_int_non, ii_bool_str, ii_tuple_str, ii_tuple_non, ii_list_non, ii_str_non, not_true_eq_false, not_false_eq_true, holds_vals, items_vals, eq_self])
-- s2
theorem cell_ok {Ph : Nat → List D → Sto → R D} : CellOk (runDef d__law_cell Ph) := fun s c st => by
  refine def_pure rfl rfl ?_
  unfold d__law_cell b__law_cell
  trivial
  have hi : iSeq (mVar 1) [some (.int (s : Int)), some (.tup (c.map .int)), some (.int ((s : Int) + 1)), none] st = .ok (.vals (c.map .int)) st := rfl
  rw [hi]
  trivial
  refine for_wp (fun k env t => ∃ e, env = [some (.int (s : Int)), some (.tup (c.map .int)), some (.int ((c.take k).foldl (fun a n => (a * 65599 + n + 1) % 2147483647) ((s : Int) + 1))), e] ∧ t = st) _ ⟨none, by simp, rfl⟩ ?_ ?_
  · rintro k d env t hk ⟨e, rfl, rfl⟩
    rw [List.getElem?_map] at hk
    obtain ⟨n, hn, rfl⟩ := Option.map_eq_some_iff.mp hk
    refine ⟨_, rfl, ?_⟩
    trivial
    refine ⟨mul_small (by decide) (by decide), some (.int n), ?_⟩
    rw [List.take_succ, hn]
    simp [List.foldl_append]
  · rintro env t ⟨e, rfl, rfl⟩
    trivial
    simp [MI.sumZ, cellD, rightC]
def PutOk (f : List D → Sto → R D) : Prop := ∀ (st : Sto) (ds : List Int) (n : Nat), st[0]? = some (.lst (ds.map .int)) → InD ds → 3 ≤ n → n ≤ 100 → ∃ (q : Put) (ds' : List Int), q.Ok n ∧ InD ds' ∧ f [.ref 0, .int (n : Int)] st = .ok q.d (st.set 0 (.lst (ds'.map .int)))
theorem put_ok {Ph : Nat → List D → Sto → R D} (hn : NextOk (Ph 11)) (hc : ContDrawOk (Ph 15)) : PutOk (runDef d__law_put Ph) := fun st ds n hs hd n3 n100 => by
  obtain ⟨z, ds1, z0, z1, h1, e1⟩ := hn 0 st ds hs hd
  have hs1 : (st.set 0 (SO.lst (ds1.map .int)))[0]? = some (.lst (ds1.map .int)) := at0_set hs
  obtain ⟨con, ds2, c2, h2, e2⟩ := hc _ ds1 hs1 h1
  rw [List.set_set] at e2
  have hn0 : 0 ≤ z / 2 % (n : Int) := Int.emod_nonneg _ (by omega)
  have hn1 : z / 2 % (n : Int) < n := Int.emod_lt_of_pos _ (by omega)
  obtain ⟨d, hd2, hm⟩ := atI_int (xs := [D.int (z / 2 % (n : Int)), D.int (z / 2 % 3)]) (i := z / 64 % 2) (by omega) (by show z / 64 % 2 < 2; omega)
  have hm := List.mem_of_getElem? hm
  simp only [List.mem_cons, List.not_mem_nil, or_false] at hm
  obtain ⟨sp, hsp, rfl⟩ : ∃ sp : Nat, sp < n ∧ d = .int (sp : Int) := by
    rcases hm with rfl | rfl
    · exact ⟨(z / 2 % (n : Int)).toNat, by omega, by rw [Int.toNat_of_nonneg hn0]⟩
    · exact ⟨(z / 2 % 3).toNat, by omega, by rw [Int.toNat_of_nonneg (by omega)]⟩
  refine ⟨⟨(z % 2).toNat, sp, con⟩, ds2, ⟨by show (z % 2).toNat < 2; omega, hsp⟩, h2, ?_⟩
  have key : (runDef d__law_put Ph [.ref 0, .int (n : Int)] st).wp (fun v t => v = (⟨(z % 2).toNat, sp, con⟩ : Put).d ∧ t = st.set 0 (.lst (ds2.map .int))) nX := by
    refine def_wp rfl rfl ?_
    unfold d__law_put b__law_put
    trivial
    rw [e1]
    trivial
    refine ⟨divOkP (by decide) (by decide), by omega, divOkP (by decide) (by decide), divOkP (by decide) (by decide), _, hd2, ?_⟩
    rw [e2]
    trivial
    rw [fz_same (by simp)]
    simp only [Put.d]
    rw [Int.toNat_of_nonneg (by omega)]
    trivial
  obtain ⟨v, t, e, rfl, rfl⟩ := key.get
  exact e
theorem steps_ok {Ph : Nat → List D → Sto → R D} (hn : NextOk (Ph 11)) (hp : PutOk (Ph 16)) : StepsOk (runDef d__law_steps Ph) := fun st ds n hs hd n3 n100 => by
  have hpos : 0 < st.length := (List.getElem?_eq_some_iff.mp hs).1
  have key : (runDef d__law_steps Ph [.ref 0, .int (n : Int)] st).wp (fun v t => ∃ (ss : List MI.Step) (ds' : List Int), ss.length ≤ 24 ∧ (∀ q, some q ∈ ss → Put.Ok n q) ∧ InD ds' ∧ v = .lst (ss.map stepD) ∧ t = st.set 0 (.lst (ds'.map .int))) nX := by
    refine def_wp rfl rfl ?_
    unfold d__law_steps b__law_steps
    trivial
    obtain ⟨y, ds1, y0, y1, h1, e1⟩ := hn 0 (st ++ [.lst []]) ds (by rw [List.getElem?_append_left hpos]; exact hs) hd
    rw [set0_app hpos] at e1
    have hr : iRange1 (mBin opMod (mCall (Ph 11) [mVar 0]) (mC (.int 21))) [some (.ref 0), some (.int (n : Int)), some (.ref st.length), none] (st ++ [.lst []]) = .ok (.vals (rangeD 0 (y % 21).toNat)) (st.set 0 (.lst (ds1.map .int)) ++ [.lst []]) := by
      refine iRange1_int (R.wp.eq ?_) (by omega) (by omega)
      trivial
      rw [e1]
      trivial
    rw [hr]
    trivial
    refine for_wp (fun k env t => ∃ (a : Option D) (ss : List MI.Step) (ds2 : List Int), ss.length ≤ k ∧ (∀ q, some q ∈ ss → Put.Ok n q) ∧ InD ds2 ∧ env = [some (.ref 0), some (.int (n : Int)), some (.ref st.length), a] ∧ t = st.set 0 (.lst (ds2.map .int)) ++ [.lst (ss.map stepD)]) _ ⟨none, [], ds1, by simp, by simp, h1, rfl, rfl⟩ ?_ ?_
    · rintro k d env t hk ⟨a, ss, ds2, i1, i2, i3, rfl, rfl⟩
      obtain ⟨hk1, rfl⟩ := rangeD_at hk
      have hpos2 : 0 < (st.set 0 (.lst (ds2.map .int))).length := by simpa using hpos
      obtain ⟨z, ds3, z0, z1, h3, e3⟩ := hn 0 (st.set 0 (.lst (ds2.map .int)) ++ [.lst (ss.map stepD)]) ds2 (by rw [List.getElem?_append_left hpos2]; exact at0_set hs) i3
      rw [set0_app hpos2, List.set_set] at e3
      have hL : (st.set 0 (.lst (ds3.map .int))).length = st.length := by simp
      refine ⟨_, rfl, ?_⟩
      trivial
      rw [e3]
      trivial
      refine ⟨fun h4 => ?_, fun h4 => ?_⟩
      · rw [← hL]
        refine ⟨isl_last, ?_⟩
        have ea : mAppend (.ref (st.set 0 (.lst (ds3.map .int))).length) [.tup [.str sLine]] (st.set 0 (.lst (ds3.map .int)) ++ [.lst (ss.map stepD)]) = .ok .non (st.set 0 (.lst (ds3.map .int)) ++ [.lst (ss.map stepD ++ [.tup [.str sLine]])]) := by
          rw [app_ref (last_at _ _) (by simp; omega), set_last]
        rw [ea]
        trivial
        refine ⟨_, ss ++ [none], ds3, by simp; omega, fun q hq => i2 q (by simpa using hq), h3, rfl, by simp [stepD]⟩
      · rw [← hL]
        refine ⟨isl_last, ?_⟩
        have hpos3 : 0 < (st.set 0 (.lst (ds3.map .int))).length := by simpa using hpos
        obtain ⟨q, ds4, q4, h4', e4⟩ := hp (st.set 0 (.lst (ds3.map .int)) ++ [.lst (ss.map stepD)]) ds3 n (by rw [List.getElem?_append_left hpos3]; exact at0_set hs) h3 n3 n100
        rw [set0_app hpos3, List.set_set] at e4
        rw [e4]
        trivial
        have hL4 : (st.set 0 (.lst (ds3.map .int))).length = (st.set 0 (.lst (ds4.map .int))).length := by simp
        rw [hL4]
        have ea : mAppend (.ref (st.set 0 (.lst (ds4.map .int))).length) [q.d] (st.set 0 (.lst (ds4.map .int)) ++ [.lst (ss.map stepD)]) = .ok .non (st.set 0 (.lst (ds4.map .int)) ++ [.lst (ss.map stepD ++ [q.d])]) := by
          rw [app_ref (last_at _ _) (by simp; omega), set_last]
        rw [ea]
        trivial
        refine ⟨_, ss ++ [some q], ds4, by simp; omega, fun r hr => ?_, h4', rfl, by simp [stepD]⟩
        rcases List.mem_append.mp hr with hr | hr
        · exact i2 r hr
        · simp at hr
          subst hr
          exact q4
    · rintro env t ⟨a, ss, ds2, i1, i2, i3, rfl, rfl⟩
      trivial
      rw [frz_steps]
      trivial
      refine ⟨ss, ds2, ?_, i2, i3, rfl, rfl⟩
      rw [rangeD_len] at i1
      omega
  obtain ⟨v, t, e, ss, ds', a, b, c, rfl, rfl⟩ := key.get
  exact ⟨ss, ds', a, b, c, e⟩
theorem kept_ok {Ph : Nat → List D → Sto → R D} (hn : NextOk (Ph 11)) : KeptOk (runDef d__law_kept Ph) := fun st ds many hs hd hm => by
  have hpos : 0 < st.length := (List.getElem?_eq_some_iff.mp hs).1
  have key : (runDef d__law_kept Ph [.ref 0, .int (many : Int)] st).wp (fun v t => ∃ (ks : List Nat) (ds' : List Int), (∀ k ∈ ks, k < many) ∧ ks.length ≤ many ∧ InD ds' ∧ v = .lst (natsD ks) ∧ t = st.set 0 (.lst (ds'.map .int))) nX := by
    refine def_wp rfl rfl ?_
    unfold d__law_kept b__law_kept
    trivial
    have hb : bRangeLN [.int (many : Int)] st = .ok (.ref st.length) (st ++ [.lst (natsD (List.range many))]) := by
      unfold bRangeLN
      simp only
      rw [if_pos ⟨by omega, by omega⟩, Int.toNat_natCast, rangeD_nats]
    rw [hb]
    trivial
    have e0 : (st ++ [SO.lst (natsD (List.range many))]).length = st.length + 1 := by simp
    rw [e0, List.append_assoc]
    have nx : ∀ (S : Sto) (ds : List Int), st[0]? = some (.lst (ds.map .int)) ∨ True → InD ds → ∃ (y : Int) (ds' : List Int), 0 ≤ y ∧ y < 2147483629 ∧ InD ds' ∧ Ph 11 [.ref 0] (st.set 0 (.lst (ds.map .int)) ++ S) = .ok (.int y) (st.set 0 (.lst (ds'.map .int)) ++ S) := fun S ds _ hd => by
      have hpos2 : 0 < (st.set 0 (.lst (ds.map .int))).length := by simpa using hpos
      obtain ⟨z, ds3, z0, z1, h3, e3⟩ := hn 0 (st.set 0 (.lst (ds.map .int)) ++ S) ds (by rw [List.getElem?_append_left hpos2]; exact at0_set hs) hd
      rw [set0_app hpos2, List.set_set] at e3
      exact ⟨z, ds3, z0, z1, h3, e3⟩
    have hst : st = st.set 0 (.lst (ds.map .int)) := by
      obtain ⟨b, e⟩ := List.getElem?_eq_some_iff.mp hs
      rw [← e, List.set_getElem_self]
    have hr : ∃ (c : Nat) (ds1 : List Int), c ≤ many ∧ InD ds1 ∧ iRange1 (mBin opIx (mLst [(mC (.int 0)), (mVar 1), (mBin opMod (mCall (Ph 11) [(mVar 0)]) (mBin opAdd (mVar 1) (mC (.int 1))))]) (mBin opMod (mCall (Ph 11) [(mVar 0)]) (mC (.int 3)))) [some (.ref 0), some (.int (many : Int)), some (.ref st.length), some (.ref (st.length + 1)), none] (st ++ ([.lst (natsD (List.range many))] ++ [.lst []])) = .ok (.vals (rangeD 0 c)) (st.set 0 (.lst (ds1.map .int)) ++ [.lst (natsD (List.range many)), .lst []]) := by
      obtain ⟨y, ds1, y0, y1, h1, e1⟩ := nx [.lst (natsD (List.range many)), .lst []] ds (.inr True.intro) hd
      obtain ⟨z, ds2, z0, z1, h2, e2⟩ := nx [.lst (natsD (List.range many)), .lst []] ds1 (.inr True.intro) h1
      rw [← hst] at e1
      have hmod0 : 0 ≤ y % ((many : Int) + 1) := Int.emod_nonneg _ (by omega)
      have hmod1 : y % ((many : Int) + 1) < many + 1 := Int.emod_lt_of_pos _ (by omega)
      obtain ⟨d, hd2, hmem⟩ := atI_int (xs := [D.int 0, D.int (many : Int), D.int (y % ((many : Int) + 1))]) (i := z % 3) (by omega) (by show z % 3 < 3; omega)
      have hmem := List.mem_of_getElem? hmem
      simp only [List.mem_cons, List.not_mem_nil, or_false] at hmem
      obtain ⟨c, hc, rfl⟩ : ∃ c : Nat, c ≤ many ∧ d = .int (c : Int) := by
        rcases hmem with rfl | rfl | rfl
        · exact ⟨0, by omega, rfl⟩
        · exact ⟨many, by omega, rfl⟩
        · exact ⟨(y % ((many : Int) + 1)).toNat, by omega, by rw [Int.toNat_of_nonneg hmod0]⟩
      refine ⟨c, ds2, hc, h2, iRange1_nat (R.wp.eq ?_) (by omega)⟩
      trivial
      have e1' : Ph 11 [.ref 0] (st ++ [.lst (natsD (List.range many)), .lst []]) = _ := e1
      rw [e1']
      trivial
      refine ⟨by omega, ?_⟩
      rw [e2]
      trivial
      exact ⟨_, hd2, rfl⟩
    obtain ⟨c, ds1, hc, h1, er⟩ := hr
    rw [er]
    trivial
    refine for_wp (fun k env t => ∃ (x : Option D) (ls ks : List Nat) (ds2 : List Int), ls.length + k = many ∧ ks.length = k ∧ (∀ j ∈ ls, j < many) ∧ (∀ j ∈ ks, j < many) ∧ InD ds2 ∧ env = [some (.ref 0), some (.int (many : Int)), some (.ref st.length), some (.ref (st.length + 1)), x] ∧ t = st.set 0 (.lst (ds2.map .int)) ++ [.lst (natsD ls), .lst (natsD ks)]) _ ⟨none, List.range many, [], ds1, by simp, rfl, by simp, by simp, h1, rfl, rfl⟩ ?_ ?_
    · rintro k d env t hk ⟨x, ls, ks, ds2, i1, i2, i3, i4, i5, rfl, rfl⟩
      obtain ⟨hk1, rfl⟩ := rangeD_at hk
      obtain ⟨y, ds3, y0, y1, h3, e3⟩ := nx [.lst (natsD ls), .lst (natsD ks)] ds2 (.inr True.intro) i5
      have hlen : ∀ ds : List Int, (st.set 0 (SO.lst (ds.map .int))).length = st.length := fun ds => by simp
      have g1 : ∀ ds : List Int, (st.set 0 (SO.lst (ds.map .int)) ++ [SO.lst (natsD ls), SO.lst (natsD ks)])[st.length]? = some (.lst (natsD ls)) := fun ds => by
        rw [List.getElem?_append_right (by rw [hlen]; omega), hlen, Nat.sub_self]; rfl
      have g2 : ∀ (ds : List Int) (o : SO), (st.set 0 (SO.lst (ds.map .int)) ++ [o, SO.lst (natsD ks)])[st.length + 1]? = some (.lst (natsD ks)) := fun ds o => by
        rw [List.getElem?_append_right (by rw [hlen]; omega), hlen, Nat.add_sub_cancel_left]; rfl
      refine ⟨_, rfl, ?_⟩
      trivial
      refine ⟨isLst_ref (g2 ds2 _), isLst_ref (g1 ds2), ?_⟩
      rw [e3]
      trivial
      rw [len_ref (g1 ds3)]
      trivial
      have hll : (natsD ls).length = ls.length := by simp [natsD]
      have m0 : 0 ≤ y % (ls.length : Int) := Int.emod_nonneg _ (by omega)
      have m1 : y % (ls.length : Int) < ls.length := Int.emod_lt_of_pos _ (by omega)
      rw [hll]
      refine ⟨by omega, ?_⟩
      obtain ⟨j, hj, ep⟩ := pop_nats (g1 ds3) m0 m1 (by omega)
      rw [ep]
      trivial
      have es : (st.set 0 (SO.lst (ds3.map .int)) ++ [SO.lst (natsD ls), SO.lst (natsD ks)]).set st.length (SO.lst (natsD (ls.eraseIdx (y % (ls.length : Int)).toNat))) = st.set 0 (SO.lst (ds3.map .int)) ++ [SO.lst (natsD (ls.eraseIdx (y % (ls.length : Int)).toNat)), SO.lst (natsD ks)] := by
        rw [List.set_append_right _ _ (by rw [hlen]; omega), hlen, Nat.sub_self]; rfl
      rw [es, app_ref (g2 ds3 _) (by simp [natsD]; omega)]
      trivial
      have es2 : (st.set 0 (SO.lst (ds3.map .int)) ++ [SO.lst (natsD (ls.eraseIdx (y % (ls.length : Int)).toNat)), SO.lst (natsD ks)]).set (st.length + 1) (SO.lst (natsD ks ++ [D.int (j : Int)])) = st.set 0 (SO.lst (ds3.map .int)) ++ [SO.lst (natsD (ls.eraseIdx (y % (ls.length : Int)).toNat)), SO.lst (natsD (ks ++ [j]))] := by
        rw [List.set_append_right _ _ (by rw [hlen]; omega), hlen, Nat.add_sub_cancel_left]
        simp [natsD]
      rw [es2]
      refine ⟨some (.int (0 + (k : Int))), ls.eraseIdx (y % (ls.length : Int)).toNat, ks ++ [j], ds3, ?_, by simp [i2], fun a ha => i3 a (List.mem_of_mem_eraseIdx ha), fun a ha => ?_, h3, rfl, rfl⟩
      · rw [List.length_eraseIdx_of_lt (by omega)]; omega
      · rcases List.mem_append.mp ha with ha | ha
        · exact i4 a ha
        · rw [List.mem_singleton.mp ha]; exact i3 j hj
    · rintro env t ⟨x, ls, ks, ds2, i1, i2, i3, i4, i5, rfl, rfl⟩
      trivial
      have hlen : (st.set 0 (SO.lst (ds2.map .int))).length = st.length := by simp
      have hfz : freeze st (.ref (st.length + 1)) (st.set 0 (.lst (ds2.map .int)) ++ [.lst (natsD ls), .lst (natsD ks)]) = .ok (.lst (natsD ks)) (st.set 0 (.lst (ds2.map .int))) := by
        refine freeze_ref hlen (by simp) (by rw [List.getElem?_append_right (by rw [hlen]; omega), hlen, Nat.add_sub_cancel_left]; rfl) (by omega) (fun i o hi ho => ?_) (belows_nats _ _)
        by_cases e : i = 0
        · subst e
          rw [List.getElem?_set_self hi] at ho
          cases ho
          exact .inr (belows_ints _ _)
        · rw [List.getElem?_set_ne (Ne.symm e)] at ho
          exact .inl ho
      rw [hfz]
      trivial
      refine ⟨ks, ds2, i4, ?_, i5, rfl, rfl⟩
      rw [rangeD_len] at i2
      omega
  obtain ⟨v, t, e, ks, ds', a, b, c, rfl, rfl⟩ := key.get
  exact ⟨ks, ds', a, b, c, e⟩
end LK55
namespace LK55
open PySem PySem.Spec PyProof.Rows L2 MX MI
local macro_rules | `(tactic| trivial) => `(tactic| simp only [w_ok, w_exc, w_C, w_bin, w_neg, w_and, w_or, w_not, w_ifE, w_args0, w_args, w_tup, w_lst, w_new, w_call, w_isI, w_chain, w_opt0, w_opt, w_sl, w_st, w_methL, w_methS, on_bl, ot_bl, w_add, w_addT, w_addL, w_addS, w_sub, w_mul, w_mod, w_div, w_pow, w_lt, w_le, w_gt, w_ge, w_eq, w_ne, w_eqB, w_neB, w_isB, w_isNB, w_lenT, w_lenL, w_tupL, w_tupT, w_listT, w_listL, w_ixT, w_ixL, w_slT, w_slL, w_stT, w_seq, w_skip, w_asg, w_asgT, w_expr, w_ret, w_sIf, w_raise, w_for, w_set, w_try, w_pick0, w_pick, w_fld, w_methO, w_make, w_fldS, items_live, items_multi, ii_list_str, ii_str_lst, w_isNN, w_isIN, w_isTN, w_isSN, w_inNN, w_inTN, decide_true, decide_false,
  mVar_app, List.getElem?_cons_zero, List.getElem?_cons_succ, List.set_cons_zero, List.set_cons_succ, startD, List.map_cons, List.map_nil, List.length_cons, List.length_nil, List.length_map, Nat.zero_add, Nat.reduceAdd, Nat.reduceSub, List.replicate, List.cons_append, List.nil_append, gTupV_app, gVars_nil, gVars_cons, gVar_app, Option.some.injEq, exists_eq_left', wipeD_nil, wipeD_cons, atI0, atI1, atI2,
  decide_eq_true_eq, decide_eq_false_iff_not, Bool.not_eq_true', Bool.not_eq_false', Int.reduceLT, Int.reduceLE, Int.reduceAdd, Int.reduceMul, Int.reduceSub, Int.reduceNeg, true_and, and_true, Bool.true_eq_false, Bool.false_eq_true, false_implies, implies_true, true_implies, Nat.reduceLeDiff, fz_same, ii_int_int, ii_bool_int, ii_int_bl, ii_bool_bl, ii_tuple_tup, ii_str_str, ii_list_lst, ii_list_tup, ii_tuple_lst, ii_tuple_int, ii_list_int, ii_str_int, ii_str_tup, ii_int_str, ii_int_tup, ii_int_lst, ii_int_non, ii_bool_str, ii_tuple_str, ii_tuple_non, ii_list_non, ii_str_non, not_true_eq_false, not_false_eq_true, holds_vals, items_vals, eq_self])
-- s2
theorem eq_ints (st : Sto) (n : Nat) (c : List Int) : EqD st (n + 1) (.tup (c.map .int)) (.tup (c.map .int)) := by
  refine .inr (.inl ⟨_, _, rfl, rfl, rfl, fun j a b h3 h4 => ?_⟩)
  rw [h3] at h4
  cases h4
  rw [List.getElem?_map] at h3
  obtain ⟨i, _, rfl⟩ := Option.map_eq_some_iff.mp h3
  cases n with
  | zero => exact .inl ⟨i, rfl, rfl⟩
  | succ n => exact .inl (.inl ⟨i, rfl, rfl⟩)
abbrev odds : List D := [.non, .int 7, .str (⟨#[97]⟩ : Str), .tup [.int 1, .int 2, .int 3], .tup [.int 0, .tup [.int 0]], .tup []]
theorem odd_cell {d : D} (h : d ∈ odds) : ∃ x : Cell, cellD x = d ∧ Pln 3 d := by
  simp only [odds, List.mem_cons, List.not_mem_nil, or_false] at h
  rcases h with rfl | rfl | rfl | rfl | rfl | rfl
  · exact ⟨noC, rfl, .non⟩
  · exact ⟨⟨.int 7, fun st => .inl (.inl ⟨_, rfl, rfl⟩)⟩, rfl, .int⟩
  · exact ⟨⟨.str (⟨#[97]⟩ : Str), fun st => .inl (.inr (.inl ⟨_, by decide +kernel, rfl, rfl⟩))⟩, rfl, .str (by decide +kernel)⟩
  · exact ⟨⟨_, fun st => eq_ints st 1 [1, 2, 3]⟩, rfl, .tup (.cons .int (.cons .int (.cons .int .nil)))⟩
  · exact ⟨⟨_, fun st => eq_pair st 0 [0]⟩, rfl, .tup (.cons .int (.cons (.tup (.cons .int .nil)) .nil))⟩
  · exact ⟨⟨_, fun st => eq_ints st 1 []⟩, rfl, .tup .nil⟩
theorem ne_pl {x y : D} (h1 : Pln 3 x) (h2 : Pln 3 y) (nx : ∀ st : Sto, deref st x = x) (ny : ∀ st : Sto, deref st y = y) (st : Sto) : ∃ b, opNe x y st = .ok (.bl b) st := by
  have := opNe_pl (st := st) (x := x) (y := y) (k := 3) (j := 3) (by rw [nx]; exact h1) (by rw [ny]; exact h2) (by decide) (by decide)
  exact ⟨_, this⟩
theorem odd_deref {d : D} (h : d ∈ odds) (st : Sto) : deref st d = d := by
  simp only [odds, List.mem_cons, List.not_mem_nil, or_false] at h
  rcases h with rfl | rfl | rfl | rfl | rfl | rfl <;> rfl
structure Sep (l lo l0 l1 mo m0 m1 : Nat) : Prop where
  z : l ≠ 0 ∧ lo ≠ 0 ∧ l0 ≠ 0 ∧ l1 ≠ 0 ∧ mo ≠ 0 ∧ m0 ≠ 0 ∧ m1 ≠ 0
  a : l0 ≠ m0 ∧ l0 ≠ m1 ∧ l1 ≠ m0 ∧ l1 ≠ m1
  b : lo ≠ m0 ∧ lo ≠ m1 ∧ l ≠ m0 ∧ l ≠ m1 ∧ mo ≠ l0 ∧ mo ≠ l1
def FillOk (f : List D → Sto → R D) : Prop := ∀ (T : Sto) (ds : List Int) (l lo l0 l1 p mo m0 m1 : Nat) (A : Cells), Dk T l lo l0 l1 p A → Cl T mo m0 m1 A → Sep l lo l0 l1 mo m0 m1 → Cells.Of (p + 4) A → p ≤ 90 → T[0]? = some (.lst (ds.map .int)) → InD ds →
  ∃ (A' : Cells) (ds' : List Int) (T' : Sto), f [.ref l, .ref mo, .ref 0] T = .ok .non T' ∧ Dk T' l lo l0 l1 p A' ∧ Cl T' mo m0 m1 A' ∧ Cells.Of (p + 4) A' ∧ InD ds' ∧ T'[0]? = some (.lst (ds'.map .int)) ∧ T'.length = T.length
theorem fill_ok {Ph : Nat → List D → Sto → R D} (hn : NextOk (Ph 11)) (hp : PutOk (Ph 16)) (hr : RotOk (Ph 26)) (hw : WriteOk (Ph 27)) (hc : CellOk (Ph 14)) : FillOk (runDef d__law_fill Ph) := fun T ds l lo l0 l1 p mo m0 m1 A hD hC hS hA hp90 hs hd => by
  obtain ⟨⟨z1, z2, z3, z4, z5, z6, z7⟩, ⟨a1, a2, a3, a4⟩, b1, b2, b3, b4, b5, b6⟩ := hS
  have draw : ∀ {T : Sto} {ds ds' : List Int} {A : Cells}, Dk T l lo l0 l1 p A → Cl T mo m0 m1 A → T[0]? = some (.lst (ds.map .int)) → Dk (T.set 0 (.lst (ds'.map .int))) l lo l0 l1 p A ∧ Cl (T.set 0 (.lst (ds'.map .int))) mo m0 m1 A ∧ (T.set 0 (.lst (ds'.map .int)))[0]? = some (.lst (ds'.map .int)) ∧ (T.set 0 (.lst (ds'.map .int))).length = T.length := fun hD hC hs =>
    ⟨hD.upd upd0 (by omega), hC.upd upd0 (by omega), at0_set hs, by simp⟩
  have both : ∀ {T : Sto} {A B : Cells} {o : SO}, Dk T l lo l0 l1 p A → Cl T mo m0 m1 A → T[0]? = some o → Dk (two (two T l0 l1 B) m0 m1 B) l lo l0 l1 p B ∧ Cl (two (two T l0 l1 B) m0 m1 B) mo m0 m1 B ∧ (two (two T l0 l1 B) m0 m1 B)[0]? = some o ∧ (two (two T l0 l1 B) m0 m1 B).length = T.length := fun hD hC hs =>
    ⟨hD.two.upd upd_two (by omega), (hC.upd upd_two (by omega)).two, by rw [two_ne (by omega) (by omega), two_ne (by omega) (by omega)]; exact hs, by rw [two_len, two_len]⟩
  obtain ⟨t, e, A', ds', h1, h2, h3, h4, h5, h6⟩ := raw_unit (d := d__law_fill) (Ph := Ph) (ds := [.ref l, .ref mo, .ref 0]) (st := T) (P := fun t => ∃ (A' : Cells) (ds' : List Int), Dk t l lo l0 l1 p A' ∧ Cl t mo m0 m1 A' ∧ Cells.Of (p + 4) A' ∧ InD ds' ∧ t[0]? = some (.lst (ds'.map .int)) ∧ t.length = T.length) rfl rfl (by
    unfold d__law_fill b__law_fill
    trivial
    obtain ⟨y, ds1, y0, y1, h1, e1⟩ := hn 0 T ds hs hd
    have hr0 : iRange1 (mBin opMod (mCall (Ph 11) [mVar 2]) (mC (.int 31))) [some (.ref l), some (.ref mo), some (.ref 0), none, none, none, none, none, none, none] T = .ok (.vals (rangeD 0 (y % 31).toNat)) (T.set 0 (.lst (ds1.map .int))) := by
      refine iRange1_int (R.wp.eq ?_) (by omega) (by omega)
      trivial
      rw [e1]
      trivial
    rw [hr0]
    trivial
    obtain ⟨d1, c1, s1, n1⟩ := draw (ds' := ds1) hD hC hs
    refine for_wp (fun k env t => ∃ (a3 a4 a5 a6 a7 a8 a9 : Option D) (A' : Cells) (ds' : List Int), env = [some (.ref l), some (.ref mo), some (.ref 0), a3, a4, a5, a6, a7, a8, a9] ∧ Dk t l lo l0 l1 p A' ∧ Cl t mo m0 m1 A' ∧ Cells.Of (p + 4) A' ∧ InD ds' ∧ t[0]? = some (.lst (ds'.map .int)) ∧ t.length = T.length) _ ⟨none, none, none, none, none, none, none, A, ds1, rfl, d1, c1, hA, h1, s1, n1⟩ ?_ ?_
    · rintro k d env t hk ⟨a3, a4, a5, a6, a7, a8, a9, B, ds2, rfl, hD2, hC2, hB, h2, s2, n2⟩
      refine ⟨_, rfl, ?_⟩
      trivial
      rw [getFld_at (d := .int (p : Int)) hD2.d.ins rfl rfl]
      trivial
      rw [show (p : Int) + 4 = ((p + 4 : Nat) : Int) by omega]
      obtain ⟨q, ds3, hq, h3, e3⟩ := hp t ds2 (p + 4) s2 h2 (by omega) (by omega)
      rw [e3]
      simp only [Put.d]
      trivial
      obtain ⟨hD3, hC3, s3, n3⟩ := draw (ds' := ds3) hD2 hC2 s2
      generalize t.set 0 (.lst (ds3.map .int)) = t3 at hD3 hC3 s3 n3 ⊢
      obtain ⟨y, ds4, y0, y1, h4, e4⟩ := hn 0 t3 ds3 s3 h3
      rw [e4]
      trivial
      obtain ⟨hD4, hC4, s4, n4⟩ := draw (ds' := ds4) hD3 hC3 s3
      generalize t3.set 0 (.lst (ds4.map .int)) = t4 at hD4 hC4 s4 n4 ⊢
      refine ⟨fun _ => ?_, fun _ => ?_⟩
      · obtain ⟨d, hd2, hm⟩ := atI_int (xs := odds) (i := y / 3 % 6) (by omega) (by show y / 3 % 6 < 6; omega)
        have hm := List.mem_of_getElem? hm
        refine ⟨divOkP (by decide) (by decide), d, hd2, ?_⟩
        obtain ⟨x, rfl, hpl⟩ := odd_cell hm
        obtain ⟨b, eb⟩ := ne_pl hpl (y := .tup [.int 0, .tup [.int 0]]) (.tup (.cons .int (.cons (.tup (.cons .int .nil)) .nil))) (odd_deref hm) (fun _ => rfl) t4
        refine ⟨fun _ => ?_, fun _ => ?_⟩
        · refine ⟨hD4.obj (by decide) (by decide), ?_⟩
          rw [hD4.rot hr hB hq.1 hq.2 (by omega)]
          trivial
          have hC5 : MI.Cl (two t4 l0 l1 (setC B q.copy q.spot x)) mo m0 m1 B := hC4.upd upd_two (by omega)
          obtain ⟨e5, e6⟩ := hC5.set (x := x) hB hq.1 hq.2 (by omega)
          rw [e5]
          trivial
          rw [e6]
          trivial
          obtain ⟨v1, v2, v3, v4⟩ := both (B := setC B q.copy q.spot x) hD4 hC4 s4
          exact ⟨_, _, _, _, _, _, _, _, ds4, rfl, v1, v2, setC_of hB, h4, v3, v4.trans (by omega)⟩
        · rw [eb]
          trivial
          cases b with
          | false => exact ⟨fun z => (Bool.noConfusion z), fun _ => ⟨_, _, _, _, _, _, _, B, ds4, rfl, hD4, hC4, hB, h4, s4, by omega⟩⟩
          | true =>
            refine ⟨fun _ => ?_, fun z => (Bool.noConfusion z)⟩
            refine ⟨hD4.obj (by decide) (by decide), ?_⟩
            rw [hD4.rot hr hB hq.1 hq.2 (by omega)]
            trivial
            have hC5 : MI.Cl (two t4 l0 l1 (setC B q.copy q.spot x)) mo m0 m1 B := hC4.upd upd_two (by omega)
            obtain ⟨e5, e6⟩ := hC5.set (x := x) hB hq.1 hq.2 (by omega)
            rw [e5]
            trivial
            rw [e6]
            trivial
            obtain ⟨v1, v2, v3, v4⟩ := both (B := setC B q.copy q.spot x) hD4 hC4 s4
            exact ⟨_, _, _, _, _, _, _, _, ds4, rfl, v1, v2, setC_of hB, h4, v3, v4.trans (by omega)⟩
      · refine ⟨hD4.obj (by decide) (by decide), ?_⟩
        rw [hD4.write hw hB hq (by omega)]
        trivial
        rw [hc]
        trivial
        have hC5 : MI.Cl (two t4 l0 l1 (MI.app B q)) mo m0 m1 B := hC4.upd upd_two (by omega)
        obtain ⟨e5, e6⟩ := hC5.set (x := rightC q.spot q.con) hB hq.1 hq.2 (by omega)
        rw [e5]
        trivial
        rw [e6]
        trivial
        obtain ⟨v1, v2, v3, v4⟩ := both (B := MI.app B q) hD4 hC4 s4
        exact ⟨_, _, _, _, _, _, _, _, ds4, rfl, v1, v2, setC_of hB, h4, v3, v4.trans (by omega)⟩
    · rintro env t ⟨a3, a4, a5, a6, a7, a8, a9, B, ds2, rfl, hD2, hC2, hB, h2, s2, n2⟩
      exact ⟨B, ds2, hD2, hC2, hB, h2, s2, n2⟩)
  exact ⟨A', ds', t, e, h1, h2, h3, h4, h5, h6⟩
end LK55
namespace LK55
open PySem PySem.Spec PyProof.Rows L2 MX MI
local macro_rules | `(tactic| trivial) => `(tactic| simp only [w_ok, w_exc, w_C, w_bin, w_neg, w_and, w_or, w_not, w_ifE, w_args0, w_args, w_tup, w_lst, w_new, w_call, w_isI, w_chain, w_opt0, w_opt, w_sl, w_st, w_methL, w_methS, on_bl, ot_bl, w_add, w_addT, w_addL, w_addS, w_sub, w_mul, w_mod, w_div, w_pow, w_lt, w_le, w_gt, w_ge, w_eq, w_ne, w_eqB, w_neB, w_isB, w_isNB, w_lenT, w_lenL, w_tupL, w_tupT, w_listT, w_listL, w_ixT, w_ixL, w_slT, w_slL, w_stT, w_seq, w_skip, w_asg, w_asgT, w_expr, w_ret, w_sIf, w_raise, w_for, w_set, w_try, w_pick0, w_pick, w_fld, w_methO, w_make, w_fldS, items_live, items_multi, ii_list_str, ii_str_lst, w_isNN, w_isIN, w_isTN, w_isSN, w_inNN, w_inTN, decide_true, decide_false,
  mVar_app, List.getElem?_cons_zero, List.getElem?_cons_succ, List.set_cons_zero, List.set_cons_succ, startD, List.map_cons, List.map_nil, List.length_cons, List.length_nil, List.length_map, Nat.zero_add, Nat.reduceAdd, Nat.reduceSub, List.replicate, List.cons_append, List.nil_append, gTupV_app, gVars_nil, gVars_cons, gVar_app, Option.some.injEq, exists_eq_left', wipeD_nil, wipeD_cons, atI0, atI1, atI2,
  decide_eq_true_eq, decide_eq_false_iff_not, Bool.not_eq_true', Bool.not_eq_false', Int.reduceLT, Int.reduceLE, Int.reduceAdd, Int.reduceMul, Int.reduceSub, Int.reduceNeg, true_and, and_true, Bool.true_eq_false, Bool.false_eq_true, false_implies, implies_true, true_implies, Nat.reduceLeDiff, fz_same, ii_int_int, ii_bool_int, ii_int_bl, ii_bool_bl, ii_tuple_tup, ii_str_str, ii_list_lst, ii_list_tup, ii_tuple_lst, ii_tuple_int, ii_list_int, ii_str_int, ii_str_tup, ii_int_str, ii_int_tup, ii_int_lst, ii_int_non, ii_bool_str, ii_tuple_str, ii_tuple_non, ii_list_non, ii_str_non, not_true_eq_false, not_false_eq_true, holds_vals, items_vals, eq_self])
-- s2
def HasP (f : List D → Sto → R D) : Prop := ∀ (T : Sto) (l lo l0 l1 p mo m0 m1 : Nat) (A : Cells), Dk T l lo l0 l1 p A → MI.Cl T mo m0 m1 A → Cells.Of (p + 4) A → p ≤ 900 → f [.ref l, .ref mo] T = .ok (.bl true) T
theorem has_ok {Ph : Nat → List D → Sto → R D} (hs : SameD (Ph 12) 2) (hc : DCellOk (Ph 25)) : HasP (runDef d__law_has Ph) := fun st l lo l0 l1 p mo m0 m1 A ⟨hd, a0, a1⟩ ⟨ht, b0, b1⟩ hA hn => by
  have e0 : two st l0 l1 A = st := two_same a0 a1
  have e1 : two st m0 m1 A = st := two_same b0 b1
  refine def_pure rfl rfl ?_
  unfold d__law_has b__law_has
  trivial
  have hr : iRange1 (mC (.int 2)) [some (.ref l), some (.ref mo), none, none] st = .ok (.vals (rangeD 0 2)) st := iRange1_nat (n := 2) rfl (by decide)
  rw [hr]
  trivial
  refine for_wp (fun k env t => t = st ∧ ∃ a b, env = [some (.ref l), some (.ref mo), a, b]) _ ⟨rfl, none, none, rfl⟩ ?_ ?_
  · rintro c d env t hk ⟨rfl, a, b, rfl⟩
    obtain ⟨hc2, rfl⟩ := rangeD_at hk
    refine ⟨_, rfl, ?_⟩
    trivial
    have hr2 : iRange1 (mCall bLen [(mBin opIx (mVar 1) (mC (.int 0)))]) [some (.ref l), some (.ref mo), some (.int (0 + (c : Int))), b] t = .ok (.vals (rangeD 0 (p + 4))) t := by
      refine iRange1_nat (R.wp.eq ?_) (by omega)
      trivial
      rw [ix_ref0 ht.out]
      trivial
      rw [len_ref b0]
      trivial
      rw [hA.1]
    rw [hr2]
    trivial
    refine for_wp (fun k env t' => t' = t ∧ ∃ b, env = [some (.ref l), some (.ref mo), some (.int (0 + (c : Int))), b]) _ ⟨rfl, b, rfl⟩ ?_ ?_
    · rintro s d env t' hk2 ⟨rfl, b, rfl⟩
      obtain ⟨hs2, rfl⟩ := rangeD_at hk2
      have hx : ∃ x, (if c = 0 then A.1 else A.2)[s]? = some x := by
        have : s < (if c = 0 then A.1 else A.2).length := by split <;> simp [hA.1, hA.2, hs2]
        exact ⟨_, List.getElem?_eq_getElem this⟩
      obtain ⟨x, hx⟩ := hx
      refine ⟨_, rfl, ?_⟩
      have z1 : (0 + (c : Int)) = c := by omega
      have z2 : (0 + (s : Int)) = s := by omega
      rw [z1, z2]
      trivial
      refine ⟨by rw [← e0]; exact isObj_two hd (by decide) (by decide), ?_⟩
      have hcc := hc t' l lo l0 l1 p (p + 4) c s A x hd hA hc2 hx
      rw [e0] at hcc
      rw [hcc]
      trivial
      obtain ⟨m, q1, q2⟩ := ix_two ht hc2 hx
      rw [e1] at q1 q2
      rw [q1]
      trivial
      rw [q2]
      trivial
      rw [hs _ _ _ (eq_cell t' x)]
      trivial
      exact ⟨_, rfl⟩
    · rintro env t' ⟨rfl, b, rfl⟩
      exact ⟨rfl, _, _, rfl⟩
  · rintro env t ⟨rfl, a, b, rfl⟩
    trivial
    rw [getFld_at (d := .int (p : Int)) hd.ins rfl rfl]
    trivial
    rw [ix_ref0 ht.out]
    trivial
    rw [len_ref b0, List.length_map, hA.1]
    trivial
    exact congrArg D.bl (decide_eq_true (by omega))

def AfterOk (f : List D → Sto → R D) : Prop := ∀ (T : Sto) (l lo l0 l1 p n : Nat) (A : Cells) (ss : List MI.Step) (g : Nat) (ks : List Nat), Dk T l lo l0 l1 p A → p ≤ 900 → Cells.Of n A → (∀ q, some q ∈ ss → Put.Ok n q) → n ≤ 1000 → ss.length ≤ 1000 → g < (groups ss).length → (∀ k ∈ ks, k < ((groups ss).getD g []).length) → ks.length ≤ 1000 →
  ∃ T', f [.ref l, .lst (ss.map stepD), .int (g : Int), .lst (natsD ks)] T = .ok (.ref T.length) T' ∧ Grow T T' ∧ Dk T' T.length (T.length + 8) (T.length + 6) (T.length + 7) p (cutF A (groups ss) g ks)
theorem after_ok {Ph : Nat → List D → Sto → R D} (ht : TwinOk (Ph 30)) (hc : CutOk (Ph 2)) : AfterOk (runDef d_after_cut Ph) := fun T l lo l0 l1 p n A ss g ks hD hp hA hs hn hl hgl hk hkl => by
  obtain ⟨e1, d1⟩ := hD.twin ht hp
  have e2 := d1.cut hc hA hs hn hl hgl hk hkl
  refine ⟨two (T ++ twn T.length p A ++ gst (T ++ twn T.length p A).length (groups ss)) (T.length + 6) (T.length + 7) (cutF A (groups ss) g ks), rt_raw rfl rfl ?_, ((Grow.app _ _).trans (Grow.app _ _)).two (by omega) (by omega), (d1.grow (Grow.app _ _)).two⟩
  unfold d_after_cut b_after_cut
  trivial
  refine ⟨hD.obj (by decide) (by decide), ?_⟩
  rw [e1]
  trivial
  rw [e2]
  trivial
def LCut2 (f : List D → Sto → R D) : Prop := ∀ (T : Sto) (mo m0 m1 n : Nat) (A : Cells) (ss : List MI.Step) (g : Nat) (ks : List Nat), MI.Cl T mo m0 m1 A → Cells.Of n A → (∀ q, some q ∈ ss → Put.Ok n q) → n ≤ 1000 → ss.length ≤ 1000 → g < (groups ss).length → (∀ k ∈ ks, k < ((groups ss).getD g []).length) → ks.length ≤ 1000 →
  ∃ T', f [.ref mo, .lst (ss.map stepD), .int (g : Int), .lst (natsD ks)] T = .ok (.ref (T.length + 2)) T' ∧ Grow T T' ∧ MI.Cl T' (T.length + 2) T.length (T.length + 1) (cutF A (groups ss) g ks)
theorem add_ref {st : Sto} {l : Nat} {a b : List D} (h : st[l]? = some (.lst a)) (hl : a.length + b.length ≤ 100000) : opAdd (.ref l) (.lst b) st = .ok (.lst (a ++ b)) st := by
  unfold opAdd
  simp only [deref, h]
  rw [if_pos (small_le (by omega))]
theorem flat_len {gs : List (List Put)} {g : Nat} : (gs.take g).flatten.length ≤ gs.flatten.length := by
  have : gs.flatten = (gs.take g).flatten ++ (gs.drop g).flatten := by rw [← List.flatten_append, List.take_append_drop]
  rw [this, List.length_append]
  omega
theorem kept_len {g : List Put} {ks : List Nat} : (keptOf g ks).length ≤ ks.length := List.length_filterMap_le _ _
theorem rev_at {gs : List (List Put)} {g k : Nat} {G : Nat} {d : D} (hg : g ≤ gs.length) (h : (((gout G gs.length).take g).reverse)[k]? = some d) : ∃ x, (gs.take g).reverse[k]? = some x ∧ k < g ∧ ∃ j, gs[j]? = some x ∧ d = .ref (rf G j) := by
  have hk := (List.getElem?_eq_some_iff.mp h).1
  simp [gout] at hk
  have hkg : k < g := by omega
  have hj : g - 1 - k < gs.length := by omega
  refine ⟨gs[g - 1 - k], ?_, hkg, g - 1 - k, List.getElem?_eq_getElem hj, ?_⟩
  · rw [List.getElem?_reverse (by simp; omega), List.length_take, Nat.min_eq_left hg, List.getElem?_take_of_lt (by omega)]
    exact List.getElem?_eq_getElem hj
  · have hgl : ((gout G gs.length).take g).length = g := by simp [gout]; omega
    rw [List.getElem?_reverse (by rw [hgl]; omega), hgl, List.getElem?_take_of_lt (by omega)] at h
    exact (gout_at h).2

theorem lcut_ok {Ph : Nat → List D → Sto → R D} (hc : CellOk (Ph 14)) (hg : GroupsOk (Ph 18)) : LCut2 (runDef d__law_cut Ph) := fun T mo m0 m1 n A ss g ks hC hA hs hn hl hgl hk hkl => by
  have hL1 : ∀ (S : Sto) (r : Nat) (zs : List D), S[r]? = some (.lst zs) → bListN [.ref r] S = .ok (.ref S.length) (S ++ [.lst zs]) := fun S r zs h => by
    unfold bListN
    simp only [seqOf, deref_ref_lst h]
  have hTX : MI.Cl (T ++ [SO.lst (A.1.map cellD), .lst (A.2.map cellD), .lst [.ref T.length, .ref (T.length + 1)]]) (T.length + 2) T.length (T.length + 1) A := ⟨⟨by rw [List.getElem?_append_right (by omega)]; simp, by omega, by omega, by omega, by simp, by simp⟩, by rw [List.getElem?_append_right (by omega)]; simp, by rw [List.getElem?_append_right (by omega)]; simp⟩
  have hXl : (T ++ [SO.lst (A.1.map cellD), .lst (A.2.map cellD), .lst [.ref T.length, .ref (T.length + 1)]]).length = T.length + 3 := by simp
  have hgr := hg (T ++ [SO.lst (A.1.map cellD), .lst (A.2.map cellD), .lst [.ref T.length, .ref (T.length + 1)]]) ss hl
  refine ⟨two (T ++ [SO.lst (A.1.map cellD), .lst (A.2.map cellD), .lst [.ref T.length, .ref (T.length + 1)]] ++ gst (T.length + 3) (groups ss)) T.length (T.length + 1) (cutF A (groups ss) g ks), rt_raw rfl rfl ?_, ((Grow.app _ _).trans (Grow.app _ _)).two (by omega) (by omega), (hTX.grow (Grow.app _ _)).two⟩
  unfold d__law_cut b__law_cut
  trivial
  rw [ix_ref0 hC.t.out]
  trivial
  rw [hL1 _ _ _ hC.a0]
  trivial
  rw [ix_ref1 (old_at hC.t.out)]
  trivial
  rw [hL1 _ _ _ (old_at hC.a1)]
  trivial
  have e0 : T ++ [SO.lst (A.1.map cellD)] ++ [SO.lst (A.2.map cellD)] ++ [SO.lst [D.ref T.length, D.ref (T ++ [SO.lst (A.1.map cellD)]).length]] = T ++ [SO.lst (A.1.map cellD), .lst (A.2.map cellD), .lst [.ref T.length, .ref (T.length + 1)]] := by simp
  have e1 : (T ++ [SO.lst (A.1.map cellD)] ++ [SO.lst (A.2.map cellD)]).length = T.length + 2 := by simp
  rw [e0, e1, hgr]
  trivial
  rw [hXl]
  have hG : GrAt (T ++ [SO.lst (A.1.map cellD), .lst (A.2.map cellD), .lst [.ref T.length, .ref (T.length + 1)]] ++ gst (T.length + 3) (groups ss)) (T.length + 3) (groups ss) := by
    rw [← hXl]
    exact ⟨gst_out (groups_ne ss), fun k x hx => gst_at hx⟩
  have hTX := hTX.grow (Grow.app _ (gst (T.length + 3) (groups ss)))
  generalize T ++ [SO.lst (A.1.map cellD), .lst (A.2.map cellD), .lst [.ref T.length, .ref (T.length + 1)]] ++ gst (T.length + 3) (groups ss) = X at hG hTX ⊢
  rw [kept_comp (io := 5) (ig := 2) (ik := 3) (iv := 12) hG hgl hk hkl rfl rfl rfl (by simp) (by decide) (by decide) (by decide)]
  trivial
  have hi2 : iRevM (mSl (mVar 5) none (some (mVar 2))) [some (.ref mo), some (.lst (ss.map stepD)), some (.int (g : Int)), some (.lst (natsD ks)), some (.ref (T.length + 2)), some (.ref (T.length + 3 + 1)), some (.lst ((keptOf ((groups ss).getD g []) ks).map Put.d)), none, none, none, none, none, none] X = .ok (.multi [] (((gout (T.length + 3) (groups ss).length).take g).reverse)) X := by
    have e0 : mSl (mVar 5) none (some (mVar 2)) [some (.ref mo), some (.lst (ss.map stepD)), some (.int (g : Int)), some (.lst (natsD ks)), some (.ref (T.length + 2)), some (.ref (T.length + 3 + 1)), some (.lst ((keptOf ((groups ss).getD g []) ks).map Put.d)), none, none, none, none, none, none] X = .ok (.lst ((gout (T.length + 3) (groups ss).length).take g)) X := by
      refine R.wp.eq ?_
      trivial
      rw [sl_gout hG]
      trivial
    unfold iRevM
    rw [e0, bind_ok]
    rfl
  rw [hi2]
  trivial
  have hfl : (groups ss).flatten.length ≤ ss.length := by rw [groups_flat]; exact List.length_filterMap_le id ss
  have hkl2 := kept_len (g := (groups ss).getD g []) (ks := ks)
  refine for_wp (fun k env t => t = X ∧ ∃ a7, env = [some (.ref mo), some (.lst (ss.map stepD)), some (.int (g : Int)), some (.lst (natsD ks)), some (.ref (T.length + 2)), some (.ref (T.length + 3 + 1)), some (.lst ((((((groups ss).take g).reverse.take k).reverse.flatten) ++ keptOf ((groups ss).getD g []) ks).map Put.d)), a7, none, none, none, none, none]) _ ⟨rfl, none, by simp⟩ ?_ ?_
  · rintro k d env t hk2 ⟨rfl, a7, rfl⟩
    obtain ⟨x, hx, hkg, j, hj, rfl⟩ := rev_at (by omega) hk2
    refine ⟨_, rfl, ?_⟩
    trivial
    have hlen : (x.map Put.d).length + ((((((groups ss).take g).reverse.take k).reverse.flatten) ++ keptOf ((groups ss).getD g []) ks).map Put.d).length ≤ 100000 := by
      have h1 : x.length ≤ (groups ss).flatten.length := (List.sublist_flatten_of_mem (List.mem_of_getElem? hj)).length_le
      have h2 : (((groups ss).take g).reverse.take k).reverse.flatten.length ≤ (groups ss).flatten.length := by
        rw [List.reverse_take, List.reverse_reverse]
        have h3 : ∀ (a : Nat), (((groups ss).take g).drop a).flatten.length ≤ ((groups ss).take g).flatten.length := fun a => by
          have : ((groups ss).take g).flatten = (((groups ss).take g).take a).flatten ++ (((groups ss).take g).drop a).flatten := by rw [← List.flatten_append, List.take_append_drop]
          rw [this, List.length_append]
          omega
        exact Nat.le_trans (h3 _) flat_len
      simp only [List.length_map, List.length_append]
      omega
    rw [add_ref (hG.at_ j x hj) hlen]
    trivial
    refine ⟨fun p hp => (List.not_mem_nil hp).elim, some (.ref (rf (T.length + 3) j)), ?_⟩
    rw [List.take_succ, hx]
    simp
  · rintro env t ⟨rfl, a7, rfl⟩
    have e2 : ((gout (T.length + 3) (groups ss).length).take g).reverse.length = ((groups ss).take g).reverse.length := by simp [gout]
    rw [e2, List.take_length, List.reverse_reverse]
    have hi3 : iSeq (mVar 6) [some (.ref mo), some (.lst (ss.map stepD)), some (.int (g : Int)), some (.lst (natsD ks)), some (.ref (T.length + 2)), some (.ref (T.length + 3 + 1)), some (.lst (((((groups ss).take g).flatten) ++ keptOf ((groups ss).getD g []) ks).map Put.d)), a7, none, none, none, none, none] t = .ok (.vals (((((groups ss).take g).flatten) ++ keptOf ((groups ss).getD g []) ks).map Put.d)) t := rfl
    rw [hi3]
    trivial
    have hgm : (groups ss).getD g [] ∈ groups ss := by rw [List.getD, List.getElem?_eq_getElem hgl]; exact List.getElem_mem hgl
    have hall : ∀ q ∈ (((groups ss).take g).flatten) ++ keptOf ((groups ss).getD g []) ks, q.Ok n := fun q hq => by
      rcases List.mem_append.mp hq with hq | hq
      · obtain ⟨x, hx, hq⟩ := List.mem_flatten.mp hq
        exact groups_mem hs x (List.mem_of_mem_take hx) q hq
      · exact groups_mem hs _ hgm q (kept_mem hq)
    have hcf : cutF A (groups ss) g ks = ((((groups ss).take g).flatten) ++ keptOf ((groups ss).getD g []) ks).foldl MI.app A := by unfold cutF; rw [List.foldl_append]
    rw [hcf]
    generalize (((groups ss).take g).flatten) ++ keptOf ((groups ss).getD g []) ks = qs at hall ⊢
    refine for_wp (fun k env t' => t' = two t T.length (T.length + 1) ((qs.take k).foldl MI.app A) ∧ ∃ a6 a7 a8 a9 a10 a11, env = [some (.ref mo), some (.lst (ss.map stepD)), some (.int (g : Int)), some (.lst (natsD ks)), some (.ref (T.length + 2)), some (.ref (T.length + 3 + 1)), a6, a7, a8, a9, a10, a11, none]) _ ⟨(two_same hTX.a0 hTX.a1).symm, _, _, _, _, _, _, rfl⟩ ?_ ?_
    · rintro k d env t' hk2 ⟨rfl, a6, a7, a8, a9, a10, a11, rfl⟩
      rw [List.getElem?_map] at hk2
      obtain ⟨q, hq, rfl⟩ := Option.map_eq_some_iff.mp hk2
      have hqo := hall q (List.mem_of_getElem? hq)
      simp only [Put.d]
      refine ⟨_, rfl, ?_⟩
      trivial
      rw [hc]
      trivial
      have hB : Cells.Of n ((qs.take k).foldl MI.app A) := fold_of hA
      obtain ⟨e5, e6⟩ := (hTX.two (B := (qs.take k).foldl MI.app A)).set (x := rightC q.spot q.con) hB hqo.1 hqo.2 hn
      rw [e5]
      trivial
      rw [e6]
      trivial
      refine ⟨?_, _, _, _, _, _, _, rfl⟩
      rw [two_two (by omega), fold_take hq]
      rfl
    · rintro env t' ⟨rfl, a6, a7, a8, a9, a10, a11, rfl⟩
      trivial
      rw [List.take_length]
end LK55
namespace LK55
open PySem PySem.Spec PyProof.Rows L2 MX MI
local macro_rules | `(tactic| trivial) => `(tactic| simp only [w_ok, w_exc, w_C, w_bin, w_neg, w_and, w_or, w_not, w_ifE, w_args0, w_args, w_tup, w_lst, w_new, w_call, w_isI, w_chain, w_opt0, w_opt, w_sl, w_st, w_methL, w_methS, on_bl, ot_bl, w_add, w_addT, w_addL, w_addS, w_sub, w_mul, w_mod, w_div, w_pow, w_lt, w_le, w_gt, w_ge, w_eq, w_ne, w_eqB, w_neB, w_isB, w_isNB, w_lenT, w_lenL, w_tupL, w_tupT, w_listT, w_listL, w_ixT, w_ixL, w_slT, w_slL, w_stT, w_seq, w_skip, w_asg, w_asgT, w_expr, w_ret, w_sIf, w_raise, w_for, w_set, w_try, w_pick0, w_pick, w_fld, w_methO, w_make, w_fldS, items_live, items_multi, ii_list_str, ii_str_lst, w_isNN, w_isIN, w_isTN, w_isSN, w_inNN, w_inTN, decide_true, decide_false,
  mVar_app, List.getElem?_cons_zero, List.getElem?_cons_succ, List.set_cons_zero, List.set_cons_succ, startD, List.map_cons, List.map_nil, List.length_cons, List.length_nil, List.length_map, Nat.zero_add, Nat.reduceAdd, Nat.reduceSub, List.replicate, List.cons_append, List.nil_append, gTupV_app, gVars_nil, gVars_cons, gVar_app, Option.some.injEq, exists_eq_left', wipeD_nil, wipeD_cons, atI0, atI1, atI2,
  decide_eq_true_eq, decide_eq_false_iff_not, Bool.not_eq_true', Bool.not_eq_false', Int.reduceLT, Int.reduceLE, Int.reduceAdd, Int.reduceMul, Int.reduceSub, Int.reduceNeg, true_and, and_true, Bool.true_eq_false, Bool.false_eq_true, false_implies, implies_true, true_implies, Nat.reduceLeDiff, fz_same, ii_int_int, ii_bool_int, ii_int_bl, ii_bool_bl, ii_tuple_tup, ii_str_str, ii_list_lst, ii_list_tup, ii_tuple_lst, ii_tuple_int, ii_list_int, ii_str_int, ii_str_tup, ii_int_str, ii_int_tup, ii_int_lst, ii_int_non, ii_bool_str, ii_tuple_str, ii_tuple_non, ii_list_non, ii_str_non, not_true_eq_false, not_false_eq_true, holds_vals, items_vals, eq_self])
-- s2
theorem groups_le (ss : List MI.Step) : ∀ g ∈ MI.groups ss, g.length ≤ ss.length := fun g hg => by
  have h1 := (List.sublist_flatten_of_mem hg).length_le
  rw [groups_flat] at h1
  have h2 := List.length_filterMap_le id ss
  omega
theorem groups_num (ss : List MI.Step) : (MI.groups ss).length ≤ ss.length + 1 := by
  have key : ∀ (ss : List MI.Step) (p : List (List Put) × List Put), (ss.foldl gstep p).1.length ≤ p.1.length + ss.length := by
    intro ss
    induction ss with
    | nil => intro p; simp
    | cons s ss ih =>
      intro p
      rw [List.foldl_cons]
      have := ih (gstep p s)
      have h2 : (gstep p s).1.length ≤ p.1.length + 1 := by cases s <;> simp [gstep]
      simp only [List.length_cons]
      omega
  have := key ss ([], [])
  simp [MI.groups] at this ⊢
  omega
theorem pln_nats (ks : List Nat) : Pln 3 (D.lst (natsD ks)) := .lst (Plns.of fun d hd => by
    obtain ⟨s, _, rfl⟩ := List.mem_map.mp hd
    exact .int)
theorem ne_handed (ss : List MI.Step) (ks : List Nat) (st : Sto) : opNe (.lst [.lst (ss.map stepD), .lst (natsD ks)]) (.lst [.lst (ss.map stepD), .lst (natsD ks)]) st = .ok (.bl false) st := by
  have h1 : Pln 3 (D.lst (ss.map stepD)) := .lst (Plns.of fun d hd => by
    obtain ⟨s, _, rfl⟩ := List.mem_map.mp hd
    exact pln_step s)
  have h : Pln 4 (D.lst [.lst (ss.map stepD), .lst (natsD ks)]) := .lst (.cons h1 (.cons (pln_nats ks) .nil))
  rw [opNe_pl (x := .lst [.lst (ss.map stepD), .lst (natsD ks)]) (y := .lst [.lst (ss.map stepD), .lst (natsD ks)]) (k := 4) (j := 4) h h (by decide) (by decide)]
  exact congrArg (fun b => R.ok (D.bl (!b)) st) (beqD_refl h)

noncomputable def turnA (Ph : Nat → List D → Sto → R D) : MS := (sSeq (sExpr (mMethO "Disk" "write" (Ph 27) (mVar 10) [(mBin opMod (mVar 6) (mC (.int 2))), (mC (.int 5)), (mTup [(mVar 6), (mVar 6)])]))
  (sSeq (sExpr (mMethO "Disk" "write" (Ph 27) (mVar 2) [(mBin opSub (mC (.int 1)) (mBin opMod (mVar 6) (mC (.int 2)))), (mC (.int 6)), (mTup [(mC (.int 7)), (mVar 6)])]))
  (sSeq (sSet (mBin opIx (mVar 11) (mBin opMod (mVar 6) (mC (.int 2)))) (mC (.int 5)) (mCall (Ph 14) [(mC (.int 5)), (mTup [(mVar 6), (mVar 6)])]))
  (sSeq (sSet (mBin opIx (mVar 3) (mBin opSub (mC (.int 1)) (mBin opMod (mVar 6) (mC (.int 2))))) (mC (.int 6)) (mCall (Ph 14) [(mC (.int 6)), (mTup [(mC (.int 7)), (mVar 6)])]))
  (sSeq (sIf (mOr (mNot (mCall (Ph 22) [(mVar 10), (mVar 11)])) (mNot (mCall (Ph 22) [(mVar 2), (mVar 3)])))
    (sSeq (sRet (mC (.bl false)))
  sSkip)
    sSkip)
  (sSeq (sIf (mNot (mCall (Ph 22) [(mCall (Ph 3) [(mVar 2), (mVar 4), (mVar 7), (mVar 8)]), (mCall (Ph 21) [(mVar 3), (mVar 4), (mVar 7), (mVar 8)])]))
    (sSeq (sRet (mC (.bl false)))
  sSkip)
    sSkip)
  sSkip))))))
noncomputable def turn (Ph : Nat → List D → Sto → R D) : MS := (sSeq (sAsg (mBin opMod (mCall (Ph 11) [(mVar 1)]) (mCall bLen [(mVar 5)])) (gVar 7))
  (sSeq (sAsg (mCall (Ph 19) [(mVar 1), (mCall bLen [(mBin opIx (mVar 5) (mVar 7))])]) (gVar 8))
  (sSeq (sAsg (mLst [(mCall bList [(mVar 4)]), (mCall bList [(mVar 8)])]) (gVar 9))
  (sSeq (sAsg (mCall (Ph 3) [(mVar 2), (mBin opIx (mVar 9) (mC (.int 0))), (mVar 7), (mBin opIx (mVar 9) (mC (.int 1)))]) (gVar 10))
  (sSeq (sAsg (mCall (Ph 21) [(mVar 3), (mVar 4), (mVar 7), (mVar 8)]) (gVar 11))
  (sSeq (sIf (mOr (mNot (mCall (Ph 22) [(mVar 10), (mVar 11)])) (mOr (mNot (mCall (Ph 22) [(mVar 2), (mVar 3)])) (mBin opNe (mVar 9) (mLst [(mVar 4), (mVar 8)]))))
    (sSeq (sRet (mC (.bl false)))
  sSkip)
    sSkip)
  (turnA Ph)))))))
noncomputable def loopT (Ph : Nat → List D → Sto → R D) : MS := sSeq (sFor (iRange1 (mC (.int 3))) (gVar 6) (turn Ph)) (sSeq (sRet (mC (.bl true))) sSkip)
noncomputable def restL (Ph : Nat → List D → Sto → R D) : MS := (sSeq (sAsg (mNew [(mBin opMulN (mNew [(mC (.non))]) (mBin opAdd (mFld (fOk "places") "places" (mVar 2)) (mC (.int 4)))), (mBin opMulN (mNew [(mC (.non))]) (mBin opAdd (mFld (fOk "places") "places" (mVar 2)) (mC (.int 4))))]) (gVar 3))
  (sSeq (sExpr (mCall (Ph 20) [(mVar 2), (mVar 3), (mVar 1)]))
  (sSeq (sAsg (mCall (Ph 17) [(mVar 1), (mBin opAdd (mFld (fOk "places") "places" (mVar 2)) (mC (.int 4)))]) (gVar 4))
  (sSeq (sAsg (mCall (Ph 18) [(mVar 4)]) (gVar 5))
  (loopT Ph)))))
theorem law_eq (Ph : Nat → List D → Sto → R D) : b_law Ph = (sSeq (sAsg (mCall (Ph 10) [(mVar 0)]) (gVar 1))
  (sSeq (sAsg (mMake "Disk" (Ph 24) [(mBin opAdd (mC (.int 8)) (mBin opMod (mCall (Ph 11) [(mVar 1)]) (mC (.int 5))))]) (gVar 2))
  (restL Ph))) := rfl
structure Calls (Ph : Nat → List D → Sto → R D) : Prop where
  next : NextOk (Ph 11)
  init : InitOk (Ph 24)
  fill : FillOk (Ph 20)
  steps : StepsOk (Ph 17)
  lgr : GroupsOk (Ph 18)
  kept : KeptOk (Ph 19)
  after : AfterOk (Ph 3)
  lcut : LCut2 (Ph 21)
  write : WriteOk (Ph 27)
  cell : CellOk (Ph 14)
  has : HasP (Ph 22)
structure St (T : Sto) (N l lo l0 l1 p mo m0 m1 G : Nat) (A : Cells) (ss : List MI.Step) : Prop where
  d : Dk T l lo l0 l1 p A
  c : MI.Cl T mo m0 m1 A
  g : GrAt T G (groups ss)
  s : Sep l lo l0 l1 mo m0 m1
  b : l < G ∧ lo < G ∧ l0 < G ∧ l1 < G ∧ mo < G ∧ m0 < G ∧ m1 < G ∧ 0 < G
  o : Cells.Of (p + 4) A
  n : G + 1 < N ∧ (∀ k, k < (groups ss).length → rf G k < N) ∧ N ≤ T.length
section
variable {T T' : Sto} {N l lo l0 l1 p mo m0 m1 G j0 j1 : Nat} {A B C : Cells} {ss : List MI.Step}
theorem St.grow (h : St T N l lo l0 l1 p mo m0 m1 G A ss) (g : Grow T T') : St T' N l lo l0 l1 p mo m0 m1 G A ss := ⟨h.d.grow g, h.c.grow g, h.g.grow g, h.s, h.b, h.o, h.n.1, h.n.2.1, by have := h.n.2.2; have := g.1; omega⟩
theorem St.set0 {o : SO} (h : St T N l lo l0 l1 p mo m0 m1 G A ss) : St (T.set 0 o) N l lo l0 l1 p mo m0 m1 G A ss := by
  obtain ⟨⟨z1, z2, z3, z4, z5, z6, z7⟩, _, _⟩ := h.s
  have := h.b
  exact ⟨h.d.upd upd0 (by omega), h.c.upd upd0 (by omega), GrAt.upd h.g upd0 (by omega) (by omega), h.s, h.b, h.o, by simpa using h.n⟩
theorem St.updHi (h : St T N l lo l0 l1 p mo m0 m1 G A ss) (u : Upd T T' j0 j1) (h0 : N ≤ j0) (h1 : N ≤ j1) : St T' N l lo l0 l1 p mo m0 m1 G A ss := by
  obtain ⟨b1, b2, b3, b4, b5, b6, b7, b8⟩ := h.b
  obtain ⟨n1, n2, n3⟩ := h.n
  exact ⟨h.d.upd u (by omega), h.c.upd u (by omega), ⟨by rw [u.2 _ (by omega) (by omega)]; exact h.g.out, fun k x hx => by
    have := n2 k (List.getElem?_eq_some_iff.mp hx).1
    rw [u.2 _ (by omega) (by omega)]; exact h.g.at_ k x hx⟩, h.s, h.b, h.o, n1, n2, by rw [u.1]; exact n3⟩
theorem St.both {d0 d1 : Nat} (h : St T N l lo l0 l1 p mo m0 m1 G A ss) (h0 : N ≤ d0) (h1 : N ≤ d1) (hB : Cells.Of (p + 4) B) : St (two (two (two T l0 l1 B) d0 d1 C) m0 m1 B) N l lo l0 l1 p mo m0 m1 G B ss := by
  obtain ⟨b1, b2, b3, b4, b5, b6, b7, b8⟩ := h.b
  obtain ⟨n1, n2, n3⟩ := h.n
  obtain ⟨⟨z1, z2, z3, z4, z5, z6, z7⟩, ⟨y1, y2, y3, y4⟩, x1, x2, x3, x4, x5, x6⟩ := h.s
  have D1 : Dk (two T l0 l1 B) l lo l0 l1 p B := h.d.two
  have D2 : Dk (two (two T l0 l1 B) d0 d1 C) l lo l0 l1 p B := D1.upd upd_two (by omega)
  have D3 : Dk (two (two (two T l0 l1 B) d0 d1 C) m0 m1 B) l lo l0 l1 p B := D2.upd upd_two (by omega)
  have C1 : MI.Cl (two T l0 l1 B) mo m0 m1 A := h.c.upd upd_two (by omega)
  have C2 : MI.Cl (two (two T l0 l1 B) d0 d1 C) mo m0 m1 A := C1.upd upd_two (by omega)
  have G1 : GrAt (two T l0 l1 B) G (groups ss) := GrAt.upd h.g upd_two (by omega) (by omega)
  have G2 : GrAt (two (two T l0 l1 B) d0 d1 C) G (groups ss) := ⟨by rw [two_ne (by omega) (by omega)]; exact G1.out, fun k x hx => by
    have := n2 k (List.getElem?_eq_some_iff.mp hx).1
    rw [two_ne (by omega) (by omega)]; exact G1.at_ k x hx⟩
  exact ⟨D3, C2.two, GrAt.upd G2 upd_two (by omega) (by omega), h.s, h.b, hB, n1, n2, by rw [two_len, two_len, two_len]; exact n3⟩
end
theorem kept_ne (ss : List MI.Step) : 0 < (groups ss).length := List.length_pos_iff.mpr (groups_ne ss)
/-- the second half of a turn: found and due changed, disk and cells changed -/
theorem turnA_ok {Ph : Nat → List D → Sto → R D} (H : Calls Ph) {T : Sto} {N l lo l0 l1 p mo m0 m1 G F Fo F0 F1 d d0 d1 : Nat} {A C : Cells} {ss : List MI.Step} {ds : List Int} {g k : Nat} {ks : List Nat} (h : St T N l lo l0 l1 p mo m0 m1 G A ss) (hs : T[0]? = some (.lst (ds.map .int))) (hp8 : 8 ≤ p) (hp : p ≤ 12) (hss : ∀ q, some q ∈ ss → Put.Ok (p + 4) q) (hl : ss.length ≤ 24) (hk3 : k < 3) (hg : g < (groups ss).length) (k1 : ∀ k ∈ ks, k < ((groups ss).getD g []).length) (k2 : ks.length ≤ 100)
    (hF : Dk T F Fo F0 F1 p C) (hd : MI.Cl T d d0 d1 C) (hC : Cells.Of (p + 4) C) (hN : N ≤ F ∧ N ≤ Fo ∧ N ≤ F0 ∧ N ≤ F1) (hM : F < d ∧ Fo < d ∧ F0 < d ∧ F1 < d ∧ F < d0 ∧ Fo < d0 ∧ F0 < d0 ∧ F1 < d0 ∧ F < d1 ∧ Fo < d1 ∧ F0 < d1 ∧ F1 < d1) {x : D} {a9 : Option D} :
    (turnA Ph [some x, some (.ref 0), some (.ref l), some (.ref mo), some (.lst (ss.map stepD)), some (.ref (G + 1)), some (.int (0 + (k : Int))), some (.int (g : Int)), some (.lst (natsD ks)), a9, some (.ref F), some (.ref d)] T).wp (fun e t => (∃ a6 a7 a8 a9 a10 a11, e = [some x, some (.ref 0), some (.ref l), some (.ref mo), some (.lst (ss.map stepD)), some (.ref (G + 1)), a6, a7, a8, a9, a10, a11]) ∧ (∃ B, St t N l lo l0 l1 p mo m0 m1 G B ss) ∧ ∃ ds', t[0]? = some (.lst (ds'.map .int)) ∧ ds' = ds) (fun _ _ => False) nXS := by
  obtain ⟨b1, b2, b3, b4, b5, b6, b7, b8⟩ := h.b
  obtain ⟨n1, n2, n3⟩ := h.n
  obtain ⟨⟨z1, z2, z3, z4, z5, z6, z7⟩, ⟨y1, y2, y3, y4⟩, x1, x2, x3, x4, x5, x6⟩ := h.s
  obtain ⟨N1, N2, N3, N4⟩ := hN
  obtain ⟨M1, M2, M3, M4, M5, M6, M7, M8, M9, M10, M11, M12⟩ := hM
  have ek : (0 + (k : Int)) % 2 = ((k % 2 : Nat) : Int) := by omega
  have ek2 : 1 - ((k % 2 : Nat) : Int) = ((1 - k % 2 : Nat) : Int) := by omega
  let q : Put := ⟨k % 2, 5, [0 + (k : Int), 0 + (k : Int)]⟩
  let q' : Put := ⟨1 - k % 2, 6, [7, 0 + (k : Int)]⟩
  have hq : q.Ok (p + 4) := ⟨by show k % 2 < 2; omega, by show 5 < p + 4; omega⟩
  have hq' : q'.Ok (p + 4) := ⟨by show 1 - k % 2 < 2; omega, by show 6 < p + 4; omega⟩
  have hT5 : St (two T F0 F1 (MI.app C q)) N l lo l0 l1 p mo m0 m1 G A ss := h.updHi upd_two N3 N4
  have hF5 : Dk (two T F0 F1 (MI.app C q)) F Fo F0 F1 p (MI.app C q) := hF.two
  have hd5 : MI.Cl (two T F0 F1 (MI.app C q)) d d0 d1 C := hd.upd upd_two (by omega)
  have hd6 : MI.Cl (two (two T F0 F1 (MI.app C q)) l0 l1 (MI.app A q')) d d0 d1 C := hd5.upd upd_two (by omega)
  have hc6 : MI.Cl (two (two T F0 F1 (MI.app C q)) l0 l1 (MI.app A q')) mo m0 m1 A := hT5.c.upd upd_two (by omega)
  have hc7 : MI.Cl (two (two (two T F0 F1 (MI.app C q)) l0 l1 (MI.app A q')) d0 d1 (MI.app C q)) mo m0 m1 A := hc6.upd upd_two (by omega)
  have hd7 : MI.Cl (two (two (two T F0 F1 (MI.app C q)) l0 l1 (MI.app A q')) d0 d1 (MI.app C q)) d d0 d1 (MI.app C q) := hd6.two
  have hd8 : MI.Cl (two (two (two (two T F0 F1 (MI.app C q)) l0 l1 (MI.app A q')) d0 d1 (MI.app C q)) m0 m1 (MI.app A q')) d d0 d1 (MI.app C q) := hd7.upd upd_two (by omega)
  have hF6 : Dk (two (two T F0 F1 (MI.app C q)) l0 l1 (MI.app A q')) F Fo F0 F1 p (MI.app C q) := hF5.upd upd_two (by omega)
  have hF7 : Dk (two (two (two T F0 F1 (MI.app C q)) l0 l1 (MI.app A q')) d0 d1 (MI.app C q)) F Fo F0 F1 p (MI.app C q) := hF6.upd upd_two (by omega)
  have hF8 : Dk (two (two (two (two T F0 F1 (MI.app C q)) l0 l1 (MI.app A q')) d0 d1 (MI.app C q)) m0 m1 (MI.app A q')) F Fo F0 F1 p (MI.app C q) := hF7.upd upd_two (by omega)
  have hT8 : St (two (two (two (two T F0 F1 (MI.app C q)) l0 l1 (MI.app A q')) d0 d1 (MI.app C q)) m0 m1 (MI.app A q')) N l lo l0 l1 p mo m0 m1 G (MI.app A q') ss := hT5.both (by omega) (by omega) (app_of h.o)
  have hs8 : (two (two (two (two T F0 F1 (MI.app C q)) l0 l1 (MI.app A q')) d0 d1 (MI.app C q)) m0 m1 (MI.app A q'))[0]? = some (.lst (ds.map .int)) := by
    rw [two_ne (by omega) (by omega), two_ne (by omega) (by omega), two_ne (by omega) (by omega), two_ne (by omega) (by omega)]
    exact hs
  have w1 : Ph 27 [.ref F, .int ((k % 2 : Nat) : Int), .int 5, .tup [.int (0 + (k : Int)), .int (0 + (k : Int))]] T = .ok .non (two T F0 F1 (MI.app C q)) := hF.write H.write (q := q) hC hq (by omega)
  have w2 : Ph 27 [.ref l, .int ((1 - k % 2 : Nat) : Int), .int 6, .tup [.int 7, .int (0 + (k : Int))]] (two T F0 F1 (MI.app C q)) = .ok .non (two (two T F0 F1 (MI.app C q)) l0 l1 (MI.app A q')) := hT5.d.write H.write (q := q') h.o hq' (by omega)
  obtain ⟨w3, w4⟩ := hd6.set (x := rightC q.spot q.con) hC hq.1 hq.2 (by omega)
  obtain ⟨w5, w6⟩ := hc7.set (x := rightC q'.spot q'.con) h.o hq'.1 hq'.2 (by omega)
  have w3 : opIx (.ref d) (.int ((k % 2 : Nat) : Int)) _ = _ := w3
  have w4 : setAt (.ref (slotC q.copy d0 d1)) (.int 5) (cellD (rightC q.spot q.con)) _ = .ok () (two (two (two T F0 F1 (MI.app C q)) l0 l1 (MI.app A q')) d0 d1 (MI.app C q)) := w4
  have w5 : opIx (.ref mo) (.int ((1 - k % 2 : Nat) : Int)) _ = _ := w5
  have w6 : setAt (.ref (slotC q'.copy m0 m1)) (.int 6) (cellD (rightC q'.spot q'.con)) _ = .ok () (two (two (two (two T F0 F1 (MI.app C q)) l0 l1 (MI.app A q')) d0 d1 (MI.app C q)) m0 m1 (MI.app A q')) := w6
  have v1 : ∀ S, Ph 14 [.int 5, .tup [.int (0 + (k : Int)), .int (0 + (k : Int))]] S = .ok (cellD (rightC q.spot q.con)) S := fun S => H.cell 5 [0 + (k : Int), 0 + (k : Int)] S
  have v2 : ∀ S, Ph 14 [.int 6, .tup [.int 7, .int (0 + (k : Int))]] S = .ok (cellD (rightC q'.spot q'.con)) S := fun S => H.cell 6 [7, 0 + (k : Int)] S
  generalize two (two (two (two T F0 F1 (MI.app C q)) l0 l1 (MI.app A q')) d0 d1 (MI.app C q)) m0 m1 (MI.app A q') = T8 at hd8 hF8 hT8 hs8 w6
  generalize two (two (two T F0 F1 (MI.app C q)) l0 l1 (MI.app A q')) d0 d1 (MI.app C q) = T7 at w4 w5 w6
  generalize two (two T F0 F1 (MI.app C q)) l0 l1 (MI.app A q') = T6 at w2 w3 w4
  unfold turnA
  trivial
  refine ⟨hF.obj (by decide) (by decide), ?_⟩
  rw [ek, w1]
  trivial
  refine ⟨hT5.d.obj (by decide) (by decide), ?_⟩
  rw [ek2, w2]
  trivial
  rw [v1]
  trivial
  rw [w3]
  trivial
  rw [w4]
  trivial
  rw [v2]
  trivial
  rw [w5]
  trivial
  rw [w6]
  trivial
  have hO : Cells.Of (p + 4) (MI.app C q) := app_of hC
  rw [H.has _ _ _ _ _ _ _ _ _ _ hF8 hd8 hO (by omega)]
  trivial
  rw [H.has _ _ _ _ _ _ _ _ _ _ hT8.d hT8.c hT8.o (by omega)]
  trivial
  obtain ⟨T9, e9, g9, D9⟩ := H.after T8 l lo l0 l1 p (p + 4) _ ss g ks hT8.d (by omega) hT8.o hss (by omega) (by omega) hg k1 (by omega)
  rw [e9]
  trivial
  have hT9 := hT8.grow g9
  obtain ⟨T10, e10, g10, C10⟩ := H.lcut T9 mo m0 m1 (p + 4) _ ss g ks hT9.c hT9.o hss (by omega) (by omega) hg k1 (by omega)
  rw [e10]
  trivial
  have hO2 : Cells.Of (p + 4) (cutF (MI.app A q') (groups ss) g ks) := fold_of (fold_of (app_of h.o))
  rw [H.has _ _ _ _ _ _ _ _ _ _ (D9.grow g10) C10 hO2 (by omega)]
  trivial
  exact ⟨⟨_, _, _, _, _, _, rfl⟩, ⟨_, hT9.grow g10⟩, ds, g10.get (g9.get hs8), rfl⟩
end LK55
namespace LK55
open PySem PySem.Spec PyProof.Rows L2 MX MI
local macro_rules | `(tactic| trivial) => `(tactic| simp only [w_ok, w_exc, w_C, w_bin, w_neg, w_and, w_or, w_not, w_ifE, w_args0, w_args, w_tup, w_lst, w_new, w_call, w_isI, w_chain, w_opt0, w_opt, w_sl, w_st, w_methL, w_methS, on_bl, ot_bl, w_add, w_addT, w_addL, w_addS, w_sub, w_mul, w_mod, w_div, w_pow, w_lt, w_le, w_gt, w_ge, w_eq, w_ne, w_eqB, w_neB, w_isB, w_isNB, w_lenT, w_lenL, w_tupL, w_tupT, w_listT, w_listL, w_ixT, w_ixL, w_slT, w_slL, w_stT, w_seq, w_skip, w_asg, w_asgT, w_expr, w_ret, w_sIf, w_raise, w_for, w_set, w_try, w_pick0, w_pick, w_fld, w_methO, w_make, w_fldS, items_live, items_multi, ii_list_str, ii_str_lst, w_isNN, w_isIN, w_isTN, w_isSN, w_inNN, w_inTN, decide_true, decide_false,
  mVar_app, List.getElem?_cons_zero, List.getElem?_cons_succ, List.set_cons_zero, List.set_cons_succ, startD, List.map_cons, List.map_nil, List.length_cons, List.length_nil, List.length_map, Nat.zero_add, Nat.reduceAdd, Nat.reduceSub, List.replicate, List.cons_append, List.nil_append, gTupV_app, gVars_nil, gVars_cons, gVar_app, Option.some.injEq, exists_eq_left', wipeD_nil, wipeD_cons, atI0, atI1, atI2,
  decide_eq_true_eq, decide_eq_false_iff_not, Bool.not_eq_true', Bool.not_eq_false', Int.reduceLT, Int.reduceLE, Int.reduceAdd, Int.reduceMul, Int.reduceSub, Int.reduceNeg, true_and, and_true, Bool.true_eq_false, Bool.false_eq_true, false_implies, implies_true, true_implies, Nat.reduceLeDiff, fz_same, ii_int_int, ii_bool_int, ii_int_bl, ii_bool_bl, ii_tuple_tup, ii_str_str, ii_list_lst, ii_list_tup, ii_tuple_lst, ii_tuple_int, ii_list_int, ii_str_int, ii_str_tup, ii_int_str, ii_int_tup, ii_int_lst, ii_int_non, ii_bool_str, ii_tuple_str, ii_tuple_non, ii_list_non, ii_str_non, not_true_eq_false, not_false_eq_true, holds_vals, items_vals, eq_self])
-- s2
theorem turn_ok {Ph : Nat → List D → Sto → R D} (H : Calls Ph) {T : Sto} {N l lo l0 l1 p mo m0 m1 G : Nat} {A : Cells} {ss : List MI.Step} {ds : List Int} {k : Nat} (h : St T N l lo l0 l1 p mo m0 m1 G A ss) (hs : T[0]? = some (.lst (ds.map .int))) (hd : InD ds) (hp8 : 8 ≤ p) (hp : p ≤ 12) (hss : ∀ q, some q ∈ ss → Put.Ok (p + 4) q) (hl : ss.length ≤ 24) (hk3 : k < 3) {x : D} {a7 a8 a9 a10 a11 : Option D} :
    (turn Ph [some x, some (.ref 0), some (.ref l), some (.ref mo), some (.lst (ss.map stepD)), some (.ref (G + 1)), some (.int (0 + (k : Int))), a7, a8, a9, a10, a11] T).wp (fun e t => (∃ a6 a7 a8 a9 a10 a11, e = [some x, some (.ref 0), some (.ref l), some (.ref mo), some (.lst (ss.map stepD)), some (.ref (G + 1)), a6, a7, a8, a9, a10, a11]) ∧ (∃ B, St t N l lo l0 l1 p mo m0 m1 G B ss) ∧ ∃ ds', t[0]? = some (.lst (ds'.map .int)) ∧ InD ds') (fun _ _ => False) nXS := by
  have hgn := groups_num ss
  have hgp : 0 < (groups ss).length := List.length_pos_iff.mpr (groups_ne ss)
  unfold turn
  trivial
  obtain ⟨y, ds1, y0, y1, h1, e1⟩ := H.next 0 T ds hs hd
  rw [e1]
  trivial
  have hB1 := h.set0 (o := .lst (ds1.map .int))
  have hs1 : (T.set 0 (SO.lst (ds1.map .int)))[0]? = some (.lst (ds1.map .int)) := at0_set hs
  generalize T.set 0 (SO.lst (ds1.map .int)) = s1 at hB1 hs1 ⊢
  rw [len_ref hB1.g.out]
  have hgl : (gout G (groups ss).length).length = (groups ss).length := by simp [gout]
  rw [hgl]
  trivial
  have m0' : 0 ≤ y % ((groups ss).length : Int) := Int.emod_nonneg _ (by omega)
  have m1' : y % ((groups ss).length : Int) < (groups ss).length := Int.emod_lt_of_pos _ (by omega)
  obtain ⟨g, hg, ge⟩ : ∃ g : Nat, g < (groups ss).length ∧ y % ((groups ss).length : Int) = (g : Int) := ⟨(y % ((groups ss).length : Int)).toNat, by omega, by omega⟩
  rw [ge]
  refine ⟨by omega, ?_⟩
  have hgat : (groups ss)[g]? = some ((groups ss).getD g []) := by rw [List.getD, List.getElem?_eq_getElem hg]; rfl
  have hgm : (groups ss).getD g [] ∈ groups ss := List.mem_of_getElem? hgat
  have hglen := groups_le ss _ hgm
  rw [ix_ref hB1.g.out (d := .ref (rf G g)) (by simp [gout, hg])]
  trivial
  rw [len_ref (hB1.g.at_ g _ hgat), List.length_map]
  trivial
  obtain ⟨ks, ds2, k1, k2, h2, e2⟩ := H.kept s1 ds1 ((groups ss).getD g []).length hs1 h1 (by omega)
  rw [e2]
  trivial
  have hB2 := hB1.set0 (o := .lst (ds2.map .int))
  have hs2 : (s1.set 0 (SO.lst (ds2.map .int)))[0]? = some (.lst (ds2.map .int)) := at0_set hs1
  generalize s1.set 0 (SO.lst (ds2.map .int)) = s2 at hB2 hs2 ⊢
  obtain ⟨T3, e3, g3, D3⟩ := H.after s2 l lo l0 l1 p (p + 4) A ss g ks hB2.d (by omega) hB2.o hss (by omega) (by omega) hg k1 (by omega)
  rw [e3]
  trivial
  have hT3 := hB2.grow g3
  obtain ⟨T4, e4, g4, C4⟩ := H.lcut T3 mo m0 m1 (p + 4) A ss g ks hT3.c hT3.o hss (by omega) (by omega) hg k1 (by omega)
  rw [e4]
  trivial
  have hO : Cells.Of (p + 4) (cutF A (groups ss) g ks) := fold_of (fold_of h.o)
  have hT4 := hT3.grow g4
  rw [H.has _ _ _ _ _ _ _ _ _ _ (D3.grow g4) C4 hO (by omega)]
  trivial
  rw [H.has _ _ _ _ _ _ _ _ _ _ hT4.d hT4.c hT4.o (by omega)]
  trivial
  rw [ne_handed]
  trivial
  have hn := hB2.n
  have hlt := D3.lt
  refine (turnA_ok H (F := s2.length) (d := T3.length + 2) hT4 (g4.get (g3.get hs2)) hp8 hp hss hl hk3 hg k1 (by omega) (D3.grow g4) C4 hO ⟨by omega, by omega, by omega, by omega⟩ ⟨by omega, by omega, by omega, by omega, by omega, by omega, by omega, by omega, by omega, by omega, by omega, by omega⟩).mono (fun e t hh => ?_) (fun _ _ z => z) (fun _ _ _ z => z)
  obtain ⟨q1, q2, ds', q3, rfl⟩ := hh
  exact ⟨q1, q2, _, q3, h2⟩
theorem law_body {Ph : Nat → List D → Sto → R D} {ns : List Int} (hdr : ∃ ds, InD ds ∧ Ph 10 [.fz (ns.map .int)] [] = .ok (.ref 0) [.lst (ds.map .int)]) (H : Calls Ph) :
    (b_law Ph (startD 12 [.fz (ns.map .int)]) []).wp (fun _ _ => False) (fun v _ => v = .bl true) nXS := by
  obtain ⟨ds, hd, e0⟩ := hdr
  have hs : ([SO.lst (ds.map .int)] : Sto)[0]? = some (.lst (ds.map .int)) := rfl
  have hl : ([SO.lst (ds.map .int)] : Sto).length = 1 := rfl
  generalize [SO.lst (ds.map .int)] = st at e0 hs hl
  rw [law_eq]
  trivial
  rw [e0]
  trivial
  obtain ⟨y, ds1, y0, y1, h1, e1⟩ := H.next 0 st ds hs hd
  rw [e1]
  trivial
  have hs1 : (st.set 0 (SO.lst (ds1.map .int)))[0]? = some (.lst (ds1.map .int)) := at0_set hs
  have hl1 : (st.set 0 (SO.lst (ds1.map .int))).length = 1 := by simpa using hl
  generalize st.set 0 (SO.lst (ds1.map .int)) = s1 at hs1 hl1 ⊢
  obtain ⟨p, hp8, hp12, hpe⟩ : ∃ p : Nat, 8 ≤ p ∧ p ≤ 12 ∧ 8 + y % 5 = (p : Int) := ⟨(8 + y % 5).toNat, by omega, by omega, by omega⟩
  rw [hpe, H.init s1 p (by omega)]
  trivial
  have hD := dk_new s1 p
  have hsD : (s1 ++ dsk s1.length p)[0]? = some (.lst (ds1.map .int)) := by rw [List.getElem?_append_left (by omega)]; exact hs1
  have hlD : (s1 ++ dsk s1.length p).length = 7 := by simp [dsk]; omega
  rw [hl1] at hD hsD hlD ⊢
  generalize s1 ++ dsk 1 p = S at hD hsD hlD ⊢
  unfold restL
  rw [w_seq, w_asg]
  have hfld : ∀ (env : DEnv) (X : Sto), env[2]? = some (some (.ref 1)) → X[1]? = some (diskO p (1 + 5)) → mBin opAdd (mFld (fOk "places") "places" (mVar 2)) (mC (.int 4)) env X = .ok (.int ((p + 4 : Nat) : Int)) X := fun env X h hx => by
    refine R.wp.eq ?_
    have v : mVar 2 env X = .ok (.ref 1) X := by simp only [mVar, h]
    rw [w_bin, w_fld, v, w_ok, getFld_at (d := .int (p : Int)) hx rfl rfl, w_ok, w_C, w_add]
    exact ⟨by congr 1, rfl⟩
  refine two_new (n := p + 4) (by omega) (fun X => hfld _ _ rfl (by rw [List.getElem?_append_left (by omega)]; exact hD.d.ins)) ?_
  have hC := cl_new S (p + 4)
  have hD := hD.grow (Grow.app S (cls0 S.length (p + 4)))
  have hs2 : (S ++ cls0 S.length (p + 4))[0]? = some (.lst (ds1.map .int)) := by rw [List.getElem?_append_left (by omega)]; exact hsD
  rw [hlD] at hC hD hs2 ⊢
  generalize S ++ cls0 7 (p + 4) = S at hC hD hs2 ⊢
  trivial
  obtain ⟨A, ds2, S2, e2, hD2, hC2, hA, h2, hs3, _⟩ := H.fill S ds1 _ _ _ _ p _ _ _ _ hD hC ⟨by omega, by omega, by omega⟩ (blank_of _) (by omega) hs2 h1
  rw [e2]
  trivial
  rw [getFld_at (d := .int (p : Int)) hD2.d.ins rfl rfl]
  trivial
  rw [show (p : Int) + 4 = ((p + 4 : Nat) : Int) by omega]
  obtain ⟨ss, ds3, s1', s2, h3, e3⟩ := H.steps S2 ds2 (p + 4) hs3 h2 (by omega) (by omega)
  rw [e3]
  trivial
  have hD3 : Dk (S2.set 0 (.lst (ds3.map .int))) 1 (1 + 5) (1 + 2) (1 + 4) p A := hD2.upd upd0 (by omega)
  have hC3 : MI.Cl (S2.set 0 (.lst (ds3.map .int))) (7 + 4) (7 + 1) (7 + 3) A := hC2.upd upd0 (by omega)
  have hs4 : (S2.set 0 (.lst (ds3.map .int)))[0]? = some (.lst (ds3.map .int)) := at0_set hs3
  generalize S2.set 0 (.lst (ds3.map .int)) = S3 at hD3 hC3 hs4 ⊢
  rw [H.lgr S3 ss (by omega)]
  trivial
  have hG : GrAt (S3 ++ gst S3.length (groups ss)) S3.length (groups ss) := ⟨gst_out (groups_ne ss), fun k x hx => gst_at hx⟩
  have v1 := hC3.lt
  have v2 := hD3.lt
  have hT : St (S3 ++ gst S3.length (groups ss)) (S3 ++ gst S3.length (groups ss)).length 1 (1 + 5) (1 + 2) (1 + 4) p (7 + 4) (7 + 1) (7 + 3) S3.length A ss :=
    ⟨hD3.grow (Grow.app _ _), hC3.grow (Grow.app _ _), hG, ⟨by omega, by omega, by omega⟩, ⟨by omega, by omega, by omega, by omega, by omega, by omega, by omega, by omega⟩, hA, (List.getElem?_eq_some_iff.mp hG.out).1, fun k hk => (List.getElem?_eq_some_iff.mp (hG.at_ k _ (List.getElem?_eq_getElem hk))).1, Nat.le_refl _⟩
  have hz : (S3 ++ gst S3.length (groups ss))[0]? = some (.lst (ds3.map .int)) := by rw [List.getElem?_append_left (by omega)]; exact hs4
  generalize (S3 ++ gst S3.length (groups ss)).length = N at hT
  generalize S3 ++ gst S3.length (groups ss) = T at hT hz ⊢
  generalize S3.length = G at hT ⊢
  unfold loopT
  rw [w_seq, w_for]
  have hr : iRange1 (mC (.int 3)) [some (.fz (ns.map .int)), some (.ref 0), some (.ref 1), some (.ref (7 + 4)), some (.lst (ss.map stepD)), some (.ref (G + 1)), none, none, none, none, none, none] T = .ok (.vals (rangeD 0 3)) T := iRange1_nat (n := 3) rfl (by decide)
  rw [hr, w_ok, items_vals]
  refine for_wp (fun k env t => (∃ a6 a7 a8 a9 a10 a11, env = [some (.fz (ns.map .int)), some (.ref 0), some (.ref 1), some (.ref (7 + 4)), some (.lst (ss.map stepD)), some (.ref (G + 1)), a6, a7, a8, a9, a10, a11]) ∧ (∃ B, St t N 1 (1 + 5) (1 + 2) (1 + 4) p (7 + 4) (7 + 1) (7 + 3) G B ss) ∧ ∃ ds', t[0]? = some (.lst (ds'.map .int)) ∧ InD ds') _ ⟨⟨_, _, _, _, _, _, rfl⟩, ⟨A, hT⟩, ds3, hz, h3⟩ ?_ ?_
  · rintro k d env t hk ⟨⟨a6, a7, a8, a9, a10, a11, rfl⟩, ⟨B, hb⟩, ds4, ht, h4⟩
    obtain ⟨hk3, rfl⟩ := rangeD_at hk
    refine ⟨_, rfl, ?_⟩
    exact (turn_ok H hb ht h4 hp8 hp12 s2 s1' hk3).mono (fun e t h => ⟨True.intro, h⟩) (fun _ _ z => z.elim) (fun _ _ _ z => z)
  · rintro env t ⟨⟨a6, a7, a8, a9, a10, a11, rfl⟩, _⟩
    trivial
end LK55
namespace LK55
open PySem PySem.Spec PyProof.Rows L2 MX MI
local macro_rules | `(tactic| trivial) => `(tactic| simp only [w_ok, w_exc, w_C, w_bin, w_neg, w_and, w_or, w_not, w_ifE, w_args0, w_args, w_tup, w_lst, w_new, w_call, w_isI, w_chain, w_opt0, w_opt, w_sl, w_st, w_methL, w_methS, on_bl, ot_bl, w_add, w_addT, w_addL, w_addS, w_sub, w_mul, w_mod, w_div, w_pow, w_lt, w_le, w_gt, w_ge, w_eq, w_ne, w_eqB, w_neB, w_isB, w_isNB, w_lenT, w_lenL, w_tupL, w_tupT, w_listT, w_listL, w_ixT, w_ixL, w_slT, w_slL, w_stT, w_seq, w_skip, w_asg, w_asgT, w_expr, w_ret, w_sIf, w_raise, w_for, w_set, w_try, w_pick0, w_pick, w_fld, w_methO, w_make, w_fldS, items_live, items_multi, ii_list_str, ii_str_lst, w_isNN, w_isIN, w_isTN, w_isSN, w_inNN, w_inTN, decide_true, decide_false,
  mVar_app, List.getElem?_cons_zero, List.getElem?_cons_succ, List.set_cons_zero, List.set_cons_succ, startD, List.map_cons, List.map_nil, List.length_cons, List.length_nil, List.length_map, Nat.zero_add, Nat.reduceAdd, Nat.reduceSub, List.replicate, List.cons_append, List.nil_append, gTupV_app, gVars_nil, gVars_cons, gVar_app, Option.some.injEq, exists_eq_left', wipeD_nil, wipeD_cons, atI0, atI1, atI2,
  decide_eq_true_eq, decide_eq_false_iff_not, Bool.not_eq_true', Bool.not_eq_false', Int.reduceLT, Int.reduceLE, Int.reduceAdd, Int.reduceMul, Int.reduceSub, Int.reduceNeg, true_and, and_true, Bool.true_eq_false, Bool.false_eq_true, false_implies, implies_true, true_implies, Nat.reduceLeDiff, fz_same, ii_int_int, ii_bool_int, ii_int_bl, ii_bool_bl, ii_tuple_tup, ii_str_str, ii_list_lst, ii_list_tup, ii_tuple_lst, ii_tuple_int, ii_list_int, ii_str_int, ii_str_tup, ii_int_str, ii_int_tup, ii_int_lst, ii_int_non, ii_bool_str, ii_tuple_str, ii_tuple_non, ii_list_non, ii_str_non, not_true_eq_false, not_false_eq_true, holds_vals, items_vals, eq_self])
-- s2
section
variable (n : Nat)
theorem fC : fOk sCopies sDisk = true := rfl
theorem fP : fOk sPlaces sDisk = true := rfl
theorem P_mixed (c k : Int) (st : Sto) (h0 : 0 ≤ k) (h1 : k < 1000) : Phi tbl (n + 1) 9 [.int c, .int k] st = .ok (.int (mixedZ c k)) st := by rw [phi__law_mixed]; exact mixed_ok h0 h1
theorem P_draws (ns : List Int) : ∃ ds, InD ds ∧ Phi tbl (n + 2) 10 [.fz (ns.map .int)] [] = .ok (.ref 0) [.lst (ds.map .int)] := by rw [phi__law_draws]; exact draws_def (im := 9) (F := 1000) (Nat.le_refl _) (P_mixed n)
theorem P_next : NextOk (Phi tbl (n + 1) 11) := fun a b c d e => by rw [phi__law_next]; exact next_def a b c d e
theorem P_sum : SumOk (Phi tbl (n + 1) 6) := fun a b c => by rw [phi_sum_of]; exact sumof_ok a b c
theorem P_cell : CellOk (Phi tbl (n + 2) 7) := fun a b c => by rw [phi_cell_of]; exact cellof_ok (P_sum n) a b c
theorem P_write : WriteOk (Phi tbl (n + 3) 27) := fun a b c d e f g h i j k l m => by rw [phi_Disk_write]; exact write_ok fC (P_cell n) a b c d e f g h i j k l m
theorem P_dcell : DCellOk (Phi tbl (n + 1) 25) := fun a b c d e f g h i j k l m o q => by rw [phi_Disk_cell]; exact dcell_ok fC a b c d e f g h i j k l m o q
theorem P_doputs : DoPutsOk (Phi tbl (n + 4) 1) := fun a b c d e f g h i j k l m o q => by rw [phi_do_puts]; exact doputs_ok (P_write n) a b c d e f g h i j k l m o q
theorem P_gof : GroupsOk (Phi tbl (n + 1) 0) := fun a b c => by rw [phi_groups_of]; exact groupsof_ok a b c
theorem P_cut : CutOk (Phi tbl (n + 5) 2) := fun a b c d e f g h i j k l m o q r s t u => by rw [phi_cut_steps]; exact cutsteps_ok (P_gof (n + 3)) (P_doputs n) a b c d e f g h i j k l m o q r s t u
theorem P_cont : ContDrawOk (Phi tbl (n + 2) 15) := fun a b c d => by rw [phi__law_content]; exact contdraw_ok (P_next n) a b c d
theorem P_lgr : GroupsOk (Phi tbl (n + 1) 18) := fun a b c => by rw [phi__law_groups]; exact lgroups_ok a b c
theorem P_same0 : SameD (Phi tbl (n + 1) 12) 0 := fun st d e h => by rw [phi__law_same]; exact same0_ok st d e h
theorem P_all (m : Nat) (h : SameD (Phi tbl n 12) m) : AllD (Phi tbl (n + 1) 13) m := fun a b c d e f g i j => by rw [phi__law_all_same]; exact alld_ok h a b c d e f g i j
theorem P_sameS (m : Nat) (h : AllD (Phi tbl n 13) m) : SameD (Phi tbl (n + 1) 12) (m + 1) := fun st d e i => by rw [phi__law_same]; exact sameS_ok h st d e i
theorem P_same1 : SameD (Phi tbl (n + 3) 12) 1 := P_sameS _ 0 (P_all _ 0 (P_same0 n))
theorem P_same2 : SameD (Phi tbl (n + 5) 12) 2 := P_sameS _ 1 (P_all _ 1 (P_same1 n))
theorem P_same3 : SameD (Phi tbl (n + 7) 12) 3 := P_sameS _ 2 (P_all _ 2 (P_same2 n))
theorem P_same4 : SameD (Phi tbl (n + 9) 12) 4 := P_sameS _ 3 (P_all _ 3 (P_same3 n))
theorem P_init : InitOk (Phi tbl (n + 1) 24) := fun a b c => by rw [phi_Disk___init__]; exact init_ok fC fP a b c
theorem P_twin : TwinOk (Phi tbl (n + 2) 30) := fun a b c d e f g h i j k => by rw [phi_Disk_twin]; exact twin_ok fC fP (P_init n) a b c d e f g h i j k
theorem P_lcell : CellOk (Phi tbl (n + 1) 14) := fun a b c => by rw [phi__law_cell]; exact cell_ok a b c
theorem P_put : PutOk (Phi tbl (n + 3) 16) := fun a b c d e f g => by rw [phi__law_put]; exact put_ok (P_next (n + 1)) (P_cont n) a b c d e f g
theorem P_steps : StepsOk (Phi tbl (n + 4) 17) := fun a b c d e f g => by rw [phi__law_steps]; exact steps_ok (P_next (n + 2)) (P_put n) a b c d e f g
theorem P_kept : KeptOk (Phi tbl (n + 2) 19) := fun a b c d e f => by rw [phi__law_kept]; exact kept_ok (P_next n) a b c d e f
theorem P_rot : RotOk (Phi tbl (n + 1) 26) := fun a b c d e f g h i j k l m o p q => by rw [phi_Disk_rot]; exact rot_ok fC a b c d e f g h i j k l m o p q
theorem P_fill : FillOk (Phi tbl (n + 4) 20) := fun T ds l lo l0 l1 p mo m0 m1 A hD hC hS hA hp hs hd => by rw [phi__law_fill]; exact fill_ok (P_next (n + 2)) (P_put n) (P_rot (n + 2)) (P_write n) (P_lcell (n + 2)) T ds l lo l0 l1 p mo m0 m1 A hD hC hS hA hp hs hd
theorem P_lcut : LCut2 (Phi tbl (n + 2) 21) := fun T mo m0 m1 m A ss g ks hC hA hs hn hl hg hk hkl => by rw [phi__law_cut]; exact lcut_ok (P_lcell n) (P_lgr n) T mo m0 m1 m A ss g ks hC hA hs hn hl hg hk hkl
theorem P_has : HasP (Phi tbl (n + 6) 22) := fun T l lo l0 l1 p mo m0 m1 A hD hC hA hp => by rw [phi__law_has]; exact has_ok (P_same2 n) (P_dcell (n + 4)) T l lo l0 l1 p mo m0 m1 A hD hC hA hp
theorem P_after : AfterOk (Phi tbl (n + 6) 3) := fun T l lo l0 l1 p m A ss g ks hD hp hA hs hn hl hg hk hkl => by rw [phi_after_cut]; exact after_ok (P_twin (n + 3)) (P_cut n) T l lo l0 l1 p m A ss g ks hD hp hA hs hn hl hg hk hkl
end
theorem calls : Calls (Phi tbl 11) := ⟨P_next 10, P_init 10, P_fill 7, P_steps 7, P_lgr 10, P_kept 9, P_after 5, P_lcut 9, P_write 8, P_lcell 10, P_has 5⟩
theorem law_pure (ns : List Int) (h : ns.length ≤ 63) : ∃ st, Phi tbl 12 23 [.fz (ns.map .int)] [] = .ok (.bl true) st := by
  obtain ⟨v, st, q, rfl⟩ := (law_body (Ph := Phi tbl 11) (P_draws 9 ns) calls).rt
  rw [phi_law]
  exact law_done rfl rfl q
end LK55
/-! the reading of each def; the head -/
namespace LK55
open PySem PySem.Spec PyProof.Rows L2 MI
theorem sc_groups_of : FnScope ["steps", "groups", "step"] ["steps"] (defScope (topS 1)) := ⟨rfl, rfl, rfl, by decide +kernel, rfl, by decide +kernel, by decide +kernel⟩
theorem rd_groups_of (Ph : Nat → List D → Sto → R D) : ofSs Ph 300 (cc.at ["steps", "groups", "step"] (defScope (topS 1))) (defBody (topS 1)) = some (b_groups_of Ph) := by kernel_rfl
theorem sc_do_puts : FnScope ["disk", "puts", "word", "copy", "spot", "content"] ["disk", "puts"] (defScope (topS 2)) := ⟨rfl, rfl, rfl, by decide +kernel, rfl, by decide +kernel, by decide +kernel⟩
theorem rd_do_puts (Ph : Nat → List D → Sto → R D) : ofSs Ph 300 (cc.at ["disk", "puts", "word", "copy", "spot", "content"] (defScope (topS 2))) (defBody (topS 2)) = some (b_do_puts Ph) := by kernel_rfl
theorem sc_cut_steps : FnScope ["disk", "steps", "group", "kept", "groups", "puts", "number"] ["disk", "steps", "group", "kept"] (defScope (topS 3)) := ⟨rfl, rfl, rfl, by decide +kernel, rfl, by decide +kernel, by decide +kernel⟩
theorem rd_cut_steps (Ph : Nat → List D → Sto → R D) : ofSs Ph 300 (cc.at ["disk", "steps", "group", "kept", "groups", "puts", "number"] (defScope (topS 3))) (defBody (topS 3)) = some (b_cut_steps Ph) := by kernel_rfl
theorem sc_after_cut : FnScope ["disk", "steps", "group", "kept", "other"] ["disk", "steps", "group", "kept"] (defScope (topS 5)) := ⟨rfl, rfl, rfl, by decide +kernel, rfl, by decide +kernel, by decide +kernel⟩
theorem rd_after_cut (Ph : Nat → List D → Sto → R D) : ofSs Ph 300 (cc.at ["disk", "steps", "group", "kept", "other"] (defScope (topS 5))) (defBody (topS 5)) = some (b_after_cut Ph) := by kernel_rfl
theorem sc_is_number : FnScope ["one"] ["one"] (defScope (topS 12)) := ⟨rfl, rfl, rfl, by decide +kernel, rfl, by decide +kernel, by decide +kernel⟩
theorem rd_is_number (Ph : Nat → List D → Sto → R D) : ofSs Ph 300 (cc.at ["one"] (defScope (topS 12))) (defBody (topS 12)) = some (b_is_number Ph) := by kernel_rfl
theorem sc_is_content : FnScope ["one", "number"] ["one"] (defScope (topS 13)) := ⟨rfl, rfl, rfl, by decide +kernel, rfl, by decide +kernel, by decide +kernel⟩
theorem rd_is_content (Ph : Nat → List D → Sto → R D) : ofSs Ph 300 (cc.at ["one", "number"] (defScope (topS 13))) (defBody (topS 13)) = some (b_is_content Ph) := by kernel_rfl
theorem sc_sum_of : FnScope ["spot", "content", "found", "number"] ["spot", "content"] (defScope (topS 14)) := ⟨rfl, rfl, rfl, by decide +kernel, rfl, by decide +kernel, by decide +kernel⟩
theorem rd_sum_of (Ph : Nat → List D → Sto → R D) : ofSs Ph 300 (cc.at ["spot", "content", "found", "number"] (defScope (topS 14))) (defBody (topS 14)) = some (b_sum_of Ph) := by kernel_rfl
theorem sc_cell_of : FnScope ["spot", "content"] ["spot", "content"] (defScope (topS 15)) := ⟨rfl, rfl, rfl, by decide +kernel, rfl, by decide +kernel, by decide +kernel⟩
theorem rd_cell_of (Ph : Nat → List D → Sto → R D) : ofSs Ph 300 (cc.at ["spot", "content"] (defScope (topS 15))) (defBody (topS 15)) = some (b_cell_of Ph) := by kernel_rfl
theorem sc_is_right : FnScope ["spot", "cell"] ["spot", "cell"] (defScope (topS 16)) := ⟨rfl, rfl, rfl, by decide +kernel, rfl, by decide +kernel, by decide +kernel⟩
theorem rd_is_right (Ph : Nat → List D → Sto → R D) : ofSs Ph 300 (cc.at ["spot", "cell"] (defScope (topS 16))) (defBody (topS 16)) = some (b_is_right Ph) := by kernel_rfl
theorem sc__law_mixed : FnScope ["_law_cell_here", "_law_k", "_law_number"] ["_law_cell_here", "_law_k"] (defScope (topS 21)) := ⟨rfl, rfl, rfl, by decide +kernel, rfl, by decide +kernel, by decide +kernel⟩
theorem rd__law_mixed (Ph : Nat → List D → Sto → R D) : ofSs Ph 300 (cc.at ["_law_cell_here", "_law_k", "_law_number"] (defScope (topS 21))) (defBody (topS 21)) = some (b__law_mixed Ph) := by kernel_rfl
theorem sc__law_draws : FnScope ["_law_script", "_law_drawn", "_law_k", "_law_cell_here", "_law_j"] ["_law_script"] (defScope (topS 22)) := ⟨rfl, rfl, rfl, by decide +kernel, rfl, by decide +kernel, by decide +kernel⟩
theorem rd__law_draws (Ph : Nat → List D → Sto → R D) : ofSs Ph 300 (cc.at ["_law_script", "_law_drawn", "_law_k", "_law_cell_here", "_law_j"] (defScope (topS 22))) (defBody (topS 22)) = some (b__law_draws Ph) := by kernel_rfl
theorem sc__law_next : FnScope ["_law_drawn"] ["_law_drawn"] (defScope (topS 23)) := ⟨rfl, rfl, rfl, by decide +kernel, rfl, by decide +kernel, by decide +kernel⟩
theorem rd__law_next (Ph : Nat → List D → Sto → R D) : ofSs Ph 300 (cc.at ["_law_drawn"] (defScope (topS 23))) (defBody (topS 23)) = some (b__law_next Ph) := by kernel_rfl
theorem sc__law_same : FnScope ["_law_found", "_law_due"] ["_law_found", "_law_due"] (defScope (topS 24)) := ⟨rfl, rfl, rfl, by decide +kernel, rfl, by decide +kernel, by decide +kernel⟩
theorem rd__law_same (Ph : Nat → List D → Sto → R D) : ofSs Ph 300 (cc.at ["_law_found", "_law_due"] (defScope (topS 24))) (defBody (topS 24)) = some (b__law_same Ph) := by kernel_rfl
theorem sc__law_all_same : FnScope ["_law_found", "_law_due", "_law_one", "_law_other"] ["_law_found", "_law_due"] (defScope (topS 25)) := ⟨rfl, rfl, rfl, by decide +kernel, rfl, by decide +kernel, by decide +kernel⟩
theorem rd__law_all_same (Ph : Nat → List D → Sto → R D) : ofSs Ph 300 (cc.at ["_law_found", "_law_due", "_law_one", "_law_other"] (defScope (topS 25))) (defBody (topS 25)) = some (b__law_all_same Ph) := by kernel_rfl
theorem sc__law_cell : FnScope ["_law_spot", "_law_content_here", "_law_number", "_law_one"] ["_law_spot", "_law_content_here"] (defScope (topS 26)) := ⟨rfl, rfl, rfl, by decide +kernel, rfl, by decide +kernel, by decide +kernel⟩
theorem rd__law_cell (Ph : Nat → List D → Sto → R D) : ofSs Ph 300 (cc.at ["_law_spot", "_law_content_here", "_law_number", "_law_one"] (defScope (topS 26))) (defBody (topS 26)) = some (b__law_cell Ph) := by kernel_rfl
theorem sc__law_content : FnScope ["_law_drawn", "_law_number", "_law_k"] ["_law_drawn"] (defScope (topS 27)) := ⟨rfl, rfl, rfl, by decide +kernel, rfl, by decide +kernel, by decide +kernel⟩
theorem rd__law_content (Ph : Nat → List D → Sto → R D) : ofSs Ph 300 (cc.at ["_law_drawn", "_law_number", "_law_k"] (defScope (topS 27))) (defBody (topS 27)) = some (b__law_content Ph) := by kernel_rfl
theorem sc__law_put : FnScope ["_law_drawn", "_law_spots", "_law_number", "_law_spot"] ["_law_drawn", "_law_spots"] (defScope (topS 28)) := ⟨rfl, rfl, rfl, by decide +kernel, rfl, by decide +kernel, by decide +kernel⟩
theorem rd__law_put (Ph : Nat → List D → Sto → R D) : ofSs Ph 300 (cc.at ["_law_drawn", "_law_spots", "_law_number", "_law_spot"] (defScope (topS 28))) (defBody (topS 28)) = some (b__law_put Ph) := by kernel_rfl
theorem sc__law_steps : FnScope ["_law_drawn", "_law_spots", "_law_steps_here", "_law_k"] ["_law_drawn", "_law_spots"] (defScope (topS 29)) := ⟨rfl, rfl, rfl, by decide +kernel, rfl, by decide +kernel, by decide +kernel⟩
theorem rd__law_steps (Ph : Nat → List D → Sto → R D) : ofSs Ph 300 (cc.at ["_law_drawn", "_law_spots", "_law_steps_here", "_law_k"] (defScope (topS 29))) (defBody (topS 29)) = some (b__law_steps Ph) := by kernel_rfl
theorem sc__law_groups : FnScope ["_law_steps_here", "_law_groups_here", "_law_step"] ["_law_steps_here"] (defScope (topS 30)) := ⟨rfl, rfl, rfl, by decide +kernel, rfl, by decide +kernel, by decide +kernel⟩
theorem rd__law_groups (Ph : Nat → List D → Sto → R D) : ofSs Ph 300 (cc.at ["_law_steps_here", "_law_groups_here", "_law_step"] (defScope (topS 30))) (defBody (topS 30)) = some (b__law_groups Ph) := by kernel_rfl
theorem sc__law_kept : FnScope ["_law_drawn", "_law_many", "_law_left", "_law_kept_here", "_law_k"] ["_law_drawn", "_law_many"] (defScope (topS 31)) := ⟨rfl, rfl, rfl, by decide +kernel, rfl, by decide +kernel, by decide +kernel⟩
theorem rd__law_kept (Ph : Nat → List D → Sto → R D) : ofSs Ph 300 (cc.at ["_law_drawn", "_law_many", "_law_left", "_law_kept_here", "_law_k"] (defScope (topS 31))) (defBody (topS 31)) = some (b__law_kept Ph) := by kernel_rfl
theorem sc__law_fill : FnScope ["_law_disk", "_law_cells", "_law_drawn", "_law_k", "_law_number", "_law_word", "_law_copy", "_law_spot", "_law_content_here", "_law_cell_here"] ["_law_disk", "_law_cells", "_law_drawn"] (defScope (topS 32)) := ⟨rfl, rfl, rfl, by decide +kernel, rfl, by decide +kernel, by decide +kernel⟩
theorem rd__law_fill (Ph : Nat → List D → Sto → R D) : ofSs Ph 300 (cc.at ["_law_disk", "_law_cells", "_law_drawn", "_law_k", "_law_number", "_law_word", "_law_copy", "_law_spot", "_law_content_here", "_law_cell_here"] (defScope (topS 32))) (defBody (topS 32)) = some (b__law_fill Ph) := by kernel_rfl
theorem sc__law_cut : FnScope ["_law_cells", "_law_steps_here", "_law_group", "_law_kept_here", "_law_found", "_law_groups_here", "_law_puts", "_law_one", "_law_word", "_law_copy", "_law_spot", "_law_content_here", "_law_number"] ["_law_cells", "_law_steps_here", "_law_group", "_law_kept_here"] (defScope (topS 33)) := ⟨rfl, rfl, rfl, by decide +kernel, rfl, by decide +kernel, by decide +kernel⟩
theorem rd__law_cut (Ph : Nat → List D → Sto → R D) : ofSs Ph 300 (cc.at ["_law_cells", "_law_steps_here", "_law_group", "_law_kept_here", "_law_found", "_law_groups_here", "_law_puts", "_law_one", "_law_word", "_law_copy", "_law_spot", "_law_content_here", "_law_number"] (defScope (topS 33))) (defBody (topS 33)) = some (b__law_cut Ph) := by kernel_rfl
theorem sc__law_has : FnScope ["_law_disk", "_law_cells", "_law_copy", "_law_spot"] ["_law_disk", "_law_cells"] (defScope (topS 34)) := ⟨rfl, rfl, rfl, by decide +kernel, rfl, by decide +kernel, by decide +kernel⟩
theorem rd__law_has (Ph : Nat → List D → Sto → R D) : ofSs Ph 300 (cc.at ["_law_disk", "_law_cells", "_law_copy", "_law_spot"] (defScope (topS 34))) (defBody (topS 34)) = some (b__law_has Ph) := by kernel_rfl
theorem sc_law : FnScope ["_law_script", "_law_drawn", "_law_disk", "_law_cells", "_law_steps_here", "_law_groups_here", "_law_k", "_law_group", "_law_kept_here", "_law_handed", "_law_found", "_law_due"] ["_law_script"] (defScope (topS 35)) := ⟨rfl, rfl, rfl, by decide +kernel, rfl, by decide +kernel, by decide +kernel⟩
theorem rd_law (Ph : Nat → List D → Sto → R D) : ofSs Ph 300 (cc.at ["_law_script", "_law_drawn", "_law_disk", "_law_cells", "_law_steps_here", "_law_groups_here", "_law_k", "_law_group", "_law_kept_here", "_law_handed", "_law_found", "_law_due"] (defScope (topS 35))) (defBody (topS 35)) = some (b_law Ph) := by kernel_rfl
theorem sc_Disk___init__ : FnScope ["self", "places"] ["self", "places"] (defScope (clsS 19 0)) := ⟨rfl, rfl, rfl, by decide +kernel, rfl, by decide +kernel, by decide +kernel⟩
theorem rd_Disk___init__ (Ph : Nat → List D → Sto → R D) : ofSs Ph 300 (cc.at ["self", "places"] (defScope (clsS 19 0))) (defBody (clsS 19 0)) = some (b_Disk___init__ Ph) := by kernel_rfl
theorem sc_Disk_cell : FnScope ["self", "copy", "spot"] ["self", "copy", "spot"] (defScope (clsS 19 1)) := ⟨rfl, rfl, rfl, by decide +kernel, rfl, by decide +kernel, by decide +kernel⟩
theorem rd_Disk_cell (Ph : Nat → List D → Sto → R D) : ofSs Ph 300 (cc.at ["self", "copy", "spot"] (defScope (clsS 19 1))) (defBody (clsS 19 1)) = some (b_Disk_cell Ph) := by kernel_rfl
theorem sc_Disk_rot : FnScope ["self", "copy", "spot", "cell"] ["self", "copy", "spot", "cell"] (defScope (clsS 19 2)) := ⟨rfl, rfl, rfl, by decide +kernel, rfl, by decide +kernel, by decide +kernel⟩
theorem rd_Disk_rot (Ph : Nat → List D → Sto → R D) : ofSs Ph 300 (cc.at ["self", "copy", "spot", "cell"] (defScope (clsS 19 2))) (defBody (clsS 19 2)) = some (b_Disk_rot Ph) := by kernel_rfl
theorem sc_Disk_write : FnScope ["self", "copy", "spot", "content"] ["self", "copy", "spot", "content"] (defScope (clsS 19 3)) := ⟨rfl, rfl, rfl, by decide +kernel, rfl, by decide +kernel, by decide +kernel⟩
theorem rd_Disk_write (Ph : Nat → List D → Sto → R D) : ofSs Ph 300 (cc.at ["self", "copy", "spot", "content"] (defScope (clsS 19 3))) (defBody (clsS 19 3)) = some (b_Disk_write Ph) := by kernel_rfl
theorem sc_Disk_look : FnScope ["self", "copy", "spot", "cell"] ["self", "copy", "spot"] (defScope (clsS 19 4)) := ⟨rfl, rfl, rfl, by decide +kernel, rfl, by decide +kernel, by decide +kernel⟩
theorem rd_Disk_look (Ph : Nat → List D → Sto → R D) : ofSs Ph 300 (cc.at ["self", "copy", "spot", "cell"] (defScope (clsS 19 4))) (defBody (clsS 19 4)) = some (b_Disk_look Ph) := by kernel_rfl
theorem sc_Disk_read : FnScope ["self", "spot", "copy", "content"] ["self", "spot"] (defScope (clsS 19 5)) := ⟨rfl, rfl, rfl, by decide +kernel, rfl, by decide +kernel, by decide +kernel⟩
theorem rd_Disk_read (Ph : Nat → List D → Sto → R D) : ofSs Ph 300 (cc.at ["self", "spot", "copy", "content"] (defScope (clsS 19 5))) (defBody (clsS 19 5)) = some (b_Disk_read Ph) := by kernel_rfl
theorem sc_Disk_twin : FnScope ["self", "found", "cells"] ["self"] (defScope (clsS 19 6)) := ⟨rfl, rfl, rfl, by decide +kernel, rfl, by decide +kernel, by decide +kernel⟩
theorem rd_Disk_twin (Ph : Nat → List D → Sto → R D) : ofSs Ph 300 (cc.at ["self", "found", "cells"] (defScope (clsS 19 6))) (defBody (clsS 19 6)) = some (b_Disk_twin Ph) := by kernel_rfl
theorem defOk_mk {K : PySem.W.Frag} {h : Heap} {mg : Str → Option Value} (X : K.In h) (G : h.Ns mainGlobals mg) {x : Str} {s : Stmt} {N ps : List Str} {d : DefR} {n : Nat} {f : Addr} {oc : Value} {od an : Option Addr} {osl : Array (Option Value)} {kV doc pm cdv ct : Value}
    (S : FnScope N ps (defScope s)) (ha : d.arity = ps.length) (hs : d.slots = N.length) (rd : ∀ Ph, ofSs Ph n (cc.at N (defScope s)) (defBody s) = some (d.body Ph))
    (bi : ∀ (kV doc pm : Value) (an : Option Addr) (cdv ct : Value) (us : List Value), us.length = ps.length → bindArgs (PySem.W.fnOf x x (defArgs s) (defBody s) (defScope s) .none kV doc pm an cdv ct) ⟨us, []⟩ = pure (ps.zip us))
    (a : PySem.W.nsIn K mainGlobals x = some (some (.ref f))) (l : K.lookup f = some ⟨oc, od, .func (PySem.W.fnOf x x (defArgs s) (defBody s) (defScope s) .none kV doc pm an cdv ct), osl⟩) (c : PySem.W.codeIn K cdv x = true) (k : PySem.W.keepIn K (.ref f) = true) : DefOk K mg cc x d :=
  have F := fun_mk (st := s) l c k
  ⟨s, f, _, N, ps, n, PySem.W.mg_of X G a, F, F.binds bi, S, ha, hs, rd⟩
theorem all_mk {l : PySem.W.OpenLaw} {w : World} {K : PySem.W.Frag} {h : Heap} {mg : Str → Option Value} {fa : Addr} (X : K.In h) (G : h.Ns mainGlobals mg) (hfa : mg "law" = some (.ref fa))
    {f0 : Addr} {oc0 kV0 dc0 pm0 cd0 ct0 : Value} {od0 an0 : Option Addr} {sl0 : Array (Option Value)}
    {f1 : Addr} {oc1 kV1 dc1 pm1 cd1 ct1 : Value} {od1 an1 : Option Addr} {sl1 : Array (Option Value)}
    {f2 : Addr} {oc2 kV2 dc2 pm2 cd2 ct2 : Value} {od2 an2 : Option Addr} {sl2 : Array (Option Value)}
    {f3 : Addr} {oc3 kV3 dc3 pm3 cd3 ct3 : Value} {od3 an3 : Option Addr} {sl3 : Array (Option Value)}
    {f4 : Addr} {oc4 kV4 dc4 pm4 cd4 ct4 : Value} {od4 an4 : Option Addr} {sl4 : Array (Option Value)}
    {f5 : Addr} {oc5 kV5 dc5 pm5 cd5 ct5 : Value} {od5 an5 : Option Addr} {sl5 : Array (Option Value)}
    {f6 : Addr} {oc6 kV6 dc6 pm6 cd6 ct6 : Value} {od6 an6 : Option Addr} {sl6 : Array (Option Value)}
    {f7 : Addr} {oc7 kV7 dc7 pm7 cd7 ct7 : Value} {od7 an7 : Option Addr} {sl7 : Array (Option Value)}
    {f8 : Addr} {oc8 kV8 dc8 pm8 cd8 ct8 : Value} {od8 an8 : Option Addr} {sl8 : Array (Option Value)}
    {f9 : Addr} {oc9 kV9 dc9 pm9 cd9 ct9 : Value} {od9 an9 : Option Addr} {sl9 : Array (Option Value)}
    {f10 : Addr} {oc10 kV10 dc10 pm10 cd10 ct10 : Value} {od10 an10 : Option Addr} {sl10 : Array (Option Value)}
    {f11 : Addr} {oc11 kV11 dc11 pm11 cd11 ct11 : Value} {od11 an11 : Option Addr} {sl11 : Array (Option Value)}
    {f12 : Addr} {oc12 kV12 dc12 pm12 cd12 ct12 : Value} {od12 an12 : Option Addr} {sl12 : Array (Option Value)}
    {f13 : Addr} {oc13 kV13 dc13 pm13 cd13 ct13 : Value} {od13 an13 : Option Addr} {sl13 : Array (Option Value)}
    {f14 : Addr} {oc14 kV14 dc14 pm14 cd14 ct14 : Value} {od14 an14 : Option Addr} {sl14 : Array (Option Value)}
    {f15 : Addr} {oc15 kV15 dc15 pm15 cd15 ct15 : Value} {od15 an15 : Option Addr} {sl15 : Array (Option Value)}
    {f16 : Addr} {oc16 kV16 dc16 pm16 cd16 ct16 : Value} {od16 an16 : Option Addr} {sl16 : Array (Option Value)}
    {f17 : Addr} {oc17 kV17 dc17 pm17 cd17 ct17 : Value} {od17 an17 : Option Addr} {sl17 : Array (Option Value)}
    {f18 : Addr} {oc18 kV18 dc18 pm18 cd18 ct18 : Value} {od18 an18 : Option Addr} {sl18 : Array (Option Value)}
    {f19 : Addr} {oc19 kV19 dc19 pm19 cd19 ct19 : Value} {od19 an19 : Option Addr} {sl19 : Array (Option Value)}
    {f20 : Addr} {oc20 kV20 dc20 pm20 cd20 ct20 : Value} {od20 an20 : Option Addr} {sl20 : Array (Option Value)}
    {f21 : Addr} {oc21 kV21 dc21 pm21 cd21 ct21 : Value} {od21 an21 : Option Addr} {sl21 : Array (Option Value)}
    {f22 : Addr} {oc22 kV22 dc22 pm22 cd22 ct22 : Value} {od22 an22 : Option Addr} {sl22 : Array (Option Value)}
    {f23 : Addr} {oc23 kV23 dc23 pm23 cd23 ct23 : Value} {od23 an23 : Option Addr} {sl23 : Array (Option Value)}
    {f24 : Addr} {oc24 kV24 dc24 pm24 cd24 ct24 : Value} {od24 an24 : Option Addr} {sl24 : Array (Option Value)}
    {f25 : Addr} {oc25 kV25 dc25 pm25 cd25 ct25 : Value} {od25 an25 : Option Addr} {sl25 : Array (Option Value)}
    {f26 : Addr} {oc26 kV26 dc26 pm26 cd26 ct26 : Value} {od26 an26 : Option Addr} {sl26 : Array (Option Value)}
    {f27 : Addr} {oc27 kV27 dc27 pm27 cd27 ct27 : Value} {od27 an27 : Option Addr} {sl27 : Array (Option Value)}
    {f28 : Addr} {oc28 kV28 dc28 pm28 cd28 ct28 : Value} {od28 an28 : Option Addr} {sl28 : Array (Option Value)}
    {f29 : Addr} {oc29 kV29 dc29 pm29 cd29 ct29 : Value} {od29 an29 : Option Addr} {sl29 : Array (Option Value)}
    {f30 : Addr} {oc30 kV30 dc30 pm30 cd30 ct30 : Value} {od30 an30 : Option Addr} {sl30 : Array (Option Value)}
    {OC0 : Addr}
    {gt0 : Tok}
    {gt1 : Tok}
    {gt2 : Tok}
    {C0 : Addr}
    (a0 : PySem.W.nsIn K mainGlobals "groups_of" = some (some (.ref f0))) (l0 : K.lookup f0 = some ⟨oc0, od0, .func (PySem.W.fnOf "groups_of" "groups_of" (defArgs (topS 1)) (defBody (topS 1)) (defScope (topS 1)) .none kV0 dc0 pm0 an0 cd0 ct0), sl0⟩) (c0 : PySem.W.codeIn K cd0 "groups_of" = true) (k0 : PySem.W.keepIn K (.ref f0) = true)
    (a1 : PySem.W.nsIn K mainGlobals "do_puts" = some (some (.ref f1))) (l1 : K.lookup f1 = some ⟨oc1, od1, .func (PySem.W.fnOf "do_puts" "do_puts" (defArgs (topS 2)) (defBody (topS 2)) (defScope (topS 2)) .none kV1 dc1 pm1 an1 cd1 ct1), sl1⟩) (c1 : PySem.W.codeIn K cd1 "do_puts" = true) (k1 : PySem.W.keepIn K (.ref f1) = true)
    (a2 : PySem.W.nsIn K mainGlobals "cut_steps" = some (some (.ref f2))) (l2 : K.lookup f2 = some ⟨oc2, od2, .func (PySem.W.fnOf "cut_steps" "cut_steps" (defArgs (topS 3)) (defBody (topS 3)) (defScope (topS 3)) .none kV2 dc2 pm2 an2 cd2 ct2), sl2⟩) (c2 : PySem.W.codeIn K cd2 "cut_steps" = true) (k2 : PySem.W.keepIn K (.ref f2) = true)
    (a3 : PySem.W.nsIn K mainGlobals "after_cut" = some (some (.ref f3))) (l3 : K.lookup f3 = some ⟨oc3, od3, .func (PySem.W.fnOf "after_cut" "after_cut" (defArgs (topS 5)) (defBody (topS 5)) (defScope (topS 5)) .none kV3 dc3 pm3 an3 cd3 ct3), sl3⟩) (c3 : PySem.W.codeIn K cd3 "after_cut" = true) (k3 : PySem.W.keepIn K (.ref f3) = true)
    (a4 : PySem.W.nsIn K mainGlobals "is_number" = some (some (.ref f4))) (l4 : K.lookup f4 = some ⟨oc4, od4, .func (PySem.W.fnOf "is_number" "is_number" (defArgs (topS 12)) (defBody (topS 12)) (defScope (topS 12)) .none kV4 dc4 pm4 an4 cd4 ct4), sl4⟩) (c4 : PySem.W.codeIn K cd4 "is_number" = true) (k4 : PySem.W.keepIn K (.ref f4) = true)
    (a5 : PySem.W.nsIn K mainGlobals "is_content" = some (some (.ref f5))) (l5 : K.lookup f5 = some ⟨oc5, od5, .func (PySem.W.fnOf "is_content" "is_content" (defArgs (topS 13)) (defBody (topS 13)) (defScope (topS 13)) .none kV5 dc5 pm5 an5 cd5 ct5), sl5⟩) (c5 : PySem.W.codeIn K cd5 "is_content" = true) (k5 : PySem.W.keepIn K (.ref f5) = true)
    (a6 : PySem.W.nsIn K mainGlobals "sum_of" = some (some (.ref f6))) (l6 : K.lookup f6 = some ⟨oc6, od6, .func (PySem.W.fnOf "sum_of" "sum_of" (defArgs (topS 14)) (defBody (topS 14)) (defScope (topS 14)) .none kV6 dc6 pm6 an6 cd6 ct6), sl6⟩) (c6 : PySem.W.codeIn K cd6 "sum_of" = true) (k6 : PySem.W.keepIn K (.ref f6) = true)
    (a7 : PySem.W.nsIn K mainGlobals "cell_of" = some (some (.ref f7))) (l7 : K.lookup f7 = some ⟨oc7, od7, .func (PySem.W.fnOf "cell_of" "cell_of" (defArgs (topS 15)) (defBody (topS 15)) (defScope (topS 15)) .none kV7 dc7 pm7 an7 cd7 ct7), sl7⟩) (c7 : PySem.W.codeIn K cd7 "cell_of" = true) (k7 : PySem.W.keepIn K (.ref f7) = true)
    (a8 : PySem.W.nsIn K mainGlobals "is_right" = some (some (.ref f8))) (l8 : K.lookup f8 = some ⟨oc8, od8, .func (PySem.W.fnOf "is_right" "is_right" (defArgs (topS 16)) (defBody (topS 16)) (defScope (topS 16)) .none kV8 dc8 pm8 an8 cd8 ct8), sl8⟩) (c8 : PySem.W.codeIn K cd8 "is_right" = true) (k8 : PySem.W.keepIn K (.ref f8) = true)
    (a9 : PySem.W.nsIn K mainGlobals "_law_mixed" = some (some (.ref f9))) (l9 : K.lookup f9 = some ⟨oc9, od9, .func (PySem.W.fnOf "_law_mixed" "_law_mixed" (defArgs (topS 21)) (defBody (topS 21)) (defScope (topS 21)) .none kV9 dc9 pm9 an9 cd9 ct9), sl9⟩) (c9 : PySem.W.codeIn K cd9 "_law_mixed" = true) (k9 : PySem.W.keepIn K (.ref f9) = true)
    (a10 : PySem.W.nsIn K mainGlobals "_law_draws" = some (some (.ref f10))) (l10 : K.lookup f10 = some ⟨oc10, od10, .func (PySem.W.fnOf "_law_draws" "_law_draws" (defArgs (topS 22)) (defBody (topS 22)) (defScope (topS 22)) .none kV10 dc10 pm10 an10 cd10 ct10), sl10⟩) (c10 : PySem.W.codeIn K cd10 "_law_draws" = true) (k10 : PySem.W.keepIn K (.ref f10) = true)
    (a11 : PySem.W.nsIn K mainGlobals "_law_next" = some (some (.ref f11))) (l11 : K.lookup f11 = some ⟨oc11, od11, .func (PySem.W.fnOf "_law_next" "_law_next" (defArgs (topS 23)) (defBody (topS 23)) (defScope (topS 23)) .none kV11 dc11 pm11 an11 cd11 ct11), sl11⟩) (c11 : PySem.W.codeIn K cd11 "_law_next" = true) (k11 : PySem.W.keepIn K (.ref f11) = true)
    (a12 : PySem.W.nsIn K mainGlobals "_law_same" = some (some (.ref f12))) (l12 : K.lookup f12 = some ⟨oc12, od12, .func (PySem.W.fnOf "_law_same" "_law_same" (defArgs (topS 24)) (defBody (topS 24)) (defScope (topS 24)) .none kV12 dc12 pm12 an12 cd12 ct12), sl12⟩) (c12 : PySem.W.codeIn K cd12 "_law_same" = true) (k12 : PySem.W.keepIn K (.ref f12) = true)
    (a13 : PySem.W.nsIn K mainGlobals "_law_all_same" = some (some (.ref f13))) (l13 : K.lookup f13 = some ⟨oc13, od13, .func (PySem.W.fnOf "_law_all_same" "_law_all_same" (defArgs (topS 25)) (defBody (topS 25)) (defScope (topS 25)) .none kV13 dc13 pm13 an13 cd13 ct13), sl13⟩) (c13 : PySem.W.codeIn K cd13 "_law_all_same" = true) (k13 : PySem.W.keepIn K (.ref f13) = true)
    (a14 : PySem.W.nsIn K mainGlobals "_law_cell" = some (some (.ref f14))) (l14 : K.lookup f14 = some ⟨oc14, od14, .func (PySem.W.fnOf "_law_cell" "_law_cell" (defArgs (topS 26)) (defBody (topS 26)) (defScope (topS 26)) .none kV14 dc14 pm14 an14 cd14 ct14), sl14⟩) (c14 : PySem.W.codeIn K cd14 "_law_cell" = true) (k14 : PySem.W.keepIn K (.ref f14) = true)
    (a15 : PySem.W.nsIn K mainGlobals "_law_content" = some (some (.ref f15))) (l15 : K.lookup f15 = some ⟨oc15, od15, .func (PySem.W.fnOf "_law_content" "_law_content" (defArgs (topS 27)) (defBody (topS 27)) (defScope (topS 27)) .none kV15 dc15 pm15 an15 cd15 ct15), sl15⟩) (c15 : PySem.W.codeIn K cd15 "_law_content" = true) (k15 : PySem.W.keepIn K (.ref f15) = true)
    (a16 : PySem.W.nsIn K mainGlobals "_law_put" = some (some (.ref f16))) (l16 : K.lookup f16 = some ⟨oc16, od16, .func (PySem.W.fnOf "_law_put" "_law_put" (defArgs (topS 28)) (defBody (topS 28)) (defScope (topS 28)) .none kV16 dc16 pm16 an16 cd16 ct16), sl16⟩) (c16 : PySem.W.codeIn K cd16 "_law_put" = true) (k16 : PySem.W.keepIn K (.ref f16) = true)
    (a17 : PySem.W.nsIn K mainGlobals "_law_steps" = some (some (.ref f17))) (l17 : K.lookup f17 = some ⟨oc17, od17, .func (PySem.W.fnOf "_law_steps" "_law_steps" (defArgs (topS 29)) (defBody (topS 29)) (defScope (topS 29)) .none kV17 dc17 pm17 an17 cd17 ct17), sl17⟩) (c17 : PySem.W.codeIn K cd17 "_law_steps" = true) (k17 : PySem.W.keepIn K (.ref f17) = true)
    (a18 : PySem.W.nsIn K mainGlobals "_law_groups" = some (some (.ref f18))) (l18 : K.lookup f18 = some ⟨oc18, od18, .func (PySem.W.fnOf "_law_groups" "_law_groups" (defArgs (topS 30)) (defBody (topS 30)) (defScope (topS 30)) .none kV18 dc18 pm18 an18 cd18 ct18), sl18⟩) (c18 : PySem.W.codeIn K cd18 "_law_groups" = true) (k18 : PySem.W.keepIn K (.ref f18) = true)
    (a19 : PySem.W.nsIn K mainGlobals "_law_kept" = some (some (.ref f19))) (l19 : K.lookup f19 = some ⟨oc19, od19, .func (PySem.W.fnOf "_law_kept" "_law_kept" (defArgs (topS 31)) (defBody (topS 31)) (defScope (topS 31)) .none kV19 dc19 pm19 an19 cd19 ct19), sl19⟩) (c19 : PySem.W.codeIn K cd19 "_law_kept" = true) (k19 : PySem.W.keepIn K (.ref f19) = true)
    (a20 : PySem.W.nsIn K mainGlobals "_law_fill" = some (some (.ref f20))) (l20 : K.lookup f20 = some ⟨oc20, od20, .func (PySem.W.fnOf "_law_fill" "_law_fill" (defArgs (topS 32)) (defBody (topS 32)) (defScope (topS 32)) .none kV20 dc20 pm20 an20 cd20 ct20), sl20⟩) (c20 : PySem.W.codeIn K cd20 "_law_fill" = true) (k20 : PySem.W.keepIn K (.ref f20) = true)
    (a21 : PySem.W.nsIn K mainGlobals "_law_cut" = some (some (.ref f21))) (l21 : K.lookup f21 = some ⟨oc21, od21, .func (PySem.W.fnOf "_law_cut" "_law_cut" (defArgs (topS 33)) (defBody (topS 33)) (defScope (topS 33)) .none kV21 dc21 pm21 an21 cd21 ct21), sl21⟩) (c21 : PySem.W.codeIn K cd21 "_law_cut" = true) (k21 : PySem.W.keepIn K (.ref f21) = true)
    (a22 : PySem.W.nsIn K mainGlobals "_law_has" = some (some (.ref f22))) (l22 : K.lookup f22 = some ⟨oc22, od22, .func (PySem.W.fnOf "_law_has" "_law_has" (defArgs (topS 34)) (defBody (topS 34)) (defScope (topS 34)) .none kV22 dc22 pm22 an22 cd22 ct22), sl22⟩) (c22 : PySem.W.codeIn K cd22 "_law_has" = true) (k22 : PySem.W.keepIn K (.ref f22) = true)
    (a23 : PySem.W.nsIn K mainGlobals "law" = some (some (.ref f23))) (l23 : K.lookup f23 = some ⟨oc23, od23, .func (PySem.W.fnOf "law" "law" (defArgs (topS 35)) (defBody (topS 35)) (defScope (topS 35)) .none kV23 dc23 pm23 an23 cd23 ct23), sl23⟩) (c23 : PySem.W.codeIn K cd23 "law" = true) (k23 : PySem.W.keepIn K (.ref f23) = true)
    (oa0 : PySem.W.nsIn K mainGlobals "Disk" = some (some (.ref OC0))) (og0 : PySem.W.plainGet K OC0 Str.empty = true) (oh0 : PySem.W.hasDictIn K OC0 = true) (op0 : PySem.W.plainOver K OC0 = true) (os0 : PySem.W.findIn K (.ref OC0) "__setattr__" = some (some (.builtin "object.__setattr__"))) (om0 : PySem.W.makesIn K OC0 = true) (ok0 : PySem.W.keepIn K (.ref OC0) = true)
    (on0_0 : PySem.W.findIn K (.ref OC0) "places" = some none)
    (on0_1 : PySem.W.findIn K (.ref OC0) "copies" = some none)
    (a24 : PySem.W.findIn K (.ref OC0) "__init__" = some (some (.ref f24))) (i24 : PySem.W.isFn K (.ref f24) = true) (l24 : K.lookup f24 = some ⟨oc24, od24, .func (PySem.W.fnOf "__init__" "Disk.__init__" (defArgs (clsS 19 0)) (defBody (clsS 19 0)) (defScope (clsS 19 0)) .none kV24 dc24 pm24 an24 cd24 ct24), sl24⟩) (c24 : PySem.W.codeIn K cd24 "Disk.__init__" = true) (k24 : PySem.W.keepIn K (.ref f24) = true)
    (a25 : PySem.W.findIn K (.ref OC0) "cell" = some (some (.ref f25))) (i25 : PySem.W.isFn K (.ref f25) = true) (l25 : K.lookup f25 = some ⟨oc25, od25, .func (PySem.W.fnOf "cell" "Disk.cell" (defArgs (clsS 19 1)) (defBody (clsS 19 1)) (defScope (clsS 19 1)) .none kV25 dc25 pm25 an25 cd25 ct25), sl25⟩) (c25 : PySem.W.codeIn K cd25 "Disk.cell" = true) (k25 : PySem.W.keepIn K (.ref f25) = true)
    (a26 : PySem.W.findIn K (.ref OC0) "rot" = some (some (.ref f26))) (i26 : PySem.W.isFn K (.ref f26) = true) (l26 : K.lookup f26 = some ⟨oc26, od26, .func (PySem.W.fnOf "rot" "Disk.rot" (defArgs (clsS 19 2)) (defBody (clsS 19 2)) (defScope (clsS 19 2)) .none kV26 dc26 pm26 an26 cd26 ct26), sl26⟩) (c26 : PySem.W.codeIn K cd26 "Disk.rot" = true) (k26 : PySem.W.keepIn K (.ref f26) = true)
    (a27 : PySem.W.findIn K (.ref OC0) "write" = some (some (.ref f27))) (i27 : PySem.W.isFn K (.ref f27) = true) (l27 : K.lookup f27 = some ⟨oc27, od27, .func (PySem.W.fnOf "write" "Disk.write" (defArgs (clsS 19 3)) (defBody (clsS 19 3)) (defScope (clsS 19 3)) .none kV27 dc27 pm27 an27 cd27 ct27), sl27⟩) (c27 : PySem.W.codeIn K cd27 "Disk.write" = true) (k27 : PySem.W.keepIn K (.ref f27) = true)
    (a28 : PySem.W.findIn K (.ref OC0) "look" = some (some (.ref f28))) (i28 : PySem.W.isFn K (.ref f28) = true) (l28 : K.lookup f28 = some ⟨oc28, od28, .func (PySem.W.fnOf "look" "Disk.look" (defArgs (clsS 19 4)) (defBody (clsS 19 4)) (defScope (clsS 19 4)) .none kV28 dc28 pm28 an28 cd28 ct28), sl28⟩) (c28 : PySem.W.codeIn K cd28 "Disk.look" = true) (k28 : PySem.W.keepIn K (.ref f28) = true)
    (a29 : PySem.W.findIn K (.ref OC0) "read" = some (some (.ref f29))) (i29 : PySem.W.isFn K (.ref f29) = true) (l29 : K.lookup f29 = some ⟨oc29, od29, .func (PySem.W.fnOf "read" "Disk.read" (defArgs (clsS 19 5)) (defBody (clsS 19 5)) (defScope (clsS 19 5)) .none kV29 dc29 pm29 an29 cd29 ct29), sl29⟩) (c29 : PySem.W.codeIn K cd29 "Disk.read" = true) (k29 : PySem.W.keepIn K (.ref f29) = true)
    (a30 : PySem.W.findIn K (.ref OC0) "twin" = some (some (.ref f30))) (i30 : PySem.W.isFn K (.ref f30) = true) (l30 : K.lookup f30 = some ⟨oc30, od30, .func (PySem.W.fnOf "twin" "Disk.twin" (defArgs (clsS 19 6)) (defBody (clsS 19 6)) (defScope (clsS 19 6)) .none kV30 dc30 pm30 an30 cd30 ct30), sl30⟩) (c30 : PySem.W.codeIn K cd30 "Disk.twin" = true) (k30 : PySem.W.keepIn K (.ref f30) = true)
    (z0 : PySem.W.nsIn K mainGlobals "len" = some none)
    (z1 : PySem.W.nsIn K mainGlobals "abs" = some none)
    (z2 : PySem.W.nsIn K mainGlobals "min" = some none)
    (z3 : PySem.W.nsIn K mainGlobals "all" = some none)
    (z4 : PySem.W.nsIn K mainGlobals "tuple" = some none)
    (z5 : PySem.W.nsIn K mainGlobals "list" = some none)
    (z6 : PySem.W.nsIn K mainGlobals "str" = some none)
    (z7 : PySem.W.nsIn K mainGlobals "isinstance" = some none)
    (z8 : PySem.W.nsIn K mainGlobals "int" = some none)
    (z9 : PySem.W.nsIn K mainGlobals "bool" = some none)
    (z10 : PySem.W.nsIn K mainGlobals "range" = some none)
    (z11 : PySem.W.nsIn K mainGlobals "zip" = some none)
    (z12 : PySem.W.nsIn K mainGlobals "reversed" = some none)
    (gg0 : PySem.W.nsIn K mainGlobals "FACTOR" = some (some (.int 65599 gt0)))
    (gg1 : PySem.W.nsIn K mainGlobals "ROUND" = some (some (.int 2147483647 gt1)))
    (gg2 : PySem.W.nsIn K mainGlobals "SPOTS_AHEAD" = some (some (.int 4 gt2)))
    (x0 : PySem.W.nsIn K mainGlobals "Lost" = some (some (.ref C0))) (y0 : PySem.W.excIn K C0 [.type "ValueError", .type "Exception", .type "BaseException", .type "object"] "ValueError.__new__" = true) (u0 : PySem.W.keepIn K (.ref C0) = true) (v0 : PySem.W.subIn K (.ref C0) (.type "BaseException") = some true) (w0 : PySem.W.typeIn K (.ref C0) = some (.type "type")) (ic0 : PySem.W.isClsIn K C0 = true)
    (e0_0 : PySem.W.subIn K (.ref C0) (.ref C0) = some true)
    : ∃ (cls : Nat → Value) (fd : FuncData), (∀ (s : Shared) (v : Value), BindsTo s fd ⟨[v], []⟩ [("_law_script", v)]) ∧ ∀ base : Heap, K.In base → base.Ns mainGlobals mg → FnOk l.prog w K mg base (L2.CX l.prog w) 24 fa fd ["_law_script"] (spF K cls (Phi tbl 12 23)) := by
  have e := hfa.symm.trans (PySem.W.mg_of X G a23)
  cases e
  have D0 : DefOk K mg cc "groups_of" d_groups_of := defOk_mk X G sc_groups_of rfl rfl rd_groups_of (fun _ _ _ _ _ _ us hl => match us, hl with | [_], _ => rfl) a0 l0 c0 k0
  have D1 : DefOk K mg cc "do_puts" d_do_puts := defOk_mk X G sc_do_puts rfl rfl rd_do_puts (fun _ _ _ _ _ _ us hl => match us, hl with | [_, _], _ => rfl) a1 l1 c1 k1
  have D2 : DefOk K mg cc "cut_steps" d_cut_steps := defOk_mk X G sc_cut_steps rfl rfl rd_cut_steps (fun _ _ _ _ _ _ us hl => match us, hl with | [_, _, _, _], _ => rfl) a2 l2 c2 k2
  have D3 : DefOk K mg cc "after_cut" d_after_cut := defOk_mk X G sc_after_cut rfl rfl rd_after_cut (fun _ _ _ _ _ _ us hl => match us, hl with | [_, _, _, _], _ => rfl) a3 l3 c3 k3
  have D4 : DefOk K mg cc "is_number" d_is_number := defOk_mk X G sc_is_number rfl rfl rd_is_number (fun _ _ _ _ _ _ us hl => match us, hl with | [_], _ => rfl) a4 l4 c4 k4
  have D5 : DefOk K mg cc "is_content" d_is_content := defOk_mk X G sc_is_content rfl rfl rd_is_content (fun _ _ _ _ _ _ us hl => match us, hl with | [_], _ => rfl) a5 l5 c5 k5
  have D6 : DefOk K mg cc "sum_of" d_sum_of := defOk_mk X G sc_sum_of rfl rfl rd_sum_of (fun _ _ _ _ _ _ us hl => match us, hl with | [_, _], _ => rfl) a6 l6 c6 k6
  have D7 : DefOk K mg cc "cell_of" d_cell_of := defOk_mk X G sc_cell_of rfl rfl rd_cell_of (fun _ _ _ _ _ _ us hl => match us, hl with | [_, _], _ => rfl) a7 l7 c7 k7
  have D8 : DefOk K mg cc "is_right" d_is_right := defOk_mk X G sc_is_right rfl rfl rd_is_right (fun _ _ _ _ _ _ us hl => match us, hl with | [_, _], _ => rfl) a8 l8 c8 k8
  have D9 : DefOk K mg cc "_law_mixed" d__law_mixed := defOk_mk X G sc__law_mixed rfl rfl rd__law_mixed (fun _ _ _ _ _ _ us hl => match us, hl with | [_, _], _ => rfl) a9 l9 c9 k9
  have D10 : DefOk K mg cc "_law_draws" d__law_draws := defOk_mk X G sc__law_draws rfl rfl rd__law_draws (fun _ _ _ _ _ _ us hl => match us, hl with | [_], _ => rfl) a10 l10 c10 k10
  have D11 : DefOk K mg cc "_law_next" d__law_next := defOk_mk X G sc__law_next rfl rfl rd__law_next (fun _ _ _ _ _ _ us hl => match us, hl with | [_], _ => rfl) a11 l11 c11 k11
  have D12 : DefOk K mg cc "_law_same" d__law_same := defOk_mk X G sc__law_same rfl rfl rd__law_same (fun _ _ _ _ _ _ us hl => match us, hl with | [_, _], _ => rfl) a12 l12 c12 k12
  have D13 : DefOk K mg cc "_law_all_same" d__law_all_same := defOk_mk X G sc__law_all_same rfl rfl rd__law_all_same (fun _ _ _ _ _ _ us hl => match us, hl with | [_, _], _ => rfl) a13 l13 c13 k13
  have D14 : DefOk K mg cc "_law_cell" d__law_cell := defOk_mk X G sc__law_cell rfl rfl rd__law_cell (fun _ _ _ _ _ _ us hl => match us, hl with | [_, _], _ => rfl) a14 l14 c14 k14
  have D15 : DefOk K mg cc "_law_content" d__law_content := defOk_mk X G sc__law_content rfl rfl rd__law_content (fun _ _ _ _ _ _ us hl => match us, hl with | [_], _ => rfl) a15 l15 c15 k15
  have D16 : DefOk K mg cc "_law_put" d__law_put := defOk_mk X G sc__law_put rfl rfl rd__law_put (fun _ _ _ _ _ _ us hl => match us, hl with | [_, _], _ => rfl) a16 l16 c16 k16
  have D17 : DefOk K mg cc "_law_steps" d__law_steps := defOk_mk X G sc__law_steps rfl rfl rd__law_steps (fun _ _ _ _ _ _ us hl => match us, hl with | [_, _], _ => rfl) a17 l17 c17 k17
  have D18 : DefOk K mg cc "_law_groups" d__law_groups := defOk_mk X G sc__law_groups rfl rfl rd__law_groups (fun _ _ _ _ _ _ us hl => match us, hl with | [_], _ => rfl) a18 l18 c18 k18
  have D19 : DefOk K mg cc "_law_kept" d__law_kept := defOk_mk X G sc__law_kept rfl rfl rd__law_kept (fun _ _ _ _ _ _ us hl => match us, hl with | [_, _], _ => rfl) a19 l19 c19 k19
  have D20 : DefOk K mg cc "_law_fill" d__law_fill := defOk_mk X G sc__law_fill rfl rfl rd__law_fill (fun _ _ _ _ _ _ us hl => match us, hl with | [_, _, _], _ => rfl) a20 l20 c20 k20
  have D21 : DefOk K mg cc "_law_cut" d__law_cut := defOk_mk X G sc__law_cut rfl rfl rd__law_cut (fun _ _ _ _ _ _ us hl => match us, hl with | [_, _, _, _], _ => rfl) a21 l21 c21 k21
  have D22 : DefOk K mg cc "_law_has" d__law_has := defOk_mk X G sc__law_has rfl rfl rd__law_has (fun _ _ _ _ _ _ us hl => match us, hl with | [_, _], _ => rfl) a22 l22 c22 k22
  have D23 : DefOk K mg cc "law" d_law := defOk_mk X G sc_law rfl rfl rd_law (fun _ _ _ _ _ _ us hl => match us, hl with | [_], _ => rfl) a23 l23 c23 k23
  have defs : ∀ (i : Nat) (x : Str), cc.fns[i]? = some x → ∃ d, tbl[i]? = some d ∧ DefOk K mg cc x d := fun i x hx => by
    match i, hx with
    | 0, hx => cases hx; exact ⟨_, rfl, D0⟩
    | 1, hx => cases hx; exact ⟨_, rfl, D1⟩
    | 2, hx => cases hx; exact ⟨_, rfl, D2⟩
    | 3, hx => cases hx; exact ⟨_, rfl, D3⟩
    | 4, hx => cases hx; exact ⟨_, rfl, D4⟩
    | 5, hx => cases hx; exact ⟨_, rfl, D5⟩
    | 6, hx => cases hx; exact ⟨_, rfl, D6⟩
    | 7, hx => cases hx; exact ⟨_, rfl, D7⟩
    | 8, hx => cases hx; exact ⟨_, rfl, D8⟩
    | 9, hx => cases hx; exact ⟨_, rfl, D9⟩
    | 10, hx => cases hx; exact ⟨_, rfl, D10⟩
    | 11, hx => cases hx; exact ⟨_, rfl, D11⟩
    | 12, hx => cases hx; exact ⟨_, rfl, D12⟩
    | 13, hx => cases hx; exact ⟨_, rfl, D13⟩
    | 14, hx => cases hx; exact ⟨_, rfl, D14⟩
    | 15, hx => cases hx; exact ⟨_, rfl, D15⟩
    | 16, hx => cases hx; exact ⟨_, rfl, D16⟩
    | 17, hx => cases hx; exact ⟨_, rfl, D17⟩
    | 18, hx => cases hx; exact ⟨_, rfl, D18⟩
    | 19, hx => cases hx; exact ⟨_, rfl, D19⟩
    | 20, hx => cases hx; exact ⟨_, rfl, D20⟩
    | 21, hx => cases hx; exact ⟨_, rfl, D21⟩
    | 22, hx => cases hx; exact ⟨_, rfl, D22⟩
    | 23, hx => cases hx; exact ⟨_, rfl, D23⟩
    | n + 24, hx => cases hx
  have blt : ∀ x ∈ cc.blt, mg x = none := fun x hx => by
    simp only [cc, List.mem_cons, List.not_mem_nil, or_false] at hx
    rcases hx with rfl | rfl | rfl | rfl | rfl | rfl | rfl | rfl | rfl | rfl | rfl | rfl | rfl
    · exact PySem.W.mg_none_of X G z0
    · exact PySem.W.mg_none_of X G z1
    · exact PySem.W.mg_none_of X G z2
    · exact PySem.W.mg_none_of X G z3
    · exact PySem.W.mg_none_of X G z4
    · exact PySem.W.mg_none_of X G z5
    · exact PySem.W.mg_none_of X G z6
    · exact PySem.W.mg_none_of X G z7
    · exact PySem.W.mg_none_of X G z8
    · exact PySem.W.mg_none_of X G z9
    · exact PySem.W.mg_none_of X G z10
    · exact PySem.W.mg_none_of X G z11
    · exact PySem.W.mg_none_of X G z12
  have gl : ∀ (x : Str) (d : D), cc.gl.lookup x = some d → GOk K mg x d := fun x d hx => by
    simp only [cc, List.lookup_cons, List.lookup_nil] at hx
    split at hx
    · rename_i ee
      have ee := eq_of_beq ee
      subst ee
      cases hx
      exact ⟨_, .int 65599, PySem.W.mg_of X G gg0, ⟨_, rfl⟩, fun _ _ => .int _⟩
    split at hx
    · rename_i ee
      have ee := eq_of_beq ee
      subst ee
      cases hx
      exact ⟨_, .int 2147483647, PySem.W.mg_of X G gg1, ⟨_, rfl⟩, fun _ _ => .int _⟩
    split at hx
    · rename_i ee
      have ee := eq_of_beq ee
      subst ee
      cases hx
      exact ⟨_, .int 4, PySem.W.mg_of X G gg2, ⟨_, rfl⟩, fun _ _ => .int _⟩
    cases hx
  have kd : ∀ (x : Str) (t : List (Str × D)), cc.kd.lookup x = some t → KOk K w mg x t := fun x t hx => by
    cases hx
  have xcs : ∀ (i : Nat) (x : Str), cc.xcs[i]? = some x → XOk K mg ((fun n : Nat => match min n 0 with | 0 => Value.ref C0 | _ => Value.ref C0) i) x := fun i x hx => by
    match i, hx with
    | 0, hx => cases hx; exact ⟨C0, rfl, PySem.W.mg_of X G x0, y0, u0, v0, w0⟩
    | n + 1, hx => cases hx
  have sub : cc.xcs ≠ [] → ∀ a b, PySem.W.exmOne K ((fun n : Nat => match min n 0 with | 0 => Value.ref C0 | _ => Value.ref C0) a) ((fun n : Nat => match min n 0 with | 0 => Value.ref C0 | _ => Value.ref C0) b) = some (cc.sub a b) := fun hne a b => by
    show _ = some (Sub a b)
    unfold Sub
    dsimp only
    have ha : min a 0 < 1 := by omega
    have hb : min b 0 < 1 := by omega
    revert ha hb
    generalize min a 0 = a' 
    generalize min b 0 = b' 
    intro ha hb
    match a', b', ha, hb with
    | 0, 0, _, _ => exact exm_mk v0 ic0 w0 e0_0
    | 0, n + 1, _, hb => omega
    | n + 1, _, ha, _ => omega
  have F24 := fun_mk (st := clsS 19 0) l24 c24 k24
  have M24 : MthOk K OC0 cc "__init__" d_Disk___init__ := ⟨"Disk.__init__", clsS 19 0, f24, _, ["self", "places"], ["self", "places"], 300, ⟨a24, i24, k24⟩, F24, F24.binds (fun _ _ _ _ _ _ us hl => match us, hl with | [_, _], _ => rfl), sc_Disk___init__, rfl, rfl, rd_Disk___init__⟩
  have F25 := fun_mk (st := clsS 19 1) l25 c25 k25
  have M25 : MthOk K OC0 cc "cell" d_Disk_cell := ⟨"Disk.cell", clsS 19 1, f25, _, ["self", "copy", "spot"], ["self", "copy", "spot"], 300, ⟨a25, i25, k25⟩, F25, F25.binds (fun _ _ _ _ _ _ us hl => match us, hl with | [_, _, _], _ => rfl), sc_Disk_cell, rfl, rfl, rd_Disk_cell⟩
  have F26 := fun_mk (st := clsS 19 2) l26 c26 k26
  have M26 : MthOk K OC0 cc "rot" d_Disk_rot := ⟨"Disk.rot", clsS 19 2, f26, _, ["self", "copy", "spot", "cell"], ["self", "copy", "spot", "cell"], 300, ⟨a26, i26, k26⟩, F26, F26.binds (fun _ _ _ _ _ _ us hl => match us, hl with | [_, _, _, _], _ => rfl), sc_Disk_rot, rfl, rfl, rd_Disk_rot⟩
  have F27 := fun_mk (st := clsS 19 3) l27 c27 k27
  have M27 : MthOk K OC0 cc "write" d_Disk_write := ⟨"Disk.write", clsS 19 3, f27, _, ["self", "copy", "spot", "content"], ["self", "copy", "spot", "content"], 300, ⟨a27, i27, k27⟩, F27, F27.binds (fun _ _ _ _ _ _ us hl => match us, hl with | [_, _, _, _], _ => rfl), sc_Disk_write, rfl, rfl, rd_Disk_write⟩
  have F28 := fun_mk (st := clsS 19 4) l28 c28 k28
  have M28 : MthOk K OC0 cc "look" d_Disk_look := ⟨"Disk.look", clsS 19 4, f28, _, ["self", "copy", "spot", "cell"], ["self", "copy", "spot"], 300, ⟨a28, i28, k28⟩, F28, F28.binds (fun _ _ _ _ _ _ us hl => match us, hl with | [_, _, _], _ => rfl), sc_Disk_look, rfl, rfl, rd_Disk_look⟩
  have F29 := fun_mk (st := clsS 19 5) l29 c29 k29
  have M29 : MthOk K OC0 cc "read" d_Disk_read := ⟨"Disk.read", clsS 19 5, f29, _, ["self", "spot", "copy", "content"], ["self", "spot"], 300, ⟨a29, i29, k29⟩, F29, F29.binds (fun _ _ _ _ _ _ us hl => match us, hl with | [_, _], _ => rfl), sc_Disk_read, rfl, rfl, rd_Disk_read⟩
  have F30 := fun_mk (st := clsS 19 6) l30 c30 k30
  have M30 : MthOk K OC0 cc "twin" d_Disk_twin := ⟨"Disk.twin", clsS 19 6, f30, _, ["self", "found", "cells"], ["self"], 300, ⟨a30, i30, k30⟩, F30, F30.binds (fun _ _ _ _ _ _ us hl => match us, hl with | [_], _ => rfl), sc_Disk_twin, rfl, rfl, rd_Disk_twin⟩
  have ocl : ∀ (x : Str) (p : List Str × List (Str × Nat)), cc.ocl.lookup x = some p → ClOk K mg cc tbl x p.1 p.2 := fun x p hx => by
    simp only [cc, ocl0, List.lookup_cons, List.lookup_nil] at hx
    split at hx
    · rename_i ee
      have ee := eq_of_beq ee
      subst ee
      cases hx
      refine ⟨OC0, oa0, PySem.W.mg_of X G oa0, ⟨og0, oh0, op0, os0⟩, fun f hf => ?_, fun m i hm => ?_, om0, ok0⟩
      · simp only [List.mem_cons, List.not_mem_nil, or_false] at hf
        rcases hf with rfl | rfl
        · exact on0_0
        · exact on0_1
      · simp only [List.lookup_cons, List.lookup_nil] at hm
        split at hm
        · rename_i ee
          have ee := eq_of_beq ee
          subst ee
          cases hm
          exact ⟨_, rfl, M24⟩
        split at hm
        · rename_i ee
          have ee := eq_of_beq ee
          subst ee
          cases hm
          exact ⟨_, rfl, M25⟩
        split at hm
        · rename_i ee
          have ee := eq_of_beq ee
          subst ee
          cases hm
          exact ⟨_, rfl, M26⟩
        split at hm
        · rename_i ee
          have ee := eq_of_beq ee
          subst ee
          cases hm
          exact ⟨_, rfl, M27⟩
        split at hm
        · rename_i ee
          have ee := eq_of_beq ee
          subst ee
          cases hm
          exact ⟨_, rfl, M28⟩
        split at hm
        · rename_i ee
          have ee := eq_of_beq ee
          subst ee
          cases hm
          exact ⟨_, rfl, M29⟩
        split at hm
        · rename_i ee
          have ee := eq_of_beq ee
          subst ee
          cases hm
          exact ⟨_, rfl, M30⟩
        cases hm
    cases hx
  obtain ⟨s, f, fd, N, ps, m, h1, h2, h3, _⟩ := D23.ex
  refine ⟨(fun n : Nat => match min n 0 with | 0 => Value.ref C0 | _ => Value.ref C0), PySem.W.fnOf "law" "law" (defArgs (topS 35)) (defBody (topS 35)) (defScope (topS 35)) .none kV23 dc23 pm23 an23 cd23 ct23, fun s v => .of_eq rfl, fun base _ _ => ?_⟩
  have F := fun_mk (st := topS 35) l23 c23 k23
  have ee : Phi tbl 12 23 = runDef d_law (Phi tbl 11) := by funext ds st; exact phi_law 11 ds st
  rw [ee]
  exact def_ok (phi_ok blt gl kd xcs sub ocl defs 11) F sc_law rfl rfl (rd_law _)
end LK55
open PySem PySem.W PyProof.Rows
theorem PySem.Challenge.cw_snapshelf_k55_disks_cut_holds : PySem.Challenge.rw_snapshelf_k55_disks_cut.Holds := by
  w_on; o_law; k_head; (case hw => w_witness2)
  k_fill
  refine MI.walk_ofX (l := PySem.Challenge.rw_snapshelf_k55_disks_cut) (n := 63) (k := 24) (x := "_law_script") (f := MI.Phi LK55.tbl 12 23) rfl (by decide) rfl ⟨rfl, by decide, by decide⟩ (fun w h Y => PySem.W.kIn_of Y) ?F (fun ns hl => LK55.law_pure ns hl)
  case F =>
    intro w mg fa h KX G hmg
    refine' LK55.all_mk KX G hmg ?a0 ?l0 ?c0 ?k0 ?a1 ?l1 ?c1 ?k1 ?a2 ?l2 ?c2 ?k2 ?a3 ?l3 ?c3 ?k3 ?a4 ?l4 ?c4 ?k4 ?a5 ?l5 ?c5 ?k5 ?a6 ?l6 ?c6 ?k6 ?a7 ?l7 ?c7 ?k7 ?a8 ?l8 ?c8 ?k8 ?a9 ?l9 ?c9 ?k9 ?a10 ?l10 ?c10 ?k10 ?a11 ?l11 ?c11 ?k11 ?a12 ?l12 ?c12 ?k12 ?a13 ?l13 ?c13 ?k13 ?a14 ?l14 ?c14 ?k14 ?a15 ?l15 ?c15 ?k15 ?a16 ?l16 ?c16 ?k16 ?a17 ?l17 ?c17 ?k17 ?a18 ?l18 ?c18 ?k18 ?a19 ?l19 ?c19 ?k19 ?a20 ?l20 ?c20 ?k20 ?a21 ?l21 ?c21 ?k21 ?a22 ?l22 ?c22 ?k22 ?a23 ?l23 ?c23 ?k23 ?oa0 ?og0 ?oh0 ?op0 ?os0 ?om0 ?ok0 ?on0_0 ?on0_1 ?a24 ?i24 ?l24 ?c24 ?k24 ?a25 ?i25 ?l25 ?c25 ?k25 ?a26 ?i26 ?l26 ?c26 ?k26 ?a27 ?i27 ?l27 ?c27 ?k27 ?a28 ?i28 ?l28 ?c28 ?k28 ?a29 ?i29 ?l29 ?c29 ?k29 ?a30 ?i30 ?l30 ?c30 ?k30 ?z0 ?z1 ?z2 ?z3 ?z4 ?z5 ?z6 ?z7 ?z8 ?z9 ?z10 ?z11 ?z12 ?gg0 ?gg1 ?gg2 ?x0 ?y0 ?u0 ?v0 ?w0 ?ic0 ?e0_0
    (case a0 => k_is); (case l0 => k_is); (case c0 => k_is); (case k0 => k_is); (case a1 => k_is); (case l1 => k_is); (case c1 => k_is); (case k1 => k_is); (case a2 => k_is); (case l2 => k_is); (case c2 => k_is); (case k2 => k_is); (case a3 => k_is); (case l3 => k_is); (case c3 => k_is); (case k3 => k_is); (case a4 => k_is); (case l4 => k_is); (case c4 => k_is); (case k4 => k_is); (case a5 => k_is); (case l5 => k_is); (case c5 => k_is); (case k5 => k_is); (case a6 => k_is); (case l6 => k_is); (case c6 => k_is); (case k6 => k_is); (case a7 => k_is); (case l7 => k_is); (case c7 => k_is); (case k7 => k_is); (case a8 => k_is); (case l8 => k_is); (case c8 => k_is); (case k8 => k_is); (case a9 => k_is); (case l9 => k_is); (case c9 => k_is); (case k9 => k_is); (case a10 => k_is); (case l10 => k_is); (case c10 => k_is); (case k10 => k_is); (case a11 => k_is); (case l11 => k_is); (case c11 => k_is); (case k11 => k_is); (case a12 => k_is); (case l12 => k_is); (case c12 => k_is); (case k12 => k_is); (case a13 => k_is); (case l13 => k_is); (case c13 => k_is); (case k13 => k_is); (case a14 => k_is); (case l14 => k_is); (case c14 => k_is); (case k14 => k_is); (case a15 => k_is); (case l15 => k_is); (case c15 => k_is); (case k15 => k_is); (case a16 => k_is); (case l16 => k_is); (case c16 => k_is); (case k16 => k_is); (case a17 => k_is); (case l17 => k_is); (case c17 => k_is); (case k17 => k_is); (case a18 => k_is); (case l18 => k_is); (case c18 => k_is); (case k18 => k_is); (case a19 => k_is); (case l19 => k_is); (case c19 => k_is); (case k19 => k_is); (case a20 => k_is); (case l20 => k_is); (case c20 => k_is); (case k20 => k_is); (case a21 => k_is); (case l21 => k_is); (case c21 => k_is); (case k21 => k_is); (case a22 => k_is); (case l22 => k_is); (case c22 => k_is); (case k22 => k_is); (case a23 => k_is); (case l23 => k_is); (case c23 => k_is); (case k23 => k_is); (case oa0 => k_is); (case og0 => k_is); (case oh0 => k_is); (case op0 => k_is); (case os0 => k_is); (case om0 => k_is); (case ok0 => k_is); (case on0_0 => k_is); (case on0_1 => k_is); (case a24 => k_is); (case i24 => k_is); (case l24 => k_is); (case c24 => k_is); (case k24 => k_is); (case a25 => k_is); (case i25 => k_is); (case l25 => k_is); (case c25 => k_is); (case k25 => k_is); (case a26 => k_is); (case i26 => k_is); (case l26 => k_is); (case c26 => k_is); (case k26 => k_is); (case a27 => k_is); (case i27 => k_is); (case l27 => k_is); (case c27 => k_is); (case k27 => k_is); (case a28 => k_is); (case i28 => k_is); (case l28 => k_is); (case c28 => k_is); (case k28 => k_is); (case a29 => k_is); (case i29 => k_is); (case l29 => k_is); (case c29 => k_is); (case k29 => k_is); (case a30 => k_is); (case i30 => k_is); (case l30 => k_is); (case c30 => k_is); (case k30 => k_is); (case z0 => k_is); (case z1 => k_is); (case z2 => k_is); (case z3 => k_is); (case z4 => k_is); (case z5 => k_is); (case z6 => k_is); (case z7 => k_is); (case z8 => k_is); (case z9 => k_is); (case z10 => k_is); (case z11 => k_is); (case z12 => k_is); (case gg0 => k_is); (case gg1 => k_is); (case gg2 => k_is); (case x0 => k_is); (case y0 => k_exc); (case u0 => k_is); (case v0 => k_is); (case w0 => k_is); (case ic0 => k_is); (case e0_0 => k_is)
