import PyProof.Rows.All
import Wide.All
import OpenK.AllK
import Wide.FinOn
import HandS.ForMost
import HandS.ForExc
import HandS.TupAny
import HandS.IsInst
import HandS.Wide
import HandS.TupLe
import HandS.Conv
import HandS.Zip
import HandS.TupMul
import HandS.Iter
import HandS.Deep
import HandS.TryMany
import HandS.StrMore
import HandS.NoneIn
import HandS.SortInts
import HandS.Small
import HandS.More
import HandS.EndBits
import PySem.Challenge.RW_snapshelf_k09_what_is_a_deed
set_option Elab.async false
set_option linter.all false
set_option maxRecDepth 100000
set_option maxHeartbeats 4000000
/-! MiA: a small functional reading of the Python subset: data, stores, results, combinators. -/
namespace MI
open PySem PySem.Spec PyProof.Rows L2

/-- data by value; ref: an object of the store that may change -/
inductive D where
  | non | bl (b : Bool) | int (i : Int) | str (x : Str)
  | tup (ds : List D) | lst (ds : List D) | fz (ds : List D)
  | dic (kvs : List (Key × D)) | ref (l : Nat)

inductive SO where
  | lst (ds : List D)
  | dic (kvs : List (Key × D))
abbrev Sto := List SO
abbrev DEnv := List (Option D)

inductive R (α : Type) where
  | ok (a : α) (st : Sto)
  | exc (c : Nat) (st : Sto)
  | stuck
def R.bind {α β : Type} (r : R α) (f : α → Sto → R β) : R β :=
  match r with
  | .ok a st => f a st
  | .exc c st => .exc c st
  | .stuck => .stuck
abbrev ME := DEnv → Sto → R D

inductive SR where
  | nx (env : DEnv) (st : Sto)
  | rt (d : D) (st : Sto)
  | bk (env : DEnv) (st : Sto)
  | ct (env : DEnv) (st : Sto)
  | exc (c : Nat) (env : DEnv) (st : Sto)
  | stuck
abbrev MS := DEnv → Sto → SR

@[simp] theorem R.bind_ok {α β : Type} (a : α) (st : Sto) (f : α → Sto → R β) : (R.ok a st).bind f = f a st := rfl
@[simp] theorem R.bind_exc {α β : Type} (c : Nat) (st : Sto) (f : α → Sto → R β) : (R.exc c st : R α).bind f = .exc c st := rfl
@[simp] theorem R.bind_stuck {α β : Type} (f : α → Sto → R β) : (R.stuck : R α).bind f = .stuck := rfl

/-! ### data as PyData -/
mutual
def noRef : D → Bool
  | .tup ds => noRefs ds
  | .lst ds => noRefs ds
  | .fz ds => noRefs ds
  | .dic _ => false
  | .ref _ => false
  | _ => true
def noRefs : List D → Bool
  | [] => true
  | d :: ds => noRef d && noRefs ds
end
mutual
def toPy : D → PyData
  | .non => .none
  | .bl b => .bool b
  | .int i => .int i
  | .str x => .str x
  | .tup ds => .tuple (toPys ds)
  | .lst ds => .list (toPys ds)
  | .fz ds => .list (toPys ds)
  | .dic _ => .none
  | .ref _ => .none
def toPys : List D → List PyData
  | [] => []
  | d :: ds => toPy d :: toPys ds
end
/-! no ref at or above n -/
mutual
def below (n : Nat) : D → Bool
  | .tup ds => belows n ds
  | .lst ds => belows n ds
  | .fz ds => belows n ds
  | .dic kvs => belowk n kvs
  | .ref l => decide (l < n)
  | _ => true
def belows (n : Nat) : List D → Bool
  | [] => true
  | d :: ds => below n d && belows n ds
def belowk (n : Nat) : List (Key × D) → Bool
  | [] => true
  | (_, d) :: ds => below n d && belowk n ds
end

/-- a list of the store by value -/
def deref (st : Sto) : D → D
  | .ref l => match st[l]? with
    | some (.lst ds) => .lst ds
    | some (.dic kvs) => .dic kvs
    | _ => .ref l
  | d => d

/-! ### operations -/
def mulOk (i j : Int) : Prop := CMul i j ∨ CMulW i j
instance (i j : Int) : Decidable (mulOk i j) := by unfold mulOk CMul CMulW; infer_instance
instance (i j : Int) : Decidable (CDivW i j) := by unfold CDivW; infer_instance
instance (i j : Int) : Decidable (CPow i j) := by unfold CPow; infer_instance

def opAdd (x y : D) (st : Sto) : R D :=
  match x, y with
  | .int i, .int j => .ok (.int (i + j)) st
  | .int i, .bl k => .ok (.int (i + b2i k)) st
  | .str a, .str b => if a.length + b.length ≤ sizeLine then .ok (.str (a ++ b)) st else .stuck
  | .tup a, .tup b => if a.length + b.length ≤ sizeLine then .ok (.tup (a ++ b)) st else .stuck
  | x, y => match deref st x, deref st y with
    | .lst a, .lst b => if a.length + b.length ≤ sizeLine then .ok (.lst (a ++ b)) st else .stuck
    | _, _ => .stuck
def opSub (x y : D) (st : Sto) : R D :=
  match x, y with
  | .int i, .int j => .ok (.int (i - j)) st
  | _, _ => .stuck
def opMul (x y : D) (st : Sto) : R D :=
  match x, y with
  | .int i, .int j => if mulOk i j then .ok (.int (i * j)) st else .stuck
  | x, .int k => match deref st x with
    | .lst a => if -(2 ^ 63) ≤ k ∧ k < 2 ^ 63 ∧ a.length * k.toNat ≤ sizeLine then .ok (.lst (List.replicate k.toNat a).flatten) st else .stuck
    | .tup a => if a ≠ [] ∧ 2 ≤ k ∧ k ≤ 1000 ∧ a.length ≤ 1000 then .ok (.tup (List.replicate k.toNat a).flatten) st else .stuck
    | _ => .stuck
  | _, _ => .stuck
def opMod (x y : D) (st : Sto) : R D :=
  match x, y with
  | .int i, .int j => if 0 < j then .ok (.int (i % j)) st else .stuck
  | _, _ => .stuck
def opDiv (x y : D) (st : Sto) : R D :=
  match x, y with
  | .int i, .int j => if CDivW i j then .ok (.int (i / j)) st else .stuck
  | _, _ => .stuck
def opPow (x y : D) (st : Sto) : R D :=
  match x, y with
  | .int i, .int j => if CPow i j then .ok (.int (i ^ j.toNat)) st else .stuck
  | _, _ => .stuck
def opCmp (p : Int → Int → Bool) (x y : D) (st : Sto) : R D :=
  match x, y with
  | .int i, .int j => .ok (.bl (p i j)) st
  | _, _ => .stuck
def opLt := opCmp fun i j => decide (i < j)
def opLe := opCmp fun i j => decide (i ≤ j)
def opGt := opCmp fun i j => decide (j < i)
def opGe := opCmp fun i j => decide (j ≤ i)
/-- == of plain data -/
def eqD (st : Sto) (x y : D) : Option Bool :=
  if noRef (deref st x) && noRef (deref st y) && SeqAt.shaped (toPy (deref st x)) && SeqAt.shaped (toPy (deref st y)) then some (PyData.eqv (toPy (deref st x)) (toPy (deref st y))) else none
/-- a tuple == () -/
def eqT0 (x y : D) : Option Bool := match x, y with
  | .tup ds, .tup [] => some ds.isEmpty
  | _, _ => none
def opEq (x y : D) (st : Sto) : R D :=
  match eqD st x y with
  | some b => .ok (.bl b) st
  | none => match eqT0 x y with
    | some b => .ok (.bl b) st
    | none => .stuck
def opNe (x y : D) (st : Sto) : R D :=
  match eqD st x y with
  | some b => .ok (.bl (!b)) st
  | none => .stuck
def opIs (x y : D) (st : Sto) : R D :=
  match x, y with
  | .non, .non => .ok (.bl true) st
  | _, .non => .ok (.bl false) st
  | .bl a, .bl b => .ok (.bl (decide (a = b))) st
  | _, _ => .stuck
def opIsNot (x y : D) (st : Sto) : R D :=
  match x, y with
  | .non, .non => .ok (.bl false) st
  | _, .non => .ok (.bl true) st
  | .bl a, .bl b => .ok (.bl (!decide (a = b))) st
  | _, _ => .stuck
def keyOf : D → Option Key
  | .int i => some (.inl i)
  | .str x => some (.inr x)
  | _ => none
def kvGet (kvs : List (Key × D)) (k : Key) : Option D := (kvs.find? fun kv => decide (kv.1 = k)).map (·.2)
/-- x in y -/
def isIn (st : Sto) (x y : D) : Option Bool :=
  match x, deref st y with
  | .str a, .str b => match a.cps.toList with
    | [c] => some (decide (c ∈ b.cps.toList))
    | _ => none
  | x, .dic kvs => (keyOf x).map fun k => (kvGet kvs k).isSome
  | x, .lst ds => if noRef (deref st x) && noRefs ds && SeqAt.shaped (toPy (deref st x)) && SeqAt.shaped (.list (toPys ds)) then some ((toPys ds).any fun z => PyData.eqv z (toPy (deref st x))) else none
  | _, _ => none
def opIn (x y : D) (st : Sto) : R D :=
  match isIn st x y with
  | some b => .ok (.bl b) st
  | none => .stuck
def opNotIn (x y : D) (st : Sto) : R D :=
  match isIn st x y with
  | some b => .ok (.bl (!b)) st
  | none => .stuck
def truth (st : Sto) (d : D) : Option Bool :=
  match deref st d with
  | .non => some false
  | .bl b => some b
  | .int i => some (i != 0)
  | .str x => if x.length ≤ sizeLine then some ((x.length : Int) != 0) else none
  | .tup ds => some (!ds.isEmpty)
  | .lst ds => some (!ds.isEmpty)
  | .fz ds => some (!ds.isEmpty)
  | .dic kvs => some (!kvs.isEmpty)
  | .ref _ => none
def tyName (st : Sto) (d : D) : Option String :=
  match deref st d with
  | .non => some "NoneType"
  | .bl _ => some "bool"
  | .int _ => some "int"
  | .str _ => some "str"
  | .tup _ => some "tuple"
  | .lst _ => some "list"
  | .fz _ => none
  | .dic _ => some "dict"
  | .ref _ => none
def isInst (T : String) (d : D) (st : Sto) : R D :=
  match tyName st d with
  | some a => match kitB a T with
    | some b => .ok (.bl b) st
    | none => .stuck
  | none => .stuck
def lenD (st : Sto) (d : D) : Option Nat :=
  match deref st d with
  | .str x => if x.length ≤ sizeLine then some x.length else none
  | .tup ds => some ds.length
  | .lst ds => some ds.length
  | .fz ds => some ds.length
  | _ => none
/-- x[i] -/
def opIx (x y : D) (st : Sto) : R D :=
  match deref st x, y with
  | .str z, .int i => if z.length ≤ sizeLine then (match atI z.cps.toList i with
    | some c => .ok (.str ⟨#[c]⟩) st
    | none => .stuck) else .stuck
  | .tup ds, .int i => match atI ds i with
    | some d => .ok d st
    | none => .stuck
  | .lst ds, .int i => match atI ds i with
    | some d => .ok d st
    | none => .stuck
  | .fz ds, .int i => match atI ds i with
    | some d => .ok d st
    | none => .stuck
  | .dic kvs, y => match (keyOf y).bind (kvGet kvs) with
    | some d => .ok d st
    | none => .stuck
  | _, _ => .stuck
def cutL {α : Type} (xs : List α) (lo hi : Option Int) : List α :=
  (xs.drop (HT.sIx xs.length 0 lo)).take (HT.sIx xs.length xs.length hi - HT.sIx xs.length 0 lo)
def opSl (x : D) (lo hi : Option Int) (st : Sto) : R D :=
  match deref st x with
  | .str z => if z.length ≤ sizeLine then .ok (.str (cutS z lo hi)) st else .stuck
  | .tup ds => .ok (.tup (cutL ds lo hi)) st
  | .lst ds => .ok (.lst (cutL ds lo hi)) st
  | _ => .stuck

/-! ### expressions -/
def mVar (i : Nat) : ME := fun env st => match env[i]? with
  | some (some d) => .ok d st
  | _ => .stuck
def mC (d : D) : ME := fun _ st => .ok d st
def mBin (f : D → D → Sto → R D) (a b : ME) : ME := fun env st => (a env st).bind fun x st => (b env st).bind fun y st => f x y st
def mNeg (a : ME) : ME := fun env st => (a env st).bind fun x st => match x with
  | .int i => .ok (.int (-i)) st
  | _ => .stuck
def mAnd (a b : ME) : ME := fun env st => (a env st).bind fun x st => match x with
  | .bl true => b env st
  | .bl false => .ok (.bl false) st
  | _ => .stuck
def mOr (a b : ME) : ME := fun env st => (a env st).bind fun x st => match x with
  | .bl true => .ok (.bl true) st
  | .bl false => b env st
  | _ => .stuck
def mNot (a : ME) : ME := fun env st => (a env st).bind fun x st => match x with
  | .bl b => .ok (.bl (!b)) st
  | _ => .stuck
/-- a test -/
def mT (a : ME) : DEnv → Sto → R Bool := fun env st => (a env st).bind fun x st => match truth st x with
  | some b => .ok b st
  | none => .stuck
def mIfE (c a b : ME) : ME := fun env st => (mT c env st).bind fun k st => if k = true then a env st else b env st
def mArgs : List ME → DEnv → Sto → R (List D)
  | [], _, st => .ok [] st
  | e :: es, env, st => (e env st).bind fun d st => (mArgs es env st).bind fun ds st => .ok (d :: ds) st
def mTup (es : List ME) : ME := fun env st => (mArgs es env st).bind fun ds st => if ds.length ≤ sizeLine then .ok (.tup ds) st else .stuck
def mLst (es : List ME) : ME := fun env st => (mArgs es env st).bind fun ds st => if ds.length ≤ sizeLine then .ok (.lst ds) st else .stuck
/-- a new list of the store -/
def mNew (es : List ME) : ME := fun env st => (mArgs es env st).bind fun ds st => if ds.length ≤ sizeLine then .ok (.ref st.length) (st ++ [.lst ds]) else .stuck
def mCall (f : List D → Sto → R D) (es : List ME) : ME := fun env st => (mArgs es env st).bind fun ds st => f ds st
def mIsI (T : String) (a : ME) : ME := fun env st => (a env st).bind fun x st => isInst T x st
def mOpt (a : Option ME) : DEnv → Sto → R (Option Int) := fun env st => match a with
  | none => .ok none st
  | some a => (a env st).bind fun x st => match x with
    | .int i => .ok (some i) st
    | _ => .stuck
def mSl (a : ME) (lo hi : Option ME) : ME := fun env st => (a env st).bind fun x st => (mOpt lo env st).bind fun i st => (mOpt hi env st).bind fun j st => opSl x i j st

/-! ### what is walked -/
inductive Src where
  | vals (ds : List D)
  | live (l : Nat) (ds : List D)
abbrev MIt := DEnv → Sto → R Src
def Src.items : Src → List D
  | .vals ds => ds
  | .live _ ds => ds
/-- the list that is walked stands as it stood -/
def Src.holds : Src → Sto → Prop
  | .vals _, _ => True
  | .live l ds, st => st[l]? = some (.lst ds)
open Classical in
noncomputable instance (s : Src) (st : Sto) : Decidable (s.holds st) := Classical.propDecidable _
def iSeq (a : ME) : MIt := fun env st => (a env st).bind fun x st => match x with
  | .ref l => match st[l]? with
    | some (.lst ds) => .ok (.live l ds) st
    | _ => .stuck
  | .tup ds => .ok (.vals ds) st
  | .lst ds => .ok (.vals ds) st
  | .fz ds => .ok (.vals ds) st
  | .str z => .ok (.vals (z.cps.toList.map fun c => .str ⟨#[c]⟩)) st
  | _ => .stuck
def rangeD (lo : Int) (n : Nat) : List D := (List.range n).map fun i : Nat => .int (lo + (i : Int))
def iRange1 (a : ME) : MIt := fun env st => (a env st).bind fun x st => match x with
  | .int j => if -(2 ^ 62) ≤ j ∧ j < 2 ^ 62 then .ok (.vals (rangeD 0 j.toNat)) st else .stuck
  | _ => .stuck
def rangeC (lo c : Int) (n : Nat) : List D := (List.range n).map fun i : Nat => .int (lo + (i : Int) * c)
def iRange3 (a b c : ME) : MIt := fun env st => (a env st).bind fun x st => (b env st).bind fun y st => (c env st).bind fun z st => match x, y, z with
  | .int i, .int j, .int k => if k ≠ 0 ∧ k.natAbs < 1073741824 ∧ Builtin.Range.small i j k = true then .ok (.vals (rangeC i k (Builtin.Range.rangeSize i j k).toNat)) st else .stuck
  | _, _, _ => .stuck
def iRange2 (a b : ME) : MIt := fun env st => (a env st).bind fun x st => (b env st).bind fun y st => match x, y with
  | .int i, .int j => if -(2 ^ 62) ≤ i ∧ i < 2 ^ 62 ∧ -(2 ^ 62) ≤ j ∧ j < 2 ^ 62 then .ok (.vals (rangeD i (j - i).toNat)) st else .stuck
  | _, _ => .stuck

/-! ### targets -/
abbrev MG := D → DEnv → Option DEnv
def gVar (i : Nat) : MG := fun d env => some (env.set i (some d))
def gTupN (gs : List MG) : MG := fun d env => match d with
  | .tup ds => go gs ds env
  | _ => none
where go : List MG → List D → DEnv → Option DEnv
  | [], [], env => some env
  | g :: gs, d :: ds, env => match g d env with
    | some env => go gs ds env
    | none => none
  | _, _, _ => none

/-! ### comprehensions -/
def wipeD (env : DEnv) : List Nat → DEnv
  | [] => env
  | v :: vs => (wipeD env vs).set v none
noncomputable def compGo (s : Src) (g : MG) (c : Option ME) (e : ME) (env : DEnv) : List D → Sto → R (List D)
  | [], st => .ok [] st
  | d :: ds, st => match g d env with
    | none => .stuck
    | some env' => match (match c with | none => R.ok true st | some c => mT c env' st) with
      | .ok true st => match e env' st with
        | .ok y st => if s.holds st then (match compGo s g c e env ds st with
          | .ok ys st => .ok (y :: ys) st
          | _ => .stuck) else .stuck
        | _ => .stuck
      | .ok false st => if s.holds st then compGo s g c e env ds st else .stuck
      | _ => .stuck
noncomputable def mComp (it : MIt) (vs : List Nat) (g : MG) (c : Option ME) (e : ME) : ME := fun env st => (it env st).bind fun s st =>
  match compGo s g c e (wipeD env vs) s.items st with
  | .ok ys st => if ys.length ≤ sizeLine then .ok (.lst ys) st else .stuck
  | _ => .stuck

noncomputable def mCompN (it : MIt) (vs : List Nat) (g : MG) (c : Option ME) (e : ME) : ME := fun env st => (it env st).bind fun s st =>
  match compGo s g c e (wipeD env vs) s.items st with
  | .ok ys st => if ys.length ≤ sizeLine then .ok (.ref st.length) (st ++ [.lst ys]) else .stuck
  | _ => .stuck

/-! ### statements -/
def SR.then (r : SR) (f : DEnv → Sto → SR) : SR :=
  match r with
  | .nx env st => f env st
  | r => r
def sSkip : MS := fun env st => .nx env st
/-- what is not read -/
def sStuck : MS := fun _ _ => .stuck
def sSeq (a b : MS) : MS := fun env st => (a env st).then b
def sAsg (e : ME) (g : MG) : MS := fun env st => match e env st with
  | .ok d st => (match g d env with
    | some env => .nx env st
    | none => .stuck)
  | .exc c st => .exc c env st
  | .stuck => .stuck
def sExpr (e : ME) : MS := fun env st => match e env st with
  | .ok _ st => .nx env st
  | .exc c st => .exc c env st
  | .stuck => .stuck
def sRet (e : ME) : MS := fun env st => match e env st with
  | .ok d st => .rt d st
  | .exc c st => .exc c env st
  | .stuck => .stuck
def sIf (c : ME) (a b : MS) : MS := fun env st => match mT c env st with
  | .ok true st => a env st
  | .ok false st => b env st
  | .exc x st => .exc x env st
  | .stuck => .stuck
def sWhile (c : ME) (b : MS) : Nat → MS
  | 0 => fun _ _ => .stuck
  | n + 1 => fun env st => match mT c env st with
    | .ok true st => (match b env st with
      | .nx env st => sWhile c b n env st
      | .ct env st => sWhile c b n env st
      | .bk env st => .nx env st
      | .rt d st => .rt d st
      | .exc x env st => .exc x env st
      | .stuck => .stuck)
    | .ok false st => .nx env st
    | .exc x st => .exc x env st
    | .stuck => .stuck
noncomputable def forGo (s : Src) (g : MG) (b : MS) : List D → DEnv → Sto → SR
  | [], env, st => .nx env st
  | d :: ds, env, st => match g d env with
    | none => .stuck
    | some env => match b env st with
      | .nx env st => if s.holds st then forGo s g b ds env st else .stuck
      | .ct env st => if s.holds st then forGo s g b ds env st else .stuck
      | .bk env st => .nx env st
      | .rt d st => .rt d st
      | .exc x env st => .exc x env st
      | .stuck => .stuck
noncomputable def sFor (it : MIt) (g : MG) (b : MS) : MS := fun env st => match it env st with
  | .ok s st => forGo s g b s.items env st
  | .exc c st => .exc c env st
  | .stuck => .stuck
def sRaise (c : Nat) : MS := fun env st => .exc c env st
/-! tables of the module: texts to data -/
def mKIn (tab : List (Str × D)) (neg : Bool) (a : ME) : ME := fun env st => (a env st).bind fun x st => match x with
  | .str z => .ok (.bl (if neg = true then !(tab.lookup z).isSome else (tab.lookup z).isSome)) st
  | _ => .stuck
def mKIx (tab : List (Str × D)) (a : ME) : ME := fun env st => (a env st).bind fun x st => match x with
  | .str z => (match tab.lookup z with
    | some d => .ok d st
    | none => .stuck)
  | _ => .stuck
end MI
/-! MiB: how data and stores lie in the abstract heap. -/
namespace MI
open PySem PySem.Spec PyProof.Rows L2

/-- a list that never changes: frozen, or an object of the module -/
def FzL (K : PySem.W.Frag) (H : Hp) (a : Addr) (xs : List V) : Prop :=
  (∃ o, H a = some (.frz o (.lst xs))) ∨
    ∃ (o : Obj) (its : Array Value) (n : Nat), K.lookup a = some o ∧ o.cls = .type "list" ∧ o.dict = none ∧ o.data = .seq its n ∧ its.size ≤ sizeLine ∧ Vals xs its.toList
theorem FzL.sq {K : PySem.W.Frag} {H : Hp} {a : Addr} {xs : List V} (h : FzL K H a xs) : SqL K H a xs := by
  rcases h with ⟨o, h⟩ | h
  · exact .inl (.inr ⟨o, h⟩)
  · exact .inr h

/-- the store's objects; objects that are being made and may not be seen -/
structure Rho where
  loc : List Addr
  res : List Addr
instance : Membership Addr Rho := ⟨fun r a => a ∈ r.loc ∨ a ∈ r.res⟩
theorem Rho.mem_def {r : Rho} {a : Addr} : a ∈ r ↔ (a ∈ r.loc ∨ a ∈ r.res) := Iff.rfl
def Rho.add (r : Rho) (p : Addr) : Rho := ⟨r.loc ++ [p], r.res⟩
def Rho.hide (r : Rho) (p : Addr) : Rho := ⟨r.loc, p :: r.res⟩

mutual
inductive RelD (K : PySem.W.Frag) (rho : Rho) (H : Hp) : D → V → Prop where
  | non : RelD K rho H .non .non
  | bl (b : Bool) : RelD K rho H (.bl b) (.bl b)
  | int (i : Int) : RelD K rho H (.int i) (.int i)
  | str (x : Str) : RelD K rho H (.str x) (.str x)
  | tup {a : Addr} {ds : List D} {vs : List V} (h : SqT K H a vs) (r : RelDs K rho H ds vs) : RelD K rho H (.tup ds) (.ref a)
  | lst {a : Addr} {ds : List D} {vs : List V} (h : H a = some (.lst vs)) (n : a ∉ rho) (r : RelDs K rho H ds vs) : RelD K rho H (.lst ds) (.ref a)
  | fz {a : Addr} {ds : List D} {vs : List V} (h : FzL K H a vs) (r : RelDs K rho H ds vs) : RelD K rho H (.fz ds) (.ref a)
  | dic {a : Addr} {ds : List (Key × D)} {vs : List (Key × V)} (h : H a = some (.dK vs)) (n : a ∉ rho) (r : RelK K rho H ds vs) : RelD K rho H (.dic ds) (.ref a)
  | ref {l : Nat} {a : Addr} (h : rho.loc[l]? = some a) : RelD K rho H (.ref l) (.ref a)
inductive RelDs (K : PySem.W.Frag) (rho : Rho) (H : Hp) : List D → List V → Prop where
  | nil : RelDs K rho H [] []
  | cons {d : D} {ds : List D} {v : V} {vs : List V} (h : RelD K rho H d v) (t : RelDs K rho H ds vs) : RelDs K rho H (d :: ds) (v :: vs)
inductive RelK (K : PySem.W.Frag) (rho : Rho) (H : Hp) : List (Key × D) → List (Key × V) → Prop where
  | nil : RelK K rho H [] []
  | cons {k : Key} {d : D} {ds : List (Key × D)} {v : V} {vs : List (Key × V)} (h : RelD K rho H d v) (t : RelK K rho H ds vs) : RelK K rho H ((k, d) :: ds) ((k, v) :: vs)
end

/-- what a run may do to the heap: untracked objects stay -/
structure Ext (rho : Rho) (H : Hp) (rho' : Rho) (H' : Hp) : Prop where
  new : ∃ n, rho'.loc = rho.loc ++ n ∧ ∀ b ∈ n, H b = none
  res : rho'.res = rho.res
  keep : ∀ b o, H b = some o → b ∉ rho → H' b = some o
  kres : ∀ b o, H b = some o → b ∈ rho.res → H' b = some o
  tup : ∀ b xs, H b = some (.tup xs) → H' b = some (.tup xs)
  frz : ∀ b o u, H b = some (.frz o u) → H' b = some (.frz o u)
  liv : ∀ b o, H b = some o → ∃ o', H' b = some o'

theorem Ext.refl (rho : Rho) (H : Hp) : Ext rho H rho H :=
  ⟨⟨[], by simp, fun b hb => absurd hb (by simp)⟩, rfl, fun _ _ h _ => h, fun _ _ h _ => h, fun _ _ h => h, fun _ _ _ h => h, fun _ o h => ⟨o, h⟩⟩
theorem Ext.none_of {rho rho' : Rho} {H H' : Hp} (e : Ext rho H rho' H') {b : Addr} (h : H' b = none) : H b = none := by
  cases q : H b with
  | none => rfl
  | some o =>
    obtain ⟨o', h'⟩ := e.liv b o q
    rw [h] at h'; cases h'
theorem Ext.notMem {rho rho' : Rho} {H H' : Hp} (e : Ext rho H rho' H') {b : Addr} {o : HO} (h : H b = some o) (n : b ∉ rho) : b ∉ rho' := by
  obtain ⟨m, em, hm⟩ := e.new
  intro hb
  rcases hb with hb | hb
  · rw [em] at hb
    rcases List.mem_append.mp hb with hb | hb
    · exact n (.inl hb)
    · rw [hm b hb] at h; cases h
  · rw [e.res] at hb
    exact n (.inr hb)
theorem Ext.trans {r0 r1 r2 : Rho} {H0 H1 H2 : Hp} (a : Ext r0 H0 r1 H1) (b : Ext r1 H1 r2 H2) : Ext r0 H0 r2 H2 := by
  refine ⟨?_, b.res.trans a.res, fun c o h n => b.keep c o (a.keep c o h n) (a.notMem h n), fun c o h n => b.kres c o (a.kres c o h n) (by rw [a.res]; exact n), fun c xs h => b.tup c xs (a.tup c xs h), fun c o u h => b.frz c o u (a.frz c o u h), fun c o h => ?_⟩
  · obtain ⟨n1, e1, h1⟩ := a.new
    obtain ⟨n2, e2, h2⟩ := b.new
    refine ⟨n1 ++ n2, by rw [e2, e1, List.append_assoc], fun c hc => ?_⟩
    rcases List.mem_append.mp hc with hc | hc
    · exact h1 c hc
    · exact a.none_of (h2 c hc)
  · obtain ⟨o1, h1⟩ := a.liv c o h
    exact b.liv c o1 h1
theorem Ext.get {rho rho' : Rho} {H H' : Hp} (e : Ext rho H rho' H') {l : Nat} {a : Addr} (h : rho.loc[l]? = some a) : rho'.loc[l]? = some a := by
  obtain ⟨n, en, _⟩ := e.new
  obtain ⟨hl, _⟩ := List.getElem?_eq_some_iff.mp h
  rw [en, List.getElem?_append_left hl]
  exact h
theorem Ext.sqT {K : PySem.W.Frag} {rho rho' : Rho} {H H' : Hp} (e : Ext rho H rho' H') {a : Addr} {xs : List V} (h : SqT K H a xs) : SqT K H' a xs := by
  rcases h with (h | ⟨o, h⟩) | h
  · exact .inl (.inl (e.tup a xs h))
  · exact .inl (.inr ⟨o, e.frz a o _ h⟩)
  · exact .inr h
theorem Ext.fzL {K : PySem.W.Frag} {rho rho' : Rho} {H H' : Hp} (e : Ext rho H rho' H') {a : Addr} {xs : List V} (h : FzL K H a xs) : FzL K H' a xs := by
  rcases h with ⟨o, h⟩ | h
  · exact .inl ⟨o, e.frz a o _ h⟩
  · exact .inr h
mutual
theorem RelD.ext {K : PySem.W.Frag} {rho rho' : Rho} {H H' : Hp} (e : Ext rho H rho' H') : ∀ {d : D} {v : V}, RelD K rho H d v → RelD K rho' H' d v
  | _, _, .non => .non
  | _, _, .bl b => .bl b
  | _, _, .int i => .int i
  | _, _, .str x => .str x
  | _, _, .tup h r => .tup (e.sqT h) (RelDs.ext e r)
  | _, _, .lst h n r => .lst (e.keep _ _ h n) (e.notMem h n) (RelDs.ext e r)
  | _, _, .fz h r => .fz (e.fzL h) (RelDs.ext e r)
  | _, _, .dic h n r => .dic (e.keep _ _ h n) (e.notMem h n) (RelK.ext e r)
  | _, _, .ref h => .ref (e.get h)
theorem RelDs.ext {K : PySem.W.Frag} {rho rho' : Rho} {H H' : Hp} (e : Ext rho H rho' H') : ∀ {ds : List D} {vs : List V}, RelDs K rho H ds vs → RelDs K rho' H' ds vs
  | _, _, .nil => .nil
  | _, _, .cons h t => .cons (RelD.ext e h) (RelDs.ext e t)
theorem RelK.ext {K : PySem.W.Frag} {rho rho' : Rho} {H H' : Hp} (e : Ext rho H rho' H') : ∀ {ds : List (Key × D)} {vs : List (Key × V)}, RelK K rho H ds vs → RelK K rho' H' ds vs
  | _, _, .nil => .nil
  | _, _, .cons h t => .cons (RelD.ext e h) (RelK.ext e t)
end
theorem RelDs.length {K : PySem.W.Frag} {rho : Rho} {H : Hp} : ∀ {ds : List D} {vs : List V}, RelDs K rho H ds vs → ds.length = vs.length
  | _, _, .nil => rfl
  | _, _, .cons _ t => by simp [RelDs.length t]
theorem RelDs.get {K : PySem.W.Frag} {rho : Rho} {H : Hp} : ∀ {ds : List D} {vs : List V}, RelDs K rho H ds vs → ∀ {i : Nat} {d : D}, ds[i]? = some d → ∃ v, vs[i]? = some v ∧ RelD K rho H d v
  | _, _, .nil, _, _, h => by simp at h
  | _, _, .cons h _, 0, _, e => by simp at e; subst e; exact ⟨_, rfl, h⟩
  | _, _, .cons _ t, i + 1, _, e => by
    obtain ⟨v, h1, h2⟩ := RelDs.get t (i := i) (by simpa using e)
    exact ⟨v, by simpa using h1, h2⟩
theorem RelDs.append {K : PySem.W.Frag} {rho : Rho} {H : Hp} : ∀ {ds es : List D} {vs ws : List V}, RelDs K rho H ds vs → RelDs K rho H es ws → RelDs K rho H (ds ++ es) (vs ++ ws)
  | _, _, _, _, .nil, s => s
  | _, _, _, _, .cons h t, s => .cons h (RelDs.append t s)
theorem RelDs.drop {K : PySem.W.Frag} {rho : Rho} {H : Hp} : ∀ {ds : List D} {vs : List V} (n : Nat), RelDs K rho H ds vs → RelDs K rho H (ds.drop n) (vs.drop n)
  | _, _, 0, r => r
  | _, _, _ + 1, .nil => .nil
  | _, _, n + 1, .cons _ t => RelDs.drop n t
theorem RelDs.take {K : PySem.W.Frag} {rho : Rho} {H : Hp} : ∀ {ds : List D} {vs : List V} (n : Nat), RelDs K rho H ds vs → RelDs K rho H (ds.take n) (vs.take n)
  | _, _, 0, _ => .nil
  | _, _, _ + 1, .nil => .nil
  | _, _, n + 1, .cons h t => .cons h (RelDs.take n t)
theorem RelK.length {K : PySem.W.Frag} {rho : Rho} {H : Hp} : ∀ {ds : List (Key × D)} {vs : List (Key × V)}, RelK K rho H ds vs → ds.length = vs.length
  | _, _, .nil => rfl
  | _, _, .cons _ t => by simp [RelK.length t]

/-- an object of the store -/
def ObjR (K : PySem.W.Frag) (rho : Rho) (H : Hp) (a : Addr) : SO → Prop
  | .lst ds => ∃ vs, H a = some (.lst vs) ∧ RelDs K rho H ds vs
  | .dic ds => ∃ vs, H a = some (.dK vs) ∧ RelK K rho H ds vs
theorem ObjR.tracked {K : PySem.W.Frag} {rho : Rho} {H : Hp} {a : Addr} {o : SO} (h : ObjR K rho H a o) : ∃ u, H a = some u ∧ Mut (some u) := by
  cases o with
  | lst ds => obtain ⟨vs, h, _⟩ := h; exact ⟨_, h, trivial⟩
  | dic ds => obtain ⟨vs, h, _⟩ := h; exact ⟨_, h, trivial⟩
structure Wld (K : PySem.W.Frag) (rho : Rho) (st : Sto) (H : Hp) : Prop where
  len : rho.loc.length = st.length
  nd : rho.loc.Nodup
  obj : ∀ (l : Nat) (a : Addr) (o : SO), rho.loc[l]? = some a → st[l]? = some o → ObjR K rho H a o
  dis : ∀ a ∈ rho.loc, a ∉ rho.res
  rsv : ∀ b ∈ rho.res, ∃ o, H b = some o ∧ Mut (some o)
theorem Wld.at {K : PySem.W.Frag} {rho : Rho} {st : Sto} {H : Hp} (w : Wld K rho st H) {a : Addr} (h : a ∈ rho.loc) : ∃ (l : Nat) (o : SO), rho.loc[l]? = some a ∧ st[l]? = some o ∧ ObjR K rho H a o := by
  obtain ⟨l, hl, e⟩ := List.mem_iff_getElem.mp h
  have h1 : rho.loc[l]? = some a := by rw [List.getElem?_eq_getElem hl, e]
  have hl2 : l < st.length := by rw [← w.len]; exact hl
  exact ⟨l, st[l], h1, List.getElem?_eq_getElem hl2, w.obj l a _ h1 (List.getElem?_eq_getElem hl2)⟩
theorem Wld.fresh {K : PySem.W.Frag} {rho : Rho} {st : Sto} {H : Hp} (w : Wld K rho st H) {p : Addr} (h : H p = none) : p ∉ rho := fun hp => by
  rcases hp with hp | hp
  · obtain ⟨l, o, _, _, r⟩ := w.at hp
    obtain ⟨u, e, _⟩ := r.tracked
    rw [h] at e; cases e
  · obtain ⟨xs, e, _⟩ := w.rsv p hp
    rw [h] at e; cases e
/-- a new object that is not tracked -/
theorem Wld.extTmp {K : PySem.W.Frag} {rho : Rho} {st : Sto} {H : Hp} (w : Wld K rho st H) {p : Addr} (h : H p = none) (o : HO) : Ext rho H rho (upd H p o) :=
  ⟨⟨[], by simp, fun b hb => absurd hb (by simp)⟩, rfl, fun b u e _ => by rw [upd_ne (ne_of_none e h)]; exact e, fun b u e _ => by rw [upd_ne (ne_of_none e h)]; exact e, fun b xs e => by rw [upd_ne (ne_of_none e h)]; exact e,
    fun b q u e => by rw [upd_ne (ne_of_none e h)]; exact e, fun b u e => ⟨u, by rw [upd_ne (ne_of_none e h)]; exact e⟩⟩
theorem ObjR.ext {K : PySem.W.Frag} {rho rho' : Rho} {H H' : Hp} {a : Addr} {o : SO} (e : Ext rho H rho' H') (q : ∀ u, H a = some u → H' a = some u) (h : ObjR K rho H a o) : ObjR K rho' H' a o := by
  cases o with
  | lst ds => obtain ⟨vs, h, r⟩ := h; exact ⟨vs, q _ h, r.ext e⟩
  | dic ds => obtain ⟨vs, h, r⟩ := h; exact ⟨vs, q _ h, r.ext e⟩
theorem Wld.tmp {K : PySem.W.Frag} {rho : Rho} {st : Sto} {H : Hp} (w : Wld K rho st H) {p : Addr} (h : H p = none) (o : HO) : Wld K rho st (upd H p o) :=
  ⟨w.len, w.nd, fun l a u h1 h2 => (w.obj l a u h1 h2).ext (w.extTmp h o) fun x e => by rw [upd_ne (ne_of_none e h)]; exact e, w.dis, fun b hb => by
    obtain ⟨xs, e, m⟩ := w.rsv b hb
    exact ⟨xs, by rw [upd_ne (ne_of_none e h)]; exact e, m⟩⟩
/-- a new object of the store -/
theorem Wld.extNew {K : PySem.W.Frag} {rho : Rho} {st : Sto} {H : Hp} (w : Wld K rho st H) {p : Addr} (h : H p = none) (o : HO) : Ext rho H (rho.add p) (upd H p o) :=
  ⟨⟨[p], rfl, fun b hb => by rw [List.mem_singleton.mp hb]; exact h⟩, rfl, (w.extTmp h o).keep, (w.extTmp h o).kres, (w.extTmp h o).tup, (w.extTmp h o).frz, (w.extTmp h o).liv⟩
theorem Wld.new {K : PySem.W.Frag} {rho : Rho} {st : Sto} {H : Hp} (w : Wld K rho st H) {p : Addr} (h : H p = none) {o : HO} {so : SO} (r : ObjR K (rho.add p) (upd H p o) p so) : Wld K (rho.add p) (st ++ [so]) (upd H p o) := by
  refine ⟨by simp [Rho.add, w.len], ?_, fun l a u h1 h2 => ?_, fun a ha => ?_, fun b hb => ?_⟩
  · show (rho.loc ++ [p]).Nodup
    rw [List.nodup_append]
    exact ⟨w.nd, by simp, fun a ha b hb => by rw [List.mem_singleton.mp hb]; exact fun e => w.fresh h (.inl (e ▸ ha))⟩
  · have h1' : (rho.loc ++ [p])[l]? = some a := h1
    by_cases hl : l < rho.loc.length
    · rw [List.getElem?_append_left hl] at h1'
      rw [List.getElem?_append_left (by rw [← w.len]; exact hl)] at h2
      exact (w.obj l a u h1' h2).ext (w.extNew h o) fun x e => by rw [upd_ne (ne_of_none e h)]; exact e
    · obtain ⟨hl2, _⟩ := List.getElem?_eq_some_iff.mp h1'
      have e : l = rho.loc.length := by simp at hl2; omega
      subst e
      rw [List.getElem?_append_right (Nat.le_refl _)] at h1'
      rw [w.len, List.getElem?_append_right (Nat.le_refl _)] at h2
      simp at h1' h2
      subst h1' h2
      exact r
  · rcases List.mem_append.mp ha with ha | ha
    · exact w.dis a ha
    · rw [List.mem_singleton.mp ha]
      exact fun z => w.fresh h (.inr z)
  · obtain ⟨xs, e, m⟩ := w.rsv b hb
    exact ⟨xs, by rw [upd_ne (ne_of_none e h)]; exact e, m⟩
/-- an object of the store changed -/
theorem Wld.extSet {K : PySem.W.Frag} {rho : Rho} {st : Sto} {H : Hp} (w : Wld K rho st H) {l : Nat} {a : Addr} (h : rho.loc[l]? = some a) (o : HO) : Ext rho H rho (upd H a o) := by
  have ha : a ∈ rho.loc := List.mem_of_getElem? h
  obtain ⟨l', so, _, _, r⟩ := w.at ha
  obtain ⟨u, hu, hm⟩ := r.tracked
  refine ⟨⟨[], by simp, fun b hb => absurd hb (by simp)⟩, rfl, fun b x e n => ?_, fun b x e n => ?_, fun b xs e => ?_, fun b q x e => ?_, fun b x e => ?_⟩
  · rw [upd_ne (fun z : b = a => n (by rw [z]; exact .inl ha))]; exact e
  · rw [upd_ne (fun z : b = a => w.dis a ha (by rw [← z]; exact n))]; exact e
  · rw [upd_ne (fun z => by subst z; rw [hu] at e; cases e; exact hm)]; exact e
  · rw [upd_ne (fun z => by subst z; rw [hu] at e; cases e; exact hm)]; exact e
  · by_cases z : b = a
    · subst z; exact ⟨o, upd_same⟩
    · exact ⟨x, by rw [upd_ne z]; exact e⟩
theorem Wld.set {K : PySem.W.Frag} {rho : Rho} {st : Sto} {H : Hp} (w : Wld K rho st H) {l : Nat} {a : Addr} (h : rho.loc[l]? = some a) {o : HO} {so : SO} (r : ObjR K rho (upd H a o) a so) : Wld K rho (st.set l so) (upd H a o) := by
  have ha : a ∈ rho.loc := List.mem_of_getElem? h
  refine ⟨by simp [w.len], w.nd, fun l' a' u h1 h2 => ?_, w.dis, fun b hb => ?_⟩
  · by_cases e : l' = l
    · subst e
      rw [h] at h1; cases h1
      obtain ⟨hl, _⟩ := List.getElem?_eq_some_iff.mp h
      rw [List.getElem?_set_self (by rw [← w.len]; exact hl)] at h2
      cases h2
      exact r
    · rw [List.getElem?_set_ne (fun z => e z.symm)] at h2
      have na : a' ≠ a := fun z => by
        subst z
        obtain ⟨hl, e1⟩ := List.getElem?_eq_some_iff.mp h
        obtain ⟨hl', e2⟩ := List.getElem?_eq_some_iff.mp h1
        exact e ((List.getElem_inj w.nd).mp (e2.trans e1.symm))
      exact (w.obj l' a' u h1 h2).ext (w.extSet h o) fun x q => by rw [upd_ne na]; exact q
  · obtain ⟨xs, e, m⟩ := w.rsv b hb
    exact ⟨xs, by rw [upd_ne (fun z : b = a => w.dis a ha (by rw [← z]; exact hb))]; exact e, m⟩

/-! ### a list that is being made -/
mutual
theorem RelD.hide {K : PySem.W.Frag} {rho : Rho} {H : Hp} {p : Addr} {o : HO} (h : H p = none) : ∀ {d : D} {v : V}, RelD K rho H d v → RelD K (rho.hide p) (upd H p o) d v
  | _, _, .non => .non
  | _, _, .bl b => .bl b
  | _, _, .int i => .int i
  | _, _, .str x => .str x
  | _, _, .tup q r => .tup (by
      rcases q with (q | ⟨ob, q⟩) | q
      · exact .inl (.inl (by rw [upd_ne (ne_of_none q h)]; exact q))
      · exact .inl (.inr ⟨ob, by rw [upd_ne (ne_of_none q h)]; exact q⟩)
      · exact .inr q) (RelDs.hide h r)
  | _, _, .lst q n r => .lst (by rw [upd_ne (ne_of_none q h)]; exact q) (fun z => by
      rcases z with z | z
      · exact n (.inl z)
      · rcases List.mem_cons.mp z with z | z
        · subst z; rw [h] at q; cases q
        · exact n (.inr z)) (RelDs.hide h r)
  | _, _, .fz q r => .fz (by
      rcases q with ⟨ob, q⟩ | q
      · exact .inl ⟨ob, by rw [upd_ne (ne_of_none q h)]; exact q⟩
      · exact .inr q) (RelDs.hide h r)
  | _, _, .dic q n r => .dic (by rw [upd_ne (ne_of_none q h)]; exact q) (fun z => by
      rcases z with z | z
      · exact n (.inl z)
      · rcases List.mem_cons.mp z with z | z
        · subst z; rw [h] at q; cases q
        · exact n (.inr z)) (RelK.hide h r)
  | _, _, .ref q => .ref q
theorem RelDs.hide {K : PySem.W.Frag} {rho : Rho} {H : Hp} {p : Addr} {o : HO} (h : H p = none) : ∀ {ds : List D} {vs : List V}, RelDs K rho H ds vs → RelDs K (rho.hide p) (upd H p o) ds vs
  | _, _, .nil => .nil
  | _, _, .cons q t => .cons (RelD.hide h q) (RelDs.hide h t)
theorem RelK.hide {K : PySem.W.Frag} {rho : Rho} {H : Hp} {p : Addr} {o : HO} (h : H p = none) : ∀ {ds : List (Key × D)} {vs : List (Key × V)}, RelK K rho H ds vs → RelK K (rho.hide p) (upd H p o) ds vs
  | _, _, .nil => .nil
  | _, _, .cons q t => .cons (RelD.hide h q) (RelK.hide h t)
end
theorem Wld.hide {K : PySem.W.Frag} {rho : Rho} {st : Sto} {H : Hp} (w : Wld K rho st H) {p : Addr} (h : H p = none) (o : HO) (hm : Mut (some o)) : Wld K (rho.hide p) st (upd H p o) := by
  refine ⟨w.len, w.nd, fun l a u h1 h2 => ?_, fun a ha z => ?_, fun b hb => ?_⟩
  · have q := w.obj l a u h1 h2
    cases u with
    | lst ds => obtain ⟨vs, q, r⟩ := q; exact ⟨vs, by rw [upd_ne (ne_of_none q h)]; exact q, r.hide h⟩
    | dic ds => obtain ⟨vs, q, r⟩ := q; exact ⟨vs, by rw [upd_ne (ne_of_none q h)]; exact q, r.hide h⟩
  · rcases List.mem_cons.mp z with z | z
    · exact w.fresh h (.inl (z ▸ ha))
    · exact w.dis a ha z
  · rcases List.mem_cons.mp hb with z | z
    · subst z; exact ⟨o, upd_same, hm⟩
    · obtain ⟨ys, e, m⟩ := w.rsv b z
      exact ⟨ys, by rw [upd_ne (ne_of_none e h)]; exact e, m⟩
/-- the hidden list grows -/
theorem Ext.grow {rho : Rho} {H : Hp} {p : Addr} {o o' : HO} (hp : p ∈ rho.res) (h : H p = some o) (hm : Mut (some o)) : (∀ b xs', H b = some (.tup xs') → upd H p o' b = some (.tup xs')) ∧ (∀ b q u, H b = some (.frz q u) → upd H p o' b = some (.frz q u)) :=
  ⟨fun b xs' e => by rw [upd_ne (fun z => by subst z; rw [h] at e; cases e; exact hm)]; exact e, fun b q u e => by rw [upd_ne (fun z => by subst z; rw [h] at e; cases e; exact hm)]; exact e⟩
mutual
theorem RelD.grow {K : PySem.W.Frag} {rho : Rho} {H : Hp} {p : Addr} {o o' : HO} (hp : p ∈ rho.res) (h : H p = some o) (hm : Mut (some o)) : ∀ {d : D} {v : V}, RelD K rho H d v → RelD K rho (upd H p o') d v
  | _, _, .non => .non
  | _, _, .bl b => .bl b
  | _, _, .int i => .int i
  | _, _, .str x => .str x
  | _, _, .tup q r => .tup (by
      rcases q with (q | ⟨ob, q⟩) | q
      · exact .inl (.inl ((Ext.grow hp h hm).1 _ _ q))
      · exact .inl (.inr ⟨ob, (Ext.grow hp h hm).2 _ _ _ q⟩)
      · exact .inr q) (RelDs.grow hp h hm r)
  | _, _, .lst q n r => .lst (by rw [upd_ne (fun z => n (by rw [z]; exact .inr hp))]; exact q) n (RelDs.grow hp h hm r)
  | _, _, .fz q r => .fz (by
      rcases q with ⟨ob, q⟩ | q
      · exact .inl ⟨ob, (Ext.grow hp h hm).2 _ _ _ q⟩
      · exact .inr q) (RelDs.grow hp h hm r)
  | _, _, .dic q n r => .dic (by rw [upd_ne (fun z => n (by rw [z]; exact .inr hp))]; exact q) n (RelK.grow hp h hm r)
  | _, _, .ref q => .ref q
theorem RelDs.grow {K : PySem.W.Frag} {rho : Rho} {H : Hp} {p : Addr} {o o' : HO} (hp : p ∈ rho.res) (h : H p = some o) (hm : Mut (some o)) : ∀ {ds : List D} {vs : List V}, RelDs K rho H ds vs → RelDs K rho (upd H p o') ds vs
  | _, _, .nil => .nil
  | _, _, .cons q t => .cons (RelD.grow hp h hm q) (RelDs.grow hp h hm t)
theorem RelK.grow {K : PySem.W.Frag} {rho : Rho} {H : Hp} {p : Addr} {o o' : HO} (hp : p ∈ rho.res) (h : H p = some o) (hm : Mut (some o)) : ∀ {ds : List (Key × D)} {vs : List (Key × V)}, RelK K rho H ds vs → RelK K rho (upd H p o') ds vs
  | _, _, .nil => .nil
  | _, _, .cons q t => .cons (RelD.grow hp h hm q) (RelK.grow hp h hm t)
end
theorem Wld.grow {K : PySem.W.Frag} {rho : Rho} {st : Sto} {H : Hp} (w : Wld K rho st H) {p : Addr} {o o' : HO} (hp : p ∈ rho.res) (h : H p = some o) (hm : Mut (some o)) (hm' : Mut (some o')) : Wld K rho st (upd H p o') := by
  refine ⟨w.len, w.nd, fun l a u h1 h2 => ?_, w.dis, fun b hb => ?_⟩
  · have na : a ≠ p := fun z => w.dis a (List.mem_of_getElem? h1) (by rw [z]; exact hp)
    have q := w.obj l a u h1 h2
    cases u with
    | lst ds => obtain ⟨vs, q, r⟩ := q; exact ⟨vs, by rw [upd_ne na]; exact q, r.grow hp h hm⟩
    | dic ds => obtain ⟨vs, q, r⟩ := q; exact ⟨vs, by rw [upd_ne na]; exact q, r.grow hp h hm⟩
  · by_cases z : b = p
    · subst z; exact ⟨o', upd_same, hm'⟩
    · obtain ⟨zs, e, m⟩ := w.rsv b hb
      exact ⟨zs, by rw [upd_ne z]; exact e, m⟩
/-- it may be seen again -/
def Rho.show_ (r : Rho) (res : List Addr) : Rho := ⟨r.loc, res⟩
mutual
theorem RelD.show_ {K : PySem.W.Frag} {rho : Rho} {H : Hp} {res : List Addr} (hs : ∀ b ∈ res, b ∈ rho.res) : ∀ {d : D} {v : V}, RelD K rho H d v → RelD K (rho.show_ res) H d v
  | _, _, .non => .non
  | _, _, .bl b => .bl b
  | _, _, .int i => .int i
  | _, _, .str x => .str x
  | _, _, .tup q r => .tup q (RelDs.show_ hs r)
  | _, _, .lst q n r => .lst q (fun z => n (z.elim .inl fun z => .inr (hs _ z))) (RelDs.show_ hs r)
  | _, _, .fz q r => .fz q (RelDs.show_ hs r)
  | _, _, .dic q n r => .dic q (fun z => n (z.elim .inl fun z => .inr (hs _ z))) (RelK.show_ hs r)
  | _, _, .ref q => .ref q
theorem RelDs.show_ {K : PySem.W.Frag} {rho : Rho} {H : Hp} {res : List Addr} (hs : ∀ b ∈ res, b ∈ rho.res) : ∀ {ds : List D} {vs : List V}, RelDs K rho H ds vs → RelDs K (rho.show_ res) H ds vs
  | _, _, .nil => .nil
  | _, _, .cons q t => .cons (RelD.show_ hs q) (RelDs.show_ hs t)
theorem RelK.show_ {K : PySem.W.Frag} {rho : Rho} {H : Hp} {res : List Addr} (hs : ∀ b ∈ res, b ∈ rho.res) : ∀ {ds : List (Key × D)} {vs : List (Key × V)}, RelK K rho H ds vs → RelK K (rho.show_ res) H ds vs
  | _, _, .nil => .nil
  | _, _, .cons q t => .cons (RelD.show_ hs q) (RelK.show_ hs t)
end
theorem Wld.show_ {K : PySem.W.Frag} {rho : Rho} {st : Sto} {H : Hp} (w : Wld K rho st H) {res : List Addr} (hs : ∀ b ∈ res, b ∈ rho.res) : Wld K (rho.show_ res) st H := by
  refine ⟨w.len, w.nd, fun l a u h1 h2 => ?_, fun a ha z => w.dis a ha (hs _ z), fun b hb => w.rsv b (hs b hb)⟩
  have q := w.obj l a u h1 h2
  cases u with
  | lst ds => obtain ⟨vs, q, r⟩ := q; exact ⟨vs, q, r.show_ hs⟩
  | dic ds => obtain ⟨vs, q, r⟩ := q; exact ⟨vs, q, r.show_ hs⟩

/-- the slots -/
structure RelEnv (K : PySem.W.Frag) (rho : Rho) (H : Hp) (env : DEnv) (sg : L2.St) : Prop where
  len : env.length = sg.length
  at_ : ∀ (i : Nat) (d : D), env[i]? = some (some d) → ∃ v, sg[i]? = some (some v) ∧ RelD K rho H d v
theorem RelEnv.ext {K : PySem.W.Frag} {rho rho' : Rho} {H H' : Hp} {env : DEnv} {sg : L2.St} (e : Ext rho H rho' H') (r : RelEnv K rho H env sg) : RelEnv K rho' H' env sg :=
  ⟨r.len, fun i d h => let ⟨v, h1, h2⟩ := r.at_ i d h; ⟨v, h1, h2.ext e⟩⟩
theorem RelEnv.set {K : PySem.W.Frag} {rho : Rho} {H : Hp} {env : DEnv} {sg : L2.St} (r : RelEnv K rho H env sg) {d : D} {v : V} (h : RelD K rho H d v) (i : Nat) : RelEnv K rho H (env.set i (some d)) (sg.set i (some v)) := by
  refine ⟨by simp [r.len], fun j d' hj => ?_⟩
  by_cases e : i = j
  · subst e
    by_cases hl : i < env.length
    · rw [List.getElem?_set_self hl] at hj
      cases hj
      exact ⟨v, by rw [List.getElem?_set_self (by rw [← r.len]; exact hl)], h⟩
    · rw [List.getElem?_eq_none (by simpa using hl)] at hj; cases hj
  · rw [List.getElem?_set_ne e] at hj
    obtain ⟨v', h1, h2⟩ := r.at_ j d' hj
    exact ⟨v', by rw [List.getElem?_set_ne e]; exact h1, h2⟩
theorem RelEnv.wipe {K : PySem.W.Frag} {rho : Rho} {H : Hp} {env : DEnv} {sg : L2.St} (r : RelEnv K rho H env sg) : ∀ vs : List Nat, RelEnv K rho H (wipeD env vs) (wipe sg vs)
  | [] => r
  | v :: vs => by
    have ih := RelEnv.wipe r vs
    refine ⟨by simp [wipeD, L2.wipe, ih.len], fun j d hj => ?_⟩
    unfold wipeD at hj
    unfold L2.wipe
    by_cases e : v = j
    · subst e
      by_cases hl : v < (wipeD env vs).length
      · rw [List.getElem?_set_self hl] at hj; cases hj
      · rw [List.getElem?_eq_none (by simpa using hl)] at hj; cases hj
    · rw [List.getElem?_set_ne e] at hj
      obtain ⟨v', h1, h2⟩ := ih.at_ j d hj
      exact ⟨v', by rw [List.getElem?_set_ne e]; exact h1, h2⟩

/-! ### what is wanted of a result -/
/-- cls: the class value of an exception's number -/
def OkR {α : Type} (K : PySem.W.Frag) (cls : Nat → Value) (W : WX) (sg : L2.St) (rho : Rho) (H : Hp) (r : R α) (P : α → Sto → Rho → Hp → Prop) : Prop :=
  match r with
  | .ok a st => ∀ rho' H', Ext rho H rho' H' → Wld K rho' st H' → P a st rho' H'
  | .exc c st => ∀ rho' H', Ext rho H rho' H' → Wld K rho' st H' → W (cls c) none sg H'
  | .stuck => False
section
variable {α β : Type} {K : PySem.W.Frag} {cls : Nat → Value} {W : WX} {sg : L2.St} {rho rho1 : Rho} {H H1 : Hp}
theorem OkR.from {r : R α} {P : α → Sto → Rho → Hp → Prop} (h : OkR K cls W sg rho H r P) (e : Ext rho H rho1 H1) : OkR K cls W sg rho1 H1 r P := by
  cases r with
  | ok a st => exact fun r2 H2 e2 w2 => h r2 H2 (e.trans e2) w2
  | exc c st => exact fun r2 H2 e2 w2 => h r2 H2 (e.trans e2) w2
  | stuck => exact h
theorem OkR.mono {r : R α} {P P' : α → Sto → Rho → Hp → Prop} (h : OkR K cls W sg rho H r P) (f : ∀ a st rho' H', Ext rho H rho' H' → Wld K rho' st H' → P a st rho' H' → P' a st rho' H') : OkR K cls W sg rho H r P' := by
  cases r with
  | ok a st => exact fun r2 H2 e2 w2 => f _ _ _ _ e2 w2 (h r2 H2 e2 w2)
  | exc c st => exact h
  | stuck => exact h
theorem OkR.bind {r : R α} {f : α → Sto → R β} {P : β → Sto → Rho → Hp → Prop} (h : OkR K cls W sg rho H (r.bind f) P) :
    OkR K cls W sg rho H r (fun a st rho' H' => OkR K cls W sg rho' H' (f a st) P) := by
  cases r with
  | ok a st => exact fun r2 H2 e2 _ => OkR.from h e2
  | exc c st => exact h
  | stuck => exact h
theorem OkR.ok {a : α} {st : Sto} {P : α → Sto → Rho → Hp → Prop} (h : OkR K cls W sg rho H (.ok a st) P) (w : Wld K rho st H) : P a st rho H := h rho H (Ext.refl rho H) w
end
/-- a value is wanted -/
def VQ (K : PySem.W.Frag) (Q : VK) : D → Sto → Rho → Hp → Prop := fun d _ rho H => ∀ v, RelD K rho H d v → Q v H
def tE (K : PySem.W.Frag) (cls : Nat → Value) (W : WX) (m : ME) : TE := fun sg H Q => ∃ rho env st, Wld K rho st H ∧ RelEnv K rho H env sg ∧ OkR K cls W sg rho H (m env st) (VQ K Q)
def tTm (K : PySem.W.Frag) (cls : Nat → Value) (W : WX) (m : ME) : TT := fun sg H Q => ∃ rho env st, Wld K rho st H ∧ RelEnv K rho H env sg ∧ OkR K cls W sg rho H (mT m env st) (fun b _ _ H' => Q b H')
/-- arguments -/
def tAm (K : PySem.W.Frag) (cls : Nat → Value) (W : WX) (ms : List ME) : TA := fun sg H Q => ∃ rho env st, Wld K rho st H ∧ RelEnv K rho H env sg ∧
  OkR K cls W sg rho H (mArgs ms env st) (fun ds _ rho' H' => ∀ vs, RelDs K rho' H' ds vs → Q vs H')
def OkS (K : PySem.W.Frag) (cls : Nat → Value) (W : WX) (rho : Rho) (H : Hp) (r : SR) (E : Ends) : Prop :=
  match r with
  | .nx env st => ∀ sg rho' H', Ext rho H rho' H' → Wld K rho' st H' → RelEnv K rho' H' env sg → E.nx sg H'
  | .bk env st => ∀ sg rho' H', Ext rho H rho' H' → Wld K rho' st H' → RelEnv K rho' H' env sg → E.bk sg H'
  | .ct env st => ∀ sg rho' H', Ext rho H rho' H' → Wld K rho' st H' → RelEnv K rho' H' env sg → E.ct sg H'
  | .rt d st => ∀ v rho' H', Ext rho H rho' H' → Wld K rho' st H' → RelD K rho' H' d v → E.rt v H'
  | .exc c env st => ∀ sg rho' H', Ext rho H rho' H' → Wld K rho' st H' → RelEnv K rho' H' env sg → W (cls c) none sg H'
  | .stuck => False
theorem OkS.from {K : PySem.W.Frag} {cls : Nat → Value} {W : WX} {rho rho1 : Rho} {H H1 : Hp} {r : SR} {E : Ends} (h : OkS K cls W rho H r E) (e : Ext rho H rho1 H1) : OkS K cls W rho1 H1 r E := by
  cases r with
  | nx env st => exact fun sg r2 H2 e2 => h sg r2 H2 (e.trans e2)
  | bk env st => exact fun sg r2 H2 e2 => h sg r2 H2 (e.trans e2)
  | ct env st => exact fun sg r2 H2 e2 => h sg r2 H2 (e.trans e2)
  | rt d st => exact fun sg r2 H2 e2 => h sg r2 H2 (e.trans e2)
  | exc c env st => exact fun sg r2 H2 e2 => h sg r2 H2 (e.trans e2)
  | stuck => exact h
def tS (K : PySem.W.Frag) (cls : Nat → Value) (W : WX) (m : MS) : TS := fun E sg H => ∃ rho env st, Wld K rho st H ∧ RelEnv K rho H env sg ∧ OkS K cls W rho H (m env st) E

/-! ### monotony -/
theorem PE.weak {X : Cx} {e : Expr} {t t' : TE} (h : PE X e t) (f : ∀ sg H Q, t' sg H Q → t sg H Q) : PE X e t' := ⟨fun pins s sg H Q I q => h.run pins s sg H Q I (f _ _ _ q)⟩
theorem PE.or {X : Cx} {e : Expr} {t t' : TE} (h : PE X e t) (h' : PE X e t') : PE X e (fun sg H Q => t sg H Q ∨ t' sg H Q) := ⟨fun pins s sg H Q I q => q.elim (h.run pins s sg H Q I) (h'.run pins s sg H Q I)⟩
theorem PT.weak {X : Cx} {e : Expr} {t t' : TT} (h : PT X e t) (f : ∀ sg H Q, t' sg H Q → t sg H Q) : PT X e t' := ⟨fun pins s sg H Q I q => h.run pins s sg H Q I (f _ _ _ q)⟩
theorem PW.weak {X : Cx} {e : Expr} {t t' : TT} (h : PW X e t) (f : ∀ sg H Q, t' sg H Q → t sg H Q) : PW X e t' := ⟨fun wh pins s sg H Q I q => h.run wh pins s sg H Q I (f _ _ _ q)⟩
theorem PA.weak {X : Cx} {es : List Expr} {t t' : TA} (h : PA X es t) (f : ∀ sg H Q, t' sg H Q → t sg H Q) : PA X es t' := ⟨fun pos pins s sg H Q I q => h.run pos pins s sg H Q I (f _ _ _ q)⟩
theorem PS.weak {X : Cx} {e : Stmt} {t t' : TS} (h : PS X e t) (f : ∀ E sg H, t' E sg H → t E sg H) : PS X e t' := ⟨fun pins s sg H E I q => h.run pins s sg H E I (f _ _ _ q)⟩
theorem PSs.weak {X : Cx} {e : List Stmt} {t t' : TS} (h : PSs X e t) (f : ∀ E sg H, t' E sg H → t E sg H) : PSs X e t' := ⟨fun pins s sg H E I q => h.run pins s sg H E I (f _ _ _ q)⟩
theorem PI.or {X : Cx} {tg e : Expr} {t t' : TI} (h : PI X tg e t) (h' : PI X tg e t') : PI X tg e (fun sg H R => t sg H R ∨ t' sg H R) := ⟨fun pins s sg H R I q => q.elim (h.run pins s sg H R I) (h'.run pins s sg H R I)⟩
theorem PI.weak {X : Cx} {tg e : Expr} {t t' : TI} (h : PI X tg e t) (f : ∀ sg H R, t' sg H R → t sg H R) : PI X tg e t' := ⟨fun pins s sg H R I q => h.run pins s sg H R I (f _ _ _ q)⟩
end MI
/-! MiC: operations by values. -/
namespace MI
open PySem PySem.Spec PyProof.Rows L2
section
variable {K : PySem.W.Frag} {cls : Nat → Value} {W : WX} {sg : L2.St} {rho : Rho} {st : Sto} {H : Hp} {Q : VK} {x y : D} {v u : V}

/-- a value read through its ref -/
def DerR (K : PySem.W.Frag) (rho : Rho) (H : Hp) : D → V → Prop
  | .lst ds, v => ∃ a vs, v = .ref a ∧ H a = some (.lst vs) ∧ RelDs K rho H ds vs
  | .dic ds, v => ∃ a vs, v = .ref a ∧ H a = some (.dK vs) ∧ RelK K rho H ds vs
  | d, v => RelD K rho H d v
theorem deref_rel (w : Wld K rho st H) (r : RelD K rho H x v) : DerR K rho H (deref st x) v := by
  cases r with
  | non => exact .non
  | bl b => exact .bl b
  | int i => exact .int i
  | str z => exact .str z
  | tup h r => exact .tup h r
  | lst h n r => exact ⟨_, _, rfl, h, r⟩
  | fz h r => exact .fz h r
  | dic h n r => exact ⟨_, _, rfl, h, r⟩
  | ref h =>
    rename_i l a
    have hl : l < st.length := by rw [← w.len]; exact (List.getElem?_eq_some_iff.mp h).1
    have e : st[l]? = some st[l] := List.getElem?_eq_getElem hl
    have ob := w.obj l a _ h e
    unfold deref
    simp only [e]
    generalize st[l] = o at ob
    cases o with
    | lst ds => obtain ⟨vs, h1, h2⟩ := ob; exact ⟨a, vs, rfl, h1, h2⟩
    | dic ds => obtain ⟨vs, h1, h2⟩ := ob; exact ⟨a, vs, rfl, h1, h2⟩
theorem der_lst {ds : List D} (h : DerR K rho H (.lst ds) v) : ∃ a vs, v = .ref a ∧ H a = some (.lst vs) ∧ RelDs K rho H ds vs := h
theorem der_tup {ds : List D} (h : DerR K rho H (.tup ds) v) : ∃ a vs, v = .ref a ∧ SqT K H a vs ∧ RelDs K rho H ds vs := by
  cases h with
  | tup h r => exact ⟨_, _, rfl, h, r⟩
theorem der_dic {ds : List (Key × D)} (h : DerR K rho H (.dic ds) v) : ∃ a vs, v = .ref a ∧ H a = some (.dK vs) ∧ RelK K rho H ds vs := h

/-! results -/
theorem ok_here {d : D} (w : Wld K rho st H) (h : OkR K cls W sg rho H (.ok d st) (VQ K Q)) {v : V} (r : RelD K rho H d v) : Q v H := h rho H (Ext.refl rho H) w v r
theorem ok_tmp_lst {ds : List D} {vs : List V} (w : Wld K rho st H) (h : OkR K cls W sg rho H (.ok (.lst ds) st) (VQ K Q)) (r : RelDs K rho H ds vs) : ∀ p, H p = none → Q (.ref p) (upd H p (.lst vs)) := fun p hp =>
  h rho _ (w.extTmp hp _) (w.tmp hp _) _ (.lst upd_same (w.fresh hp) (r.ext (w.extTmp hp _)))
theorem ok_tmp_tup {ds : List D} {vs : List V} (w : Wld K rho st H) (h : OkR K cls W sg rho H (.ok (.tup ds) st) (VQ K Q)) (r : RelDs K rho H ds vs) : ∀ p, H p = none → Q (.ref p) (upd H p (.tup vs)) := fun p hp =>
  h rho _ (w.extTmp hp _) (w.tmp hp _) _ (.tup (SqT.of upd_same) (r.ext (w.extTmp hp _)))

/-! ### + -/
def rAddA (K : PySem.W.Frag) : R2 := fun x y H Q => (rI0 fun i j => .int (i + j)) x y H Q ∨ ((fun x y H Q => ∃ i k, x = .int i ∧ y = .bl k ∧ Q (.int (i + b2i k)) H) : R2) x y H Q ∨
  ((fun x y H Q => ∃ i j, x = .str i ∧ y = .str j ∧ i.length + j.length ≤ sizeLine ∧ Q (.str (i ++ j)) H) : R2) x y H Q ∨ rCatA K x y H Q ∨ rCat x y H Q
theorem op_addA {X : Cx} : OpR X (binaryOp .Add) (rAddA X.K) := op_add.or (op_add_ib.or (op_add_str.or (op_catA.or op_cat)))
theorem hop_add (w : Wld K rho st H) (r1 : RelD K rho H x v) (r2 : RelD K rho H y u) (h : OkR K cls W sg rho H (opAdd x y st) (VQ K Q)) : rAddA K v u H Q := by
  unfold opAdd at h
  split at h
  · cases r1; cases r2
    exact .inl ⟨_, _, rfl, rfl, ok_here w h (.int _)⟩
  · cases r1; cases r2
    exact .inr (.inl ⟨_, _, rfl, rfl, ok_here w h (.int _)⟩)
  · split at h
    · cases r1; cases r2
      exact .inr (.inr (.inl ⟨_, _, rfl, rfl, by assumption, ok_here w h (.str _)⟩))
    · exact h.elim
  · split at h
    · rename_i a b hl
      cases r1 with
      | tup h1 q1 =>
        cases r2 with
        | tup h2 q2 =>
          refine .inr (.inr (.inr (.inl ⟨_, _, _, _, rfl, rfl, h1, h2, by rw [← q1.length, ← q2.length]; exact hl, fun e => ?_, fun e1 e2 => ?_, fun e1 e2 => ?_⟩)))
          · subst e
            cases q1
            exact ok_here w h (.tup h2 q2)
          · subst e2
            cases q2
            rw [List.append_nil] at h
            exact ok_here w h (.tup h1 q1)
          · exact ok_tmp_tup w h (q1.append q2)
    · exact h.elim
  · have d1 := deref_rel w r1
    have d2 := deref_rel w r2
    split at h
    · rename_i e1 e2
      rw [e1] at d1
      rw [e2] at d2
      obtain ⟨a, vs, rfl, h1, q1⟩ := der_lst d1
      obtain ⟨b, ws, rfl, h2, q2⟩ := der_lst d2
      split at h
      · rename_i hl
        exact .inr (.inr (.inr (.inr ⟨a, b, vs, ws, rfl, rfl, h1, h2, by rw [← q1.length, ← q2.length]; exact hl, ok_tmp_lst w h (q1.append q2)⟩)))
      · exact h.elim
    · exact h.elim
/-! ### - * % // ** -/
theorem hop_sub (w : Wld K rho st H) (r1 : RelD K rho H x v) (r2 : RelD K rho H y u) (h : OkR K cls W sg rho H (opSub x y st) (VQ K Q)) : (rI0 fun i j => .int (i - j)) v u H Q := by
  unfold opSub at h
  split at h
  · cases r1; cases r2
    exact ⟨_, _, rfl, rfl, ok_here w h (.int _)⟩
  · exact h.elim
def rMulA (K : PySem.W.Frag) : R2 := fun x y H Q => rI CMul (fun i j => .int (i * j)) x y H Q ∨ rI CMulW (fun i j => .int (i * j)) x y H Q ∨ rRep x y H Q ∨ rRepT K x y H Q
theorem op_mulA {X : Cx} : OpR X (binaryOp .Mult) (rMulA X.K) := op_mul.or (op_mulW.or (op_rep.or op_repT))
theorem relDs_rep {ds : List D} {vs : List V} (r : RelDs K rho H ds vs) : ∀ n : Nat, RelDs K rho H (List.replicate n ds).flatten (List.replicate n vs).flatten
  | 0 => .nil
  | n + 1 => by
    rw [List.replicate_succ, List.replicate_succ, List.flatten_cons, List.flatten_cons]
    exact r.append (relDs_rep r n)
theorem hop_mul (w : Wld K rho st H) (r1 : RelD K rho H x v) (r2 : RelD K rho H y u) (h : OkR K cls W sg rho H (opMul x y st) (VQ K Q)) : rMulA K v u H Q := by
  unfold opMul at h
  split at h
  · split at h
    · rename_i hm
      cases r1; cases r2
      rcases hm with hm | hm
      · exact .inl ⟨_, _, rfl, rfl, hm, ok_here w h (.int _)⟩
      · exact .inr (.inl ⟨_, _, rfl, rfl, hm, ok_here w h (.int _)⟩)
    · exact h.elim
  · have d1 := deref_rel w r1
    split at h
    · rename_i e1
      rw [e1] at d1
      obtain ⟨a, vs, rfl, h1, q1⟩ := der_lst d1
      cases r2
      split at h
      · rename_i hl
        exact .inr (.inr (.inl ⟨a, _, vs, rfl, rfl, h1, hl.1, hl.2.1, by rw [← q1.length]; exact hl.2.2, ok_tmp_lst w h (relDs_rep q1 _)⟩))
      · exact h.elim
    · rename_i e1
      rw [e1] at d1
      obtain ⟨a, vs, rfl, h1, q1⟩ := der_tup d1
      cases r2
      split at h
      · rename_i hl
        exact .inr (.inr (.inr ⟨a, _, vs, rfl, rfl, h1, fun e => hl.1 (List.length_eq_zero_iff.mp (by rw [q1.length, e]; rfl)), hl.2.1, hl.2.2.1, by rw [← q1.length]; exact hl.2.2.2, ok_tmp_tup w h (relDs_rep q1 _)⟩))
      · exact h.elim
    · exact h.elim
  · exact h.elim
theorem hop_mod (w : Wld K rho st H) (r1 : RelD K rho H x v) (r2 : RelD K rho H y u) (h : OkR K cls W sg rho H (opMod x y st) (VQ K Q)) : (rI (fun _ j => 0 < j) fun i j => .int (i % j)) v u H Q := by
  unfold opMod at h
  split at h
  · split at h
    · cases r1; cases r2
      exact ⟨_, _, rfl, rfl, by assumption, ok_here w h (.int _)⟩
    · exact h.elim
  · exact h.elim
theorem hop_div (w : Wld K rho st H) (r1 : RelD K rho H x v) (r2 : RelD K rho H y u) (h : OkR K cls W sg rho H (opDiv x y st) (VQ K Q)) : (rI CDivW fun i j => .int (i / j)) v u H Q := by
  unfold opDiv at h
  split at h
  · split at h
    · cases r1; cases r2
      exact ⟨_, _, rfl, rfl, by assumption, ok_here w h (.int _)⟩
    · exact h.elim
  · exact h.elim
theorem hop_pow (w : Wld K rho st H) (r1 : RelD K rho H x v) (r2 : RelD K rho H y u) (h : OkR K cls W sg rho H (opPow x y st) (VQ K Q)) : (rI CPow fun i j => .int (i ^ j.toNat)) v u H Q := by
  unfold opPow at h
  split at h
  · split at h
    · cases r1; cases r2
      exact ⟨_, _, rfl, rfl, by assumption, ok_here w h (.int _)⟩
    · exact h.elim
  · exact h.elim
theorem hop_cmp {p : Int → Int → Bool} (w : Wld K rho st H) (r1 : RelD K rho H x v) (r2 : RelD K rho H y u) (h : OkR K cls W sg rho H (opCmp p x y st) (VQ K Q)) : (rI0 fun i j => .bl (p i j)) v u H Q := by
  unfold opCmp at h
  split at h
  · cases r1; cases r2
    exact ⟨_, _, rfl, rfl, ok_here w h (.bl _)⟩
  · exact h.elim

/-! ### plain data -/
mutual
theorem relD_dp : ∀ {d : D} {v : V}, RelD K rho H d v → noRef d = true → Dp K H v (toPy d)
  | _, _, .non, _ => .non
  | _, _, .bl b, _ => .bl b
  | _, _, .int i, _ => .int i
  | _, _, .str x, _ => .str x
  | _, _, .tup h r, n => by
    simp only [noRef] at n
    simp only [toPy]
    exact .tup h (relDs_dp r n)
  | _, _, .lst h m r, n => by
    simp only [noRef] at n
    simp only [toPy]
    exact .lst (SqL.of h) (relDs_dp r n)
  | _, _, .fz h r, n => by
    simp only [noRef] at n
    simp only [toPy]
    exact .lst h.sq (relDs_dp r n)
  | _, _, .dic h m r, n => by simp [noRef] at n
  | _, _, .ref h, n => by simp [noRef] at n
theorem relDs_dp : ∀ {ds : List D} {vs : List V}, RelDs K rho H ds vs → noRefs ds = true → DpAll K H vs (toPys ds)
  | _, _, .nil, _ => by simp only [toPys]; exact .nil
  | _, _, .cons h t, n => by
    simp only [noRefs, Bool.and_eq_true] at n
    simp only [toPys]
    exact .cons (relD_dp h n.1) (relDs_dp t n.2)
end
theorem der_dp {d : D} (h : DerR K rho H d v) (n : noRef d = true) : Dp K H v (toPy d) := by
  cases d with
  | lst ds =>
    obtain ⟨a, vs, rfl, h1, q1⟩ := der_lst h
    simp only [noRef] at n
    simp only [toPy]
    exact .lst (SqL.of h1) (relDs_dp q1 n)
  | dic ds => simp [noRef] at n
  | _ => exact relD_dp h n
theorem eqD_some {b : Bool} (w : Wld K rho st H) (r1 : RelD K rho H x v) (r2 : RelD K rho H y u) (h : eqD st x y = some b) : ∃ d e, Dp K H v d ∧ Dp K H u e ∧ SeqAt.shaped d = true ∧ SeqAt.shaped e = true ∧ PyData.eqv d e = b := by
  unfold eqD at h
  split at h
  · rename_i hc
    simp only [Bool.and_eq_true] at hc
    obtain ⟨⟨⟨h1, h2⟩, h3⟩, h4⟩ := hc
    exact ⟨_, _, der_dp (deref_rel w r1) h1, der_dp (deref_rel w r2) h2, h3, h4, Option.some.inj h⟩
  · cases h
def rEqT0 (K : PySem.W.Frag) : R2 := fun x y H Q => ∃ (a b : Addr) (xs : List V), x = .ref a ∧ y = .ref b ∧ SqT K H a xs ∧ SqT K H b [] ∧ Q (.bl xs.isEmpty) H
theorem op_eqT0 {X : Cx} (hu : X.A.units < cLine) : OpR X (compareOp .Eq) (rEqT0 X.K) := by
  intro pins s σ H x y v u Q I rx ry h
  obtain ⟨a, b, xs, rfl, rfl, ha, hb, q⟩ := h
  cases rx
  cases ry
  obtain ⟨its, r, ht, hz⟩ := I.tuple ha
  obtain ⟨its2, r2, ht2, hz2⟩ := I.tuple hb
  have e2 : its2 = [] := List.length_eq_zero_iff.mp (by rw [← r2.length]; rfl)
  subst e2
  have hrc := SeqAt.RcAt.tuples (A := X.A) (e := fun _ => true) ht ht2 hu (fun j h1 h2 => absurd h2 (by simp))
  refine hrc X.prog X.w _ _ ⟨.bl _, H, I, rfl, ?_⟩
  have : ((List.range (min its.toArray.size ([] : List Value).toArray.size)).all (fun _ => true) && its.toArray.size == ([] : List Value).toArray.size) = xs.isEmpty := by
    have hl := r.length
    cases xs with
    | nil =>
      have : its = [] := List.length_eq_zero_iff.mp (by rw [← hl]; rfl)
      subst this
      rfl
    | cons x xs =>
      simp at hl
      simp [← hl]
  rw [this]
  exact q
def rEqA (K : PySem.W.Frag) : R2 := fun x y H Q => rEqD K x y H Q ∨ rEqT0 K x y H Q
theorem op_eqA {X : Cx} (hu : X.A.units + 64 < cLine) : OpR X (compareOp .Eq) (rEqA X.K) := (op_eqD hu).or (op_eqT0 (by omega))
theorem hop_eq (w : Wld K rho st H) (r1 : RelD K rho H x v) (r2 : RelD K rho H y u) (h : OkR K cls W sg rho H (opEq x y st) (VQ K Q)) : rEqA K v u H Q := by
  unfold opEq at h
  split at h
  · rename_i b e
    obtain ⟨d, e', h1, h2, h3, h4, h5⟩ := eqD_some w r1 r2 e
    exact .inl ⟨d, e', h1, h2, h3, h4, by rw [h5]; exact ok_here w h (.bl _)⟩
  · split at h
    · rename_i b e
      unfold eqT0 at e
      split at e
      · cases e
        cases r1 with
        | tup h1 q1 =>
          cases r2 with
          | tup h2 q2 =>
            cases q2
            refine .inr ⟨_, _, _, rfl, rfl, h1, h2, ?_⟩
            cases q1 with
            | nil => exact ok_here w h (.bl _)
            | cons _ _ => exact ok_here w h (.bl _)
      · cases e
    · exact h.elim
theorem hop_ne (w : Wld K rho st H) (r1 : RelD K rho H x v) (r2 : RelD K rho H y u) (h : OkR K cls W sg rho H (opNe x y st) (VQ K Q)) : rNeD K v u H Q := by
  unfold opNe at h
  split at h
  · rename_i b e
    obtain ⟨d, e', h1, h2, h3, h4, h5⟩ := eqD_some w r1 r2 e
    exact ⟨d, e', h1, h2, h3, h4, by rw [h5]; exact ok_here w h (.bl _)⟩
  · exact h.elim
/-! ### is -/
theorem relD_non (r : RelD K rho H x v) (n : x ≠ .non) : v ≠ .non := by
  cases r <;> first | (intro e; cases e; done) | exact absurd rfl n
def rIsA : R2 := fun x y H Q => ((fun x y H Q => y = .non ∧ Q (.bl (decide (x = .non))) H) : R2) x y H Q ∨ ((fun x y H Q => ∃ a b, x = .bl a ∧ y = .bl b ∧ Q (.bl (decide (a = b))) H) : R2) x y H Q
def rIsNotA : R2 := fun x y H Q => ((fun x y H Q => y = .non ∧ Q (.bl (!decide (x = .non))) H) : R2) x y H Q ∨ ((fun x y H Q => ∃ a b, x = .bl a ∧ y = .bl b ∧ Q (.bl (!decide (a = b))) H) : R2) x y H Q
theorem op_isA {X : Cx} : OpR X (compareOp .Is) rIsA := op_isN.or op_is_bl
theorem op_isNotA {X : Cx} : OpR X (compareOp .IsNot) rIsNotA := op_notN.or op_isnot_bl
theorem hop_is (w : Wld K rho st H) (r1 : RelD K rho H x v) (r2 : RelD K rho H y u) (h : OkR K cls W sg rho H (opIs x y st) (VQ K Q)) : rIsA v u H Q := by
  unfold opIs at h
  split at h
  · cases r1; cases r2
    exact .inl ⟨rfl, ok_here w h (.bl _)⟩
  · rename_i hn
    cases r2
    refine .inl ⟨rfl, ?_⟩
    rw [decide_eq_false (relD_non r1 fun e => hn e)]
    exact ok_here w h (.bl _)
  · cases r1; cases r2
    exact .inr ⟨_, _, rfl, rfl, ok_here w h (.bl _)⟩
  · exact h.elim
theorem hop_isNot (w : Wld K rho st H) (r1 : RelD K rho H x v) (r2 : RelD K rho H y u) (h : OkR K cls W sg rho H (opIsNot x y st) (VQ K Q)) : rIsNotA v u H Q := by
  unfold opIsNot at h
  split at h
  · cases r1; cases r2
    exact .inl ⟨rfl, ok_here w h (.bl _)⟩
  · rename_i hn
    cases r2
    refine .inl ⟨rfl, ?_⟩
    rw [decide_eq_false (relD_non r1 fun e => hn e)]
    exact ok_here w h (.bl _)
  · cases r1; cases r2
    exact .inr ⟨_, _, rfl, rfl, ok_here w h (.bl _)⟩
  · exact h.elim
/-! ### truth, len, isinstance -/
theorem truth_some {k : Bool} (w : Wld K rho st H) (r : RelD K rho H x v) (h : truth st x = some k) : TruV K v H k := by
  have d := deref_rel w r
  unfold truth at h
  split at h <;> (rename_i e; rw [e] at d)
  · cases d; exact (Option.some.inj h).symm
  · cases d; exact (Option.some.inj h).symm
  · cases d; exact (Option.some.inj h).symm
  · split at h
    · cases d; exact ⟨by assumption, (Option.some.inj h).symm⟩
    · cases h
  · cases d with
    | tup h1 q => exact .inr (.inl ⟨_, h1, by rw [← Option.some.inj h]; cases q <;> rfl⟩)
  · obtain ⟨a, vs, rfl, h1, q⟩ := der_lst d
    exact .inl ⟨_, SqL.of h1, by rw [← Option.some.inj h]; cases q <;> rfl⟩
  · cases d with
    | fz h1 q => exact .inl ⟨_, h1.sq, by rw [← Option.some.inj h]; cases q <;> rfl⟩
  · obtain ⟨a, vs, rfl, h1, q⟩ := der_dic d
    exact .inr (.inr ⟨_, h1, by rw [← Option.some.inj h]; cases q <;> rfl⟩)
  · cases h
theorem tyName_some {T : String} (w : Wld K rho st H) (r : RelD K rho H x v) (h : tyName st x = some T) : TyX K H v (.type T) := by
  have d := deref_rel w r
  unfold tyName at h
  split at h <;> (rename_i e; rw [e] at d)
  · cases d; cases h; exact .base .non
  · cases d; cases h; exact .base (.bl _)
  · cases d; cases h; exact .base (.int _)
  · cases d; cases h; exact .base (.str _)
  · cases h
    cases d with
    | tup h1 q =>
      rcases h1 with (h1 | ⟨o, h1⟩) | ⟨o, its, n, h1, h2, _⟩
      · exact .base (.tup h1)
      · exact .fTuple h1
      · exact .kTuple h1 h2
  · cases h
    obtain ⟨a, vs, rfl, h1, q⟩ := der_lst d
    exact .base (.lst h1)
  · cases h
  · cases h
    obtain ⟨a, vs, rfl, h1, q⟩ := der_dic d
    exact .base (.dK h1)
  · cases h
theorem isInst_ok {T : String} (w : Wld K rho st H) (r : RelD K rho H x v) (h : OkR K cls W sg rho H (isInst T x st) (VQ K Q)) : rIsi K [v, .ty T] H Q := by
  unfold isInst at h
  split at h
  · rename_i a e
    split at h
    · rename_i b e2
      exact ⟨v, _, _, _, b, rfl, .ty T, tyName_some w r e, kit_ty e2, ok_here w h (.bl _)⟩
    · exact h.elim
  · exact h.elim
theorem lenD_some {n : Nat} (w : Wld K rho st H) (r : RelD K rho H x v) (h : lenD st x = some n) : LenV K v H n := by
  have d := deref_rel w r
  unfold lenD at h
  split at h <;> (rename_i e; try rw [e] at d)
  · split at h
    · cases d; exact ⟨by assumption, (Option.some.inj h).symm⟩
    · cases h
  · cases d with
    | tup h1 q => exact .inr ⟨_, h1, by rw [← Option.some.inj h, q.length]⟩
  · obtain ⟨a, vs, rfl, h1, q⟩ := der_lst d
    exact .inl ⟨_, SqL.of h1, by rw [← Option.some.inj h, q.length]⟩
  · cases d with
    | fz h1 q => exact .inl ⟨_, h1.sq, by rw [← Option.some.inj h, q.length]⟩
  · cases h
/-! ### items, slices -/
theorem atI_rel {ds : List D} {vs : List V} {i : Int} {d : D} (r : RelDs K rho H ds vs) (h : atI ds i = some d) : ∃ z, atI vs i = some z ∧ RelD K rho H d z := by
  unfold atI at h ⊢
  rw [← r.length]
  cases q : ixN ds.length i with
  | none => rw [q] at h; cases h
  | some j =>
    rw [q] at h
    exact r.get (show ds[j]? = some d from h)
end
end MI
/-! MiD: built-in functions, methods, stores by values. -/
namespace MI
open PySem PySem.Spec PyProof.Rows L2

/-! ### lists of one kind -/
def intsOf : List D → Option (List Int)
  | [] => some []
  | .int i :: ds => (intsOf ds).map (i :: ·)
  | _ => none
def boolsOf : List D → Option (List Bool)
  | [] => some []
  | .bl i :: ds => (boolsOf ds).map (i :: ·)
  | _ => none
def strsOf : List D → Option (List Str)
  | [] => some []
  | .str i :: ds => (strsOf ds).map (i :: ·)
  | _ => none
@[simp] theorem intsOf_map (ns : List Int) : intsOf (ns.map D.int) = some ns := by
  induction ns with
  | nil => rfl
  | cons n ns ih => simp [intsOf, ih]
@[simp] theorem boolsOf_map (ns : List Bool) : boolsOf (ns.map D.bl) = some ns := by
  induction ns with
  | nil => rfl
  | cons n ns ih => simp [boolsOf, ih]
@[simp] theorem strsOf_map (ns : List Str) : strsOf (ns.map D.str) = some ns := by
  induction ns with
  | nil => rfl
  | cons n ns ih => simp [strsOf, ih]

/-! ### built-in functions -/
def bLen (ds : List D) (st : Sto) : R D := match ds with
  | [d] => match lenD st d with
    | some n => .ok (.int n) st
    | none => match deref st d with
      | .dic kvs => .ok (.int kvs.length) st
      | _ => .stuck
  | _ => .stuck
def bAbs (ds : List D) (st : Sto) : R D := match ds with
  | [.int i] => .ok (.int (if i < 0 then -i else i)) st
  | _ => .stuck
def bMin (ds : List D) (st : Sto) : R D := match ds with
  | [.int i, .int j] => .ok (.int (if j < i then j else i)) st
  | _ => .stuck
def bMax (ds : List D) (st : Sto) : R D := match ds with
  | [.int i, .int j] => .ok (.int (if j > i then j else i)) st
  | _ => .stuck
def bAll (ds : List D) (st : Sto) : R D := match ds with
  | [d] => match deref st d with
    | .lst es => match boolsOf es with
      | some bs => .ok (.bl (bs.all id)) st
      | none => .stuck
    | _ => .stuck
  | _ => .stuck
def bAny (ds : List D) (st : Sto) : R D := match ds with
  | [d] => match deref st d with
    | .lst es => match boolsOf es with
      | some bs => .ok (.bl (bs.any id)) st
      | none => .stuck
    | _ => .stuck
  | _ => .stuck
def bSum (ds : List D) (st : Sto) : R D := match ds with
  | [d] => match deref st d with
    | .lst es => match intsOf es with
      | some ns => .ok (.int ns.sum) st
      | none => .stuck
    | _ => .stuck
  | _ => .stuck
def seqOf (st : Sto) (d : D) : Option (List D) := match deref st d with
  | .lst es => some es
  | .fz es => some es
  | .tup es => some es
  | _ => none
def bTuple (ds : List D) (st : Sto) : R D := match ds with
  | [d] => match seqOf st d with
    | some es => .ok (.tup es) st
    | none => .stuck
  | _ => .stuck
def bList (ds : List D) (st : Sto) : R D := match ds with
  | [d] => match seqOf st d with
    | some es => .ok (.lst es) st
    | none => .stuck
  | _ => .stuck
def bListN (ds : List D) (st : Sto) : R D := match ds with
  | [d] => match seqOf st d with
    | some es => .ok (.ref st.length) (st ++ [.lst es])
    | none => .stuck
  | _ => .stuck
def bStr (ds : List D) (st : Sto) : R D := match ds with
  | [.int i] => if i.natAbs.log2 < 1920 then .ok (.str (toString i)) st else .stuck
  | _ => .stuck
def bOrd (ds : List D) (st : Sto) : R D := match ds with
  | [.str x] => if x.length = 1 then .ok (.int (x.cps.getD 0 0 : Nat)) st else .stuck
  | _ => .stuck
def sortI (ns : List Int) : List Int := ns.mergeSort (fun a b => decide (a ≤ b))
def bSorted (ds : List D) (st : Sto) : R D := match ds with
  | [d] => match deref st d with
    | .lst es => match intsOf es with
      | some ns => .ok (.lst ((sortI ns).map .int)) st
      | none => .stuck
    | _ => .stuck
  | _ => .stuck

section
variable {K : PySem.W.Frag} {cls : Nat → Value} {W : WX} {sg : L2.St} {rho : Rho} {st : Sto} {H : Hp} {Q : VK} {ds : List D} {vs : List V}
theorem relDs1 {d : D} (r : RelDs K rho H [d] vs) : ∃ v, vs = [v] ∧ RelD K rho H d v := by
  cases r with
  | cons h t => cases t; exact ⟨_, rfl, h⟩
theorem relDs2 {d e : D} (r : RelDs K rho H [d, e] vs) : ∃ v u, vs = [v, u] ∧ RelD K rho H d v ∧ RelD K rho H e u := by
  cases r with
  | cons h t =>
    obtain ⟨u, rfl, q⟩ := relDs1 t
    exact ⟨_, _, rfl, h, q⟩
theorem intsOf_rel : ∀ {ds : List D} {vs : List V} {ns : List Int}, RelDs K rho H ds vs → intsOf ds = some ns → vs = ns.map V.int
  | _, _, _, .nil, h => by cases h; rfl
  | d :: ds, _, ns, .cons h t, e => by
    cases d <;> simp only [intsOf, Option.map_eq_some_iff, reduceCtorEq] at e
    obtain ⟨ms, e, rfl⟩ := e
    cases h
    rw [intsOf_rel t e]
    rfl
theorem boolsOf_rel : ∀ {ds : List D} {vs : List V} {ns : List Bool}, RelDs K rho H ds vs → boolsOf ds = some ns → vs = ns.map V.bl
  | _, _, _, .nil, h => by cases h; rfl
  | d :: ds, _, ns, .cons h t, e => by
    cases d <;> simp only [boolsOf, Option.map_eq_some_iff, reduceCtorEq] at e
    obtain ⟨ms, e, rfl⟩ := e
    cases h
    rw [boolsOf_rel t e]
    rfl
theorem strsOf_rel : ∀ {ds : List D} {vs : List V} {ns : List Str}, RelDs K rho H ds vs → strsOf ds = some ns → vs = ns.map V.str
  | _, _, _, .nil, h => by cases h; rfl
  | d :: ds, _, ns, .cons h t, e => by
    cases d <;> simp only [strsOf, Option.map_eq_some_iff, reduceCtorEq] at e
    obtain ⟨ms, e, rfl⟩ := e
    cases h
    rw [strsOf_rel t e]
    rfl
theorem rel_ints (ns : List Int) : RelDs K rho H (ns.map D.int) (ns.map V.int) := by
  induction ns with
  | nil => exact .nil
  | cons n ns ih => exact .cons (.int n) ih
theorem seqOf_rel {d : D} {v : V} {es : List D} (w : Wld K rho st H) (r : RelD K rho H d v) (h : seqOf st d = some es) : ∃ a vs, v = .ref a ∧ RelDs K rho H es vs ∧ (SqL K H a vs ∨ SqT K H a vs) := by
  have q := deref_rel w r
  unfold seqOf at h
  split at h <;> (try rename_i e) <;> (try rw [e] at q)
  · obtain ⟨a, vs, rfl, h1, h2⟩ := der_lst q
    cases h
    exact ⟨a, vs, rfl, h2, .inl (SqL.of h1)⟩
  · cases h
    cases q with
    | fz h1 h2 => exact ⟨_, _, rfl, h2, .inl h1.sq⟩
  · cases h
    cases q with
    | tup h1 h2 => exact ⟨_, _, rfl, h2, .inr h1⟩
  · cases h

def rLenA (K : PySem.W.Frag) : List V → Hp → VK → Prop := fun xs H Q => (∃ x n, xs = [x] ∧ LenV K x H n ∧ Q (.int n) H) ∨ (∃ a kvs, xs = [V.ref a] ∧ H a = some (.dK kvs) ∧ Q (.int kvs.length) H)
theorem CallR.or {X : Cx} {f : Value} {r r' : List V → Hp → VK → Prop} (h : CallR X f r) (h' : CallR X f r') : CallR X f (fun xs H Q => r xs H Q ∨ r' xs H Q) :=
  fun pins s sg H xs us Q I v q => q.elim (h pins s sg H xs us Q I v) (h' pins s sg H xs us Q I v)
theorem call_lenA {X : Cx} : CallR X (.builtin "len") (rLenA X.K) := CallR.or call_len call_lenD
theorem hop_len (w : Wld K rho st H) (r : RelDs K rho H ds vs) (h : OkR K cls W sg rho H (bLen ds st) (VQ K Q)) : rLenA K vs H Q := by
  unfold bLen at h
  split at h
  · replace r := relDs1 r; obtain ⟨v, rfl, r⟩ := r
    split at h
    · rename_i n e
      exact .inl ⟨v, n, rfl, lenD_some w r e, ok_here w h (.int _)⟩
    · have q := deref_rel w r
      split at h
      · rename_i e
        rw [e] at q
        obtain ⟨a, ks, rfl, h1, h2⟩ := der_dic q
        refine .inr ⟨a, ks, rfl, h1, ?_⟩
        rw [← h2.length]
        exact ok_here w h (.int _)
      · exact h.elim
  · exact h.elim
theorem hop_abs (w : Wld K rho st H) (r : RelDs K rho H ds vs) (h : OkR K cls W sg rho H (bAbs ds st) (VQ K Q)) : ∃ i, vs = [.int i] ∧ Q (.int (if i < 0 then -i else i)) H := by
  unfold bAbs at h
  split at h
  · replace r := relDs1 r; obtain ⟨v, rfl, r⟩ := r
    cases r
    exact ⟨_, rfl, ok_here w h (.int _)⟩
  · exact h.elim
theorem hop_min (w : Wld K rho st H) (r : RelDs K rho H ds vs) (h : OkR K cls W sg rho H (bMin ds st) (VQ K Q)) : ∃ i j, vs = [.int i, .int j] ∧ Q (.int (if j < i then j else i)) H := by
  unfold bMin at h
  split at h
  · obtain ⟨v, u, rfl, r1, r2⟩ := relDs2 r
    cases r1; cases r2
    exact ⟨_, _, rfl, ok_here w h (.int _)⟩
  · exact h.elim
theorem hop_max (w : Wld K rho st H) (r : RelDs K rho H ds vs) (h : OkR K cls W sg rho H (bMax ds st) (VQ K Q)) : ∃ i j, vs = [.int i, .int j] ∧ Q (.int (if j > i then j else i)) H := by
  unfold bMax at h
  split at h
  · obtain ⟨v, u, rfl, r1, r2⟩ := relDs2 r
    cases r1; cases r2
    exact ⟨_, _, rfl, ok_here w h (.int _)⟩
  · exact h.elim
theorem hop_all (w : Wld K rho st H) (r : RelDs K rho H ds vs) (h : OkR K cls W sg rho H (bAll ds st) (VQ K Q)) : rAll K vs H Q := by
  unfold bAll at h
  split at h
  · replace r := relDs1 r; obtain ⟨v, rfl, r⟩ := r
    have q := deref_rel w r
    split at h
    · rename_i e
      rw [e] at q
      obtain ⟨a, ks, rfl, h1, h2⟩ := der_lst q
      split at h
      · rename_i bs e2
        rw [boolsOf_rel h2 e2] at h1
        exact ⟨a, bs, rfl, SqL.of h1, ok_here w h (.bl _)⟩
      · exact h.elim
    · exact h.elim
  · exact h.elim
theorem hop_any (w : Wld K rho st H) (r : RelDs K rho H ds vs) (h : OkR K cls W sg rho H (bAny ds st) (VQ K Q)) : rAny K vs H Q := by
  unfold bAny at h
  split at h
  · replace r := relDs1 r; obtain ⟨v, rfl, r⟩ := r
    have q := deref_rel w r
    split at h
    · rename_i e
      rw [e] at q
      obtain ⟨a, ks, rfl, h1, h2⟩ := der_lst q
      split at h
      · rename_i bs e2
        rw [boolsOf_rel h2 e2] at h1
        exact ⟨a, bs, rfl, SqL.of h1, ok_here w h (.bl _)⟩
      · exact h.elim
    · exact h.elim
  · exact h.elim
theorem hop_sum (w : Wld K rho st H) (r : RelDs K rho H ds vs) (h : OkR K cls W sg rho H (bSum ds st) (VQ K Q)) : rSum K vs H Q := by
  unfold bSum at h
  split at h
  · replace r := relDs1 r; obtain ⟨v, rfl, r⟩ := r
    have q := deref_rel w r
    split at h
    · rename_i e
      rw [e] at q
      obtain ⟨a, ks, rfl, h1, h2⟩ := der_lst q
      split at h
      · rename_i bs e2
        rw [intsOf_rel h2 e2] at h1
        exact ⟨a, bs, rfl, SqL.of h1, ok_here w h (.int _)⟩
      · exact h.elim
    · exact h.elim
  · exact h.elim
theorem hop_tuple (w : Wld K rho st H) (r : RelDs K rho H ds vs) (h : OkR K cls W sg rho H (bTuple ds st) (VQ K Q)) : ∃ p ys, vs = [.ref p] ∧ ((SqL K H p ys ∧ ∀ l, H l = none → Q (.ref l) (upd H l (.tup ys))) ∨ (SqT K H p ys ∧ Q (.ref p) H)) := by
  unfold bTuple at h
  split at h
  · replace r := relDs1 r; obtain ⟨v, rfl, r⟩ := r
    split at h
    · rename_i es e
      obtain ⟨a, ks, rfl, h1, h2⟩ := seqOf_rel w r e
      rcases h2 with h2 | h2
      · exact ⟨a, ks, rfl, .inl ⟨h2, ok_tmp_tup w h h1⟩⟩
      · exact ⟨a, ks, rfl, .inr ⟨h2, ok_here w h (.tup h2 h1)⟩⟩
    · exact h.elim
  · exact h.elim
theorem hop_list (w : Wld K rho st H) (r : RelDs K rho H ds vs) (h : OkR K cls W sg rho H (bList ds st) (VQ K Q)) : ∃ p ys, vs = [.ref p] ∧ (SqL K H p ys ∨ SqT K H p ys) ∧ ∀ l, H l = none → Q (.ref l) (upd H l (.lst ys)) := by
  unfold bList at h
  split at h
  · replace r := relDs1 r; obtain ⟨v, rfl, r⟩ := r
    split at h
    · rename_i es e
      obtain ⟨a, ks, rfl, h1, h2⟩ := seqOf_rel w r e
      exact ⟨a, ks, rfl, h2, ok_tmp_lst w h h1⟩
    · exact h.elim
  · exact h.elim
theorem ok_new_lst {es : List D} {ks : List V} (w : Wld K rho st H) (h : OkR K cls W sg rho H (.ok (.ref st.length) (st ++ [.lst es])) (VQ K Q)) (r : RelDs K rho H es ks) : ∀ p, H p = none → Q (.ref p) (upd H p (.lst ks)) := fun p hp =>
  h (rho.add p) _ (w.extNew hp _) (w.new hp ⟨ks, upd_same, r.ext (w.extNew hp _)⟩) _ (.ref (by rw [← w.len]; simp [Rho.add]))
theorem ok_new_dic {es : List (Key × D)} {ks : List (Key × V)} (w : Wld K rho st H) (h : OkR K cls W sg rho H (.ok (.ref st.length) (st ++ [.dic es])) (VQ K Q)) (r : RelK K rho H es ks) : ∀ p, H p = none → Q (.ref p) (upd H p (.dK ks)) := fun p hp =>
  h (rho.add p) _ (w.extNew hp _) (w.new hp ⟨ks, upd_same, r.ext (w.extNew hp _)⟩) _ (.ref (by rw [← w.len]; simp [Rho.add]))
theorem hop_listN (w : Wld K rho st H) (r : RelDs K rho H ds vs) (h : OkR K cls W sg rho H (bListN ds st) (VQ K Q)) : ∃ p ys, vs = [.ref p] ∧ (SqL K H p ys ∨ SqT K H p ys) ∧ ∀ l, H l = none → Q (.ref l) (upd H l (.lst ys)) := by
  unfold bListN at h
  split at h
  · replace r := relDs1 r; obtain ⟨v, rfl, r⟩ := r
    split at h
    · rename_i es e
      obtain ⟨a, ks, rfl, h1, h2⟩ := seqOf_rel w r e
      exact ⟨a, ks, rfl, h2, ok_new_lst w h h1⟩
    · exact h.elim
  · exact h.elim
theorem hop_str (w : Wld K rho st H) (r : RelDs K rho H ds vs) (h : OkR K cls W sg rho H (bStr ds st) (VQ K Q)) : ∃ i : Int, vs = [.int i] ∧ i.natAbs.log2 < 1920 ∧ Q (.str (toString i)) H := by
  unfold bStr at h
  split at h
  · replace r := relDs1 r; obtain ⟨v, rfl, r⟩ := r
    cases r
    split at h
    · exact ⟨_, rfl, by assumption, ok_here w h (.str _)⟩
    · exact h.elim
  · exact h.elim
theorem hop_ord (w : Wld K rho st H) (r : RelDs K rho H ds vs) (h : OkR K cls W sg rho H (bOrd ds st) (VQ K Q)) : ∃ x, vs = [.str x] ∧ x.length = 1 ∧ Q (.int (x.cps.getD 0 0 : Nat)) H := by
  unfold bOrd at h
  split at h
  · replace r := relDs1 r; obtain ⟨v, rfl, r⟩ := r
    cases r
    split at h
    · exact ⟨_, rfl, by assumption, ok_here w h (.int _)⟩
    · exact h.elim
  · exact h.elim
theorem sortI_eq {ns ms : List Int} (p : ms.Perm ns) (s : ms.Pairwise (· ≤ ·)) : ms = sortI ns := by
  have h1 : (sortI ns).Pairwise (fun a b => (decide (a ≤ b)) = true) := List.pairwise_mergeSort (le := fun a b => decide (a ≤ b)) (fun a b c h1 h2 => by simp at *; omega) (fun a b => by simp; omega) ns
  have h2 : (sortI ns).Pairwise (· ≤ ·) := h1.imp fun h => by simpa using h
  exact List.Perm.eq_of_pairwise (fun a b _ _ h1 h2 => by omega) s h2 (p.trans (List.mergeSort_perm ns _).symm)
theorem hop_sorted (w : Wld K rho st H) (r : RelDs K rho H ds vs) (h : OkR K cls W sg rho H (bSorted ds st) (VQ K Q)) : rSortedI K vs H Q := by
  unfold bSorted at h
  split at h
  · replace r := relDs1 r; obtain ⟨v, rfl, r⟩ := r
    have q := deref_rel w r
    split at h
    · rename_i e
      rw [e] at q
      obtain ⟨a, ks, rfl, h1, h2⟩ := der_lst q
      split at h
      · rename_i bs e2
        rw [intsOf_rel h2 e2] at h1
        refine ⟨a, bs, rfl, SqL.of h1, fun ns' p pm sr hp => ?_⟩
        have e3 : ns' = sortI bs := sortI_eq pm sr
        subst e3
        exact ok_tmp_lst w h (rel_ints _) p hp
      · exact h.elim
    · exact h.elim
  · exact h.elim
end

/-! ### methods of lists -/
def isLst (st : Sto) (d : D) : Bool := match deref st d with
  | .lst _ => true
  | _ => false
def mAppend (d : D) (ds : List D) (st : Sto) : R D := match d, ds with
  | .ref l, [y] => match st[l]? with
    | some (.lst xs) => if xs.length < sizeLine then .ok .non (st.set l (.lst (xs ++ [y]))) else .stuck
    | _ => .stuck
  | _, _ => .stuck
def mPop (d : D) (ds : List D) (st : Sto) : R D := match d, ds with
  | .ref l, [] => match st[l]? with
    | some (.lst xs) => match xs[xs.length - 1]? with
      | some y => .ok y (st.set l (.lst xs.dropLast))
      | none => .stuck
    | _ => .stuck
  | .ref l, [.int i] => match st[l]? with
    | some (.lst xs) => if -(2 ^ 63) ≤ i ∧ i < 2 ^ 63 then (match seqIndex? i xs.length with
      | some k => (match xs[k]? with
        | some y => .ok y (st.set l (.lst (xs.eraseIdx k)))
        | none => .stuck)
      | none => .stuck) else .stuck
    | _ => .stuck
  | _, _ => .stuck
def mExtend (d : D) (ds : List D) (st : Sto) : R D := match d, ds with
  | .ref l, [y] => match st[l]?, deref st y with
    | some (.lst xs), .lst ys => if xs.length + ys.length ≤ sizeLine then .ok .non (st.set l (.lst (xs ++ ys))) else .stuck
    | _, _ => .stuck
  | _, _ => .stuck
def mReverse (d : D) (ds : List D) (st : Sto) : R D := match d, ds with
  | .ref l, [] => match st[l]? with
    | some (.lst xs) => .ok .non (st.set l (.lst xs.reverse))
    | _ => .stuck
  | _, _ => .stuck
/-- o.m(es), o a list -/
def mMethL (f : D → List D → Sto → R D) (o : ME) (es : List ME) : ME := fun env st => (o env st).bind fun d st => if isLst st d = true then (mArgs es env st).bind fun ds st => f d ds st else .stuck
section
variable {K : PySem.W.Frag} {cls : Nat → Value} {W : WX} {sg : L2.St} {rho : Rho} {st : Sto} {H : Hp} {Q : VK} {d : D} {v : V} {ds : List D} {vs : List V}
theorem isLst_ok (w : Wld K rho st H) (r : RelD K rho H d v) (h : isLst st d = true) : tyV K "list" v H := by
  have q := deref_rel w r
  unfold isLst at h
  split at h
  · rename_i e
    rw [e] at q
    obtain ⟨a, ks, rfl, h1, h2⟩ := der_lst q
    exact .inl ⟨rfl, _, SqL.of h1⟩
  · cases h
theorem ref_lst {l : Nat} {xs : List D} (w : Wld K rho st H) (r : RelD K rho H (.ref l) v) (e : st[l]? = some (.lst xs)) : ∃ a ks, v = .ref a ∧ rho.loc[l]? = some a ∧ H a = some (.lst ks) ∧ RelDs K rho H xs ks := by
  cases r with
  | ref h =>
    obtain ⟨ks, h1, h2⟩ := w.obj l _ _ h e
    exact ⟨_, ks, rfl, h, h1, h2⟩
theorem ref_dic {l : Nat} {xs : List (Key × D)} (w : Wld K rho st H) (r : RelD K rho H (.ref l) v) (e : st[l]? = some (.dic xs)) : ∃ a ks, v = .ref a ∧ rho.loc[l]? = some a ∧ H a = some (.dK ks) ∧ RelK K rho H xs ks := by
  cases r with
  | ref h =>
    obtain ⟨ks, h1, h2⟩ := w.obj l _ _ h e
    exact ⟨_, ks, rfl, h, h1, h2⟩
theorem ok_set_lst {l : Nat} {a : Addr} {es : List D} {ks : List V} {d : D} {v : V} (w : Wld K rho st H) (h : OkR K cls W sg rho H (.ok d (st.set l (.lst es))) (VQ K Q)) (ha : rho.loc[l]? = some a) (r : RelDs K rho H es ks) (rd : RelD K rho H d v) : Q v (upd H a (.lst ks)) :=
  h rho _ (w.extSet ha _) (w.set ha ⟨ks, upd_same, r.ext (w.extSet ha _)⟩) _ (rd.ext (w.extSet ha _))
theorem ok_set_dic {l : Nat} {a : Addr} {es : List (Key × D)} {ks : List (Key × V)} {d : D} {v : V} (w : Wld K rho st H) (h : OkR K cls W sg rho H (.ok d (st.set l (.dic es))) (VQ K Q)) (ha : rho.loc[l]? = some a) (r : RelK K rho H es ks) (rd : RelD K rho H d v) : Q v (upd H a (.dK ks)) :=
  h rho _ (w.extSet ha _) (w.set ha ⟨ks, upd_same, r.ext (w.extSet ha _)⟩) _ (rd.ext (w.extSet ha _))
theorem hop_append (w : Wld K rho st H) (r : RelD K rho H d v) (rs : RelDs K rho H ds vs) (h : OkR K cls W sg rho H (mAppend d ds st) (VQ K Q)) : rAppend v vs H Q := by
  unfold mAppend at h
  split at h
  · obtain ⟨u, rfl, ru⟩ := relDs1 rs
    split at h
    · rename_i e
      obtain ⟨a, ks, rfl, ha, h1, h2⟩ := ref_lst w r e
      split at h
      · exact ⟨a, ks, u, rfl, rfl, h1, by rw [← h2.length]; assumption, ok_set_lst w h ha (h2.append (.cons ru .nil)) .non⟩
      · exact h.elim
    · exact h.elim
  · exact h.elim
theorem relDs_eraseIdx : ∀ {ds : List D} {vs : List V} (n : Nat), RelDs K rho H ds vs → RelDs K rho H (ds.eraseIdx n) (vs.eraseIdx n)
  | _, _, _, .nil => by simp; exact .nil
  | _, _, 0, .cons _ t => by simpa using t
  | _, _, n + 1, .cons h t => by simpa using RelDs.cons h (relDs_eraseIdx n t)
theorem relDs_dropLast {ds : List D} {vs : List V} (r : RelDs K rho H ds vs) : RelDs K rho H ds.dropLast vs.dropLast := by
  rw [List.dropLast_eq_take, List.dropLast_eq_take, r.length]
  exact r.take _
theorem relDs_reverse : ∀ {ds : List D} {vs : List V}, RelDs K rho H ds vs → RelDs K rho H ds.reverse vs.reverse
  | _, _, .nil => .nil
  | _, _, .cons h t => by
    rw [List.reverse_cons, List.reverse_cons]
    exact (relDs_reverse t).append (.cons h .nil)
def rPopA : V → List V → Hp → VK → Prop := fun x xs H Q => rPop x xs H Q ∨ rPopAt x xs H Q
theorem MtM.or {X : Cx} {id : String} {r r' : V → List V → Hp → VK → Prop} (h : MtM X id r) (h' : MtM X id r') : MtR X id (fun x xs H Q => r x xs H Q ∨ r' x xs H Q) :=
  fun pins s sg H x xs v us Q I rx rs q => q.elim (h pins s sg H x xs v us Q I rx rs) (h' pins s sg H x xs v us Q I rx rs)
theorem mt_popA {X : Cx} : MtR X "list.pop" rPopA := MtM.or mt_pop mt_popAt
theorem hop_pop (w : Wld K rho st H) (r : RelD K rho H d v) (rs : RelDs K rho H ds vs) (h : OkR K cls W sg rho H (mPop d ds st) (VQ K Q)) : rPopA v vs H Q := by
  unfold mPop at h
  split at h
  · cases rs
    split at h
    · rename_i e
      obtain ⟨a, ks, rfl, ha, h1, h2⟩ := ref_lst w r e
      split at h
      · rename_i y hy
        obtain ⟨u, hu, ru⟩ := h2.get hy
        exact .inl ⟨a, ks, u, rfl, rfl, h1, by rw [← h2.length]; exact hu, ok_set_lst w h ha (relDs_dropLast h2) ru⟩
      · exact h.elim
    · exact h.elim
  · obtain ⟨u0, rfl, ru0⟩ := relDs1 rs
    cases ru0
    split at h
    · rename_i e
      obtain ⟨a, ks, rfl, ha, h1, h2⟩ := ref_lst w r e
      split at h
      · rename_i hb
        split at h
        · rename_i k hk
          split at h
          · rename_i y hy
            obtain ⟨u, hu, ru⟩ := h2.get hy
            exact .inr ⟨a, ks, _, k, u, rfl, rfl, h1, hb.1, hb.2, by rw [← h2.length]; exact hk, hu, ok_set_lst w h ha (relDs_eraseIdx k h2) ru⟩
          · exact h.elim
        · exact h.elim
      · exact h.elim
    · exact h.elim
  · exact h.elim
theorem hop_extend (w : Wld K rho st H) (r : RelD K rho H d v) (rs : RelDs K rho H ds vs) (h : OkR K cls W sg rho H (mExtend d ds st) (VQ K Q)) : rExtend v vs H Q := by
  unfold mExtend at h
  split at h
  · obtain ⟨u, rfl, ru⟩ := relDs1 rs
    have q := deref_rel w ru
    split at h
    · rename_i e1 e2
      rw [e2] at q
      obtain ⟨b, ls, rfl, h3, h4⟩ := der_lst q
      obtain ⟨a, ks, rfl, ha, h1, h2⟩ := ref_lst w r e1
      split at h
      · exact ⟨a, b, ks, ls, rfl, rfl, h1, h3, by rw [← h2.length, ← h4.length]; assumption, ok_set_lst w h ha (h2.append h4) .non⟩
      · exact h.elim
    · exact h.elim
  · exact h.elim
theorem hop_reverse (w : Wld K rho st H) (r : RelD K rho H d v) (rs : RelDs K rho H ds vs) (h : OkR K cls W sg rho H (mReverse d ds st) (VQ K Q)) : rReverse v vs H Q := by
  unfold mReverse at h
  split at h
  · cases rs
    split at h
    · rename_i e
      obtain ⟨a, ks, rfl, ha, h1, h2⟩ := ref_lst w r e
      exact ⟨a, ks, rfl, rfl, h1, ok_set_lst w h ha (relDs_reverse h2) .non⟩
    · exact h.elim
  · exact h.elim
end
end MI
/-! MiE: the constructs. -/
namespace MI
open PySem PySem.Spec PyProof.Rows L2

/-- not a starred one, not a comprehension -/
def plainE : Expr → Bool
  | .Starred .. => false
  | _ => true
def noComp : Expr → Bool
  | .ListComp .. => false
  | .SetComp .. => false
  | .DictComp .. => false
  | _ => true
def noSlice : Expr → Bool
  | .Slice .. => false
  | _ => true
def noSet : Expr → Bool
  | .Set .. => false
  | _ => true
def noTuple : Expr → Bool
  | .Tuple .. => false
  | _ => true
theorem star_plain {e : Expr} {es : List Expr} {env : Env} (h : plainE e = true) : starEach (e :: es) env = (false, eval e env) :: starEach es env := by
  cases e <;> first | rfl | cases h
theorem star_any : ∀ {es : List Expr} {env : Env} {pos : Pos}, es.all plainE = true → (backTo pos (starEach es env)).any (·.1) = false
  | [], _, _, _ => rfl
  | e :: es, env, pos, h => by
    simp only [List.all_cons, Bool.and_eq_true] at h
    have ih := star_any (env := env) (pos := pos) h.2
    unfold backTo at ih ⊢
    rw [star_plain h.1]
    simp only [List.any_map, List.map_cons, List.any_cons] at ih ⊢
    simpa using ih
theorem swaps_no {e : Expr} {t : Option Expr} {l : Nat} {env : Env} (h : noComp e = true) : swapsWith e t l env = pure false := by
  cases e <;> first | rfl | cases h

section
variable {X : Cx} {cls : Nat → Value} {W : WX} {pos : Pos} {a b c e : Expr} {ma mb mc m : ME}

theorem tE_bin {K : PySem.W.Frag} {r : R2} {f : D → D → Sto → R D} (hop : ∀ {sg : L2.St} {rho : Rho} {st : Sto} {H : Hp} {Q : VK} {x y : D} {v u : V}, Wld K rho st H → RelD K rho H x v → RelD K rho H y u → OkR K cls W sg rho H (f x y st) (VQ K Q) → r v u H Q)
    {sg : L2.St} {H : Hp} {Q : VK} (h : tE K cls W (mBin f ma mb) sg H Q) : tOp r (tE K cls W ma) (tE K cls W mb) sg H Q := by
  obtain ⟨rho, env, st, w, re, h⟩ := h
  refine ⟨rho, env, st, w, re, OkR.mono (OkR.bind h) fun d1 st1 rho1 H1 e1 w1 h1 v1 rv1 => ?_⟩
  exact ⟨rho1, env, st1, w1, re.ext e1, OkR.mono (OkR.bind h1) fun d2 st2 rho2 H2 e2 w2 h2 v2 rv2 => hop w2 (rv1.ext e2) rv2 h2⟩
theorem pe_binM {op : Operator} {r : R2} {f : D → D → Sto → R D} (ho : OpR X (binaryOp op) r) (hop : ∀ {sg : L2.St} {rho : Rho} {st : Sto} {H : Hp} {Q : VK} {x y : D} {v u : V}, Wld X.K rho st H → RelD X.K rho H x v → RelD X.K rho H y u → OkR X.K cls W sg rho H (f x y st) (VQ X.K Q) → r v u H Q)
    (ha : PE X a (tE X.K cls W ma)) (hb : PE X b (tE X.K cls W mb)) : PE X (.BinOp a op b pos) (tE X.K cls W (mBin f ma mb)) := PE.weak (pe_op ho ha hb) fun _ _ _ h => tE_bin hop h
theorem pe_cmpM {op : CmpOp} {r : R2} {f : D → D → Sto → R D} (ho : OpR X (compareOp op) r) (hop : ∀ {sg : L2.St} {rho : Rho} {st : Sto} {H : Hp} {Q : VK} {x y : D} {v u : V}, Wld X.K rho st H → RelD X.K rho H x v → RelD X.K rho H y u → OkR X.K cls W sg rho H (f x y st) (VQ X.K Q) → r v u H Q)
    (hm : behindInMarks op b = false) (ha : PE X a (tE X.K cls W ma)) (hb : PE X b (tE X.K cls W mb)) : PE X (.Compare a [op] [b] pos) (tE X.K cls W (mBin f ma mb)) := PE.weak (pe_cmpR ho ha hb hm) fun _ _ _ h => tE_bin hop h
/-- the test of a comparison -/
theorem tT_of {K : PySem.W.Frag} {t : TE} {sg : L2.St} {H : Hp} {Q : Bool → Hp → Prop} (hb : ∀ env st d st', m env st = .ok d st' → ∃ k, d = .bl k) (f : ∀ {Q : VK}, tE K cls W m sg H Q → t sg H Q) (h : tTm K cls W m sg H Q) : tTest t sg H Q := by
  obtain ⟨rho, env, st, w, re, h⟩ := h
  refine f ⟨rho, env, st, w, re, ?_⟩
  unfold mT at h
  have hb' := hb env st
  cases q : m env st with
  | ok d st' =>
    obtain ⟨k, rfl⟩ := hb' d st' q
    rw [q] at h
    intro rho' H' e' w' v rv
    cases rv
    exact ⟨k, rfl, h rho' H' e' w'⟩
  | exc c' st' => rw [q] at h; exact h
  | stuck => rw [q] at h; exact h
theorem pt_cmpM {op : CmpOp} {r : R2} {f : D → D → Sto → R D} (ho : OpR X (compareOp op) r) (hop : ∀ {sg : L2.St} {rho : Rho} {st : Sto} {H : Hp} {Q : VK} {x y : D} {v u : V}, Wld X.K rho st H → RelD X.K rho H x v → RelD X.K rho H y u → OkR X.K cls W sg rho H (f x y st) (VQ X.K Q) → r v u H Q)
    (hf : ∀ x y st d st', f x y st = .ok d st' → ∃ k, d = .bl k) (hm : behindInMarks op b = false) (ha : PE X a (tE X.K cls W ma)) (hb : PE X b (tE X.K cls W mb)) : PT X (.Compare a [op] [b] pos) (tTm X.K cls W (mBin f ma mb)) := by
  refine PT.weak (pt_cmpR ho ha hb hm) fun sg H Q h => tT_of (m := mBin f ma mb) (fun env st d st' q => ?_) (fun h => tE_bin hop h) h
  unfold mBin at q
  cases q1 : ma env st with
  | ok d1 st1 =>
    rw [q1] at q
    simp only [R.bind_ok] at q
    cases q2 : mb env st1 with
    | ok d2 st2 => rw [q2] at q; exact hf _ _ _ _ _ q
    | exc c' st' => rw [q2] at q; cases q
    | stuck => rw [q2] at q; cases q
  | exc c' st' => rw [q1] at q; cases q
  | stuck => rw [q1] at q; cases q
/-- the test of any other expression -/
theorem pt_any (h : PE X e (tE X.K cls W m)) (he : ∀ whole, isTrue e X.env whole = (do let v ← whole; standAt e.pos; holding [v] (truthy v))) : PT X e (tTm X.K cls W m) := by
  refine PT.weak (pt_truth h he) fun sg H Q hq => ?_
  obtain ⟨rho, env, st, w, re, hq⟩ := hq
  refine ⟨rho, env, st, w, re, OkR.mono (OkR.bind hq) fun d st1 rho1 H1 e1 w1 h1 v rv => ?_⟩
  split at h1
  · rename_i k ek
    exact ⟨k, truth_some w1 rv ek, OkR.ok h1 w1⟩
  · exact h1.elim
/-! ### names, constants -/
theorem pe_varM {i : Nat} {x : Str} (hN : X.N[i]? = some x) (hv : Vis X.env.scope x) (hd : (x == ("__debug__" : Str)) = false) (hcd : (x == ("__classdict__" : Str)) = false) : PE X (.Name x pos) (tE X.K cls W (mVar i)) := by
  refine PE.weak (pe_var hN hv hd hcd) fun sg H Q h => ?_
  obtain ⟨rho, env, st, w, re, h⟩ := h
  unfold mVar at h
  split at h
  · rename_i d hd
    obtain ⟨v, h1, h2⟩ := re.at_ i d hd
    exact ⟨v, h1, ok_here w h h2⟩
  · exact h.elim
theorem tE_const {K : PySem.W.Frag} {d : D} {v : V} (r : ∀ rho H, RelD K rho H d v) {sg : L2.St} {H : Hp} {Q : VK} (h : tE K cls W (mC d) sg H Q) : tC v sg H Q := by
  obtain ⟨rho, env, st, w, re, h⟩ := h
  exact ok_here w h (r rho H)
theorem pe_globM {x : Str} {d : D} {v : V} {u : Value} (hg : Gl X x) (hm : X.mg x = some u) (rv : RelV v u) (r : ∀ rho H, RelD X.K rho H d v) (hd : (x == ("__debug__" : Str)) = false) : PE X (.Name x pos) (tE X.K cls W (mC d)) :=
  PE.weak (pe_glob hg hm rv hd) fun _ _ _ h => tE_const r h
/-! ### and, or, not, - -/
theorem pe_negM (ha : PE X a (tE X.K cls W ma)) : PE X (.UnaryOp .USub a pos) (tE X.K cls W (mNeg ma)) := by
  refine PE.weak (pe_un un_neg ha) fun sg H Q h => ?_
  obtain ⟨rho, env, st, w, re, h⟩ := h
  refine ⟨rho, env, st, w, re, OkR.mono (OkR.bind h) fun d st1 rho1 H1 e1 w1 h1 v rv => ?_⟩
  split at h1
  · cases rv
    exact ⟨_, rfl, ok_here w1 h1 (.int _)⟩
  · exact h1.elim
theorem pe_notM (ha : PE X a (tE X.K cls W ma)) : PE X (.UnaryOp .Not a pos) (tE X.K cls W (mNot ma)) := by
  refine PE.weak (pe_not ha) fun sg H Q h => ?_
  obtain ⟨rho, env, st, w, re, h⟩ := h
  refine ⟨rho, env, st, w, re, OkR.mono (OkR.bind h) fun d st1 rho1 H1 e1 w1 h1 v rv => ?_⟩
  split at h1
  · cases rv
    exact ⟨_, rfl, ok_here w1 h1 (.bl _)⟩
  · exact h1.elim
theorem pt_notM (ha : PT X a (tTm X.K cls W ma)) : PT X (.UnaryOp .Not a pos) (tTm X.K cls W (mNot ma)) := by
  refine PT.weak (pt_not ha) fun sg H Q h => ?_
  obtain ⟨rho, env, st, w, re, h⟩ := h
  refine ⟨rho, env, st, w, re, ?_⟩
  unfold mT mNot at h
  unfold mT
  cases q : ma env st with
  | ok d st' =>
    rw [q] at h
    cases d with
    | bl k => exact h
    | _ => exact h.elim
  | exc c' st' => rw [q] at h; exact h
  | stuck => rw [q] at h; exact h
theorem pe_andM {rest : List Expr} (ha : PE X a (tE X.K cls W ma)) (hb : PE X (.BoolOp .And (b :: rest) pos) (tE X.K cls W mb)) : PE X (.BoolOp .And (a :: b :: rest) pos) (tE X.K cls W (mAnd ma mb)) := by
  refine PE.weak (pe_and ha hb) fun sg H Q h => ?_
  obtain ⟨rho, env, st, w, re, h⟩ := h
  refine ⟨rho, env, st, w, re, OkR.mono (OkR.bind h) fun d st1 rho1 H1 e1 w1 h1 v rv => ?_⟩
  split at h1
  · cases rv
    exact ⟨true, rfl, by rw [if_pos rfl]; exact ⟨rho1, env, st1, w1, re.ext e1, h1⟩⟩
  · cases rv
    exact ⟨false, rfl, by rw [if_neg (by simp)]; exact ok_here w1 h1 (.bl _)⟩
  · exact h1.elim
theorem pe_orM {rest : List Expr} (ha : PE X a (tE X.K cls W ma)) (hb : PE X (.BoolOp .Or (b :: rest) pos) (tE X.K cls W mb)) : PE X (.BoolOp .Or (a :: b :: rest) pos) (tE X.K cls W (mOr ma mb)) := by
  refine PE.weak (pe_or ha hb) fun sg H Q h => ?_
  obtain ⟨rho, env, st, w, re, h⟩ := h
  refine ⟨rho, env, st, w, re, OkR.mono (OkR.bind h) fun d st1 rho1 H1 e1 w1 h1 v rv => ?_⟩
  split at h1
  · cases rv
    exact ⟨true, rfl, by rw [if_pos rfl]; exact ok_here w1 h1 (.bl _)⟩
  · cases rv
    exact ⟨false, rfl, by rw [if_neg (by simp)]; exact ⟨rho1, env, st1, w1, re.ext e1, h1⟩⟩
  · exact h1.elim
/-- a bool is handed on -/
theorem mT_bool {r : R D} {K : PySem.W.Frag} {sg : L2.St} {rho : Rho} {H : Hp} {f : D → Sto → R D} {P : Bool → Sto → Rho → Hp → Prop}
    (h : OkR K cls W sg rho H ((r.bind f).bind fun x st => match truth st x with | some b => R.ok b st | none => R.stuck) P)
    (hf : ∀ d st k, (∀ b, d ≠ .bl b) → f d st ≠ .ok k st → True) : OkR K cls W sg rho H (r.bind fun d st => (f d st).bind fun x st => match truth st x with | some b => R.ok b st | none => R.stuck) P := by
  cases r <;> exact h
theorem pw_andM {rest : List Expr} (ha : PT X a (tTm X.K cls W ma)) (hb : PW X (.BoolOp .And (b :: rest) pos) (tTm X.K cls W mb)) : PW X (.BoolOp .And (a :: b :: rest) pos) (tTm X.K cls W (mAnd ma mb)) := by
  refine PW.weak (pw_and ha hb) fun sg H Q h => ?_
  obtain ⟨rho, env, st, w, re, h⟩ := h
  refine ⟨rho, env, st, w, re, ?_⟩
  unfold mT mAnd at h
  unfold mT
  cases q : ma env st with
  | ok d st' =>
    rw [q] at h
    cases d with
    | bl k =>
      intro rho1 H1 e1 w1
      cases k with
      | true => rw [if_pos rfl]; exact ⟨rho1, env, st', w1, re.ext e1, OkR.from h e1⟩
      | false => rw [if_neg (by simp)]; exact h rho1 H1 e1 w1
    | _ => exact h.elim
  | exc c' st' => rw [q] at h; exact h
  | stuck => rw [q] at h; exact h
theorem pw_orM {rest : List Expr} (ha : PT X a (tTm X.K cls W ma)) (hb : PW X (.BoolOp .Or (b :: rest) pos) (tTm X.K cls W mb)) : PW X (.BoolOp .Or (a :: b :: rest) pos) (tTm X.K cls W (mOr ma mb)) := by
  refine PW.weak (pw_or ha hb) fun sg H Q h => ?_
  obtain ⟨rho, env, st, w, re, h⟩ := h
  refine ⟨rho, env, st, w, re, ?_⟩
  unfold mT mOr at h
  unfold mT
  cases q : ma env st with
  | ok d st' =>
    rw [q] at h
    cases d with
    | bl k =>
      intro rho1 H1 e1 w1
      cases k with
      | true => rw [if_pos rfl]; exact h rho1 H1 e1 w1
      | false => rw [if_neg (by simp)]; exact ⟨rho1, env, st', w1, re.ext e1, OkR.from h e1⟩
    | _ => exact h.elim
  | exc c' st' => rw [q] at h; exact h
  | stuck => rw [q] at h; exact h
theorem pe_ifM (hc : PT X c (tTm X.K cls W mc)) (ha : PE X a (tE X.K cls W ma)) (hb : PE X b (tE X.K cls W mb)) : PE X (.IfExp c a b pos) (tE X.K cls W (mIfE mc ma mb)) := by
  refine PE.weak (pe_ifExp hc ha hb) fun sg H Q h => ?_
  obtain ⟨rho, env, st, w, re, h⟩ := h
  refine ⟨rho, env, st, w, re, OkR.mono (OkR.bind h) fun k st1 rho1 H1 e1 w1 h1 => ?_⟩
  cases k with
  | true => rw [if_pos rfl] at h1 ⊢; exact ⟨rho1, env, st1, w1, re.ext e1, h1⟩
  | false => rw [if_neg (by simp)] at h1 ⊢; exact ⟨rho1, env, st1, w1, re.ext e1, h1⟩
/-! ### arguments, displays, calls -/
theorem pa_nilM : PA X [] (tAm X.K cls W []) := PA.weak pa_nil fun sg H Q h => by
  obtain ⟨rho, env, st, w, re, h⟩ := h
  exact h rho H (Ext.refl rho H) w [] .nil
theorem pa_consM {es : List Expr} {ms : List ME} (hp : plainE e = true) (he : PE X e (tE X.K cls W m)) (hs : PA X es (tAm X.K cls W ms)) : PA X (e :: es) (tAm X.K cls W (m :: ms)) := by
  refine PA.weak (pa_cons he hs (star_plain hp)) fun sg H Q h => ?_
  obtain ⟨rho, env, st, w, re, h⟩ := h
  refine ⟨rho, env, st, w, re, OkR.mono (OkR.bind h) fun d st1 rho1 H1 e1 w1 h1 v rv => ?_⟩
  refine ⟨rho1, env, st1, w1, re.ext e1, OkR.mono (OkR.bind h1) fun ds st2 rho2 H2 e2 w2 h2 vs rvs => ?_⟩
  exact OkR.ok h2 w2 (v :: vs) (.cons (rv.ext e2) rvs)
theorem pe_tupM {es : List Expr} {ms : List ME} {x1 : Nat} (h : PA X es (tAm X.K cls W ms)) : PE X (.Tuple es x1 pos) (tE X.K cls W (mTup ms)) := by
  refine PE.weak (pe_tup h) fun sg H Q h => ?_
  obtain ⟨rho, env, st, w, re, h⟩ := h
  refine ⟨rho, env, st, w, re, OkR.mono (OkR.bind h) fun ds st1 rho1 H1 e1 w1 h1 vs rvs => ?_⟩
  split at h1
  · exact ⟨by rw [← rvs.length]; assumption, ok_tmp_tup w1 h1 rvs⟩
  · exact h1.elim
theorem pe_lstM {es : List Expr} {ms : List ME} (h : PA X es (tAm X.K cls W ms)) : PE X (.List es pos) (tE X.K cls W (mLst ms)) := by
  refine PE.weak (pe_lst h) fun sg H Q h => ?_
  obtain ⟨rho, env, st, w, re, h⟩ := h
  refine ⟨rho, env, st, w, re, OkR.mono (OkR.bind h) fun ds st1 rho1 H1 e1 w1 h1 vs rvs => ?_⟩
  split at h1
  · exact ⟨by rw [← rvs.length]; assumption, ok_tmp_lst w1 h1 rvs⟩
  · exact h1.elim
theorem pe_newM {es : List Expr} {ms : List ME} (h : PA X es (tAm X.K cls W ms)) : PE X (.List es pos) (tE X.K cls W (mNew ms)) := by
  refine PE.weak (pe_lst h) fun sg H Q h => ?_
  obtain ⟨rho, env, st, w, re, h⟩ := h
  refine ⟨rho, env, st, w, re, OkR.mono (OkR.bind h) fun ds st1 rho1 H1 e1 w1 h1 vs rvs => ?_⟩
  split at h1
  · exact ⟨by rw [← rvs.length]; assumption, ok_new_lst w1 h1 rvs⟩
  · exact h1.elim
theorem pe_dic0M : PE X (.Dict [] [] pos) (tE X.K cls W (mC (.dic []))) := by
  refine PE.weak pe_dnewK fun sg H Q h => ?_
  obtain ⟨rho, env, st, w, re, h⟩ := h
  exact fun p hp => h rho _ (w.extTmp hp _) (w.tmp hp _) _ (.dic upd_same (w.fresh hp) .nil)
def mNewD : ME := fun _ st => .ok (.ref st.length) (st ++ [.dic []])
theorem pe_newDM : PE X (.Dict [] [] pos) (tE X.K cls W mNewD) := by
  refine PE.weak pe_dnewK fun sg H Q h => ?_
  obtain ⟨rho, env, st, w, re, h⟩ := h
  exact ok_new_dic w h .nil
theorem tE_call {K : PySem.W.Frag} {f : List D → Sto → R D} {ms : List ME} {r : List V → Hp → VK → Prop} (hop : ∀ {sg : L2.St} {rho : Rho} {st : Sto} {H : Hp} {Q : VK} {ds : List D} {vs : List V}, Wld K rho st H → RelDs K rho H ds vs → OkR K cls W sg rho H (f ds st) (VQ K Q) → r vs H Q)
    {sg : L2.St} {H : Hp} {Q : VK} (h : tE K cls W (mCall f ms) sg H Q) : tCB r (tAm K cls W ms) sg H Q := by
  obtain ⟨rho, env, st, w, re, h⟩ := h
  exact ⟨rho, env, st, w, re, OkR.mono (OkR.bind h) fun ds st1 rho1 H1 e1 w1 h1 vs rvs => hop w1 rvs h1⟩
theorem pe_callBM {es : List Expr} {ms : List ME} {x : Str} {p : Pos} {id : String} {f : List D → Sto → R D} {r : List V → Hp → VK → Prop} (hc : CallR X (.builtin id) r)
    (hop : ∀ {sg : L2.St} {rho : Rho} {st : Sto} {H : Hp} {Q : VK} {ds : List D} {vs : List V}, Wld X.K rho st H → RelDs X.K rho H ds vs → OkR X.K cls W sg rho H (f ds st) (VQ X.K Q) → r vs H Q)
    (hg : Gl X x) (hm : X.mg x = none) (hv : bootBuiltins x = some (.builtin id)) (hn : x ≠ "__name__") (hdb : (x == ("__debug__" : Str)) = false) (hp : (e :: es).all plainE = true) (ha : PA X (e :: es) (tAm X.K cls W ms)) : PE X (.Call (.Name x p) (e :: es) [] pos) (tE X.K cls W (mCall f ms)) := by
  simp only [List.all_cons, Bool.and_eq_true] at hp
  exact PE.weak (pe_callB hc hg hm hv ha hn hdb (star_plain hp.1) (star_any hp.2)) fun _ _ _ h => tE_call hop h
theorem pe_callTyM {es : List Expr} {ms : List ME} {x : Str} {p : Pos} {T : String} {f : List D → Sto → R D} {r : List V → Hp → VK → Prop} (hc : CallR X (.type T) r)
    (hop : ∀ {sg : L2.St} {rho : Rho} {st : Sto} {H : Hp} {Q : VK} {ds : List D} {vs : List V}, Wld X.K rho st H → RelDs X.K rho H ds vs → OkR X.K cls W sg rho H (f ds st) (VQ X.K Q) → r vs H Q)
    (hg : Gl X x) (hm : X.mg x = none) (hv : bootBuiltins x = some (.type T)) (hn : x ≠ "__name__") (hdb : (x == ("__debug__" : Str)) = false) (hp : (e :: es).all plainE = true) (ha : PA X (e :: es) (tAm X.K cls W ms)) : PE X (.Call (.Name x p) (e :: es) [] pos) (tE X.K cls W (mCall f ms)) := by
  simp only [List.all_cons, Bool.and_eq_true] at hp
  exact PE.weak (pe_callTy hc hg hm hv ha hn hdb (star_plain hp.1) (star_any hp.2)) fun _ _ _ h => tE_call hop h
theorem pe_isiM {T : String} {t : Str} {p p2 : Pos} (hp : plainE e = true) (he : PE X e (tE X.K cls W m)) (hg : Gl X "isinstance") (hm : X.mg "isinstance" = none) (hg2 : Gl X t) (hm2 : X.mg t = none) (hv : bootBuiltins t = some (.type T)) (hn : t ≠ "__name__") (hdb : (t == ("__debug__" : Str)) = false) :
    PE X (.Call (.Name "isinstance" p) [e, .Name t p2] [] pos) (tE X.K cls W (mIsI T m)) := by
  have h2 : PE X (.Name t p2) (tC (.ty T)) := pe_bltn hg2 hm2 hv rfl hn hdb
  have ha : PA X [e, .Name t p2] (tCons (tE X.K cls W m) (tCons (tC (.ty T)) tNil)) := pa_cons he (pa_cons h2 pa_nil) (star_plain hp)
  refine PE.weak (pe_callB call_isi hg hm boot_isinstance ha (by decide) (by decide) (star_plain hp) rfl) fun sg H Q h => ?_
  obtain ⟨rho, env, st, w, re, h⟩ := h
  exact ⟨rho, env, st, w, re, OkR.mono (OkR.bind h) fun d st1 rho1 H1 e1 w1 h1 v rv => isInst_ok w1 rv h1⟩
/-! ### items and slices -/
theorem plainIx {b : Expr} (h : noSlice b = true) : PlainIx b := fun o i => by
  cases b <;> first | rfl | cases h
theorem kvGet_rel {K : PySem.W.Frag} {rho : Rho} {H : Hp} : ∀ {ds : List (Key × D)} {vs : List (Key × V)} {k : Key} {d : D}, RelK K rho H ds vs → kvGet ds k = some d → ∃ v, valV vs k = some v ∧ RelD K rho H d v
  | _, _, _, _, .nil, h => by simp [kvGet] at h
  | (k', d') :: ds, (_, v') :: vs, k, d, .cons r t, h => by
    unfold kvGet valV at *
    simp only [List.find?_cons] at h ⊢
    by_cases e : k' = k
    · simp only [e, decide_true, Option.map_some, Option.some.injEq] at h ⊢
      subst h
      exact ⟨v', rfl, r⟩
    · simp only [e, decide_false] at h ⊢
      exact kvGet_rel t h
theorem kvGet_none {K : PySem.W.Frag} {rho : Rho} {H : Hp} : ∀ {ds : List (Key × D)} {vs : List (Key × V)} {k : Key}, RelK K rho H ds vs → kvGet ds k = none → valV vs k = none
  | _, _, _, .nil, h => rfl
  | (k', d') :: ds, (_, v') :: vs, k, .cons r t, h => by
    unfold kvGet valV at *
    simp only [List.find?_cons] at h ⊢
    by_cases e : k' = k
    · simp only [e, decide_true, Option.map_some, reduceCtorEq] at h
    · simp only [e, decide_false] at h ⊢
      exact kvGet_none t h
theorem keyOf_rel {K : PySem.W.Frag} {rho : Rho} {H : Hp} {d : D} {v : V} {k : Key} (r : RelD K rho H d v) (h : keyOf d = some k) : v = kV k := by
  cases r <;> simp only [keyOf, Option.some.injEq, reduceCtorEq] at h <;> (subst h; rfl)
def rIxA (K : PySem.W.Frag) : R2 := fun x y H Q => rIx K x y H Q ∨ ∃ a v, x = .ref a ∧ DGet H a y (some v) ∧ Q v H
theorem hop_ix {K : PySem.W.Frag} {sg : L2.St} {rho : Rho} {st : Sto} {H : Hp} {Q : VK} {x y : D} {v u : V} (w : Wld K rho st H) (r1 : RelD K rho H x v) (r2 : RelD K rho H y u) (h : OkR K cls W sg rho H (opIx x y st) (VQ K Q)) :
    rIxA K v u H Q := by
  have q := deref_rel w r1
  unfold opIx at h
  split at h <;> (rename_i e1; try rw [e1] at q)
  · cases q; cases r2
    split at h
    · split at h
      · rename_i c hc
        exact .inl (.inr (.inr ⟨_, _, c, rfl, rfl, by assumption, hc, ok_here w h (.str _)⟩))
      · exact h.elim
    · exact h.elim
  · cases r2
    cases q with
    | tup h1 h2 =>
      split at h
      · rename_i d hd
        obtain ⟨z, hz, rz⟩ := atI_rel h2 hd
        exact .inl (.inr (.inl ⟨_, _, _, z, rfl, rfl, h1, hz, ok_here w h rz⟩))
      · exact h.elim
  · cases r2
    obtain ⟨a, ks, rfl, h1, h2⟩ := der_lst q
    split at h
    · rename_i d hd
      obtain ⟨z, hz, rz⟩ := atI_rel h2 hd
      exact .inl (.inl ⟨_, _, _, z, rfl, rfl, SqL.of h1, hz, ok_here w h rz⟩)
    · exact h.elim
  · cases r2
    cases q with
    | fz h1 h2 =>
      split at h
      · rename_i d hd
        obtain ⟨z, hz, rz⟩ := atI_rel h2 hd
        exact .inl (.inl ⟨_, _, _, z, rfl, rfl, h1.sq, hz, ok_here w h rz⟩)
      · exact h.elim
  · obtain ⟨a, ks, rfl, h1, h2⟩ := der_dic q
    split at h
    · rename_i d hd
      obtain ⟨k, hk, hg⟩ := Option.bind_eq_some_iff.mp hd
      obtain ⟨z, hz, rz⟩ := kvGet_rel h2 hg
      refine .inr ⟨a, z, rfl, ?_, ok_here w h rz⟩
      rw [keyOf_rel r2 hk, ← hz]
      exact DGet.k h1
    · exact h.elim
  · exact h.elim
/-- x[i] by its value: which of the two it is shows at the object -/
theorem pe_ixM (hu : X.A.units + 1 < cLine) (hs : noSlice b = true) (ha : PE X a (tE X.K cls W ma)) (hb : PE X b (tE X.K cls W mb)) : PE X (.Subscript a b pos) (tE X.K cls W (mBin opIx ma mb)) := by
  refine ⟨fun pins s sg H Q I h => ?_⟩
  have h' := tE_bin (K := X.K) (r := rIxA X.K) (fun {sg rho st H Q x y v u} => hop_ix) h
  refine Subscript_ (binT ha hb I h' fun v u s2 x y H2 I2 rx ry q => ?_)
  rcases q with q | ⟨ad, z, rfl, g, q⟩
  · exact ix_seq a b pins s2 sg H2 x y v u Q I2 rx ry q (plainIx hs v u)
  · cases rx
    have hti := dict_typeIs I2 g
    exact tail_any hti PySem.F.slot_dict_getitem.lookup (d_getItem hu I2 g ry fun w' s' I' r' => ⟨z, H2, I', r', q⟩) (plainIx hs _ _)
end
end MI
/-! MiF: in, slices, methods, calls of defs, what is walked, comprehensions. -/
namespace MI
open PySem PySem.Spec PyProof.Rows L2
def noCall : Expr → Bool
  | .Call .. => false
  | _ => true
theorem base_ok {o : Expr} {n : Str} {env : Env} {wh : Sem Value} (h : noCall o = true) : attributeBase o n env wh = wh := by
  cases o <;> first | rfl | cases h
theorem star_all : ∀ {es : List Expr} {env : Env} {pos : Pos}, es.all plainE = true → (backTo pos (starEach es env)).all (fun x => !x.1) = true
  | [], _, _, _ => rfl
  | e :: es, env, pos, h => by
    simp only [List.all_cons, Bool.and_eq_true] at h
    have ih := star_all (env := env) (pos := pos) h.2
    unfold backTo at ih ⊢
    rw [star_plain h.1]
    simp only [List.all_map, List.map_cons, List.all_cons] at ih ⊢
    simpa using ih
section
variable {X : Cx} {cls : Nat → Value} {W : WX} {pos : Pos} {a b c e o : Expr} {ma mb mc m mo : ME}

/-! ### in -/
def rInA (K : PySem.W.Frag) (neg : Bool) : R2 := fun x y H Q => (∃ (c : Nat) (z : Str), x = .str ⟨#[c]⟩ ∧ y = .str z ∧ Q (.bl (neg ^^ decide (c ∈ z.cps.toList))) H) ∨
  (∃ d ds, Dp K H x d ∧ Dp K H y (.list ds) ∧ SeqAt.shaped d = true ∧ SeqAt.shaped (.list ds) = true ∧ Q (.bl (neg ^^ ds.any fun z => PyData.eqv z d)) H) ∨ ∃ a ov, y = .ref a ∧ DGet H a x ov ∧ Q (.bl (neg ^^ ov.isSome)) H
theorem op_inA (hu : X.A.units + 65 < cLine) : OpR X (compareOp .In) (rInA X.K false) := by
  intro pins s sg H x y v u Q I rx ry h
  rcases h with ⟨c, z, e1, e2, q⟩ | h | ⟨ad, ov, rfl, g, q⟩
  · exact op_in_sign pins s sg H x y v u Q I rx ry ⟨c, z, e1, e2, by simpa using q⟩
  · exact op_inD hu pins s sg H x y v u Q I rx ry (by simpa [rInD] using h)
  · cases ry
    exact d_in (by omega) I g rx fun s' I' => ⟨.bl ov.isSome, H, I', rfl, by simpa using q⟩
theorem op_notInA (hu : X.A.units + 65 < cLine) : OpR X (compareOp .NotIn) (rInA X.K true) := by
  intro pins s sg H x y v u Q I rx ry h
  rcases h with ⟨c, z, e1, e2, q⟩ | h | ⟨ad, ov, rfl, g, q⟩
  · exact op_notIn_sign pins s sg H x y v u Q I rx ry ⟨c, z, e1, e2, by simpa using q⟩
  · exact op_notInD hu pins s sg H x y v u Q I rx ry (by simpa [rNotInD] using h)
  · cases ry
    exact d_notIn (by omega) I g rx fun s' I' => ⟨.bl (!ov.isSome), H, I', rfl, by simpa using q⟩
theorem isIn_some {K : PySem.W.Frag} {rho : Rho} {st : Sto} {H : Hp} {x y : D} {v u : V} {k : Bool} {neg : Bool} {Q : VK} (w : Wld K rho st H) (r1 : RelD K rho H x v) (r2 : RelD K rho H y u) (h : isIn st x y = some k) (q : Q (.bl (neg ^^ k)) H) : rInA K neg v u H Q := by
  have d2 := deref_rel w r2
  unfold isIn at h
  split at h <;> (rename_i e1; try rw [e1] at d2)
  · cases d2; cases r1
    rename_i sa sb
    split at h
    · rename_i c hc
      cases h
      refine .inl ⟨c, sb, ?_, rfl, q⟩
      cases sa with
      | mk cp =>
        have : cp = #[c] := by
          apply Array.toList_inj.mp
          simpa using hc
        rw [this]
    · cases h
  · obtain ⟨ad, ks, rfl, h1, h2⟩ := der_dic d2
    obtain ⟨k', hk, e⟩ := Option.map_eq_some_iff.mp h
    refine .inr (.inr ⟨ad, valV ks k', rfl, ?_, ?_⟩)
    · rw [keyOf_rel r1 hk]
      exact DGet.k h1
    · have : (valV ks k').isSome = k := by
        rw [← e]
        cases g : kvGet _ k' with
        | none => rw [kvGet_none h2 g]; rfl
        | some d =>
          obtain ⟨z, hz, _⟩ := kvGet_rel h2 g
          rw [hz]; rfl
      rw [this]
      exact q
  · obtain ⟨ad, ks, rfl, h1, h2⟩ := der_lst d2
    split at h
    · rename_i hc
      simp only [Bool.and_eq_true] at hc
      obtain ⟨⟨⟨c1, c2⟩, c3⟩, c4⟩ := hc
      cases h
      exact .inr (.inl ⟨_, _, der_dp (deref_rel w r1) c1, .lst (SqL.of h1) (relDs_dp h2 c2), c3, c4, q⟩)
    · cases h
  · cases h
theorem hop_in {K : PySem.W.Frag} {sg : L2.St} {rho : Rho} {st : Sto} {H : Hp} {Q : VK} {x y : D} {v u : V} (w : Wld K rho st H) (r1 : RelD K rho H x v) (r2 : RelD K rho H y u) (h : OkR K cls W sg rho H (opIn x y st) (VQ K Q)) : rInA K false v u H Q := by
  unfold opIn at h
  split at h
  · rename_i k e1
    exact isIn_some w r1 r2 e1 (by simpa using ok_here w h (.bl _))
  · exact h.elim
theorem hop_notIn {K : PySem.W.Frag} {sg : L2.St} {rho : Rho} {st : Sto} {H : Hp} {Q : VK} {x y : D} {v u : V} (w : Wld K rho st H) (r1 : RelD K rho H x v) (r2 : RelD K rho H y u) (h : OkR K cls W sg rho H (opNotIn x y st) (VQ K Q)) : rInA K true v u H Q := by
  unfold opNotIn at h
  split at h
  · rename_i k e1
    exact isIn_some w r1 r2 e1 (by simpa using ok_here w h (.bl _))
  · exact h.elim
/-! ### slices -/
def tOm (K : PySem.W.Frag) (cls : Nat → Value) (W : WX) (m : Option ME) : TO := fun sg H Q => ∃ rho env st, Wld K rho st H ∧ RelEnv K rho H env sg ∧ OkR K cls W sg rho H (mOpt m env st) (fun o _ _ H' => Q o H')
theorem po_noneM : PO X none (tOm X.K cls W none) := ⟨fun pins s sg H Q I h => po_none.run pins s sg H Q I (by
  obtain ⟨rho, env, st, w, re, h⟩ := h
  exact h rho H (Ext.refl rho H) w)⟩
theorem po_someM (h : PE X e (tE X.K cls W m)) : PO X (some e) (tOm X.K cls W (some m)) := ⟨fun pins s sg H Q I hq => (po_some h).run pins s sg H Q I (by
  obtain ⟨rho, env, st, w, re, hq⟩ := hq
  refine ⟨rho, env, st, w, re, OkR.mono (OkR.bind hq) fun d st1 rho1 H1 e1 w1 h1 v rv => ?_⟩
  split at h1
  · cases rv
    exact ⟨_, rfl, OkR.ok h1 w1⟩
  · exact h1.elim)⟩
def rSlAll (K : PySem.W.Frag) : V → Option Int → Option Int → Hp → VK → Prop := fun x lo hi H Q => rSlA K x lo hi H Q ∨ rSlL K x lo hi H Q ∨ rSlS x lo hi H Q
theorem sl_all : SlR X (rSlAll X.K) := SlR.or sl_tupA (SlR.or sl_list sl_str)
theorem cut_whole {α : Type} {xs : List α} {lo hi : Option Int} (h1 : HT.sIx xs.length 0 lo = 0) (h2 : HT.sIx xs.length xs.length hi = xs.length) : cutL xs lo hi = xs := by
  unfold cutL
  rw [h1, h2]
  simp
theorem hop_sl {K : PySem.W.Frag} {sg : L2.St} {rho : Rho} {st : Sto} {H : Hp} {Q : VK} {x : D} {v : V} {lo hi : Option Int} (w : Wld K rho st H) (r1 : RelD K rho H x v) (h : OkR K cls W sg rho H (opSl x lo hi st) (VQ K Q)) : rSlAll K v lo hi H Q := by
  have q := deref_rel w r1
  unfold opSl at h
  split at h <;> (rename_i e1; try rw [e1] at q)
  · cases q
    split at h
    · exact .inr (.inr ⟨_, rfl, by assumption, ok_here w h (.str _)⟩)
    · exact h.elim
  · cases q with
    | tup h1 h2 =>
      rename_i ds ad vs
      refine .inl ⟨ad, vs, rfl, h1, fun e2 => ?_, fun e2 => ?_⟩
      · rw [cut_whole (by rw [h2.length]; exact e2.1) (by rw [h2.length]; exact e2.2)] at h
        exact ok_here w h (.tup h1 h2)
      · refine ok_tmp_tup w h ?_
        unfold cutL cutV
        rw [h2.length]
        exact (h2.drop _).take _
  · obtain ⟨ad, ks, rfl, h1, h2⟩ := der_lst q
    refine .inr (.inl ⟨ad, ks, rfl, SqL.of h1, ok_tmp_lst w h ?_⟩)
    unfold cutL cutV
    rw [h2.length]
    exact (h2.drop _).take _
  · exact h.elim
theorem pe_slM {lo hi : Option Expr} {ml mh : Option ME} {p2 : Pos} (ha : PE X a (tE X.K cls W ma)) (hl : PO X lo (tOm X.K cls W ml)) (hh : PO X hi (tOm X.K cls W mh)) : PE X (.Subscript a (.Slice lo hi none p2) pos) (tE X.K cls W (mSl ma ml mh)) := by
  refine PE.weak (pe_slice sl_all ha hl hh) fun sg H Q h => ?_
  obtain ⟨rho, env, st, w, re, h⟩ := h
  refine ⟨rho, env, st, w, re, OkR.mono (OkR.bind h) fun d st1 rho1 H1 e1 w1 h1 v rv => ?_⟩
  refine ⟨rho1, env, st1, w1, re.ext e1, OkR.mono (OkR.bind h1) fun i st2 rho2 H2 e2 w2 h2 => ?_⟩
  refine ⟨rho2, env, st2, w2, (re.ext e1).ext e2, OkR.mono (OkR.bind h2) fun j st3 rho3 H3 e3 w3 h3 => ?_⟩
  exact hop_sl w3 ((rv.ext e2).ext e3) h3
/-! ### methods -/
theorem pe_methL {es : List Expr} {ms : List ME} {name : Str} {apos : Pos} {id : String} {f : D → List D → Sto → R D} {r : V → List V → Hp → VK → Prop} (slot : Slot "list" name id) (hty : typeOf (.builtin id) = pure (.type "method_descriptor")) (hm : MtR X id r)
    (hop : ∀ {sg : L2.St} {rho : Rho} {st : Sto} {H : Hp} {Q : VK} {d : D} {v : V} {ds : List D} {vs : List V}, Wld X.K rho st H → RelD X.K rho H d v → RelDs X.K rho H ds vs → OkR X.K cls W sg rho H (f d ds st) (VQ X.K Q) → r v vs H Q)
    (hb : noCall o = true) (hl : (apos.endLine == pos.line) = true) (hp : (e :: es).all plainE = true) (hn : (e :: es).length < 30) (ho : PE X o (tE X.K cls W mo)) (ha : PA X (e :: es) (tAm X.K cls W ms)) :
    PE X (.Call (.Attribute o name apos) (e :: es) [] pos) (tE X.K cls W (mMethL f mo ms)) := by
  have hp' := hp
  simp only [List.all_cons, Bool.and_eq_true] at hp
  refine PE.weak (pe_bm PySem.F.plainAttrs_list slot hty hm ho ha (base_ok hb) ?_ hl (star_plain hp.1) (star_any hp.2)) fun sg H Q h => ?_
  · rw [star_all hp']
    have hk : (backToKw pos (keywordEach [] X.env)).all (fun x => x.1.isSome) = true := rfl
    rw [hk]
    have hn' : decide ((e :: es).length + 0 + 0 < 30) = true := by simpa using hn
    simpa using hn'
  · obtain ⟨rho, env, st, w, re, h⟩ := h
    refine ⟨rho, env, st, w, re, OkR.mono (OkR.bind h) fun d st1 rho1 H1 e1 w1 h1 v rv => ?_⟩
    split at h1
    · rename_i hl1
      refine ⟨isLst_ok w1 rv hl1, rho1, env, st1, w1, re.ext e1, OkR.mono (OkR.bind h1) fun ds st2 rho2 H2 e2 w2 h2 vs rvs => ?_⟩
      exact hop w2 (rv.ext e2) rvs h2
    · exact h1.elim
theorem pe_methL0 {name : Str} {apos : Pos} {id : String} {f : D → List D → Sto → R D} {r : V → List V → Hp → VK → Prop} (slot : Slot "list" name id) (hty : typeOf (.builtin id) = pure (.type "method_descriptor")) (hm : MtR X id r)
    (hop : ∀ {sg : L2.St} {rho : Rho} {st : Sto} {H : Hp} {Q : VK} {d : D} {v : V} {ds : List D} {vs : List V}, Wld X.K rho st H → RelD X.K rho H d v → RelDs X.K rho H ds vs → OkR X.K cls W sg rho H (f d ds st) (VQ X.K Q) → r v vs H Q)
    (hb : noCall o = true) (hl : (apos.endLine == pos.line) = true) (ho : PE X o (tE X.K cls W mo)) : PE X (.Call (.Attribute o name apos) [] [] pos) (tE X.K cls W (mMethL f mo [])) := by
  refine PE.weak (pe_bm0 PySem.F.plainAttrs_list slot hty hm ho (base_ok hb) hl) fun sg H Q h => ?_
  obtain ⟨rho, env, st, w, re, h⟩ := h
  refine ⟨rho, env, st, w, re, OkR.mono (OkR.bind h) fun d st1 rho1 H1 e1 w1 h1 v rv => ?_⟩
  split at h1
  · rename_i hl1
    exact ⟨isLst_ok w1 rv hl1, hop w1 rv .nil h1⟩
  · exact h1.elim
/-! ### calls of defs -/
/-- a def keeps what its reading says -/
def spF (K : PySem.W.Frag) (cls : Nat → Value) (f : List D → Sto → R D) : Sp := fun vs H Q E => ∃ rho st ds, Wld K rho st H ∧ RelDs K rho H ds vs ∧ OkR K cls (fun c d _ H => E c d H) [] rho H (f ds st) (VQ K Q)
theorem OkR.wish {α : Type} {K : PySem.W.Frag} {W' : WX} {sg sg' : L2.St} {rho : Rho} {H : Hp} {r : R α} {P : α → Sto → Rho → Hp → Prop} (h : OkR K cls W sg rho H r P) (f : ∀ c H, W c none sg H → W' c none sg' H) : OkR K cls W' sg' rho H r P := by
  cases r with
  | ok a st => exact h
  | exc c st => exact fun r2 H2 e2 w2 => f _ _ (h r2 H2 e2 w2)
  | stuck => exact h
theorem pe_call0S {CX : CXT} {k : Nat} {f : Addr} {fd : FuncData} {ps : List Str} {sp : Sp} {E : L2.St → XK} {x : Str} {p : Pos} (F : FnOk X.prog X.w X.K X.mg X.base CX k f fd ps sp) (hr : Room k X.A) (hg : Gl X x) (hm : X.mg x = some (.ref f)) (hk : PySem.W.keepIn X.K (.ref f) = true) (hb : Binds X.K fd ps []) (hx : ∀ sg, PassesAt CX X sg (E sg))
    (hdb : (x == ("__debug__" : Str)) = false) : PE X (.Call (.Name x p) [] [] pos) (tCallS sp E tNil) := by
  refine ⟨fun pins s sg H Q I h => ?_⟩
  refine wpAny_Call_Name_kw (ld_glob I hg hm ?_ hdb)
  exact PySem.W.callWith_K0 I.kIn hk (run_fnS (us := []) F hr hb (hx sg) I .nil h)
theorem pe_callM {k : Nat} {fa : Addr} {fd : FuncData} {ps : List Str} {f : List D → Sto → R D} {x : Str} {p : Pos} {es : List Expr} {ms : List ME} (F : FnOk X.prog X.w X.K X.mg X.base (L2.CX X.prog X.w) k fa fd ps (spF X.K cls f)) (hr : Room k X.A) (hg : Gl X x) (hm : X.mg x = some (.ref fa))
    (hk : PySem.W.keepIn X.K (.ref fa) = true) (hb : Binds X.K fd ps []) (tk : Takes X W) (hdb : (x == ("__debug__" : Str)) = false) (hp : (e :: es).all plainE = true) (ha : PA X (e :: es) (tAm X.K cls W ms)) : PE X (.Call (.Name x p) (e :: es) [] pos) (tE X.K cls W (mCall f ms)) := by
  have go : ∀ sg H Q, tE X.K cls W (mCall f ms) sg H Q → tCallS (spF X.K cls f) (WE W) (tAm X.K cls W ms) sg H Q := fun sg H Q h => by
    obtain ⟨rho, env, st, w, re, h⟩ := h
    refine ⟨rho, env, st, w, re, OkR.mono (OkR.bind h) fun ds st1 rho1 H1 e1 w1 h1 vs rvs => ?_⟩
    exact ⟨rho1, st1, ds, w1, rvs, OkR.wish h1 fun c H q => q⟩
  simp only [List.all_cons, Bool.and_eq_true] at hp
  exact PE.weak (pe_callS F hr hg hm hk hb (fun sg => passAt tk sg) ha hdb (star_plain hp.1) (star_any hp.2)) go
theorem pe_call0M {k : Nat} {fa : Addr} {fd : FuncData} {ps : List Str} {f : List D → Sto → R D} {x : Str} {p : Pos} (F : FnOk X.prog X.w X.K X.mg X.base (L2.CX X.prog X.w) k fa fd ps (spF X.K cls f)) (hr : Room k X.A) (hg : Gl X x) (hm : X.mg x = some (.ref fa))
    (hk : PySem.W.keepIn X.K (.ref fa) = true) (hb : Binds X.K fd ps []) (tk : Takes X W) (hdb : (x == ("__debug__" : Str)) = false) : PE X (.Call (.Name x p) [] [] pos) (tE X.K cls W (mCall f [])) := by
  refine PE.weak (pe_call0S F hr hg hm hk hb (fun sg => passAt tk sg) hdb) fun sg H Q h => ?_
  obtain ⟨rho, env, st, w, re, h⟩ := h
  exact ⟨rho, st, [], w, .nil, OkR.wish h fun c H q => q⟩
end
end MI
/-! MiG: targets, what is walked, comprehensions, statements. -/
namespace MI
open PySem PySem.Spec PyProof.Rows L2

/-! ### targets -/
/-- vs: the slots that the target sets -/
def tGm (K : PySem.W.Frag) (vs : List Nat) (m : MG) : TG := fun v sg H Q => ∃ rho env st d env', Wld K rho st H ∧ RelEnv K rho H env sg ∧ RelD K rho H d v ∧ m d env = some env' ∧
  ∀ sg', RelEnv K rho H env' sg' → sg'.length = sg.length → (∀ j, j ∉ vs → sg'[j]? = sg[j]?) → Q sg' H
theorem wipe_same : ∀ {vs : List Nat} {sg sg' : L2.St}, sg'.length = sg.length → (∀ j, j ∉ vs → sg'[j]? = sg[j]?) → wipe sg' vs = wipe sg vs := by
  intro vs sg sg' hl h
  apply List.ext_getElem?
  intro j
  by_cases hj : j ∈ vs
  · have out : ∀ (s : L2.St), (wipe s vs)[j]? = if j < s.length then some none else none := fun s => by
      have : ∀ {us : List Nat}, j ∈ us → (wipe s us)[j]? = if j < s.length then some none else none := by
        intro us
        induction us with
        | nil => intro h; cases h
        | cons u us ih =>
          intro hm
          unfold L2.wipe
          by_cases e : u = j
          · subst e
            rw [List.getElem?_set, wipe_length]
            simp
          · rcases List.mem_cons.mp hm with z | z
            · exact absurd z.symm e
            · rw [List.getElem?_set_ne e]
              exact ih z
      exact this hj
    rw [out, out, hl]
  · have keep : ∀ (s : L2.St), (wipe s vs)[j]? = s[j]? := fun s => by
      have : ∀ {us : List Nat}, j ∉ us → (wipe s us)[j]? = s[j]? := by
        intro us
        induction us with
        | nil => intro _; rfl
        | cons u us ih =>
          intro hm
          unfold L2.wipe
          rw [List.getElem?_set_ne (fun e => hm (by rw [e]; exact List.mem_cons_self))]
          exact ih fun z => hm (List.mem_cons_of_mem _ z)
      exact this hj
    rw [keep, keep]
    exact h j hj
theorem PG.weak {X : Cx} {tg : Expr} {t t' : TG} (h : PG X tg t) (f : ∀ v sg H Q, t' v sg H Q → t v sg H Q) : PG X tg t' := ⟨fun pins s sg H v u Q I r q => h.run pins s sg H v u Q I r (f _ _ _ _ q)⟩
theorem PGs.weak {X : Cx} {tg : List Expr} {t t' : TGs} (h : PGs X tg t) (f : ∀ v sg H Q, t' v sg H Q → t v sg H Q) : PGs X tg t' := ⟨fun pins s sg H v u Q I r q => h.run pins s sg H v u Q I r (f _ _ _ _ q)⟩
section
variable {X : Cx} {cls : Nat → Value} {W : WX} {pos : Pos}
theorem pg_varM {i : Nat} {x : Str} (hN : X.N.Nodup) (hi : X.N[i]? = some x) (hx : Loc X.env.scope x) (hf : X.fn x = true ∨ X.env.scope.names.lookup x = some .local) : PG X (.Name x pos) (tGm X.K [i] (gVar i)) := by
  refine PG.weak (pg_name hN hi hx hf) fun v sg H Q h => ?_
  obtain ⟨rho, env, st, d, env', w, re, rd, e, h⟩ := h
  cases e
  exact h _ (re.set rd i) (by simp) fun j hj => by rw [List.getElem?_set_ne (fun z => hj (by simp [z]))]
/-- a row of names -/
def gVars : List Nat → List D → DEnv → Option DEnv
  | [], [], env => some env
  | i :: is, d :: ds, env => gVars is ds (env.set i (some d))
  | _, _, _ => none
def gTupV (is : List Nat) : MG := fun d env => match d with
  | .tup ds => gVars is ds env
  | _ => none
def tGsm (K : PySem.W.Frag) (is : List Nat) : TGs := fun vs sg H Q => ∃ rho env st ds env', Wld K rho st H ∧ RelEnv K rho H env sg ∧ RelDs K rho H ds vs ∧ gVars is ds env = some env' ∧
  ∀ sg', RelEnv K rho H env' sg' → sg'.length = sg.length → (∀ j, j ∉ is → sg'[j]? = sg[j]?) → Q sg' H
/-- the names' slots -/
inductive NamesAt (X : Cx) : List Expr → List Nat → Prop where
  | nil : NamesAt X [] []
  | cons {x : Str} {p : Pos} {i : Nat} {es : List Expr} {is : List Nat} (hi : X.N[i]? = some x) (hx : Loc X.env.scope x) (hf : X.fn x = true ∨ X.env.scope.names.lookup x = some .local) (t : NamesAt X es is) : NamesAt X (.Name x p :: es) (i :: is)
theorem pgs_varsM (hN : X.N.Nodup) : ∀ {es : List Expr} {is : List Nat}, NamesAt X es is → PGs X es (tGsm X.K is)
  | _, _, .nil => PGs.weak pgs_nil fun v sg H Q h => by
    obtain ⟨rho, env, st, ds, env', w, re, rd, e, h⟩ := h
    cases ds with
    | nil =>
      cases e
      cases rd
      exact ⟨rfl, h sg re rfl fun _ _ => rfl⟩
    | cons d ds => cases e
  | _, _, .cons (x := x) (i := i) (is := is) hi hx hf t => PGs.weak (pgs_cons (pg_name hN hi hx hf) (pgs_varsM hN t) rfl) fun v sg H Q h => by
    obtain ⟨rho, env, st, ds, env', w, re, rd, e, h⟩ := h
    cases ds with
    | nil => cases e
    | cons d ds =>
      cases rd with
      | cons r1 r2 =>
        rename_i v1 vs1
        refine ⟨v1, vs1, rfl, rho, env.set i (some d), st, ds, env', w, re.set r1 i, r2, e, fun sg' re' hl hk => h sg' re' (by rw [hl]; simp) fun j hj => ?_⟩
        rw [hk j fun z => hj (List.mem_cons_of_mem _ z), List.getElem?_set_ne (fun z => hj (by rw [z]; exact List.mem_cons_self))]
theorem NamesAt.each {es : List Expr} {is : List Nat} (n : NamesAt X es is) : (assignEach es X.env).length = es.length ∧ (assignEach es X.env).findIdx? (·.1) = none := by
  induction n with
  | nil => exact ⟨rfl, rfl⟩
  | cons hi hx hf t ih =>
    rename_i x p i es is
    have e : assignEach (.Name x p :: es) X.env = (false, assign (.Name x p) X.env) :: assignEach es X.env := rfl
    rw [e]
    refine ⟨by simp [ih.1], ?_⟩
    rw [List.findIdx?_cons]
    simp [ih.2]
theorem NamesAt.len {es : List Expr} {is : List Nat} (n : NamesAt X es is) : es.length = is.length := by
  induction n with
  | nil => rfl
  | cons _ _ _ _ ih => simp [ih]
theorem gVars_len : ∀ {is : List Nat} {ds : List D} {env env' : DEnv}, gVars is ds env = some env' → ds.length = is.length
  | [], [], _, _, _ => rfl
  | _ :: is, _ :: ds, _, _, h => by simp [gVars_len (is := is) (ds := ds) h]
theorem pg_tupM {es : List Expr} {is : List Nat} {k : Nat} (hc : X.calm = true) (hN : X.N.Nodup) (n : NamesAt X es is) : PG X (.Tuple es k pos) (tGm X.K is (gTupV is)) := by
  refine PG.weak (pg_tup (n := es.length) hc (pgs_varsM hN n) n.each.1 n.each.2) fun v sg H Q h => ?_
  obtain ⟨rho, env, st, d, env', w, re, rd, e, h⟩ := h
  unfold gTupV at e
  split at e
  · cases rd with
    | tup h1 h2 => exact ⟨_, _, rfl, h1, by rw [← h2.length, gVars_len e, n.len], rho, env, st, _, env', w, re, h2, e, h⟩
  · cases e

/-! ### what is walked -/
structure ItOk (K : PySem.W.Frag) (J : It) (s : Src) (P : Rho → Hp → Prop) : Prop where
  stab : ∀ rho H rho' H', P rho H → Ext rho H rho' H' → P rho' H'
  go : ∀ (i : Nat) d rho st H, Wld K rho st H → P rho H → s.holds st → s.items[i]? = some d → J.go i H
  yld : ∀ (i : Nat) d rho st H x H', Wld K rho st H → P rho H → s.holds st → s.items[i]? = some d → J.yld i H x H' → Ext rho H rho H' ∧ Wld K rho st H' ∧ RelD K rho H' d x
  stop : ∀ i rho st H, Wld K rho st H → P rho H → s.holds st → s.items.length ≤ i → J.stop i H
  hide : ∀ rho H p xs, P rho H → H p = none → P (rho.hide p) (upd H p (.lst xs))
  grow : ∀ rho H p xs ys, p ∈ rho.res → H p = some (.lst xs) → P rho H → P rho (upd H p (.lst ys))
def tIm (K : PySem.W.Frag) (cls : Nat → Value) (W : WX) (m : MIt) : TI := fun sg H R => ∃ rho env st, Wld K rho st H ∧ RelEnv K rho H env sg ∧
  OkR K cls W sg rho H (m env st) (fun s st' rho' H' => ∀ J P, ItOk K J s P → P rho' H' → s.holds st' → R J H')
theorem it_tup {K : PySem.W.Frag} (a : Addr) (ds : List D) (vs : List V) : ItOk K (Itt K a) (.vals ds) (fun rho H => SqT K H a vs ∧ RelDs K rho H ds vs) where
  stab := fun rho H rho' H' p e => ⟨e.sqT p.1, p.2.ext e⟩
  go := fun i d rho st H w p _ hd => by
    obtain ⟨v, hv, _⟩ := p.2.get hd
    exact ⟨vs, v, p.1, hv⟩
  yld := fun i d rho st H x H' w p _ hd y => by
    obtain ⟨rfl, hy⟩ := y
    obtain ⟨v, hv, r⟩ := p.2.get hd
    have := hy vs p.1
    rw [hv] at this
    cases this
    exact ⟨Ext.refl _ _, w, r⟩
  stop := fun i rho st H w p _ hi => ⟨vs, p.1, by rw [← p.2.length]; exact hi⟩
  hide := fun rho H p xs q h => ⟨by
    rcases q.1 with (q | ⟨ob, q⟩) | q
    · exact .inl (.inl (by rw [upd_ne (ne_of_none q h)]; exact q))
    · exact .inl (.inr ⟨ob, by rw [upd_ne (ne_of_none q h)]; exact q⟩)
    · exact .inr q, q.2.hide h⟩
  grow := fun rho H p xs ys hp h q => ⟨by
    rcases q.1 with (q | ⟨ob, q⟩) | q
    · exact .inl (.inl ((Ext.grow (o' := .lst ys) hp h trivial).1 _ _ q))
    · exact .inl (.inr ⟨ob, (Ext.grow (o' := .lst ys) hp h trivial).2 _ _ _ q⟩)
    · exact .inr q, q.2.grow hp h trivial⟩
theorem it_lst {K : PySem.W.Frag} (a : Addr) (ds : List D) (vs : List V) : ItOk K (Itl K a) (.vals ds) (fun rho H => (H a = some (.lst vs) ∧ a ∉ rho) ∧ RelDs K rho H ds vs) where
  stab := fun rho H rho' H' p e => ⟨⟨e.keep _ _ p.1.1 p.1.2, e.notMem p.1.1 p.1.2⟩, p.2.ext e⟩
  go := fun i d rho st H w p _ hd => by
    obtain ⟨v, hv, _⟩ := p.2.get hd
    exact ⟨vs, v, SqL.of p.1.1, hv⟩
  yld := fun i d rho st H x H' w p _ hd y => by
    obtain ⟨rfl, hy⟩ := y
    obtain ⟨v, hv, r⟩ := p.2.get hd
    have := hy vs (SqL.of p.1.1)
    rw [hv] at this
    cases this
    exact ⟨Ext.refl _ _, w, r⟩
  stop := fun i rho st H w p _ hi => ⟨vs, SqL.of p.1.1, by rw [← p.2.length]; exact hi⟩
  hide := fun rho H p xs q h => ⟨⟨by rw [upd_ne (ne_of_none q.1.1 h)]; exact q.1.1, fun z => by
    rcases z with z | z
    · exact q.1.2 (.inl z)
    · rcases List.mem_cons.mp z with z | z
      · have := q.1.1
        rw [z, h] at this; cases this
      · exact q.1.2 (.inr z)⟩, q.2.hide h⟩
  grow := fun rho H p xs ys hp h q => ⟨⟨by rw [upd_ne (fun z => q.1.2 (by rw [z]; exact .inr hp))]; exact q.1.1, q.1.2⟩, q.2.grow hp h trivial⟩
theorem it_fz {K : PySem.W.Frag} (a : Addr) (ds : List D) (vs : List V) : ItOk K (Itl K a) (.vals ds) (fun rho H => FzL K H a vs ∧ RelDs K rho H ds vs) where
  stab := fun rho H rho' H' p e => ⟨e.fzL p.1, p.2.ext e⟩
  go := fun i d rho st H w p _ hd => by
    obtain ⟨v, hv, _⟩ := p.2.get hd
    exact ⟨vs, v, p.1.sq, hv⟩
  yld := fun i d rho st H x H' w p _ hd y => by
    obtain ⟨rfl, hy⟩ := y
    obtain ⟨v, hv, r⟩ := p.2.get hd
    have := hy vs p.1.sq
    rw [hv] at this
    cases this
    exact ⟨Ext.refl _ _, w, r⟩
  stop := fun i rho st H w p _ hi => ⟨vs, p.1.sq, by rw [← p.2.length]; exact hi⟩
  hide := fun rho H p xs q h => ⟨by
    rcases q.1 with ⟨ob, q⟩ | q
    · exact .inl ⟨ob, by rw [upd_ne (ne_of_none q h)]; exact q⟩
    · exact .inr q, q.2.hide h⟩
  grow := fun rho H p xs ys hp h q => ⟨by
    rcases q.1 with ⟨ob, q⟩ | q
    · exact .inl ⟨ob, (Ext.grow (o' := .lst ys) hp h trivial).2 _ _ _ q⟩
    · exact .inr q, q.2.grow hp h trivial⟩
theorem it_live {K : PySem.W.Frag} (a : Addr) (l : Nat) (ds : List D) : ItOk K (Itl K a) (.live l ds) (fun rho H => rho.loc[l]? = some a) where
  stab := fun rho H rho' H' p e => e.get p
  go := fun i d rho st H w p hs hd => by
    obtain ⟨vs, h1, h2⟩ := w.obj l a _ p hs
    obtain ⟨v, hv, _⟩ := h2.get hd
    exact ⟨vs, v, SqL.of h1, hv⟩
  yld := fun i d rho st H x H' w p hs hd y => by
    obtain ⟨rfl, hy⟩ := y
    obtain ⟨vs, h1, h2⟩ := w.obj l a _ p hs
    obtain ⟨v, hv, r⟩ := h2.get hd
    have := hy vs (SqL.of h1)
    rw [hv] at this
    cases this
    exact ⟨Ext.refl _ _, w, r⟩
  stop := fun i rho st H w p hs hi => by
    obtain ⟨vs, h1, h2⟩ := w.obj l a _ p hs
    exact ⟨vs, SqL.of h1, by rw [← h2.length]; exact hi⟩
  hide := fun rho H p xs q h => q
  grow := fun rho H p xs ys hp h q => q
theorem it_range {K : PySem.W.Frag} (lo : Int) (n : Nat) : ItOk K (Itr lo n) (.vals (rangeD lo n)) (fun _ _ => True) where
  stab := fun _ _ _ _ _ _ => trivial
  go := fun i d rho st H w p _ hd => by
    obtain ⟨hl, _⟩ := List.getElem?_eq_some_iff.mp hd
    show i < n
    simpa [Src.items, rangeD] using hl
  yld := fun i d rho st H x H' w p _ hd y => by
    obtain ⟨rfl, rfl⟩ := y
    obtain ⟨hl, e⟩ := List.getElem?_eq_some_iff.mp hd
    simp [Src.items, rangeD] at e
    subst e
    exact ⟨Ext.refl _ _, w, .int _⟩
  stop := fun i rho st H w p _ hi => by
    show n ≤ i
    simpa [Src.items, rangeD] using hi
  hide := fun _ _ _ _ _ _ => trivial
  grow := fun _ _ _ _ _ _ _ _ => trivial
theorem it_rangeC {K : PySem.W.Frag} (lo c : Int) (n : Nat) : ItOk K (Itc lo c n) (.vals (rangeC lo c n)) (fun _ _ => True) where
  stab := fun _ _ _ _ _ _ => trivial
  go := fun i d rho st H w p _ hd => by
    obtain ⟨hl, _⟩ := List.getElem?_eq_some_iff.mp hd
    show i < n
    simpa [Src.items, rangeC] using hl
  yld := fun i d rho st H x H' w p _ hd y => by
    obtain ⟨rfl, rfl⟩ := y
    obtain ⟨hl, e⟩ := List.getElem?_eq_some_iff.mp hd
    simp [Src.items, rangeC] at e
    subst e
    exact ⟨Ext.refl _ _, w, .int _⟩
  stop := fun i rho st H w p _ hi => by
    show n ≤ i
    simpa [Src.items, rangeC] using hi
  hide := fun _ _ _ _ _ _ => trivial
  grow := fun _ _ _ _ _ _ _ _ => trivial
theorem it_str {K : PySem.W.Frag} (z : Str) : ItOk K (Its z) (.vals (z.cps.toList.map fun c => .str ⟨#[c]⟩)) (fun _ _ => True) where
  stab := fun _ _ _ _ _ _ => trivial
  go := fun i d rho st H w p _ hd => by
    obtain ⟨hl, _⟩ := List.getElem?_eq_some_iff.mp hd
    simp [Src.items] at hl
    first | exact hl | exact ⟨_, List.getElem?_eq_getElem hl⟩ | (simp [Its]; exact hl)
  yld := fun i d rho st H x H' w p _ hd y => by
    obtain ⟨rfl, y⟩ := y
    obtain ⟨hl, e⟩ := List.getElem?_eq_some_iff.mp hd
    simp [Src.items] at e hl
    refine ⟨Ext.refl _ _, w, ?_⟩
    subst e
    first
    | (obtain ⟨c, hc, rfl⟩ := y; simp [hl] at hc; subst hc; exact .str _)
    | (simp [hl] at y; subst y; exact .str _)
  stop := fun i rho st H w p _ hi => by
    simp [Src.items] at hi
    first | exact hi | (simp [Its]; exact hi)
  hide := fun _ _ _ _ _ _ => trivial
  grow := fun _ _ _ _ _ _ _ _ => trivial
end
end MI
/-! MiH: iterables, for, while, comprehensions, statements. -/
namespace MI
open PySem PySem.Spec PyProof.Rows L2
section
variable {X : Cx} {cls : Nat → Value} {W : WX} {pos : Pos} {tg l e iter : Expr} {m ma mb : ME}
theorem pi_seqM (h : PE X l (tE X.K cls W m)) : PI X tg l (tIm X.K cls W (iSeq m)) := by
  refine PI.weak (PI.or (pi_list h) (PI.or (pi_tup h) (pi_str h))) fun sg H R hq => ?_
  obtain ⟨rho, env, st, w, re, hq⟩ := hq
  unfold iSeq at hq
  cases q : m env st with
  | stuck => rw [q] at hq; exact hq.elim
  | exc c st1 => exact .inl ⟨rho, env, st, w, re, by rw [q] at hq ⊢; exact hq⟩
  | ok d st1 =>
    rw [q] at hq
    simp only [MI.R.bind_ok] at hq
    split at hq
    · rename_i ll
      split at hq
      · rename_i ds hl
        refine .inl ⟨rho, env, st, w, re, ?_⟩
        rw [q]
        intro rho1 H1 e1 w1 v rv
        cases rv with
        | ref ha =>
          rename_i a
          obtain ⟨vs, h1, h2⟩ := w1.obj ll a _ ha hl
          exact ⟨a, rfl, ⟨vs, SqL.of h1⟩, hq rho1 H1 e1 w1 _ _ (it_live a ll ds) ha hl⟩
      · exact hq.elim
    · refine .inr (.inl ⟨rho, env, st, w, re, ?_⟩)
      rw [q]
      intro rho1 H1 e1 w1 v rv
      cases rv with
      | tup h1 h2 => exact ⟨_, rfl, ⟨_, h1⟩, hq rho1 H1 e1 w1 _ _ (it_tup _ _ _) ⟨h1, h2⟩ trivial⟩
    · refine .inl ⟨rho, env, st, w, re, ?_⟩
      rw [q]
      intro rho1 H1 e1 w1 v rv
      cases rv with
      | lst h1 n h2 => exact ⟨_, rfl, ⟨_, SqL.of h1⟩, hq rho1 H1 e1 w1 _ _ (it_lst _ _ _) ⟨⟨h1, n⟩, h2⟩ trivial⟩
    · refine .inl ⟨rho, env, st, w, re, ?_⟩
      rw [q]
      intro rho1 H1 e1 w1 v rv
      cases rv with
      | fz h1 h2 => exact ⟨_, rfl, ⟨_, h1.sq⟩, hq rho1 H1 e1 w1 _ _ (it_fz _ _ _) ⟨h1, h2⟩ trivial⟩
    · refine .inr (.inr ⟨rho, env, st, w, re, ?_⟩)
      rw [q]
      intro rho1 H1 e1 w1 v rv
      cases rv
      exact ⟨_, rfl, hq rho1 H1 e1 w1 _ _ (it_str _) trivial trivial⟩
    · exact hq.elim
theorem pi_range1M {p : Pos} (hp : plainE l = true) (hg : Gl X "range") (hm : X.mg "range" = none) (h : PE X l (tE X.K cls W m)) : PI X tg (.Call (.Name "range" p) [l] [] pos) (tIm X.K cls W (iRange1 m)) := by
  have ha : PA X [l] (tCons (tE X.K cls W m) tNil) := pa_cons h pa_nil (star_plain hp)
  refine PI.weak (pi_range1 hg hm ha (star_plain hp)) fun sg H R hq => ?_
  obtain ⟨rho, env, st, w, re, hq⟩ := hq
  refine ⟨rho, env, st, w, re, OkR.mono (OkR.bind hq) fun d st1 rho1 H1 e1 w1 h1 v rv => ?_⟩
  split at h1
  · split at h1
    · rename_i hb
      cases rv
      exact ⟨_, rfl, hb.1, hb.2, h1 rho1 H1 (Ext.refl _ _) w1 _ _ (it_range 0 _) trivial trivial⟩
    · exact h1.elim
  · exact h1.elim
theorem pi_range2M {p : Pos} {l2 : Expr} {m2 : ME} (hp : plainE l = true) (hp2 : plainE l2 = true) (hg : Gl X "range") (hm : X.mg "range" = none) (h : PE X l (tE X.K cls W m)) (h2 : PE X l2 (tE X.K cls W m2)) : PI X tg (.Call (.Name "range" p) [l, l2] [] pos) (tIm X.K cls W (iRange2 m m2)) := by
  have ha : PA X [l, l2] (tCons (tE X.K cls W m) (tCons (tE X.K cls W m2) tNil)) := pa_cons h (pa_cons h2 pa_nil (star_plain hp2)) (star_plain hp)
  refine PI.weak (pi_range2 hg hm ha (by rw [star_plain hp, star_plain hp2]; rfl) (by rw [star_plain hp2]; rfl)) fun sg H R hq => ?_
  obtain ⟨rho, env, st, w, re, hq⟩ := hq
  refine ⟨rho, env, st, w, re, OkR.mono (OkR.bind hq) fun d st1 rho1 H1 e1 w1 h1 v rv => ?_⟩
  refine ⟨rho1, env, st1, w1, re.ext e1, OkR.mono (OkR.bind h1) fun d2 st2 rho2 H2 e2 w2 h2 v2 rv2 => ?_⟩
  split at h2
  · split at h2
    · rename_i hb
      cases rv; cases rv2
      exact ⟨_, _, rfl, hb, h2 rho2 H2 (Ext.refl _ _) w2 _ _ (it_range _ _) trivial trivial⟩
    · exact h2.elim
  · exact h2.elim
theorem pi_range3M {p : Pos} {l2 l3 : Expr} {m2 m3 : ME} (hp : plainE l = true) (hp2 : plainE l2 = true) (hp3 : plainE l3 = true) (hg : Gl X "range") (hm : X.mg "range" = none) (h : PE X l (tE X.K cls W m)) (h2 : PE X l2 (tE X.K cls W m2)) (h3 : PE X l3 (tE X.K cls W m3)) : PI X tg (.Call (.Name "range" p) [l, l2, l3] [] pos) (tIm X.K cls W (iRange3 m m2 m3)) := by
  have ha : PA X [l, l2, l3] (tCons (tE X.K cls W m) (tCons (tE X.K cls W m2) (tCons (tE X.K cls W m3) tNil))) := pa_cons h (pa_cons h2 (pa_cons h3 pa_nil (star_plain hp3)) (star_plain hp2)) (star_plain hp)
  refine PI.weak (pi_range3 hg hm ha (by rw [star_plain hp]) (by rw [star_plain hp2, star_plain hp3]; rfl)) fun sg H R hq => ?_
  obtain ⟨rho, env, st, w, re, hq⟩ := hq
  refine ⟨rho, env, st, w, re, OkR.mono (OkR.bind hq) fun d st1 rho1 H1 e1 w1 h1 v rv => ?_⟩
  refine ⟨rho1, env, st1, w1, re.ext e1, OkR.mono (OkR.bind h1) fun d2 st2 rho2 H2 e2 w2 h2 v2 rv2 => ?_⟩
  refine ⟨rho2, env, st2, w2, (re.ext e1).ext e2, OkR.mono (OkR.bind h2) fun d3 st3 rho3 H3 e3 w3 h3 v3 rv3 => ?_⟩
  split at h3
  · split at h3
    · rename_i hb
      cases rv; cases rv2; cases rv3
      rename_i i j k
      refine ⟨_, _, _, (Builtin.Range.rangeSize i j k).toNat, rfl, ⟨hb.1, hb.2.1, hb.2.2, ?_⟩, h3 rho3 H3 (Ext.refl _ _) w3 _ _ (it_rangeC _ _ _) trivial trivial⟩
      refine (Int.toNat_of_nonneg ?_).symm
      unfold Builtin.Range.rangeSize
      split
      · rename_i q
        split
        · have : 0 ≤ (j - i - 1) / k := Int.ediv_nonneg (by omega) (by omega)
          omega
        · exact Int.le_refl _
      · rename_i q
        split
        · have : 0 ≤ (i - j - 1) / (-k) := Int.ediv_nonneg (by omega) (by have := hb.1; omega)
          omega
        · exact Int.le_refl _
    · exact h3.elim
  · exact h3.elim
/-- what is not read -/
theorem pss_stuck {ss : List Stmt} : PSs X ss (tS X.K cls W sStuck) := ⟨fun _ _ _ _ _ _ h => by
  obtain ⟨_, _, _, _, _, h⟩ := h
  exact h.elim⟩
/-! ### statements -/
theorem pss_nilM : PSs X [] (tS X.K cls W sSkip) := PSs.weak pss_nil fun E sg H h => by
  obtain ⟨rho, env, st, w, re, h⟩ := h
  exact h sg rho H (Ext.refl _ _) w re
theorem OkS.then {K : PySem.W.Frag} {rho : Rho} {H : Hp} {r : SR} {f : DEnv → Sto → SR} {E : Ends} (h : OkS K cls W rho H (r.then f) E) : OkS K cls W rho H r { E with nx := tS K cls W f E } := by
  cases r with
  | nx env st => exact fun sg rho1 H1 e1 w1 re1 => ⟨rho1, env, st, w1, re1, OkS.from h e1⟩
  | bk env st => exact h
  | ct env st => exact h
  | rt d st => exact h
  | exc c env st => exact h
  | stuck => exact h
theorem pss_consM {s : Stmt} {ss : List Stmt} {a b : MS} (h1 : PS X s (tS X.K cls W a)) (h2 : PSs X ss (tS X.K cls W b)) : PSs X (s :: ss) (tS X.K cls W (sSeq a b)) := by
  refine PSs.weak (pss_cons h1 h2) fun E sg H h => ?_
  obtain ⟨rho, env, st, w, re, h⟩ := h
  exact ⟨rho, env, st, w, re, OkS.then h⟩
theorem ps_passM : PS X (.Pass pos) (tS X.K cls W sSkip) := PS.weak ps_pass fun E sg H h => by
  obtain ⟨rho, env, st, w, re, h⟩ := h
  exact h sg rho H (Ext.refl _ _) w re
theorem ps_exprM (he : PE X e (tE X.K cls W m)) (hc : noComp e = true) : PS X (.Expr e pos) (tS X.K cls W (sExpr m)) := by
  refine PS.weak (ps_expr he (swaps_no hc)) fun E sg H h => ?_
  obtain ⟨rho, env, st, w, re, h⟩ := h
  refine ⟨rho, env, st, w, re, ?_⟩
  unfold sExpr at h
  cases q : m env st with
  | ok d st1 => rw [q] at h; exact fun rho1 H1 e1 w1 v rv => h sg rho1 H1 e1 w1 (re.ext e1)
  | exc c st1 => rw [q] at h; exact fun rho1 H1 e1 w1 => h sg rho1 H1 e1 w1 (re.ext e1)
  | stuck => rw [q] at h; exact h
theorem ps_retM (he : PE X e (tE X.K cls W m)) : PS X (.Return (some e) pos) (tS X.K cls W (sRet m)) := by
  refine PS.weak (ps_ret he) fun E sg H h => ?_
  obtain ⟨rho, env, st, w, re, h⟩ := h
  refine ⟨rho, env, st, w, re, ?_⟩
  unfold sRet at h
  cases q : m env st with
  | ok d st1 => rw [q] at h; exact fun rho1 H1 e1 w1 v rv => h v rho1 H1 e1 w1 rv
  | exc c st1 => rw [q] at h; exact fun rho1 H1 e1 w1 => h sg rho1 H1 e1 w1 (re.ext e1)
  | stuck => rw [q] at h; exact h
theorem tS_asg {K : PySem.W.Frag} {vs : List Nat} {g : MG} {E : Ends} {sg : L2.St} {H : Hp} (h : tS K cls W (sAsg m g) E sg H) : tAsg (tE K cls W m) (tGm K vs g) E sg H := by
  obtain ⟨rho, env, st, w, re, h⟩ := h
  refine ⟨rho, env, st, w, re, ?_⟩
  unfold sAsg at h
  cases q : m env st with
  | ok d st1 =>
    rw [q] at h
    intro rho1 H1 e1 w1 v rv
    cases q2 : g d env with
    | none => simp only [q2] at h; exact h.elim
    | some env2 =>
      simp only [q2] at h
      exact ⟨rho1, env, st1, d, env2, w1, re.ext e1, rv, q2, fun sg' re' _ _ => h sg' rho1 H1 e1 w1 re'⟩
  | exc c st1 => rw [q] at h; exact fun rho1 H1 e1 w1 => h sg rho1 H1 e1 w1 (re.ext e1)
  | stuck => rw [q] at h; exact h
theorem ps_setM {i : Nat} {x : Str} {p : Pos} (hN : X.N.Nodup) (hi : X.N[i]? = some x) (hx : Loc X.env.scope x) (hf : X.fn x = true ∨ X.env.scope.names.lookup x = some .local) (he : PE X e (tE X.K cls W m)) (hs : swapsWith e (some (.Name x p)) pos.line X.env = pure false) :
    PS X (.Assign [.Name x p] e pos) (tS X.K cls W (sAsg m (gVar i))) := by
  refine PS.weak (ps_set hN hi hx he hs hf) fun E sg H h => ?_
  have h' := tS_asg (vs := [i]) h
  obtain ⟨rho, env, st, w, re, h'⟩ := h'
  refine ⟨rho, env, st, w, re, OkR.mono h' fun d st1 rho1 H1 e1 w1 h1 v rv => ?_⟩
  obtain ⟨rho2, env2, st2, d2, env3, w2, re2, rd2, eg, h2⟩ := h1 v rv
  cases eg
  exact h2 _ (re2.set rd2 i) (by simp) fun j hj => by rw [List.getElem?_set_ne (fun z => hj (by simp [z]))]
theorem ps_tupM {es : List Expr} {is : List Nat} {k : Nat} {p : Pos} (hc : X.calm = true) (hN : X.N.Nodup) (n : NamesAt X es is) (he : PE X e (tE X.K cls W m)) (hs : noComp e = true) (ht : noTuple e = true) : PS X (.Assign [.Tuple es k p] e pos) (tS X.K cls W (sAsg m (gTupV is))) := by
  refine PS.weak (ps_asg he (pg_tupM (pos := p) (k := k) hc hN n) (by unfold swapsWithSole; exact swaps_no hs) ?_ rfl) fun E sg H h => tS_asg h
  cases e <;> first | rfl | cases ht
theorem ps_ifM {c : Expr} {mc : ME} {ss ts : List Stmt} {a b : MS} (hc : PT X c (tTm X.K cls W mc)) (ha : PSs X ss (tS X.K cls W a)) (hb : PSs X ts (tS X.K cls W b)) : PS X (.If c ss ts pos) (tS X.K cls W (sIf mc a b)) := by
  refine PS.weak (ps_if hc ha hb) fun E sg H h => ?_
  obtain ⟨rho, env, st, w, re, h⟩ := h
  refine ⟨rho, env, st, w, re, ?_⟩
  unfold sIf at h
  cases q : mT mc env st with
  | ok k st1 =>
    rw [q] at h
    intro rho1 H1 e1 w1
    cases k with
    | true => rw [if_pos rfl]; exact ⟨rho1, env, st1, w1, re.ext e1, OkS.from h e1⟩
    | false => rw [if_neg (by simp)]; exact ⟨rho1, env, st1, w1, re.ext e1, OkS.from h e1⟩
  | exc c st1 => rw [q] at h; exact fun rho1 H1 e1 w1 => h sg rho1 H1 e1 w1 (re.ext e1)
  | stuck => rw [q] at h; exact h
theorem ps_whileM {c : Expr} {mc : ME} {ss : List Stmt} {b : MS} {n : Nat} (hp : PassesOwn (model X.prog X.w) X.A X.env X.xe) (hc : PT X c (tTm X.K cls W mc)) (hb : PSs X ss (tS X.K cls W b)) : PS X (.While c ss [] pos) (tS X.K cls W (sWhile mc b n)) := by
  refine PS.weak (ps_while hp hc hb) fun E sg H h => ?_
  obtain ⟨rho, env, st, w, re, h⟩ := h
  refine ⟨fun k sg' H' => ∃ rho' env' st', Wld X.K rho' st' H' ∧ RelEnv X.K rho' H' env' sg' ∧ OkS X.K cls W rho' H' (sWhile mc b k env' st') E, ⟨n, rho, env, st, w, re, h⟩, ?_⟩
  rintro k sg1 H1 ⟨rho1, env1, st1, w1, re1, h1⟩
  cases k with
  | zero => exact h1.elim
  | succ k =>
    refine ⟨rho1, env1, st1, w1, re1, ?_⟩
    unfold sWhile at h1
    cases q : mT mc env1 st1 with
    | ok kk st2 =>
      rw [q] at h1
      intro rho2 H2 e2 w2
      cases kk with
      | true =>
        rw [if_pos rfl]
        refine ⟨fun sg' H' => ∃ rho' env' st', Wld X.K rho' st' H' ∧ RelEnv X.K rho' H' env' sg' ∧ OkS X.K cls W rho' H' (sWhile mc b k env' st') E, fun sg' H' q => ⟨k, Nat.lt_succ_self k, q⟩, rho2, env1, st2, w2, re1.ext e2, ?_⟩
        simp only at h1
        cases q2 : b env1 st2 with
        | nx env3 st3 => rw [q2] at h1; exact fun sg3 rho3 H3 e3 w3 re3 => ⟨rho3, env3, st3, w3, re3, OkS.from h1 (e2.trans e3)⟩
        | ct env3 st3 => rw [q2] at h1; exact fun sg3 rho3 H3 e3 w3 re3 => ⟨rho3, env3, st3, w3, re3, OkS.from h1 (e2.trans e3)⟩
        | bk env3 st3 => rw [q2] at h1; exact fun sg3 rho3 H3 e3 w3 re3 => h1 sg3 rho3 H3 (e2.trans e3) w3 re3
        | rt d st3 => rw [q2] at h1; exact fun v rho3 H3 e3 w3 rv => h1 v rho3 H3 (e2.trans e3) w3 rv
        | exc x env3 st3 => rw [q2] at h1; exact fun sg3 rho3 H3 e3 w3 re3 => h1 sg3 rho3 H3 (e2.trans e3) w3 re3
        | stuck => rw [q2] at h1; exact h1
      | false =>
        rw [if_neg (by simp)]
        exact h1 sg1 rho2 H2 e2 w2 (re1.ext e2)
    | exc c st2 => rw [q] at h1; exact fun rho2 H2 e2 w2 => h1 sg1 rho2 H2 e2 w2 (re1.ext e2)
    | stuck => rw [q] at h1; exact h1
theorem folded_no {iter : Expr} {env : Env} (h : noSet iter = true) : ∀ x, foldedSetIterable iter env x = pure x := by
  intro x
  cases iter <;> first | rfl | cases h
theorem ps_forM {ss : List Stmt} {mi : MIt} {g : MG} {vs : List Nat} {b : MS} (hp : PassesOwn (model X.prog X.w) X.A X.env X.xe) (hc : X.calm = true) (hs : noSet iter = true) (hi : PI X tg iter (tIm X.K cls W mi)) (hg : PG X tg (tGm X.K vs g)) (hb : PSs X ss (tS X.K cls W b)) :
    PS X (.For tg iter ss [] pos) (tS X.K cls W (sFor mi g b)) := by
  refine PS.weak (ps_for hp hc hi hg hb (folded_no hs)) fun E sg H h => ?_
  obtain ⟨rho, env, st, w, re, h⟩ := h
  refine ⟨rho, env, st, w, re, ?_⟩
  unfold sFor at h
  cases q : mi env st with
  | stuck => rw [q] at h; exact h
  | exc c st1 => rw [q] at h; exact fun rho1 H1 e1 w1 => h sg rho1 H1 e1 w1 (re.ext e1)
  | ok s st1 =>
    rw [q] at h
    intro rho1 H1 e1 w1 J P it hP hold
    refine ⟨fun i k sg' H' => ∃ rho' env' st', Wld X.K rho' st' H' ∧ RelEnv X.K rho' H' env' sg' ∧ P rho' H' ∧ s.holds st' ∧ k = s.items.length - i ∧ i ≤ s.items.length ∧ OkS X.K cls W rho' H' (forGo s g b (s.items.drop i) env' st') E,
      ⟨_, rho1, env, st1, w1, re.ext e1, hP, hold, rfl, Nat.zero_le _, by rw [List.drop_zero]; exact OkS.from h e1⟩, ?_⟩
    rintro i k sg2 H2 ⟨rho2, env2, st2, w2, re2, hP2, hold2, rfl, hle, ho⟩
    by_cases hlt : i < s.items.length
    · have hd : s.items[i]? = some s.items[i] := List.getElem?_eq_getElem hlt
      have edrop : s.items.drop i = s.items[i] :: s.items.drop (i + 1) := List.drop_eq_getElem_cons hlt
      rw [edrop] at ho
      unfold forGo at ho
      refine .inr ⟨it.go i _ rho2 st2 H2 w2 hP2 hold2 hd, fun sg' H' => ∃ rho' env' st', Wld X.K rho' st' H' ∧ RelEnv X.K rho' H' env' sg' ∧ P rho' H' ∧ s.holds st' ∧ OkS X.K cls W rho' H' (forGo s g b (s.items.drop (i + 1)) env' st') E, fun sg' H' ⟨r', v', t', a1, a2, a3, a4, a5⟩ => ⟨s.items.length - (i + 1), by omega, r', v', t', a1, a2, a3, a4, rfl, hlt, a5⟩, fun x H3 y => ?_⟩
      obtain ⟨e3, w3, rd⟩ := it.yld i _ rho2 st2 H2 x H3 w2 hP2 hold2 hd y
      have hP3 := it.stab _ _ _ _ hP2 e3
      cases q2 : g s.items[i] env2 with
      | none => rw [q2] at ho; exact ho.elim
      | some env3 =>
        rw [q2] at ho
        refine ⟨rho2, env2, st2, _, env3, w3, re2.ext e3, rd, q2, fun sg3 re3 _ _ => ⟨rho2, env3, st2, w3, re3, ?_⟩⟩
        simp only at ho
        cases q3 : b env3 st2 with
        | nx env4 st4 =>
          rw [q3] at ho
          simp only at ho
          split at ho
          · rename_i hh
            exact fun sg4 rho4 H4 e4 w4 re4 => ⟨rho4, env4, st4, w4, re4, it.stab _ _ _ _ hP3 e4, hh, OkS.from ho (e3.trans e4)⟩
          · exact ho.elim
        | ct env4 st4 =>
          rw [q3] at ho
          simp only at ho
          split at ho
          · rename_i hh
            exact fun sg4 rho4 H4 e4 w4 re4 => ⟨rho4, env4, st4, w4, re4, it.stab _ _ _ _ hP3 e4, hh, OkS.from ho (e3.trans e4)⟩
          · exact ho.elim
        | bk env4 st4 => rw [q3] at ho; exact fun sg4 rho4 H4 e4 w4 re4 => ho sg4 rho4 H4 (e3.trans e4) w4 re4
        | rt d st4 => rw [q3] at ho; exact fun v rho4 H4 e4 w4 rv => ho v rho4 H4 (e3.trans e4) w4 rv
        | exc x env4 st4 => rw [q3] at ho; exact fun sg4 rho4 H4 e4 w4 re4 => ho sg4 rho4 H4 (e3.trans e4) w4 re4
        | stuck => rw [q3] at ho; exact ho
    · have ei : i = s.items.length := by omega
      have edrop : s.items.drop i = [] := by rw [ei]; exact List.drop_length
      rw [edrop] at ho
      exact .inl ⟨it.stop i rho2 st2 H2 w2 hP2 hold2 (by omega), ho sg2 rho2 H2 (Ext.refl _ _) w2 re2⟩
/-! ### comprehensions -/
/-- nothing may be raised -/
abbrev WF : WX := fun _ _ _ _ => False
theorem OkR.noexc {α : Type} {K : PySem.W.Frag} {sg : L2.St} {rho : Rho} {H : Hp} {r : R α} {P : α → Sto → Rho → Hp → Prop} (a : α) (st : Sto) (e : r = .ok a st) (h : ∀ rho' H', Ext rho H rho' H' → Wld K rho' st H' → P a st rho' H') : OkR K cls W sg rho H r P := by
  subst e
  exact h
end
end MI
/-! MiI: comprehensions. -/
namespace MI
open PySem PySem.Spec PyProof.Rows L2
theorem wipe_out {vs : List Nat} {s : L2.St} {j : Nat} (hj : j ∉ vs) : (wipe s vs)[j]? = s[j]? := by
  induction vs with
  | nil => rfl
  | cons u us ih =>
    unfold L2.wipe
    rw [List.getElem?_set_ne (fun e => hj (by rw [e]; exact List.mem_cons_self))]
    exact ih fun z => hj (List.mem_cons_of_mem _ z)
theorem wipe_wipe {vs : List Nat} {s : L2.St} : wipe (wipe s vs) vs = wipe s vs := wipe_same (wipe_length s vs) fun j hj => wipe_out hj
/-- seen from outside the comprehension -/
theorem Ext.inner {r1 r2 r4 : Rho} {H1 H2 H4 : Hp} {p : Addr} (hp : H1 p = none) (hr : r2.res = p :: r1.res) (a : Ext r1 H1 (r2.show_ r1.res) H2) (b : Ext r2 H2 r4 H4) : Ext r1 H1 (r4.show_ r1.res) H4 := by
  refine ⟨?_, rfl, fun c o h n => ?_, fun c o h n => b.kres c o (a.kres c o h n) (by rw [hr]; exact List.mem_cons_of_mem _ n), fun c xs h => b.tup c xs (a.tup c xs h), fun c o u h => b.frz c o u (a.frz c o u h), fun c o h => ?_⟩
  · obtain ⟨n1, e1, h1⟩ := a.new
    obtain ⟨n2, e2, h2⟩ := b.new
    have e1' : r2.loc = r1.loc ++ n1 := e1
    refine ⟨n1 ++ n2, by show r4.loc = _; rw [e2, e1', List.append_assoc], fun c hc => ?_⟩
    rcases List.mem_append.mp hc with hc | hc
    · exact h1 c hc
    · exact a.none_of (h2 c hc)
  · have n2 := a.notMem h n
    refine b.keep c o (a.keep c o h n) fun z => ?_
    rcases z with z | z
    · exact n2 (.inl z)
    · rw [hr] at z
      rcases List.mem_cons.mp z with z | z
      · subst z; rw [hp] at h; cases h
      · exact n2 (.inr z)
  · obtain ⟨o1, h1⟩ := a.liv c o h
    exact b.liv c o1 h1
theorem Ext.over {r1 r : Rho} {H1 H4 : Hp} {p : Addr} {o : HO} (hp : H1 p = none) (a : Ext r1 H1 r H4) : Ext r1 H1 r (upd H4 p o) := by
  have ne : ∀ {c : Addr} {u : HO}, H1 c = some u → c ≠ p := fun h z => by subst z; rw [hp] at h; cases h
  exact ⟨a.new, a.res, fun c u h n => by rw [upd_ne (ne h)]; exact a.keep c u h n, fun c u h n => by rw [upd_ne (ne h)]; exact a.kres c u h n, fun c xs h => by rw [upd_ne (ne h)]; exact a.tup c xs h,
    fun c x u h => by rw [upd_ne (ne h)]; exact a.frz c x u h, fun c u h => by rw [upd_ne (ne h)]; exact a.liv c u h⟩
/-- the hidden list joins the store -/
def Rho.join (r : Rho) (p : Addr) (res : List Addr) : Rho := ⟨r.loc ++ [p], res⟩
mutual
theorem RelD.join {K : PySem.W.Frag} {rho : Rho} {H : Hp} {p : Addr} {res : List Addr} (hr : rho.res = p :: res) : ∀ {d : D} {v : V}, RelD K rho H d v → RelD K (rho.join p res) H d v
  | _, _, .non => .non
  | _, _, .bl b => .bl b
  | _, _, .int i => .int i
  | _, _, .str x => .str x
  | _, _, .tup q r => .tup q (RelDs.join hr r)
  | _, _, .lst q n r => .lst q (fun z => n (by
      rcases z with z | z
      · rcases List.mem_append.mp z with z | z
        · exact .inl z
        · exact .inr (by rw [hr, List.mem_singleton.mp z]; exact List.mem_cons_self)
      · exact .inr (by rw [hr]; exact List.mem_cons_of_mem _ z))) (RelDs.join hr r)
  | _, _, .fz q r => .fz q (RelDs.join hr r)
  | _, _, .dic q n r => .dic q (fun z => n (by
      rcases z with z | z
      · rcases List.mem_append.mp z with z | z
        · exact .inl z
        · exact .inr (by rw [hr, List.mem_singleton.mp z]; exact List.mem_cons_self)
      · exact .inr (by rw [hr]; exact List.mem_cons_of_mem _ z))) (RelK.join hr r)
  | _, _, .ref q => .ref (by
      obtain ⟨hl, _⟩ := List.getElem?_eq_some_iff.mp q
      show (rho.loc ++ [p])[_]? = _
      rw [List.getElem?_append_left hl]
      exact q)
theorem RelDs.join {K : PySem.W.Frag} {rho : Rho} {H : Hp} {p : Addr} {res : List Addr} (hr : rho.res = p :: res) : ∀ {ds : List D} {vs : List V}, RelDs K rho H ds vs → RelDs K (rho.join p res) H ds vs
  | _, _, .nil => .nil
  | _, _, .cons q t => .cons (RelD.join hr q) (RelDs.join hr t)
theorem RelK.join {K : PySem.W.Frag} {rho : Rho} {H : Hp} {p : Addr} {res : List Addr} (hr : rho.res = p :: res) : ∀ {ds : List (Key × D)} {vs : List (Key × V)}, RelK K rho H ds vs → RelK K (rho.join p res) H ds vs
  | _, _, .nil => .nil
  | _, _, .cons q t => .cons (RelD.join hr q) (RelK.join hr t)
end
theorem Wld.join {K : PySem.W.Frag} {rho : Rho} {st : Sto} {H : Hp} (w : Wld K rho st H) {p : Addr} {res : List Addr} (hr : rho.res = p :: res) (hp : p ∉ res) {ds : List D} {vs : List V} (h : H p = some (.lst vs)) (r : RelDs K rho H ds vs) : Wld K (rho.join p res) (st ++ [.lst ds]) H := by
  have pl : p ∉ rho.loc := fun z => w.dis p z (by rw [hr]; exact List.mem_cons_self)
  refine ⟨by simp [Rho.join, w.len], ?_, fun l a u h1 h2 => ?_, fun a ha z => ?_, fun b hb => w.rsv b (by rw [hr]; exact List.mem_cons_of_mem _ hb)⟩
  · show (rho.loc ++ [p]).Nodup
    rw [List.nodup_append]
    exact ⟨w.nd, by simp, fun a ha b hb => by rw [List.mem_singleton.mp hb]; exact fun e => pl (e ▸ ha)⟩
  · have h1' : (rho.loc ++ [p])[l]? = some a := h1
    by_cases hl : l < rho.loc.length
    · rw [List.getElem?_append_left hl] at h1'
      rw [List.getElem?_append_left (by rw [← w.len]; exact hl)] at h2
      have q := w.obj l a u h1' h2
      cases u with
      | lst ds => obtain ⟨vs, q, r⟩ := q; exact ⟨vs, q, r.join hr⟩
      | dic ds => obtain ⟨vs, q, r⟩ := q; exact ⟨vs, q, r.join hr⟩
    · obtain ⟨hl2, _⟩ := List.getElem?_eq_some_iff.mp h1'
      have e : l = rho.loc.length := by simp at hl2; omega
      subst e
      rw [List.getElem?_append_right (Nat.le_refl _)] at h1'
      rw [w.len, List.getElem?_append_right (Nat.le_refl _)] at h2
      simp at h1' h2
      subst h1' h2
      exact ⟨vs, h, r.join hr⟩
  · rcases List.mem_append.mp ha with ha | ha
    · exact w.dis a ha (by rw [hr]; exact List.mem_cons_of_mem _ z)
    · rw [List.mem_singleton.mp ha] at z
      exact hp z
section
variable {X : Cx} {cls : Nat → Value} {W : WX} {pos : Pos} {tg elt iter : Expr} {me : ME}
def tCm (K : PySem.W.Frag) (cls : Nat → Value) (c : Option ME) : TT := match c with
  | none => tYes
  | some c => tTm K cls WF c
/-- what the walk of a comprehension leaves -/
theorem lc_go {K : PySem.W.Frag} {s : Src} {g : MG} {c : Option ME} {env : DEnv} {vs : List Nat} {sg : L2.St} {rho1 : Rho} {H1 : Hp} {st1 stf : Sto} {ys : List D} {J : It} {P : Rho → Hp → Prop} {D0 : Addr} {Qd : Hp → Prop}
    (it : ItOk K J s P) (w1 : Wld K rho1 st1 H1) (re : RelEnv K rho1 H1 env sg) (hP : P rho1 H1) (hold : s.holds st1) (hD : H1 D0 = none) (hgo : compGo s g c me (wipeD env vs) s.items st1 = .ok ys stf) (hz : ys.length ≤ sizeLine)
    (fin : ∀ rho2 H2 accV, rho2.res = D0 :: rho1.res → Ext rho1 H1 (rho2.show_ rho1.res) H2 → Wld K rho2 stf H2 → H2 D0 = some (.lst accV) → RelDs K rho2 H2 ys accV → Qd H2) :
    ∃ W : Nat → Nat → Hp → Prop, (∃ m, W 0 m (upd H1 D0 (.lst []))) ∧ ∀ i m H, W i m H →
      (J.stop i H ∧ Qd H) ∨ (J.go i H ∧ ∃ Nx : Hp → Prop, (∀ H', Nx H' → ∃ m', m' < m ∧ W (i + 1) m' H') ∧ ∀ x H', J.yld i H x H' → tGm K vs g x (wipe sg vs) H' fun sg2 H2 => wipe sg2 vs = wipe sg vs ∧ tCm K cls c sg2 H2 fun b H3 =>
        if b = true then tE K cls WF me sg2 H3 fun y H4 => ∃ acc, H4 D0 = some (.lst acc) ∧ acc.length < sizeLine ∧ Nx (upd H4 D0 (.lst (acc ++ [y]))) else Nx H3) := by
  refine ⟨fun i m H2 => ∃ rho2 st2 acc accV rest, rho2.res = D0 :: rho1.res ∧ Ext rho1 H1 (rho2.show_ rho1.res) H2 ∧ Wld K rho2 st2 H2 ∧ P rho2 H2 ∧ s.holds st2 ∧ H2 D0 = some (.lst accV) ∧ RelDs K rho2 H2 acc accV ∧ RelEnv K rho2 H2 (wipeD env vs) (wipe sg vs) ∧
      compGo s g c me (wipeD env vs) (s.items.drop i) st2 = .ok rest stf ∧ acc ++ rest = ys ∧ m = s.items.length - i ∧ i ≤ s.items.length, ?_, ?_⟩
  · refine ⟨_, rho1.hide D0, st1, [], [], ys, rfl, ?_, w1.hide hD (.lst []) trivial, it.hide _ _ _ _ hP hD, hold, upd_same, .nil, ?_, by rw [List.drop_zero]; exact hgo, rfl, rfl, Nat.zero_le _⟩
    · exact w1.extTmp hD _
    · have r := re.wipe vs
      exact ⟨r.len, fun i d h => let ⟨v, h1, h2⟩ := r.at_ i d h; ⟨v, h1, h2.hide hD⟩⟩
  · rintro i m H2 ⟨rho2, st2, acc, accV, rest, hr, ex, w2, hP2, hold2, hD2, racc, renv, hg2, eys, rfl, hle⟩
    have D0r : D0 ∈ rho2.res := by rw [hr]; exact List.mem_cons_self
    by_cases hlt : i < s.items.length
    · have hd : s.items[i]? = some s.items[i] := List.getElem?_eq_getElem hlt
      have edrop : s.items.drop i = s.items[i] :: s.items.drop (i + 1) := List.drop_eq_getElem_cons hlt
      rw [edrop] at hg2
      unfold compGo at hg2
      refine .inr ⟨it.go i _ rho2 st2 H2 w2 hP2 hold2 hd, fun H' => ∃ rho2 st2 acc accV rest, rho2.res = D0 :: rho1.res ∧ Ext rho1 H1 (rho2.show_ rho1.res) H' ∧ Wld K rho2 st2 H' ∧ P rho2 H' ∧ s.holds st2 ∧ H' D0 = some (.lst accV) ∧ RelDs K rho2 H' acc accV ∧ RelEnv K rho2 H' (wipeD env vs) (wipe sg vs) ∧
        compGo s g c me (wipeD env vs) (s.items.drop (i + 1)) st2 = .ok rest stf ∧ acc ++ rest = ys, fun H' ⟨a1, a2, a3, a4, a5, b1, b2, b3, b4, b5, b6, b7, b8, b9, b10⟩ => ⟨s.items.length - (i + 1), by omega, a1, a2, a3, a4, a5, b1, b2, b3, b4, b5, b6, b7, b8, b9, b10, rfl, hlt⟩, fun x H3 y => ?_⟩
      obtain ⟨e3, w3, rd⟩ := it.yld i _ rho2 st2 H2 x H3 w2 hP2 hold2 hd y
      cases q2 : g s.items[i] (wipeD env vs) with
      | none => rw [q2] at hg2; cases hg2
      | some env3 =>
        simp only [q2] at hg2
        refine ⟨rho2, wipeD env vs, st2, _, env3, w3, renv.ext e3, rd, q2, fun sg3 re3 hl3 hk3 => ⟨?_, ?_⟩⟩
        · rw [wipe_same hl3 hk3, wipe_wipe]
        · -- the test, then the element
          have body : ∀ (st4 : Sto) (rho4 : Rho) (H4 : Hp), Ext rho2 H2 rho4 H4 → Wld K rho4 st4 H4 → RelEnv K rho4 H4 env3 sg3 →
              (match me env3 st4 with | .ok y st => if s.holds st then (match compGo s g c me (wipeD env vs) (s.items.drop (i + 1)) st with | .ok ys st => R.ok (y :: ys) st | _ => .stuck) else .stuck | _ => .stuck) = R.ok rest stf →
              tE K cls WF me sg3 H4 fun y H5 => ∃ acc, H5 D0 = some (.lst acc) ∧ acc.length < sizeLine ∧ ∃ rho2 st2 acc' accV rest, rho2.res = D0 :: rho1.res ∧ Ext rho1 H1 (rho2.show_ rho1.res) (upd H5 D0 (.lst (acc ++ [y]))) ∧ Wld K rho2 st2 (upd H5 D0 (.lst (acc ++ [y]))) ∧ P rho2 (upd H5 D0 (.lst (acc ++ [y]))) ∧ s.holds st2 ∧ (upd H5 D0 (.lst (acc ++ [y]))) D0 = some (.lst accV) ∧ RelDs K rho2 (upd H5 D0 (.lst (acc ++ [y]))) acc' accV ∧ RelEnv K rho2 (upd H5 D0 (.lst (acc ++ [y]))) (wipeD env vs) (wipe sg vs) ∧
                compGo s g c me (wipeD env vs) (s.items.drop (i + 1)) st2 = .ok rest stf ∧ acc' ++ rest = ys := by
            intro st4 rho4 H4 e4 w4 re4 hm
            refine ⟨rho4, env3, st4, w4, re4, ?_⟩
            cases q4 : me env3 st4 with
            | exc c5 st5 => rw [q4] at hm; cases hm
            | stuck => rw [q4] at hm; cases hm
            | ok yd st5 =>
              simp only [q4] at hm
              split at hm
              · rename_i hh
                cases q5 : compGo s g c me (wipeD env vs) (s.items.drop (i + 1)) st5 with
                | exc c6 st6 => rw [q5] at hm; cases hm
                | stuck => rw [q5] at hm; cases hm
                | ok rest' st6 =>
                  rw [q5] at hm
                  simp only [R.ok.injEq] at hm
                  obtain ⟨erest, rfl⟩ := hm
                  intro rho5 H5 e5 w5 v rv
                  have e25 : Ext rho2 H2 rho5 H5 := e4.trans e5
                  have hD5 : H5 D0 = some (.lst accV) := e25.kres D0 _ hD2 D0r
                  have hr5 : rho5.res = D0 :: rho1.res := by rw [e25.res]; exact hr
                  have D0r5 : D0 ∈ rho5.res := by rw [hr5]; exact List.mem_cons_self
                  have la : acc.length = accV.length := racc.length
                  refine ⟨accV, hD5, ?_, rho5, st5, acc ++ [yd], accV ++ [v], rest', hr5, (Ext.inner hD hr ex e25).over hD, w5.grow D0r5 hD5 trivial trivial, it.grow _ _ _ _ _ D0r5 hD5 (it.stab _ _ _ _ hP2 e25), hh, upd_same, ?_, ?_, q5, ?_⟩
                  · have : ys.length = acc.length + rest.length := by rw [← eys, List.length_append]
                    rw [← erest, List.length_cons] at this
                    omega
                  · exact ((racc.ext e25).append (.cons rv .nil)).grow D0r5 hD5 trivial
                  · have r5 := renv.ext e25
                    exact ⟨r5.len, fun i d h => let ⟨v, h1, h2⟩ := r5.at_ i d h; ⟨v, h1, h2.grow D0r5 hD5 trivial⟩⟩
                  · rw [← eys, ← erest, List.append_assoc]; rfl
              · cases hm
          cases c with
          | none =>
            simp only [tCm, tYes, if_true]
            exact body st2 rho2 H3 e3 w3 re3 hg2
          | some c =>
            refine ⟨rho2, env3, st2, w3, re3, ?_⟩
            simp only at hg2
            cases q4 : mT c env3 st2 with
            | exc c5 st5 => rw [q4] at hg2; cases hg2
            | stuck => rw [q4] at hg2; cases hg2
            | ok kk st4 =>
              rw [q4] at hg2
              intro rho4 H4 e4 w4
              cases kk with
              | true =>
                rw [if_pos rfl]
                exact body st4 rho4 H4 (e3.trans e4) w4 (re3.ext e4) hg2
              | false =>
                rw [if_neg (by simp)]
                simp only at hg2
                split at hg2
                · rename_i hh
                  have e24 : Ext rho2 H2 rho4 H4 := e3.trans e4
                  exact ⟨rho4, st4, acc, accV, rest, by rw [e24.res]; exact hr, Ext.inner hD hr ex e24, w4, it.stab _ _ _ _ hP2 e24, hh, e24.kres D0 _ hD2 D0r, racc.ext e24, renv.ext e24, hg2, eys⟩
                · cases hg2
    · have ei : i = s.items.length := by omega
      have edrop : s.items.drop i = [] := by rw [ei]; exact List.drop_length
      rw [edrop] at hg2
      unfold compGo at hg2
      cases hg2
      rw [List.append_nil] at eys
      subst eys
      exact .inl ⟨it.stop i rho2 _ H2 w2 hP2 hold2 (by omega), fin rho2 H2 accV hr ex w2 hD2 racc⟩
theorem tE_lc {K : PySem.W.Frag} {mi : MIt} {g : MG} {c : Option ME} {vs : List Nat} {sg : L2.St} {H : Hp} {Q : VK} (h : tE K cls W (mComp mi vs g c me) sg H Q) : tLc (tIm K cls W mi) (tGm K vs g) (tCm K cls c) (tE K cls WF me) vs sg H Q := by
  obtain ⟨rho, env, st, w, re, h⟩ := h
  refine ⟨rho, env, st, w, re, ?_⟩
  unfold mComp at h
  cases q : mi env st with
  | exc c1 st1 => rw [q] at h; exact h
  | stuck => rw [q] at h; exact h
  | ok s st1 =>
    rw [q] at h
    simp only [R.bind_ok] at h
    intro rho1 H1 e1 w1 J P it hP hold D0 hD
    cases q2 : compGo s g c me (wipeD env vs) s.items st1 with
    | exc c1 st1 => rw [q2] at h; exact h.elim
    | stuck => rw [q2] at h; exact h.elim
    | ok ys stf =>
      rw [q2] at h
      simp only at h
      split at h
      · rename_i hz
        refine lc_go it w1 (re.ext e1) hP hold hD q2 hz fun rho2 H2 accV hr ex w2 hD2 racc => ?_
        have hsub : ∀ b ∈ rho1.res, b ∈ rho2.res := fun b hb => by rw [hr]; exact List.mem_cons_of_mem _ hb
        refine h (rho2.show_ rho1.res) H2 (e1.trans ex) (w2.show_ hsub) _ (.lst hD2 (fun z => ?_) (racc.show_ hsub))
        rcases z with z | z
        · exact w2.dis D0 z (by rw [hr]; exact List.mem_cons_self)
        · exact w1.fresh hD (.inr z)
      · exact h.elim
theorem tE_lcN {K : PySem.W.Frag} {mi : MIt} {g : MG} {c : Option ME} {vs : List Nat} {sg : L2.St} {H : Hp} {Q : VK} (h : tE K cls W (mCompN mi vs g c me) sg H Q) : tLc (tIm K cls W mi) (tGm K vs g) (tCm K cls c) (tE K cls WF me) vs sg H Q := by
  obtain ⟨rho, env, st, w, re, h⟩ := h
  refine ⟨rho, env, st, w, re, ?_⟩
  unfold mCompN at h
  cases q : mi env st with
  | exc c1 st1 => rw [q] at h; exact h
  | stuck => rw [q] at h; exact h
  | ok s st1 =>
    rw [q] at h
    simp only [R.bind_ok] at h
    intro rho1 H1 e1 w1 J P it hP hold D0 hD
    cases q2 : compGo s g c me (wipeD env vs) s.items st1 with
    | exc c1 st1 => rw [q2] at h; exact h.elim
    | stuck => rw [q2] at h; exact h.elim
    | ok ys stf =>
      rw [q2] at h
      simp only at h
      split at h
      · rename_i hz
        refine lc_go it w1 (re.ext e1) hP hold hD q2 hz fun rho2 H2 accV hr ex w2 hD2 racc => ?_
        have D0n : D0 ∉ rho1.res := fun z => w1.fresh hD (.inr z)
        refine h (rho2.join D0 rho1.res) H2 (e1.trans ⟨?_, rfl, ex.keep, ex.kres, ex.tup, ex.frz, ex.liv⟩) (w2.join hr D0n hD2 racc) _ (.ref ?_)
        · obtain ⟨n, en, hn⟩ := ex.new
          have en' : rho2.loc = rho1.loc ++ n := en
          refine ⟨n ++ [D0], by show rho2.loc ++ [D0] = _; rw [en', List.append_assoc], fun b hb => ?_⟩
          rcases List.mem_append.mp hb with hb | hb
          · exact hn b hb
          · rw [List.mem_singleton.mp hb]; exact hD
        · show (rho2.loc ++ [D0])[stf.length]? = some D0
          rw [← w2.len]
          simp
      · exact h.elim
/-- what a comprehension is made of -/
structure LcOk (X : Cx) (cls : Nat → Value) (W : WX) (elt tg iter : Expr) (ifs : List Expr) (scope : Scope) (vs : List Nat) (mi : MIt) (g : MG) (c : Option ME) (me : ME) : Prop where
  hc : X.calm = true
  hN : X.N.Nodup
  hs : noSet iter = true
  hi : PI X tg iter (tIm X.K cls W mi)
  ok : ∃ own : List (Str × Nat), own.map (·.2) = vs ∧ BlkOk X.N X.env.scope scope own
  hg : ∀ (s : Shared) (H : Hp) (C : Addr) (cl : List (Str × Addr)) (fp : List Addr), PG (X.blk s H scope (compEnvC scope cl C X.env) fp) tg (tGm X.K vs g)
  ht : ∀ (s : Shared) (H : Hp) (C : Addr) (cl : List (Str × Addr)) (fp : List Addr), PTs (X.blk s H scope (compEnvC scope cl C X.env) fp) ifs (tCm X.K cls c)
  he : ∀ (s : Shared) (H : Hp) (C : Addr) (cl : List (Str × Addr)) (fp : List Addr), PE (X.blk s H scope (compEnvC scope cl C X.env) fp) elt (tE X.K cls WF me)
theorem LcOk.pe {ifs : List Expr} {scope : Scope} {vs : List Nat} {mi : MIt} {g : MG} {c : Option ME} (L : LcOk X cls W elt tg iter ifs scope vs mi g c me) (n : Bool) : PE X (.ListComp elt [⟨tg, iter, ifs, 0⟩] scope pos) (tE X.K cls W (if n then mCompN mi vs g c me else mComp mi vs g c me)) := by
  obtain ⟨own, rfl, ok⟩ := L.ok
  refine PE.weak (pe_lc L.hc L.hN L.hi ok L.hg L.ht L.he (folded_no L.hs)) fun sg H Q h => ?_
  cases n with
  | true => exact tE_lcN h
  | false => exact tE_lc h
theorem LcOk.set {ifs : List Expr} {scope : Scope} {vs : List Nat} {mi : MIt} {g : MG} {c : Option ME} (L : LcOk X cls W elt tg iter ifs scope vs mi g c me) (n : Bool) {i : Nat} {y : Str} {py spos : Pos} (hy : X.N[i]? = some y) (hyl : X.env.scope.names.lookup y = some .local)
    (hsw : swapsWith (.ListComp elt [⟨tg, iter, ifs, 0⟩] scope pos) (some (.Name y py)) spos.line X.env = pure true) : PS X (.Assign [.Name y py] (.ListComp elt [⟨tg, iter, ifs, 0⟩] scope pos) spos) (tS X.K cls W (sAsg (if n then mCompN mi vs g c me else mComp mi vs g c me) (gVar i))) := by
  obtain ⟨own, rfl, ok⟩ := L.ok
  refine PS.weak (ps_setLc L.hc L.hN hy hyl hsw L.hi ok L.hg L.ht L.he (folded_no L.hs)) fun E sg H h => ?_
  have h' := tS_asg (vs := [i]) h
  have go : ∀ x H1, tGm X.K [i] (gVar i) x sg H1 E.nx → gName i x sg H1 E.nx := fun x H1 q => by
    obtain ⟨rho2, env2, st2, d2, env3, w2, re2, rd2, eg, h2⟩ := q
    cases eg
    exact h2 _ (re2.set rd2 i) (by simp) fun j hj => by rw [List.getElem?_set_ne (fun z => hj (by simp [z]))]
  have h2 : tE X.K cls W (if n then mCompN mi (own.map (·.2)) g c me else mComp mi (own.map (·.2)) g c me) sg H (fun x H1 => gName i x sg H1 E.nx) := by
    obtain ⟨rho, env, st, w, re, h'⟩ := h'
    exact ⟨rho, env, st, w, re, OkR.mono h' fun d st1 rho1 H1 e1 w1 q v rv => go v H1 (q v rv)⟩
  cases n with
  | true => exact tE_lcN h2
  | false => exact tE_lc h2
end
end MI
/-! MiJ: chains, stores by place, raise, try. -/
namespace MI
open PySem PySem.Spec PyProof.Rows L2
/-- a op b op' c -/
def mChain (f g : D → D → Sto → R D) (a b c : ME) : ME := fun env st => (a env st).bind fun x st => (b env st).bind fun y st => (f x y st).bind fun z st => match z with
  | .bl true => (c env st).bind fun w st => g y w st
  | .bl false => .ok (.bl false) st
  | _ => .stuck
/-- o[i] = v -/
def putD (kvs : List (Key × D)) (k : Key) (d : D) : List (Key × D) :=
  if (kvs.any fun kv => decide (kv.1 = k)) = true then kvs.map (fun kv => if kv.1 = k then (kv.1, d) else kv) else kvs ++ [(k, d)]
def setAt (o i d : D) (st : Sto) : R Unit := match o with
  | .ref l => match st[l]? with
    | some (.lst xs) => (match i with
      | .int k => (match ixN xs.length k with
        | some j => .ok () (st.set l (.lst (xs.set j d)))
        | none => .stuck)
      | _ => .stuck)
    | some (.dic kvs) => (match keyOf i with
      | some k => if kvs.length < sizeLine then .ok () (st.set l (.dic (putD kvs k d))) else .stuck
      | none => .stuck)
    | _ => .stuck
  | _ => .stuck
def sSet (o i e : ME) : MS := fun env st => match (e env st).bind fun d st => (o env st).bind fun x st => (i env st).bind fun y st => setAt x y d st with
  | .ok _ st => .nx env st
  | .exc c st => .exc c env st
  | .stuck => .stuck
def augF (op : Operator) : Option (D → D → Sto → R D) := match op with
  | .Add => some fun x y st => match x, y with
    | .int i, .int j => .ok (.int (i + j)) st
    | _, _ => .stuck
  | .Sub => some fun x y st => match x, y with
    | .int i, .int j => .ok (.int (i - j)) st
    | _, _ => .stuck
  | _ => none
def sAug (i : Nat) (f : D → D → Sto → R D) (e : ME) : MS := fun env st => match env[i]? with
  | some (some x) => (match (e env st).bind fun y st => f x y st with
    | .ok z st => .nx (env.set i (some z)) st
    | .exc c st => .exc c env st
    | .stuck => .stuck)
  | _ => .stuck
def sAugS (f : D → D → Sto → R D) (o i e : ME) : MS := fun env st => match (o env st).bind fun x st => (i env st).bind fun y st => match deref st x with
    | .lst _ => (opIx x y st).bind fun z st => (e env st).bind fun u st => (f z u st).bind fun r st => setAt x y r st
    | _ => .stuck with
  | .ok _ st => .nx env st
  | .exc c st => .exc c env st
  | .stuck => .stuck
/-- the first clause that takes it -/
def sTry (sub : Nat → Nat → Bool) (b : MS) (hs : List (Nat × MS)) : MS := fun env st => match b env st with
  | .exc c env st => pick c env st hs
  | r => r
where pick (c : Nat) (env : DEnv) (st : Sto) : List (Nat × MS) → SR
  | [] => .exc c env st
  | (h, s) :: hs => if sub c h = true then s env st else pick c env st hs
section
variable {X : Cx} {cls : Nat → Value} {W : WX} {pos : Pos} {a b c e o i : Expr} {ma mb mc m mo mi : ME}
theorem tE_chain {K : PySem.W.Frag} {r r' : R2} {f g : D → D → Sto → R D} (hf : ∀ {sg : L2.St} {rho : Rho} {st : Sto} {H : Hp} {Q : VK} {x y : D} {v u : V}, Wld K rho st H → RelD K rho H x v → RelD K rho H y u → OkR K cls W sg rho H (f x y st) (VQ K Q) → r v u H Q)
    (hg : ∀ {sg : L2.St} {rho : Rho} {st : Sto} {H : Hp} {Q : VK} {x y : D} {v u : V}, Wld K rho st H → RelD K rho H x v → RelD K rho H y u → OkR K cls W sg rho H (g x y st) (VQ K Q) → r' v u H Q)
    {sg : L2.St} {H : Hp} {Q : VK} (h : tE K cls W (mChain f g ma mb mc) sg H Q) : tChain r r' (tE K cls W ma) (tE K cls W mb) (tE K cls W mc) sg H Q := by
  obtain ⟨rho, env, st, w, re, h⟩ := h
  refine ⟨rho, env, st, w, re, OkR.mono (OkR.bind h) fun d1 st1 rho1 H1 e1 w1 h1 v1 rv1 => ?_⟩
  refine ⟨rho1, env, st1, w1, re.ext e1, OkR.mono (OkR.bind h1) fun d2 st2 rho2 H2 e2 w2 h2 v2 rv2 => ?_⟩
  refine hf w2 (rv1.ext e2) rv2 (OkR.mono (OkR.bind h2) fun d3 st3 rho3 H3 e3 w3 h3 v3 rv3 => ?_)
  split at h3
  · cases rv3
    refine ⟨true, rfl, ?_⟩
    rw [if_pos rfl]
    exact ⟨rho3, env, st3, w3, ((re.ext e1).ext e2).ext e3, OkR.mono (OkR.bind h3) fun d4 st4 rho4 H4 e4 w4 h4 v4 rv4 => hg w4 ((rv2.ext e3).ext e4) rv4 h4⟩
  · cases rv3
    refine ⟨false, rfl, ?_⟩
    rw [if_neg (by simp)]
    exact ok_here w3 h3 (.bl _)
  · exact h3.elim
theorem lastMarks_no {op op' : CmpOp} (h : behindInMarks op' c = false) : lastMarks [op, op'] [b, c] = false := by
  simp only [lastMarks]
  exact h
theorem mChain_bl {f g : D → D → Sto → R D} (hg : ∀ x y st d st', g x y st = .ok d st' → ∃ k, d = .bl k) : ∀ env st d st', mChain f g ma mb mc env st = .ok d st' → ∃ k, d = .bl k := by
  intro env st d st' q
  unfold mChain at q
  cases q1 : ma env st with
  | exc c' st' => rw [q1] at q; cases q
  | stuck => rw [q1] at q; cases q
  | ok d1 st1 =>
    rw [q1] at q
    simp only [R.bind_ok] at q
    cases q2 : mb env st1 with
    | exc c' st' => rw [q2] at q; cases q
    | stuck => rw [q2] at q; cases q
    | ok d2 st2 =>
      rw [q2] at q
      simp only [R.bind_ok] at q
      cases q3 : f d1 d2 st2 with
      | exc c' st' => rw [q3] at q; cases q
      | stuck => rw [q3] at q; cases q
      | ok d3 st3 =>
        rw [q3] at q
        simp only [R.bind_ok] at q
        split at q
        · cases q4 : mc env st3 with
          | exc c' st' => rw [q4] at q; cases q
          | stuck => rw [q4] at q; cases q
          | ok d4 st4 => rw [q4] at q; exact hg _ _ _ _ _ q
        · cases q; exact ⟨_, rfl⟩
        · cases q
theorem OkU {K : PySem.W.Frag} {sg : L2.St} {rho : Rho} {H : Hp} {env : DEnv} {r : R Unit} {E : Ends} (re : RelEnv K rho H env sg) (h : OkS K cls W rho H (match r with | .ok _ st => SR.nx env st | .exc c st => .exc c env st | .stuck => .stuck) E) :
    OkR K cls W sg rho H r (fun _ _ _ H' => E.nx sg H') := by
  cases r with
  | ok u st => exact fun rho1 H1 e1 w1 => h sg rho1 H1 e1 w1 (re.ext e1)
  | exc c st => exact fun rho1 H1 e1 w1 => h sg rho1 H1 e1 w1 (re.ext e1)
  | stuck => exact h
def rSetA : TSet := fun o i v H Q => rSetL o i v H Q ∨ rSetD o i v H Q
theorem set_all (hu : X.A.units + 1 < cLine) : PSet X rSetA := fun pins s sg H o i v ov iv u Q I ro ri rv h => h.elim (set_list pins s sg H o i v ov iv u Q I ro ri rv) (set_dict hu pins s sg H o i v ov iv u Q I ro ri rv)
theorem relDs_set {K : PySem.W.Frag} {rho : Rho} {H : Hp} : ∀ {ds : List D} {vs : List V} {d : D} {v : V} (j : Nat), RelDs K rho H ds vs → RelD K rho H d v → RelDs K rho H (ds.set j d) (vs.set j v)
  | _, _, _, _, _, .nil, _ => .nil
  | _, _, _, _, 0, .cons _ t, r => .cons r t
  | _, _, _, _, j + 1, .cons h t, r => .cons h (relDs_set j t r)
theorem relK_put {K : PySem.W.Frag} {rho : Rho} {H : Hp} {ds : List (Key × D)} {vs : List (Key × V)} {k : Key} {d : D} {v : V} (r : RelK K rho H ds vs) (rd : RelD K rho H d v) : RelK K rho H (putD ds k d) (putK vs k v) := by
  have any : ∀ {ds : List (Key × D)} {vs : List (Key × V)}, RelK K rho H ds vs → (ds.any fun kv => decide (kv.1 = k)) = (vs.any fun kv => decide (kv.1 = k)) := by
    intro ds vs r
    induction vs generalizing ds with
    | nil => cases r; rfl
    | cons kv vs ih =>
      cases r with
      | cons h t => simp [ih t]
  have mp : ∀ {ds : List (Key × D)} {vs : List (Key × V)}, RelK K rho H ds vs → RelK K rho H (ds.map fun kv => if kv.1 = k then (kv.1, d) else kv) (vs.map fun kv => if kv.1 = k then (kv.1, v) else kv) := by
    intro ds vs r
    induction vs generalizing ds with
    | nil => cases r; exact .nil
    | cons kv vs ih =>
      cases r with
      | cons h t =>
        simp only [List.map_cons]
        split
        · exact .cons rd (ih t)
        · exact .cons h (ih t)
  have ap : ∀ {ds : List (Key × D)} {vs : List (Key × V)}, RelK K rho H ds vs → RelK K rho H (ds ++ [(k, d)]) (vs ++ [(k, v)]) := by
    intro ds vs r
    induction vs generalizing ds with
    | nil => cases r; exact .cons rd .nil
    | cons kv vs ih =>
      cases r with
      | cons h t => exact .cons h (ih t)
  unfold putD putK
  rw [any r]
  split
  · exact mp r
  · exact ap r
theorem hop_set {K : PySem.W.Frag} {sg : L2.St} {rho : Rho} {st : Sto} {H : Hp} {x y d : D} {v u z : V} {Q : Hp → Prop} (w : Wld K rho st H) (r1 : RelD K rho H x v) (r2 : RelD K rho H y u) (r3 : RelD K rho H d z) (h : OkR K cls W sg rho H (setAt x y d st) (fun _ _ _ H' => Q H')) : rSetA v u z H Q := by
  unfold setAt at h
  split at h
  · split at h
    · rename_i hl
      obtain ⟨a, ks, rfl, ha, h1, h2⟩ := ref_lst w r1 hl
      split at h
      · split at h
        · rename_i j hj
          cases r2
          refine .inl ⟨a, ks, _, j, rfl, rfl, h1, by rw [← h2.length]; exact hj, ?_⟩
          exact h rho _ (w.extSet ha _) (w.set ha ⟨_, upd_same, (relDs_set j h2 r3).ext (w.extSet ha _)⟩)
        · exact h.elim
      · exact h.elim
    · rename_i hl
      obtain ⟨a, ks, rfl, ha, h1, h2⟩ := ref_dic w r1 hl
      split at h
      · rename_i k hk
        split at h
        · rename_i hz
          refine .inr ⟨a, upd H a (.dK (putK ks k z)), rfl, ?_, ?_⟩
          · rw [keyOf_rel r2 hk]
            exact DPut.k h1 (by rw [← h2.length]; exact hz)
          · exact h rho _ (w.extSet ha _) (w.set ha ⟨_, upd_same, (relK_put h2 r3).ext (w.extSet ha _)⟩)
        · exact h.elim
      · exact h.elim
    · exact h.elim
  · exact h.elim
theorem ps_setIxM {p : Pos} (hu : X.A.units + 1 < cLine) (ho : PE X o (tE X.K cls W mo)) (hi : PE X i (tE X.K cls W mi)) (he : PE X e (tE X.K cls W m)) (hs : noComp e = true) (hsl : noSlice i = true) : PS X (.Assign [.Subscript o i p] e pos) (tS X.K cls W (sSet mo mi m)) := by
  have hg : PG X (.Subscript o i p) (gSub (tE X.K cls W mo) (tE X.K cls W mi) rSetA) := pg_sub ho hi (set_all hu) (by
    intro v
    cases i <;> first | rfl | cases hsl)
  refine PS.weak (ps_asg he hg (by unfold swapsWithSole; exact swaps_no hs) rfl rfl) fun E sg H h => ?_
  obtain ⟨rho, env, st, w, re, h⟩ := h
  have h := OkU re h
  refine ⟨rho, env, st, w, re, OkR.mono (OkR.bind h) fun d1 st1 rho1 H1 e1 w1 h1 v1 rv1 => ?_⟩
  refine ⟨rho1, env, st1, w1, re.ext e1, OkR.mono (OkR.bind h1) fun d2 st2 rho2 H2 e2 w2 h2 v2 rv2 => ?_⟩
  refine ⟨rho2, env, st2, w2, (re.ext e1).ext e2, OkR.mono (OkR.bind h2) fun d3 st3 rho3 H3 e3 w3 h3 v3 rv3 => ?_⟩
  exact hop_set w3 (rv2.ext e3) rv3 ((rv1.ext e2).ext e3) h3
/-! ### op= -/
theorem aug_ok {op : Operator} {f : D → D → Sto → R D} (hf : augF op = some f) : ∃ t : TIp, PIp X op t ∧ ∀ {sg : L2.St} {rho : Rho} {st : Sto} {H : Hp} {Q : VK} {x y : D} {v u : V}, Wld X.K rho st H → RelD X.K rho H x v → RelD X.K rho H y u → OkR X.K cls W sg rho H (f x y st) (VQ X.K Q) → t v u H Q := by
  cases op <;> simp only [augF, Option.some.injEq, reduceCtorEq] at hf
  · subst hf
    refine ⟨_, ip_add, fun {sg rho st H Q x y v u} w r1 r2 h => ?_⟩
    dsimp only at h
    split at h
    · cases r1; cases r2
      exact ⟨_, _, rfl, rfl, ok_here w h (.int _)⟩
    · exact h.elim
  · subst hf
    refine ⟨_, ip_sub, fun {sg rho st H Q x y v u} w r1 r2 h => ?_⟩
    dsimp only at h
    split at h
    · cases r1; cases r2
      exact ⟨_, _, rfl, rfl, ok_here w h (.int _)⟩
    · exact h.elim
theorem ps_augM {op : Operator} {f : D → D → Sto → R D} {j : Nat} {x : Str} {p : Pos} (hf : augF op = some f) (hN : X.N.Nodup) (hi : X.N[j]? = some x) (hx : Loc X.env.scope x) (hl : X.fn x = true ∨ X.env.scope.names.lookup x = some .local) (he : PE X e (tE X.K cls W m)) :
    PS X (.AugAssign (.Name x p) op e pos) (tS X.K cls W (sAug j f m)) := by
  obtain ⟨t, ht, hop⟩ := aug_ok (X := X) (cls := cls) (W := W) hf
  refine PS.weak (ps_aug hN hi hx he ht hl) fun E sg H h => ?_
  obtain ⟨rho, env, st, w, re, h⟩ := h
  unfold sAug at h
  split at h
  · rename_i d hd
    obtain ⟨v, hv, rv⟩ := re.at_ j d hd
    refine ⟨v, hv, rho, env, st, w, re, ?_⟩
    have h' : OkR X.K cls W sg rho H ((m env st).bind fun y st => f d y st) (fun z _ rho' H' => ∀ u, RelD X.K rho' H' z u → E.nx (sg.set j (some u)) H') := by
      cases q : ((m env st).bind fun y st => f d y st) with
      | ok z st1 =>
        rw [q] at h
        exact fun rho1 H1 e1 w1 u ru => h _ rho1 H1 e1 w1 ((re.ext e1).set ru j)
      | exc c st1 => rw [q] at h; exact fun rho1 H1 e1 w1 => h sg rho1 H1 e1 w1 (re.ext e1)
      | stuck => rw [q] at h; exact h
    exact OkR.mono (OkR.bind h') fun d1 st1 rho1 H1 e1 w1 h1 v1 rv1 => hop w1 (rv.ext e1) rv1 h1
  · exact h.elim
/-! ### raise -/
theorem pmk_own0 {C : Addr} {bmB : List Value} {B newId initId : String} {x : Str} {p : Pos} (F : ExcBaseFacts B newId initId bmB) (q : PySem.W.excIn X.K C bmB newId = true) (gC : X.mg x = some (.ref C)) (kC : PySem.W.keepIn X.K (.ref C) = true) (r : Raises X (.ref C)) (hg : Gl X x)
    (hdb : (x == ("__debug__" : Str)) = false) : PMk X (.Call (.Name x p) [] [] pos) (fun _ H Q => Q (.ref C) none H) := by
  intro pins s sg H Q I h
  refine wpAny_Call_Name_kw (ld_glob I hg gC ?_ hdb)
  refine PySem.W.callWith_K0 I.kIn kC ?_
  obtain ⟨bm, N, nm, qn, bs, hdct, sn, sub, ab, col, dd, k0, k1, k2, k3, k5, mN, hC, hN, hni, T⟩ := exc_obj I.kIn q
  refine wpAny_call_exc_subT F T hC hN hni (fun h' e hm => ?_) (by show 0 ≤ sizeLine; exact Nat.zero_le _)
  exact mk_of I hm r h (I.hok.gone hm.new)
theorem ps_raiseM {C : Addr} {x : Str} {p p1 : Pos} {n : Nat} (hcls : cls n = .ref C) (hc : X.calm = true) (tk : Takes X W) (q : PySem.W.excIn X.K C [.type "ValueError", .type "Exception", .type "BaseException", .type "object"] "ValueError.__new__" = true) (gC : X.mg x = some (.ref C)) (kC : PySem.W.keepIn X.K (.ref C) = true) (r : Raises X (.ref C)) (hg : Gl X x)
    (hdb : (x == ("__debug__" : Str)) = false) : PS X (.Raise (some (.Call (.Name x p) [] [] p1)) none pos) (tS X.K cls W (sRaise n)) := by
  refine PS.weak (ps_raise hc tk (pmk_own0 PySem.F.excBase_ValueError q gC kC r hg hdb)) fun E sg H h => ?_
  obtain ⟨rho, env, st, w, re, h⟩ := h
  have := h sg rho H (Ext.refl _ _) w re
  rw [hcls] at this
  exact this
/-! ### try -/
theorem try_pick {K : PySem.W.Frag} {sub : Nat → Nat → Bool} {E : Ends} (hsub : ∀ a b, PySem.W.exmOne K (cls a) (cls b) = some (sub a b)) : ∀ (hs : List (Nat × MS)) (c : Nat) (env : DEnv) (st : Sto) (rho : Rho) (H : Hp), OkS K cls W rho H (sTry.pick sub c env st hs) E →
    (∀ h ∈ hs, ∀ env st rho H, OkS K cls W rho H (h.2 env st) E → OkS K cls WF rho H (h.2 env st) E) →
    ∀ sg rho' H', Ext rho H rho' H' → Wld K rho' st H' → RelEnv K rho' H' env sg → wMany K W E (hs.map fun h => (cls h.1, fun _ _ _ => tS K cls WF h.2)) (cls c) none sg H'
  | [], c, env, st, rho, H, h, _ => fun sg rho' H' e w re => h sg rho' H' e w re
  | (n, s) :: hs, c, env, st, rho, H, h, hw => fun sg rho' H' e w re => by
    refine ⟨sub c n, hsub c n, fun hb a ha => ?_, fun hb => ?_⟩
    · unfold sTry.pick at h
      rw [if_pos hb] at h
      exact ⟨rho', env, st, w, re, OkS.from (hw (n, s) List.mem_cons_self env st rho H h) e⟩
    · unfold sTry.pick at h
      rw [if_neg (by rw [hb]; simp)] at h
      exact try_pick hsub hs c env st rho H h (fun q hq => hw q (List.mem_cons_of_mem _ hq)) sg rho' H' e w re
/-- a suite that raises nothing -/
def Quiet (s : MS) : Prop := ∀ env st, match s env st with
  | .exc _ _ _ => False
  | _ => True
theorem Quiet.wish {K : PySem.W.Frag} {s : MS} (q : Quiet s) {env : DEnv} {st : Sto} {rho : Rho} {H : Hp} {E : Ends} (h : OkS K cls W rho H (s env st) E) : OkS K cls WF rho H (s env st) E := by
  have z := q env st
  cases r : s env st with
  | exc c env st => rw [r] at z; exact z.elim
  | nx env st => rw [r] at h; exact h
  | rt d st => rw [r] at h; exact h
  | bk env st => rw [r] at h; exact h
  | ct env st => rw [r] at h; exact h
  | stuck => rw [r] at h; exact h
theorem ps_tryM {body : List Stmt} {h0 : ExceptHandler} {hds : List ExceptHandler} {mb : MS} {hs : List (Nat × MS)} {sub : Nat → Nat → Bool} (hst : X.stack = X.env :: X.outer) (hf : X.env.frame = some X.env.locals) (tk : Takes X W)
    (hb : ∀ (W' : WX) (pn : List (Addr × Obj)) (xe : Value → Shared → Prop), Takes (X.tr pn xe) W' → PassesOwn (model X.prog X.w) X.A X.env xe → PSs (X.tr pn xe) body (tS X.K cls W' mb))
    (hh : HdsOk X (h0 :: hds) (hs.map fun h => (cls h.1, fun _ _ _ => tS X.K cls WF h.2))) (hsub : ∀ a b, PySem.W.exmOne X.K (cls a) (cls b) = some (sub a b)) (hq : ∀ h ∈ hs, Quiet h.2) :
    PS X (.Try body (h0 :: hds) [] [] pos) (tS X.K cls W (sTry sub mb hs)) := by
  refine PS.weak (ps_try_many (tb := fun W' => tS X.K cls W' mb) hst hf tk hb hh) fun E sg H h => ?_
  obtain ⟨rho, env, st, w, re, h⟩ := h
  refine ⟨rho, env, st, w, re, ?_⟩
  unfold sTry at h
  cases q : mb env st with
  | exc c env1 st1 =>
    rw [q] at h
    exact try_pick hsub hs c env1 st1 rho H h fun p hp env st rho H z => (hq p hp).wish z
  | nx env1 st1 => rw [q] at h; exact h
  | rt d st1 => rw [q] at h; exact h
  | bk env1 st1 => rw [q] at h; exact h
  | ct env1 st1 => rw [q] at h; exact h
  | stuck => rw [q] at h; exact h
theorem ps_breakM : PS X (.Break pos) (tS X.K cls W fun env st => .bk env st) := PS.weak ps_break fun E sg H h => by
  obtain ⟨rho, env, st, w, re, h⟩ := h
  exact h sg rho H (Ext.refl _ _) w re
theorem ps_contM : PS X (.Continue pos) (tS X.K cls W fun env st => .ct env st) := PS.weak ps_continue fun E sg H h => by
  obtain ⟨rho, env, st, w, re, h⟩ := h
  exact h sg rho H (Ext.refl _ _) w re
theorem ps_retNM : PS X (.Return none pos) (tS X.K cls W (sRet (mC .non))) := PS.weak ps_retN fun E sg H h => by
  obtain ⟨rho, env, st, w, re, h⟩ := h
  exact h .non rho H (Ext.refl _ _) w .non
end
end MI
/-! MiX: further constructs: slices with a step, methods of texts, zip, a dict of one pair. -/
namespace MX
open PySem PySem.Spec PyProof.Rows L2 HT
section
variable {prog : Program} {w : World} {A : Around} {E : Value → Shared → Prop} {s : Shared}
theorem sliceApplied_step {sl : Addr} {vl vu : Value} {lo hi : Option Int} {k : Int} {t : Tok} {n : Nat} {Q : Int × Int × Nat → Shared → Prop} (hs : s.heap.IsSliceOf sl vl vu (.int k t)) (pl : IsPart vl lo) (pu : IsPart vu hi) (hk : k ≠ 0)
    (h : Q ((Builtin.Slice.sliceAdjust lo hi k n).1, k, Builtin.Slice.slicePlaces (Builtin.Slice.sliceAdjust lo hi k n).1 (Builtin.Slice.sliceAdjust lo hi k n).2 k) s) : wpAny (model prog w) A (Builtin.Slice.sliceApplied (.ref sl) (pure (n : Int))) Q E s := by
  obtain ⟨os, hos, hcs, hds⟩ := id hs
  unfold Builtin.Slice.sliceApplied Builtin.Slice.sliceFields
  refine wpAny_bind (wpAny_bind (wpAny_field hos hds (x := vl) rfl (wpAny_bind (wpAny_field hos hds (x := vu) rfl (wpAny_bind (wpAny_field hos hds (x := .int k t) rfl (wpAny_pure ?_)))))))
  refine wpAny_bind (slicePart_int ?_)
  show wpAny _ _ (if ((k : Int) == 0) = true then _ else _) _ _ s
  rw [if_neg (by simpa using hk)]
  refine wpAny_bind (slicePart_ pl (wpAny_bind (slicePart_ pu (wpAny_bind (wpAny_pure ?_)))))
  exact wpAny_pure h
end
/-- the items of xs[lo:hi:k] -/
def stepL {α : Type} (xs : List α) (lo hi : Option Int) (k : Int) : List α :=
  (List.range (Builtin.Slice.slicePlaces (Builtin.Slice.sliceAdjust lo hi k xs.length).1 (Builtin.Slice.sliceAdjust lo hi k xs.length).2 k)).filterMap fun (m : Nat) => xs[((Builtin.Slice.sliceAdjust lo hi k xs.length).1 + (m : Int) * k).toNat]?
section
variable {prog : Program} {w : World} {A : Around} {E : Value → Shared → Prop} {s : Shared}
theorem getItem_tuple_step {t sl : Addr} {items : Array Value} {vl vu : Value} {lo hi : Option Int} {k : Int} {tk : Tok} {Q : Value → Shared → Prop} (ht : IsTup s.heap t items) (hs : s.heap.IsSliceOf sl vl vu (.int k tk)) (pl : IsPart vl lo) (pu : IsPart vu hi) (hk : k ≠ 0) (h1 : k ≠ 1)
    (h : Q (.ref s.heap.objs.size) { s with heap := s.heap.push { cls := .type "tuple", data := .seq (stepL items.toList lo hi k).toArray } })
    (hsz : (stepL items.toList lo hi k).length ≤ sizeLine) : wpAny (model prog w) A (getItem (.ref t) (.ref sl)) Q E s := by
  have htake : sizeOk (.seq (stepL items.toList lo hi k).toArray) := by
    show (stepL items.toList lo hi k).toArray.size ≤ sizeLine
    rw [List.size_toArray]
    exact hsz
  obtain ⟨os, hos, hcs, hds⟩ := id hs
  have hTs : s.TypeIs (.ref sl) "slice" := ⟨os, hos, hcs⟩
  unfold getItem
  try with_reducible refine wpAny_holding ?_
  first | refine wpAny_bind (wpAny_pure ?_) | skip
  refine wpAny_bind (wpAny_sequenceKey ht.typeIs (by decide) ?_)
  refine wpAny_bind (wpAny_callSpecial?_slot (name := Str.ofString "__getitem__") ht.typeIs PyProof.Rows.slot_tuple_getitem
    (wpAny_call_entry PyProof.Rows.slot_tuple_getitem ht.typeIs PyProof.Rows.entry_tuple_getitem ?_ (PyProof.Rows.args_tuple_getitem _ _)))
  show wpAny _ _ (Builtin.Tuple.tupleItemsOf (.ref t) >>= _) _ _ s
  refine wpAny_bind (tupleItemsOf_ ht ?_)
  refine wpAny_bind (wpAny_typeOf hTs ?_)
  rw [if_pos (by decide)]
  refine wpAny_bind (sliceApplied_step hs pl pu hk ?_)
  generalize hlo : (Builtin.Slice.sliceAdjust lo hi k items.size).1 = a
  generalize hpl : Builtin.Slice.slicePlaces a (Builtin.Slice.sliceAdjust lo hi k items.size).2 k = b
  have hno : ¬ ((a == 0 && k == 1 && b == items.size) = true) := by
    intro q
    rw [Bool.and_eq_true, Bool.and_eq_true] at q
    exact h1 (eq_of_beq q.1.2)
  show wpAny _ _ (if (a == 0 && k == 1 && b == items.size) = true then _ else _) _ _ s
  rw [if_neg hno]
  have hpick : ((List.range b).filterMap fun (m : Nat) => items[(a + (m : Int) * k).toNat]?).toArray = (stepL items.toList lo hi k).toArray := by
    unfold stepL
    rw [show (items.toList.length : Int) = (items.size : Int) by simp, hlo, hpl]
    simp
  rw [hpick]
  first
    | exact wpAny_bind (m := Builtin.Tuple.tupleExact _) (wpAny_newObj_type (wpAny_pure ⟨_, rfl, wpAny_pure h⟩) htake)
    | exact wpAny_bind (m := Builtin.Tuple.tupleExact _) (wpAny_newObj_type (wpAny_bind (wpAny_pure (wpAny_pure ⟨_, rfl, wpAny_pure h⟩))) htake)
    | exact wpAny_bind (wpAny_bind (m := Builtin.Tuple.tupleExact _) (wpAny_newObj_type (wpAny_pure (wpAny_pure ⟨_, rfl, wpAny_pure h⟩)) htake))
    | exact wpAny_bind (wpAny_bind (m := Builtin.Tuple.tupleExact _) (wpAny_newObj_type (wpAny_pure ⟨_, rfl, wpAny_pure h⟩) htake))
end
theorem vals_filterMap {xs : List V} {us : List Value} (r : Vals xs us) (f : Nat → Nat) : ∀ ms : List Nat, Vals (ms.filterMap fun m => xs[f m]?) (ms.filterMap fun m => us[f m]?)
  | [] => .nil
  | m :: ms => by
    simp only [List.filterMap_cons]
    cases q : xs[f m]? with
    | none =>
      rw [r.none_of q]
      exact vals_filterMap r f ms
    | some x =>
      obtain ⟨u, h1, h2⟩ := r.get q
      rw [h1]
      exact .cons h2 (vals_filterMap r f ms)
theorem vals_step {xs : List V} {us : List Value} (r : Vals xs us) (lo hi : Option Int) (k : Int) : Vals (stepL xs lo hi k) (stepL us lo hi k) := by
  unfold stepL
  rw [r.length]
  exact vals_filterMap r (fun m => ((Builtin.Slice.sliceAdjust lo hi k us.length).1 + (m : Int) * k).toNat) _
section
variable {X : Cx} {e st : Expr} {lo hi : Option Expr} {te : TE} {tl th ts : TO} {p2 pos : Pos}
def tSlStep (K : PySem.W.Frag) (te : TE) (tl th ts : TO) : TE := fun sg H Q => te sg H fun x H1 => tl sg H1 fun l H2 => th sg H2 fun u H3 => ts sg H3 fun o H4 => ∃ a xs k, x = .ref a ∧ SqT K H4 a xs ∧ o = some k ∧ k ≠ 0 ∧ k ≠ 1 ∧ (stepL xs l u k).length ≤ sizeLine ∧ ∀ p, H4 p = none → Q (.ref p) (upd H4 p (.tup (stepL xs l u k)))
theorem pe_slStep (he : PE X e te) (hl : PO X lo tl) (hu : PO X hi th) (hst : PO X (some st) ts) : PE X (.Subscript e (.Slice lo hi (some st) p2) pos) (tSlStep X.K te tl th ts) := by
  refine ⟨fun pins s sg H Q I h => ?_⟩
  refine Subscript_ (thn (he.run pins s sg H _ I h) fun v s1 ⟨x, H1, I1, r1, q1⟩ => ?_)
  refine wpAny_Slice (thn (hl.run pins s1 sg H1 _ I1 q1) fun vl s2 ⟨l, H2, I2, pl, q2⟩ => thn (hu.run pins s2 sg H2 _ I2 q2) fun vu s3 ⟨u, H3, I3, pu, q3⟩ => thn (hst.run pins s3 sg H3 _ I3 q3) fun vs s4 ⟨o, H4, I4, ps, q4⟩ => ?_)
  obtain ⟨a, xs, k, rfl, hx, rfl, hk0, hk1, hz, q⟩ := q4
  cases r1
  cases ps with
  | int k tk =>
    have I5 : Inv X pins sg H4 { s4 with heap := s4.heap.push { cls := .type "slice", data := .fields #[vl, vu, .int k tk] } } := I4.kept (t' := s4.toks) fun b ob q => Heap.get?_push_of_some _ q
    obtain ⟨its, r, ht, hzz⟩ := I5.tuple hx
    have hr := vals_step r l u k
    show wpAny (model X.prog X.w) X.A (subscriptTail e (.Slice lo hi (some st) p2) (.ref a) (.ref s4.heap.objs.size)) (EP X pins sg Q) X.xe { s4 with heap := s4.heap.push { cls := .type "slice", data := .fields #[vl, vu, .int k tk] } }
    refine tail_any (ops := [.ref a, .ref s4.heap.objs.size]) ht.typeIs PyProof.Rows.slot_tuple_getitem.lookup ?_ (by with_unfolding_all rfl)
    refine getItem_tuple_step ht (Heap.IsSliceOf.new _ vl vu (.int k tk)) pl pu hk0 hk1 ?_ (by
      have := hr.length
      simpa [← this] using hz)
    refine ⟨.ref _, _, I5.laid (t' := s4.toks) (o := .tup (stepL xs l u k)) (fun b ob q => Heap.get?_push_of_some _ q) (Nat.le_refl _) ?_, rfl, q _ (I5.hok.fresh (Nat.le_refl _))⟩
    refine ⟨hz, _, hr, ?_⟩
    first
    | exact ⟨_, Heap.get?_push_size _ rfl, rfl, rfl, rfl⟩
    | exact ⟨_, Heap.get?_push_size _ rfl, rfl, rfl⟩
    | exact ⟨_, Heap.get?_push_size _ rfl, rfl, _, rfl⟩
end
end MX
/-! MiY: the further constructs in the reading. -/
namespace MI
open PySem PySem.Spec PyProof.Rows L2 MX RZ
/-- t[lo:hi:k], a tuple -/
def opSt (x : D) (lo hi : Option Int) (k : Option Int) (st : Sto) : R D := match x, k with
  | .tup ds, some k => if k ≠ 0 ∧ k ≠ 1 ∧ (stepL ds lo hi k).length ≤ sizeLine then .ok (.tup (stepL ds lo hi k)) st else .stuck
  | _, _ => .stuck
def mSt (a : ME) (lo hi k : Option ME) : ME := fun env st => (a env st).bind fun x st => (mOpt lo env st).bind fun i st => (mOpt hi env st).bind fun j st => (mOpt k env st).bind fun k st => opSt x i j k st
/-- methods of texts -/
def isStrD (d : D) : Bool := match d with
  | .str _ => true
  | _ => false
def mSplit (d : D) (ds : List D) (st : Sto) : R D := match d, ds with
  | .str a, [.str b] => if (b.length == 0) = false ∧ a.length + 2 ≤ sizeLine then .ok (.lst ((Txt.split a b).map .str)) st else .stuck
  | _, _ => .stuck
def mJoin (d : D) (ds : List D) (st : Sto) : R D := match d, ds with
  | .str a, [y] => match (seqOf st y).bind strsOf with
    | some ys => if (ys.map (·.length)).sum + ys.length * a.length ≤ 16777216 then .ok (.str (Txt.join a ys)) st else .stuck
    | none => .stuck
  | _, _ => .stuck
def mIndexS (d : D) (ds : List D) (st : Sto) : R D := match d, ds with
  | .str a, [.str b] => match Txt.index0 a b with
    | some k => .ok (.int (k : Nat)) st
    | none => .stuck
  | _, _ => .stuck
def mMethS (f : D → List D → Sto → R D) (o : ME) (es : List ME) : ME := fun env st => (o env st).bind fun d st => if isStrD d = true then (mArgs es env st).bind fun ds st => f d ds st else .stuck
def strM (x : Str) : Option (D → List D → Sto → R D) :=
  if x = "split" then some mSplit else if x = "join" then some mJoin else if x = "index" then some mIndexS else none
/-- zip of two lists, or of two tuples -/
def zipD (xs ys : List D) : List D := (xs.zip ys).map fun p => .tup [p.1, p.2]
def iZip (a b : ME) : MIt := fun env st => (a env st).bind fun x st => (b env st).bind fun y st => match x, y with
  | .lst xs, .lst ys => .ok (.vals (zipD xs ys)) st
  | .tup xs, .tup ys => .ok (.vals (zipD xs ys)) st
  | _, _ => .stuck
/-- {k: v} -/
def mDic1 (a b : ME) : ME := fun env st => match (a env st).bind fun x st => (b env st).bind fun y st => match keyOf x with
    | some k => .ok (.dic [(k, y)]) st
    | none => .stuck with
  | .ok d st => .ok d st
  | _ => .stuck
section
variable {X : Cx} {cls : Nat → Value} {W : WX} {pos : Pos} {a b c e o : Expr} {ma mb mc m mo : ME}
theorem relDs_filterMap {K : PySem.W.Frag} {rho : Rho} {H : Hp} {ds : List D} {vs : List V} (r : RelDs K rho H ds vs) (f : Nat → Nat) : ∀ ms : List Nat, RelDs K rho H (ms.filterMap fun m => ds[f m]?) (ms.filterMap fun m => vs[f m]?)
  | [] => .nil
  | m :: ms => by
    simp only [List.filterMap_cons]
    cases q : ds[f m]? with
    | none =>
      have : vs[f m]? = none := by
        rw [List.getElem?_eq_none_iff] at q ⊢
        rw [← r.length]; exact q
      rw [this]
      exact relDs_filterMap r f ms
    | some x =>
      obtain ⟨u, h1, h2⟩ := r.get q
      rw [h1]
      exact .cons h2 (relDs_filterMap r f ms)
theorem relDs_step {K : PySem.W.Frag} {rho : Rho} {H : Hp} {ds : List D} {vs : List V} (r : RelDs K rho H ds vs) (lo hi : Option Int) (k : Int) : RelDs K rho H (stepL ds lo hi k) (stepL vs lo hi k) := by
  unfold stepL
  rw [r.length]
  exact relDs_filterMap r (fun m => ((Builtin.Slice.sliceAdjust lo hi k vs.length).1 + (m : Int) * k).toNat) _
theorem pe_stM {lo hi : Option Expr} {st : Expr} {ml mh mk : Option ME} {p2 : Pos} (ha : PE X a (tE X.K cls W ma)) (hl : PO X lo (tOm X.K cls W ml)) (hh : PO X hi (tOm X.K cls W mh)) (hk : PO X (some st) (tOm X.K cls W mk)) : PE X (.Subscript a (.Slice lo hi (some st) p2) pos) (tE X.K cls W (mSt ma ml mh mk)) := by
  refine PE.weak (pe_slStep ha hl hh hk) fun sg H Q h => ?_
  obtain ⟨rho, env, st, w, re, h⟩ := h
  refine ⟨rho, env, st, w, re, OkR.mono (OkR.bind h) fun d st1 rho1 H1 e1 w1 h1 v rv => ?_⟩
  refine ⟨rho1, env, st1, w1, re.ext e1, OkR.mono (OkR.bind h1) fun i st2 rho2 H2 e2 w2 h2 => ?_⟩
  refine ⟨rho2, env, st2, w2, (re.ext e1).ext e2, OkR.mono (OkR.bind h2) fun j st3 rho3 H3 e3 w3 h3 => ?_⟩
  refine ⟨rho3, env, st3, w3, ((re.ext e1).ext e2).ext e3, OkR.mono (OkR.bind h3) fun kk st4 rho4 H4 e4 w4 h4 => ?_⟩
  have rv4 := ((rv.ext e2).ext e3).ext e4
  unfold opSt at h4
  split at h4
  · split at h4
    · rename_i k hc
      cases rv4 with
      | tup q1 q2 =>
        have rs := relDs_step q2 i j k
        exact ⟨_, _, k, rfl, q1, rfl, hc.1, hc.2.1, by rw [← rs.length]; exact hc.2.2, ok_tmp_tup w4 h4 rs⟩
    · exact h4.elim
  · exact h4.elim
/-! ### methods of texts -/
abbrev HopM (X : Cx) (cls : Nat → Value) (W : WX) (f : D → List D → Sto → R D) (r : L2.St → V → List V → Hp → VK → Prop) : Prop := ∀ {sg : L2.St} {rho : Rho} {st : Sto} {H : Hp} {Q : VK} {d : D} {v : V} {ds : List D} {vs : List V}, Wld X.K rho st H → RelD X.K rho H d v → RelDs X.K rho H ds vs → OkR X.K cls W sg rho H (f d ds st) (VQ X.K Q) → r sg v vs H Q
theorem rel_strs {K : PySem.W.Frag} {rho : Rho} {H : Hp} (ns : List Str) : RelDs K rho H (ns.map D.str) (ns.map V.str) := by
  induction ns with
  | nil => exact .nil
  | cons n ns ih => exact .cons (.str n) ih
theorem strM_ok (hc : X.calm = true) (tk : Takes X W) {x : Str} {f : D → List D → Sto → R D} (h : strM x = some f) : ∃ id r, Slot "str" x id ∧ typeOf (.builtin id) = pure (.type "method_descriptor") ∧ MtS X id r ∧ HopM X cls W f r := by
  unfold strM at h
  split at h
  · rename_i e
    cases h
    subst e
    refine ⟨_, _, PySem.F.slot_str_split, PySem.F.type_str_split, MtR.toS mt_split, fun {sg rho st H Q d v ds vs} w r rs h => ?_⟩
    unfold mSplit at h
    split at h
    · split at h
      · rename_i hc
        cases r
        obtain ⟨u, rfl, ru⟩ := relDs1 rs
        cases ru
        exact ⟨_, _, rfl, rfl, hc.1, hc.2, ok_tmp_lst w h (rel_strs _)⟩
      · exact h.elim
    · exact h.elim
  split at h
  · rename_i e
    cases h
    subst e
    refine ⟨_, _, PySem.F.slot_str_join, PySem.F.type_str_join, MtR.toS mt_join, fun {sg rho st H Q d v ds vs} w r rs h => ?_⟩
    unfold mJoin at h
    split at h
    · cases r
      obtain ⟨u, rfl, ru⟩ := relDs1 rs
      split at h
      · rename_i ys hy
        obtain ⟨es, h1, h2⟩ := Option.bind_eq_some_iff.mp hy
        obtain ⟨ad, ks, rfl, q1, q2⟩ := seqOf_rel w ru h1
        have e2 := strsOf_rel q1 h2
        subst e2
        split at h
        · exact ⟨_, ad, ys, rfl, rfl, q2, by assumption, ok_here w h (.str _)⟩
        · exact h.elim
      · exact h.elim
    · exact h.elim
  split at h
  · rename_i e
    cases h
    subst e
    refine ⟨_, _, PySem.F.slot_str_index, PySem.F.type_str_index, mt_indexX hc tk, fun {sg rho st H Q d v ds vs} w r rs h => ?_⟩
    unfold mIndexS at h
    split at h
    · cases r
      obtain ⟨u, rfl, ru⟩ := relDs1 rs
      cases ru
      split at h
      · rename_i k hk
        exact ⟨_, _, rfl, rfl, fun k' hk' => by rw [hk] at hk'; cases hk'; exact ok_here w h (.int _), fun hn => by rw [hk] at hn; cases hn⟩
      · exact h.elim
    · exact h.elim
  · cases h
theorem pe_methS {es : List Expr} {ms : List ME} {name : Str} {apos : Pos} {id : String} {f : D → List D → Sto → R D} {r : L2.St → V → List V → Hp → VK → Prop} (slot : Slot "str" name id) (hty : typeOf (.builtin id) = pure (.type "method_descriptor")) (hm : MtS X id r)
    (hop : HopM X cls W f r) (hb : noCall o = true) (hl : (apos.endLine == pos.line) = true) (hp : (e :: es).all plainE = true) (hn : (e :: es).length < 30) (ho : PE X o (tE X.K cls W mo)) (ha : PA X (e :: es) (tAm X.K cls W ms)) :
    PE X (.Call (.Attribute o name apos) (e :: es) [] pos) (tE X.K cls W (mMethS f mo ms)) := by
  have hp' := hp
  simp only [List.all_cons, Bool.and_eq_true] at hp
  refine PE.weak (pe_bmS PySem.F.plainAttrs_str slot hty hm ho ha (base_ok hb) ?_ hl (star_plain hp.1) (star_any hp.2)) fun sg H Q h => ?_
  · rw [star_all hp']
    have hk : (backToKw pos (keywordEach [] X.env)).all (fun x => x.1.isSome) = true := rfl
    rw [hk]
    have hn' : decide ((e :: es).length + 0 + 0 < 30) = true := by simpa using hn
    simpa using hn'
  · obtain ⟨rho, env, st, w, re, h⟩ := h
    refine ⟨rho, env, st, w, re, OkR.mono (OkR.bind h) fun d st1 rho1 H1 e1 w1 h1 v rv => ?_⟩
    split at h1
    · rename_i hl1
      have ty : tyV X.K "str" v H1 := by
        unfold isStrD at hl1
        split at hl1
        · cases rv; rfl
        · cases hl1
      refine ⟨ty, rho1, env, st1, w1, re.ext e1, OkR.mono (OkR.bind h1) fun ds st2 rho2 H2 e2 w2 h2 vs rvs => ?_⟩
      exact hop w2 (rv.ext e2) rvs h2
    · exact h1.elim
/-! ### zip -/
theorem zipD_get {xs ys : List D} {i : Nat} {d : D} (h : (zipD xs ys)[i]? = some d) : ∃ x y, xs[i]? = some x ∧ ys[i]? = some y ∧ d = .tup [x, y] := by
  unfold zipD at h
  rw [List.getElem?_map] at h
  obtain ⟨p, hp, rfl⟩ := Option.map_eq_some_iff.mp h
  rw [List.getElem?_zip_eq_some] at hp
  exact ⟨p.1, p.2, hp.1, hp.2, rfl⟩
theorem zipD_len (xs ys : List D) : (zipD xs ys).length = min xs.length ys.length := by simp [zipD]
theorem it_zipL {K : PySem.W.Frag} (a b : Addr) (xs ys : List D) (us vs : List V) : ItOk K (Itz K a b) (.vals (zipD xs ys)) (fun rho H => ((H a = some (.lst us) ∧ a ∉ rho) ∧ RelDs K rho H xs us) ∧ ((H b = some (.lst vs) ∧ b ∉ rho) ∧ RelDs K rho H ys vs)) where
  stab := fun rho H rho' H' p e => ⟨(it_lst (K := K) a xs us).stab _ _ _ _ p.1 e, (it_lst (K := K) b ys vs).stab _ _ _ _ p.2 e⟩
  go := fun i d rho st H w p _ hd => by
    obtain ⟨x, y, h1, h2, rfl⟩ := zipD_get hd
    obtain ⟨u, hu, _⟩ := p.1.2.get h1
    obtain ⟨v, hv, _⟩ := p.2.2.get h2
    exact ⟨us, vs, u, v, SqL.of p.1.1.1, SqL.of p.2.1.1, hu, hv⟩
  yld := fun i d rho st H x H' w p _ hd y => by
    obtain ⟨x1, y1, h1, h2, rfl⟩ := zipD_get hd
    obtain ⟨u, hu, ru⟩ := p.1.2.get h1
    obtain ⟨v, hv, rv⟩ := p.2.2.get h2
    obtain ⟨T, u', v', rfl, hT, rfl, f1, f2⟩ := y
    have e1 := f1 us (SqL.of p.1.1.1)
    have e2 := f2 vs (SqL.of p.2.1.1)
    rw [hu] at e1; cases e1
    rw [hv] at e2; cases e2
    have ex := w.extTmp hT (.tup [u, v])
    exact ⟨ex, w.tmp hT _, .tup (SqT.of upd_same) (.cons (ru.ext ex) (.cons (rv.ext ex) .nil))⟩
  stop := fun i rho st H w p _ hi => by
    have hi' : (zipD xs ys).length ≤ i := hi
    rw [zipD_len] at hi'
    refine ⟨us, vs, SqL.of p.1.1.1, SqL.of p.2.1.1, ?_⟩
    rw [← p.1.2.length, ← p.2.2.length]
    omega
  hide := fun rho H p xs' q h => ⟨(it_lst (K := K) a xs us).hide _ _ _ _ q.1 h, (it_lst (K := K) b ys vs).hide _ _ _ _ q.2 h⟩
  grow := fun rho H p xs' ys' hp h q => ⟨(it_lst (K := K) a xs us).grow _ _ _ _ _ hp h q.1, (it_lst (K := K) b ys vs).grow _ _ _ _ _ hp h q.2⟩
theorem it_zipT {K : PySem.W.Frag} (a b : Addr) (xs ys : List D) (us vs : List V) : ItOk K (ItzT K a b) (.vals (zipD xs ys)) (fun rho H => (SqT K H a us ∧ RelDs K rho H xs us) ∧ (SqT K H b vs ∧ RelDs K rho H ys vs)) where
  stab := fun rho H rho' H' p e => ⟨(it_tup (K := K) a xs us).stab _ _ _ _ p.1 e, (it_tup (K := K) b ys vs).stab _ _ _ _ p.2 e⟩
  go := fun i d rho st H w p _ hd => by
    obtain ⟨x, y, h1, h2, rfl⟩ := zipD_get hd
    obtain ⟨u, hu, _⟩ := p.1.2.get h1
    obtain ⟨v, hv, _⟩ := p.2.2.get h2
    exact ⟨us, vs, u, v, p.1.1, p.2.1, hu, hv⟩
  yld := fun i d rho st H x H' w p _ hd y => by
    obtain ⟨x1, y1, h1, h2, rfl⟩ := zipD_get hd
    obtain ⟨u, hu, ru⟩ := p.1.2.get h1
    obtain ⟨v, hv, rv⟩ := p.2.2.get h2
    obtain ⟨T, u', v', rfl, hT, rfl, f1, f2⟩ := y
    have e1 := f1 us p.1.1
    have e2 := f2 vs p.2.1
    rw [hu] at e1; cases e1
    rw [hv] at e2; cases e2
    have ex := w.extTmp hT (.tup [u, v])
    exact ⟨ex, w.tmp hT _, .tup (SqT.of upd_same) (.cons (ru.ext ex) (.cons (rv.ext ex) .nil))⟩
  stop := fun i rho st H w p _ hi => by
    have hi' : (zipD xs ys).length ≤ i := hi
    rw [zipD_len] at hi'
    refine ⟨us, vs, p.1.1, p.2.1, ?_⟩
    rw [← p.1.2.length, ← p.2.2.length]
    omega
  hide := fun rho H p xs' q h => ⟨(it_tup (K := K) a xs us).hide _ _ _ _ q.1 h, (it_tup (K := K) b ys vs).hide _ _ _ _ q.2 h⟩
  grow := fun rho H p xs' ys' hp h q => ⟨(it_tup (K := K) a xs us).grow _ _ _ _ _ hp h q.1, (it_tup (K := K) b ys vs).grow _ _ _ _ _ hp h q.2⟩
theorem pi_zipM {elts : List Expr} {kk : Nat} {tpos p : Pos} (hp : plainE a = true) (hp2 : plainE b = true) (hg : Gl X "zip") (hm : X.mg "zip" = none) (ha : PE X a (tE X.K cls W ma)) (hb : PE X b (tE X.K cls W mb)) : PI X (.Tuple elts kk tpos) (.Call (.Name "zip" p) [a, b] [] pos) (tIm X.K cls W (iZip ma mb)) := by
  have hA : PA X [a, b] (tCons (tE X.K cls W ma) (tCons (tE X.K cls W mb) tNil)) := pa_cons ha (pa_cons hb pa_nil (star_plain hp2)) (star_plain hp)
  refine PI.weak (pi_zipA hg hm hA (star_plain hp) (star_any (es := [b]) (by simp [hp2]))) fun sg H R hq => ?_
  obtain ⟨rho, env, st, w, re, hq⟩ := hq
  refine ⟨rho, env, st, w, re, OkR.mono (OkR.bind hq) fun d1 st1 rho1 H1 e1 w1 h1 v1 rv1 => ?_⟩
  refine ⟨rho1, env, st1, w1, re.ext e1, OkR.mono (OkR.bind h1) fun d2 st2 rho2 H2 e2 w2 h2 v2 rv2 => ?_⟩
  have rv1 := rv1.ext e2
  split at h2
  · cases rv1 with
    | lst q1 n1 r1 =>
      cases rv2 with
      | lst q2 n2 r2 => exact ⟨_, _, _, _, rfl, .inl ⟨SqL.of q1, SqL.of q2, h2 rho2 H2 (Ext.refl _ _) w2 _ _ (it_zipL _ _ _ _ _ _) ⟨⟨⟨q1, n1⟩, r1⟩, ⟨⟨q2, n2⟩, r2⟩⟩ trivial⟩⟩
  · cases rv1 with
    | tup q1 r1 =>
      cases rv2 with
      | tup q2 r2 => exact ⟨_, _, _, _, rfl, .inr ⟨q1, q2, h2 rho2 H2 (Ext.refl _ _) w2 _ _ (it_zipT _ _ _ _ _ _) ⟨⟨q1, r1⟩, ⟨q2, r2⟩⟩ trivial⟩⟩
  · exact h2.elim
/-! ### a dict of one pair -/
theorem pe_dic1M (ha : PE X a (tE X.K cls W ma)) (hb : PE X b (tE X.K cls W mb)) : PE X (.Dict [some a] [b] pos) (tE X.K cls W (mDic1 ma mb)) := by
  refine PE.weak (pe_disp (pps_cons ha hb pps_nil) rfl rfl (by simp) (by simp)) fun sg H Q h => ?_
  obtain ⟨rho, env, st, w, re, h⟩ := h
  intro p hp
  have np : p ∉ rho.res := fun z => w.fresh hp (.inr z)
  have w0 := w.hide hp (.dK []) trivial
  have re0 : RelEnv X.K (rho.hide p) (upd H p (.dK [])) env sg := ⟨re.len, fun i d h => let ⟨v, h1, h2⟩ := re.at_ i d h; ⟨v, h1, h2.hide hp⟩⟩
  have ex0 : Ext rho H ((rho.hide p).show_ rho.res) (upd H p (.dK [])) := w.extTmp hp _
  refine ⟨rho.hide p, env, st, w0, re0, ?_⟩
  unfold mDic1 at h
  cases q1 : ma env st with
  | stuck => rw [q1] at h; exact h.elim
  | exc c1 s1 => rw [q1] at h; exact h.elim
  | ok x st1 =>
    rw [q1] at h
    simp only [R.bind_ok] at h
    intro rho1 H1 e1 w1 vx rx
    refine ⟨rho1, env, st1, w1, re0.ext e1, ?_⟩
    cases q2 : mb env st1 with
    | stuck => rw [q2] at h; exact h.elim
    | exc c1 s1 => rw [q2] at h; exact h.elim
    | ok y st2 =>
      rw [q2] at h
      simp only [R.bind_ok] at h
      intro rho2 H2 e2 w2 vy ry
      cases hk : keyOf x with
      | none => rw [hk] at h; exact h.elim
      | some k =>
        rw [hk] at h
        simp only at h
        have e02 := e1.trans e2
        have pr0 : p ∈ (rho.hide p).res := List.mem_cons_self
        have hp2 : H2 p = some (.dK []) := e02.kres p _ upd_same pr0
        have hr2 : rho2.res = p :: rho.res := e02.res
        have pr2 : p ∈ rho2.res := by rw [hr2]; exact List.mem_cons_self
        have hsub : ∀ b ∈ rho.res, b ∈ rho2.res := fun b hb => by rw [hr2]; exact List.mem_cons_of_mem _ hb
        refine ⟨hp2, [(k, vy)], ?_, by simp, ?_⟩
        · rw [keyOf_rel (rx.ext e2) hk]; rfl
        · show Q (.ref p) (upd H2 p (.dK [(k, vy)]))
          refine h (rho2.show_ rho.res) _ ((Ext.inner hp rfl ex0 e02).over hp) ((w2.grow (o' := .dK [(k, vy)]) pr2 hp2 trivial trivial).show_ hsub) _ (.dic upd_same (fun z => ?_) (.cons ((ry.grow pr2 hp2 trivial).show_ hsub) .nil))
          rcases z with z | z
          · exact w2.dis p z pr2
          · exact np z
end
end MI
/-! MiK: from the text to its reading (ofE, ofS), and that it is right. -/
namespace MI
open PySem PySem.Spec PyProof.Rows L2

/-- what the reading of a def's body leans on -/
structure CC where
  N : List Str
  sc : Scope
  dfn : Bool
  cok : Str → Bool
  fns : List Str
  gl : List (Str × D)
  kd : List (Str × List (Str × D))
  xcs : List Str
  sub : Nat → Nat → Bool
  blt : List Str
  mt : Nat → Nat → Bool
  fuel : Nat
def ixOf : List Str → Str → Option Nat
  | [], _ => none
  | y :: ys, x => if y = x then some 0 else (ixOf ys x).map (· + 1)
theorem ixOf_get : ∀ {N : List Str} {x : Str} {i : Nat}, ixOf N x = some i → N[i]? = some x
  | [], _, _, h => by cases h
  | y :: ys, x, i, h => by
    unfold ixOf at h
    split at h
    · rename_i e
      cases h
      subst e
      rfl
    · obtain ⟨j, hj, rfl⟩ := Option.map_eq_some_iff.mp h
      simpa using ixOf_get hj
def CC.kind (c : CC) (x : Str) : Option NameKind := c.sc.names.lookup x
def CC.vis (c : CC) (x : Str) : Bool := match c.kind x with
  | some .local => true
  | some .cell => true
  | some .free => true
  | _ => false
def CC.glb (c : CC) (x : Str) : Bool := match c.kind x with
  | some .globalImplicit => true
  | _ => false
def CC.tgt (c : CC) (x : Str) : Bool := match c.kind x with
  | some .local => true
  | some .cell => c.cok x
  | _ => false
def okName (x : Str) : Bool := !(x == ("__debug__" : Str)) && !(x == ("__classdict__" : Str)) && !(decide (x = ("__name__" : Str)))
def CC.slot (c : CC) (x : Str) : Option Nat := if (c.vis x && okName x) = true then ixOf c.N x else none
def CC.tslot (c : CC) (x : Str) : Option Nat := if c.tgt x = true then ixOf c.N x else none
def CC.tslots (c : CC) : List Expr → Option (List Nat)
  | [] => some []
  | .Name x _ :: es => match c.tslot x, c.tslots es with
    | some i, some is => some (i :: is)
    | _, _ => none
  | _ => none
def CC.tg (c : CC) : Expr → Option (List Nat × MG)
  | .Name x _ => (c.tslot x).map fun i => ([i], gVar i)
  | .Tuple es _ _ => (c.tslots es).map fun is => (is, gTupV is)
  | _ => none
def CC.ownOf (c : CC) : Expr → List (Str × Nat)
  | .Name x _ => match ixOf c.N x with
    | some i => [(x, i)]
    | none => []
  | .Tuple es _ _ => es.filterMap fun e => match e with
    | .Name x _ => (ixOf c.N x).map fun i => (x, i)
    | _ => none
  | _ => []
def CC.kdOf (c : CC) : Expr → Option (List (Str × D))
  | .Name x _ => if (c.glb x && okName x) = true then c.kd.lookup x else none
  | _ => none
def kdCmp (op : CmpOp) (tab : List (Str × D)) : Option (ME → ME) := match op with
  | .In => some (mKIn tab false)
  | .NotIn => some (mKIn tab true)
  | _ => none
def CC.inner (c : CC) (scope : Scope) : CC := { c with sc := relS scope c.sc, dfn := false, cok := fun x => scope.names.lookup x == some .cell }
def testable : Expr → Bool
  | .IfExp .. => false
  | _ => true
def isBoolOp : Expr → Bool
  | .BoolOp .. => true
  | _ => false
def binF : Operator → Option (D → D → Sto → R D)
  | .Add => some opAdd
  | .Sub => some opSub
  | .Mult => some opMul
  | .Mod => some opMod
  | .FloorDiv => some opDiv
  | .Pow => some opPow
  | _ => none
def cmpF : CmpOp → Option (D → D → Sto → R D)
  | .Lt => some opLt
  | .LtE => some opLe
  | .Gt => some opGt
  | .GtE => some opGe
  | .Eq => some opEq
  | .NotEq => some opNe
  | .Is => some opIs
  | .IsNot => some opIsNot
  | .In => some opIn
  | .NotIn => some opNotIn
def bltB (x : Str) : Option (List D → Sto → R D) :=
  if x = "len" then some bLen else if x = "abs" then some bAbs else if x = "min" then some bMin else if x = "max" then some bMax else if x = "all" then some bAll
  else if x = "any" then some bAny else if x = "sum" then some bSum else if x = "ord" then some bOrd else if x = "sorted" then some bSorted else none
def bltT (x : Str) (n : Bool) : Option (List D → Sto → R D) :=
  if x = "tuple" then some bTuple else if x = "list" then (if n then some bListN else some bList) else if x = "str" then some bStr else none
def tyOf (x : Str) : Option String :=
  if x = "int" then some "int" else if x = "bool" then some "bool" else if x = "str" then some "str" else if x = "tuple" then some "tuple" else if x = "list" then some "list" else if x = "dict" then some "dict" else none
def lstM (x : Str) : Option (D → List D → Sto → R D) :=
  if x = "append" then some mAppend else if x = "pop" then some mPop else if x = "extend" then some mExtend else if x = "reverse" then some mReverse else none

mutual
noncomputable def ofE (Ph : Nat → List D → Sto → R D) : Nat → CC → Expr → Option ME
  | 0, _, _ => none
  | n + 1, c, e => match e with
    | .Name x _ => (match c.slot x with
      | some i => some (mVar i)
      | none => if (c.glb x && okName x) = true then (c.gl.lookup x).map mC else none)
    | .Constant k _ _ => (match k with
      | .int i => some (mC (.int i))
      | .bool b => some (mC (.bl b))
      | .none => some (mC .non)
      | .str s => some (mC (.str s))
      | _ => none)
    | .BinOp a op b _ => (match binF op, ofE Ph n c a, ofE Ph n c b with
      | some f, some ma, some mb => some (mBin f ma mb)
      | _, _, _ => none)
    | .UnaryOp .USub a _ => (ofE Ph n c a).map mNeg
    | .UnaryOp .Not a _ => if testable a = true then (ofE Ph n c a).map mNot else none
    | .BoolOp _ [a] _ => if testable a = true then ofE Ph n c a else none
    | .BoolOp .And (a :: b :: r) p => (match ofE Ph n c a, ofE Ph n c (.BoolOp .And (b :: r) p) with
      | some ma, some mb => if testable a = true then some (mAnd ma mb) else none
      | _, _ => none)
    | .BoolOp .Or (a :: b :: r) p => (match ofE Ph n c a, ofE Ph n c (.BoolOp .Or (b :: r) p) with
      | some ma, some mb => if testable a = true then some (mOr ma mb) else none
      | _, _ => none)
    | .Compare a [op] [b] _ => (match cmpF op, ofE Ph n c a, ofE Ph n c b with
      | some f, some ma, some mb => if behindInMarks op b = false then some (mBin f ma mb) else none
      | some _, some ma, none => (match c.kdOf b with
        | some tab => (kdCmp op tab).map fun g => g ma
        | none => none)
      | _, _, _ => none)
    | .Compare a [op, op'] [b, d] _ => (match cmpF op, cmpF op', ofE Ph n c a, ofE Ph n c b, ofE Ph n c d with
      | some f, some g, some ma, some mb, some md => if behindInMarks op' d = false then some (mChain f g ma mb md) else none
      | _, _, _, _, _ => none)
    | .IfExp t a b _ => (match ofE Ph n c t, ofE Ph n c a, ofE Ph n c b with
      | some mt, some ma, some mb => if testable t = true then some (mIfE mt ma mb) else none
      | _, _, _ => none)
    | .Tuple es _ _ => (ofEs Ph n c es).map mTup
    | .List es p => (ofEs Ph n c es).map (if c.mt p.line p.col = true then mNew else mLst)
    | .Dict [] [] p => some (if c.mt p.line p.col = true then mNewD else mC (.dic []))
    | .Dict [some a] [b] _ => (match ofE Ph n c a, ofE Ph n c b with
      | some ma, some mb => some (mDic1 ma mb)
      | _, _ => none)
    | .Subscript a (.Slice lo hi none _) _ => (match ofE Ph n c a, ofO Ph n c lo, ofO Ph n c hi with
      | some ma, some ml, some mh => some (mSl ma ml mh)
      | _, _, _ => none)
    | .Subscript a (.Slice lo hi (some s) _) _ => (match ofE Ph n c a, ofO Ph n c lo, ofO Ph n c hi, ofE Ph n c s with
      | some ma, some ml, some mh, some ms => some (mSt ma ml mh (some ms))
      | _, _, _, _ => none)
    | .Subscript a b _ => (match ofE Ph n c a, ofE Ph n c b with
      | some ma, some mb => if noSlice b = true then some (mBin opIx ma mb) else none
      | none, some mb => if noSlice b = true then (c.kdOf a).map fun tab => mKIx tab mb else none
      | _, _ => none)
    | .Call (.Name x _) [] [] _ => if (c.glb x && okName x) = true then (ixOf c.fns x).map fun i => mCall (Ph i) [] else none
    | .Call (.Name x _) (a :: as) [] p => if (c.glb x && okName x) = true then (match ixOf c.fns x with
        | some i => (ofEs Ph n c (a :: as)).map (mCall (Ph i))
        | none => if x ∈ c.blt then (match bltB x with
          | some f => (ofEs Ph n c (a :: as)).map (mCall f)
          | none => (match bltT x (c.mt p.line p.col) with
            | some f => (ofEs Ph n c (a :: as)).map (mCall f)
            | none => (match as with
              | [.Name t _] => if x = "isinstance" ∧ (c.glb t && okName t) = true ∧ t ∈ c.blt then (match tyOf t, ofE Ph n c a with
                | some T, some ma => some (mIsI T ma)
                | _, _ => none) else none
              | _ => none))) else none)
      else none
    | .Call (.Attribute o m ap) [] [] p => if (noCall o && (ap.endLine == p.line)) = true then (match lstM m, ofE Ph n c o with
      | some f, some mo => some (mMethL f mo [])
      | _, _ => none) else none
    | .Call (.Attribute o m ap) (a :: as) [] p => if (noCall o && (ap.endLine == p.line) && decide ((a :: as).length < 30)) = true then (match lstM m, ofE Ph n c o, ofEs Ph n c (a :: as) with
      | some f, some mo, some ms => some (mMethL f mo ms)
      | none, some mo, some ms => (strM m).map fun f => mMethS f mo ms
      | _, _, _ => none) else none
    | .ListComp elt [⟨tg, it, ifs, 0⟩] scope p => (match ofLc Ph n c elt tg it ifs scope with
      | some (mi, vs, g, k, me) => some (if c.mt p.line p.col then mCompN mi vs g k me else mComp mi vs g k me)
      | none => none)
    | _ => none
noncomputable def ofEs (Ph : Nat → List D → Sto → R D) : Nat → CC → List Expr → Option (List ME)
  | 0, _, _ => none
  | _ + 1, _, [] => some []
  | n + 1, c, e :: es => match ofE Ph n c e, ofEs Ph n c es with
    | some m, some ms => some (m :: ms)
    | _, _ => none
noncomputable def ofO (Ph : Nat → List D → Sto → R D) : Nat → CC → Option Expr → Option (Option ME)
  | 0, _, _ => none
  | _ + 1, _, none => some none
  | n + 1, c, some e => (ofE Ph n c e).map some
noncomputable def ofI (Ph : Nat → List D → Sto → R D) : Nat → CC → Expr → Expr → Option MIt
  | 0, _, _, _ => none
  | n + 1, c, tg, e => match e with
    | .Call (.Name x _) [a] [] _ => if x = "range" ∧ c.glb x = true ∧ x ∈ c.blt then (ofE Ph n c a).map iRange1 else (ofE Ph n c e).map iSeq
    | .Call (.Name x _) [a, b] [] _ => if x = "range" ∧ c.glb x = true ∧ x ∈ c.blt then (match ofE Ph n c a, ofE Ph n c b with
      | some ma, some mb => some (iRange2 ma mb)
      | _, _ => none) else if x = "zip" ∧ c.glb x = true ∧ x ∈ c.blt then (match tg, ofE Ph n c a, ofE Ph n c b with
      | .Tuple _ _ _, some ma, some mb => some (iZip ma mb)
      | _, _, _ => none) else (ofE Ph n c e).map iSeq
    | .Call (.Name x _) [a, b, d] [] _ => if x = "range" ∧ c.glb x = true ∧ x ∈ c.blt then (match ofE Ph n c a, ofE Ph n c b, ofE Ph n c d with
      | some ma, some mb, some md => some (iRange3 ma mb md)
      | _, _, _ => none) else (ofE Ph n c e).map iSeq
    | e => (ofE Ph n c e).map iSeq
noncomputable def ofLc (Ph : Nat → List D → Sto → R D) : Nat → CC → Expr → Expr → Expr → List Expr → Scope → Option (MIt × List Nat × MG × Option ME × ME)
  | 0, _, _, _, _, _, _ => none
  | n + 1, c, elt, tg, it, ifs, scope => match ofI Ph n c tg it, (c.inner scope).tg tg, ofE Ph n (c.inner scope) elt with
    | some mi, some (vs, g), some me => if (noSet it && blkC c.N c.sc scope (c.ownOf tg)) = true ∧ (c.ownOf tg).map (·.2) = vs then (match ifs with
      | [] => some (mi, vs, g, none, me)
      | [t] => (match ofE Ph n (c.inner scope) t with
        | some mt => if testable t = true then some (mi, vs, g, some mt, me) else none
        | none => none)
      | _ => none) else none
    | _, _, _ => none
end

/-! ### the context -/
def XOk (K : PySem.W.Frag) (mg : Str → Option Value) (v : Value) (x : Str) : Prop := ∃ C, v = .ref C ∧ mg x = some (.ref C) ∧ PySem.W.excIn K C [.type "ValueError", .type "Exception", .type "BaseException", .type "object"] "ValueError.__new__" = true ∧ PySem.W.keepIn K (.ref C) = true ∧
  PySem.W.subIn K (.ref C) (.type "BaseException") = some true ∧ PySem.W.typeIn K (.ref C) = some (.type "type")
def FOk (P : Program) (w : World) (K : PySem.W.Frag) (mg : Str → Option Value) (base : Heap) (cls : Nat → Value) (k : Nat) (x : Str) (f : List D → Sto → R D) : Prop := ∃ fa fd ps, mg x = some (.ref fa) ∧ PySem.W.keepIn K (.ref fa) = true ∧ Binds K fd ps [] ∧ FnOk P w K mg base (L2.CX P w) k fa fd ps (spF K cls f)
def GOk (K : PySem.W.Frag) (mg : Str → Option Value) (x : Str) (d : D) : Prop := ∃ u v, mg x = some u ∧ RelV v u ∧ ∀ rho H, RelD K rho H d v
/-- a dict of the module's top with texts as keys -/
def KOk (K : PySem.W.Frag) (w : World) (mg : Str → Option Value) (x : Str) (tab : List (Str × D)) : Prop := ∃ d es n, mg x = some (.ref d) ∧ KDict K w d es n ∧
  ∀ z : Str, (tab.lookup z = none ∧ PySem.W.nsIn K d z = some none) ∨ ∃ t u v, tab.lookup z = some t ∧ PySem.W.nsIn K d z = some (some u) ∧ RelV v u ∧ ∀ rho H, RelD K rho H t v
structure Good (X : Cx) (cls : Nat → Value) (W : WX) (c : CC) (Ph : Nat → List D → Sto → R D) (k : Nat) : Prop where
  calm : X.calm = true
  nd : X.N.Nodup
  hN : X.N = c.N
  sc : X.env.scope = c.sc
  cok : ∀ x, c.cok x = true → X.fn x = true
  room : Room k X.A
  own : PassesOwn (model X.prog X.w) X.A X.env X.xe
  tk : Takes X W
  stk : c.dfn = true → X.stack = X.env :: X.outer ∧ X.env.frame = some X.env.locals
  blt : ∀ x ∈ c.blt, X.mg x = none
  fns : ∀ (i : Nat) (x : Str), c.fns[i]? = some x → FOk X.prog X.w X.K X.mg X.base cls k x (Ph i)
  gl : ∀ (x : Str) (d : D), c.gl.lookup x = some d → GOk X.K X.mg x d
  kd : ∀ (x : Str) (t : List (Str × D)), c.kd.lookup x = some t → KOk X.K X.w X.mg x t
  xcs : ∀ (i : Nat) (x : Str), c.xcs[i]? = some x → XOk X.K X.mg (cls i) x
  sub : c.xcs ≠ [] → ∀ a b, PySem.W.exmOne X.K (cls a) (cls b) = some (c.sub a b)
section
variable {X : Cx} {cls : Nat → Value} {W : WX} {c : CC} {Ph : Nat → List D → Sto → R D} {k : Nat}
theorem Good.un (G : Good X cls W c Ph k) : X.A.units + 65 < cLine := by have := G.room.un; omega
theorem Good.visOk (G : Good X cls W c Ph k) {x : Str} {i : Nat} (h : c.slot x = some i) : X.N[i]? = some x ∧ Vis X.env.scope x ∧ (x == ("__debug__" : Str)) = false ∧ (x == ("__classdict__" : Str)) = false := by
  unfold CC.slot at h
  split at h
  · rename_i hc
    simp only [Bool.and_eq_true, okName, Bool.not_eq_true'] at hc
    refine ⟨by rw [G.hN]; exact ixOf_get h, ?_, hc.2.1.1, hc.2.1.2⟩
    rw [G.sc]
    have hv := hc.1
    unfold CC.vis CC.kind at hv
    unfold Vis
    split at hv
    · exact .inl (by assumption)
    · exact .inr (.inl (by assumption))
    · exact .inr (.inr (by assumption))
    · cases hv
  · cases h
theorem Good.glOk (G : Good X cls W c Ph k) {x : Str} (h : c.glb x = true) : Gl X x := by
  unfold CC.glb CC.kind at h
  show X.env.scope.names.lookup x = some .globalImplicit
  rw [G.sc]
  split at h
  · assumption
  · cases h
theorem okName_ok {x : Str} (h : okName x = true) : (x == ("__debug__" : Str)) = false ∧ (x == ("__classdict__" : Str)) = false ∧ x ≠ "__name__" := by
  simp only [okName, Bool.and_eq_true, Bool.not_eq_true', decide_eq_false_iff_not] at h
  exact ⟨h.1.1, h.1.2, h.2⟩
theorem Good.tgtOk (G : Good X cls W c Ph k) {x : Str} {i : Nat} (h : c.tslot x = some i) : X.N[i]? = some x ∧ Loc X.env.scope x ∧ (X.fn x = true ∨ X.env.scope.names.lookup x = some .local) := by
  unfold CC.tslot at h
  split at h
  · rename_i hc
    refine ⟨by rw [G.hN]; exact ixOf_get h, ?_⟩
    rw [G.sc]
    unfold CC.tgt CC.kind at hc
    split at hc
    · rename_i e
      exact ⟨.inl e, .inr e⟩
    · rename_i e
      exact ⟨.inr e, .inl (G.cok x hc)⟩
    · cases hc
  · cases h
theorem Good.names (G : Good X cls W c Ph k) : ∀ {es : List Expr} {is : List Nat}, c.tslots es = some is → NamesAt X es is
  | [], is, h => by cases h; exact .nil
  | e :: es, is, h => by
    cases e <;> simp only [CC.tslots, reduceCtorEq] at h
    split at h
    · rename_i i is' h1 h2
      cases h
      obtain ⟨a1, a2, a3⟩ := G.tgtOk h1
      exact .cons a1 a2 a3 (G.names h2)
    · cases h
theorem Good.tgPG (G : Good X cls W c Ph k) {tg : Expr} {vs : List Nat} {g : MG} (h : c.tg tg = some (vs, g)) : PG X tg (tGm X.K vs g) := by
  cases tg <;> simp only [CC.tg, Option.map_eq_some_iff, Prod.mk.injEq, reduceCtorEq] at h
  · obtain ⟨i, h1, rfl, rfl⟩ := h
    obtain ⟨a1, a2, a3⟩ := G.tgtOk h1
    exact pg_varM G.nd a1 a2 a3
  · obtain ⟨is, h1, rfl, rfl⟩ := h
    exact pg_tupM G.calm G.nd (G.names h1)
theorem Good.blk (G : Good X cls W c Ph k) {scope : Scope} (s : Shared) (H : Hp) (C : Addr) (cl : List (Str × Addr)) (fp : List Addr) : Good (X.blk s H scope (compEnvC scope cl C X.env) fp) cls WF (c.inner scope) Ph k where
  calm := G.calm
  nd := G.nd
  hN := G.hN
  sc := by
    show relabel scope X.env = relS scope c.sc
    rw [← G.sc]
    rfl
  cok := fun x h => h
  room := G.room
  own := PassesOwn.never
  tk := takes_none5
  stk := fun h => by cases h
  blt := G.blt
  fns := G.fns
  gl := G.gl
  kd := G.kd
  xcs := G.xcs
  sub := G.sub
theorem Good.tr (G : Good X cls W c Ph k) {W' : WX} (pn : List (Addr × Obj)) (xe : Value → Shared → Prop) (tk : Takes (X.tr pn xe) W') (own : PassesOwn (model X.prog X.w) X.A X.env xe) : Good (X.tr pn xe) cls W' c Ph k where
  calm := G.calm
  nd := G.nd
  hN := G.hN
  sc := G.sc
  cok := G.cok
  room := G.room
  own := own
  tk := tk
  stk := G.stk
  blt := G.blt
  fns := G.fns
  gl := G.gl
  kd := G.kd
  xcs := G.xcs
  sub := G.sub

/-! ### tables -/
abbrev Hop (X : Cx) (cls : Nat → Value) (W : WX) (f : D → D → Sto → R D) (r : R2) : Prop := ∀ {sg : L2.St} {rho : Rho} {st : Sto} {H : Hp} {Q : VK} {x y : D} {v u : V}, Wld X.K rho st H → RelD X.K rho H x v → RelD X.K rho H y u → OkR X.K cls W sg rho H (f x y st) (VQ X.K Q) → r v u H Q
theorem binF_ok {op : Operator} {f : D → D → Sto → R D} (h : binF op = some f) : ∃ r, OpR X (binaryOp op) r ∧ Hop X cls W f r := by
  cases op <;> simp only [binF, Option.some.injEq, reduceCtorEq] at h <;> subst h
  · exact ⟨_, op_addA, hop_add⟩
  · exact ⟨_, op_sub, hop_sub⟩
  · exact ⟨_, op_mulA, hop_mul⟩
  · exact ⟨_, op_mod, hop_mod⟩
  · exact ⟨_, op_pow, hop_pow⟩
  · exact ⟨_, op_fdivW, hop_div⟩
theorem cmpF_ok (hu : X.A.units + 65 < cLine) {op : CmpOp} {f : D → D → Sto → R D} (h : cmpF op = some f) : ∃ r, OpR X (compareOp op) r ∧ Hop X cls W f r := by
  cases op <;> simp only [cmpF, Option.some.injEq, reduceCtorEq] at h <;> subst h
  · exact ⟨_, op_eqA (by omega), hop_eq⟩
  · exact ⟨_, op_neD (by omega), hop_ne⟩
  · exact ⟨_, op_lt, hop_cmp⟩
  · exact ⟨_, op_le, hop_cmp⟩
  · exact ⟨_, op_gt, hop_cmp⟩
  · exact ⟨_, op_ge, hop_cmp⟩
  · exact ⟨_, op_isA, hop_is⟩
  · exact ⟨_, op_isNotA, hop_isNot⟩
  · exact ⟨_, op_inA hu, hop_in⟩
  · exact ⟨_, op_notInA hu, hop_notIn⟩
theorem cmpF_bl {op : CmpOp} {f : D → D → Sto → R D} (h : cmpF op = some f) : ∀ x y st d st', f x y st = .ok d st' → ∃ b, d = .bl b := by
  intro x y st d st' q
  cases op <;> simp only [cmpF, Option.some.injEq, reduceCtorEq] at h <;> subst h
  · unfold opEq at q; split at q <;> first | (cases q; exact ⟨_, rfl⟩) | (split at q <;> first | (cases q; exact ⟨_, rfl⟩) | cases q) | cases q
  · unfold opNe at q; split at q <;> first | (cases q; exact ⟨_, rfl⟩) | cases q
  · unfold opLt opCmp at q; split at q <;> first | (cases q; exact ⟨_, rfl⟩) | cases q
  · unfold opLe opCmp at q; split at q <;> first | (cases q; exact ⟨_, rfl⟩) | cases q
  · unfold opGt opCmp at q; split at q <;> first | (cases q; exact ⟨_, rfl⟩) | cases q
  · unfold opGe opCmp at q; split at q <;> first | (cases q; exact ⟨_, rfl⟩) | cases q
  · unfold opIs at q; split at q <;> first | (cases q; exact ⟨_, rfl⟩) | cases q
  · unfold opIsNot at q; split at q <;> first | (cases q; exact ⟨_, rfl⟩) | cases q
  · unfold opIn at q; split at q <;> first | (cases q; exact ⟨_, rfl⟩) | cases q
  · unfold opNotIn at q; split at q <;> first | (cases q; exact ⟨_, rfl⟩) | cases q
abbrev HopC (X : Cx) (cls : Nat → Value) (W : WX) (f : List D → Sto → R D) (r : List V → Hp → VK → Prop) : Prop := ∀ {sg : L2.St} {rho : Rho} {st : Sto} {H : Hp} {Q : VK} {ds : List D} {vs : List V}, Wld X.K rho st H → RelDs X.K rho H ds vs → OkR X.K cls W sg rho H (f ds st) (VQ X.K Q) → r vs H Q
theorem bltB_ok (hc : X.calm = true) {x : Str} {f : List D → Sto → R D} (h : bltB x = some f) : ∃ id r, bootBuiltins x = some (.builtin id) ∧ CallR X (.builtin id) r ∧ HopC X cls W f r := by
  unfold bltB at h
  split at h
  · rename_i e; cases h; subst e; exact ⟨_, _, boot_len, call_lenA, hop_len⟩
  split at h
  · rename_i e; cases h; subst e; exact ⟨_, _, boot_abs, call_abs, hop_abs⟩
  split at h
  · rename_i e; cases h; subst e; exact ⟨_, _, boot_min, call_min2 hc, hop_min⟩
  split at h
  · rename_i e; cases h; subst e; exact ⟨_, _, boot_max, call_max2 hc, hop_max⟩
  split at h
  · rename_i e; cases h; subst e; exact ⟨_, _, boot_all, cr_all hc, hop_all⟩
  split at h
  · rename_i e; cases h; subst e; exact ⟨_, _, boot_any, cr_any hc, hop_any⟩
  split at h
  · rename_i e; cases h; subst e; exact ⟨_, _, boot_sum, cr_sum hc, hop_sum⟩
  split at h
  · rename_i e; cases h; subst e; exact ⟨_, _, boot_ord, call_ord, hop_ord⟩
  split at h
  · rename_i e; cases h; subst e; exact ⟨_, _, boot_sorted, cr_sortedI, hop_sorted⟩
  · cases h
theorem bltT_ok {x : Str} {n : Bool} {f : List D → Sto → R D} (h : bltT x n = some f) : ∃ T r, bootBuiltins x = some (.type T) ∧ CallR X (.type T) r ∧ HopC X cls W f r := by
  unfold bltT at h
  split at h
  · rename_i e; cases h; subst e; exact ⟨_, _, boot_tuple, call_tuple_of, hop_tuple⟩
  split at h
  · rename_i e
    subst e
    split at h
    · cases h; exact ⟨_, _, boot_list, call_list_of, hop_listN⟩
    · cases h; exact ⟨_, _, boot_list, call_list_of, hop_list⟩
  split at h
  · rename_i e; cases h; subst e; exact ⟨_, _, boot_str, call_str_int, hop_str⟩
  · cases h
theorem tyOf_ok {t : Str} {T : String} (h : tyOf t = some T) : bootBuiltins t = some (.type T) := by
  unfold tyOf at h
  split at h
  · rename_i e; cases h; subst e; exact boot_int
  split at h
  · rename_i e; cases h; subst e; exact boot_bool
  split at h
  · rename_i e; cases h; subst e; exact boot_str
  split at h
  · rename_i e; cases h; subst e; exact boot_tuple
  split at h
  · rename_i e; cases h; subst e; exact boot_list
  split at h
  · rename_i e; cases h; subst e; exact boot_dict
  · cases h
theorem lstM_ok {x : Str} {f : D → List D → Sto → R D} (h : lstM x = some f) : ∃ id r, Slot "list" x id ∧ typeOf (.builtin id) = pure (.type "method_descriptor") ∧ MtR X id r ∧
    ∀ {sg : L2.St} {rho : Rho} {st : Sto} {H : Hp} {Q : VK} {d : D} {v : V} {ds : List D} {vs : List V}, Wld X.K rho st H → RelD X.K rho H d v → RelDs X.K rho H ds vs → OkR X.K cls W sg rho H (f d ds st) (VQ X.K Q) → r v vs H Q := by
  unfold lstM at h
  split at h
  · rename_i e; cases h; subst e; exact ⟨_, _, PySem.F.slot_list_append, PySem.F.type_list_append, mt_append, hop_append⟩
  split at h
  · rename_i e; cases h; subst e; exact ⟨_, _, PySem.F.slot_list_pop, PySem.F.type_list_pop, mt_popA, hop_pop⟩
  split at h
  · rename_i e; cases h; subst e; exact ⟨_, _, PySem.F.slot_list_extend, PySem.F.type_list_extend, mt_extend, hop_extend⟩
  split at h
  · rename_i e; cases h; subst e; exact ⟨_, _, PySem.F.slot_list_reverse, PySem.F.type_list_reverse, mt_reverse, hop_reverse⟩
  · cases h
end
end MI
/-! MiL: the reading of expressions is right. -/
namespace MI
open PySem PySem.Spec PyProof.Rows L2
structure SndE (X : Cx) (cls : Nat → Value) (W : WX) (e : Expr) (m : ME) : Prop where
  plain : plainE e = true
  pe : PE X e (tE X.K cls W m)
  pt : testable e = true → PT X e (tTm X.K cls W m)
  pw : isBoolOp e = true → PW X e (tTm X.K cls W m)
structure SndAll (cls : Nat → Value) (Ph : Nat → List D → Sto → R D) (k n : Nat) : Prop where
  e : ∀ {X W c}, Good X cls W c Ph k → ∀ {e m}, ofE Ph n c e = some m → SndE X cls W e m
  es : ∀ {X W c}, Good X cls W c Ph k → ∀ {es ms}, ofEs Ph n c es = some ms → es.all plainE = true ∧ PA X es (tAm X.K cls W ms)
  o : ∀ {X W c}, Good X cls W c Ph k → ∀ {e m}, ofO Ph n c e = some m → PO X e (tOm X.K cls W m)
  i : ∀ {X W c}, Good X cls W c Ph k → ∀ {tg e m}, ofI Ph n c tg e = some m → PI X tg e (tIm X.K cls W m)
  lc : ∀ {X W c}, Good X cls W c Ph k → ∀ {elt tg it ifs scope mi vs g kk me}, ofLc Ph n c elt tg it ifs scope = some (mi, vs, g, kk, me) → LcOk X cls W elt tg it ifs scope vs mi g kk me
section
variable {cls : Nat → Value} {Ph : Nat → List D → Sto → R D} {k : Nat}
theorem sndE_plain {X : Cx} {W : WX} {e : Expr} {m : ME} (hp : plainE e = true) (hb : isBoolOp e = false) (pe : PE X e (tE X.K cls W m)) (he : ∀ whole, isTrue e X.env whole = (do let v ← whole; standAt e.pos; holding [v] (truthy v))) : SndE X cls W e m :=
  ⟨hp, pe, fun _ => pt_any pe he, fun h => by rw [hb] at h; cases h⟩
theorem snd_es {n : Nat} (ih : SndAll cls Ph k n) {X : Cx} {W : WX} {c : CC} (G : Good X cls W c Ph k) {es : List Expr} {ms : List ME} (h : ofEs Ph (n + 1) c es = some ms) : es.all plainE = true ∧ PA X es (tAm X.K cls W ms) := by
  cases es with
  | nil =>
    unfold ofEs at h
    cases h
    exact ⟨rfl, pa_nilM⟩
  | cons e es =>
    unfold ofEs at h
    split at h
    · rename_i m ms' h1 h2
      cases h
      have a := ih.e G h1
      have b := ih.es G h2
      exact ⟨by simp [a.plain, b.1], pa_consM a.plain a.pe b.2⟩
    · cases h
theorem snd_o {n : Nat} (ih : SndAll cls Ph k n) {X : Cx} {W : WX} {c : CC} (G : Good X cls W c Ph k) {e : Option Expr} {m : Option ME} (h : ofO Ph (n + 1) c e = some m) : PO X e (tOm X.K cls W m) := by
  cases e with
  | none =>
    unfold ofO at h
    cases h
    exact po_noneM
  | some e =>
    unfold ofO at h
    obtain ⟨m', h1, rfl⟩ := Option.map_eq_some_iff.mp h
    exact po_someM (ih.e G h1).pe
theorem snd_i {n : Nat} (ih : SndAll cls Ph k n) {X : Cx} {W : WX} {c : CC} (G : Good X cls W c Ph k) {tg e : Expr} {m : MIt} (h : ofI Ph (n + 1) c tg e = some m) : PI X tg e (tIm X.K cls W m) := by
  unfold ofI at h
  split at h
  · split at h
    · rename_i hc
      obtain ⟨rfl, hg, hb⟩ := hc
      obtain ⟨m', h1, rfl⟩ := Option.map_eq_some_iff.mp h
      exact pi_range1M (ih.e G h1).plain (G.glOk hg) (G.blt _ hb) (ih.e G h1).pe
    · obtain ⟨m', h1, rfl⟩ := Option.map_eq_some_iff.mp h
      exact pi_seqM (ih.e G h1).pe
  · split at h
    · rename_i hc
      obtain ⟨rfl, hg, hb⟩ := hc
      split at h
      · rename_i ma mb h1 h2
        cases h
        exact pi_range2M (ih.e G h1).plain (ih.e G h2).plain (G.glOk hg) (G.blt _ hb) (ih.e G h1).pe (ih.e G h2).pe
      · cases h
    · split at h
      · rename_i hc
        obtain ⟨rfl, hg, hb⟩ := hc
        split at h
        · rename_i ma mb h1 h2
          cases h
          exact pi_zipM (ih.e G h1).plain (ih.e G h2).plain (G.glOk hg) (G.blt _ hb) (ih.e G h1).pe (ih.e G h2).pe
        · cases h
      · obtain ⟨m', h1, rfl⟩ := Option.map_eq_some_iff.mp h
        exact pi_seqM (ih.e G h1).pe
  · split at h
    · rename_i hc
      obtain ⟨rfl, hg, hb⟩ := hc
      split at h
      · rename_i ma mb md h1 h2 h3
        cases h
        exact pi_range3M (ih.e G h1).plain (ih.e G h2).plain (ih.e G h3).plain (G.glOk hg) (G.blt _ hb) (ih.e G h1).pe (ih.e G h2).pe (ih.e G h3).pe
      · cases h
    · obtain ⟨m', h1, rfl⟩ := Option.map_eq_some_iff.mp h
      exact pi_seqM (ih.e G h1).pe
  · obtain ⟨m', h1, rfl⟩ := Option.map_eq_some_iff.mp h
    exact pi_seqM (ih.e G h1).pe
theorem snd_lc {n : Nat} (ih : SndAll cls Ph k n) {X : Cx} {W : WX} {c : CC} (G : Good X cls W c Ph k) {elt tg it : Expr} {ifs : List Expr} {scope : Scope} {mi : MIt} {vs : List Nat} {g : MG} {kk : Option ME} {me : ME} (h : ofLc Ph (n + 1) c elt tg it ifs scope = some (mi, vs, g, kk, me)) :
    LcOk X cls W elt tg it ifs scope vs mi g kk me := by
  unfold ofLc at h
  split at h
  · rename_i mi' vs' g' me' h1 h2 h3
    split at h
    · rename_i hc
      obtain ⟨hc, hv⟩ := hc
      simp only [Bool.and_eq_true] at hc
      have own : ∃ own : List (Str × Nat), own.map (·.2) = vs' ∧ BlkOk X.N X.env.scope scope own := ⟨c.ownOf tg, hv, by rw [G.hN, G.sc]; exact blkOk_by hc.2⟩
      split at h
      · cases h
        exact ⟨G.calm, G.nd, hc.1, ih.i G h1, own, fun s H C cl fp => (G.blk s H C cl fp).tgPG h2, fun s H C cl fp => pts_nil, fun s H C cl fp => (ih.e (G.blk s H C cl fp) h3).pe⟩
      · split at h
        · rename_i mt h4
          split at h
          · rename_i ht
            cases h
            exact ⟨G.calm, G.nd, hc.1, ih.i G h1, own, fun s H C cl fp => (G.blk s H C cl fp).tgPG h2, fun s H C cl fp => pts_one ((ih.e (G.blk s H C cl fp) h4).pt ht), fun s H C cl fp => (ih.e (G.blk s H C cl fp) h3).pe⟩
          · cases h
        · cases h
      · cases h
    · cases h
  · cases h
theorem kd_glb {X : Cx} {W : WX} {c : CC} (G : Good X cls W c Ph k) {b : Expr} {tab : List (Str × D)} (h : c.kdOf b = some tab) : ∃ x p, b = .Name x p ∧ Gl X x ∧ (x == ("__debug__" : Str)) = false ∧ KOk X.K X.w X.mg x tab := by
  unfold CC.kdOf at h
  split at h
  · split at h
    · rename_i hc
      simp only [Bool.and_eq_true] at hc
      exact ⟨_, _, rfl, G.glOk hc.1, (okName_ok hc.2).1, G.kd _ _ h⟩
    · cases h
  · cases h
theorem mKIn_bl {tab : List (Str × D)} {neg : Bool} {ma : ME} : ∀ env st d st', mKIn tab neg ma env st = .ok d st' → ∃ b, d = .bl b := by
  intro env st d st' q
  unfold mKIn at q
  cases q1 : ma env st with
  | ok d1 st1 =>
    rw [q1] at q
    cases d1 <;> first | (cases q; exact ⟨_, rfl⟩) | cases q
  | exc c st1 => rw [q1] at q; cases q
  | stuck => rw [q1] at q; cases q
theorem snd_kin {X : Cx} {W : WX} {c : CC} (G : Good X cls W c Ph k) {a b : Expr} {op : CmpOp} {p : Pos} {tab : List (Str × D)} {ma : ME} {g : ME → ME} (h1 : c.kdOf b = some tab) (h2 : kdCmp op tab = some g) (ha : PE X a (tE X.K cls W ma)) : SndE X cls W (.Compare a [op] [b] p) (g ma) := by
  obtain ⟨x, q, rfl, hg, hd, d, es, n, hm, D, hz⟩ := kd_glb G h1
  have hb : PE X (.Name x q) (tC (.ref d)) := pe_glob hg hm rfl hd
  cases op <;> simp only [kdCmp, Option.some.injEq, reduceCtorEq] at h2 <;> subst h2
  · have f : ∀ {sg : L2.St} {H : Hp} {Q : VK}, tE X.K cls W (mKIn tab false ma) sg H Q → tOp (fun x y H Q => ∃ (z : Str) (r : Option Value), x = .str z ∧ y = .ref d ∧ PySem.W.nsIn X.K d z = some r ∧ Q (.bl r.isSome) H) (tE X.K cls W ma) (tC (.ref d)) sg H Q := by
      intro sg H Q h
      obtain ⟨rho, env, st, w, re, h⟩ := h
      refine ⟨rho, env, st, w, re, OkR.mono (OkR.bind h) fun d1 st1 rho1 H1 e1 w1 h1 v1 rv1 => ?_⟩
      split at h1
      · rename_i z
        cases rv1
        rcases hz z with ⟨e, en⟩ | ⟨t, u, v, e, en, _, _⟩
        · rw [e] at h1
          exact ⟨z, none, rfl, rfl, en, ok_here w1 h1 (.bl _)⟩
        · rw [e] at h1
          exact ⟨z, some u, rfl, rfl, en, ok_here w1 h1 (.bl _)⟩
      · exact h1.elim
    exact ⟨rfl, PE.weak (pe_cmpR (op_in_kd D) ha hb rfl) fun _ _ _ h => f h, fun _ => PT.weak (pt_cmpR (op_in_kd D) ha hb rfl) fun sg H Q h => tT_of mKIn_bl (fun h => f h) h, fun q => by cases q⟩
  · have f : ∀ {sg : L2.St} {H : Hp} {Q : VK}, tE X.K cls W (mKIn tab true ma) sg H Q → tOp (fun x y H Q => ∃ (z : Str) (r : Option Value), x = .str z ∧ y = .ref d ∧ PySem.W.nsIn X.K d z = some r ∧ Q (.bl (!r.isSome)) H) (tE X.K cls W ma) (tC (.ref d)) sg H Q := by
      intro sg H Q h
      obtain ⟨rho, env, st, w, re, h⟩ := h
      refine ⟨rho, env, st, w, re, OkR.mono (OkR.bind h) fun d1 st1 rho1 H1 e1 w1 h1 v1 rv1 => ?_⟩
      split at h1
      · rename_i z
        cases rv1
        rcases hz z with ⟨e, en⟩ | ⟨t, u, v, e, en, _, _⟩
        · rw [e] at h1
          exact ⟨z, none, rfl, rfl, en, ok_here w1 h1 (.bl _)⟩
        · rw [e] at h1
          exact ⟨z, some u, rfl, rfl, en, ok_here w1 h1 (.bl _)⟩
      · exact h1.elim
    exact ⟨rfl, PE.weak (pe_cmpR (op_notIn_kd D) ha hb rfl) fun _ _ _ h => f h, fun _ => PT.weak (pt_cmpR (op_notIn_kd D) ha hb rfl) fun sg H Q h => tT_of mKIn_bl (fun h => f h) h, fun q => by cases q⟩
theorem snd_kix {X : Cx} {W : WX} {c : CC} (G : Good X cls W c Ph k) {a b : Expr} {p : Pos} {tab : List (Str × D)} {mb : ME} (h1 : c.kdOf a = some tab) (hs : noSlice b = true) (hb : PE X b (tE X.K cls W mb)) : PE X (.Subscript a b p) (tE X.K cls W (mKIx tab mb)) := by
  obtain ⟨x, q, rfl, hg, hd, d, es, n, hm, D, hz⟩ := kd_glb G h1
  have ha : PE X (.Name x q) (tC (.ref d)) := pe_glob hg hm rfl hd
  refine ⟨fun pins s sg H Q I h => ?_⟩
  have h' : tOp (rIxD X.K X.w) (tC (.ref d)) (tE X.K cls W mb) sg H Q := by
    obtain ⟨rho, env, st, w, re, h⟩ := h
    refine ⟨rho, env, st, w, re, OkR.mono (OkR.bind h) fun d1 st1 rho1 H1 e1 w1 h1 v1 rv1 => ?_⟩
    split at h1
    · rename_i z
      cases rv1
      rcases hz z with ⟨e, en⟩ | ⟨t, u, v, e, en, rv, r⟩
      · rw [e] at h1
        exact h1.elim
      · rw [e] at h1
        exact ⟨d, z, v, rfl, rfl, ⟨es, n, u, D.at_, D.lit, en, rv⟩, ok_here w1 h1 (r _ _)⟩
    · exact h1.elim
  refine Subscript_ (binT ha hb I h' fun v u s2 x y H2 I2 rx ry q => ?_)
  exact ix_kdict _ b pins s2 sg H2 x y v u Q I2 rx ry q (plainIx hs v u)
theorem snd_e {n : Nat} (ih : SndAll cls Ph k n) {X : Cx} {W : WX} {c : CC} (G : Good X cls W c Ph k) {e : Expr} {m : ME} (h : ofE Ph (n + 1) c e = some m) : SndE X cls W e m := by
  unfold ofE at h
  split at h
  · -- a name
    split at h
    · rename_i i hi
      cases h
      obtain ⟨a1, a2, a3, a4⟩ := G.visOk hi
      exact sndE_plain rfl rfl (pe_varM a1 a2 a3 a4) fun _ => rfl
    · split at h
      · rename_i hc
        simp only [Bool.and_eq_true] at hc
        obtain ⟨d, hd, rfl⟩ := Option.map_eq_some_iff.mp h
        obtain ⟨u, v, hm, rv, r⟩ := G.gl _ _ hd
        exact sndE_plain rfl rfl (pe_globM (G.glOk hc.1) hm rv r (okName_ok hc.2).1) fun _ => rfl
      · cases h
  · -- a constant
    split at h
    · cases h; exact sndE_plain rfl rfl (PE.weak pe_int fun _ _ _ q => tE_const (fun _ _ => .int _) q) fun _ => rfl
    · cases h; exact sndE_plain rfl rfl (PE.weak pe_bl fun _ _ _ q => tE_const (fun _ _ => .bl _) q) fun _ => rfl
    · cases h; exact sndE_plain rfl rfl (PE.weak pe_non fun _ _ _ q => tE_const (fun _ _ => .non) q) fun _ => rfl
    · cases h; exact sndE_plain rfl rfl (PE.weak pe_str fun _ _ _ q => tE_const (fun _ _ => .str _) q) fun _ => rfl
    · cases h
  · -- BinOp
    split at h
    · rename_i f ma mb h1 h2 h3
      cases h
      obtain ⟨r, ho, hop⟩ := binF_ok (X := X) (cls := cls) (W := W) h1
      exact sndE_plain rfl rfl (pe_binM ho hop (ih.e G h2).pe (ih.e G h3).pe) fun _ => rfl
    · cases h
  · -- -a
    obtain ⟨ma, h1, rfl⟩ := Option.map_eq_some_iff.mp h
    exact sndE_plain rfl rfl (pe_negM (ih.e G h1).pe) fun _ => rfl
  · -- not a
    split at h
    · rename_i ht
      obtain ⟨ma, h1, rfl⟩ := Option.map_eq_some_iff.mp h
      exact ⟨rfl, pe_notM (ih.e G h1).pe, fun _ => pt_notM ((ih.e G h1).pt ht), fun q => by cases q⟩
    · cases h
  · -- one
    rename_i op a p
    split at h
    · rename_i ht
      have s := ih.e G h
      have pw : PW X (.BoolOp op [a] p) (tTm X.K cls W m) := by
        cases op with
        | And => exact pw_and1 (s.pt ht)
        | Or => exact pw_or1 (s.pt ht)
      exact ⟨rfl, pe_one s.pe, fun _ => pw.pt, fun _ => pw⟩
    · cases h
  · -- and
    split at h
    · rename_i ma mb h1 h2
      split at h
      · rename_i ht
        cases h
        have a := ih.e G h1
        have b := ih.e G h2
        have pw := pw_andM (a.pt ht) (b.pw rfl)
        exact ⟨rfl, pe_andM a.pe b.pe, fun _ => pw.pt, fun _ => pw⟩
      · cases h
    · cases h
  · -- or
    split at h
    · rename_i ma mb h1 h2
      split at h
      · rename_i ht
        cases h
        have a := ih.e G h1
        have b := ih.e G h2
        have pw := pw_orM (a.pt ht) (b.pw rfl)
        exact ⟨rfl, pe_orM a.pe b.pe, fun _ => pw.pt, fun _ => pw⟩
      · cases h
    · cases h
  · -- a comparison
    split at h
    · rename_i f ma mb h1 h2 h3
      split at h
      · rename_i hm
        cases h
        obtain ⟨r, ho, hop⟩ := cmpF_ok (X := X) (cls := cls) (W := W) G.un h1
        exact ⟨rfl, pe_cmpM ho hop hm (ih.e G h2).pe (ih.e G h3).pe, fun _ => pt_cmpM ho hop (cmpF_bl h1) hm (ih.e G h2).pe (ih.e G h3).pe, fun q => by cases q⟩
      · cases h
    · rename_i f ma h1 h2 h3
      split at h
      · rename_i tab h4
        obtain ⟨g, h5, rfl⟩ := Option.map_eq_some_iff.mp h
        exact snd_kin G h4 h5 (ih.e G h2).pe
      · cases h
    · cases h
  · -- a chain
    split at h
    · rename_i f g ma mb md h1 h2 h3 h4 h5
      split at h
      · rename_i hm
        cases h
        obtain ⟨r, ho, hop⟩ := cmpF_ok (X := X) (cls := cls) (W := W) G.un h1
        obtain ⟨r', ho', hop'⟩ := cmpF_ok (X := X) (cls := cls) (W := W) G.un h2
        have a := (ih.e G h3).pe
        have b := (ih.e G h4).pe
        have d := (ih.e G h5).pe
        exact ⟨rfl, PE.weak (pe_chain ho ho' a b d (lastMarks_no hm)) fun _ _ _ q => tE_chain hop hop' q, fun _ => PT.weak (pt_chain ho ho' a b d (lastMarks_no hm)) fun sg H Q q => tT_of (mChain_bl (cmpF_bl h2)) (fun q => tE_chain hop hop' q) q, fun q => by cases q⟩
      · cases h
    · cases h
  · -- a if t else b
    split at h
    · rename_i mt ma mb h1 h2 h3
      split at h
      · rename_i ht
        cases h
        exact ⟨rfl, pe_ifM ((ih.e G h1).pt ht) (ih.e G h2).pe (ih.e G h3).pe, fun q => (by cases q), fun q => (by cases q)⟩
      · cases h
    · cases h
  · -- a tuple
    obtain ⟨ms, h1, rfl⟩ := Option.map_eq_some_iff.mp h
    exact sndE_plain rfl rfl (pe_tupM (ih.es G h1).2) fun _ => rfl
  · -- a list
    obtain ⟨ms, h1, rfl⟩ := Option.map_eq_some_iff.mp h
    split
    · exact sndE_plain rfl rfl (pe_newM (ih.es G h1).2) fun _ => rfl
    · exact sndE_plain rfl rfl (pe_lstM (ih.es G h1).2) fun _ => rfl
  · -- {}
    cases h
    split
    · exact sndE_plain rfl rfl pe_newDM fun _ => rfl
    · exact sndE_plain rfl rfl pe_dic0M fun _ => rfl
  · -- {a: b}
    split at h
    · rename_i ma mb h1 h2
      cases h
      exact sndE_plain rfl rfl (pe_dic1M (ih.e G h1).pe (ih.e G h2).pe) fun _ => rfl
    · cases h
  · -- a slice
    split at h
    · rename_i ma ml mh h1 h2 h3
      cases h
      exact sndE_plain rfl rfl (pe_slM (ih.e G h1).pe (ih.o G h2) (ih.o G h3)) fun _ => rfl
    · cases h
  · -- a slice with a step
    split at h
    · rename_i ma ml mh ms h1 h2 h3 h4
      cases h
      exact sndE_plain rfl rfl (pe_stM (ih.e G h1).pe (ih.o G h2) (ih.o G h3) (po_someM (ih.e G h4).pe)) fun _ => rfl
    · cases h
  · -- an item
    split at h
    · rename_i ma mb h1 h2
      split at h
      · rename_i hs
        cases h
        exact sndE_plain rfl rfl (pe_ixM (by have := G.un; omega) hs (ih.e G h1).pe (ih.e G h2).pe) fun _ => rfl
      · cases h
    · rename_i mb h1 h2
      split at h
      · rename_i hs
        obtain ⟨tab, h3, rfl⟩ := Option.map_eq_some_iff.mp h
        exact sndE_plain rfl rfl (snd_kix G h3 hs (ih.e G h2).pe) fun _ => rfl
      · cases h
    · cases h
  · -- f()
    split at h
    · rename_i hc
      simp only [Bool.and_eq_true] at hc
      obtain ⟨i, hi, rfl⟩ := Option.map_eq_some_iff.mp h
      obtain ⟨fa, fd, ps, hm, hk, hb, F⟩ := G.fns i _ (ixOf_get hi)
      exact sndE_plain rfl rfl (pe_call0M F G.room (G.glOk hc.1) hm hk hb G.tk (okName_ok hc.2).1) fun _ => rfl
    · cases h
  · -- f(..)
    split at h
    · rename_i hc
      simp only [Bool.and_eq_true] at hc
      split at h
      · rename_i i hi
        obtain ⟨ms, h1, rfl⟩ := Option.map_eq_some_iff.mp h
        obtain ⟨fa, fd, ps, hm, hk, hb, F⟩ := G.fns i _ (ixOf_get hi)
        have a := ih.es G h1
        exact sndE_plain rfl rfl (pe_callM F G.room (G.glOk hc.1) hm hk hb G.tk (okName_ok hc.2).1 a.1 a.2) fun _ => rfl
      · split at h
        · rename_i hbl
          have ok := okName_ok hc.2
          split at h
          · rename_i f hf
            obtain ⟨ms, h1, rfl⟩ := Option.map_eq_some_iff.mp h
            obtain ⟨id, r, hv, hcr, hop⟩ := bltB_ok (X := X) (cls := cls) (W := W) G.calm hf
            have a := ih.es G h1
            exact sndE_plain rfl rfl (pe_callBM hcr hop (G.glOk hc.1) (G.blt _ hbl) hv ok.2.2 ok.1 a.1 a.2) fun _ => rfl
          · split at h
            · rename_i f hf
              obtain ⟨ms, h1, rfl⟩ := Option.map_eq_some_iff.mp h
              obtain ⟨T, r, hv, hcr, hop⟩ := bltT_ok (X := X) (cls := cls) (W := W) hf
              have a := ih.es G h1
              exact sndE_plain rfl rfl (pe_callTyM hcr hop (G.glOk hc.1) (G.blt _ hbl) hv ok.2.2 ok.1 a.1 a.2) fun _ => rfl
            · split at h
              · split at h
                · rename_i hi
                  obtain ⟨rfl, hg2, hb2⟩ := hi
                  simp only [Bool.and_eq_true] at hg2
                  have ok2 := okName_ok hg2.2
                  split at h
                  · rename_i T ma h1 h2
                    cases h
                    exact sndE_plain rfl rfl (pe_isiM (ih.e G h2).plain (ih.e G h2).pe (G.glOk hc.1) (G.blt _ hbl) (G.glOk hg2.1) (G.blt _ hb2) (tyOf_ok h1) ok2.2.2 ok2.1) fun _ => rfl
                  · cases h
                · cases h
              · cases h
        · cases h
    · cases h
  · -- o.m()
    split at h
    · rename_i hc
      simp only [Bool.and_eq_true] at hc
      split at h
      · rename_i f mo h1 h2
        cases h
        obtain ⟨id, r, slot, hty, hm, hop⟩ := lstM_ok (X := X) (cls := cls) (W := W) h1
        exact sndE_plain rfl rfl (pe_methL0 slot hty hm hop hc.1 hc.2 (ih.e G h2).pe) fun _ => rfl
      · cases h
    · cases h
  · -- o.m(..)
    split at h
    · rename_i hc
      simp only [Bool.and_eq_true, decide_eq_true_eq] at hc
      split at h
      · rename_i f mo ms h1 h2 h3
        cases h
        obtain ⟨id, r, slot, hty, hm, hop⟩ := lstM_ok (X := X) (cls := cls) (W := W) h1
        have a := ih.es G h3
        exact sndE_plain rfl rfl (pe_methL slot hty hm hop hc.1.1 hc.1.2 a.1 hc.2 (ih.e G h2).pe a.2) fun _ => rfl
      · rename_i mo ms h1 h2 h3
        obtain ⟨f, hf, rfl⟩ := Option.map_eq_some_iff.mp h
        obtain ⟨id, r, slot, hty, hm, hop⟩ := strM_ok (X := X) (cls := cls) (W := W) G.calm G.tk hf
        have a := ih.es G h3
        exact sndE_plain rfl rfl (pe_methS slot hty hm hop hc.1.1 hc.1.2 a.1 hc.2 (ih.e G h2).pe a.2) fun _ => rfl
      · cases h
    · cases h
  · -- a comprehension
    split at h
    · rename_i mi vs g kk me h1
      cases h
      exact sndE_plain rfl rfl ((ih.lc G h1).pe _) fun _ => rfl
    · cases h
  · cases h
theorem snd_all : ∀ n : Nat, SndAll cls Ph k n
  | 0 => ⟨fun _ _ _ h => (by unfold ofE at h; cases h), fun _ _ _ h => (by unfold ofEs at h; cases h), fun _ _ _ h => (by unfold ofO at h; cases h), fun _ _ _ _ h => (by unfold ofI at h; cases h), fun _ _ _ _ _ _ _ _ _ _ _ h => (by unfold ofLc at h; cases h)⟩
  | n + 1 => ⟨fun G _ _ h => snd_e (snd_all n) G h, fun G _ _ h => snd_es (snd_all n) G h, fun G _ _ h => snd_o (snd_all n) G h, fun G _ _ _ h => snd_i (snd_all n) G h, fun G _ _ _ _ _ _ _ _ _ _ h => snd_lc (snd_all n) G h⟩
end
end MI
/-! MiM: the reading of statements and defs is right. -/
namespace MI
open PySem PySem.Spec PyProof.Rows L2

/-! ### suites of except clauses: simple ones -/
def ofQ (c : CC) (e : Expr) : Option ME := match e with
    | .Name x _ => (match c.slot x with
      | some i => some (mVar i)
      | none => none)
    | .Constant k _ _ => (match k with
      | .int i => some (mC (.int i))
      | .bool b => some (mC (.bl b))
      | .none => some (mC .non)
      | .str s => some (mC (.str s))
      | _ => none)
    | _ => none
def ofQS (c : CC) (s : Stmt) : Option MS := match s with
  | .Return (some e) _ => (ofQ c e).map sRet
  | .Pass _ => some sSkip
  | .Continue _ => some fun env st => .ct env st
  | .Assign [.Name x _] e _ => (match c.tslot x, ofQ c e with
    | some i, some m => some (sAsg m (gVar i))
    | _, _ => none)
  | _ => none
def ofQSs (c : CC) : List Stmt → Option MS
  | [] => some sSkip
  | s :: ss => match ofQS c s, ofQSs c ss with
    | some a, some b => some (sSeq a b)
    | _, _ => none
def ofH (c : CC) : List ExceptHandler → Option (List (Nat × MS))
  | [] => some []
  | .ExceptHandler (some (.Name x _)) none (b :: bs) _ :: hs => if (c.glb x && okName x) = true then (match ixOf c.xcs x, ofQSs c (b :: bs), ofH c hs with
    | some i, some m, some r => some ((i, m) :: r)
    | _, _, _ => none) else none
  | _ => none

/-- is the assignment of a comprehension one step with it -/
def swB (c : CC) (e : Expr) (x : Str) (p : Pos) : Bool := match e with
  | .ListComp _ _ scope q => (match c.sc.kind with | .function => true | _ => false) && (match c.kind x with | some .local => true | _ => false) && (p.line == q.line) && !(scope.names.any fun (n, k) => n == x && (k == .local || k == .cell))
  | _ => false

mutual
noncomputable def ofS (Ph : Nat → List D → Sto → R D) : Nat → CC → Stmt → Option MS
  | 0, _, _ => none
  | n + 1, c, s => match s with
    | .Return (some e) _ => (ofE Ph n c e).map sRet
    | .Return none _ => some (sRet (mC .non))
    | .Pass _ => some sSkip
    | .Break _ => some fun env st => .bk env st
    | .Continue _ => some fun env st => .ct env st
    | .Expr e _ => if noComp e = true then (ofE Ph n c e).map sExpr else none
    | .Assign [.Name x p] (.ListComp elt [⟨tg, it, ifs, 0⟩] scope q) _ => if swB c (.ListComp elt [⟨tg, it, ifs, 0⟩] scope q) x p = true then (match c.tslot x, ofLc Ph n c elt tg it ifs scope with
      | some i, some (mi, vs, g, kk, me) => some (sAsg (if c.mt q.line q.col then mCompN mi vs g kk me else mComp mi vs g kk me) (gVar i))
      | _, _ => none) else none
    | .Assign [.Name x _] e _ => if noComp e = true then (match c.tslot x, ofE Ph n c e with
      | some i, some m => some (sAsg m (gVar i))
      | _, _ => none) else none
    | .Assign [.Tuple es _ _] e _ => if (noComp e && noTuple e) = true then (match c.tslots es, ofE Ph n c e with
      | some is, some m => some (sAsg m (gTupV is))
      | _, _ => none) else none
    | .Assign [.Subscript o i _] e _ => if (noComp e && noSlice i) = true then (match ofE Ph n c o, ofE Ph n c i, ofE Ph n c e with
      | some mo, some mi, some m => some (sSet mo mi m)
      | _, _, _ => none) else none
    | .AugAssign (.Name x _) op e _ => (match c.tslot x, augF op, ofE Ph n c e with
      | some i, some f, some m => some (sAug i f m)
      | _, _, _ => none)
    | .If t a b _ => if testable t = true then (match ofE Ph n c t, ofSs Ph n c a, ofSs Ph n c b with
      | some mt, some ma, some mb => some (sIf mt ma mb)
      | _, _, _ => none) else none
    | .While t a [] _ => if testable t = true then (match ofE Ph n c t, ofSs Ph n c a with
      | some mt, some ma => some (sWhile mt ma c.fuel)
      | _, _ => none) else none
    | .For tg it a [] _ => if noSet it = true then (match c.tg tg, ofI Ph n c tg it, ofSs Ph n c a with
      | some (_, g), some mi, some ma => some (sFor mi g ma)
      | _, _, _ => none) else none
    | .Raise (some (.Call (.Name x _) [] [] _)) none _ => if (c.glb x && okName x) = true then (ixOf c.xcs x).map sRaise else none
    | .Try body (h0 :: hs) [] [] _ => if c.dfn = true then (match ofSs Ph n c body, ofH c (h0 :: hs) with
      | some mb, some l => some (sTry c.sub mb l)
      | _, _ => none) else none
    | _ => none
noncomputable def ofSs (Ph : Nat → List D → Sto → R D) : Nat → CC → List Stmt → Option MS
  | 0, _, _ => none
  | _ + 1, _, [] => some sSkip
  | n + 1, c, s :: ss => match ofS Ph n c s, ofSs Ph n c ss with
    | some a, some b => some (sSeq a b)
    | _, _ => some sStuck
end
section
variable {cls : Nat → Value} {Ph : Nat → List D → Sto → R D} {k : Nat}
/-! ### the suites -/
theorem ofQ_ok {X : Cx} {W : WX} {c : CC} (G : Good X cls W c Ph k) {e : Expr} {m : ME} (h : ofQ c e = some m) (a : Addr) (pn : List (Addr × Obj)) : noComp e = true ∧ PE (X.suite a pn) e (tE X.K cls WF m) ∧ ∀ env st c st', m env st ≠ .exc c st' := by
  unfold ofQ at h
  split at h
  · split at h
    · rename_i i hi
      cases h
      obtain ⟨a1, a2, a3, a4⟩ := G.visOk hi
      refine ⟨rfl, pe_varM (X := X.suite a pn) a1 a2 a3 a4, fun env st c st' q => ?_⟩
      unfold mVar at q
      split at q <;> cases q
    · cases h
  · split at h
    · cases h; exact ⟨rfl, PE.weak (pe_int (X := X.suite a pn)) fun _ _ _ q => tE_const (fun _ _ => .int _) q, fun env st c st' q => by cases q⟩
    · cases h; exact ⟨rfl, PE.weak (pe_bl (X := X.suite a pn)) fun _ _ _ q => tE_const (fun _ _ => .bl _) q, fun env st c st' q => by cases q⟩
    · cases h; exact ⟨rfl, PE.weak (pe_non (X := X.suite a pn)) fun _ _ _ q => tE_const (fun _ _ => .non) q, fun env st c st' q => by cases q⟩
    · cases h; exact ⟨rfl, PE.weak (pe_str (X := X.suite a pn)) fun _ _ _ q => tE_const (fun _ _ => .str _) q, fun env st c st' q => by cases q⟩
    · cases h
  · cases h
theorem ofQS_ok {X : Cx} {W : WX} {c : CC} (G : Good X cls W c Ph k) {s : Stmt} {m : MS} (h : ofQS c s = some m) (a : Addr) (pn : List (Addr × Obj)) : PS (X.suite a pn) s (tS X.K cls WF m) ∧ Quiet m := by
  unfold ofQS at h
  split at h
  · obtain ⟨me, h1, rfl⟩ := Option.map_eq_some_iff.mp h
    obtain ⟨hc, pe, q⟩ := ofQ_ok G h1 a pn
    refine ⟨ps_retM (X := X.suite a pn) pe, fun env st => ?_⟩
    unfold sRet
    cases r : me env st with
    | exc c st' => exact absurd r (q env st c st')
    | ok d st' => trivial
    | stuck => trivial
  · cases h
    exact ⟨ps_passM (X := X.suite a pn), fun env st => trivial⟩
  · cases h
    exact ⟨ps_contM (X := X.suite a pn), fun env st => trivial⟩
  · split at h
    · rename_i i me h1 h2
      cases h
      obtain ⟨hc, pe, q⟩ := ofQ_ok G h2 a pn
      obtain ⟨a1, a2, a3⟩ := G.tgtOk h1
      refine ⟨ps_setM (X := X.suite a pn) G.nd a1 a2 a3 pe (swaps_no hc), fun env st => ?_⟩
      unfold sAsg
      cases r : me env st with
      | exc c st' => exact absurd r (q env st c st')
      | ok d st' => trivial
      | stuck => trivial
    · cases h
  · cases h
theorem ofQSs_ok {X : Cx} {W : WX} {c : CC} (G : Good X cls W c Ph k) (a : Addr) (pn : List (Addr × Obj)) : ∀ {ss : List Stmt} {m : MS}, ofQSs c ss = some m → PSs (X.suite a pn) ss (tS X.K cls WF m) ∧ Quiet m
  | [], m, h => by
    cases h
    exact ⟨pss_nilM (X := X.suite a pn), fun env st => trivial⟩
  | s :: ss, m, h => by
    unfold ofQSs at h
    split at h
    · rename_i m1 m2 h1 h2
      cases h
      obtain ⟨p1, q1⟩ := ofQS_ok G h1 a pn
      obtain ⟨p2, q2⟩ := ofQSs_ok G a pn h2
      refine ⟨pss_consM (X := X.suite a pn) p1 p2, fun env st => ?_⟩
      have z := q1 env st
      unfold sSeq
      cases r : m1 env st with
      | exc c env' st' => rw [r] at z; exact z.elim
      | nx env' st' => exact q2 env' st'
      | rt d st' => trivial
      | bk env' st' => trivial
      | ct env' st' => trivial
      | stuck => trivial
    · cases h
theorem ofH_ok {X : Cx} {W : WX} {c : CC} (G : Good X cls W c Ph k) : ∀ {hs : List ExceptHandler} {l : List (Nat × MS)}, ofH c hs = some l → HdsOk X hs (l.map fun h => (cls h.1, fun _ _ _ => tS X.K cls WF h.2)) ∧ ∀ h ∈ l, Quiet h.2
  | [], l, h => by
    cases h
    exact ⟨.nil, fun h hh => by cases hh⟩
  | hd :: hs, l, h => by
    unfold ofH at h
    split at h
    · rename_i e; cases e
    · rename_i hs' x np b bs pos' e1
      cases e1
      split at h
      · rename_i hc
        simp only [Bool.and_eq_true] at hc
        split at h
        · rename_i i m r h1 h2 h3
          cases h
          obtain ⟨p, q⟩ := ofH_ok G h3
          obtain ⟨C, hC, hm, _⟩ := G.xcs i _ (ixOf_get h1)
          refine ⟨.cons ⟨G.glOk hc.1, (okName_ok hc.2).1, .inl (by rw [hm]; exact congrArg some hC.symm)⟩ (fun a oe cls' d pn _ _ => (ofQSs_ok G a ((a, oe) :: pn) h2).1) p, fun h hh => ?_⟩
          rcases List.mem_cons.mp hh with rfl | hh
          · exact (ofQSs_ok G 0 [] h2).2
          · exact q h hh
        · cases h
      · cases h
    · cases h
theorem ofH_ne {c : CC} {h0 : ExceptHandler} {hs : List ExceptHandler} {l : List (Nat × MS)} (h : ofH c (h0 :: hs) = some l) : c.xcs ≠ [] := fun e => by
  unfold ofH at h
  split at h
  · rename_i z; cases z
  · split at h
    · split at h
      · rename_i i m r h1 h2 h3
        rw [e] at h1
        cases h1
      · cases h
    · cases h
  · cases h
theorem swB_ok {X : Cx} {W : WX} {c : CC} (G : Good X cls W c Ph k) {elt : Expr} {gs : List Comprehension} {scope : Scope} {q p : Pos} {x : Str} {l : Nat} (h : swB c (.ListComp elt gs scope q) x p = true) : swapsWith (.ListComp elt gs scope q) (some (.Name x p)) l X.env = pure true ∧ X.env.scope.names.lookup x = some .local := by
  unfold swB CC.kind at h
  simp only [Bool.and_eq_true, Bool.not_eq_true'] at h
  obtain ⟨⟨⟨h1, h2⟩, h3⟩, h4⟩ := h
  have k1 : X.env.scope.kind = .function := by
    rw [G.sc]
    split at h1
    · assumption
    · cases h1
  have k2 : X.env.scope.names.lookup x = some .local := by
    rw [G.sc]
    split at h2
    · assumption
    · cases h2
  exact ⟨sw_true k1 k2 h3 h4, k2⟩
/-! ### statements -/
structure SndS (cls : Nat → Value) (Ph : Nat → List D → Sto → R D) (k n : Nat) : Prop where
  s : ∀ {X W c}, Good X cls W c Ph k → ∀ {s m}, ofS Ph n c s = some m → PS X s (tS X.K cls W m)
  ss : ∀ {X W c}, Good X cls W c Ph k → ∀ {ss m}, ofSs Ph n c ss = some m → PSs X ss (tS X.K cls W m)
theorem snd_ss {n : Nat} (ih : SndS cls Ph k n) {X : Cx} {W : WX} {c : CC} (G : Good X cls W c Ph k) {ss : List Stmt} {m : MS} (h : ofSs Ph (n + 1) c ss = some m) : PSs X ss (tS X.K cls W m) := by
  cases ss with
  | nil =>
    unfold ofSs at h
    cases h
    exact pss_nilM
  | cons s ss =>
    unfold ofSs at h
    split at h
    · rename_i a b h1 h2
      cases h
      exact pss_consM (ih.s G h1) (ih.ss G h2)
    · cases h
      exact pss_stuck
theorem snd_s {n : Nat} (ih : SndS cls Ph k n) {X : Cx} {W : WX} {c : CC} (G : Good X cls W c Ph k) {s : Stmt} {m : MS} (h : ofS Ph (n + 1) c s = some m) : PS X s (tS X.K cls W m) := by
  have ie := snd_all (cls := cls) (Ph := Ph) (k := k) n
  unfold ofS at h
  split at h
  · obtain ⟨me, h1, rfl⟩ := Option.map_eq_some_iff.mp h
    exact ps_retM (ie.e G h1).pe
  · cases h; exact ps_retNM
  · cases h; exact ps_passM
  · cases h; exact ps_breakM
  · cases h; exact ps_contM
  · split at h
    · rename_i hc
      obtain ⟨me, h1, rfl⟩ := Option.map_eq_some_iff.mp h
      exact ps_exprM (ie.e G h1).pe hc
    · cases h
  · split at h
    · rename_i hsw
      split at h
      · rename_i i mi vs g kk me h1 h2
        cases h
        obtain ⟨sw, loc⟩ := swB_ok G hsw
        exact (ie.lc G h2).set _ (G.tgtOk h1).1 loc sw
      · cases h
    · cases h
  · split at h
    · rename_i hc
      split at h
      · rename_i i me h1 h2
        cases h
        obtain ⟨a1, a2, a3⟩ := G.tgtOk h1
        exact ps_setM G.nd a1 a2 a3 (ie.e G h2).pe (swaps_no hc)
      · cases h
    · cases h
  · split at h
    · rename_i hc
      simp only [Bool.and_eq_true] at hc
      split at h
      · rename_i is me h1 h2
        cases h
        exact ps_tupM G.calm G.nd (G.names h1) (ie.e G h2).pe hc.1 hc.2
      · cases h
    · cases h
  · split at h
    · rename_i hc
      simp only [Bool.and_eq_true] at hc
      split at h
      · rename_i mo mi me h1 h2 h3
        cases h
        exact ps_setIxM (by have := G.un; omega) (ie.e G h1).pe (ie.e G h2).pe (ie.e G h3).pe hc.1 hc.2
      · cases h
    · cases h
  · split at h
    · rename_i i f me h1 h2 h3
      cases h
      obtain ⟨a1, a2, a3⟩ := G.tgtOk h1
      exact ps_augM h2 G.nd a1 a2 a3 (ie.e G h3).pe
    · cases h
  · split at h
    · rename_i ht
      split at h
      · rename_i mt ma mb h1 h2 h3
        cases h
        exact ps_ifM ((ie.e G h1).pt ht) (ih.ss G h2) (ih.ss G h3)
      · cases h
    · cases h
  · split at h
    · rename_i ht
      split at h
      · rename_i mt ma h1 h2
        cases h
        exact ps_whileM G.own ((ie.e G h1).pt ht) (ih.ss G h2)
      · cases h
    · cases h
  · split at h
    · rename_i hs
      split at h
      · rename_i vs g mi ma h1 h2 h3
        cases h
        exact ps_forM G.own G.calm hs (ie.i G h2) (G.tgPG h1) (ih.ss G h3)
      · cases h
    · cases h
  · split at h
    · rename_i hc
      simp only [Bool.and_eq_true] at hc
      obtain ⟨i, hi, rfl⟩ := Option.map_eq_some_iff.mp h
      obtain ⟨C, hC, hm, he, hk, hb, ht⟩ := G.xcs i _ (ixOf_get hi)
      exact ps_raiseM hC G.calm G.tk he hm hk (raises_own hb ht) (G.glOk hc.1) (okName_ok hc.2).1
    · cases h
  · split at h
    · rename_i hd
      split at h
      · rename_i mb l h1 h2
        cases h
        obtain ⟨s1, s2⟩ := G.stk hd
        obtain ⟨p, q⟩ := ofH_ok G h2
        exact ps_tryM s1 s2 G.tk (fun W' pn xe tk own => ih.ss (G.tr pn xe tk own) h1) p (G.sub (ofH_ne h2)) q
      · cases h
    · cases h
  · cases h
theorem sndS_all : ∀ n : Nat, SndS cls Ph k n
  | 0 => ⟨fun _ _ _ h => (by unfold ofS at h; cases h), fun _ _ _ h => (by unfold ofSs at h; cases h)⟩
  | n + 1 => ⟨fun G _ _ h => snd_s (sndS_all n) G h, fun G _ _ h => snd_ss (sndS_all n) G h⟩
end
end MI
/-! MiN: defs, the table of a text, the law. -/
namespace MI
open PySem PySem.Spec PyProof.Rows L2
structure DefR where
  arity : Nat
  slots : Nat
  frz : Bool
  body : (Nat → List D → Sto → R D) → MS
def startD (n : Nat) (ds : List D) : DEnv := ds.map some ++ List.replicate (n - ds.length) none
def belowO (n : Nat) : SO → Bool
  | .lst ds => belows n ds
  | .dic kvs => belowk n kvs
/-- what stood ahead stands as it stood, or knows nothing of what is new -/
def Same (st st' : Sto) : Prop := ∀ (i : Nat) (o : SO), i < st.length → st'[i]? = some o → st[i]? = some o ∨ belowO st.length o = true
open Classical in
/-- what a def made for itself is let go; what it hands back goes by value -/
noncomputable def freeze (st : Sto) (d : D) (st' : Sto) : R D :=
  if st'.length = st.length then .ok d st'
  else if Same st st' then (match d with
    | .ref l => if l < st.length then .ok d (st'.take st.length) else (match st'[l]? with
      | some (.lst ds) => if belows st.length ds = true then .ok (.lst ds) (st'.take st.length) else .ok d st'
      | some (.dic kvs) => if belowk st.length kvs = true then .ok (.dic kvs) (st'.take st.length) else .ok d st'
      | none => .ok d st')
    | d => if below st.length d = true then .ok d (st'.take st.length) else .ok d st')
  else .ok d st'
open Classical in
noncomputable def cutSt (st st' : Sto) : Sto := if st'.length = st.length then st' else if Same st st' then st'.take st.length else st'
noncomputable def runDef (d : DefR) (Ph : Nat → List D → Sto → R D) (ds : List D) (st : Sto) : R D :=
  if ds.length = d.arity then (match d.body Ph (startD d.slots ds) st with
    | .rt v st' => if d.frz = true then freeze st v st' else .ok v st'
    | .nx _ st' => if d.frz = true then .ok .non (cutSt st st') else .ok .non st'
    | .exc c _ st' => if d.frz = true then .exc c (cutSt st st') else .exc c st'
    | _ => .stuck) else .stuck
noncomputable def Phi (tbl : List DefR) : Nat → Nat → List D → Sto → R D
  | 0, _, _, _ => .stuck
  | n + 1, i, ds, st => match tbl[i]? with
    | some d => runDef d (Phi tbl n) ds st
    | none => .stuck

section
variable {K : PySem.W.Frag} {cls : Nat → Value} {W : WX} {sg : L2.St} {rho rho' : Rho} {H H' : Hp} {st st' : Sto}
mutual
theorem below_rel : ∀ {d : D} {v : V}, RelD K rho H d v → below rho.loc.length d = true
  | _, _, .non => by simp [below]
  | _, _, .bl b => by simp [below]
  | _, _, .int i => by simp [below]
  | _, _, .str x => by simp [below]
  | _, _, .tup h r => by simp only [below]; exact belows_rel r
  | _, _, .lst h n r => by simp only [below]; exact belows_rel r
  | _, _, .fz h r => by simp only [below]; exact belows_rel r
  | _, _, .dic h n r => by simp only [below]; exact belowk_rel r
  | _, _, .ref h => by
    simp only [below, decide_eq_true_eq]
    exact (List.getElem?_eq_some_iff.mp h).1
theorem belows_rel : ∀ {ds : List D} {vs : List V}, RelDs K rho H ds vs → belows rho.loc.length ds = true
  | _, _, .nil => by simp [belows]
  | _, _, .cons h t => by simp [belows, below_rel h, belows_rel t]
theorem belowk_rel : ∀ {ds : List (Key × D)} {vs : List (Key × V)}, RelK K rho H ds vs → belowk rho.loc.length ds = true
  | _, _, .nil => by simp [belowk]
  | _, _, .cons h t => by simp [belowk, below_rel h, belowk_rel t]
end
/-- seen with fewer objects -/
structure Narrow (rho rho' : Rho) : Prop where
  loc : ∃ n, rho'.loc = rho.loc ++ n
  res : rho'.res = rho.res
theorem Narrow.notMem (n : Narrow rho rho') {a : Addr} (h : a ∉ rho') : a ∉ rho := fun z => h (by
  obtain ⟨m, e⟩ := n.loc
  rcases z with z | z
  · exact .inl (by rw [e]; exact List.mem_append_left _ z)
  · exact .inr (by rw [n.res]; exact z))
mutual
theorem RelD.narrow (n : Narrow rho rho') : ∀ {d : D} {v : V}, RelD K rho' H d v → below rho.loc.length d = true → RelD K rho H d v
  | _, _, .non, _ => .non
  | _, _, .bl b, _ => .bl b
  | _, _, .int i, _ => .int i
  | _, _, .str x, _ => .str x
  | _, _, .tup h r, b => .tup h (RelDs.narrow n r (by simpa only [below] using b))
  | _, _, .lst h m r, b => .lst h (n.notMem m) (RelDs.narrow n r (by simpa only [below] using b))
  | _, _, .fz h r, b => .fz h (RelDs.narrow n r (by simpa only [below] using b))
  | _, _, .dic h m r, b => .dic h (n.notMem m) (RelK.narrow n r (by simpa only [below] using b))
  | _, _, .ref h, b => .ref (by
      obtain ⟨m, e⟩ := n.loc
      have hl := by simpa only [below, decide_eq_true_eq] using b
      rw [e, List.getElem?_append_left hl] at h
      exact h)
theorem RelDs.narrow (n : Narrow rho rho') : ∀ {ds : List D} {vs : List V}, RelDs K rho' H ds vs → belows rho.loc.length ds = true → RelDs K rho H ds vs
  | _, _, .nil, _ => .nil
  | _, _, .cons h t, b => by
    simp only [belows, Bool.and_eq_true] at b
    exact .cons (RelD.narrow n h b.1) (RelDs.narrow n t b.2)
theorem RelK.narrow (n : Narrow rho rho') : ∀ {ds : List (Key × D)} {vs : List (Key × V)}, RelK K rho' H ds vs → belowk rho.loc.length ds = true → RelK K rho H ds vs
  | _, _, .nil, _ => .nil
  | _, _, .cons h t, b => by
    simp only [belowk, Bool.and_eq_true] at b
    exact .cons (RelD.narrow n h b.1) (RelK.narrow n t b.2)
end
theorem Ext.narrow (e : Ext rho H rho' H') : Narrow rho rho' := ⟨let ⟨n, h, _⟩ := e.new; ⟨n, h⟩, e.res⟩
theorem Ext.back (e : Ext rho H rho' H') : Ext rho H rho H' := ⟨⟨[], by simp, fun b hb => absurd hb (by simp)⟩, rfl, e.keep, e.kres, e.tup, e.frz, e.liv⟩
theorem Wld.back (w : Wld K rho st H) (e : Ext rho H rho' H') (w' : Wld K rho' st' H') (s : Same st st') : Wld K rho (st'.take st.length) H' := by
  have hle : st.length ≤ st'.length := by
    obtain ⟨n, en, _⟩ := e.new
    rw [← w.len, ← w'.len, en, List.length_append]
    omega
  refine ⟨by rw [List.length_take, w.len]; omega, w.nd, fun l a o h1 h2 => ?_, w.dis, fun b hb => w'.rsv b (by rw [e.res]; exact hb)⟩
  have hl : l < st.length := by rw [← w.len]; exact (List.getElem?_eq_some_iff.mp h1).1
  rw [List.getElem?_take_of_lt hl] at h2
  have q := w'.obj l a o (e.get h1) h2
  have hb : belowO rho.loc.length o = true := by
    rcases s l o hl h2 with q0 | q0
    · have q1 := w.obj l a o h1 q0
      cases o with
      | lst ds =>
        obtain ⟨vs0, h0, r0⟩ := q1
        exact belows_rel r0
      | dic ds =>
        obtain ⟨vs0, h0, r0⟩ := q1
        exact belowk_rel r0
    · rw [w.len]; exact q0
  cases o with
  | lst ds =>
    obtain ⟨vs, h, r⟩ := q
    exact ⟨vs, h, r.narrow e.narrow hb⟩
  | dic ds =>
    obtain ⟨vs, h, r⟩ := q
    exact ⟨vs, h, r.narrow e.narrow hb⟩
theorem out_of_old (w : Wld K rho st H) (e : Ext rho H rho' H') (w' : Wld K rho' st' H') {l : Nat} {a : Addr} (h : rho'.loc[l]? = some a) (hl : ¬ l < st.length) : a ∉ rho := fun z => by
  rcases z with z | z
  · obtain ⟨i, hi, ei⟩ := List.mem_iff_getElem.mp z
    have h1 : rho.loc[i]? = some a := by rw [List.getElem?_eq_getElem hi, ei]
    have h2 := e.get h1
    obtain ⟨b1, e1⟩ := List.getElem?_eq_some_iff.mp h
    obtain ⟨b2, e2⟩ := List.getElem?_eq_some_iff.mp h2
    have : l = i := (List.getElem_inj w'.nd).mp (e1.trans e2.symm)
    rw [← w.len] at hl
    omega
  · exact w'.dis a (List.mem_of_getElem? h) (by rw [e.res]; exact z)
theorem freeze_ok {d : D} {Q : VK} (w : Wld K rho st H) (h : OkR K cls W sg rho H (freeze st d st') (VQ K Q)) : OkR K cls W sg rho H (.ok d st') (VQ K Q) := by
  intro rho' H' e w' v rv
  unfold freeze at h
  split at h
  · exact h rho' H' e w' v rv
  · split at h
    · rename_i hs
      have wb := w.back e w' hs
      split at h
      · rename_i l
        split at h
        · rename_i hl
          exact h rho H' e.back wb v (rv.narrow e.narrow (by simp only [below, decide_eq_true_eq]; rw [w.len]; exact hl))
        · rename_i hl
          split at h
          · rename_i ds hd
            split at h
            · rename_i hb
              obtain ⟨a, vs, rfl, ha, h1, h2⟩ := ref_lst w' rv hd
              exact h rho H' e.back wb _ (.lst h1 (out_of_old w e w' ha hl) (h2.narrow e.narrow (by rw [w.len]; exact hb)))
            · exact h rho' H' e w' v rv
          · rename_i ds hd
            split at h
            · rename_i hb
              obtain ⟨a, vs, rfl, ha, h1, h2⟩ := ref_dic w' rv hd
              exact h rho H' e.back wb _ (.dic h1 (out_of_old w e w' ha hl) (h2.narrow e.narrow (by rw [w.len]; exact hb)))
            · exact h rho' H' e w' v rv
          · exact h rho' H' e w' v rv
      · split at h
        · rename_i hb
          exact h rho H' e.back wb v (rv.narrow e.narrow (by rw [w.len]; exact hb))
        · exact h rho' H' e w' v rv
    · exact h rho' H' e w' v rv
theorem cut_ok {d : D} {Q : VK} (hd : below 0 d = true) (w : Wld K rho st H) (h : OkR K cls W sg rho H (.ok d (cutSt st st')) (VQ K Q)) (hn : ∀ rho' H' v, RelD K rho' H' d v → RelD K rho H' d v) : OkR K cls W sg rho H (.ok d st') (VQ K Q) := by
  intro rho' H' e w' v rv
  unfold cutSt at h
  split at h
  · exact h rho' H' e w' v rv
  split at h
  · rename_i hs
    exact h rho H' e.back (w.back e w' hs) v (hn rho' H' v rv)
  · exact h rho' H' e w' v rv
theorem cut_exc {c : Nat} {P : D → Sto → Rho → Hp → Prop} (w : Wld K rho st H) (h : OkR K cls W sg rho H (.exc c (cutSt st st')) P) : OkR K cls W sg rho H (.exc c st') P := by
  intro rho' H' e w'
  unfold cutSt at h
  split at h
  · exact h rho' H' e w'
  split at h
  · rename_i hs
    exact h rho H' e.back (w.back e w' hs)
  · exact h rho' H' e w'
theorem relDs_map_start {N : List Str} {ds : List D} {vs : List V} (r : RelDs K rho H ds vs) : RelEnv K rho H (startD N.length ds) (L2.start N vs) := by
  have hl := r.length
  refine ⟨by simp [startD, L2.start, hl], fun i d h => ?_⟩
  unfold startD at h
  by_cases hi : i < ds.length
  · rw [List.getElem?_append_left (by simpa using hi), List.getElem?_map] at h
    obtain ⟨d', hd', e⟩ := Option.map_eq_some_iff.mp h
    cases e
    obtain ⟨v, hv, rv⟩ := r.get hd'
    refine ⟨v, ?_, rv⟩
    unfold L2.start
    rw [List.getElem?_append_left (by simpa [hl] using hi), List.getElem?_map, hv]
    rfl
  · rw [List.getElem?_append_right (by simpa using hi), List.getElem?_replicate] at h
    split at h <;> cases h
end

/-! ### a def -/
structure ModF (P : Program) (w : World) (K : PySem.W.Frag) (mg : Str → Option Value) (base : Heap) (cls : Nat → Value) (c : CC) (Ph : Nat → List D → Sto → R D) (k : Nat) : Prop where
  blt : ∀ x ∈ c.blt, mg x = none
  fns : ∀ (i : Nat) (x : Str), c.fns[i]? = some x → FOk P w K mg base cls k x (Ph i)
  gl : ∀ (x : Str) (d : D), c.gl.lookup x = some d → GOk K mg x d
  kd : ∀ (x : Str) (t : List (Str × D)), c.kd.lookup x = some t → KOk K w mg x t
  xcs : ∀ (i : Nat) (x : Str), c.xcs[i]? = some x → XOk K mg (cls i) x
  sub : c.xcs ≠ [] → ∀ a b, PySem.W.exmOne K (cls a) (cls b) = some (c.sub a b)
/-- the context of a def -/
def CC.at (c : CC) (N : List Str) (sc : Scope) : CC := { c with N := N, sc := sc, dfn := true, cok := fun _ => true }
theorem def_ok {P : Program} {w : World} {K : PySem.W.Frag} {mg : Str → Option Value} {base : Heap} {cls : Nat → Value} {c : CC} {Ph : Nat → List D → Sto → R D} {k n : Nat} {x : Str} {s : Stmt} {f : Addr} {fd : FuncData} {N ps : List Str} {d : DefR}
    (M : ModF P w K mg base cls c Ph k) (F : Fun K x x s f fd) (S : FnScope N ps (defScope s)) (ha : d.arity = ps.length) (hs : d.slots = N.length) (hb : ofSs Ph n (c.at N (defScope s)) (defBody s) = some (d.body Ph)) :
    FnOk P w K mg base (L2.CX P w) (k + 1) f fd ps (spF K cls (runDef d Ph)) := by
  refine F.okX S (fun vs H Q E h => ?_) (fun cdv A outer s0 H vs Q E hr h => ?_)
  · obtain ⟨rho, st, ds, w0, r, h⟩ := h
    unfold runDef at h
    split at h
    · rename_i hl
      rw [← r.length, hl, ha]
    · exact h.elim
  · obtain ⟨rho, st, ds, w0, r, h⟩ := h
    have G : Good (cxOf (L2.CX P w) P w K mg base N x (defScope s) f cdv A outer s0 H E) cls (fun cl d _ H => E cl d H) (c.at N (defScope s)) Ph k :=
      { calm := rfl, nd := S.nd, hN := rfl, sc := rfl, cok := fun _ _ => rfl, room := hr, own := passes_of rfl, tk := takes_of rfl rfl rfl rfl, stk := fun _ => ⟨rfl, rfl⟩,
        blt := M.blt, fns := M.fns, gl := M.gl, kd := M.kd, xcs := M.xcs, sub := M.sub }
    refine ⟨_, (sndS_all n).ss G hb, rho, startD N.length ds, st, w0, relDs_map_start r, ?_⟩
    unfold runDef at h
    split at h
    · rw [hs] at h
      cases q : d.body Ph (startD N.length ds) st with
      | rt v st' =>
        rw [q] at h
        have h' : OkR K cls (fun cl d _ H => E cl d H) [] rho H (.ok v st') (VQ K Q) := by
          simp only at h
          split at h
          · exact freeze_ok w0 h
          · exact h
        exact fun v rho' H' e w' rv => h' rho' H' e w' v rv
      | nx env st' =>
        rw [q] at h
        have h' : OkR K cls (fun cl d _ H => E cl d H) [] rho H (.ok .non st') (VQ K Q) := by
          simp only at h
          split at h
          · exact cut_ok rfl w0 h fun rho' H' v rv => by cases rv; exact .non
          · exact h
        exact fun sg rho' H' e w' re => h' rho' H' e w' .non .non
      | exc cl env st' =>
        rw [q] at h
        have h' : OkR K cls (fun cl d _ H => E cl d H) [] rho H (.exc cl st') (VQ K Q) := by
          simp only at h
          split at h
          · exact cut_exc w0 h
          · exact h
        exact fun sg rho' H' e w' re => h' rho' H' e w'
      | bk env st' => rw [q] at h; exact h.elim
      | ct env st' => rw [q] at h; exact h.elim
      | stuck => rw [q] at h; exact h.elim
    · exact h.elim
/-- a def of the text as it stands behind the top -/
structure DefOk (K : PySem.W.Frag) (mg : Str → Option Value) (c : CC) (x : Str) (d : DefR) : Prop where
  ex : ∃ (s : Stmt) (f : Addr) (fd : FuncData) (N ps : List Str) (n : Nat), mg x = some (.ref f) ∧ Fun K x x s f fd ∧ Binds K fd ps [] ∧ FnScope N ps (defScope s) ∧ d.arity = ps.length ∧ d.slots = N.length ∧ ∀ Ph, ofSs Ph n (c.at N (defScope s)) (defBody s) = some (d.body Ph)
theorem phi_ok {P : Program} {w : World} {K : PySem.W.Frag} {mg : Str → Option Value} {base : Heap} {cls : Nat → Value} {c : CC} {tbl : List DefR}
    (blt : ∀ x ∈ c.blt, mg x = none) (gl : ∀ (x : Str) (d : D), c.gl.lookup x = some d → GOk K mg x d) (kd : ∀ (x : Str) (t : List (Str × D)), c.kd.lookup x = some t → KOk K w mg x t) (xcs : ∀ (i : Nat) (x : Str), c.xcs[i]? = some x → XOk K mg (cls i) x) (sub : c.xcs ≠ [] → ∀ a b, PySem.W.exmOne K (cls a) (cls b) = some (c.sub a b))
    (defs : ∀ (i : Nat) (x : Str), c.fns[i]? = some x → ∃ d, tbl[i]? = some d ∧ DefOk K mg c x d) : ∀ (n i : Nat) (x : Str), c.fns[i]? = some x → FOk P w K mg base cls n x (Phi tbl n i)
  | 0, i, x, hx => by
    obtain ⟨d, hd, ⟨s, f, fd, N, ps, m, h1, h2, h3, _⟩⟩ := defs i x hx
    exact ⟨f, fd, ps, h1, h2.kp, h3, ⟨fun vs H Q E ⟨_, _, _, _, _, h⟩ => h.elim, fun _ _ _ _ _ _ _ _ _ _ _ _ _ ⟨_, _, _, _, _, h⟩ => h.elim⟩⟩
  | n + 1, i, x, hx => by
    obtain ⟨d, hd, ⟨s, f, fd, N, ps, m, h1, h2, h3, h4, h5, h6, h7⟩⟩ := defs i x hx
    refine ⟨f, fd, ps, h1, h2.kp, h3, ?_⟩
    have e : Phi tbl (n + 1) i = runDef d (Phi tbl n) := by
      funext ds st
      show (match tbl[i]? with | some d => runDef d (Phi tbl n) ds st | none => .stuck) = _
      rw [hd]
    rw [e]
    exact def_ok ⟨blt, fun j y hy => phi_ok blt gl kd xcs sub defs n j y hy, gl, kd, xcs, sub⟩ h2 h4 h5 h6 (h7 (Phi tbl n))
/-- a dict of the top, row by row: key, hash, its token, value, its reading -/
structure KRow where
  key : Str
  hash : Int
  tok : Tok
  val : Value
  d : D
def KRow.ent (r : KRow) : DictEntry := ⟨r.hash, .str r.key r.tok, r.val⟩
theorem keysLit_rows {P : Params} : ∀ {rows : List KRow}, (∀ r ∈ rows, r.hash = PyData.keyHash P r.key) → PySem.W.KeysLit P (rows.map KRow.ent)
  | [], _ => trivial
  | r :: rows, h => ⟨⟨r.key, r.tok, rfl, h r (by simp)⟩, keysLit_rows fun z hz => h z (by simp [hz])⟩
theorem find_rows (z : Str) : ∀ rows : List KRow, ((rows.map fun r => (r.key, r.d)).lookup z = none ∧ (rows.map KRow.ent).find? (·.key.isStr z) = none) ∨
    ∃ r ∈ rows, (rows.map fun r => (r.key, r.d)).lookup z = some r.d ∧ (rows.map KRow.ent).find? (·.key.isStr z) = some r.ent
  | [] => .inl ⟨rfl, rfl⟩
  | r :: rows => by
    by_cases e : r.key = z
    · refine .inr ⟨r, by simp, ?_, ?_⟩
      · simp [List.lookup_cons, e]
      · simp [List.find?_cons, KRow.ent, Value.isStr, e]
    · have e1 : (z == r.key) = false := by
        cases q : z == r.key with
        | false => rfl
        | true => exact absurd (eq_of_beq q).symm e
      have e2 : (r.key == z) = false := by
        cases q : r.key == z with
        | false => rfl
        | true => exact absurd (eq_of_beq q) e
      rcases find_rows z rows with ⟨h1, h2⟩ | ⟨r', hr, h1, h2⟩
      · refine .inl ⟨?_, ?_⟩
        · simp only [List.map_cons, List.lookup_cons, e1]; exact h1
        · simp only [List.map_cons, List.find?_cons, KRow.ent, Value.isStr, e2]; exact h2
      · refine .inr ⟨r', by simp [hr], ?_, ?_⟩
        · simp only [List.map_cons, List.lookup_cons, e1]; exact h1
        · simp only [List.map_cons, List.find?_cons, KRow.ent, Value.isStr, e2]; exact h2
theorem noRef_rows : ∀ rows : List KRow, (rows.map KRow.ent).any (·.refKey) = false
  | [] => rfl
  | r :: rows => by simp only [List.map_cons, List.any_cons, noRef_rows rows]; rfl
theorem kok_mk {K : PySem.W.Frag} {w : World} {mg : Str → Option Value} {x : Str} {d : Addr} {n : Nat} (rows : List KRow) {tab : List (Str × D)} (ht : tab = rows.map fun r => (r.key, r.d)) (hm : mg x = some (.ref d)) (hl : K.lookup d = some ⟨.type "dict", none, .dict (rows.map KRow.ent).toArray n, #[]⟩)
    (hh : ∀ r ∈ rows, r.hash = PyData.keyHash w.params r.key) (low : (d == sysModules) = false) (hv : ∀ r ∈ rows, ∃ v, RelV v r.val ∧ ∀ rho H, RelD K rho H r.d v) : KOk K w mg x tab := by
  subst ht
  refine ⟨d, _, n, hm, ⟨hl, by simpa using keysLit_rows hh, low⟩, fun z => ?_⟩
  unfold PySem.W.nsIn
  rw [hl]
  rcases find_rows z rows with ⟨h1, h2⟩ | ⟨r, hr, h1, h2⟩
  · refine .inl ⟨h1, ?_⟩
    simp only [h2, noRef_rows]
    rfl
  · obtain ⟨v, rv, rd⟩ := hv r hr
    refine .inr ⟨r.d, r.val, v, h1, ?_, rv, rd⟩
    simp only [h2]
    rfl
theorem sizeLine_ge' {n : Nat} (h : n ≤ 1000) : n ≤ sizeLine := by rw [sizeLine_eq]; omega
/-- a tuple of the top -/
theorem ktup_mk {K : PySem.W.Frag} {a : Addr} {od : Option Addr} {its : Array Value} {n : Nat} {sl : Array (Option Value)} {vs : List V} {ds : List D} (hl : K.lookup a = some ⟨.type "tuple", od, .seq its n, sl⟩) (hs : its.size ≤ 1000) (hv : Vals vs its.toList) (hd : ∀ rho H, RelDs K rho H ds vs) : ∀ rho H, RelD K rho H (.tup ds) (.ref a) :=
  fun rho H => .tup (.inr ⟨_, its, n, hl, rfl, rfl, sizeLine_ge' hs, hv⟩) (hd rho H)
theorem exm_mk {K : PySem.W.Frag} {A B : Addr} {r : Bool} (h1 : PySem.W.subIn K (.ref B) (.type "BaseException") = some true) (h2 : PySem.W.isClsIn K B = true) (h3 : PySem.W.typeIn K (.ref B) = some (.type "type")) (h4 : PySem.W.subIn K (.ref A) (.ref B) = some r) :
    PySem.W.exmOne K (.ref A) (.ref B) = some r := by
  unfold PySem.W.exmOne PySem.W.kitCls
  rw [h1, if_pos (by decide)]
  unfold PySem.W.isClsIn at h2
  simp only [h2, h3, Bool.true_and]
  rw [if_pos (by decide)]
  exact h4
/-- the law's own head -/
theorem law_sp {K : PySem.W.Frag} {cls : Nat → Value} {f : List D → Sto → R D} {H : Hp} {a : Addr} {ns : List Int} (hO : Only H) (hS : SqL K H a (ns.map V.int)) (h : ∃ st, f [.fz (ns.map .int)] [] = .ok (.bl true) st) : spF K cls f [.ref a] H (fun v _ => v = .bl true) fun _ _ _ => False := by
  obtain ⟨st, h⟩ := h
  have hz : FzL K H a (ns.map V.int) := by
    rcases hS with (hS | hS) | hS
    · rcases hO a with z | ⟨o, xs, z⟩
      · rw [hS] at z; cases z
      · rw [hS] at z; cases z
    · exact .inl hS
    · exact .inr hS
  refine ⟨⟨[], []⟩, [], [.fz (ns.map .int)], ⟨rfl, List.nodup_nil, fun l a o h => by simp at h, fun a ha => (by cases ha), fun b hb => (by cases hb)⟩, .cons (.fz hz (rel_ints ns)) .nil, ?_⟩
  rw [h]
  intro rho' H' e w v rv
  cases rv
  rfl
/-- from the law's reading to the walk that the head leaves -/
theorem walk_ofX {l : PySem.W.OpenLaw} {n k : Nat} {q : Program} {loose : List Str} {XP : (Str → Option Value) → Heap → Prop} {YP : World → Heap → Prop} {d : DefRec} {K : Params → PySem.W.Frag} {f : List D → Sto → R D} {x : Str}
    (hn : l.most = some n) (hn2 : n ≤ sizeLine) (hdf : d.params.defaults = []) (hr : Room k callerA)
    (hY : ∀ (w : World) (h : Heap), YP w h → (K w.params).In h)
    (F : ∀ (w : World) (mg : Str → Option Value) (fa : Addr) (h : Heap), (K w.params).In h → h.Ns mainGlobals mg → mg d.name = some (.ref fa) →
      ∃ (cls : Nat → Value) (fd : FuncData), (∀ (s : Shared) (u : Value), BindsTo s fd ⟨[u], []⟩ [(x, u)]) ∧
        ∀ base : Heap, (K w.params).In base → base.Ns mainGlobals mg → FnOk l.prog w (K w.params) mg base (L2.CX l.prog w) k fa fd [x] (spF (K w.params) cls f))
    (hf : ∀ ns : List Int, ns.length ≤ n → ∃ st, f [.fz (ns.map .int)] [] = .ok (.bl true) st) :
    PySem.W.WalkO q loose XP YP l.row.toRowW d [] (fun f vs => PySem.call f vs) := by
  refine Att.attach_call hn hdf fun w s₀ s₁ mg mb fa o pm cd doc a vs ns G Y ho hd hcd hmg hobj hints hlen hg => ?_
  have KX := hY w _ Y
  obtain ⟨cls, fd, hb, hF⟩ := F w mg fa _ KX G.T.g hmg
  exact law_call KX G.T.g G.T.b G.T.builtins G.T.nolimit hg hobj hints (Nat.le_trans hlen hn2) hr hF hb (fun H hO hS => law_sp hO hS (hf ns hlen)) fun H e s' h => by
    obtain ⟨_, _, _, _, _, _, _, _, _, _, _, _, h⟩ := h
    exact h
end MI
/-! MiP: how readings are run in plain Lean; the draws. -/
namespace MI
open PySem PySem.Spec PyProof.Rows L2 MX
def onB (x : D) (t f : R D) : R D := match x with
  | .bl true => t
  | .bl false => f
  | _ => .stuck
@[simp] theorem onB_bl (b : Bool) (t f : R D) : onB (.bl b) t f = if b = true then t else f := by cases b <;> rfl
def onT (r : R Bool) (t f : Sto → SR) (env : DEnv) : SR := match r with
  | .ok true st => t st
  | .ok false st => f st
  | .exc x st => .exc x env st
  | .stuck => .stuck
@[simp] theorem onT_ok (b : Bool) (st : Sto) (t f : Sto → SR) (env : DEnv) : onT (.ok b st) t f env = if b = true then t st else f st := by cases b <;> rfl
@[simp] theorem onT_exc (c : Nat) (st : Sto) (t f : Sto → SR) (env : DEnv) : onT (.exc c st) t f env = .exc c env st := rfl
def onTR {α : Type} (r : R Bool) (t f : Sto → R α) : R α := match r with
  | .ok true st => t st
  | .ok false st => f st
  | _ => .stuck
@[simp] theorem onTR_ok {α : Type} (b : Bool) (st : Sto) (t f : Sto → R α) : onTR (.ok b st) t f = if b = true then t st else f st := by cases b <;> rfl
section
variable {env : DEnv} {st : Sto}
@[simp] theorem sSeq_app (a b : MS) : sSeq a b env st = (a env st).then b := rfl
@[simp] theorem then_nx (f : DEnv → Sto → SR) : (SR.nx env st).then f = f env st := rfl
@[simp] theorem then_rt (d : D) (f : DEnv → Sto → SR) : (SR.rt d st).then f = .rt d st := rfl
@[simp] theorem then_bk (f : DEnv → Sto → SR) : (SR.bk env st).then f = .bk env st := rfl
@[simp] theorem then_ct (f : DEnv → Sto → SR) : (SR.ct env st).then f = .ct env st := rfl
@[simp] theorem then_exc (c : Nat) (f : DEnv → Sto → SR) : (SR.exc c env st).then f = .exc c env st := rfl
@[simp] theorem then_stuck (f : DEnv → Sto → SR) : (SR.stuck).then f = .stuck := rfl
@[simp] theorem sSkip_app : sSkip env st = .nx env st := rfl
@[simp] theorem sAsg_app (e : ME) (g : MG) : sAsg e g env st = (match e env st with | .ok d st => (match g d env with | some env => SR.nx env st | none => .stuck) | .exc c st => .exc c env st | .stuck => .stuck) := rfl
@[simp] theorem sExpr_app (e : ME) : sExpr e env st = (match e env st with | .ok _ st => SR.nx env st | .exc c st => .exc c env st | .stuck => .stuck) := rfl
@[simp] theorem sRet_app (e : ME) : sRet e env st = (match e env st with | .ok d st => SR.rt d st | .exc c st => .exc c env st | .stuck => .stuck) := rfl
@[simp] theorem sIf_app (c : ME) (a b : MS) : sIf c a b env st = onT (mT c env st) (a env) (b env) env := rfl
theorem sWhile_succ (c : ME) (b : MS) (n : Nat) : sWhile c b (n + 1) env st = onT (mT c env st) (fun st => (match b env st with
      | .nx env st => sWhile c b n env st
      | .ct env st => sWhile c b n env st
      | .bk env st => .nx env st
      | .rt d st => .rt d st
      | .exc x env st => .exc x env st
      | .stuck => .stuck)) (fun st => .nx env st) env := rfl
@[simp] theorem sFor_app (it : MIt) (g : MG) (b : MS) : sFor it g b env st = (match it env st with | .ok s st => forGo s g b s.items env st | .exc c st => .exc c env st | .stuck => .stuck) := rfl
@[simp] theorem sRaise_app (c : Nat) : sRaise c env st = .exc c env st := rfl
@[simp] theorem gVar_app (i : Nat) (d : D) : gVar i d env = some (env.set i (some d)) := rfl
@[simp] theorem gTupV_app (is : List Nat) (ds : List D) : gTupV is (.tup ds) env = gVars is ds env := rfl
@[simp] theorem gVars_nil : gVars [] [] env = some env := rfl
@[simp] theorem gVars_cons (i : Nat) (is : List Nat) (d : D) (ds : List D) : gVars (i :: is) (d :: ds) env = gVars is ds (env.set i (some d)) := rfl
@[simp] theorem mVar_app (i : Nat) : mVar i env st = (match env[i]? with | some (some d) => R.ok d st | _ => .stuck) := rfl
@[simp] theorem mC_app (d : D) : mC d env st = .ok d st := rfl
@[simp] theorem mBin_app (f : D → D → Sto → R D) (a b : ME) : mBin f a b env st = (a env st).bind fun x st => (b env st).bind fun y st => f x y st := rfl
@[simp] theorem mNeg_app (a : ME) : mNeg a env st = (a env st).bind fun x st => (match x with | .int i => R.ok (.int (-i)) st | _ => .stuck) := rfl
@[simp] theorem mAnd_app (a b : ME) : mAnd a b env st = (a env st).bind fun x st => onB x (b env st) (.ok (.bl false) st) := rfl
@[simp] theorem mOr_app (a b : ME) : mOr a b env st = (a env st).bind fun x st => onB x (.ok (.bl true) st) (b env st) := rfl
@[simp] theorem mNot_app (a : ME) : mNot a env st = (a env st).bind fun x st => (match x with | .bl b => R.ok (.bl (!b)) st | _ => .stuck) := rfl
@[simp] theorem mT_app (a : ME) : mT a env st = (a env st).bind fun x st => (match truth st x with | some b => R.ok b st | none => .stuck) := rfl
@[simp] theorem truth_bl (b : Bool) : truth st (.bl b) = some b := rfl
@[simp] theorem mIfE_app (c a b : ME) : mIfE c a b env st = (mT c env st).bind fun k st => if k = true then a env st else b env st := rfl
@[simp] theorem mArgs_nil : mArgs [] env st = .ok [] st := rfl
@[simp] theorem mArgs_cons (e : ME) (es : List ME) : mArgs (e :: es) env st = (e env st).bind fun d st => (mArgs es env st).bind fun ds st => .ok (d :: ds) st := rfl
@[simp] theorem mTup_app (es : List ME) : mTup es env st = (mArgs es env st).bind fun ds st => if ds.length ≤ sizeLine then .ok (.tup ds) st else .stuck := rfl
@[simp] theorem mLst_app (es : List ME) : mLst es env st = (mArgs es env st).bind fun ds st => if ds.length ≤ sizeLine then .ok (.lst ds) st else .stuck := rfl
@[simp] theorem mNew_app (es : List ME) : mNew es env st = (mArgs es env st).bind fun ds st => if ds.length ≤ sizeLine then .ok (.ref st.length) (st ++ [.lst ds]) else .stuck := rfl
@[simp] theorem mNewD_app : mNewD env st = .ok (.ref st.length) (st ++ [.dic []]) := rfl
@[simp] theorem mDic1_app (a b : ME) : mDic1 a b env st = (match (a env st).bind fun x st => (b env st).bind fun y st => (match keyOf x with | some k => R.ok (.dic [(k, y)]) st | none => .stuck) with | .ok d st => R.ok d st | _ => .stuck) := rfl
@[simp] theorem mCall_app (f : List D → Sto → R D) (es : List ME) : mCall f es env st = (mArgs es env st).bind fun ds st => f ds st := rfl
@[simp] theorem mIsI_app (T : String) (a : ME) : mIsI T a env st = (a env st).bind fun x st => isInst T x st := rfl
@[simp] theorem mOpt_none : mOpt none env st = .ok none st := rfl
@[simp] theorem mOpt_some (a : ME) : mOpt (some a) env st = (a env st).bind fun x st => (match x with | .int i => R.ok (some i) st | _ => .stuck) := rfl
@[simp] theorem mSl_app (a : ME) (lo hi : Option ME) : mSl a lo hi env st = (a env st).bind fun x st => (mOpt lo env st).bind fun i st => (mOpt hi env st).bind fun j st => opSl x i j st := rfl
@[simp] theorem mSt_app (a : ME) (lo hi k : Option ME) : mSt a lo hi k env st = (a env st).bind fun x st => (mOpt lo env st).bind fun i st => (mOpt hi env st).bind fun j st => (mOpt k env st).bind fun k st => opSt x i j k st := rfl
@[simp] theorem mMethL_app (f : D → List D → Sto → R D) (o : ME) (es : List ME) : mMethL f o es env st = (o env st).bind fun d st => if isLst st d = true then (mArgs es env st).bind fun ds st => f d ds st else .stuck := rfl
@[simp] theorem mMethS_app (f : D → List D → Sto → R D) (o : ME) (es : List ME) : mMethS f o es env st = (o env st).bind fun d st => if isStrD d = true then (mArgs es env st).bind fun ds st => f d ds st else .stuck := rfl
@[simp] theorem iSeq_app (a : ME) : iSeq a env st = (a env st).bind fun x st => (match x with
  | .ref l => (match st[l]? with | some (.lst ds) => R.ok (.live l ds) st | _ => .stuck)
  | .tup ds => .ok (.vals ds) st
  | .lst ds => .ok (.vals ds) st
  | .fz ds => .ok (.vals ds) st
  | .str z => .ok (.vals (z.cps.toList.map fun c => .str ⟨#[c]⟩)) st
  | _ => .stuck) := rfl
@[simp] theorem iRange1_app (a : ME) : iRange1 a env st = (a env st).bind fun x st => (match x with | .int j => if -(2 ^ 62) ≤ j ∧ j < 2 ^ 62 then R.ok (.vals (rangeD 0 j.toNat)) st else .stuck | _ => .stuck) := rfl
@[simp] theorem iRange2_app (a b : ME) : iRange2 a b env st = (a env st).bind fun x st => (b env st).bind fun y st => (match x, y with | .int i, .int j => if -(2 ^ 62) ≤ i ∧ i < 2 ^ 62 ∧ -(2 ^ 62) ≤ j ∧ j < 2 ^ 62 then R.ok (.vals (rangeD i (j - i).toNat)) st else .stuck | _, _ => .stuck) := rfl
@[simp] theorem iZip_app (a b : ME) : iZip a b env st = (a env st).bind fun x st => (b env st).bind fun y st => (match x, y with | .lst xs, .lst ys => R.ok (.vals (zipD xs ys)) st | .tup xs, .tup ys => .ok (.vals (zipD xs ys)) st | _, _ => .stuck) := rfl
@[simp] theorem items_vals (ds : List D) : (Src.vals ds).items = ds := rfl
@[simp] theorem items_live (l : Nat) (ds : List D) : (Src.live l ds).items = ds := rfl
@[simp] theorem holds_vals (ds : List D) : (Src.vals ds).holds st = True := rfl
@[simp] theorem forGo_nil (s : Src) (g : MG) (b : MS) : forGo s g b [] env st = .nx env st := rfl
theorem forGo_cons (s : Src) (g : MG) (b : MS) (d : D) (ds : List D) : forGo s g b (d :: ds) env st = (match g d env with
    | none => SR.stuck
    | some env => match b env st with
      | .nx env st => if s.holds st then forGo s g b ds env st else .stuck
      | .ct env st => if s.holds st then forGo s g b ds env st else .stuck
      | .bk env st => .nx env st
      | .rt d st => .rt d st
      | .exc x env st => .exc x env st
      | .stuck => .stuck) := rfl
theorem mComp_app (it : MIt) (vs : List Nat) (g : MG) (c : Option ME) (e : ME) : mComp it vs g c e env st = (it env st).bind fun s st => (match compGo s g c e (wipeD env vs) s.items st with | .ok ys st => if ys.length ≤ sizeLine then R.ok (.lst ys) st else .stuck | _ => .stuck) := rfl
theorem mCompN_app (it : MIt) (vs : List Nat) (g : MG) (c : Option ME) (e : ME) : mCompN it vs g c e env st = (it env st).bind fun s st => (match compGo s g c e (wipeD env vs) s.items st with | .ok ys st => if ys.length ≤ sizeLine then R.ok (.ref st.length) (st ++ [.lst ys]) else .stuck | _ => .stuck) := rfl
@[simp] theorem compGo_nil (s : Src) (g : MG) (c : Option ME) (e : ME) : compGo s g c e env [] st = .ok [] st := rfl
theorem compGo_cons (s : Src) (g : MG) (c : Option ME) (e : ME) (d : D) (ds : List D) : compGo s g c e env (d :: ds) st = (match g d env with
    | none => R.stuck
    | some env' => onTR (match c with | none => R.ok true st | some c => mT c env' st) (fun st => (match e env' st with
        | .ok y st => if s.holds st then (match compGo s g c e env ds st with
          | .ok ys st => R.ok (y :: ys) st
          | _ => .stuck) else .stuck
        | _ => .stuck)) (fun st => if s.holds st then compGo s g c e env ds st else .stuck)) := rfl
@[simp] theorem wipeD_nil : wipeD env [] = env := rfl
@[simp] theorem wipeD_cons (v : Nat) (vs : List Nat) : wipeD env (v :: vs) = (wipeD env vs).set v none := rfl
/-! operations on what is known -/
@[simp] theorem opAdd_ii (i j : Int) : opAdd (.int i) (.int j) st = .ok (.int (i + j)) st := rfl
@[simp] theorem opAdd_ib (i : Int) (k : Bool) : opAdd (.int i) (.bl k) st = .ok (.int (i + b2i k)) st := rfl
@[simp] theorem opAdd_tt (a b : List D) : opAdd (.tup a) (.tup b) st = if a.length + b.length ≤ sizeLine then .ok (.tup (a ++ b)) st else .stuck := rfl
@[simp] theorem opAdd_ss (a b : Str) : opAdd (.str a) (.str b) st = if a.length + b.length ≤ sizeLine then .ok (.str (a ++ b)) st else .stuck := rfl
@[simp] theorem opAdd_ll (a b : List D) : opAdd (.lst a) (.lst b) st = if a.length + b.length ≤ sizeLine then .ok (.lst (a ++ b)) st else .stuck := rfl
@[simp] theorem opSub_ii (i j : Int) : opSub (.int i) (.int j) st = .ok (.int (i - j)) st := rfl
@[simp] theorem opMul_ii (i j : Int) : opMul (.int i) (.int j) st = if mulOk i j then .ok (.int (i * j)) st else .stuck := rfl
@[simp] theorem opMod_ii (i j : Int) : opMod (.int i) (.int j) st = if 0 < j then .ok (.int (i % j)) st else .stuck := rfl
@[simp] theorem opDiv_ii (i j : Int) : opDiv (.int i) (.int j) st = if CDivW i j then .ok (.int (i / j)) st else .stuck := rfl
@[simp] theorem opPow_ii (i j : Int) : opPow (.int i) (.int j) st = if CPow i j then .ok (.int (i ^ j.toNat)) st else .stuck := rfl
@[simp] theorem opLt_ii (i j : Int) : opLt (.int i) (.int j) st = .ok (.bl (decide (i < j))) st := rfl
@[simp] theorem opLe_ii (i j : Int) : opLe (.int i) (.int j) st = .ok (.bl (decide (i ≤ j))) st := rfl
@[simp] theorem opGt_ii (i j : Int) : opGt (.int i) (.int j) st = .ok (.bl (decide (j < i))) st := rfl
@[simp] theorem opGe_ii (i j : Int) : opGe (.int i) (.int j) st = .ok (.bl (decide (j ≤ i))) st := rfl
@[simp] theorem deref_non : deref st .non = .non := rfl
@[simp] theorem deref_bl (b : Bool) : deref st (.bl b) = .bl b := rfl
@[simp] theorem deref_int (i : Int) : deref st (.int i) = .int i := rfl
@[simp] theorem deref_str (x : Str) : deref st (.str x) = .str x := rfl
@[simp] theorem deref_tup (x : List D) : deref st (.tup x) = .tup x := rfl
@[simp] theorem deref_lst (x : List D) : deref st (.lst x) = .lst x := rfl
@[simp] theorem deref_fz (x : List D) : deref st (.fz x) = .fz x := rfl
@[simp] theorem deref_dic (x : List (Key × D)) : deref st (.dic x) = .dic x := rfl
theorem deref_ref_lst {l : Nat} {xs : List D} (h : st[l]? = some (.lst xs)) : deref st (.ref l) = .lst xs := by simp [deref, h]
theorem deref_ref_dic {l : Nat} {xs : List (Key × D)} (h : st[l]? = some (.dic xs)) : deref st (.ref l) = .dic xs := by simp [deref, h]
theorem mulOk_r {i j : Int} (h1 : -(2 ^ 64) < j) (h2 : j < 2 ^ 64) : mulOk i j := .inl (.inr ⟨h1, h2⟩)
theorem mulOk_l {i j : Int} (h1 : -(2 ^ 64) < i) (h2 : i < 2 ^ 64) : mulOk i j := .inl (.inl ⟨h1, h2⟩)
theorem sizeLine_ge {n : Nat} (h : n ≤ 16777216) : n ≤ sizeLine := by rw [sizeLine_eq]; exact h
end
/-! ### equality -/
theorem eqD_int (st : Sto) (i j : Int) : eqD st (.int i) (.int j) = some (decide (i = j)) := by
  simp [eqD, noRef, toPy, SeqAt.shaped, PyData.canLay0, PyData.depth, PyData.eqv]
  by_cases h : i = j <;> simp [h]
theorem eqD_bl (st : Sto) (i j : Bool) : eqD st (.bl i) (.bl j) = some (decide (i = j)) := by
  simp [eqD, noRef, toPy, SeqAt.shaped, PyData.canLay0, PyData.depth, PyData.eqv]
  cases i <;> cases j <;> rfl
@[simp] theorem opEq_ii {st : Sto} (i j : Int) : opEq (.int i) (.int j) st = .ok (.bl (decide (i = j))) st := by simp [opEq, eqD_int]
@[simp] theorem opNe_ii {st : Sto} (i j : Int) : opNe (.int i) (.int j) st = .ok (.bl (!decide (i = j))) st := by simp [opNe, eqD_int]
@[simp] theorem opEq_bb {st : Sto} (i j : Bool) : opEq (.bl i) (.bl j) st = .ok (.bl (decide (i = j))) st := by simp [opEq, eqD_bl]
/-! ### isinstance -/
def D.isI : D → Bool
  | .int _ => true
  | .bl _ => true
  | _ => false
def D.isB : D → Bool
  | .bl _ => true
  | _ => false
def D.isS : D → Bool
  | .str _ => true
  | _ => false
def D.isT : D → Bool
  | .tup _ => true
  | _ => false
def D.isL : D → Bool
  | .lst _ => true
  | _ => false
def D.isD : D → Bool
  | .dic _ => true
  | _ => false
/-- a value by itself -/
def D.pl : D → Bool
  | .ref _ => false
  | .fz _ => false
  | _ => true
@[simp] theorem pl_non  : D.pl (D.non) = true := rfl
@[simp] theorem pl_bl (b : Bool) : D.pl (D.bl b) = true := rfl
@[simp] theorem pl_int (i : Int) : D.pl (D.int i) = true := rfl
@[simp] theorem pl_str (x : Str) : D.pl (D.str x) = true := rfl
@[simp] theorem pl_tup (x : List D) : D.pl (D.tup x) = true := rfl
@[simp] theorem pl_lst (x : List D) : D.pl (D.lst x) = true := rfl
@[simp] theorem pl_dic (x : List (Key × D)) : D.pl (D.dic x) = true := rfl
@[simp] theorem pl_fz (x : List D) : D.pl (D.fz x) = false := rfl
@[simp] theorem pl_ref (l : Nat) : D.pl (D.ref l) = false := rfl
@[simp] theorem isI_non  : D.isI (D.non) = false := rfl
@[simp] theorem isI_bl (b : Bool) : D.isI (D.bl b) = true := rfl
@[simp] theorem isI_int (i : Int) : D.isI (D.int i) = true := rfl
@[simp] theorem isI_str (x : Str) : D.isI (D.str x) = false := rfl
@[simp] theorem isI_tup (x : List D) : D.isI (D.tup x) = false := rfl
@[simp] theorem isI_lst (x : List D) : D.isI (D.lst x) = false := rfl
@[simp] theorem isI_dic (x : List (Key × D)) : D.isI (D.dic x) = false := rfl
@[simp] theorem isI_fz (x : List D) : D.isI (D.fz x) = false := rfl
@[simp] theorem isI_ref (l : Nat) : D.isI (D.ref l) = false := rfl
@[simp] theorem isB_non  : D.isB (D.non) = false := rfl
@[simp] theorem isB_bl (b : Bool) : D.isB (D.bl b) = true := rfl
@[simp] theorem isB_int (i : Int) : D.isB (D.int i) = false := rfl
@[simp] theorem isB_str (x : Str) : D.isB (D.str x) = false := rfl
@[simp] theorem isB_tup (x : List D) : D.isB (D.tup x) = false := rfl
@[simp] theorem isB_lst (x : List D) : D.isB (D.lst x) = false := rfl
@[simp] theorem isB_dic (x : List (Key × D)) : D.isB (D.dic x) = false := rfl
@[simp] theorem isB_fz (x : List D) : D.isB (D.fz x) = false := rfl
@[simp] theorem isB_ref (l : Nat) : D.isB (D.ref l) = false := rfl
@[simp] theorem isS_non  : D.isS (D.non) = false := rfl
@[simp] theorem isS_bl (b : Bool) : D.isS (D.bl b) = false := rfl
@[simp] theorem isS_int (i : Int) : D.isS (D.int i) = false := rfl
@[simp] theorem isS_str (x : Str) : D.isS (D.str x) = true := rfl
@[simp] theorem isS_tup (x : List D) : D.isS (D.tup x) = false := rfl
@[simp] theorem isS_lst (x : List D) : D.isS (D.lst x) = false := rfl
@[simp] theorem isS_dic (x : List (Key × D)) : D.isS (D.dic x) = false := rfl
@[simp] theorem isS_fz (x : List D) : D.isS (D.fz x) = false := rfl
@[simp] theorem isS_ref (l : Nat) : D.isS (D.ref l) = false := rfl
@[simp] theorem isT_non  : D.isT (D.non) = false := rfl
@[simp] theorem isT_bl (b : Bool) : D.isT (D.bl b) = false := rfl
@[simp] theorem isT_int (i : Int) : D.isT (D.int i) = false := rfl
@[simp] theorem isT_str (x : Str) : D.isT (D.str x) = false := rfl
@[simp] theorem isT_tup (x : List D) : D.isT (D.tup x) = true := rfl
@[simp] theorem isT_lst (x : List D) : D.isT (D.lst x) = false := rfl
@[simp] theorem isT_dic (x : List (Key × D)) : D.isT (D.dic x) = false := rfl
@[simp] theorem isT_fz (x : List D) : D.isT (D.fz x) = false := rfl
@[simp] theorem isT_ref (l : Nat) : D.isT (D.ref l) = false := rfl
@[simp] theorem isL_non  : D.isL (D.non) = false := rfl
@[simp] theorem isL_bl (b : Bool) : D.isL (D.bl b) = false := rfl
@[simp] theorem isL_int (i : Int) : D.isL (D.int i) = false := rfl
@[simp] theorem isL_str (x : Str) : D.isL (D.str x) = false := rfl
@[simp] theorem isL_tup (x : List D) : D.isL (D.tup x) = false := rfl
@[simp] theorem isL_lst (x : List D) : D.isL (D.lst x) = true := rfl
@[simp] theorem isL_dic (x : List (Key × D)) : D.isL (D.dic x) = false := rfl
@[simp] theorem isL_fz (x : List D) : D.isL (D.fz x) = false := rfl
@[simp] theorem isL_ref (l : Nat) : D.isL (D.ref l) = false := rfl
@[simp] theorem isD_non  : D.isD (D.non) = false := rfl
@[simp] theorem isD_bl (b : Bool) : D.isD (D.bl b) = false := rfl
@[simp] theorem isD_int (i : Int) : D.isD (D.int i) = false := rfl
@[simp] theorem isD_str (x : Str) : D.isD (D.str x) = false := rfl
@[simp] theorem isD_tup (x : List D) : D.isD (D.tup x) = false := rfl
@[simp] theorem isD_lst (x : List D) : D.isD (D.lst x) = false := rfl
@[simp] theorem isD_dic (x : List (Key × D)) : D.isD (D.dic x) = true := rfl
@[simp] theorem isD_fz (x : List D) : D.isD (D.fz x) = false := rfl
@[simp] theorem isD_ref (l : Nat) : D.isD (D.ref l) = false := rfl
theorem isInst_int {st : Sto} {d : D} (h : d.pl = true) : isInst "int" d st = .ok (.bl d.isI) st := by
  cases d <;> first | (unfold isInst tyName; simp only [deref_non, deref_bl, deref_int, deref_str, deref_tup, deref_lst, deref_dic]; rfl) | exact Bool.noConfusion h
theorem isInst_bool {st : Sto} {d : D} (h : d.pl = true) : isInst "bool" d st = .ok (.bl d.isB) st := by
  cases d <;> first | (unfold isInst tyName; simp only [deref_non, deref_bl, deref_int, deref_str, deref_tup, deref_lst, deref_dic]; rfl) | exact Bool.noConfusion h
theorem isInst_str {st : Sto} {d : D} (h : d.pl = true) : isInst "str" d st = .ok (.bl d.isS) st := by
  cases d <;> first | (unfold isInst tyName; simp only [deref_non, deref_bl, deref_int, deref_str, deref_tup, deref_lst, deref_dic]; rfl) | exact Bool.noConfusion h
theorem isInst_tuple {st : Sto} {d : D} (h : d.pl = true) : isInst "tuple" d st = .ok (.bl d.isT) st := by
  cases d <;> first | (unfold isInst tyName; simp only [deref_non, deref_bl, deref_int, deref_str, deref_tup, deref_lst, deref_dic]; rfl) | exact Bool.noConfusion h
theorem isInst_list {st : Sto} {d : D} (h : d.pl = true) : isInst "list" d st = .ok (.bl d.isL) st := by
  cases d <;> first | (unfold isInst tyName; simp only [deref_non, deref_bl, deref_int, deref_str, deref_tup, deref_lst, deref_dic]; rfl) | exact Bool.noConfusion h
theorem isInst_dict {st : Sto} {d : D} (h : d.pl = true) : isInst "dict" d st = .ok (.bl d.isD) st := by
  cases d <;> first | (unfold isInst tyName; simp only [deref_non, deref_bl, deref_int, deref_str, deref_tup, deref_lst, deref_dic]; rfl) | exact Bool.noConfusion h
@[simp] theorem ii_int_non {st : Sto}  : isInst "int" (D.non) st = .ok (.bl false) st := isInst_int rfl
@[simp] theorem ii_int_bl {st : Sto} (b : Bool) : isInst "int" (D.bl b) st = .ok (.bl true) st := isInst_int rfl
@[simp] theorem ii_int_int {st : Sto} (i : Int) : isInst "int" (D.int i) st = .ok (.bl true) st := isInst_int rfl
@[simp] theorem ii_int_str {st : Sto} (x : Str) : isInst "int" (D.str x) st = .ok (.bl false) st := isInst_int rfl
@[simp] theorem ii_int_tup {st : Sto} (x : List D) : isInst "int" (D.tup x) st = .ok (.bl false) st := isInst_int rfl
@[simp] theorem ii_int_lst {st : Sto} (x : List D) : isInst "int" (D.lst x) st = .ok (.bl false) st := isInst_int rfl
@[simp] theorem ii_int_dic {st : Sto} (x : List (Key × D)) : isInst "int" (D.dic x) st = .ok (.bl false) st := isInst_int rfl
@[simp] theorem ii_bool_non {st : Sto}  : isInst "bool" (D.non) st = .ok (.bl false) st := isInst_bool rfl
@[simp] theorem ii_bool_bl {st : Sto} (b : Bool) : isInst "bool" (D.bl b) st = .ok (.bl true) st := isInst_bool rfl
@[simp] theorem ii_bool_int {st : Sto} (i : Int) : isInst "bool" (D.int i) st = .ok (.bl false) st := isInst_bool rfl
@[simp] theorem ii_bool_str {st : Sto} (x : Str) : isInst "bool" (D.str x) st = .ok (.bl false) st := isInst_bool rfl
@[simp] theorem ii_bool_tup {st : Sto} (x : List D) : isInst "bool" (D.tup x) st = .ok (.bl false) st := isInst_bool rfl
@[simp] theorem ii_bool_lst {st : Sto} (x : List D) : isInst "bool" (D.lst x) st = .ok (.bl false) st := isInst_bool rfl
@[simp] theorem ii_bool_dic {st : Sto} (x : List (Key × D)) : isInst "bool" (D.dic x) st = .ok (.bl false) st := isInst_bool rfl
@[simp] theorem ii_str_non {st : Sto}  : isInst "str" (D.non) st = .ok (.bl false) st := isInst_str rfl
@[simp] theorem ii_str_bl {st : Sto} (b : Bool) : isInst "str" (D.bl b) st = .ok (.bl false) st := isInst_str rfl
@[simp] theorem ii_str_int {st : Sto} (i : Int) : isInst "str" (D.int i) st = .ok (.bl false) st := isInst_str rfl
@[simp] theorem ii_str_str {st : Sto} (x : Str) : isInst "str" (D.str x) st = .ok (.bl true) st := isInst_str rfl
@[simp] theorem ii_str_tup {st : Sto} (x : List D) : isInst "str" (D.tup x) st = .ok (.bl false) st := isInst_str rfl
@[simp] theorem ii_str_lst {st : Sto} (x : List D) : isInst "str" (D.lst x) st = .ok (.bl false) st := isInst_str rfl
@[simp] theorem ii_str_dic {st : Sto} (x : List (Key × D)) : isInst "str" (D.dic x) st = .ok (.bl false) st := isInst_str rfl
@[simp] theorem ii_tuple_non {st : Sto}  : isInst "tuple" (D.non) st = .ok (.bl false) st := isInst_tuple rfl
@[simp] theorem ii_tuple_bl {st : Sto} (b : Bool) : isInst "tuple" (D.bl b) st = .ok (.bl false) st := isInst_tuple rfl
@[simp] theorem ii_tuple_int {st : Sto} (i : Int) : isInst "tuple" (D.int i) st = .ok (.bl false) st := isInst_tuple rfl
@[simp] theorem ii_tuple_str {st : Sto} (x : Str) : isInst "tuple" (D.str x) st = .ok (.bl false) st := isInst_tuple rfl
@[simp] theorem ii_tuple_tup {st : Sto} (x : List D) : isInst "tuple" (D.tup x) st = .ok (.bl true) st := isInst_tuple rfl
@[simp] theorem ii_tuple_lst {st : Sto} (x : List D) : isInst "tuple" (D.lst x) st = .ok (.bl false) st := isInst_tuple rfl
@[simp] theorem ii_tuple_dic {st : Sto} (x : List (Key × D)) : isInst "tuple" (D.dic x) st = .ok (.bl false) st := isInst_tuple rfl
@[simp] theorem ii_list_non {st : Sto}  : isInst "list" (D.non) st = .ok (.bl false) st := isInst_list rfl
@[simp] theorem ii_list_bl {st : Sto} (b : Bool) : isInst "list" (D.bl b) st = .ok (.bl false) st := isInst_list rfl
@[simp] theorem ii_list_int {st : Sto} (i : Int) : isInst "list" (D.int i) st = .ok (.bl false) st := isInst_list rfl
@[simp] theorem ii_list_str {st : Sto} (x : Str) : isInst "list" (D.str x) st = .ok (.bl false) st := isInst_list rfl
@[simp] theorem ii_list_tup {st : Sto} (x : List D) : isInst "list" (D.tup x) st = .ok (.bl false) st := isInst_list rfl
@[simp] theorem ii_list_lst {st : Sto} (x : List D) : isInst "list" (D.lst x) st = .ok (.bl true) st := isInst_list rfl
@[simp] theorem ii_list_dic {st : Sto} (x : List (Key × D)) : isInst "list" (D.dic x) st = .ok (.bl false) st := isInst_list rfl
@[simp] theorem ii_dict_non {st : Sto}  : isInst "dict" (D.non) st = .ok (.bl false) st := isInst_dict rfl
@[simp] theorem ii_dict_bl {st : Sto} (b : Bool) : isInst "dict" (D.bl b) st = .ok (.bl false) st := isInst_dict rfl
@[simp] theorem ii_dict_int {st : Sto} (i : Int) : isInst "dict" (D.int i) st = .ok (.bl false) st := isInst_dict rfl
@[simp] theorem ii_dict_str {st : Sto} (x : Str) : isInst "dict" (D.str x) st = .ok (.bl false) st := isInst_dict rfl
@[simp] theorem ii_dict_tup {st : Sto} (x : List D) : isInst "dict" (D.tup x) st = .ok (.bl false) st := isInst_dict rfl
@[simp] theorem ii_dict_lst {st : Sto} (x : List D) : isInst "dict" (D.lst x) st = .ok (.bl false) st := isInst_dict rfl
@[simp] theorem ii_dict_dic {st : Sto} (x : List (Key × D)) : isInst "dict" (D.dic x) st = .ok (.bl true) st := isInst_dict rfl
end MI
/-! MiQ: the draws that every law begins with. -/
namespace MI
open PySem PySem.Spec PyProof.Rows L2 MX
@[simp] theorem bind_ok {α β : Type} (a : α) (st : Sto) (f : α → Sto → R β) : (R.ok a st).bind f = f a st := rfl
@[simp] theorem bind_exc {α β : Type} (c : Nat) (st : Sto) (f : α → Sto → R β) : (R.exc c st : R α).bind f = .exc c st := rfl
@[simp] theorem bind_stuck {α β : Type} (f : α → Sto → R β) : (R.stuck : R α).bind f = .stuck := rfl
theorem phi_at {tbl : List DefR} {n i : Nat} {d : DefR} {ds : List D} {st : Sto} (h : tbl[i]? = some d) : Phi tbl (n + 1) i ds st = runDef d (Phi tbl n) ds st := by
  simp [Phi, h]
theorem freeze_same {st st' : Sto} {d : D} (h : st'.length = st.length) : freeze st d st' = .ok d st' := by simp [freeze, h]
@[simp] theorem freeze_refl {st : Sto} {d : D} : freeze st d st = .ok d st := freeze_same rfl
@[simp] theorem cutSt_refl {st : Sto} : cutSt st st = st := by simp [cutSt]
theorem runDef_rt {d : DefR} {Ph : Nat → List D → Sto → R D} {ds : List D} {st st' : Sto} {v : D} (ha : ds.length = d.arity)
    (h : d.body Ph (startD d.slots ds) st = .rt v st') (hl : st'.length = st.length) : runDef d Ph ds st = .ok v st' := by
  simp [runDef, ha, h, freeze_same hl]
theorem runDef_frz {d : DefR} {Ph : Nat → List D → Sto → R D} {ds : List D} {st st' st2 : Sto} {v v2 : D} (ha : ds.length = d.arity) (hf : d.frz = true)
    (h : d.body Ph (startD d.slots ds) st = .rt v st') (hz : freeze st v st' = .ok v2 st2) : runDef d Ph ds st = .ok v2 st2 := by
  simp [runDef, ha, h, hf, hz]
theorem runDef_raw {d : DefR} {Ph : Nat → List D → Sto → R D} {ds : List D} {st st' : Sto} {v : D} (ha : ds.length = d.arity) (hf : d.frz = false)
    (h : d.body Ph (startD d.slots ds) st = .rt v st') : runDef d Ph ds st = .ok v st' := by
  simp [runDef, ha, h, hf]
/-- a loop whose body goes on -/
theorem forGo_ind {g : MG} {b : MS} {xs : List D} (I : Nat → DEnv → Sto → Prop) (ds : List D)
    (step : ∀ (i : Nat) (d : D) (env : DEnv) (st : Sto), ds[i]? = some d → I i env st → ∃ env', g d env = some env' ∧ ∃ e2 s2, b env' st = .nx e2 s2 ∧ I (i + 1) e2 s2)
    {env : DEnv} {st : Sto} (h : I 0 env st) : ∃ e2 s2, forGo (.vals xs) g b ds env st = .nx e2 s2 ∧ I ds.length e2 s2 := by
  induction ds generalizing I env st with
  | nil => exact ⟨env, st, rfl, h⟩
  | cons d ds ih =>
    obtain ⟨env', hg, e2, s2, hb, hI⟩ := step 0 d env st rfl h
    obtain ⟨e3, s3, h3, hI3⟩ := ih (fun i => I (i + 1)) (fun i d env st hd hi => step (i + 1) d env st (by simpa using hd) hi) hI
    refine ⟨e3, s3, ?_, hI3⟩
    rw [forGo_cons]
    simp [hg, hb, h3]
/-- a loop whose body goes on or returns -/
theorem forGo_or {g : MG} {b : MS} {xs : List D} (I : Nat → DEnv → Sto → Prop) (Q : D → Sto → Prop) (ds : List D)
    (step : ∀ (i : Nat) (d : D) (env : DEnv) (st : Sto), ds[i]? = some d → I i env st → ∃ env', g d env = some env' ∧ ((∃ e2 s2, b env' st = .nx e2 s2 ∧ I (i + 1) e2 s2) ∨ (∃ v s2, b env' st = .rt v s2 ∧ Q v s2)))
    {env : DEnv} {st : Sto} (h : I 0 env st) : (∃ e2 s2, forGo (.vals xs) g b ds env st = .nx e2 s2 ∧ I ds.length e2 s2) ∨ (∃ v s2, forGo (.vals xs) g b ds env st = .rt v s2 ∧ Q v s2) := by
  induction ds generalizing I env st with
  | nil => exact .inl ⟨env, st, rfl, h⟩
  | cons d ds ih =>
    obtain ⟨env', hg, hb⟩ := step 0 d env st rfl h
    rcases hb with ⟨e2, s2, hb, hI⟩ | ⟨v, s2, hb, hq⟩
    · rcases ih (fun i => I (i + 1)) (fun i d env st hd hi => step (i + 1) d env st (by simpa using hd) hi) hI with ⟨e3, s3, h3, hI3⟩ | ⟨v, s3, h3, hq⟩
      · refine .inl ⟨e3, s3, ?_, hI3⟩
        rw [forGo_cons]
        simp [hg, hb, h3]
      · refine .inr ⟨v, s3, ?_, hq⟩
        rw [forGo_cons]
        simp [hg, hb, h3]
    · refine .inr ⟨v, s2, ?_, hq⟩
      rw [forGo_cons]
      simp [hg, hb]
@[simp] theorem rangeD_len (lo : Int) (n : Nat) : (rangeD lo n).length = n := by simp [rangeD]
theorem rangeD_at {lo : Int} {n i : Nat} {d : D} (h : (rangeD lo n)[i]? = some d) : i < n ∧ d = .int (lo + i) := by
  have hl := (List.getElem?_eq_some_iff.mp h).1
  rw [rangeD_len] at hl
  unfold rangeD at h
  rw [List.getElem?_map, List.getElem?_range hl] at h
  exact ⟨hl, (Option.some.inj h).symm⟩
theorem range_ok {i : Int} (h0 : 0 ≤ i) (h1 : i < 100000000) : -(2 ^ 62) ≤ i ∧ i < 2 ^ 62 := ⟨by omega, by omega⟩
theorem iRange1_int {a : ME} {env : DEnv} {st st' : Sto} {i : Int} (h : a env st = .ok (.int i) st') (h0 : 0 ≤ i) (hn : i < 100000000) : iRange1 a env st = .ok (.vals (rangeD 0 i.toNat)) st' := by
  rw [iRange1_app, h, bind_ok]
  simp only [if_pos (range_ok h0 hn)]
theorem iRange1_nat {a : ME} {env : DEnv} {st st' : Sto} {n : Nat} (h : a env st = .ok (.int n) st') (hn : n < 100000000) : iRange1 a env st = .ok (.vals (rangeD 0 n)) st' := by
  have := iRange1_int h (by omega) (by omega)
  rwa [Int.toNat_natCast] at this
/-! ### mixed -/
noncomputable def gMixed (Ph : Nat → List D → Sto → R D) : MS := (sSeq (sAsg (mBin opMod (mBin opAdd (mBin opAdd (mBin opMul (mBin opMod (mVar 0) (mC (.int 2147483647))) (mC (.int 48271))) (mBin opMul (mBin opMul (mC (.int 7919)) (mVar 1)) (mVar 1))) (mC (.int 104729))) (mC (.int 2147483647))) (gVar 2))
  (sSeq (sRet (mBin opMod (mBin opMul (mVar 2) (mVar 2)) (mC (.int 2147483629))))
  sSkip))
def mixZ (c k : Int) : Int := (c % 2147483647 * 48271 + 7919 * k * k + 104729) % 2147483647
def mixedZ (c k : Int) : Int := mixZ c k * mixZ c k % 2147483629
theorem mixedZ_ge (c k : Int) : 0 ≤ mixedZ c k := Int.emod_nonneg _ (by decide)
theorem mixedZ_lt (c k : Int) : mixedZ c k < 2147483629 := Int.emod_lt_of_pos _ (by decide)
theorem mixed_ok {Ph : Nat → List D → Sto → R D} {c k : Int} {st : Sto} (h0 : 0 ≤ k) (h1 : k < 1000) :
    runDef ⟨2, 3, true, gMixed⟩ Ph [.int c, .int k] st = .ok (.int (mixedZ c k)) st := by
  refine runDef_rt rfl ?_ rfl
  have a : mulOk (c % 2147483647) 48271 := mulOk_r (by decide) (by decide)
  have b : mulOk 7919 k := mulOk_l (by decide) (by decide)
  have d : mulOk (7919 * k) k := mulOk_r (by omega) (by omega)
  have l := Int.emod_nonneg (c % 2147483647 * 48271 + 7919 * k * k + 104729) (b := 2147483647) (by decide)
  have u := Int.emod_lt_of_pos (c % 2147483647 * 48271 + 7919 * k * k + 104729) (b := 2147483647) (by decide)
  have e : mulOk (mixZ c k) (mixZ c k) := mulOk_r (by unfold mixZ; omega) (by unfold mixZ; omega)
  unfold mixZ at e
  simp [gMixed, startD, a, b, d, e]
  rfl
/-! ### draws -/
noncomputable def gDraws (im F : Nat) (Ph : Nat → List D → Sto → R D) : MS := (sSeq (sAsg (mNew []) (gVar 1))
  (sSeq (sFor (iRange1 (mCall bMin [(mCall bLen [(mVar 0)]), (mC (.int 63))])) (gVar 2)
    (sSeq (sAsg (mCall bAbs [(mBin opIx (mVar 0) (mVar 2))]) (gVar 3))
  (sSeq (sIf (mBin opLt (mVar 3) (mBin opPow (mC (.int 10)) (mC (.int 18))))
    (sSeq (sFor (iRange1 (mC (.int 12))) (gVar 4)
    (sSeq (sExpr (mMethL mAppend (mVar 1) [(mCall (Ph im) [(mCall (Ph im) [(mVar 3), (mBin opAdd (mBin opMul (mC (.int 3)) (mVar 4)) (mC (.int 1)))]), (mBin opAdd (mBin opAdd (mVar 4) (mVar 2)) (mC (.int 2)))])]))
  sSkip))
  sSkip)
    sSkip)
  (sSeq (sWhile (mAnd (mBin opGe (mVar 3) (mBin opPow (mC (.int 10)) (mC (.int 18)))) (mBin opLt (mCall bLen [(mVar 1)]) (mC (.int 900))))
    (sSeq (sExpr (mMethL mAppend (mVar 1) [(mBin opMod (mVar 3) (mC (.int 2147483629)))]))
  (sSeq (sAsg (mBin opDiv (mVar 3) (mC (.int 2147483629))) (gVar 3))
  sSkip)) F)
  (sSeq (sIf (mBin opGe (mVar 3) (mC (.int 2147483629)))
    (sSeq (sExpr (mMethL mAppend (mVar 1) [(mBin opMod (mVar 3) (mC (.int 2147483629)))]))
  sSkip)
    sSkip)
  sSkip)))))
  (sSeq (sRet (mVar 1))
  sSkip)))
def InD (ds : List Int) : Prop := ∀ d ∈ ds, 0 ≤ d ∧ d < 2147483629
theorem InD.app {ds : List Int} {x : Int} (h : InD ds) (h0 : 0 ≤ x) (h1 : x < 2147483629) : InD (ds ++ [x]) := by
  intro d hd
  rcases List.mem_append.mp hd with hd | hd
  · exact h d hd
  · simp at hd; subst hd; exact ⟨h0, h1⟩
theorem append_at {st : Sto} {ds : List Int} {x : Int} (h : ds.length < 16777216) : mAppend (.ref st.length) [.int x] (st ++ [.lst (ds.map .int)]) = .ok .non (st ++ [.lst ((ds ++ [x]).map .int)]) := by
  have hs : ds.length < sizeLine := by rw [sizeLine_eq]; exact h
  simp [mAppend, hs]
theorem isLst_at {st : Sto} {ds : List D} : isLst (st ++ [.lst ds]) (.ref st.length) = true := by simp [isLst, deref]
theorem len_at {st : Sto} {ds : List D} : bLen [.ref st.length] (st ++ [.lst ds]) = .ok (.int ds.length) (st ++ [.lst ds]) := by
  simp [bLen, lenD, deref]
theorem atN {α : Type} {xs : List α} {n : Nat} {x : α} (h : xs[n]? = some x) : atI xs (n : Int) = some x := by
  have hl := (List.getElem?_eq_some_iff.mp h).1
  have : ixN xs.length (n : Int) = some n := by
    unfold ixN
    rw [if_pos (by omega), if_pos (by omega)]
    rfl
  simp [atI, this, h]
theorem atI_int {α : Type} {xs : List α} {i : Int} (h0 : 0 ≤ i) (h1 : i < xs.length) : ∃ x, atI xs i = some x ∧ xs[i.toNat]? = some x := by
  obtain ⟨n, rfl⟩ := Int.eq_ofNat_of_zero_le h0
  have hl : n < xs.length := by omega
  exact ⟨xs[n], atN (List.getElem?_eq_getElem hl), by simp [hl]⟩
@[simp] theorem bMin_app (i j : Int) (st : Sto) : bMin [.int i, .int j] st = .ok (.int (if j < i then j else i)) st := rfl
@[simp] theorem bAbs_app (i : Int) (st : Sto) : bAbs [.int i] st = .ok (.int (if i < 0 then -i else i)) st := rfl
@[simp] theorem bLen_fz (ds : List D) (st : Sto) : bLen [.fz ds] st = .ok (.int ds.length) st := rfl
@[simp] theorem bLen_tup (ds : List D) (st : Sto) : bLen [.tup ds] st = .ok (.int ds.length) st := rfl
@[simp] theorem bLen_lst (ds : List D) (st : Sto) : bLen [.lst ds] st = .ok (.int ds.length) st := rfl
theorem opIx_fz {ds : List D} {n : Nat} {d : D} {st : Sto} (h : ds[n]? = some d) : opIx (.fz ds) (.int n) st = .ok d st := by simp [opIx, atN h]
theorem draws_for {im : Nat} {Ph : Nat → List D → Sto → R D} {st : Sto} {S : D} {x k : Int} {e4 : Option D}
    (hm : ∀ (c k : Int) (st : Sto), 0 ≤ k → k < 1000 → Ph im [.int c, .int k] st = .ok (.int (mixedZ c k)) st)
    (hk0 : 0 ≤ k) (hk1 : k < 63) {ds : List Int} (hd : InD ds) (hl : ds.length < 10000) :
    ∃ a ds', InD ds' ∧ ds'.length ≤ ds.length + 12 ∧
      forGo (.vals (rangeD 0 12)) (gVar 4) (sSeq (sExpr (mMethL mAppend (mVar 1) [(mCall (Ph im) [(mCall (Ph im) [(mVar 3), (mBin opAdd (mBin opMul (mC (.int 3)) (mVar 4)) (mC (.int 1)))]), (mBin opAdd (mBin opAdd (mVar 4) (mVar 2)) (mC (.int 2)))])])) sSkip) (rangeD 0 12)
        [some S, some (.ref st.length), some (.int k), some (.int x), e4] (st ++ [.lst (ds.map .int)]) = .nx [some S, some (.ref st.length), some (.int k), some (.int x), a] (st ++ [.lst (ds'.map .int)]) := by
  obtain ⟨e2, s2, h2, a, ds', he, hs, hi, hn⟩ := forGo_ind (g := gVar 4) (b := (sSeq (sExpr (mMethL mAppend (mVar 1) [(mCall (Ph im) [(mCall (Ph im) [(mVar 3), (mBin opAdd (mBin opMul (mC (.int 3)) (mVar 4)) (mC (.int 1)))]), (mBin opAdd (mBin opAdd (mVar 4) (mVar 2)) (mC (.int 2)))])])) sSkip)) (xs := rangeD 0 12)
    (fun i env s => ∃ a ds', env = [some S, some (.ref st.length), some (.int k), some (.int x), a] ∧ s = st ++ [.lst (ds'.map .int)] ∧ InD ds' ∧ ds'.length = ds.length + i) (rangeD 0 12)
    (fun i d env s hd hi => by
      obtain ⟨hlt, rfl⟩ := rangeD_at hd
      obtain ⟨a, ds', rfl, rfl, hi, hn⟩ := hi
      refine ⟨_, rfl, _, _, ?_, some (.int (0 + i)), ds' ++ [mixedZ (mixedZ x (3 * i + 1)) (i + k + 2)], rfl, rfl, hi.app (mixedZ_ge _ _) (mixedZ_lt _ _), by simp; omega⟩
      have b : mulOk 3 (i : Int) := mulOk_l (by decide) (by decide)
      have m1 := fun st => hm x (3 * i + 1) st (by omega) (by omega)
      have m2 := fun st => hm (mixedZ x (3 * i + 1)) (i + k + 2) st (by omega) (by omega)
      have ap := append_at (st := st) (ds := ds') (x := mixedZ (mixedZ x (3 * i + 1)) (i + k + 2)) (by omega)
      simp [b, m1, m2, isLst_at, ap]) ⟨e4, ds, rfl, rfl, hd, rfl⟩
  subst he hs
  exact ⟨a, ds', hi, by simpa using Nat.le_of_eq hn, h2⟩
theorem draws_while {im : Nat} {st : Sto} {S : D} {k : Int} {e4 : Option D} : ∀ (f : Nat) {x : Int} {ds : List Int}, InD ds → 1000 ≤ f + ds.length → 0 < f → 
    ∃ y ds', InD ds' ∧ ds'.length ≤ max ds.length 900 ∧
      sWhile (mAnd (mBin opGe (mVar 3) (mBin opPow (mC (.int 10)) (mC (.int 18)))) (mBin opLt (mCall bLen [(mVar 1)]) (mC (.int 900))))
    (sSeq (sExpr (mMethL mAppend (mVar 1) [(mBin opMod (mVar 3) (mC (.int 2147483629)))]))
  (sSeq (sAsg (mBin opDiv (mVar 3) (mC (.int 2147483629))) (gVar 3))
  sSkip)) f
        [some S, some (.ref st.length), some (.int k), some (.int x), e4] (st ++ [.lst (ds.map .int)]) = .nx [some S, some (.ref st.length), some (.int k), some (.int y), e4] (st ++ [.lst (ds'.map .int)])
  | 0, _, _, _, _, h => absurd h (by decide)
  | f + 1, x, ds, hd, hf, _ => by
    have p : CPow 10 18 := by decide
    have q : CDivW x 2147483629 := by unfold CDivW; decide
    by_cases hx : (1000000000000000000 : Int) ≤ x
    · by_cases hl : ds.length < 900
      · have ap := append_at (st := st) (ds := ds) (x := x % 2147483629) (by omega)
        obtain ⟨y, ds', hi, hn, h⟩ := draws_while (im := im) (st := st) (S := S) (k := k) (e4 := e4) f (x := x / 2147483629) (ds := ds ++ [x % 2147483629]) (hd.app (Int.emod_nonneg _ (by decide)) (Int.emod_lt_of_pos _ (by decide))) (by simp; omega) (by omega)
        refine ⟨y, ds', hi, by simp at hn; omega, ?_⟩
        have hl' : (ds.length : Int) < 900 := by omega
        rw [sWhile_succ]
        simp [p, q, hx, hl', len_at, isLst_at, ap]
        simpa using h
      · refine ⟨x, ds, hd, by omega, ?_⟩
        have hl' : ¬ (ds.length : Int) < 900 := by omega
        rw [sWhile_succ]
        simp [p, q, hx, hl', len_at]
    · refine ⟨x, ds, hd, by omega, ?_⟩
      rw [sWhile_succ]
      simp [p, hx]
theorem draws_body {im F : Nat} (hF : 1000 ≤ F) {Ph : Nat → List D → Sto → R D} {st : Sto} {ns : List Int}
    (hm : ∀ (c k : Int) (st : Sto), 0 ≤ k → k < 1000 → Ph im [.int c, .int k] st = .ok (.int (mixedZ c k)) st) :
    ∃ ds, InD ds ∧ gDraws im F Ph (startD 5 [.fz (ns.map .int)]) st = .rt (.ref st.length) (st ++ [.lst (ds.map .int)]) := by
  have hb := forGo_ind (g := gVar 2) (b := (sSeq (sAsg (mCall bAbs [(mBin opIx (mVar 0) (mVar 2))]) (gVar 3))
  (sSeq (sIf (mBin opLt (mVar 3) (mBin opPow (mC (.int 10)) (mC (.int 18))))
    (sSeq (sFor (iRange1 (mC (.int 12))) (gVar 4)
    (sSeq (sExpr (mMethL mAppend (mVar 1) [(mCall (Ph im) [(mCall (Ph im) [(mVar 3), (mBin opAdd (mBin opMul (mC (.int 3)) (mVar 4)) (mC (.int 1)))]), (mBin opAdd (mBin opAdd (mVar 4) (mVar 2)) (mC (.int 2)))])]))
  sSkip))
  sSkip)
    sSkip)
  (sSeq (sWhile (mAnd (mBin opGe (mVar 3) (mBin opPow (mC (.int 10)) (mC (.int 18)))) (mBin opLt (mCall bLen [(mVar 1)]) (mC (.int 900))))
    (sSeq (sExpr (mMethL mAppend (mVar 1) [(mBin opMod (mVar 3) (mC (.int 2147483629)))]))
  (sSeq (sAsg (mBin opDiv (mVar 3) (mC (.int 2147483629))) (gVar 3))
  sSkip)) F)
  (sSeq (sIf (mBin opGe (mVar 3) (mC (.int 2147483629)))
    (sSeq (sExpr (mMethL mAppend (mVar 1) [(mBin opMod (mVar 3) (mC (.int 2147483629)))]))
  sSkip)
    sSkip)
  sSkip))))) (xs := rangeD 0 (min ns.length 63))
    (fun i env s => ∃ a b c ds', env = [some (.fz (ns.map .int)), some (.ref st.length), a, b, c] ∧ s = st ++ [.lst (ds'.map .int)] ∧ InD ds' ∧ ds'.length ≤ 901 + 20 * i) (rangeD 0 (min ns.length 63))
    (fun i d env s hd hi => by
      obtain ⟨hlt, rfl⟩ := rangeD_at hd
      obtain ⟨a, b, c, ds', rfl, rfl, hi, hn⟩ := hi
      have hin : i < ns.length := by omega
      have ix := fun st => opIx_fz (ds := ns.map .int) (n := i) (d := .int ns[i]) (st := st) (by simp [hin])
      have p : CPow 10 18 := by decide
      have last : ∀ (x : Int) (e4 : Option D) (ds1 : List Int), InD ds1 → ds1.length ≤ 913 + 20 * i → ∃ e2 s2, ((sSeq (sWhile (mAnd (mBin opGe (mVar 3) (mBin opPow (mC (.int 10)) (mC (.int 18)))) (mBin opLt (mCall bLen [(mVar 1)]) (mC (.int 900))))
    (sSeq (sExpr (mMethL mAppend (mVar 1) [(mBin opMod (mVar 3) (mC (.int 2147483629)))]))
  (sSeq (sAsg (mBin opDiv (mVar 3) (mC (.int 2147483629))) (gVar 3))
  sSkip)) F)
  (sSeq (sIf (mBin opGe (mVar 3) (mC (.int 2147483629)))
    (sSeq (sExpr (mMethL mAppend (mVar 1) [(mBin opMod (mVar 3) (mC (.int 2147483629)))]))
  sSkip)
    sSkip)
  sSkip)) [some (.fz (ns.map .int)), some (.ref st.length), some (.int (0 + i)), some (.int x), e4] (st ++ [.lst (ds1.map .int)])) = .nx e2 s2 ∧ ∃ a b c ds', e2 = [some (.fz (ns.map .int)), some (.ref st.length), a, b, c] ∧ s2 = st ++ [.lst (ds'.map .int)] ∧ InD ds' ∧ ds'.length ≤ 901 + 20 * (i + 1) := by
        intro x e4 ds1 h1 n1
        obtain ⟨y, ds2, h2, n2, e⟩ := draws_while (im := im) (st := st) (S := .fz (ns.map .int)) (k := 0 + i) (e4 := e4) F (x := x) (ds := ds1) h1 (by omega) (by omega)
        rw [sSeq_app, e, then_nx]
        by_cases hy : 2147483629 ≤ y
        · have ap := append_at (st := st) (ds := ds2) (x := y % 2147483629) (by omega)
          refine ⟨_, _, ?_, some (.int (0 + i)), some (.int y), e4, ds2 ++ [y % 2147483629], rfl, rfl, h2.app (Int.emod_nonneg _ (by decide)) (Int.emod_lt_of_pos _ (by decide)), by simp; omega⟩
          simp [hy, isLst_at, ap]
        · refine ⟨_, _, ?_, some (.int (0 + i)), some (.int y), e4, ds2, rfl, rfl, h2, by omega⟩
          simp [hy]
      refine ⟨_, rfl, ?_⟩
      by_cases hx : (if ns[i] < 0 then -ns[i] else ns[i]) < (1000000000000000000 : Int)
      · obtain ⟨a4, ds1, h1, n1, e⟩ := draws_for (st := st) (S := .fz (ns.map .int)) (x := (if ns[i] < 0 then -ns[i] else ns[i])) (k := 0 + i) (e4 := c) hm (by omega) (by omega) hi (by omega)
        obtain ⟨e2, s2, e3, h3⟩ := last (if ns[i] < 0 then -ns[i] else ns[i]) a4 ds1 h1 (by omega)
        refine ⟨e2, s2, ?_, h3⟩
        rw [← e3]
        simp only [Int.zero_add] at e ⊢
        have hx' : (if ns[i] < 0 then -ns[i] else ns[i]) < 1000000000000000000 := hx
        simp [ix, p, hx', e]
      · obtain ⟨e2, s2, e3, h3⟩ := last (if ns[i] < 0 then -ns[i] else ns[i]) c ds' hi (by omega)
        refine ⟨e2, s2, ?_, h3⟩
        rw [← e3]
        simp only [Int.zero_add]
        have hx' : ¬ (if ns[i] < 0 then -ns[i] else ns[i]) < 1000000000000000000 := hx
        simp [ix, p, hx']) ⟨none, none, none, [], rfl, rfl, fun _ h => absurd h (by simp), by simp⟩
  obtain ⟨e2, s2, h2, a, b, c, ds', rfl, rfl, hi, hn⟩ := hb
  refine ⟨ds', hi, ?_⟩
  unfold gDraws
  have hmin : (if (63 : Int) < (ns.length : Int) then (63 : Int) else (ns.length : Int)) = ((min ns.length 63 : Nat) : Int) := by split <;> omega
  have hmin' : (((min ns.length 63 : Nat) : Int)).toNat = min ns.length 63 := by simp
  have h0 : (0 : Nat) ≤ sizeLine := Nat.zero_le _
  have hit : ∀ s, iRange1 (mCall bMin [(mCall bLen [(mVar 0)]), (mC (.int 63))]) [some (.fz (ns.map .int)), some (.ref st.length), none, none, none] s = .ok (.vals (rangeD 0 (min ns.length 63))) s := by
    intro s
    refine iRange1_nat ?_ (by omega)
    simp only [mCall_app, mArgs_cons, mArgs_nil, bind_ok, mC_app, mVar_app, List.getElem?_cons_zero, bLen_fz, bMin_app, List.length_map, hmin]
  have hs : startD 5 [.fz (ns.map .int)] = [some (.fz (ns.map .int)), none, none, none, none] := rfl
  simp only [sSeq_app, sAsg_app, mNew_app, mArgs_nil, bind_ok, List.length_nil, if_pos h0, gVar_app, then_nx, sFor_app, hs, List.set_cons_succ, List.set_cons_zero, hit, items_vals]
  simp only [List.map_nil] at h2
  rw [h2]
  simp
end MI
/-! MiR: next, equality of plain data. -/
namespace MI
open PySem PySem.Spec PyProof.Rows L2 MX
/-- plain data: no ref, no dict, strings that can be laid, depth at most k -/
def Pln (k : Nat) (d : D) : Prop := noRef d = true ∧ PyData.canLay0 (toPy d) = true ∧ PyData.depth (toPy d) ≤ k
def Plns (k : Nat) (ds : List D) : Prop := noRefs ds = true ∧ PyData.canLayAll0 (toPys ds) = true ∧ PyData.depthAll (toPys ds) ≤ k
theorem Plns.nil {k : Nat} : Plns k [] := ⟨by simp [noRefs], by simp [toPys, PyData.canLayAll0], by simp [toPys, PyData.depthAll]⟩
theorem Plns.cons {k : Nat} {d : D} {ds : List D} (h : Pln k d) (t : Plns k ds) : Plns k (d :: ds) :=
  ⟨by simp [noRefs, h.1, t.1], by simp [toPys, PyData.canLayAll0, h.2.1, t.2.1], by simp only [toPys, PyData.depthAll]; exact Nat.max_le.mpr ⟨h.2.2, t.2.2⟩⟩
theorem Plns.of {k : Nat} : ∀ {ds : List D}, (∀ d ∈ ds, Pln k d) → Plns k ds
  | [], _ => .nil
  | d :: ds, h => .cons (h d (by simp)) (Plns.of fun x hx => h x (by simp [hx]))
theorem Pln.int {k : Nat} {i : Int} : Pln k (.int i) := ⟨by simp [noRef], by simp [toPy, PyData.canLay0], by simp [toPy, PyData.depth]⟩
theorem Pln.bl {k : Nat} {i : Bool} : Pln k (.bl i) := ⟨by simp [noRef], by simp [toPy, PyData.canLay0], by simp [toPy, PyData.depth]⟩
theorem Pln.non {k : Nat} : Pln k .non := ⟨by simp [noRef], by simp [toPy, PyData.canLay0], by simp [toPy, PyData.depth]⟩
theorem Pln.str {k : Nat} {x : Str} (h : PyData.canLay0 (.str x) = true) : Pln k (.str x) := ⟨by simp [noRef], by simpa [toPy] using h, by simp [toPy, PyData.depth]⟩
theorem Pln.tup {k : Nat} {ds : List D} (h : Plns k ds) : Pln (k + 1) (.tup ds) := ⟨by simp [noRef, h.1], by simp [toPy, PyData.canLay0, h.2.1], by simp [toPy, PyData.depth]; exact h.2.2⟩
theorem Pln.lst {k : Nat} {ds : List D} (h : Plns k ds) : Pln (k + 1) (.lst ds) := ⟨by simp [noRef, h.1], by simp [toPy, PyData.canLay0, h.2.1], by simp [toPy, PyData.depth]; exact h.2.2⟩
theorem Plns.ints {k : Nat} {ns : List Int} : Plns k (ns.map .int) := Plns.of fun d hd => by
  obtain ⟨i, _, rfl⟩ := List.mem_map.mp hd
  exact .int
def beqD (x y : D) : Bool := PyData.eqv (toPy x) (toPy y)
theorem Pln.shaped {k : Nat} {d : D} (h : Pln k d) (hk : k ≤ 64) : SeqAt.shaped (toPy d) = true := by
  simp [SeqAt.shaped, h.2.1]
  exact Nat.le_trans h.2.2 hk
theorem eqD_pl {st : Sto} {k j : Nat} {x y : D} (h1 : Pln k (deref st x)) (h2 : Pln j (deref st y)) (hk : k ≤ 64) (hj : j ≤ 64) : eqD st x y = some (beqD (deref st x) (deref st y)) := by
  simp [eqD, h1.1, h2.1, h1.shaped hk, h2.shaped hj, beqD]
theorem opEq_pl {st : Sto} {k j : Nat} {x y : D} (h1 : Pln k (deref st x)) (h2 : Pln j (deref st y)) (hk : k ≤ 64) (hj : j ≤ 64) : opEq x y st = .ok (.bl (beqD (deref st x) (deref st y))) st := by
  simp [opEq, eqD_pl h1 h2 hk hj]
theorem opNe_pl {st : Sto} {k j : Nat} {x y : D} (h1 : Pln k (deref st x)) (h2 : Pln j (deref st y)) (hk : k ≤ 64) (hj : j ≤ 64) : opNe x y st = .ok (.bl (!beqD (deref st x) (deref st y))) st := by
  simp [opNe, eqD_pl h1 h2 hk hj]
mutual
theorem eqv_refl : ∀ {d : PyData}, PyData.canLay0 d = true → PyData.eqv d d = true
  | .none, _ => by simp [PyData.eqv]
  | .bool _, _ => by simp [PyData.eqv]
  | .int _, _ => by simp [PyData.eqv]
  | .str _, _ => by simp [PyData.eqv]
  | .list xs, h => by simp only [PyData.eqv]; exact eqvAll_refl (by simpa [PyData.canLay0] using h)
  | .tuple xs, h => by simp only [PyData.eqv]; exact eqvAll_refl (by simpa [PyData.canLay0] using h)
  | .dict _, h => by simp [PyData.canLay0] at h
theorem eqvAll_refl : ∀ {ds : List PyData}, PyData.canLayAll0 ds = true → PyData.eqvAll ds ds = true
  | [], _ => by simp [PyData.eqvAll]
  | d :: ds, h => by
    simp [PyData.canLayAll0] at h
    simp [PyData.eqvAll, eqv_refl h.1, eqvAll_refl h.2]
end
theorem beqD_refl {k : Nat} {d : D} (h : Pln k d) : beqD d d = true := eqv_refl h.2.1
@[simp] theorem beqD_int (i j : Int) : beqD (.int i) (.int j) = decide (i = j) := by
  simp [beqD, toPy, PyData.eqv]
  by_cases h : i = j <;> simp [h]
@[simp] theorem beqD_bl (i j : Bool) : beqD (.bl i) (.bl j) = decide (i = j) := by
  cases i <;> cases j <;> rfl
@[simp] theorem beqD_str (x y : Str) : beqD (.str x) (.str y) = (x == y) := by
  simp [beqD, toPy, PyData.eqv]
theorem eqvAll_ints : ∀ (a b : List Int), PyData.eqvAll (toPys (a.map .int)) (toPys (b.map .int)) = decide (a = b)
  | [], [] => by simp [toPys, PyData.eqvAll]
  | [], _ :: _ => by simp [toPys, PyData.eqvAll]
  | _ :: _, [] => by simp [toPys, PyData.eqvAll]
  | x :: a, y :: b => by
    have := beqD_int x y
    unfold beqD at this
    simp [toPys, PyData.eqvAll, eqvAll_ints a b, this]
@[simp] theorem beqD_lst_nil (ds : List D) : beqD (.lst ds) (.lst []) = ds.isEmpty := by
  cases ds <;> simp [beqD, toPy, toPys, PyData.eqv, PyData.eqvAll]
/-! ### comprehensions that map -/
theorem compGo_map {g : MG} {e : ME} {env : DEnv} {xs : List D} {st : Sto} (F : D → D) : ∀ (ds : List D), (∀ d ∈ ds, ∃ env', g d env = some env' ∧ e env' st = .ok (F d) st) → compGo (.vals xs) g none e env ds st = .ok (ds.map F) st
  | [], _ => rfl
  | d :: ds, h => by
    obtain ⟨env', h1, h2⟩ := h d (by simp)
    have ih := compGo_map (g := g) (e := e) (env := env) (xs := xs) (st := st) F ds fun x hx => h x (by simp [hx])
    rw [compGo_cons]
    simp [h1, h2, ih]
theorem mComp_map {it : MIt} {vs : List Nat} {g : MG} {e : ME} {env : DEnv} {st st' : Sto} {ds : List D} (F : D → D) (hi : it env st = .ok (.vals ds) st')
    (h : ∀ d ∈ ds, ∃ env', g d (wipeD env vs) = some env' ∧ e env' st' = .ok (F d) st') (hl : ds.length ≤ 10000000) : mComp it vs g none e env st = .ok (.lst (ds.map F)) st' := by
  have h1 := compGo_map (xs := ds) F ds h
  have h2 : (ds.map F).length ≤ sizeLine := sizeLine_ge (by simp; omega)
  rw [mComp_app, hi, bind_ok, items_vals, h1]
  simp only [if_pos h2]
theorem bAll_map (p : D → Bool) (ds : List D) (st : Sto) : bAll [.lst (ds.map fun d => .bl (p d))] st = .ok (.bl (ds.all p)) st := by
  have : (ds.map fun d => D.bl (p d)) = (ds.map p).map .bl := by simp
  simp only [this, bAll, deref_lst, boolsOf_map]
  simp [List.all_map]
theorem bAny_map (p : D → Bool) (ds : List D) (st : Sto) : bAny [.lst (ds.map fun d => .bl (p d))] st = .ok (.bl (ds.any p)) st := by
  have : (ds.map fun d => D.bl (p d)) = (ds.map p).map .bl := by simp
  simp only [this, bAny, deref_lst, boolsOf_map]
  simp [List.any_map]
/-! ### letting go of what a def made -/
theorem freeze_cut {st pre new : Sto} {d : D} (hl : pre.length = st.length) (hp : ∀ o ∈ pre, belowO st.length o = true) (hd : below st.length d = true) (hr : ∀ l, d ≠ .ref l) : freeze st d (pre ++ new) = .ok d pre := by
  unfold freeze
  by_cases h : (pre ++ new).length = st.length
  · have : new = [] := by
      simp [hl] at h
      exact h
    subst this
    rw [if_pos h, List.append_nil]
  · rw [if_neg h, if_pos]
    · have ht : (pre ++ new).take st.length = pre := by rw [← hl]; simp
      cases d <;> first | exact absurd rfl (hr _) | (simp only [if_pos hd, ht])
    · intro i o hi ho
      rw [List.getElem?_append_left (by omega)] at ho
      exact .inr (hp o (List.mem_of_getElem? ho))
theorem law_done {d : DefR} {Ph : Nat → List D → Sto → R D} {ds : List D} {st : Sto} {b : Bool} (ha : ds.length = d.arity) (hf : d.frz = true) (h : d.body Ph (startD d.slots ds) [] = .rt (.bl b) st) :
    ∃ s, runDef d Ph ds [] = .ok (.bl b) s := by
  unfold runDef
  rw [if_pos ha, h]
  show ∃ s, (if d.frz = true then freeze [] (.bl b) st else .ok (.bl b) st) = .ok (.bl b) s
  rw [if_pos hf]
  unfold freeze
  split
  · exact ⟨_, rfl⟩
  · split
    · exact ⟨_, rfl⟩
    · exact ⟨_, rfl⟩
theorem belows_ints (n : Nat) : ∀ ns : List Int, belows n (ns.map .int) = true
  | [] => by simp [belows]
  | x :: ns => by simp [belows, below, belows_ints n ns]
/-! ### next -/
noncomputable def gNext (Ph : Nat → List D → Sto → R D) : MS := (sSeq (sIf (mBin opEq (mVar 0) (mLst []))
    (sSeq (sRet (mC (.int 0)))
  sSkip)
    sSkip)
  (sSeq (sRet (mMethL mPop (mVar 0) [(mC (.int 0))]))
  sSkip))
theorem next_ok {Ph : Nat → List D → Sto → R D} {l : Nat} {st : Sto} {ds : List Int} (hs : st[l]? = some (.lst (ds.map .int))) (hd : InD ds) :
    ∃ x ds', 0 ≤ x ∧ x < 2147483629 ∧ InD ds' ∧ runDef ⟨1, 1, true, gNext⟩ Ph [.ref l] st = .ok (.int x) (st.set l (.lst (ds'.map .int))) := by
  have hde : deref st (.ref l) = .lst (ds.map .int) := deref_ref_lst hs
  have hl : l < st.length := (List.getElem?_eq_some_iff.mp hs).1
  have heq : opEq (.ref l) (.lst []) st = .ok (.bl (ds.map D.int).isEmpty) st := by
    rw [opEq_pl (k := 64) (j := 64) (by rw [hde]; exact .lst .ints) (.lst .nil) (by omega) (by omega), hde, deref_lst, beqD_lst_nil]
  cases ds with
  | nil =>
    refine ⟨0, [], by decide, by decide, hd, ?_⟩
    have : st.set l (.lst (List.map D.int [])) = st := by
      apply List.ext_getElem? ; intro i
      by_cases h : l = i
      · subst h; rw [hs]; simp [hl]
      · simp [h]
    rw [this]
    refine runDef_rt rfl ?_ rfl
    simp [gNext, startD, heq]
  | cons x ds =>
    refine ⟨x, ds, (hd x (by simp)).1, (hd x (by simp)).2, fun d h => hd d (by simp [h]), ?_⟩
    refine runDef_rt rfl ?_ (by simp)
    have hil : isLst st (.ref l) = true := by simp [isLst, hde]
    have hpop : mPop (.ref l) [.int 0] st = .ok (.int x) (st.set l (.lst (ds.map .int))) := by
      have e : seqIndex? 0 ((ds.length : Nat) + 1) = some 0 := by
        have := seqIndex_of (k := 0) (n := ds.length + 1) (by omega) (by omega)
        simpa using this
      simp [mPop, hs, e]
    simp [gNext, startD, heq, hil, hpop]
end MI
/-! the text of the law, as data -/
namespace LK09
open PySem PySem.Spec PyProof.Rows L2 MI
def topS (i : Nat) : Stmt := PySem.Challenge.pw_snapshelf_k09_what_is_a_deed.main.body.getD i (.Pass ⟨0, 0, 0, 0⟩)
def G_LETTERS : D := .str (⟨#[97, 98, 99, 100, 101, 102, 103, 104, 105, 106, 107, 108, 109, 110, 111, 112, 113, 114, 115, 116, 117, 118, 119, 120, 121, 122]⟩ : Str)
def G_MOST_SIGNS : D := .int 8
def G_MOST_NAMES : D := .int 6
def G_MOST_NUMBERS : D := .int 8
def G_MOST_LEAVES : D := .int 64
def G_MOST_THINGS : D := .int 8
def G_EMPTY : D := .tup [(.str (⟨#[102, 111, 108, 100, 101, 114]⟩ : Str)), (.tup [])]
def T_SIZES : List (Str × D) := [("folder", .int 2), ("file", .int 2), ("put", .int 4), ("trim", .int 3), ("out", .int 2), ("move", .int 3), ("copy", .int 3)]
def Sub (a b : Nat) : Bool := match min a 7, min b 7 with
  | 0, 0 => true
  | 0, 1 => false
  | 0, 2 => false
  | 0, 3 => false
  | 0, 4 => false
  | 0, 5 => false
  | 0, 6 => false
  | 0, 7 => false
  | 1, 0 => false
  | 1, 1 => true
  | 1, 2 => false
  | 1, 3 => false
  | 1, 4 => false
  | 1, 5 => false
  | 1, 6 => false
  | 1, 7 => false
  | 2, 0 => false
  | 2, 1 => false
  | 2, 2 => true
  | 2, 3 => false
  | 2, 4 => false
  | 2, 5 => false
  | 2, 6 => false
  | 2, 7 => false
  | 3, 0 => false
  | 3, 1 => false
  | 3, 2 => false
  | 3, 3 => true
  | 3, 4 => false
  | 3, 5 => false
  | 3, 6 => false
  | 3, 7 => false
  | 4, 0 => false
  | 4, 1 => false
  | 4, 2 => false
  | 4, 3 => false
  | 4, 4 => true
  | 4, 5 => false
  | 4, 6 => false
  | 4, 7 => false
  | 5, 0 => false
  | 5, 1 => false
  | 5, 2 => false
  | 5, 3 => false
  | 5, 4 => false
  | 5, 5 => true
  | 5, 6 => false
  | 5, 7 => false
  | 6, 0 => false
  | 6, 1 => false
  | 6, 2 => false
  | 6, 3 => false
  | 6, 4 => false
  | 6, 5 => false
  | 6, 6 => true
  | 6, 7 => false
  | 7, 0 => false
  | 7, 1 => false
  | 7, 2 => false
  | 7, 3 => false
  | 7, 4 => false
  | 7, 5 => false
  | 7, 6 => false
  | 7, 7 => true
  | _, _ => true
/-- is_name(one); slots: 0 one, 1 sign -/
noncomputable def b_is_name (Ph : Nat → List D → Sto → R D) : MS := (sSeq (sIf (mOr (mNot (mIsI "str" (mVar 0))) (mOr (mBin opEq (mVar 0) (mC (.str (⟨#[]⟩ : Str)))) (mBin opGt (mCall bLen [(mVar 0)]) (mC G_MOST_SIGNS))))
    (sSeq (sRet (mC (.bl false)))
  sSkip)
    sSkip)
  (sSeq (sRet (mCall bAll [(mComp (iSeq (mVar 0)) [1] (gVar 1) none (mBin opIn (mVar 1) (mC G_LETTERS)))]))
  sSkip))
noncomputable def d_is_name : DefR := ⟨1, 2, true, b_is_name⟩
/-- code_of(name); slots: 0 name, 1 code, 2 sign -/
noncomputable def b_code_of (Ph : Nat → List D → Sto → R D) : MS := (sSeq (sIf (mNot (mCall (Ph 0) [(mVar 0)]))
    (sSeq (sRaise 0)
  sSkip)
    sSkip)
  (sSeq (sAsg (mC (.int 0)) (gVar 1))
  (sSeq (sFor (iSeq (mVar 0)) (gVar 2)
    (sSeq (sAsg (mBin opAdd (mBin opAdd (mBin opMul (mVar 1) (mC (.int 27))) (mMethS mIndexS (mC G_LETTERS) [(mVar 2)])) (mC (.int 1))) (gVar 1))
  sSkip))
  (sSeq (sRet (mVar 1))
  sSkip))))
noncomputable def d_code_of : DefR := ⟨1, 3, true, b_code_of⟩
/-- is_path(one); slots: 0 one, 1 name -/
noncomputable def b_is_path (Ph : Nat → List D → Sto → R D) : MS := (sSeq (sIf (mOr (mNot (mIsI "tuple" (mVar 0))) (mBin opGt (mCall bLen [(mVar 0)]) (mC G_MOST_NAMES)))
    (sSeq (sRet (mC (.bl false)))
  sSkip)
    sSkip)
  (sSeq (sRet (mCall bAll [(mComp (iSeq (mVar 0)) [1] (gVar 1) none (mCall (Ph 0) [(mVar 1)]))]))
  sSkip))
noncomputable def d_is_path : DefR := ⟨1, 2, true, b_is_path⟩
/-- is_number(one); slots: 0 one -/
noncomputable def b_is_number (Ph : Nat → List D → Sto → R D) : MS := (sSeq (sRet (mAnd (mIsI "int" (mVar 0)) (mNot (mIsI "bool" (mVar 0)))))
  sSkip)
noncomputable def d_is_number : DefR := ⟨1, 1, true, b_is_number⟩
/-- is_leaf(one); slots: 0 one, 1 number -/
noncomputable def b_is_leaf (Ph : Nat → List D → Sto → R D) : MS := (sSeq (sIf (mOr (mNot (mIsI "tuple" (mVar 0))) (mBin opGt (mCall bLen [(mVar 0)]) (mC G_MOST_NUMBERS)))
    (sSeq (sRet (mC (.bl false)))
  sSkip)
    sSkip)
  (sSeq (sRet (mCall bAll [(mComp (iSeq (mVar 0)) [1] (gVar 1) none (mAnd (mCall (Ph 3) [(mVar 1)]) (mAnd (mBin opGe (mVar 1) (mC (.int 0))) (mBin opLe (mVar 1) (mC (.int 255))))))]))
  sSkip))
noncomputable def d_is_leaf : DefR := ⟨1, 2, true, b_is_leaf⟩
/-- named(folder, name); slots: 0 folder, 1 name, 2 row -/
noncomputable def b_named (Ph : Nat → List D → Sto → R D) : MS := (sSeq (sFor (iSeq (mBin opIx (mVar 0) (mC (.int 1)))) (gVar 2)
    (sSeq (sIf (mBin opEq (mBin opIx (mVar 2) (mC (.int 0))) (mVar 1))
    (sSeq (sRet (mBin opIx (mVar 2) (mC (.int 1))))
  sSkip)
    sSkip)
  sSkip))
  (sSeq (sRet (mC (.non)))
  sSkip))
noncomputable def d_named : DefR := ⟨2, 3, true, b_named⟩
/-- thing_at(view, path); slots: 0 view, 1 path, 2 thing, 3 name -/
noncomputable def b_thing_at (Ph : Nat → List D → Sto → R D) : MS := (sSeq (sAsg (mVar 0) (gVar 2))
  (sSeq (sFor (iSeq (mVar 1)) (gVar 3)
    (sSeq (sIf (mOr (mBin opIs (mVar 2) (mC (.non))) (mBin opEq (mBin opIx (mVar 2) (mC (.int 0))) (mC (.str (⟨#[102, 105, 108, 101]⟩ : Str)))))
    (sSeq (sRet (mC (.non)))
  sSkip)
    sSkip)
  (sSeq (sAsg (mCall (Ph 5) [(mVar 2), (mVar 3)]) (gVar 2))
  sSkip)))
  (sSeq (sRet (mVar 2))
  sSkip)))
noncomputable def d_thing_at : DefR := ⟨2, 4, true, b_thing_at⟩
/-- is_folder_at(view, path); slots: 0 view, 1 path, 2 thing -/
noncomputable def b_is_folder_at (Ph : Nat → List D → Sto → R D) : MS := (sSeq (sAsg (mCall (Ph 6) [(mVar 0), (mVar 1)]) (gVar 2))
  (sSeq (sRet (mAnd (mBin opIsNot (mVar 2) (mC (.non))) (mBin opEq (mBin opIx (mVar 2) (mC (.int 0))) (mC (.str (⟨#[102, 111, 108, 100, 101, 114]⟩ : Str))))))
  sSkip))
noncomputable def d_is_folder_at : DefR := ⟨2, 3, true, b_is_folder_at⟩
/-- depth_of(thing); slots: 0 thing, 1 row -/
noncomputable def b_depth_of (Ph : Nat → List D → Sto → R D) : MS := (sSeq (sIf (mBin opEq (mBin opIx (mVar 0) (mC (.int 0))) (mC (.str (⟨#[102, 105, 108, 101]⟩ : Str))))
    (sSeq (sRet (mC (.int 0)))
  sSkip)
    sSkip)
  sStuck)
noncomputable def d_depth_of : DefR := ⟨1, 2, true, b_depth_of⟩
/-- is_way(one); slots: 0 one -/
noncomputable def b_is_way (Ph : Nat → List D → Sto → R D) : MS := (sSeq (sRet (mAnd (mCall (Ph 2) [(mVar 0)]) (mBin opNe (mVar 0) (mTup []))))
  sSkip)
noncomputable def d_is_way : DefR := ⟨1, 1, true, b_is_way⟩
/-- is_count(one); slots: 0 one -/
noncomputable def b_is_count (Ph : Nat → List D → Sto → R D) : MS := (sSeq (sRet (mAnd (mCall (Ph 3) [(mVar 0)]) (mAnd (mBin opGe (mVar 0) (mC (.int 0))) (mBin opLe (mVar 0) (mC G_MOST_LEAVES)))))
  sSkip)
noncomputable def d_is_count : DefR := ⟨1, 1, true, b_is_count⟩
/-- is_deed(one); slots: 0 one -/
noncomputable def b_is_deed (Ph : Nat → List D → Sto → R D) : MS := (sSeq (sIf (mOr (mNot (mIsI "tuple" (mVar 0))) (mOr (mBin opEq (mVar 0) (mTup [])) (mOr (mNot (mIsI "str" (mBin opIx (mVar 0) (mC (.int 0))))) (mKIn T_SIZES true (mBin opIx (mVar 0) (mC (.int 0)))))))
    (sSeq (sRet (mC (.bl false)))
  sSkip)
    sSkip)
  (sSeq (sIf (mOr (mBin opNe (mCall bLen [(mVar 0)]) (mKIx T_SIZES (mBin opIx (mVar 0) (mC (.int 0))))) (mNot (mCall (Ph 9) [(mBin opIx (mVar 0) (mC (.int 1)))])))
    (sSeq (sRet (mC (.bl false)))
  sSkip)
    sSkip)
  (sSeq (sIf (mBin opEq (mBin opIx (mVar 0) (mC (.int 0))) (mC (.str (⟨#[112, 117, 116]⟩ : Str))))
    (sSeq (sRet (mAnd (mCall (Ph 10) [(mBin opIx (mVar 0) (mC (.int 2)))]) (mCall (Ph 4) [(mBin opIx (mVar 0) (mC (.int 3)))])))
  sSkip)
    sSkip)
  (sSeq (sIf (mBin opEq (mBin opIx (mVar 0) (mC (.int 0))) (mC (.str (⟨#[116, 114, 105, 109]⟩ : Str))))
    (sSeq (sRet (mCall (Ph 10) [(mBin opIx (mVar 0) (mC (.int 2)))]))
  sSkip)
    sSkip)
  (sSeq (sIf (mOr (mBin opEq (mBin opIx (mVar 0) (mC (.int 0))) (mC (.str (⟨#[109, 111, 118, 101]⟩ : Str)))) (mBin opEq (mBin opIx (mVar 0) (mC (.int 0))) (mC (.str (⟨#[99, 111, 112, 121]⟩ : Str)))))
    (sSeq (sRet (mCall (Ph 9) [(mBin opIx (mVar 0) (mC (.int 2)))]))
  sSkip)
    sSkip)
  (sSeq (sRet (mC (.bl true)))
  sSkip))))))
noncomputable def d_is_deed : DefR := ⟨1, 1, true, b_is_deed⟩
/-- with_row(folder, name, thing); slots: 0 folder, 1 name, 2 thing, 3 rows, 4 row -/
noncomputable def b_with_row (Ph : Nat → List D → Sto → R D) : MS := (sSeq (sAsg (mCompN (iSeq (mBin opIx (mVar 0) (mC (.int 1)))) [4] (gVar 4) (some (mBin opNe (mBin opIx (mVar 4) (mC (.int 0))) (mVar 1))) (mVar 4)) (gVar 3))
  (sSeq (sIf (mBin opIsNot (mVar 2) (mC (.non)))
    (sSeq (sExpr (mMethL mAppend (mVar 3) [(mTup [(mVar 1), (mVar 2)])]))
  sSkip)
    sSkip)
  sStuck))
noncomputable def d_with_row : DefR := ⟨3, 5, true, b_with_row⟩
/-- with_thing(folder, path, thing); slots: 0 folder, 1 path, 2 thing -/
noncomputable def b_with_thing (Ph : Nat → List D → Sto → R D) : MS := (sSeq (sIf (mBin opEq (mCall bLen [(mVar 1)]) (mC (.int 1)))
    (sSeq (sRet (mCall (Ph 12) [(mVar 0), (mBin opIx (mVar 1) (mC (.int 0))), (mVar 2)]))
  sSkip)
    sSkip)
  (sSeq (sRet (mCall (Ph 12) [(mVar 0), (mBin opIx (mVar 1) (mC (.int 0))), (mCall (Ph 13) [(mCall (Ph 6) [(mVar 0), (mSl (mVar 1) none (some (mC (.int 1))))]), (mSl (mVar 1) (some (mC (.int 1))) none), (mVar 2)])]))
  sSkip))
noncomputable def d_with_thing : DefR := ⟨3, 3, true, b_with_thing⟩
/-- put_in(view, path, thing); slots: 0 view, 1 path, 2 thing -/
noncomputable def b_put_in (Ph : Nat → List D → Sto → R D) : MS := (sSeq (sIf (mNot (mCall (Ph 7) [(mVar 0), (mSl (mVar 1) none (some (mNeg (mC (.int 1)))))]))
    (sSeq (sRaise 1)
  sSkip)
    sSkip)
  (sSeq (sIf (mBin opIsNot (mCall (Ph 6) [(mVar 0), (mVar 1)]) (mC (.non)))
    (sSeq (sRaise 2)
  sSkip)
    sSkip)
  (sSeq (sIf (mBin opGe (mCall bLen [(mBin opIx (mCall (Ph 6) [(mVar 0), (mSl (mVar 1) none (some (mNeg (mC (.int 1)))))]) (mC (.int 1)))]) (mC G_MOST_THINGS))
    (sSeq (sRaise 3)
  sSkip)
    sSkip)
  (sSeq (sRet (mCall (Ph 13) [(mVar 0), (mVar 1), (mVar 2)]))
  sSkip))))
noncomputable def d_put_in : DefR := ⟨3, 3, true, b_put_in⟩
/-- file_at(view, path); slots: 0 view, 1 path, 2 thing -/
noncomputable def b_file_at (Ph : Nat → List D → Sto → R D) : MS := (sSeq (sAsg (mCall (Ph 6) [(mVar 0), (mVar 1)]) (gVar 2))
  (sSeq (sIf (mOr (mBin opIs (mVar 2) (mC (.non))) (mBin opNe (mBin opIx (mVar 2) (mC (.int 0))) (mC (.str (⟨#[102, 105, 108, 101]⟩ : Str)))))
    (sSeq (sRaise 1)
  sSkip)
    sSkip)
  (sSeq (sRet (mBin opIx (mVar 2) (mC (.int 1))))
  sSkip)))
noncomputable def d_file_at : DefR := ⟨2, 3, true, b_file_at⟩
/-- put_leaf(view, path, at, leaf); slots: 0 view, 1 path, 2 at, 3 leaf, 4 leaves -/
noncomputable def b_put_leaf (Ph : Nat → List D → Sto → R D) : MS := (sSeq (sAsg (mCall (Ph 15) [(mVar 0), (mVar 1)]) (gVar 4))
  (sSeq (sIf (mOr (mBin opGt (mVar 2) (mCall bLen [(mVar 4)])) (mBin opGe (mVar 2) (mC G_MOST_LEAVES)))
    (sSeq (sRaise 4)
  sSkip)
    sSkip)
  (sSeq (sRet (mCall (Ph 13) [(mVar 0), (mVar 1), (mTup [(mC (.str (⟨#[102, 105, 108, 101]⟩ : Str))), (mBin opAdd (mBin opAdd (mSl (mVar 4) none (some (mVar 2))) (mTup [(mVar 3)])) (mSl (mVar 4) (some (mBin opAdd (mVar 2) (mC (.int 1)))) none))])]))
  sSkip)))
noncomputable def d_put_leaf : DefR := ⟨4, 5, true, b_put_leaf⟩
/-- trimmed(view, path, many); slots: 0 view, 1 path, 2 many, 3 leaves -/
noncomputable def b_trimmed (Ph : Nat → List D → Sto → R D) : MS := (sSeq (sAsg (mCall (Ph 15) [(mVar 0), (mVar 1)]) (gVar 3))
  (sSeq (sIf (mBin opGt (mVar 2) (mCall bLen [(mVar 3)]))
    (sSeq (sRaise 4)
  sSkip)
    sSkip)
  (sSeq (sRet (mCall (Ph 13) [(mVar 0), (mVar 1), (mTup [(mC (.str (⟨#[102, 105, 108, 101]⟩ : Str))), (mSl (mVar 3) none (some (mVar 2)))])]))
  sSkip)))
noncomputable def d_trimmed : DefR := ⟨3, 4, true, b_trimmed⟩
/-- must_fit(view, thing, other, less); slots: 0 view, 1 thing, 2 other, 3 less -/
noncomputable def b_must_fit (Ph : Nat → List D → Sto → R D) : MS := (sSeq (sIf (mBin opIsNot (mCall (Ph 6) [(mVar 0), (mVar 2)]) (mC (.non)))
    (sSeq (sRaise 2)
  sSkip)
    sSkip)
  (sSeq (sIf (mBin opGe (mBin opSub (mCall bLen [(mBin opIx (mCall (Ph 6) [(mVar 0), (mSl (mVar 2) none (some (mNeg (mC (.int 1)))))]) (mC (.int 1)))]) (mVar 3)) (mC G_MOST_THINGS))
    (sSeq (sRaise 3)
  sSkip)
    sSkip)
  (sSeq (sIf (mBin opGt (mBin opAdd (mCall bLen [(mVar 2)]) (mCall (Ph 8) [(mVar 1)])) (mC G_MOST_NAMES))
    (sSeq (sRaise 5)
  sSkip)
    sSkip)
  sSkip)))
noncomputable def d_must_fit : DefR := ⟨4, 4, true, b_must_fit⟩
/-- moved_on(view, path, other); slots: 0 view, 1 path, 2 other, 3 thing, 4 less -/
noncomputable def b_moved_on (Ph : Nat → List D → Sto → R D) : MS := (sSeq (sAsg (mCall (Ph 6) [(mVar 0), (mVar 1)]) (gVar 3))
  (sSeq (sIf (mOr (mBin opIs (mVar 3) (mC (.non))) (mNot (mCall (Ph 7) [(mVar 0), (mSl (mVar 2) none (some (mNeg (mC (.int 1)))))])))
    (sSeq (sRaise 1)
  sSkip)
    sSkip)
  (sSeq (sIf (mBin opEq (mSl (mVar 2) none (some (mCall bLen [(mVar 1)]))) (mVar 1))
    (sSeq (sRaise 6)
  sSkip)
    sSkip)
  (sSeq (sAsg (mC (.int 0)) (gVar 4))
  (sSeq (sIf (mBin opEq (mSl (mVar 1) none (some (mNeg (mC (.int 1))))) (mSl (mVar 2) none (some (mNeg (mC (.int 1))))))
    (sSeq (sAsg (mC (.int 1)) (gVar 4))
  sSkip)
    sSkip)
  (sSeq (sExpr (mCall (Ph 18) [(mVar 0), (mVar 3), (mVar 2), (mVar 4)]))
  (sSeq (sRet (mCall (Ph 13) [(mCall (Ph 13) [(mVar 0), (mVar 1), (mC (.non))]), (mVar 2), (mVar 3)]))
  sSkip)))))))
noncomputable def d_moved_on : DefR := ⟨3, 5, true, b_moved_on⟩
/-- copied(view, path, other); slots: 0 view, 1 path, 2 other, 3 thing -/
noncomputable def b_copied (Ph : Nat → List D → Sto → R D) : MS := (sSeq (sAsg (mCall (Ph 6) [(mVar 0), (mVar 1)]) (gVar 3))
  (sSeq (sIf (mOr (mBin opIs (mVar 3) (mC (.non))) (mNot (mCall (Ph 7) [(mVar 0), (mSl (mVar 2) none (some (mNeg (mC (.int 1)))))])))
    (sSeq (sRaise 1)
  sSkip)
    sSkip)
  (sSeq (sExpr (mCall (Ph 18) [(mVar 0), (mVar 3), (mVar 2), (mC (.int 0))]))
  (sSeq (sRet (mCall (Ph 13) [(mVar 0), (mVar 2), (mVar 3)]))
  sSkip))))
noncomputable def d_copied : DefR := ⟨3, 4, true, b_copied⟩
/-- taken_out(view, path); slots: 0 view, 1 path -/
noncomputable def b_taken_out (Ph : Nat → List D → Sto → R D) : MS := (sSeq (sIf (mBin opIs (mCall (Ph 6) [(mVar 0), (mVar 1)]) (mC (.non)))
    (sSeq (sRaise 1)
  sSkip)
    sSkip)
  (sSeq (sRet (mCall (Ph 13) [(mVar 0), (mVar 1), (mC (.non))]))
  sSkip))
noncomputable def d_taken_out : DefR := ⟨2, 2, true, b_taken_out⟩
/-- done(view, deed); slots: 0 view, 1 deed -/
noncomputable def b_done (Ph : Nat → List D → Sto → R D) : MS := (sSeq (sIf (mNot (mCall (Ph 11) [(mVar 1)]))
    (sSeq (sRaise 7)
  sSkip)
    sSkip)
  (sSeq (sIf (mBin opEq (mBin opIx (mVar 1) (mC (.int 0))) (mC (.str (⟨#[102, 111, 108, 100, 101, 114]⟩ : Str))))
    (sSeq (sRet (mCall (Ph 14) [(mVar 0), (mBin opIx (mVar 1) (mC (.int 1))), (mC G_EMPTY)]))
  sSkip)
    sSkip)
  (sSeq (sIf (mBin opEq (mBin opIx (mVar 1) (mC (.int 0))) (mC (.str (⟨#[102, 105, 108, 101]⟩ : Str))))
    (sSeq (sRet (mCall (Ph 14) [(mVar 0), (mBin opIx (mVar 1) (mC (.int 1))), (mTup [(mC (.str (⟨#[102, 105, 108, 101]⟩ : Str))), (mTup [])])]))
  sSkip)
    sSkip)
  (sSeq (sIf (mBin opEq (mBin opIx (mVar 1) (mC (.int 0))) (mC (.str (⟨#[112, 117, 116]⟩ : Str))))
    (sSeq (sRet (mCall (Ph 16) [(mVar 0), (mBin opIx (mVar 1) (mC (.int 1))), (mBin opIx (mVar 1) (mC (.int 2))), (mBin opIx (mVar 1) (mC (.int 3)))]))
  sSkip)
    sSkip)
  (sSeq (sIf (mBin opEq (mBin opIx (mVar 1) (mC (.int 0))) (mC (.str (⟨#[116, 114, 105, 109]⟩ : Str))))
    (sSeq (sRet (mCall (Ph 17) [(mVar 0), (mBin opIx (mVar 1) (mC (.int 1))), (mBin opIx (mVar 1) (mC (.int 2)))]))
  sSkip)
    sSkip)
  (sSeq (sIf (mBin opEq (mBin opIx (mVar 1) (mC (.int 0))) (mC (.str (⟨#[111, 117, 116]⟩ : Str))))
    (sSeq (sRet (mCall (Ph 21) [(mVar 0), (mBin opIx (mVar 1) (mC (.int 1)))]))
  sSkip)
    sSkip)
  (sSeq (sIf (mBin opEq (mBin opIx (mVar 1) (mC (.int 0))) (mC (.str (⟨#[109, 111, 118, 101]⟩ : Str))))
    (sSeq (sRet (mCall (Ph 19) [(mVar 0), (mBin opIx (mVar 1) (mC (.int 1))), (mBin opIx (mVar 1) (mC (.int 2)))]))
  sSkip)
    sSkip)
  (sSeq (sRet (mCall (Ph 20) [(mVar 0), (mBin opIx (mVar 1) (mC (.int 1))), (mBin opIx (mVar 1) (mC (.int 2)))]))
  sSkip))))))))
noncomputable def d_done : DefR := ⟨2, 2, true, b_done⟩
/-- _law_mixed(_law_cell, _law_k); slots: 0 _law_cell, 1 _law_k, 2 _law_number -/
noncomputable def b__law_mixed (Ph : Nat → List D → Sto → R D) : MS := (sSeq (sAsg (mBin opMod (mBin opAdd (mBin opAdd (mBin opMul (mBin opMod (mVar 0) (mC (.int 2147483647))) (mC (.int 48271))) (mBin opMul (mBin opMul (mC (.int 7919)) (mVar 1)) (mVar 1))) (mC (.int 104729))) (mC (.int 2147483647))) (gVar 2))
  (sSeq (sRet (mBin opMod (mBin opMul (mVar 2) (mVar 2)) (mC (.int 2147483629))))
  sSkip))
noncomputable def d__law_mixed : DefR := ⟨2, 3, true, b__law_mixed⟩
/-- _law_draws(_law_script); slots: 0 _law_script, 1 _law_drawn, 2 _law_k, 3 _law_cell, 4 _law_j -/
noncomputable def b__law_draws (Ph : Nat → List D → Sto → R D) : MS := (sSeq (sAsg (mNew []) (gVar 1))
  (sSeq (sFor (iRange1 (mCall bMin [(mCall bLen [(mVar 0)]), (mC (.int 63))])) (gVar 2)
    (sSeq (sAsg (mCall bAbs [(mBin opIx (mVar 0) (mVar 2))]) (gVar 3))
  (sSeq (sIf (mBin opLt (mVar 3) (mBin opPow (mC (.int 10)) (mC (.int 18))))
    (sSeq (sFor (iRange1 (mC (.int 12))) (gVar 4)
    (sSeq (sExpr (mMethL mAppend (mVar 1) [(mCall (Ph 23) [(mCall (Ph 23) [(mVar 3), (mBin opAdd (mBin opMul (mC (.int 3)) (mVar 4)) (mC (.int 1)))]), (mBin opAdd (mBin opAdd (mVar 4) (mVar 2)) (mC (.int 2)))])]))
  sSkip))
  sSkip)
    sSkip)
  (sSeq (sWhile (mAnd (mBin opGe (mVar 3) (mBin opPow (mC (.int 10)) (mC (.int 18)))) (mBin opLt (mCall bLen [(mVar 1)]) (mC (.int 900))))
    (sSeq (sExpr (mMethL mAppend (mVar 1) [(mBin opMod (mVar 3) (mC (.int 2147483629)))]))
  (sSeq (sAsg (mBin opDiv (mVar 3) (mC (.int 2147483629))) (gVar 3))
  sSkip)) 1000)
  (sSeq (sIf (mBin opGe (mVar 3) (mC (.int 2147483629)))
    (sSeq (sExpr (mMethL mAppend (mVar 1) [(mBin opMod (mVar 3) (mC (.int 2147483629)))]))
  sSkip)
    sSkip)
  sSkip)))))
  (sSeq (sRet (mVar 1))
  sSkip)))
noncomputable def d__law_draws : DefR := ⟨1, 5, false, b__law_draws⟩
/-- _law_next(_law_drawn); slots: 0 _law_drawn -/
noncomputable def b__law_next (Ph : Nat → List D → Sto → R D) : MS := (sSeq (sIf (mBin opEq (mVar 0) (mLst []))
    (sSeq (sRet (mC (.int 0)))
  sSkip)
    sSkip)
  (sSeq (sRet (mMethL mPop (mVar 0) [(mC (.int 0))]))
  sSkip))
noncomputable def d__law_next : DefR := ⟨1, 1, true, b__law_next⟩
/-- _law_name(_law_number); slots: 0 _law_number, 1 _law_menu -/
noncomputable def b__law_name (Ph : Nat → List D → Sto → R D) : MS := (sSeq (sAsg (mLst [(mC (.str (⟨#[97]⟩ : Str))), (mC (.str (⟨#[98]⟩ : Str))), (mC (.str (⟨#[122]⟩ : Str))), (mC (.str (⟨#[97, 98]⟩ : Str))), (mC (.str (⟨#[98, 97]⟩ : Str))), (mC (.str (⟨#[122, 122]⟩ : Str))), (mC (.str (⟨#[97, 98, 99]⟩ : Str))), (mC (.str (⟨#[104, 103, 102, 101, 100, 99, 98, 97]⟩ : Str))), (mC (.str (⟨#[99]⟩ : Str))), (mC (.str (⟨#[100]⟩ : Str)))]) (gVar 1))
  (sSeq (sRet (mBin opIx (mVar 1) (mBin opMod (mVar 0) (mC (.int 10)))))
  sSkip))
noncomputable def d__law_name : DefR := ⟨1, 2, true, b__law_name⟩
/-- _law_path(_law_drawn); slots: 0 _law_drawn, 1 _law_number, 2 _law_many, 3 _law_k -/
noncomputable def b__law_path (Ph : Nat → List D → Sto → R D) : MS := (sSeq (sAsg (mCall (Ph 25) [(mVar 0)]) (gVar 1))
  (sSeq (sAsg (mBin opIx (mLst [(mC (.int 1)), (mC (.int 1)), (mC (.int 1)), (mC (.int 2)), (mC (.int 2)), (mC (.int 2)), (mC (.int 3)), (mC (.int 3)), (mC (.int 4)), (mC (.int 6))]) (mBin opMod (mVar 1) (mC (.int 10)))) (gVar 2))
  (sSeq (sRet (mCall bTuple [(mComp (iRange1 (mVar 2)) [3] (gVar 3) none (mCall (Ph 26) [(mBin opMod (mCall (Ph 25) [(mVar 0)]) (mBin opIx (mLst [(mC (.int 2)), (mC (.int 4)), (mC (.int 10))]) (mBin opMod (mBin opDiv (mVar 1) (mC (.int 10))) (mC (.int 3)))))]))]))
  sSkip)))
noncomputable def d__law_path : DefR := ⟨1, 4, true, b__law_path⟩
/-- _law_leaf(_law_drawn); slots: 0 _law_drawn, 1 _law_number, 2 _law_k -/
noncomputable def b__law_leaf (Ph : Nat → List D → Sto → R D) : MS := (sSeq (sAsg (mCall (Ph 25) [(mVar 0)]) (gVar 1))
  (sSeq (sIf (mBin opEq (mBin opMod (mVar 1) (mC (.int 4))) (mC (.int 0)))
    (sSeq (sRet (mBin opIx (mLst [(mTup []), (mTup [(mC (.int 0))]), (mTup [(mC (.int 255)), (mC (.int 0))]), (mTup [(mC (.int 7)), (mC (.int 7)), (mC (.int 7)), (mC (.int 7)), (mC (.int 7)), (mC (.int 7)), (mC (.int 7)), (mC (.int 7))])]) (mBin opMod (mBin opDiv (mVar 1) (mC (.int 4))) (mC (.int 4)))))
  sSkip)
    sSkip)
  (sSeq (sRet (mCall bTuple [(mComp (iRange1 (mBin opMod (mBin opDiv (mVar 1) (mC (.int 3))) (mC (.int 9)))) [2] (gVar 2) none (mBin opMod (mBin opAdd (mBin opDiv (mVar 1) (mC (.int 7))) (mBin opMul (mBin opMul (mVar 2) (mVar 2)) (mBin opMod (mVar 1) (mC (.int 5))))) (mC (.int 256))))]))
  sSkip)))
noncomputable def d__law_leaf : DefR := ⟨1, 3, true, b__law_leaf⟩
/-- _law_refused(_law_view, _law_one); slots: 0 _law_view, 1 _law_one -/
noncomputable def b__law_refused (Ph : Nat → List D → Sto → R D) : MS := (sSeq (sTry Sub (sSeq (sExpr (mCall (Ph 22) [(mVar 0), (mVar 1)]))
  sSkip) [(7, (sSeq (sRet (mC (.bl true)))
  sSkip))])
  (sSeq (sRet (mC (.bl false)))
  sSkip))
noncomputable def d__law_refused : DefR := ⟨2, 2, true, b__law_refused⟩
/-- _law_good(_law_drawn); slots: 0 _law_drawn, 1 _law_path_here, 2 _law_other, 3 _law_at -/
noncomputable def b__law_good (Ph : Nat → List D → Sto → R D) : MS := (sSeq (sAsg (mCall (Ph 27) [(mVar 0)]) (gVar 1))
  (sSeq (sAsg (mCall (Ph 27) [(mVar 0)]) (gVar 2))
  (sSeq (sAsg (mBin opIx (mLst [(mC (.int 0)), (mC (.int 64)), (mBin opMod (mCall (Ph 25) [(mVar 0)]) (mC (.int 65)))]) (mBin opMod (mCall (Ph 25) [(mVar 0)]) (mC (.int 3)))) (gVar 3))
  (sSeq (sRet (mLst [(mTup [(mC (.str (⟨#[102, 111, 108, 100, 101, 114]⟩ : Str))), (mVar 1)]), (mTup [(mC (.str (⟨#[102, 105, 108, 101]⟩ : Str))), (mVar 1)]), (mTup [(mC (.str (⟨#[112, 117, 116]⟩ : Str))), (mVar 1), (mVar 3), (mCall (Ph 28) [(mVar 0)])]), (mTup [(mC (.str (⟨#[116, 114, 105, 109]⟩ : Str))), (mVar 1), (mVar 3)]), (mTup [(mC (.str (⟨#[111, 117, 116]⟩ : Str))), (mVar 1)]), (mTup [(mC (.str (⟨#[109, 111, 118, 101]⟩ : Str))), (mVar 1), (mVar 2)]), (mTup [(mC (.str (⟨#[99, 111, 112, 121]⟩ : Str))), (mVar 1), (mVar 1)])]))
  sSkip))))
noncomputable def d__law_good : DefR := ⟨1, 4, true, b__law_good⟩
/-- _law_bad(_law_drawn); slots: 0 _law_drawn, 1 _law_path_here, 2 _law_leaf_here, 3 _law_found, 4 _law_word, 5 _law_one -/
noncomputable def b__law_bad (Ph : Nat → List D → Sto → R D) : MS := (sSeq (sAsg (mCall (Ph 27) [(mVar 0)]) (gVar 1))
  (sSeq (sAsg (mCall (Ph 28) [(mVar 0)]) (gVar 2))
  (sSeq (sAsg (mLst [(mTup [(mC (.str (⟨#[112, 117, 116]⟩ : Str))), (mVar 1), (mC (.int 65)), (mVar 2)]), (mTup [(mC (.str (⟨#[112, 117, 116]⟩ : Str))), (mVar 1), (mNeg (mC (.int 1))), (mVar 2)]), (mTup [(mC (.str (⟨#[112, 117, 116]⟩ : Str))), (mVar 1), (mC (.bl true)), (mVar 2)]), (mTup [(mC (.str (⟨#[112, 117, 116]⟩ : Str))), (mVar 1), (mC (.str (⟨#[48]⟩ : Str))), (mVar 2)]), (mTup [(mC (.str (⟨#[112, 117, 116]⟩ : Str))), (mVar 1), (mC (.int 0)), (mCall bList [(mVar 2)])]), (mTup [(mC (.str (⟨#[112, 117, 116]⟩ : Str))), (mVar 1), (mC (.int 0)), (mTup [(mC (.int 256))])]), (mTup [(mC (.str (⟨#[112, 117, 116]⟩ : Str))), (mVar 1), (mC (.int 0)), (mBin opMul (mTup [(mC (.int 1))]) (mC (.int 9)))]), (mTup [(mC (.str (⟨#[112, 117, 116]⟩ : Str))), (mVar 1), (mC (.int 0))]), (mTup [(mC (.str (⟨#[112, 117, 116]⟩ : Str))), (mVar 1), (mC (.int 0)), (mVar 2), (mVar 2)]), (mTup [(mC (.str (⟨#[116, 114, 105, 109]⟩ : Str))), (mVar 1), (mC (.int 65))]), (mTup [(mC (.str (⟨#[116, 114, 105, 109]⟩ : Str))), (mVar 1), (mNeg (mC (.int 1)))]), (mTup [(mC (.str (⟨#[116, 114, 105, 109]⟩ : Str))), (mVar 1), (mC (.bl false))]), (mTup [(mC (.str (⟨#[116, 114, 105, 109]⟩ : Str))), (mVar 1)]), (mTup [(mC (.str (⟨#[116, 114, 105, 109]⟩ : Str))), (mVar 1), (mC (.non))]), (mTup [(mC (.str (⟨#[109, 111, 118, 101]⟩ : Str))), (mVar 1)]), (mTup [(mC (.str (⟨#[109, 111, 118, 101]⟩ : Str))), (mVar 1), (mTup [])]), (mTup [(mC (.str (⟨#[99, 111, 112, 121]⟩ : Str))), (mVar 1), (mCall bList [(mVar 1)])]), (mTup [(mC (.str (⟨#[99, 111, 112, 121]⟩ : Str))), (mVar 1), (mVar 1), (mVar 1)])]) (gVar 3))
  (sSeq (sFor (iSeq (mLst [(mC (.str (⟨#[102, 111, 108, 100, 101, 114]⟩ : Str))), (mC (.str (⟨#[102, 105, 108, 101]⟩ : Str))), (mC (.str (⟨#[111, 117, 116]⟩ : Str)))])) (gVar 4)
    (sSeq (sAsg (mBin opAdd (mVar 3) (mLst [(mTup [(mVar 4)]), (mTup [(mVar 4), (mTup [])]), (mTup [(mVar 4), (mCall bList [(mVar 1)])]), (mTup [(mVar 4), (mVar 1), (mVar 1)]), (mLst [(mVar 4), (mVar 1)]), (mTup [(mVar 4), (mBin opIx (mVar 1) (mC (.int 0)))]), (mTup [(mVar 4), (mSl (mBin opMul (mVar 1) (mC (.int 7))) none (some (mC (.int 7))))]), (mTup [(mVar 4), (mBin opAdd (mSl (mVar 1) none (some (mC (.int 5)))) (mTup [(mC (.str (⟨#[65]⟩ : Str)))]))]), (mTup [(mVar 4), (mBin opAdd (mSl (mVar 1) none (some (mC (.int 5)))) (mTup [(mC (.str (⟨#[]⟩ : Str)))]))]), (mTup [(mVar 4), (mC (.non))])])) (gVar 3))
  sSkip))
  (sSeq (sFor (iSeq (mLst [(mTup []), (mCall bList [(mVar 1)]), (mSl (mBin opMul (mVar 1) (mC (.int 7))) none (some (mC (.int 7)))), (mBin opAdd (mSl (mVar 1) none (some (mC (.int 5)))) (mTup [(mC (.str (⟨#[65]⟩ : Str)))])), (mBin opAdd (mSl (mVar 1) none (some (mC (.int 5)))) (mTup [(mC (.str (⟨#[]⟩ : Str)))])), (mC (.non)), (mBin opIx (mVar 1) (mC (.int 0)))])) (gVar 5)
    (sSeq (sAsg (mBin opAdd (mVar 3) (mLst [(mTup [(mC (.str (⟨#[112, 117, 116]⟩ : Str))), (mVar 5), (mC (.int 0)), (mVar 2)]), (mTup [(mC (.str (⟨#[116, 114, 105, 109]⟩ : Str))), (mVar 5), (mC (.int 0))]), (mTup [(mC (.str (⟨#[109, 111, 118, 101]⟩ : Str))), (mVar 5), (mVar 1)]), (mTup [(mC (.str (⟨#[99, 111, 112, 121]⟩ : Str))), (mVar 5), (mVar 1)])])) (gVar 3))
  (sSeq (sAsg (mBin opAdd (mVar 3) (mLst [(mTup [(mC (.str (⟨#[109, 111, 118, 101]⟩ : Str))), (mVar 1), (mVar 5)]), (mTup [(mC (.str (⟨#[99, 111, 112, 121]⟩ : Str))), (mVar 1), (mVar 5)])])) (gVar 3))
  sSkip)))
  (sSeq (sAsg (mBin opAdd (mVar 3) (mLst [(mTup [(mLst []), (mVar 1)]), (mTup [(mC (.dic [])), (mVar 1)]), (mTup [(mTup [(mC (.str (⟨#[111, 117, 116]⟩ : Str)))]), (mVar 1)]), (mTup [(mC (.str (⟨#[111, 117, 116]⟩ : Str))), (mLst [(mVar 1)])]), (mTup [(mC (.str (⟨#[111, 117, 116]⟩ : Str))), (mTup [(mLst [])])])])) (gVar 3))
  (sSeq (sRet (mBin opAdd (mVar 3) (mLst [(mTup [(mC (.str (⟨#[112, 97, 105, 110, 116]⟩ : Str))), (mVar 1)]), (mTup [(mC (.int 5)), (mVar 1)]), (mTup [(mC (.non))]), (mTup []), (mC (.non)), (mC (.bl true)), (mC (.int 7)), (mC (.str (⟨#[111, 117, 116]⟩ : Str))), (mTup [(mC (.str (⟨#[111, 117, 116, 32, 97]⟩ : Str)))]), (mVar 1), (mC (.dic [])), (mLst [])])))
  sSkip)))))))
noncomputable def d__law_bad : DefR := ⟨1, 6, true, b__law_bad⟩
/-- law(_law_script); slots: 0 _law_script, 1 _law_drawn, 2 _law_view, 3 _law_one -/
noncomputable def b_law (Ph : Nat → List D → Sto → R D) : MS := (sSeq (sAsg (mCall (Ph 24) [(mVar 0)]) (gVar 1))
  (sSeq (sAsg (mBin opIx (mLst [(mTup [(mC (.str (⟨#[102, 111, 108, 100, 101, 114]⟩ : Str))), (mTup [])]), (mTup [(mC (.str (⟨#[102, 111, 108, 100, 101, 114]⟩ : Str))), (mTup [(mTup [(mC (.str (⟨#[97]⟩ : Str))), (mTup [(mC (.str (⟨#[102, 105, 108, 101]⟩ : Str))), (mTup [(mTup [(mC (.int 1))])])])])])])]) (mBin opMod (mCall (Ph 25) [(mVar 1)]) (mC (.int 2)))) (gVar 2))
  (sSeq (sIf (mNot (mCall bAll [(mComp (iSeq (mCall (Ph 30) [(mVar 1)])) [3] (gVar 3) none (mBin opIs (mCall (Ph 11) [(mVar 3)]) (mC (.bl true))))]))
    (sSeq (sRet (mC (.bl false)))
  sSkip)
    sSkip)
  (sSeq (sRet (mCall bAll [(mComp (iSeq (mCall (Ph 31) [(mVar 1)])) [3] (gVar 3) none (mAnd (mBin opIs (mCall (Ph 11) [(mVar 3)]) (mC (.bl false))) (mCall (Ph 29) [(mVar 2), (mVar 3)])))]))
  sSkip))))
noncomputable def d_law : DefR := ⟨1, 4, true, b_law⟩
noncomputable def tbl : List DefR := [d_is_name, d_code_of, d_is_path, d_is_number, d_is_leaf, d_named, d_thing_at, d_is_folder_at, d_depth_of, d_is_way, d_is_count, d_is_deed, d_with_row, d_with_thing, d_put_in, d_file_at, d_put_leaf, d_trimmed, d_must_fit, d_moved_on, d_copied, d_taken_out, d_done, d__law_mixed, d__law_draws, d__law_next, d__law_name, d__law_path, d__law_leaf, d__law_refused, d__law_good, d__law_bad, d_law]
def cc : CC := { N := [], sc := { kind := .function, names := [], isGenerator := false, isCoroutine := false }, dfn := true, cok := fun _ => true, fns := [("is_name" : Str), ("code_of" : Str), ("is_path" : Str), ("is_number" : Str), ("is_leaf" : Str), ("named" : Str), ("thing_at" : Str), ("is_folder_at" : Str), ("depth_of" : Str), ("is_way" : Str), ("is_count" : Str), ("is_deed" : Str), ("with_row" : Str), ("with_thing" : Str), ("put_in" : Str), ("file_at" : Str), ("put_leaf" : Str), ("trimmed" : Str), ("must_fit" : Str), ("moved_on" : Str), ("copied" : Str), ("taken_out" : Str), ("done" : Str), ("_law_mixed" : Str), ("_law_draws" : Str), ("_law_next" : Str), ("_law_name" : Str), ("_law_path" : Str), ("_law_leaf" : Str), ("_law_refused" : Str), ("_law_good" : Str), ("_law_bad" : Str), ("law" : Str)], gl := [("LETTERS", G_LETTERS), ("MOST_SIGNS", G_MOST_SIGNS), ("MOST_NAMES", G_MOST_NAMES), ("MOST_NUMBERS", G_MOST_NUMBERS), ("MOST_LEAVES", G_MOST_LEAVES), ("MOST_THINGS", G_MOST_THINGS), ("EMPTY", G_EMPTY)], kd := [("SIZES", T_SIZES)], xcs := ["NoName", "NoThing", "Taken", "TooMany", "NoLeaf", "TooDeep", "Within", "NoDeed"], sub := Sub, blt := ["len", "abs", "min", "all", "tuple", "list", "str", "isinstance", "int", "bool", "range"], mt := fun l c => [(88, 11), (168, 17)].contains (l, c), fuel := 1000 }
/-- one level more -/
theorem phi_is_name (n : Nat) (ds : List D) (st : Sto) : Phi tbl (n + 1) 0 ds st = runDef d_is_name (Phi tbl n) ds st := rfl
theorem phi_code_of (n : Nat) (ds : List D) (st : Sto) : Phi tbl (n + 1) 1 ds st = runDef d_code_of (Phi tbl n) ds st := rfl
theorem phi_is_path (n : Nat) (ds : List D) (st : Sto) : Phi tbl (n + 1) 2 ds st = runDef d_is_path (Phi tbl n) ds st := rfl
theorem phi_is_number (n : Nat) (ds : List D) (st : Sto) : Phi tbl (n + 1) 3 ds st = runDef d_is_number (Phi tbl n) ds st := rfl
theorem phi_is_leaf (n : Nat) (ds : List D) (st : Sto) : Phi tbl (n + 1) 4 ds st = runDef d_is_leaf (Phi tbl n) ds st := rfl
theorem phi_named (n : Nat) (ds : List D) (st : Sto) : Phi tbl (n + 1) 5 ds st = runDef d_named (Phi tbl n) ds st := rfl
theorem phi_thing_at (n : Nat) (ds : List D) (st : Sto) : Phi tbl (n + 1) 6 ds st = runDef d_thing_at (Phi tbl n) ds st := rfl
theorem phi_is_folder_at (n : Nat) (ds : List D) (st : Sto) : Phi tbl (n + 1) 7 ds st = runDef d_is_folder_at (Phi tbl n) ds st := rfl
theorem phi_depth_of (n : Nat) (ds : List D) (st : Sto) : Phi tbl (n + 1) 8 ds st = runDef d_depth_of (Phi tbl n) ds st := rfl
theorem phi_is_way (n : Nat) (ds : List D) (st : Sto) : Phi tbl (n + 1) 9 ds st = runDef d_is_way (Phi tbl n) ds st := rfl
theorem phi_is_count (n : Nat) (ds : List D) (st : Sto) : Phi tbl (n + 1) 10 ds st = runDef d_is_count (Phi tbl n) ds st := rfl
theorem phi_is_deed (n : Nat) (ds : List D) (st : Sto) : Phi tbl (n + 1) 11 ds st = runDef d_is_deed (Phi tbl n) ds st := rfl
theorem phi_with_row (n : Nat) (ds : List D) (st : Sto) : Phi tbl (n + 1) 12 ds st = runDef d_with_row (Phi tbl n) ds st := rfl
theorem phi_with_thing (n : Nat) (ds : List D) (st : Sto) : Phi tbl (n + 1) 13 ds st = runDef d_with_thing (Phi tbl n) ds st := rfl
theorem phi_put_in (n : Nat) (ds : List D) (st : Sto) : Phi tbl (n + 1) 14 ds st = runDef d_put_in (Phi tbl n) ds st := rfl
theorem phi_file_at (n : Nat) (ds : List D) (st : Sto) : Phi tbl (n + 1) 15 ds st = runDef d_file_at (Phi tbl n) ds st := rfl
theorem phi_put_leaf (n : Nat) (ds : List D) (st : Sto) : Phi tbl (n + 1) 16 ds st = runDef d_put_leaf (Phi tbl n) ds st := rfl
theorem phi_trimmed (n : Nat) (ds : List D) (st : Sto) : Phi tbl (n + 1) 17 ds st = runDef d_trimmed (Phi tbl n) ds st := rfl
theorem phi_must_fit (n : Nat) (ds : List D) (st : Sto) : Phi tbl (n + 1) 18 ds st = runDef d_must_fit (Phi tbl n) ds st := rfl
theorem phi_moved_on (n : Nat) (ds : List D) (st : Sto) : Phi tbl (n + 1) 19 ds st = runDef d_moved_on (Phi tbl n) ds st := rfl
theorem phi_copied (n : Nat) (ds : List D) (st : Sto) : Phi tbl (n + 1) 20 ds st = runDef d_copied (Phi tbl n) ds st := rfl
theorem phi_taken_out (n : Nat) (ds : List D) (st : Sto) : Phi tbl (n + 1) 21 ds st = runDef d_taken_out (Phi tbl n) ds st := rfl
theorem phi_done (n : Nat) (ds : List D) (st : Sto) : Phi tbl (n + 1) 22 ds st = runDef d_done (Phi tbl n) ds st := rfl
theorem phi__law_mixed (n : Nat) (ds : List D) (st : Sto) : Phi tbl (n + 1) 23 ds st = runDef d__law_mixed (Phi tbl n) ds st := rfl
theorem phi__law_draws (n : Nat) (ds : List D) (st : Sto) : Phi tbl (n + 1) 24 ds st = runDef d__law_draws (Phi tbl n) ds st := rfl
theorem phi__law_next (n : Nat) (ds : List D) (st : Sto) : Phi tbl (n + 1) 25 ds st = runDef d__law_next (Phi tbl n) ds st := rfl
theorem phi__law_name (n : Nat) (ds : List D) (st : Sto) : Phi tbl (n + 1) 26 ds st = runDef d__law_name (Phi tbl n) ds st := rfl
theorem phi__law_path (n : Nat) (ds : List D) (st : Sto) : Phi tbl (n + 1) 27 ds st = runDef d__law_path (Phi tbl n) ds st := rfl
theorem phi__law_leaf (n : Nat) (ds : List D) (st : Sto) : Phi tbl (n + 1) 28 ds st = runDef d__law_leaf (Phi tbl n) ds st := rfl
theorem phi__law_refused (n : Nat) (ds : List D) (st : Sto) : Phi tbl (n + 1) 29 ds st = runDef d__law_refused (Phi tbl n) ds st := rfl
theorem phi__law_good (n : Nat) (ds : List D) (st : Sto) : Phi tbl (n + 1) 30 ds st = runDef d__law_good (Phi tbl n) ds st := rfl
theorem phi__law_bad (n : Nat) (ds : List D) (st : Sto) : Phi tbl (n + 1) 31 ds st = runDef d__law_bad (Phi tbl n) ds st := rfl
theorem phi_law (n : Nat) (ds : List D) (st : Sto) : Phi tbl (n + 1) 32 ds st = runDef d_law (Phi tbl n) ds st := rfl
end LK09
namespace LK09
open PySem MI L2 PySem.Spec PyProof.Rows MX
abbrev em : Str := ⟨#[]⟩
def OkS (s : Str) : Prop := PyData.canLay0 (.str s) = true ∧ s.length ≤ 1000
theorem okS_iff {s : Str} : PyData.canLay0 (.str s) = true ↔ ∀ c ∈ s.cps.toList, c < 0x110000 := by
  simp only [PyData.canLay0, PyData.strOk, Array.all_eq_true_iff_forall_mem, decide_eq_true_eq, Array.mem_toList_iff]
theorem length_eq (s : Str) : s.length = s.cps.toList.length := by simp [Str.length]
theorem beq_str (x y : Str) : beqD (.str x) (.str y) = decide (x = y) := by
  rw [beqD_str]
  by_cases h : x = y
  · subst h; simp
  · simp [h]
theorem opEq_str {x y : Str} {st : Sto} (hx : OkS x) (hy : OkS y) : opEq (.str x) (.str y) st = .ok (.bl (decide (x = y))) st := by
  rw [opEq_pl (k := 0) (j := 0) (.str hx.1) (.str hy.1) (by omega) (by omega), deref_str, deref_str, beq_str]
theorem em_ok : OkS em := ⟨okS_iff.mpr (by decide), by decide⟩
theorem bLen_str {s : Str} {st : Sto} (h : s.length ≤ 1000) : bLen [.str s] st = .ok (.int s.length) st := by
  have : s.length ≤ sizeLine := sizeLine_ge (by omega)
  simp [bLen, lenD, this]
/-! what may be asked -/
def ok0 (d : D) : Prop := d.pl = true ∧ ∀ s, d = .str s → OkS s
def ok1 (d : D) : Prop := ok0 d ∧ ∀ ds, d = .tup ds → (∀ x ∈ ds, ok0 x) ∧ ds.length ≤ 1000
def ok2 (d : D) : Prop := d.pl = true ∧ ∀ ds, d = .tup ds → (∀ x ∈ ds, ok1 x) ∧ ds.length ≤ 1000
/-! names -/
def letters : List Nat := [97, 98, 99, 100, 101, 102, 103, 104, 105, 106, 107, 108, 109, 110, 111, 112, 113, 114, 115, 116, 117, 118, 119, 120, 121, 122]
def nameS (s : Str) : Bool := !decide (s = em) && (decide (s.length ≤ 8) && s.cps.toList.all fun c => decide (c ∈ letters))
def nameB : D → Bool
  | .str s => nameS s
  | _ => false
theorem name_ok {d : D} {st : Sto} {Ph : Nat → List D → Sto → R D} (h : ok0 d) : runDef d_is_name Ph [d] st = .ok (.bl (nameB d)) st := by
  refine runDef_rt rfl ?_ rfl
  by_cases hS : d.isS = true
  · cases d with
    | str s =>
      have h := h.2 s rfl
      have h1 := opEq_str (st := st) h em_ok
      have h2 := bLen_str (st := st) h.2
      by_cases he : s = em
      · simp [d_is_name, b_is_name, startD, h1, he, nameB, nameS]
        simp [he] at h1
        simp [h1]
      · by_cases hl : s.length ≤ 8
        · have hc : mComp (iSeq (mVar 0)) [1] (gVar 1) none (mBin opIn (mVar 1) (mC G_LETTERS)) [some (.str s), none] st = .ok (.lst ((s.cps.toList.map fun c => D.str ⟨#[c]⟩).map fun d => .bl (match d with | .str x => (match x.cps.toList with | [c] => decide (c ∈ letters) | _ => false) | _ => false))) st := by
            refine mComp_map (fun d => .bl (match d with | .str x => (match x.cps.toList with | [c] => decide (c ∈ letters) | _ => false) | _ => false)) rfl (fun d hd => ⟨_, rfl, ?_⟩) (by simp; rw [length_eq] at hl; simp at hl; omega)
            obtain ⟨c, _, rfl⟩ := List.mem_map.mp hd
            simp [opIn, isIn, G_LETTERS, letters]
          have hb := bAll_map (fun d => (match d with | .str x => (match x.cps.toList with | [c] => decide (c ∈ letters) | _ => false) | _ => false)) (s.cps.toList.map fun c => D.str ⟨#[c]⟩) st
          have hl' : ¬ (8 : Int) < s.length := by omega
          simp only [d_is_name, b_is_name, G_MOST_SIGNS]
          show (sSeq _ _) [some (.str s), none] st = _
          simp [h1, h2, he, hl', hc]
          simp at hb
          simp [hb, nameB, nameS, he, hl]
        · have hl' : (8 : Int) < s.length := by omega
          simp [d_is_name, b_is_name, startD, h1, h2, he, hl', nameB, nameS, hl, G_MOST_SIGNS]
    | _ => cases hS
  · have hp := h.1
    cases d <;> first | exact absurd rfl hS | exact Bool.noConfusion hp | simp [d_is_name, b_is_name, startD, nameB]
def NameOk (f : List D → Sto → R D) : Prop := ∀ (d : D) (st : Sto), ok0 d → f [d] st = .ok (.bl (nameB d)) st
def pathB : D → Bool
  | .tup ds => decide (ds.length ≤ 6) && ds.all nameB
  | _ => false
theorem path_ok {d : D} {st : Sto} {Ph : Nat → List D → Sto → R D} (hn : NameOk (Ph 0)) (h : ok1 d) : runDef d_is_path Ph [d] st = .ok (.bl (pathB d)) st := by
  refine runDef_rt rfl ?_ rfl
  by_cases hT : d.isT = true
  · cases d with
    | tup ds =>
      obtain ⟨h1, h2⟩ := h.2 ds rfl
      by_cases h6 : ds.length ≤ 6
      · have hc : mComp (iSeq (mVar 0)) [1] (gVar 1) none (mCall (Ph 0) [(mVar 1)]) [some (.tup ds), none] st = .ok (.lst (ds.map fun d => .bl (nameB d))) st := by
          refine mComp_map (fun d => .bl (nameB d)) rfl (fun d hd => ⟨_, rfl, ?_⟩) (by omega)
          have := hn d st (h1 d hd)
          simp [this]
        have hb := bAll_map nameB ds st
        have h6' : ¬ (6 : Int) < ds.length := by omega
        simp only [d_is_path, b_is_path, G_MOST_NAMES]
        show (sSeq _ _) [some (.tup ds), none] st = _
        simp [h6', hc, hb, pathB, h6]
      · have h6' : (6 : Int) < ds.length := by omega
        simp [d_is_path, b_is_path, startD, G_MOST_NAMES, h6', pathB, h6]
    | _ => cases hT
  · have hp := h.1.1
    cases d <;> first | exact absurd rfl hT | exact Bool.noConfusion hp | simp [d_is_path, b_is_path, startD, pathB]
def isN : D → Bool
  | .int _ => true
  | _ => false
theorem num_ok {d : D} {st : Sto} {Ph : Nat → List D → Sto → R D} (h : d.pl = true) : runDef d_is_number Ph [d] st = .ok (.bl (isN d)) st := by
  refine runDef_rt rfl ?_ rfl
  cases d <;> first | exact Bool.noConfusion h | simp [d_is_number, b_is_number, startD, isN]
def NumOk (f : List D → Sto → R D) : Prop := ∀ (d : D) (st : Sto), d.pl = true → f [d] st = .ok (.bl (isN d)) st
def byteB : D → Bool
  | .int i => decide (0 ≤ i) && decide (i ≤ 255)
  | _ => false
def leafB : D → Bool
  | .tup ds => decide (ds.length ≤ 8) && ds.all byteB
  | _ => false
theorem leaf_ok {d : D} {st : Sto} {Ph : Nat → List D → Sto → R D} (hn : NumOk (Ph 3)) (h : ok1 d) : runDef d_is_leaf Ph [d] st = .ok (.bl (leafB d)) st := by
  refine runDef_rt rfl ?_ rfl
  by_cases hT : d.isT = true
  · cases d with
    | tup ds =>
      obtain ⟨h1, h2⟩ := h.2 ds rfl
      by_cases h6 : ds.length ≤ 8
      · have hc : mComp (iSeq (mVar 0)) [1] (gVar 1) none (mAnd (mCall (Ph 3) [(mVar 1)]) (mAnd (mBin opGe (mVar 1) (mC (.int 0))) (mBin opLe (mVar 1) (mC (.int 255))))) [some (.tup ds), none] st = .ok (.lst (ds.map fun d => .bl (byteB d))) st := by
          refine mComp_map (fun d => .bl (byteB d)) rfl (fun d hd => ⟨_, rfl, ?_⟩) (by omega)
          have := hn d st (h1 d hd).1
          simp [this]
          cases d <;> simp [isN, byteB]
          rename_i i
          by_cases q : 0 ≤ i <;> simp [q]
        have hb := bAll_map byteB ds st
        have h6' : ¬ (8 : Int) < ds.length := by omega
        simp only [d_is_leaf, b_is_leaf, G_MOST_NUMBERS]
        show (sSeq _ _) [some (.tup ds), none] st = _
        simp [h6', hc, hb, leafB, h6]
      · have h6' : (8 : Int) < ds.length := by omega
        simp [d_is_leaf, b_is_leaf, startD, G_MOST_NUMBERS, h6', leafB, h6]
    | _ => cases hT
  · have hp := h.1.1
    cases d <;> first | exact absurd rfl hT | exact Bool.noConfusion hp | simp [d_is_leaf, b_is_leaf, startD, leafB]
def countB : D → Bool
  | .int i => decide (0 ≤ i) && decide (i ≤ 64)
  | _ => false
theorem count_ok {d : D} {st : Sto} {Ph : Nat → List D → Sto → R D} (hn : NumOk (Ph 3)) (h : d.pl = true) : runDef d_is_count Ph [d] st = .ok (.bl (countB d)) st := by
  refine runDef_rt rfl ?_ rfl
  have := hn d st h
  cases d <;> simp [d_is_count, b_is_count, startD, this, isN, countB, G_MOST_LEAVES]
  rename_i i
  by_cases q : 0 ≤ i <;> simp [q]
def PathOk (f : List D → Sto → R D) : Prop := ∀ (d : D) (st : Sto), ok1 d → f [d] st = .ok (.bl (pathB d)) st
def wayB (d : D) : Bool := pathB d && (match d with | .tup [] => false | _ => true)
theorem nameS_facts {s : Str} (h : nameS s = true) : s ≠ em ∧ s.length ≤ 8 ∧ PyData.canLay0 (.str s) = true := by
  rw [nameS, Bool.and_eq_true, Bool.and_eq_true, List.all_eq_true] at h
  obtain ⟨h1, h2, h3⟩ := h
  have h3' : ∀ c ∈ s.cps.toList, c ∈ letters := fun c hc => of_decide_eq_true (h3 c hc)
  have hl : ∀ c ∈ letters, c < 0x110000 := by decide
  exact ⟨by simpa using h1, of_decide_eq_true h2, okS_iff.mpr fun c hc => hl c (h3' c hc)⟩
theorem pln_names {ds : List D} (h : ds.all nameB = true) : Pln 64 (.tup ds) := Pln.tup (Plns.of fun d hd => by
  have := List.all_eq_true.mp h d hd
  cases d with
  | str s => exact .str (nameS_facts this).2.2
  | _ => cases this)
@[simp] theorem beqD_tup_nil (ds : List D) : beqD (.tup ds) (.tup []) = ds.isEmpty := by
  cases ds <;> simp [beqD, toPy, toPys, PyData.eqv, PyData.eqvAll]
theorem way_ok {d : D} {st : Sto} {Ph : Nat → List D → Sto → R D} (hp : PathOk (Ph 2)) (h : ok1 d) : runDef d_is_way Ph [d] st = .ok (.bl (wayB d)) st := by
  refine runDef_rt rfl ?_ rfl
  have e := hp d st h
  by_cases hb : pathB d = true
  · cases d with
    | tup ds =>
      have hq : ds.all nameB = true := by simp only [pathB, Bool.and_eq_true] at hb; exact hb.2
      have hne : opNe (.tup ds) (.tup []) st = .ok (.bl (!ds.isEmpty)) st := by
        rw [opNe_pl (st := st) (x := .tup ds) (y := .tup []) (k := 64) (j := 64) (pln_names hq) (.tup .nil) (by omega) (by omega), deref_tup, deref_tup, beqD_tup_nil]
      have s0 : (0 : Nat) ≤ sizeLine := Nat.zero_le _
      simp [d_is_way, b_is_way, startD, e, hb, hne, wayB]
      cases ds <;> rfl
    | _ => cases hb
  · simp [d_is_way, b_is_way, startD, e, hb, wayB]
/-! deeds -/
abbrev wFolder : Str := ⟨#[102, 111, 108, 100, 101, 114]⟩
abbrev wFile : Str := ⟨#[102, 105, 108, 101]⟩
abbrev wPut : Str := ⟨#[112, 117, 116]⟩
abbrev wTrim : Str := ⟨#[116, 114, 105, 109]⟩
abbrev wOut : Str := ⟨#[111, 117, 116]⟩
abbrev wMove : Str := ⟨#[109, 111, 118, 101]⟩
abbrev wCopy : Str := ⟨#[99, 111, 112, 121]⟩
def sizeOf (w : Str) : Option Nat := if w = wFolder ∨ w = wFile ∨ w = wOut then some 2 else if w = wPut then some 4 else if w = wTrim ∨ w = wMove ∨ w = wCopy then some 3 else none
theorem sizes_eq (w : Str) : T_SIZES.lookup w = (sizeOf w).map fun n => D.int n := by
  have e : T_SIZES = [(wFolder, .int 2), (wFile, .int 2), (wPut, .int 4), (wTrim, .int 3), (wOut, .int 2), (wMove, .int 3), (wCopy, .int 3)] := rfl
  rw [e]
  unfold sizeOf
  by_cases h1 : w = wFolder
  · subst h1; rfl
  by_cases h2 : w = wFile
  · subst h2; rfl
  by_cases h3 : w = wPut
  · subst h3; rfl
  by_cases h4 : w = wTrim
  · subst h4; rfl
  by_cases h5 : w = wOut
  · subst h5; rfl
  by_cases h6 : w = wMove
  · subst h6; rfl
  by_cases h7 : w = wCopy
  · subst h7; rfl
  have b : ∀ x : Str, w ≠ x → (w == x) = false := fun x h => by
    cases q : w == x with
    | false => rfl
    | true => exact absurd (eq_of_beq q) h
  simp only [List.lookup_cons, b _ h1, b _ h2, b _ h3, b _ h4, b _ h5, b _ h6, b _ h7, List.lookup_nil]
  rw [if_neg (by simp [h1, h2, h5]), if_neg h3, if_neg (by simp [h4, h6, h7])]
  rfl
def deedB (d : D) : Bool := match d with
  | .tup (.str w :: rest) => (match sizeOf w with
    | none => false
    | some n => decide (rest.length + 1 = n) && (match rest with
      | [] => false
      | p :: r => wayB p && (if w = wPut then (match r with
          | c :: l :: _ => countB c && leafB l
          | _ => false) else if w = wTrim then (match r with
          | c :: _ => countB c
          | _ => false) else if w = wMove ∨ w = wCopy then (match r with
          | o :: _ => wayB o
          | _ => false) else true)))
  | _ => false
def WayOk (f : List D → Sto → R D) : Prop := ∀ (d : D) (st : Sto), ok1 d → f [d] st = .ok (.bl (wayB d)) st
def LeafOk (f : List D → Sto → R D) : Prop := ∀ (d : D) (st : Sto), ok1 d → f [d] st = .ok (.bl (leafB d)) st
def CountOk (f : List D → Sto → R D) : Prop := ∀ (d : D) (st : Sto), d.pl = true → f [d] st = .ok (.bl (countB d)) st
theorem opEq_t0 {ds : List D} {st : Sto} : opEq (.tup ds) (.tup []) st = .ok (.bl ds.isEmpty) st := by
  unfold opEq
  cases e : eqD st (.tup ds) (.tup []) with
  | none => rfl
  | some b =>
    unfold eqD at e
    split at e
    · cases e
      have := beqD_tup_nil ds
      unfold beqD at this
      simp only [deref_tup, this]
    · cases e
theorem ix_tup {ds : List D} {n : Nat} {d : D} {st : Sto} (h : ds[n]? = some d) : opIx (.tup ds) (.int n) st = .ok d st := by simp [opIx, atN h]
theorem ix0 {a : D} {ds : List D} {st : Sto} : opIx (.tup (a :: ds)) (.int 0) st = .ok a st := ix_tup (n := 0) rfl
theorem ix1 {a b : D} {ds : List D} {st : Sto} : opIx (.tup (a :: b :: ds)) (.int 1) st = .ok b st := ix_tup (n := 1) rfl
theorem ix2 {a b c : D} {ds : List D} {st : Sto} : opIx (.tup (a :: b :: c :: ds)) (.int 2) st = .ok c st := ix_tup (n := 2) rfl
theorem ix3 {a b c e : D} {ds : List D} {st : Sto} : opIx (.tup (a :: b :: c :: e :: ds)) (.int 3) st = .ok e st := ix_tup (n := 3) rfl
theorem words_ok : ∀ w ∈ [wFolder, wFile, wPut, wTrim, wOut, wMove, wCopy], OkS w := by
  have : ∀ w ∈ [wFolder, wFile, wPut, wTrim, wOut, wMove, wCopy], (∀ c ∈ w.cps.toList, c < 0x110000) ∧ w.length ≤ 1000 := by decide
  exact fun w h => ⟨okS_iff.mpr (this w h).1, (this w h).2⟩
theorem kin_eq {w : Str} : mKIn T_SIZES true (mC (.str w)) = mKIn T_SIZES true (mC (.str w)) := rfl
theorem isdeed_ok {d : D} {st : Sto} {Ph : Nat → List D → Sto → R D} (hw : WayOk (Ph 9)) (hc : CountOk (Ph 10)) (hf : LeafOk (Ph 4)) (h : ok2 d) : runDef d_is_deed Ph [d] st = .ok (.bl (deedB d)) st := by
  refine runDef_rt rfl ?_ rfl
  by_cases hT : d.isT = true
  · cases d with
    | tup ds =>
      obtain ⟨h1, h2⟩ := h.2 ds rfl
      have e0 := opEq_t0 (ds := ds) (st := st)
      have s0 : (0 : Nat) ≤ sizeLine := Nat.zero_le _
      cases ds with
      | nil => simp [d_is_deed, b_is_deed, startD, e0, deedB]
      | cons a rest =>
        have ha := h1 a (by simp)
        by_cases hS : a.isS = true
        · cases a with
          | str w =>
            have hok := ha.1.2 w rfl
            have hsz := sizes_eq w
            cases hn : sizeOf w with
            | none =>
              rw [hn] at hsz
              simp [d_is_deed, b_is_deed, startD, e0, deedB, hn, ix0, mKIn, hsz]
            | some n =>
              rw [hn] at hsz
              by_cases hl : rest.length + 1 = n
              · have hl' : ((rest.length : Int) + 1 = (n : Int)) := by omega
                have hn2 : 2 ≤ n := by
                  unfold sizeOf at hn
                  split at hn
                  · cases hn; omega
                  · split at hn
                    · cases hn; omega
                    · split at hn
                      · cases hn; omega
                      · cases hn
                match rest, hl, hl', h1, h2, e0 with
                | [], hl, hl', _, _, _ => simp at hl; omega
                | p :: r, hl, hl', h1, h2, e0 =>
                  have hp := hw p st (h1 p (by simp))
                  have q1 := opEq_str (st := st) hok (words_ok wPut (by simp))
                  have q2 := opEq_str (st := st) hok (words_ok wTrim (by simp))
                  have q3 := opEq_str (st := st) hok (words_ok wMove (by simp))
                  have q4 := opEq_str (st := st) hok (words_ok wCopy (by simp))
                  simp only [List.length_cons] at hl hl'
                  have hl'' : (r.length : Int) + 1 + 1 = (n : Int) := by omega
                  by_cases hpw : wayB p = true
                  · rw [hpw] at hp
                    by_cases w1 : w = wPut
                    · subst w1
                      have hn' : n = 4 := by have : some n = some 4 := hn.symm; exact Option.some.inj this
                      subst hn'
                      match r, hl with
                      | [c, l], _ =>
                        have hc' := hc c st (h1 c (by simp)).1.1
                        have hf' := hf l st (h1 l (by simp))
                        simp at q1
                        simp [d_is_deed, b_is_deed, startD, e0, deedB, hn, ix0, ix1, ix2, ix3, mKIn, mKIx, hsz, hp, q1, hc', hf', hpw]
                        cases countB c <;> rfl
                    · by_cases w2 : w = wTrim
                      · subst w2
                        have hn' : n = 3 := by have : some n = some 3 := hn.symm; exact Option.some.inj this
                        subst hn'
                        match r, hl with
                        | [c], _ =>
                          have hc' := hc c st (h1 c (by simp)).1.1
                          simp at q2
                          simp [w1] at q1
                          simp [d_is_deed, b_is_deed, startD, e0, deedB, hn, ix0, ix1, ix2, mKIn, mKIx, hsz, hp, q1, q2, hc', hpw]
                      · have q1' : opEq (.str w) (.str wPut) st = .ok (.bl false) st := by rw [q1]; simp [w1]
                        have q2' : opEq (.str w) (.str wTrim) st = .ok (.bl false) st := by rw [q2]; simp [w2]
                        by_cases w3 : w = wMove
                        · have hn' : n = 3 := by subst w3; have : some n = some 3 := hn.symm; exact Option.some.inj this
                          subst hn'
                          have q3' : opEq (.str w) (.str wMove) st = .ok (.bl true) st := by rw [q3]; simp [w3]
                          match r, hl with
                          | [c], _ =>
                            have hc' := hw c st (h1 c (by simp))
                            have hd : deedB (.tup [.str w, p, c]) = wayB c := by
                              simp only [deedB, hn, hpw, if_neg w1, if_neg w2, if_pos (show w = wMove ∨ w = wCopy from .inl w3)]
                              simp
                            rw [hd]
                            simp [d_is_deed, b_is_deed, startD, e0, ix0, ix1, ix2, mKIn, mKIx, hsz, hp, q1', q2', q3', hc']
                        · have q3' : opEq (.str w) (.str wMove) st = .ok (.bl false) st := by rw [q3]; simp [w3]
                          by_cases w4 : w = wCopy
                          · have hn' : n = 3 := by subst w4; have : some n = some 3 := hn.symm; exact Option.some.inj this
                            subst hn'
                            have q4' : opEq (.str w) (.str wCopy) st = .ok (.bl true) st := by rw [q4]; simp [w4]
                            match r, hl with
                            | [c], _ =>
                              have hc' := hw c st (h1 c (by simp))
                              have hd : deedB (.tup [.str w, p, c]) = wayB c := by
                                simp only [deedB, hn, hpw, if_neg w1, if_neg w2, if_pos (show w = wMove ∨ w = wCopy from .inr w4)]
                                simp
                              rw [hd]
                              simp [d_is_deed, b_is_deed, startD, e0, ix0, ix1, ix2, mKIn, mKIx, hsz, hp, q1', q2', q3', q4', hc']
                          · have q4' : opEq (.str w) (.str wCopy) st = .ok (.bl false) st := by rw [q4]; simp [w4]
                            have hd : deedB (.tup (.str w :: p :: r)) = true := by
                              simp only [deedB, hn, hpw, if_neg w1, if_neg w2, if_neg (show ¬ (w = wMove ∨ w = wCopy) from fun h => h.elim w3 w4)]
                              simp [hl]
                            rw [hd]
                            simp [d_is_deed, b_is_deed, startD, e0, ix0, ix1, mKIn, mKIx, hsz, hp, q1', q2', q3', q4', hl'']
                  · simp only [Bool.not_eq_true] at hpw
                    rw [hpw] at hp
                    simp [d_is_deed, b_is_deed, startD, e0, deedB, hn, ix0, ix1, mKIn, mKIx, hsz, hp, hl', hpw]
              · have hl' : ¬ ((rest.length : Int) + 1 = (n : Int)) := by omega
                simp [d_is_deed, b_is_deed, startD, e0, deedB, hn, ix0, mKIn, mKIx, hsz, hl, hl']
          | _ => cases hS
        · have hi : isInst "str" a st = .ok (.bl false) st := by rw [isInst_str ha.1.1]; simp [hS]
          have hd : deedB (.tup (a :: rest)) = false := by cases a <;> first | rfl | exact absurd rfl hS
          simp [d_is_deed, b_is_deed, startD, e0, hd, ix0, hi]
    | _ => cases hT
  · have hp := h.1
    cases d <;> first | exact absurd rfl hT | exact Bool.noConfusion hp | simp [d_is_deed, b_is_deed, startD, deedB]
/-! refused -/
def DeedOk (f : List D → Sto → R D) : Prop := ∀ (d : D) (st : Sto), ok2 d → f [d] st = .ok (.bl (deedB d)) st
theorem done_exc {v d : D} {st : Sto} {Ph : Nat → List D → Sto → R D} (hd : DeedOk (Ph 11)) (h : ok2 d) (hb : deedB d = false) : runDef d_done Ph [v, d] st = .exc 7 st := by
  have e := hd d st h
  rw [hb] at e
  simp [runDef, d_done, b_done, startD, e]
theorem refused_ok {v d : D} {st : Sto} {Ph : Nat → List D → Sto → R D} (h : Ph 22 [v, d] st = .exc 7 st) : runDef d__law_refused Ph [v, d] st = .ok (.bl true) st := by
  refine runDef_rt rfl ?_ rfl
  simp [d__law_refused, b__law_refused, startD, sTry, sTry.pick, h, Sub]
/-! the drawn -/
def NextOk (f : List D → Sto → R D) : Prop := ∀ (l : Nat) (st : Sto) (ds : List Int), st[l]? = some (.lst (ds.map .int)) → InD ds → ∃ x ds', 0 ≤ x ∧ x < 2147483629 ∧ InD ds' ∧ f [.ref l] st = .ok (.int x) (st.set l (.lst (ds'.map .int)))
theorem next_at {f : List D → Sto → R D} (h : NextOk f) {tl : Sto} {ds : List Int} (hd : InD ds) : ∃ x ds', 0 ≤ x ∧ x < 2147483629 ∧ InD ds' ∧ f [.ref 0] (.lst (ds.map .int) :: tl) = .ok (.int x) (.lst (ds'.map .int) :: tl) := h 0 _ ds rfl hd
def menu : List Str := [⟨#[97]⟩, ⟨#[98]⟩, ⟨#[122]⟩, ⟨#[97, 98]⟩, ⟨#[98, 97]⟩, ⟨#[122, 122]⟩, ⟨#[97, 98, 99]⟩, ⟨#[104, 103, 102, 101, 100, 99, 98, 97]⟩, ⟨#[99]⟩, ⟨#[100]⟩]
theorem menu_ok : ∀ s ∈ menu, nameS s = true := by decide
theorem lname_ok {i : Int} {st : Sto} {Ph : Nat → List D → Sto → R D} : ∃ s, nameS s = true ∧ runDef d__law_name Ph [.int i] st = .ok (.str s) st := by
  have h0 : 0 ≤ i % 10 := by omega
  have h1 : i % 10 < ((menu.map D.str).length : Nat) := by
    show i % 10 < ((10 : Nat) : Int)
    omega
  obtain ⟨x, hx, hg⟩ := atI_int (xs := menu.map D.str) h0 h1
  have hm := List.mem_of_getElem? hg
  obtain ⟨s, hs, rfl⟩ := List.mem_map.mp hm
  refine ⟨s, menu_ok s hs, runDef_rt rfl ?_ rfl⟩
  have hi : opIx (.lst (menu.map D.str)) (.int (i % 10)) st = .ok (.str s) st := by simp only [opIx, deref_lst, hx]
  have s10 : (10 : Nat) ≤ sizeLine := sizeLine_ge (by omega)
  simp only [menu, List.map_cons, List.map_nil] at hi
  simp [d__law_name, b__law_name, startD, s10, hi]
theorem opIx_mem {ds : List D} {i : Int} {st : Sto} (h0 : 0 ≤ i) (h1 : i < ds.length) : ∃ d ∈ ds, opIx (.lst ds) (.int i) st = .ok d st := by
  obtain ⟨x, hx, hg⟩ := atI_int (xs := ds) h0 h1
  exact ⟨x, List.mem_of_getElem? hg, by simp only [opIx, deref_lst, hx]⟩
def Names (ds : List D) : Prop := ∀ d ∈ ds, nameB d = true
def MenuOk (f : List D → Sto → R D) : Prop := ∀ (i : Int) (st : Sto), ∃ s, nameS s = true ∧ f [.int i] st = .ok (.str s) st
theorem path_go {Ph : Nat → List D → Sto → R D} (hn : NextOk (Ph 25)) (hm : MenuOk (Ph 26)) {x : Int} (x0 : 0 ≤ x) {e2 : Option D} {xs : List D} : ∀ (es : List D) (ds : List Int), InD ds →
    ∃ ps ds', Names ps ∧ ps.length = es.length ∧ InD ds' ∧ compGo (.vals xs) (gVar 3) none (mCall (Ph 26) [(mBin opMod (mCall (Ph 25) [(mVar 0)]) (mBin opIx (mLst [(mC (.int 2)), (mC (.int 4)), (mC (.int 10))]) (mBin opMod (mBin opDiv (mVar 1) (mC (.int 10))) (mC (.int 3)))))]) [some (.ref 0), some (.int x), e2, none] es [.lst (ds.map .int)] = .ok ps [.lst (ds'.map .int)]
  | [], ds, h => ⟨[], ds, fun _ h => absurd h (by simp), rfl, h, rfl⟩
  | e :: es, ds, h => by
    obtain ⟨y, ds1, y0, y1, h1, f1⟩ := next_at hn (tl := []) h
    obtain ⟨m, hmem, f2⟩ := opIx_mem (ds := [.int 2, .int 4, .int 10]) (i := x / 10 % 3) (st := [.lst (ds1.map .int)]) (by omega) (by show x / 10 % 3 < ((3 : Nat) : Int); omega)
    have hk : ∃ k : Int, m = .int k ∧ 0 < k := by
      simp at hmem
      rcases hmem with rfl | rfl | rfl
      · exact ⟨2, rfl, by decide⟩
      · exact ⟨4, rfl, by decide⟩
      · exact ⟨10, rfl, by decide⟩
    obtain ⟨k, rfl, hk0⟩ := hk
    obtain ⟨s, hs, f3⟩ := hm (y % k) [.lst (ds1.map .int)]
    obtain ⟨ps, ds', hp, hl, hd, ih⟩ := path_go hn hm x0 (e2 := e2) (xs := xs) es ds1 h1
    refine ⟨.str s :: ps, ds', fun z hz => ?_, by simp [hl], hd, ?_⟩
    · rcases List.mem_cons.mp hz with rfl | hz
      · exact hs
      · exact hp z hz
    · have q10 : CDivW x 10 := by unfold CDivW; decide
      have s3 : (3 : Nat) ≤ sizeLine := sizeLine_ge (by omega)
      rw [compGo_cons]
      simp [f1, q10, s3, f2, hk0, f3, ih]
end LK09
namespace LK09
open PySem MI L2 PySem.Spec PyProof.Rows MX
theorem pick10a (x : Int) (st : Sto) : ∃ k : Nat, 1 ≤ k ∧ k ≤ 6 ∧ opIx (.lst [.int 1, .int 1, .int 1, .int 2, .int 2, .int 2, .int 3, .int 3, .int 4, .int 6]) (.int (x % 10)) st = .ok (.int k) st := by
  obtain ⟨m, hmem, f2⟩ := opIx_mem (ds := [.int 1, .int 1, .int 1, .int 2, .int 2, .int 2, .int 3, .int 3, .int 4, .int 6]) (i := x % 10) (st := st) (by omega) (by show x % 10 < ((10 : Nat) : Int); omega)
  have hk : ∃ k : Nat, m = .int k ∧ 1 ≤ k ∧ k ≤ 6 := by
    simp at hmem
    rcases hmem with rfl | rfl | rfl | rfl | rfl
    · exact ⟨1, rfl, by decide, by decide⟩
    · exact ⟨2, rfl, by decide, by decide⟩
    · exact ⟨3, rfl, by decide, by decide⟩
    · exact ⟨4, rfl, by decide, by decide⟩
    · exact ⟨6, rfl, by decide, by decide⟩
  obtain ⟨k, rfl, k1, k6⟩ := hk
  exact ⟨k, k1, k6, f2⟩
theorem pick10b (x : Int) (st : Sto) (k : Nat) (f2 : opIx (.lst [.int 1, .int 1, .int 1, .int 2, .int 2, .int 2, .int 3, .int 3, .int 4, .int 6]) (.int (x % 10)) st = .ok (.int k) st) : 
   (mBin opIx (mLst [(mC (.int 1)), (mC (.int 1)), (mC (.int 1)), (mC (.int 2)), (mC (.int 2)), (mC (.int 2)), (mC (.int 3)), (mC (.int 3)), (mC (.int 4)), (mC (.int 6))]) (mBin opMod (mVar 1) (mC (.int 10)))) [some (.ref 0), some (.int x), none, none] st = .ok (.int k) st := by
  have s10 : (10 : Nat) ≤ sizeLine := sizeLine_ge (by omega)
  simp only [mBin_app, mLst_app, mArgs_cons, mArgs_nil, mC_app, bind_ok, List.length_cons, List.length_nil, Nat.zero_add, Nat.reduceAdd, if_pos s10, mVar_app, List.getElem?_cons_succ, List.getElem?_cons_zero, opMod_ii, Int.reduceLT, if_true]
  exact f2
theorem run3 {M1 M2 M3 : ME} {i j : Nat} {env : DEnv} {st st1 st2 st3 : Sto} {d1 d2 d3 : D} (h1 : M1 env st = .ok d1 st1) (h2 : M2 (env.set i (some d1)) st1 = .ok d2 st2) (h3 : M3 ((env.set i (some d1)).set j (some d2)) st2 = .ok d3 st3) :
    (sSeq (sAsg M1 (gVar i)) (sSeq (sAsg M2 (gVar j)) (sSeq (sRet M3) sSkip))) env st = .rt d3 st3 := by
  simp [h1, h2, h3]
theorem run_yes {M1 C A B : ME} {i : Nat} {env : DEnv} {st st1 st2 st3 : Sto} {d1 d3 : D} (h1 : M1 env st = .ok d1 st1) (h2 : C (env.set i (some d1)) st1 = .ok (.bl true) st2) (h3 : A (env.set i (some d1)) st2 = .ok d3 st3) :
    (sSeq (sAsg M1 (gVar i)) (sSeq (sIf C (sSeq (sRet A) sSkip) sSkip) (sSeq (sRet B) sSkip))) env st = .rt d3 st3 := by
  simp [h1, h2, h3]
theorem run_no {M1 C A B : ME} {i : Nat} {env : DEnv} {st st1 st2 st3 : Sto} {d1 d3 : D} (h1 : M1 env st = .ok d1 st1) (h2 : C (env.set i (some d1)) st1 = .ok (.bl false) st2) (h3 : B (env.set i (some d1)) st2 = .ok d3 st3) :
    (sSeq (sAsg M1 (gVar i)) (sSeq (sIf C (sSeq (sRet A) sSkip) sSkip) (sSeq (sRet B) sSkip))) env st = .rt d3 st3 := by
  simp [h1, h2, h3]
theorem call1 {f : List D → Sto → R D} {M : ME} {env : DEnv} {st st1 st2 : Sto} {d d2 : D} (h1 : M env st = .ok d st1) (h2 : f [d] st1 = .ok d2 st2) : mCall f [M] env st = .ok d2 st2 := by
  simp [h1, h2]
theorem lpath_ok {Ph : Nat → List D → Sto → R D} (hn : NextOk (Ph 25)) (hm : MenuOk (Ph 26)) {ds : List Int} (hd : InD ds) :
    ∃ ps ds', Names ps ∧ 1 ≤ ps.length ∧ ps.length ≤ 6 ∧ InD ds' ∧ runDef d__law_path Ph [.ref 0] [.lst (ds.map .int)] = .ok (.tup ps) [.lst (ds'.map .int)] := by
  obtain ⟨x, ds1, x0, x1, h1, f1⟩ := next_at hn (tl := []) hd
  obtain ⟨k, k1, k6, f2⟩ := pick10a x [.lst (ds1.map .int)]
  obtain ⟨ps, ds', hp, hl, hd', f3⟩ := path_go hn hm x0 (e2 := some (.int k)) (xs := rangeD 0 k) (rangeD 0 k) ds1 h1
  rw [rangeD_len] at hl
  refine ⟨ps, ds', hp, by omega, by omega, hd', runDef_rt rfl ?_ rfl⟩
  have hr : iRange1 (mVar 2) [some (.ref 0), some (.int x), some (.int k), none] [.lst (ds1.map .int)] = .ok (.vals (rangeD 0 k)) [.lst (ds1.map .int)] :=
    iRange1_nat rfl (by omega)
  have hs : ps.length ≤ sizeLine := sizeLine_ge (by omega)
  have hc : mComp (iRange1 (mVar 2)) [3] (gVar 3) none (mCall (Ph 26) [(mBin opMod (mCall (Ph 25) [(mVar 0)]) (mBin opIx (mLst [(mC (.int 2)), (mC (.int 4)), (mC (.int 10))]) (mBin opMod (mBin opDiv (mVar 1) (mC (.int 10))) (mC (.int 3)))))]) [some (.ref 0), some (.int x), some (.int k), none] [.lst (ds1.map .int)] = .ok (.lst ps) [.lst (ds'.map .int)] := by
    rw [mComp_app, hr, bind_ok, items_vals]
    have : wipeD [some (.ref 0), some (.int x), some (.int k), none] [3] = [some (.ref 0), some (.int x), some (.int k), none] := rfl
    rw [this, f3]
    simp only [if_pos hs]
  exact run3 (env := [some (.ref 0), none, none, none]) (call1 rfl f1) (pick10b x _ k f2) (call1 hc rfl)
theorem lf_c {x : Int} {st : Sto} (h : x % 4 = 0) : (mBin opEq (mBin opMod (mVar 1) (mC (.int 4))) (mC (.int 0))) [some (.ref 0), some (.int x), none] st = .ok (.bl true) st := by
  simp [h]
theorem lf_c' {x : Int} {st : Sto} (h : ¬ x % 4 = 0) : (mBin opEq (mBin opMod (mVar 1) (mC (.int 4))) (mC (.int 0))) [some (.ref 0), some (.int x), none] st = .ok (.bl false) st := by
  simp [h]
theorem lf_a {x : Int} {st : Sto} {d : D} (q4 : CDivW x 4) (f2 : opIx (.lst [.tup [], .tup [.int 0], .tup [.int 255, .int 0], .tup [.int 7, .int 7, .int 7, .int 7, .int 7, .int 7, .int 7, .int 7]]) (.int (x / 4 % 4)) st = .ok d st) :
    (mBin opIx (mLst [(mTup []), (mTup [(mC (.int 0))]), (mTup [(mC (.int 255)), (mC (.int 0))]), (mTup [(mC (.int 7)), (mC (.int 7)), (mC (.int 7)), (mC (.int 7)), (mC (.int 7)), (mC (.int 7)), (mC (.int 7)), (mC (.int 7))])]) (mBin opMod (mBin opDiv (mVar 1) (mC (.int 4))) (mC (.int 4)))) [some (.ref 0), some (.int x), none] st = .ok d st := by
  have s4 : (4 : Nat) ≤ sizeLine := sizeLine_ge (by omega)
  have s0 : (0 : Nat) ≤ sizeLine := sizeLine_ge (by omega)
  have s1 : (1 : Nat) ≤ sizeLine := sizeLine_ge (by omega)
  have s2 : (2 : Nat) ≤ sizeLine := sizeLine_ge (by omega)
  have s8 : (8 : Nat) ≤ sizeLine := sizeLine_ge (by omega)
  simp only [mBin_app, mLst_app, mTup_app, mArgs_cons, mArgs_nil, mC_app, bind_ok, List.length_cons, List.length_nil, Nat.zero_add, Nat.reduceAdd, if_pos s4, if_pos s0, if_pos s1, if_pos s2, if_pos s8, mVar_app, List.getElem?_cons_succ, List.getElem?_cons_zero, opMod_ii, opDiv_ii, if_pos q4, Int.reduceLT, if_true]
  exact f2
def leafF (x : Int) (d : D) : D := match d with
  | .int k => .int ((x / 7 + k * k * (x % 5)) % 256)
  | d => d
theorem leafF_byte {x : Int} {n : Nat} : ((rangeD 0 n).map (leafF x)).all byteB = true := by
  rw [List.all_eq_true]
  intro d hd
  obtain ⟨e, he, rfl⟩ := List.mem_map.mp hd
  obtain ⟨i, hi⟩ := List.getElem?_of_mem he
  obtain ⟨_, rfl⟩ := rangeD_at hi
  simp only [leafF, byteB]
  generalize x / 7 + (0 + (i : Int)) * (0 + i) * (x % 5) = z
  have a := Int.emod_nonneg z (b := 256) (by decide)
  have b := Int.emod_lt_of_pos z (b := 256) (by decide)
  simp only [Bool.and_eq_true, decide_eq_true_eq]
  omega
theorem leafF_run {x k : Int} {st : Sto} (q7 : CDivW x 7) (m1 : mulOk k k) (m2 : mulOk (k * k) (x % 5)) : (mBin opMod (mBin opAdd (mBin opDiv (mVar 1) (mC (.int 7))) (mBin opMul (mBin opMul (mVar 2) (mVar 2)) (mBin opMod (mVar 1) (mC (.int 5))))) (mC (.int 256))) [some (.ref 0), some (.int x), some (.int k)] st = .ok (leafF x (.int k)) st := by
  simp [q7, m1, m2, leafF]
theorem leaf_m {x : Int} {i : Nat} (hi : i < 9) : mulOk (0 + (i : Int)) (0 + (i : Int)) ∧ mulOk ((0 + (i : Int)) * (0 + (i : Int))) (x % 5) := ⟨mulOk_r (by omega) (by omega), mulOk_r (by omega) (by omega)⟩
theorem div7 (x : Int) : CDivW x 7 := by unfold CDivW; decide
theorem leaf_rng {x : Int} {st : Sto} : (mBin opMod (mBin opDiv (mVar 1) (mC (.int 3))) (mC (.int 9))) [some (.ref 0), some (.int x), none] st = .ok (.int (x / 3 % 9)) st := by
  have q3 : CDivW x 3 := by unfold CDivW; decide
  simp only [mBin_app, mVar_app, mC_app, bind_ok, List.getElem?_cons_succ, List.getElem?_cons_zero, opMod_ii, opDiv_ii, if_pos q3, Int.reduceLT, if_true]
theorem leaf_comp {x : Int} {st : Sto} (x0 : 0 ≤ x) : mComp (iRange1 (mBin opMod (mBin opDiv (mVar 1) (mC (.int 3))) (mC (.int 9)))) [2] (gVar 2) none (mBin opMod (mBin opAdd (mBin opDiv (mVar 1) (mC (.int 7))) (mBin opMul (mBin opMul (mVar 2) (mVar 2)) (mBin opMod (mVar 1) (mC (.int 5))))) (mC (.int 256))) [some (.ref 0), some (.int x), none] st = .ok (.lst ((rangeD 0 (x / 3 % 9).toNat).map (leafF x))) st := by
  refine mComp_map (leafF x) (iRange1_int leaf_rng (by omega) (by omega)) (fun d hd => ?_) (by rw [rangeD_len]; omega)
  obtain ⟨i, hi⟩ := List.getElem?_of_mem hd
  obtain ⟨hlt, rfl⟩ := rangeD_at hi
  exact ⟨[some (.ref 0), some (.int x), some (.int (0 + (i : Int)))], rfl, leafF_run (div7 x) (leaf_m (x := x) (by omega)).1 (leaf_m (x := x) (by omega)).2⟩
theorem lleaf_ok {Ph : Nat → List D → Sto → R D} (hn : NextOk (Ph 25)) {ds : List Int} (hd : InD ds) :
    ∃ ls ds', ls.all byteB = true ∧ ls.length ≤ 8 ∧ InD ds' ∧ runDef d__law_leaf Ph [.ref 0] [.lst (ds.map .int)] = .ok (.tup ls) [.lst (ds'.map .int)] := by
  obtain ⟨x, ds1, x0, x1, h1, f1⟩ := next_at hn (tl := []) hd
  have q4 : CDivW x 4 := by unfold CDivW; decide
  by_cases h4 : x % 4 = 0
  · obtain ⟨m, hmem, f2⟩ := opIx_mem (ds := [.tup [], .tup [.int 0], .tup [.int 255, .int 0], .tup [.int 7, .int 7, .int 7, .int 7, .int 7, .int 7, .int 7, .int 7]]) (i := x / 4 % 4) (st := [.lst (ds1.map .int)]) (by omega) (by show x / 4 % 4 < ((4 : Nat) : Int); omega)
    have hk : ∃ ls : List D, m = .tup ls ∧ ls.all byteB = true ∧ ls.length ≤ 8 := by
      simp only [List.mem_cons, List.not_mem_nil, or_false] at hmem
      rcases hmem with rfl | rfl | rfl | rfl
      · exact ⟨_, rfl, by decide, by decide⟩
      · exact ⟨_, rfl, by decide, by decide⟩
      · exact ⟨_, rfl, by decide, by decide⟩
      · exact ⟨_, rfl, by decide, by decide⟩
    obtain ⟨ls, rfl, l1, l2⟩ := hk
    refine ⟨ls, ds1, l1, l2, h1, runDef_rt rfl ?_ rfl⟩
    exact run_yes (env := [some (.ref 0), none, none]) (call1 rfl f1) (lf_c h4) (lf_a q4 f2)
  · refine ⟨(rangeD 0 (x / 3 % 9).toNat).map (leafF x), ds1, leafF_byte, by rw [List.length_map, rangeD_len]; omega, h1, runDef_rt rfl ?_ rfl⟩
    exact run_no (env := [some (.ref 0), none, none]) (call1 rfl f1) (lf_c' h4) (call1 (leaf_comp x0) rfl)
end LK09
namespace LK09
open PySem MI L2 PySem.Spec PyProof.Rows MX
theorem run4 {M1 M2 M3 M4 : ME} {i j k : Nat} {env : DEnv} {st st1 st2 st3 st4 : Sto} {d1 d2 d3 d4 : D} (h1 : M1 env st = .ok d1 st1) (h2 : M2 (env.set i (some d1)) st1 = .ok d2 st2) (h3 : M3 ((env.set i (some d1)).set j (some d2)) st2 = .ok d3 st3)
    (h4 : M4 (((env.set i (some d1)).set j (some d2)).set k (some d3)) st3 = .ok d4 st4) :
    (sSeq (sAsg M1 (gVar i)) (sSeq (sAsg M2 (gVar j)) (sSeq (sAsg M3 (gVar k)) (sSeq (sRet M4) sSkip)))) env st = .rt d4 st4 := by
  simp [h1, h2, h3, h4]
/-! facts on what is drawn -/
structure PathD (ps : List D) : Prop where
  nm : Names ps
  lo : 1 ≤ ps.length
  hi : ps.length ≤ 6
theorem Names.ok0 {ps : List D} (h : Names ps) : ∀ x ∈ ps, ok0 x := fun x hx => by
  have := h x hx
  cases x with
  | str s =>
    have f := nameS_facts this
    exact ⟨rfl, fun t e => by cases e; exact ⟨f.2.2, by have := f.2.1; omega⟩⟩
  | _ => cases this
theorem PathD.ok1 {ps : List D} (h : PathD ps) : ok1 (.tup ps) := ⟨⟨rfl, fun s e => by cases e⟩, fun ds e => by cases e; exact ⟨h.nm.ok0, by have := h.hi; omega⟩⟩
theorem PathD.way {ps : List D} (h : PathD ps) : wayB (.tup ps) = true := by
  have h1 : ps.all nameB = true := List.all_eq_true.mpr h.nm
  have h2 := h.lo
  unfold wayB pathB
  cases ps with
  | nil => simp at h2
  | cons a b => simp only [h1, h.hi, decide_true, Bool.and_self]
theorem byte_ok0 {ls : List D} (h : ls.all byteB = true) : ∀ x ∈ ls, ok0 x := fun x hx => by
  have := List.all_eq_true.mp h x hx
  cases x with
  | int i => exact ⟨rfl, fun s e => by cases e⟩
  | _ => cases this
theorem leaf_ok1 {ls : List D} (h : ls.all byteB = true) (hl : ls.length ≤ 8) : ok1 (.tup ls) := ⟨⟨rfl, fun s e => by cases e⟩, fun ds e => by cases e; exact ⟨byte_ok0 h, by omega⟩⟩
theorem leaf_B {ls : List D} (h : ls.all byteB = true) (hl : ls.length ≤ 8) : leafB (.tup ls) = true := by
  simp only [leafB, h, hl, decide_true, Bool.and_self]
theorem ok1_int {i : Int} : ok1 (.int i) := ⟨⟨rfl, fun s e => by cases e⟩, fun ds e => by cases e⟩
theorem ok1_str {s : Str} (h : OkS s) : ok1 (.str s) := ⟨⟨rfl, fun t e => by cases e; exact h⟩, fun ds e => by cases e⟩
theorem ok2_tup {ds : List D} (h : ∀ x ∈ ds, ok1 x) (hl : ds.length ≤ 1000) : ok2 (.tup ds) := ⟨rfl, fun es e => by cases e; exact ⟨h, hl⟩⟩
theorem wOk {w : Str} (h : w ∈ [wFolder, wFile, wPut, wTrim, wOut, wMove, wCopy]) : ok1 (.str w) := ok1_str (words_ok w h)
/-! good deeds -/
theorem good_list {ps qs ls : List D} {a : Int} (hp : PathD ps) (hq : PathD qs) (hl : ls.all byteB = true) (hl8 : ls.length ≤ 8) (a0 : 0 ≤ a) (a1 : a ≤ 64) :
    ∀ g ∈ [D.tup [.str wFolder, .tup ps], .tup [.str wFile, .tup ps], .tup [.str wPut, .tup ps, .int a, .tup ls], .tup [.str wTrim, .tup ps, .int a], .tup [.str wOut, .tup ps], .tup [.str wMove, .tup ps, .tup qs], .tup [.str wCopy, .tup ps, .tup ps]], ok2 g ∧ deedB g = true := by
  have c : countB (.int a) = true := by simp [countB, a0, a1]
  have lb := leaf_B hl hl8
  have wp := hp.way
  have wq := hq.way
  have z1 : sizeOf wFolder = some 2 := rfl
  have z2 : sizeOf wFile = some 2 := rfl
  have z3 : sizeOf wPut = some 4 := rfl
  have z4 : sizeOf wTrim = some 3 := rfl
  have z5 : sizeOf wOut = some 2 := rfl
  have z6 : sizeOf wMove = some 3 := rfl
  have z7 : sizeOf wCopy = some 3 := rfl
  intro g hg
  simp only [List.mem_cons, List.not_mem_nil, or_false] at hg
  rcases hg with rfl | rfl | rfl | rfl | rfl | rfl | rfl
  · exact ⟨ok2_tup (by intro x hx; simp only [List.mem_cons, List.not_mem_nil, or_false] at hx; rcases hx with rfl | rfl; exact wOk (by simp); exact hp.ok1) (by simp), by simp only [deedB, z1, wp]; rfl⟩
  · exact ⟨ok2_tup (by intro x hx; simp only [List.mem_cons, List.not_mem_nil, or_false] at hx; rcases hx with rfl | rfl; exact wOk (by simp); exact hp.ok1) (by simp), by simp only [deedB, z2, wp]; rfl⟩
  · exact ⟨ok2_tup (by intro x hx; simp only [List.mem_cons, List.not_mem_nil, or_false] at hx; rcases hx with rfl | rfl | rfl | rfl; exact wOk (by simp); exact hp.ok1; exact ok1_int; exact leaf_ok1 hl hl8) (by simp), by simp only [deedB, z3, wp, c, lb]; rfl⟩
  · exact ⟨ok2_tup (by intro x hx; simp only [List.mem_cons, List.not_mem_nil, or_false] at hx; rcases hx with rfl | rfl | rfl; exact wOk (by simp); exact hp.ok1; exact ok1_int) (by simp), by simp only [deedB, z4, wp, c]; rfl⟩
  · exact ⟨ok2_tup (by intro x hx; simp only [List.mem_cons, List.not_mem_nil, or_false] at hx; rcases hx with rfl | rfl; exact wOk (by simp); exact hp.ok1) (by simp), by simp only [deedB, z5, wp]; rfl⟩
  · exact ⟨ok2_tup (by intro x hx; simp only [List.mem_cons, List.not_mem_nil, or_false] at hx; rcases hx with rfl | rfl | rfl; exact wOk (by simp); exact hp.ok1; exact hq.ok1) (by simp), by simp only [deedB, z6, wp, wq]; rfl⟩
  · exact ⟨ok2_tup (by intro x hx; simp only [List.mem_cons, List.not_mem_nil, or_false] at hx; rcases hx with rfl | rfl | rfl; exact wOk (by simp); exact hp.ok1; exact hp.ok1) (by simp), by simp only [deedB, z7, wp]; rfl⟩
theorem pick3 {a b c i : Int} {st : Sto} (h0 : 0 ≤ i) (h1 : i < 3) : ∃ d, (d = a ∨ d = b ∨ d = c) ∧ opIx (.lst [.int a, .int b, .int c]) (.int i) st = .ok (.int d) st := by
  obtain ⟨m, hm, f⟩ := opIx_mem (ds := [.int a, .int b, .int c]) (i := i) (st := st) h0 (by show i < ((3 : Nat) : Int); omega)
  simp only [List.mem_cons, List.not_mem_nil, or_false] at hm
  rcases hm with rfl | rfl | rfl
  · exact ⟨a, .inl rfl, f⟩
  · exact ⟨b, .inr (.inl rfl), f⟩
  · exact ⟨c, .inr (.inr rfl), f⟩
theorem good_at {Ph : Nat → List D → Sto → R D} (hn : NextOk (Ph 25)) {ds : List Int} (hd : InD ds) {e1 e2 e3 : Option D} :
    ∃ a ds', 0 ≤ a ∧ a ≤ 64 ∧ InD ds' ∧ (mBin opIx (mLst [(mC (.int 0)), (mC (.int 64)), (mBin opMod (mCall (Ph 25) [(mVar 0)]) (mC (.int 65)))]) (mBin opMod (mCall (Ph 25) [(mVar 0)]) (mC (.int 3)))) [some (.ref 0), e1, e2, e3] [.lst (ds.map .int)] = .ok (.int a) [.lst (ds'.map .int)] := by
  obtain ⟨x, ds1, x0, x1, h1, f1⟩ := next_at hn (tl := []) hd
  obtain ⟨y, ds2, y0, y1, h2, f2⟩ := next_at hn (tl := []) h1
  obtain ⟨a, ha, f3⟩ := pick3 (a := 0) (b := 64) (c := x % 65) (i := y % 3) (st := [.lst (ds2.map .int)]) (by omega) (by omega)
  have s3 : (3 : Nat) ≤ sizeLine := sizeLine_ge (by omega)
  refine ⟨a, ds2, by omega, by omega, h2, ?_⟩
  simp only [mBin_app, mLst_app, mArgs_cons, mArgs_nil, mC_app, mCall_app, bind_ok, mVar_app, List.getElem?_cons_zero, f1, f2, opMod_ii, Int.reduceLT, if_true, List.length_cons, List.length_nil, Nat.zero_add, Nat.reduceAdd, if_pos s3]
  exact f3
theorem good_ret {Ph : Nat → List D → Sto → R D} {ps qs ls : List D} {a : Int} {st st' : Sto} (hf : Ph 28 [.ref 0] st = .ok (.tup ls) st') :
    (mLst [(mTup [(mC (.str wFolder)), (mVar 1)]), (mTup [(mC (.str wFile)), (mVar 1)]), (mTup [(mC (.str wPut)), (mVar 1), (mVar 3), (mCall (Ph 28) [(mVar 0)])]), (mTup [(mC (.str wTrim)), (mVar 1), (mVar 3)]), (mTup [(mC (.str wOut)), (mVar 1)]), (mTup [(mC (.str wMove)), (mVar 1), (mVar 2)]), (mTup [(mC (.str wCopy)), (mVar 1), (mVar 1)])]) [some (.ref 0), some (.tup ps), some (.tup qs), some (.int a)] st
      = .ok (.lst [D.tup [.str wFolder, .tup ps], .tup [.str wFile, .tup ps], .tup [.str wPut, .tup ps, .int a, .tup ls], .tup [.str wTrim, .tup ps, .int a], .tup [.str wOut, .tup ps], .tup [.str wMove, .tup ps, .tup qs], .tup [.str wCopy, .tup ps, .tup ps]]) st' := by
  have s2 : (2 : Nat) ≤ sizeLine := sizeLine_ge (by omega)
  have s3 : (3 : Nat) ≤ sizeLine := sizeLine_ge (by omega)
  have s4 : (4 : Nat) ≤ sizeLine := sizeLine_ge (by omega)
  have s7 : (7 : Nat) ≤ sizeLine := sizeLine_ge (by omega)
  simp only [mLst_app, mTup_app, mArgs_cons, mArgs_nil, mC_app, mCall_app, bind_ok, mVar_app, List.getElem?_cons_zero, List.getElem?_cons_succ, hf, List.length_cons, List.length_nil, Nat.zero_add, Nat.reduceAdd, if_pos s2, if_pos s3, if_pos s4, if_pos s7]
def PathsOk (f : List D → Sto → R D) : Prop := ∀ ds : List Int, InD ds → ∃ ps ds', PathD ps ∧ InD ds' ∧ f [.ref 0] [.lst (ds.map .int)] = .ok (.tup ps) [.lst (ds'.map .int)]
def LeavesOk (f : List D → Sto → R D) : Prop := ∀ ds : List Int, InD ds → ∃ ls ds', ls.all byteB = true ∧ ls.length ≤ 8 ∧ InD ds' ∧ f [.ref 0] [.lst (ds.map .int)] = .ok (.tup ls) [.lst (ds'.map .int)]
theorem good_ok {Ph : Nat → List D → Sto → R D} (hn : NextOk (Ph 25)) (hp : PathsOk (Ph 27)) (hf : LeavesOk (Ph 28)) {ds : List Int} (hd : InD ds) :
    ∃ gs ds', (∀ g ∈ gs, ok2 g ∧ deedB g = true) ∧ gs.length ≤ 100 ∧ InD ds' ∧ runDef d__law_good Ph [.ref 0] [.lst (ds.map .int)] = .ok (.lst gs) [.lst (ds'.map .int)] := by
  obtain ⟨ps, ds1, p1, h1, f1⟩ := hp ds hd
  obtain ⟨qs, ds2, p2, h2, f2⟩ := hp ds1 h1
  obtain ⟨a, ds3, a0, a1, h3, f3⟩ := good_at hn h2 (e1 := some (.tup ps)) (e2 := some (.tup qs)) (e3 := none)
  obtain ⟨ls, ds4, l1, l2, h4, f4⟩ := hf ds3 h3
  refine ⟨_, ds4, good_list p1 p2 l1 l2 a0 a1, by simp, h4, runDef_rt rfl ?_ rfl⟩
  exact run4 (env := [some (.ref 0), none, none, none]) (call1 rfl f1) (call1 rfl f2) f3 (good_ret f4)
end LK09
namespace LK09
open PySem MI L2 PySem.Spec PyProof.Rows MX
def Bad (xs : List D) : Prop := ∀ x ∈ xs, ok2 x ∧ deedB x = false
theorem Bad.app {xs ys : List D} (h : Bad xs) (h2 : Bad ys) : Bad (xs ++ ys) := fun x hx => by
  rcases List.mem_append.mp hx with hx | hx
  · exact h x hx
  · exact h2 x hx
theorem Bad.nil : Bad [] := fun _ h => absurd h (by simp)
theorem Bad.cons {x : D} {xs : List D} (h : ok2 x) (hb : deedB x = false) (t : Bad xs) : Bad (x :: xs) := fun y hy => by
  rcases List.mem_cons.mp hy with rfl | hy
  · exact ⟨h, hb⟩
  · exact t y hy
theorem ok2_cons1 {a : D} (h : ok1 a) : ok2 (.tup [a]) := ok2_tup (by intro x hx; simp only [List.mem_cons, List.not_mem_nil, or_false] at hx; subst hx; exact h) (by simp)
theorem ok2_2 {a b : D} (h : ok1 a) (h2 : ok1 b) : ok2 (.tup [a, b]) := ok2_tup (by intro x hx; simp only [List.mem_cons, List.not_mem_nil, or_false] at hx; rcases hx with rfl | rfl <;> assumption) (by simp)
theorem ok2_3 {a b c : D} (h : ok1 a) (h2 : ok1 b) (h3 : ok1 c) : ok2 (.tup [a, b, c]) := ok2_tup (by intro x hx; simp only [List.mem_cons, List.not_mem_nil, or_false] at hx; rcases hx with rfl | rfl | rfl <;> assumption) (by simp)
theorem ok2_4 {a b c d : D} (h : ok1 a) (h2 : ok1 b) (h3 : ok1 c) (h4 : ok1 d) : ok2 (.tup [a, b, c, d]) := ok2_tup (by intro x hx; simp only [List.mem_cons, List.not_mem_nil, or_false] at hx; rcases hx with rfl | rfl | rfl | rfl <;> assumption) (by simp)
theorem ok2_5 {a b c d e : D} (h : ok1 a) (h2 : ok1 b) (h3 : ok1 c) (h4 : ok1 d) (h5 : ok1 e) : ok2 (.tup [a, b, c, d, e]) := ok2_tup (by intro x hx; simp only [List.mem_cons, List.not_mem_nil, or_false] at hx; rcases hx with rfl | rfl | rfl | rfl | rfl <;> assumption) (by simp)
theorem ok1_flat {d : D} (h : d.pl = true) (hs : d.isS = false) (ht : d.isT = false) : ok1 d := ⟨⟨h, fun s e => by subst e; cases hs⟩, fun ds e => by subst e; cases ht⟩
theorem ok2_flat {d : D} (h : d.pl = true) (ht : d.isT = false) : ok2 d := ⟨h, fun ds e => by subst e; cases ht⟩
/-! a put that is none -/
theorem put_no {ps : List D} {c l : D} (h : (countB c && leafB l) = false) : deedB (.tup [.str wPut, .tup ps, c, l]) = false := by
  have z : sizeOf wPut = some 4 := rfl
  simp only [deedB, z]
  rw [if_pos trivial, h]
  simp
theorem trim_no {ps : List D} {c : D} (h : countB c = false) : deedB (.tup [.str wTrim, .tup ps, c]) = false := by
  have z : sizeOf wTrim = some 3 := rfl
  simp only [deedB, z]
  rw [if_neg (by decide), if_pos trivial, h]
  simp
theorem move_no {p o : D} (h : (wayB p && wayB o) = false) : deedB (.tup [.str wMove, p, o]) = false := by
  have z : sizeOf wMove = some 3 := rfl
  simp only [deedB, z]
  rw [if_neg (by decide), if_neg (by decide), if_pos (.inl trivial)]
  cases e : wayB p <;> simp [e] at h ⊢ <;> simp [h]
theorem copy_no {p o : D} (h : (wayB p && wayB o) = false) : deedB (.tup [.str wCopy, p, o]) = false := by
  have z : sizeOf wCopy = some 3 := rfl
  simp only [deedB, z]
  rw [if_neg (by decide), if_neg (by decide), if_pos (.inr trivial)]
  cases e : wayB p <;> simp [e] at h ⊢ <;> simp [h]
theorem len_no {w : Str} {n : Nat} {rest : List D} (h : sizeOf w = some n) (hl : ¬ rest.length + 1 = n) : deedB (.tup (.str w :: rest)) = false := by
  simp only [deedB, h, hl, decide_false, Bool.false_and]
theorem way_no {w : Str} {p : D} {r : List D} (h : wayB p = false) : deedB (.tup (.str w :: p :: r)) = false := by
  cases e : sizeOf w with
  | none => simp only [deedB, e]
  | some n => simp only [deedB, e, h, Bool.false_and, Bool.and_false]
theorem bad1 {ps ls : List D} (hp : PathD ps) (hl : ls.all byteB = true) (hl8 : ls.length ≤ 8) : Bad [D.tup [.str wPut, .tup ps, .int 65, .tup ls], .tup [.str wPut, .tup ps, .int (-1), .tup ls], .tup [.str wPut, .tup ps, .bl true, .tup ls], .tup [.str wPut, .tup ps, .str ⟨#[48]⟩, .tup ls], .tup [.str wPut, .tup ps, .int 0, .lst ls], .tup [.str wPut, .tup ps, .int 0, .tup [.int 256]], .tup [.str wPut, .tup ps, .int 0, .tup [.int 1, .int 1, .int 1, .int 1, .int 1, .int 1, .int 1, .int 1, .int 1]], .tup [.str wPut, .tup ps, .int 0], .tup [.str wPut, .tup ps, .int 0, .tup ls, .tup ls], .tup [.str wTrim, .tup ps, .int 65], .tup [.str wTrim, .tup ps, .int (-1)], .tup [.str wTrim, .tup ps, .bl false], .tup [.str wTrim, .tup ps], .tup [.str wTrim, .tup ps, .non], .tup [.str wMove, .tup ps], .tup [.str wMove, .tup ps, .tup []], .tup [.str wCopy, .tup ps, .lst ps], .tup [.str wCopy, .tup ps, .tup ps, .tup ps]] := by
  have o := hp.ok1
  have ol := leaf_ok1 hl hl8
  have wP : ok1 (.str wPut) := wOk (by simp)
  have wT : ok1 (.str wTrim) := wOk (by simp)
  have wM : ok1 (.str wMove) := wOk (by simp)
  have wC : ok1 (.str wCopy) := wOk (by simp)
  have z3 : sizeOf wPut = some 4 := rfl
  have z4 : sizeOf wTrim = some 3 := rfl
  have z6 : sizeOf wMove = some 3 := rfl
  have z7 : sizeOf wCopy = some 3 := rfl
  have o0 : OkS ⟨#[48]⟩ := ⟨okS_iff.mpr (by decide), by decide⟩
  have i1 : ∀ i : Int, ok1 (.tup [.int i]) := fun i => ⟨⟨rfl, fun s e => by cases e⟩, fun ds e => by cases e; exact ⟨by intro x hx; simp at hx; subst hx; exact ok1_int.1, by simp⟩⟩
  have i9 : ok1 (.tup [.int 1, .int 1, .int 1, .int 1, .int 1, .int 1, .int 1, .int 1, .int 1]) := ⟨⟨rfl, fun s e => by cases e⟩, fun ds e => by cases e; exact ⟨by intro x hx; simp at hx; subst hx; exact ok1_int.1, by simp⟩⟩
  have t0 : ok1 (.tup []) := ⟨⟨rfl, fun s e => by cases e⟩, fun ds e => by cases e; exact ⟨by simp, by simp⟩⟩
  refine .cons (ok2_4 wP o ok1_int ol) (put_no rfl) ?_
  refine .cons (ok2_4 wP o ok1_int ol) (put_no rfl) ?_
  refine .cons (ok2_4 wP o (ok1_flat rfl rfl rfl) ol) (put_no rfl) ?_
  refine .cons (ok2_4 wP o (ok1_str o0) ol) (put_no rfl) ?_
  refine .cons (ok2_4 wP o ok1_int (ok1_flat rfl rfl rfl)) (put_no rfl) ?_
  refine .cons (ok2_4 wP o ok1_int (i1 _)) (put_no rfl) ?_
  refine .cons (ok2_4 wP o ok1_int i9) (put_no rfl) ?_
  refine .cons (ok2_3 wP o ok1_int) (len_no z3 (by simp)) ?_
  refine .cons (ok2_5 wP o ok1_int ol ol) (len_no z3 (by simp)) ?_
  refine .cons (ok2_3 wT o ok1_int) (trim_no rfl) ?_
  refine .cons (ok2_3 wT o ok1_int) (trim_no rfl) ?_
  refine .cons (ok2_3 wT o (ok1_flat rfl rfl rfl)) (trim_no rfl) ?_
  refine .cons (ok2_2 wT o) (len_no z4 (by simp)) ?_
  refine .cons (ok2_3 wT o (ok1_flat rfl rfl rfl)) (trim_no rfl) ?_
  refine .cons (ok2_2 wM o) (len_no z6 (by simp)) ?_
  refine .cons (ok2_3 wM o t0) (move_no (by rw [show wayB (.tup []) = false from rfl, Bool.and_false])) ?_
  refine .cons (ok2_3 wC o (ok1_flat rfl rfl rfl)) (copy_no (by rw [show wayB (.lst ps) = false from rfl, Bool.and_false])) ?_
  exact .cons (ok2_4 wC o o o) (len_no z7 (by simp)) .nil
/-- no way -/
def NoWay (d : D) : Prop := ok1 d ∧ wayB d = false
theorem bad2 {ps : List D} {w : Str} {p0 sv pA pE : D} (hp : PathD ps) (hw : ok1 (.str w)) (hz : sizeOf w = some 2) (h0 : NoWay p0) (h7 : NoWay sv) (hA : NoWay pA) (hE : NoWay pE) :
    Bad [D.tup [.str w], .tup [.str w, .tup []], .tup [.str w, .lst ps], .tup [.str w, .tup ps, .tup ps], .lst [.str w, .tup ps], .tup [.str w, p0], .tup [.str w, sv], .tup [.str w, pA], .tup [.str w, pE], .tup [.str w, .non]] := by
  have o := hp.ok1
  have t0 : ok1 (.tup []) := ⟨⟨rfl, fun s e => by cases e⟩, fun ds e => by cases e; exact ⟨by simp, by simp⟩⟩
  refine .cons (ok2_cons1 hw) (len_no hz (by simp)) ?_
  refine .cons (ok2_2 hw t0) (way_no rfl) ?_
  refine .cons (ok2_2 hw (ok1_flat rfl rfl rfl)) (way_no rfl) ?_
  refine .cons (ok2_3 hw o o) (len_no hz (by simp)) ?_
  refine .cons (ok2_flat rfl rfl) rfl ?_
  refine .cons (ok2_2 hw h0.1) (way_no h0.2) ?_
  refine .cons (ok2_2 hw h7.1) (way_no h7.2) ?_
  refine .cons (ok2_2 hw hA.1) (way_no hA.2) ?_
  refine .cons (ok2_2 hw hE.1) (way_no hE.2) ?_
  exact .cons (ok2_2 hw (ok1_flat rfl rfl rfl)) (way_no rfl) .nil
theorem bad3 {ps ls : List D} {o : D} (hp : PathD ps) (hl : ls.all byteB = true) (hl8 : ls.length ≤ 8) (h : NoWay o) :
    Bad [D.tup [.str wPut, o, .int 0, .tup ls], .tup [.str wTrim, o, .int 0], .tup [.str wMove, o, .tup ps], .tup [.str wCopy, o, .tup ps]] ∧ Bad [D.tup [.str wMove, .tup ps, o], .tup [.str wCopy, .tup ps, o]] := by
  have op := hp.ok1
  have ol := leaf_ok1 hl hl8
  have wP : ok1 (.str wPut) := wOk (by simp)
  have wT : ok1 (.str wTrim) := wOk (by simp)
  have wM : ok1 (.str wMove) := wOk (by simp)
  have wC : ok1 (.str wCopy) := wOk (by simp)
  constructor
  · refine .cons (ok2_4 wP h.1 ok1_int ol) (way_no h.2) ?_
    refine .cons (ok2_3 wT h.1 ok1_int) (way_no h.2) ?_
    refine .cons (ok2_3 wM h.1 op) (way_no h.2) ?_
    exact .cons (ok2_3 wC h.1 op) (way_no h.2) .nil
  · refine .cons (ok2_3 wM op h.1) (move_no (by rw [h.2, Bool.and_false])) ?_
    exact .cons (ok2_3 wC op h.1) (copy_no (by rw [h.2, Bool.and_false])) .nil
theorem strK {w : Str} {r : List D} (h : sizeOf w = none) : deedB (.tup (.str w :: r)) = false := by simp only [deedB, h]
theorem bad4 {ps : List D} (hp : PathD ps) : Bad [D.tup [.lst [], .tup ps], .tup [.dic [], .tup ps], .tup [.tup [.str wOut], .tup ps], .tup [.str wOut, .lst [.tup ps]], .tup [.str wOut, .tup [.lst []]]] := by
  have o := hp.ok1
  have wO : ok1 (.str wOut) := wOk (by simp)
  have t1 : ok1 (.tup [.str wOut]) := ⟨⟨rfl, fun s e => by cases e⟩, fun ds e => by cases e; exact ⟨by intro x hx; simp at hx; subst hx; exact wO.1, by simp⟩⟩
  have t2 : ok1 (.tup [.lst []]) := ⟨⟨rfl, fun s e => by cases e⟩, fun ds e => by cases e; exact ⟨by intro x hx; simp at hx; subst hx; exact ⟨rfl, fun s e => by cases e⟩, by simp⟩⟩
  refine .cons (ok2_2 (ok1_flat rfl rfl rfl) o) rfl ?_
  refine .cons (ok2_2 (ok1_flat rfl rfl rfl) o) rfl ?_
  refine .cons (ok2_2 t1 o) rfl ?_
  refine .cons (ok2_2 wO (ok1_flat rfl rfl rfl)) (way_no rfl) ?_
  exact .cons (ok2_2 wO t2) (way_no rfl) .nil
theorem one_no {w : Str} : deedB (.tup [.str w]) = false := by
  cases e : sizeOf w with
  | none => simp only [deedB, e]
  | some n => simp only [deedB, e, Bool.and_false]
theorem names_no {ps : List D} (hp : PathD ps) : deedB (.tup ps) = false := by
  match ps, hp with
  | [], hp => exact absurd hp.lo (by simp)
  | [a], hp =>
    have := hp.nm a (by simp)
    cases a with
    | str s => exact one_no
    | _ => cases this
  | a :: b :: r, hp =>
    have h1 := hp.nm a (by simp)
    have h2 := hp.nm b (by simp)
    cases a with
    | str s =>
      cases b with
      | str t => exact way_no rfl
      | _ => cases h2
    | _ => cases h1
theorem bad5 {ps : List D} (hp : PathD ps) : Bad [D.tup [.str ⟨#[112, 97, 105, 110, 116]⟩, .tup ps], .tup [.int 5, .tup ps], .tup [.non], .tup [], .non, .bl true, .int 7, .str wOut, .tup [.str ⟨#[111, 117, 116, 32, 97]⟩], .tup ps, .dic [], .lst []] := by
  have o := hp.ok1
  have f : ∀ s : Str, (∀ c ∈ s.cps.toList, c < 0x110000) → s.length ≤ 1000 → ok1 (.str s) := fun s h1 h2 => ok1_str ⟨okS_iff.mpr h1, h2⟩
  refine .cons (ok2_2 (f _ (by decide) (by decide)) o) (strK rfl) ?_
  refine .cons (ok2_2 ok1_int o) rfl ?_
  refine .cons (ok2_cons1 (ok1_flat rfl rfl rfl)) rfl ?_
  refine .cons (ok2_tup (by simp) (by simp)) rfl ?_
  refine .cons (ok2_flat rfl rfl) rfl ?_
  refine .cons (ok2_flat rfl rfl) rfl ?_
  refine .cons (ok2_flat rfl rfl) rfl ?_
  refine .cons (ok2_flat rfl rfl) rfl ?_
  refine .cons (ok2_cons1 (f _ (by decide) (by decide))) one_no ?_
  refine .cons (ok2_tup (fun x hx => ⟨hp.nm.ok0 x hx, fun ds e => by
    have := hp.nm x hx
    subst e
    cases this⟩) (by have := hp.hi; omega)) (names_no hp) ?_
  refine .cons (ok2_flat rfl rfl) rfl ?_
  exact .cons (ok2_flat rfl rfl) rfl .nil
end LK09
namespace LK09
open PySem MI L2 PySem.Spec PyProof.Rows MX
/-! the seven bad ways -/
theorem cutL_mem {α : Type} {xs : List α} {lo hi : Option Int} {x : α} (h : x ∈ cutL xs lo hi) : x ∈ xs := List.mem_of_mem_drop (List.mem_of_mem_take h)
theorem cutL_len {α : Type} (xs : List α) (lo hi : Option Int) : (cutL xs lo hi).length ≤ xs.length := by
  unfold cutL
  rw [List.length_take, List.length_drop]
  omega
theorem noWay_nil : NoWay (.tup []) := ⟨⟨⟨rfl, fun s e => by cases e⟩, fun ds e => by cases e; exact ⟨by simp, by simp⟩⟩, rfl⟩
theorem noWay_lst {ps : List D} : NoWay (.lst ps) := ⟨ok1_flat rfl rfl rfl, rfl⟩
theorem noWay_non : NoWay .non := ⟨ok1_flat rfl rfl rfl, rfl⟩
theorem noWay_first {ps : List D} {x : D} (hp : PathD ps) (hx : x ∈ ps) : NoWay x := by
  have h0 := hp.nm.ok0 x hx
  have := hp.nm x hx
  cases x with
  | str s => exact ⟨⟨h0, fun ds e => by cases e⟩, rfl⟩
  | _ => cases this
theorem noWay_end {cs : List D} {s : Str} (hc : ∀ x ∈ cs, ok0 x) (hl : cs.length ≤ 100) (hs : OkS s) (hn : nameS s = false) : NoWay (.tup (cs ++ [.str s])) := by
  refine ⟨⟨⟨rfl, fun t e => by cases e⟩, fun ds e => by
    cases e
    refine ⟨fun x hx => ?_, by simp; omega⟩
    rcases List.mem_append.mp hx with hx | hx
    · exact hc x hx
    · simp at hx; subst hx; exact ⟨rfl, fun t e => by cases e; exact hs⟩⟩, ?_⟩
  have hn' : nameB (.str s) = false := hn
  simp [wayB, pathB, List.all_append, hn']
theorem noWay_seven {sv : List D} (hc : ∀ x ∈ sv, ok0 x) (h7 : sv.length = 7) : NoWay (.tup sv) := by
  refine ⟨⟨⟨rfl, fun t e => by cases e⟩, fun ds e => by cases e; exact ⟨hc, by omega⟩⟩, ?_⟩
  have : ¬ sv.length ≤ 6 := by omega
  simp [wayB, pathB, this]
/-! the expressions of the ways, at an environment whose slot 1 is the path -/
theorem seven_len {ps : List D} (h1 : 1 ≤ ps.length) : (cutL (List.replicate 7 ps).flatten none (some 7)).length = 7 := by
  unfold cutL
  have e : HT.sIx (List.replicate 7 ps).flatten.length (List.replicate 7 ps).flatten.length (some (7 : Int)) = min 7 (List.replicate 7 ps).flatten.length := HT.sIx_nat _ _ 7
  rw [e, HT.sIx_none, List.drop_zero, List.length_take]
  simp
  omega
theorem seven_mem {ps : List D} {x : D} (h : x ∈ cutL (List.replicate 7 ps).flatten none (some 7)) : x ∈ ps := by
  have := cutL_mem h
  simp at this
  exact this
theorem seven_run {ps : List D} {e0 e2 e3 e4 e5 : Option D} {st : Sto} (hp : PathD ps) : (mSl (mBin opMul (mVar 1) (mC (.int 7))) none (some (mC (.int 7)))) [e0, some (.tup ps), e2, e3, e4, e5] st = .ok (.tup (cutL (List.replicate 7 ps).flatten none (some 7))) st := by
  have h1 := hp.lo
  have h2 := hp.hi
  have hne : ps ≠ [] := by intro e; subst e; simp at h1
  have hm : opMul (.tup ps) (.int 7) st = .ok (.tup (List.replicate 7 ps).flatten) st := by
    show (if ps ≠ [] ∧ (2 : Int) ≤ 7 ∧ (7 : Int) ≤ 1000 ∧ ps.length ≤ 1000 then R.ok (D.tup (List.replicate (7 : Int).toNat ps).flatten) st else .stuck) = _
    rw [if_pos ⟨hne, by decide, by decide, by omega⟩]
    rfl
  simp only [mSl_app, mBin_app, mVar_app, mC_app, bind_ok, List.getElem?_cons_succ, List.getElem?_cons_zero, hm, mOpt_none, mOpt_some]
  rfl
theorem end_run {ps : List D} {s : Str} {e0 e2 e3 e4 e5 : Option D} {st : Sto} (hp : PathD ps) : (mBin opAdd (mSl (mVar 1) none (some (mC (.int 5)))) (mTup [(mC (.str s))])) [e0, some (.tup ps), e2, e3, e4, e5] st = .ok (.tup (cutL ps none (some 5) ++ [.str s])) st := by
  have h2 := hp.hi
  have hl := cutL_len ps none (some 5)
  have s1 : (1 : Nat) ≤ sizeLine := sizeLine_ge (by omega)
  have s2 : (cutL ps none (some 5)).length + 1 ≤ sizeLine := sizeLine_ge (by omega)
  have ho : opSl (.tup ps) none (some 5) st = .ok (.tup (cutL ps none (some 5))) st := rfl
  simp only [mBin_app, mSl_app, mVar_app, mC_app, mTup_app, mArgs_cons, mArgs_nil, bind_ok, List.getElem?_cons_succ, List.getElem?_cons_zero, mOpt_none, mOpt_some, ho, List.length_cons, List.length_nil, Nat.zero_add, if_pos s1, opAdd_tt, if_pos s2]
theorem first_run {a : D} {r : List D} {e0 e2 e3 e4 e5 : Option D} {st : Sto} : (mBin opIx (mVar 1) (mC (.int 0))) [e0, some (.tup (a :: r)), e2, e3, e4, e5] st = .ok a st := by
  simp only [mBin_app, mVar_app, mC_app, bind_ok, List.getElem?_cons_succ, List.getElem?_cons_zero, ix0]
end LK09
namespace LK09
open PySem MI L2 PySem.Spec PyProof.Rows MX
def BEnv (ps ls : List D) (n : Nat) (env : DEnv) : Prop := ∃ xs a b, env = [some (.ref 0), some (.tup ps), some (.tup ls), some (.lst xs), a, b] ∧ Bad xs ∧ xs.length ≤ n
theorem add_lst {xs ys : List D} {st : Sto} (h : xs.length + ys.length ≤ 10000) : opAdd (.lst xs) (.lst ys) st = .ok (.lst (xs ++ ys)) st := by
  have : xs.length + ys.length ≤ sizeLine := sizeLine_ge (by omega)
  rw [opAdd_ll, if_pos this]
theorem asg_add {M : ME} {ps ls xs ys : List D} {a b : Option D} {st : Sto} (hx : Bad xs) (hy : Bad ys) (hl : xs.length + ys.length ≤ 10000) (h : M [some (.ref 0), some (.tup ps), some (.tup ls), some (.lst xs), a, b] st = .ok (.lst ys) st) :
    sAsg (mBin opAdd (mVar 3) M) (gVar 3) [some (.ref 0), some (.tup ps), some (.tup ls), some (.lst xs), a, b] st = .nx [some (.ref 0), some (.tup ps), some (.tup ls), some (.lst (xs ++ ys)), a, b] st := by
  have ha := add_lst (st := st) hl
  simp only [sAsg_app, mBin_app, mVar_app, List.getElem?_cons_succ, List.getElem?_cons_zero, bind_ok, h, ha, gVar_app, List.set_cons_succ, List.set_cons_zero]
theorem row2_run {a : D} {r ls xs : List D} {w : Str} {b : Option D} {st : Sto} (hp : PathD (a :: r)) :
    (mLst [(mTup [(mVar 4)]), (mTup [(mVar 4), (mTup [])]), (mTup [(mVar 4), (mCall bList [(mVar 1)])]), (mTup [(mVar 4), (mVar 1), (mVar 1)]), (mLst [(mVar 4), (mVar 1)]), (mTup [(mVar 4), (mBin opIx (mVar 1) (mC (.int 0)))]), (mTup [(mVar 4), (mSl (mBin opMul (mVar 1) (mC (.int 7))) none (some (mC (.int 7))))]), (mTup [(mVar 4), (mBin opAdd (mSl (mVar 1) none (some (mC (.int 5)))) (mTup [(mC (.str (⟨#[65]⟩ : Str)))]))]), (mTup [(mVar 4), (mBin opAdd (mSl (mVar 1) none (some (mC (.int 5)))) (mTup [(mC (.str (⟨#[]⟩ : Str)))]))]), (mTup [(mVar 4), (mC (.non))])])
      [some (.ref 0), some (.tup (a :: r)), some (.tup ls), some (.lst xs), some (.str w), b] st
    = .ok (.lst [D.tup [.str w], .tup [.str w, .tup []], .tup [.str w, .lst (a :: r)], .tup [.str w, .tup (a :: r), .tup (a :: r)], .lst [.str w, .tup (a :: r)], .tup [.str w, a], .tup [.str w, .tup (cutL (List.replicate 7 (a :: r)).flatten none (some 7))], .tup [.str w, .tup (cutL (a :: r) none (some 5) ++ [.str ⟨#[65]⟩])], .tup [.str w, .tup (cutL (a :: r) none (some 5) ++ [.str ⟨#[]⟩])], .tup [.str w, .non]]) st := by
  have f0 := first_run (a := a) (r := r) (e0 := some (.ref 0)) (e2 := some (.tup ls)) (e3 := some (.lst xs)) (e4 := some (.str w)) (e5 := b) (st := st)
  have f7 := seven_run (e0 := some (.ref 0)) (e2 := some (.tup ls)) (e3 := some (.lst xs)) (e4 := some (.str w)) (e5 := b) (st := st) hp
  have fA := fun s => end_run (s := s) (e0 := some (.ref 0)) (e2 := some (.tup ls)) (e3 := some (.lst xs)) (e4 := some (.str w)) (e5 := b) (st := st) hp
  have fAA := fA ⟨#[65]⟩
  have fAE := fA ⟨#[]⟩
  generalize (mBin opIx (mVar 1) (mC (.int 0))) = M0 at f0 ⊢
  generalize (mSl (mBin opMul (mVar 1) (mC (.int 7))) none (some (mC (.int 7)))) = M7 at f7 ⊢
  generalize (mBin opAdd (mSl (mVar 1) none (some (mC (.int 5)))) (mTup [(mC (.str (⟨#[65]⟩ : Str)))])) = MA at fAA ⊢
  generalize (mBin opAdd (mSl (mVar 1) none (some (mC (.int 5)))) (mTup [(mC (.str (⟨#[]⟩ : Str)))])) = ME at fAE ⊢
  have s0 : (0 : Nat) ≤ sizeLine := sizeLine_ge (by omega)
  have s1 : (1 : Nat) ≤ sizeLine := sizeLine_ge (by omega)
  have s2 : (2 : Nat) ≤ sizeLine := sizeLine_ge (by omega)
  have s3 : (3 : Nat) ≤ sizeLine := sizeLine_ge (by omega)
  have s10 : (10 : Nat) ≤ sizeLine := sizeLine_ge (by omega)
  have hb : bList [.tup (a :: r)] st = .ok (.lst (a :: r)) st := rfl
  simp only [mLst_app, mTup_app, mArgs_cons, mArgs_nil, mC_app, mCall_app, bind_ok, mVar_app, List.getElem?_cons_zero, List.getElem?_cons_succ, hb, f0, f7, fAA, fAE, List.length_cons, List.length_nil, Nat.zero_add, Nat.reduceAdd, if_pos s0, if_pos s1, if_pos s2, if_pos s3, if_pos s10]
theorem row3a_run {ps ls xs : List D} {o : D} {c : Option D} {st : Sto} :
    (mLst [(mTup [(mC (.str wPut)), (mVar 5), (mC (.int 0)), (mVar 2)]), (mTup [(mC (.str wTrim)), (mVar 5), (mC (.int 0))]), (mTup [(mC (.str wMove)), (mVar 5), (mVar 1)]), (mTup [(mC (.str wCopy)), (mVar 5), (mVar 1)])]) [some (.ref 0), some (.tup ps), some (.tup ls), some (.lst xs), c, some o] st
    = .ok (.lst [D.tup [.str wPut, o, .int 0, .tup ls], .tup [.str wTrim, o, .int 0], .tup [.str wMove, o, .tup ps], .tup [.str wCopy, o, .tup ps]]) st := by
  have s3 : (3 : Nat) ≤ sizeLine := sizeLine_ge (by omega)
  have s4 : (4 : Nat) ≤ sizeLine := sizeLine_ge (by omega)
  simp only [mLst_app, mTup_app, mArgs_cons, mArgs_nil, mC_app, bind_ok, mVar_app, List.getElem?_cons_zero, List.getElem?_cons_succ, List.length_cons, List.length_nil, Nat.zero_add, Nat.reduceAdd, if_pos s3, if_pos s4]
theorem row3b_run {ps ls xs : List D} {o : D} {c : Option D} {st : Sto} :
    (mLst [(mTup [(mC (.str wMove)), (mVar 1), (mVar 5)]), (mTup [(mC (.str wCopy)), (mVar 1), (mVar 5)])]) [some (.ref 0), some (.tup ps), some (.tup ls), some (.lst xs), c, some o] st
    = .ok (.lst [D.tup [.str wMove, .tup ps, o], .tup [.str wCopy, .tup ps, o]]) st := by
  have s3 : (3 : Nat) ≤ sizeLine := sizeLine_ge (by omega)
  have s2 : (2 : Nat) ≤ sizeLine := sizeLine_ge (by omega)
  simp only [mLst_app, mTup_app, mArgs_cons, mArgs_nil, mC_app, bind_ok, mVar_app, List.getElem?_cons_zero, List.getElem?_cons_succ, List.length_cons, List.length_nil, Nat.zero_add, Nat.reduceAdd, if_pos s2, if_pos s3]
noncomputable def lb1 : MS := (sSeq (sAsg (mBin opAdd (mVar 3) (mLst [(mTup [(mVar 4)]), (mTup [(mVar 4), (mTup [])]), (mTup [(mVar 4), (mCall bList [(mVar 1)])]), (mTup [(mVar 4), (mVar 1), (mVar 1)]), (mLst [(mVar 4), (mVar 1)]), (mTup [(mVar 4), (mBin opIx (mVar 1) (mC (.int 0)))]), (mTup [(mVar 4), (mSl (mBin opMul (mVar 1) (mC (.int 7))) none (some (mC (.int 7))))]), (mTup [(mVar 4), (mBin opAdd (mSl (mVar 1) none (some (mC (.int 5)))) (mTup [(mC (.str (⟨#[65]⟩ : Str)))]))]), (mTup [(mVar 4), (mBin opAdd (mSl (mVar 1) none (some (mC (.int 5)))) (mTup [(mC (.str (⟨#[]⟩ : Str)))]))]), (mTup [(mVar 4), (mC (.non))])])) (gVar 3)) sSkip)
noncomputable def lb2 : MS := (sSeq (sAsg (mBin opAdd (mVar 3) (mLst [(mTup [(mC (.str wPut)), (mVar 5), (mC (.int 0)), (mVar 2)]), (mTup [(mC (.str wTrim)), (mVar 5), (mC (.int 0))]), (mTup [(mC (.str wMove)), (mVar 5), (mVar 1)]), (mTup [(mC (.str wCopy)), (mVar 5), (mVar 1)])])) (gVar 3))
  (sSeq (sAsg (mBin opAdd (mVar 3) (mLst [(mTup [(mC (.str wMove)), (mVar 1), (mVar 5)]), (mTup [(mC (.str wCopy)), (mVar 1), (mVar 5)])])) (gVar 3)) sSkip))
theorem okA : OkS ⟨#[65]⟩ := ⟨okS_iff.mpr (by decide), by decide⟩
theorem ways {a : D} {r : List D} (hp : PathD (a :: r)) : NoWay a ∧ NoWay (.tup (cutL (List.replicate 7 (a :: r)).flatten none (some 7))) ∧ NoWay (.tup (cutL (a :: r) none (some 5) ++ [.str ⟨#[65]⟩])) ∧ NoWay (.tup (cutL (a :: r) none (some 5) ++ [.str ⟨#[]⟩])) := by
  have hl := cutL_len (a :: r) none (some 5)
  have h6 := hp.hi
  exact ⟨noWay_first hp (by simp), noWay_seven (fun x hx => hp.nm.ok0 x (seven_mem hx)) (seven_len hp.lo), noWay_end (fun x hx => hp.nm.ok0 x (cutL_mem hx)) (by omega) okA (by decide), noWay_end (fun x hx => hp.nm.ok0 x (cutL_mem hx)) (by omega) em_ok (by decide)⟩
theorem loop1 {a : D} {r ls : List D} {st : Sto} {ws zs : List D} (hp : PathD (a :: r)) (hw : ∀ d ∈ ws, ∃ w, d = .str w ∧ ok1 (.str w) ∧ sizeOf w = some 2) (hl : ws.length ≤ 10) {env : DEnv} (h : BEnv (a :: r) ls 100 env) :
    ∃ e2, forGo (.vals zs) (gVar 4) lb1 ws env st = .nx e2 st ∧ BEnv (a :: r) ls 200 e2 := by
  obtain ⟨w0, w7, wA, wE⟩ := ways hp
  have hb := forGo_ind (g := gVar 4) (b := lb1) (xs := zs) (fun i env s => s = st ∧ BEnv (a :: r) ls (100 + 10 * i) env) ws (fun i d env s hd hI => by
    obtain ⟨rfl, xs, c, b, rfl, hx, hn⟩ := hI
    have hlt := (List.getElem?_eq_some_iff.mp hd).1
    obtain ⟨w, rfl, ow, hz⟩ := hw d (List.mem_of_getElem? hd)
    have hB := bad2 hp ow hz w0 w7 wA wE
    refine ⟨_, rfl, _, _, ?_, rfl, xs ++ _, some (.str w), b, rfl, hx.app hB, ?_⟩
    · show lb1 [some (.ref 0), some (.tup (a :: r)), some (.tup ls), some (.lst xs), some (.str w), b] s = _
      unfold lb1
      rw [sSeq_app, asg_add hx hB (by simp; omega) (row2_run hp)]
      rfl
    · simp; omega) (env := env) (st := st) ⟨rfl, h⟩
  obtain ⟨e2, s2, h1, rfl, xs, c, b, rfl, hx, hn⟩ := hb
  exact ⟨_, h1, xs, c, b, rfl, hx, by omega⟩
theorem loop2 {ps ls : List D} {st : Sto} {os zs : List D} (hp : PathD ps) (hb : ls.all byteB = true) (hl8 : ls.length ≤ 8) (ho : ∀ d ∈ os, NoWay d) (hl : os.length ≤ 10) {env : DEnv} (h : BEnv ps ls 200 env) :
    ∃ e2, forGo (.vals zs) (gVar 5) lb2 os env st = .nx e2 st ∧ BEnv ps ls 400 e2 := by
  have hb := forGo_ind (g := gVar 5) (b := lb2) (xs := zs) (fun i env s => s = st ∧ BEnv ps ls (200 + 6 * i) env) os (fun i d env s hd hI => by
    obtain ⟨rfl, xs, c, b, rfl, hx, hn⟩ := hI
    have hlt := (List.getElem?_eq_some_iff.mp hd).1
    obtain ⟨hA, hB⟩ := bad3 hp hb hl8 (ho d (List.mem_of_getElem? hd))
    refine ⟨_, rfl, _, _, ?_, rfl, (xs ++ _) ++ _, c, some d, rfl, (hx.app hA).app hB, ?_⟩
    · show lb2 [some (.ref 0), some (.tup ps), some (.tup ls), some (.lst xs), c, some d] s = _
      unfold lb2
      rw [sSeq_app, asg_add hx hA (by simp; omega) row3a_run, then_nx, sSeq_app, asg_add (hx.app hA) hB (by simp; omega) row3b_run]
      rfl
    · simp; omega) (env := env) (st := st) ⟨rfl, h⟩
  obtain ⟨e2, s2, h1, rfl, xs, c, b, rfl, hx, hn⟩ := hb
  exact ⟨_, h1, xs, c, b, rfl, hx, by omega⟩
end LK09
namespace LK09
open PySem MI L2 PySem.Spec PyProof.Rows MX
theorem rep9 {st : Sto} {env : DEnv} : (mBin opMul (mTup [(mC (.int 1))]) (mC (.int 9))) env st = .ok (.tup [.int 1, .int 1, .int 1, .int 1, .int 1, .int 1, .int 1, .int 1, .int 1]) st := by
  have s1 : (1 : Nat) ≤ sizeLine := sizeLine_ge (by omega)
  simp only [mBin_app, mTup_app, mArgs_cons, mArgs_nil, mC_app, bind_ok, List.length_cons, List.length_nil, Nat.zero_add, if_pos s1]
  rfl
theorem list1_run {ps ls : List D} {e3 e4 e5 : Option D} {st : Sto} :
    (mLst [(mTup [(mC (.str wPut)), (mVar 1), (mC (.int 65)), (mVar 2)]), (mTup [(mC (.str wPut)), (mVar 1), (mNeg (mC (.int 1))), (mVar 2)]), (mTup [(mC (.str wPut)), (mVar 1), (mC (.bl true)), (mVar 2)]), (mTup [(mC (.str wPut)), (mVar 1), (mC (.str (⟨#[48]⟩ : Str))), (mVar 2)]), (mTup [(mC (.str wPut)), (mVar 1), (mC (.int 0)), (mCall bList [(mVar 2)])]), (mTup [(mC (.str wPut)), (mVar 1), (mC (.int 0)), (mTup [(mC (.int 256))])]), (mTup [(mC (.str wPut)), (mVar 1), (mC (.int 0)), (mBin opMul (mTup [(mC (.int 1))]) (mC (.int 9)))]), (mTup [(mC (.str wPut)), (mVar 1), (mC (.int 0))]), (mTup [(mC (.str wPut)), (mVar 1), (mC (.int 0)), (mVar 2), (mVar 2)]), (mTup [(mC (.str wTrim)), (mVar 1), (mC (.int 65))]), (mTup [(mC (.str wTrim)), (mVar 1), (mNeg (mC (.int 1)))]), (mTup [(mC (.str wTrim)), (mVar 1), (mC (.bl false))]), (mTup [(mC (.str wTrim)), (mVar 1)]), (mTup [(mC (.str wTrim)), (mVar 1), (mC (.non))]), (mTup [(mC (.str wMove)), (mVar 1)]), (mTup [(mC (.str wMove)), (mVar 1), (mTup [])]), (mTup [(mC (.str wCopy)), (mVar 1), (mCall bList [(mVar 1)])]), (mTup [(mC (.str wCopy)), (mVar 1), (mVar 1), (mVar 1)])])
      [some (.ref 0), some (.tup ps), some (.tup ls), e3, e4, e5] st
    = .ok (.lst [D.tup [.str wPut, .tup ps, .int 65, .tup ls], .tup [.str wPut, .tup ps, .int (-1), .tup ls], .tup [.str wPut, .tup ps, .bl true, .tup ls], .tup [.str wPut, .tup ps, .str ⟨#[48]⟩, .tup ls], .tup [.str wPut, .tup ps, .int 0, .lst ls], .tup [.str wPut, .tup ps, .int 0, .tup [.int 256]], .tup [.str wPut, .tup ps, .int 0, .tup [.int 1, .int 1, .int 1, .int 1, .int 1, .int 1, .int 1, .int 1, .int 1]], .tup [.str wPut, .tup ps, .int 0], .tup [.str wPut, .tup ps, .int 0, .tup ls, .tup ls], .tup [.str wTrim, .tup ps, .int 65], .tup [.str wTrim, .tup ps, .int (-1)], .tup [.str wTrim, .tup ps, .bl false], .tup [.str wTrim, .tup ps], .tup [.str wTrim, .tup ps, .non], .tup [.str wMove, .tup ps], .tup [.str wMove, .tup ps, .tup []], .tup [.str wCopy, .tup ps, .lst ps], .tup [.str wCopy, .tup ps, .tup ps, .tup ps]]) st := by
  have s0 : (0 : Nat) ≤ sizeLine := sizeLine_ge (by omega)
  have s1 : (1 : Nat) ≤ sizeLine := sizeLine_ge (by omega)
  have s2 : (2 : Nat) ≤ sizeLine := sizeLine_ge (by omega)
  have s3 : (3 : Nat) ≤ sizeLine := sizeLine_ge (by omega)
  have s4 : (4 : Nat) ≤ sizeLine := sizeLine_ge (by omega)
  have s5 : (5 : Nat) ≤ sizeLine := sizeLine_ge (by omega)
  have s18 : (18 : Nat) ≤ sizeLine := sizeLine_ge (by omega)
  have hb : ∀ xs, bList [.tup xs] st = .ok (.lst xs) st := fun _ => rfl
  have h9 := fun env => rep9 (st := st) (env := env)
  generalize (mBin opMul (mTup [(mC (.int 1))]) (mC (.int 9))) = M9 at h9 ⊢
  simp only [mLst_app, mTup_app, mArgs_cons, mArgs_nil, mC_app, mCall_app, mNeg_app, bind_ok, mVar_app, List.getElem?_cons_zero, List.getElem?_cons_succ, hb, h9, List.length_cons, List.length_nil, Nat.zero_add, Nat.reduceAdd, if_pos s0, if_pos s1, if_pos s2, if_pos s3, if_pos s4, if_pos s5, if_pos s18]
theorem ways7_run {a : D} {r ls xs : List D} {c b : Option D} {st : Sto} (hp : PathD (a :: r)) :
    (mLst [(mTup []), (mCall bList [(mVar 1)]), (mSl (mBin opMul (mVar 1) (mC (.int 7))) none (some (mC (.int 7)))), (mBin opAdd (mSl (mVar 1) none (some (mC (.int 5)))) (mTup [(mC (.str (⟨#[65]⟩ : Str)))])), (mBin opAdd (mSl (mVar 1) none (some (mC (.int 5)))) (mTup [(mC (.str (⟨#[]⟩ : Str)))])), (mC (.non)), (mBin opIx (mVar 1) (mC (.int 0)))])
      [some (.ref 0), some (.tup (a :: r)), some (.tup ls), some (.lst xs), c, b] st
    = .ok (.lst [.tup [], .lst (a :: r), .tup (cutL (List.replicate 7 (a :: r)).flatten none (some 7)), .tup (cutL (a :: r) none (some 5) ++ [.str ⟨#[65]⟩]), .tup (cutL (a :: r) none (some 5) ++ [.str ⟨#[]⟩]), .non, a]) st := by
  have f0 := first_run (a := a) (r := r) (e0 := some (.ref 0)) (e2 := some (.tup ls)) (e3 := some (.lst xs)) (e4 := c) (e5 := b) (st := st)
  have f7 := seven_run (e0 := some (.ref 0)) (e2 := some (.tup ls)) (e3 := some (.lst xs)) (e4 := c) (e5 := b) (st := st) hp
  have fA := fun s => end_run (s := s) (e0 := some (.ref 0)) (e2 := some (.tup ls)) (e3 := some (.lst xs)) (e4 := c) (e5 := b) (st := st) hp
  have fAA := fA ⟨#[65]⟩
  have fAE := fA ⟨#[]⟩
  generalize (mBin opIx (mVar 1) (mC (.int 0))) = M0 at f0 ⊢
  generalize (mSl (mBin opMul (mVar 1) (mC (.int 7))) none (some (mC (.int 7)))) = M7 at f7 ⊢
  generalize (mBin opAdd (mSl (mVar 1) none (some (mC (.int 5)))) (mTup [(mC (.str (⟨#[65]⟩ : Str)))])) = MA at fAA ⊢
  generalize (mBin opAdd (mSl (mVar 1) none (some (mC (.int 5)))) (mTup [(mC (.str (⟨#[]⟩ : Str)))])) = ME at fAE ⊢
  have s0 : (0 : Nat) ≤ sizeLine := sizeLine_ge (by omega)
  have s7 : (7 : Nat) ≤ sizeLine := sizeLine_ge (by omega)
  have hb : bList [.tup (a :: r)] st = .ok (.lst (a :: r)) st := rfl
  simp only [mLst_app, mTup_app, mArgs_cons, mArgs_nil, mC_app, mCall_app, bind_ok, mVar_app, List.getElem?_cons_zero, List.getElem?_cons_succ, hb, f0, f7, fAA, fAE, List.length_cons, List.length_nil, Nat.zero_add, Nat.reduceAdd, if_pos s0, if_pos s7]
theorem row4_run {ps ls xs : List D} {c b : Option D} {st : Sto} :
    (mLst [(mTup [(mLst []), (mVar 1)]), (mTup [(mC (.dic [])), (mVar 1)]), (mTup [(mTup [(mC (.str wOut))]), (mVar 1)]), (mTup [(mC (.str wOut)), (mLst [(mVar 1)])]), (mTup [(mC (.str wOut)), (mTup [(mLst [])])])]) [some (.ref 0), some (.tup ps), some (.tup ls), some (.lst xs), c, b] st
    = .ok (.lst [D.tup [.lst [], .tup ps], .tup [.dic [], .tup ps], .tup [.tup [.str wOut], .tup ps], .tup [.str wOut, .lst [.tup ps]], .tup [.str wOut, .tup [.lst []]]]) st := by
  have s0 : (0 : Nat) ≤ sizeLine := sizeLine_ge (by omega)
  have s1 : (1 : Nat) ≤ sizeLine := sizeLine_ge (by omega)
  have s2 : (2 : Nat) ≤ sizeLine := sizeLine_ge (by omega)
  have s5 : (5 : Nat) ≤ sizeLine := sizeLine_ge (by omega)
  simp only [mLst_app, mTup_app, mArgs_cons, mArgs_nil, mC_app, bind_ok, mVar_app, List.getElem?_cons_zero, List.getElem?_cons_succ, List.length_cons, List.length_nil, Nat.zero_add, Nat.reduceAdd, if_pos s0, if_pos s1, if_pos s2, if_pos s5]
theorem row5_run {ps ls xs : List D} {c b : Option D} {st : Sto} :
    (mLst [(mTup [(mC (.str (⟨#[112, 97, 105, 110, 116]⟩ : Str))), (mVar 1)]), (mTup [(mC (.int 5)), (mVar 1)]), (mTup [(mC (.non))]), (mTup []), (mC (.non)), (mC (.bl true)), (mC (.int 7)), (mC (.str wOut)), (mTup [(mC (.str (⟨#[111, 117, 116, 32, 97]⟩ : Str)))]), (mVar 1), (mC (.dic [])), (mLst [])]) [some (.ref 0), some (.tup ps), some (.tup ls), some (.lst xs), c, b] st
    = .ok (.lst [D.tup [.str ⟨#[112, 97, 105, 110, 116]⟩, .tup ps], .tup [.int 5, .tup ps], .tup [.non], .tup [], .non, .bl true, .int 7, .str wOut, .tup [.str ⟨#[111, 117, 116, 32, 97]⟩], .tup ps, .dic [], .lst []]) st := by
  have s0 : (0 : Nat) ≤ sizeLine := sizeLine_ge (by omega)
  have s1 : (1 : Nat) ≤ sizeLine := sizeLine_ge (by omega)
  have s2 : (2 : Nat) ≤ sizeLine := sizeLine_ge (by omega)
  have s12 : (12 : Nat) ≤ sizeLine := sizeLine_ge (by omega)
  simp only [mLst_app, mTup_app, mArgs_cons, mArgs_nil, mC_app, bind_ok, mVar_app, List.getElem?_cons_zero, List.getElem?_cons_succ, List.length_cons, List.length_nil, Nat.zero_add, Nat.reduceAdd, if_pos s0, if_pos s1, if_pos s2, if_pos s12]
end LK09
namespace LK09
open PySem MI L2 PySem.Spec PyProof.Rows MX
/-- a list of three, walked -/
theorem seq_for {it : MIt} {g : MG} {b k : MS} {env e2 : DEnv} {st : Sto} {zs : List D} (hi : it env st = .ok (.vals zs) st) (h : forGo (.vals zs) g b zs env st = .nx e2 st) : sSeq (sFor it g b) k env st = k e2 st := by
  rw [sSeq_app, sFor_app, hi]
  show (forGo (.vals zs) g b zs env st).then k = _
  rw [h]
  rfl
theorem seq_asg {M : ME} {i : Nat} {k : MS} {env : DEnv} {st st1 : Sto} {d : D} (h : M env st = .ok d st1) : sSeq (sAsg M (gVar i)) k env st = k (env.set i (some d)) st1 := by
  simp [h]
theorem words3 {env : DEnv} {st : Sto} (s3 : (3 : Nat) ≤ sizeLine) : iSeq (mLst [(mC (.str wFolder)), (mC (.str wFile)), (mC (.str wOut))]) env st = .ok (.vals [.str wFolder, .str wFile, .str wOut]) st := by
  simp only [iSeq_app, mLst_app, mArgs_cons, mArgs_nil, mC_app, bind_ok, List.length_cons, List.length_nil, Nat.zero_add, Nat.reduceAdd, if_pos s3]
theorem it7 {M : ME} {env : DEnv} {st : Sto} {zs : List D} (h : M env st = .ok (.lst zs) st) : iSeq M env st = .ok (.vals zs) st := by
  simp only [iSeq_app, h, bind_ok]
theorem seq_add {M : ME} {k : MS} {ps ls xs ys : List D} {a b : Option D} {st : Sto} (hx : Bad xs) (hy : Bad ys) (hl : xs.length + ys.length ≤ 10000) (h : M [some (.ref 0), some (.tup ps), some (.tup ls), some (.lst xs), a, b] st = .ok (.lst ys) st) :
    sSeq (sAsg (mBin opAdd (mVar 3) M) (gVar 3)) k [some (.ref 0), some (.tup ps), some (.tup ls), some (.lst xs), a, b] st = k [some (.ref 0), some (.tup ps), some (.tup ls), some (.lst (xs ++ ys)), a, b] st := by
  rw [sSeq_app, asg_add hx hy hl h]
  rfl
theorem ret_add {M : ME} {ps ls xs ys : List D} {a b : Option D} {st : Sto} (hl : xs.length + ys.length ≤ 10000) (h : M [some (.ref 0), some (.tup ps), some (.tup ls), some (.lst xs), a, b] st = .ok (.lst ys) st) :
    sSeq (sRet (mBin opAdd (mVar 3) M)) sSkip [some (.ref 0), some (.tup ps), some (.tup ls), some (.lst xs), a, b] st = .rt (.lst (xs ++ ys)) st := by
  have ha := add_lst (st := st) hl
  simp only [sSeq_app, sRet_app, mBin_app, mVar_app, List.getElem?_cons_succ, List.getElem?_cons_zero, bind_ok, h, ha, then_rt]
theorem bad_ok {Ph : Nat → List D → Sto → R D} (hp : PathsOk (Ph 27)) (hf : LeavesOk (Ph 28)) {ds : List Int} (hd : InD ds) :
    ∃ xs ds', Bad xs ∧ xs.length ≤ 1000 ∧ InD ds' ∧ runDef d__law_bad Ph [.ref 0] [.lst (ds.map .int)] = .ok (.lst xs) [.lst (ds'.map .int)] := by
  obtain ⟨ps, ds1, p1, h1, f1⟩ := hp ds hd
  obtain ⟨ls, ds2, l1, l2, h2, f2⟩ := hf ds1 h1
  obtain ⟨a, r, rfl⟩ : ∃ a r, ps = a :: r := by
    cases ps with
    | nil => exact absurd p1.lo (by simp)
    | cons a r => exact ⟨a, r, rfl⟩
  obtain ⟨w0, w7, wA, wE⟩ := ways p1
  generalize hS : ([.lst (ds2.map .int)] : Sto) = S at *
  obtain ⟨e2, g1, xs2, c2, b2, rfl, x2, n2⟩ := loop1 (st := S) (zs := [.str wFolder, .str wFile, .str wOut]) (ws := [.str wFolder, .str wFile, .str wOut]) (ls := ls) p1 (by
    intro d hd
    simp only [List.mem_cons, List.not_mem_nil, or_false] at hd
    rcases hd with rfl | rfl | rfl
    · exact ⟨_, rfl, wOk (by simp), rfl⟩
    · exact ⟨_, rfl, wOk (by simp), rfl⟩
    · exact ⟨_, rfl, wOk (by simp), rfl⟩) (by simp) (env := _) ⟨_, none, none, rfl, bad1 p1 l1 l2, by simp⟩
  obtain ⟨e3, g2, xs3, c3, b3, rfl, x3, n3⟩ := loop2 (st := S) (zs := [.tup [], .lst (a :: r), .tup (cutL (List.replicate 7 (a :: r)).flatten none (some 7)), .tup (cutL (a :: r) none (some 5) ++ [.str ⟨#[65]⟩]), .tup (cutL (a :: r) none (some 5) ++ [.str ⟨#[]⟩]), .non, a]) (os := [.tup [], .lst (a :: r), .tup (cutL (List.replicate 7 (a :: r)).flatten none (some 7)), .tup (cutL (a :: r) none (some 5) ++ [.str ⟨#[65]⟩]), .tup (cutL (a :: r) none (some 5) ++ [.str ⟨#[]⟩]), .non, a]) (ls := ls) p1 l1 l2 (by
    intro d hd
    simp only [List.mem_cons, List.not_mem_nil, or_false] at hd
    rcases hd with rfl | rfl | rfl | rfl | rfl | rfl | rfl
    · exact noWay_nil
    · exact noWay_lst
    · exact w7
    · exact wA
    · exact wE
    · exact noWay_non
    · exact w0) (by simp) (env := _) ⟨xs2, c2, b2, rfl, x2, n2⟩
  have b4 := bad4 p1
  have b5 := bad5 p1
  refine ⟨(xs3 ++ _) ++ _, ds2, (x3.app b4).app b5, by simp; omega, h2, ?_⟩
  rw [hS]
  refine runDef_rt rfl ?_ (by rw [← hS]; rfl)
  show b__law_bad Ph [some (.ref 0), none, none, none, none, none] [.lst (ds.map .int)] = _
  unfold b__law_bad
  have s3 : (3 : Nat) ≤ sizeLine := sizeLine_ge (by omega)
  refine (seq_asg (call1 rfl f1)).trans ?_
  refine (seq_asg (call1 rfl f2)).trans ?_
  refine (seq_asg list1_run).trans ?_
  refine (seq_for (zs := [.str wFolder, .str wFile, .str wOut]) (words3 s3) g1).trans ?_
  refine (seq_for (it7 (ways7_run p1)) g2).trans ?_
  refine (seq_add x3 b4 (by simp; omega) row4_run).trans ?_
  exact ret_add (by simp; omega) row5_run
end LK09
namespace LK09
open PySem MI L2 PySem.Spec PyProof.Rows MX
theorem all_true {it : MIt} {e : ME} {vs : List Nat} {g : MG} {env : DEnv} {st st' : Sto} {ds : List D} (hi : it env st = .ok (.vals ds) st') (h : ∀ d ∈ ds, ∃ env', g d (wipeD env vs) = some env' ∧ e env' st' = .ok (.bl true) st') (hl : ds.length ≤ 10000) :
    mCall bAll [mComp it vs g none e] env st = .ok (.bl true) st' := by
  have hc := mComp_map (vs := vs) (g := g) (e := e) (fun _ => .bl true) hi h (by omega)
  refine call1 hc ?_
  rw [bAll_map (fun _ => true)]
  simp
theorem opIs_bb {a b : Bool} {st : Sto} : opIs (.bl a) (.bl b) st = .ok (.bl (decide (a = b))) st := rfl
theorem view_run {Ph : Nat → List D → Sto → R D} (hn : NextOk (Ph 25)) {ds : List Int} (hd : InD ds) {e0 e2 e3 : Option D} : ∃ v ds', InD ds' ∧
    (mBin opIx (mLst [(mTup [(mC (.str wFolder)), (mTup [])]), (mTup [(mC (.str wFolder)), (mTup [(mTup [(mC (.str (⟨#[97]⟩ : Str))), (mTup [(mC (.str wFile)), (mTup [(mTup [(mC (.int 1))])])])])])])]) (mBin opMod (mCall (Ph 25) [(mVar 1)]) (mC (.int 2)))) [e0, some (.ref 0), e2, e3] [.lst (ds.map .int)] = .ok v [.lst (ds'.map .int)] := by
  obtain ⟨x, ds1, x0, x1, h1, f1⟩ := next_at hn (tl := []) hd
  obtain ⟨v, _, f2⟩ := opIx_mem (ds := [.tup [.str wFolder, .tup []], .tup [.str wFolder, .tup [.tup [.str ⟨#[97]⟩, .tup [.str wFile, .tup [.tup [.int 1]]]]]]]) (i := x % 2) (st := [.lst (ds1.map .int)]) (by omega) (by show x % 2 < ((2 : Nat) : Int); omega)
  have s0 : (0 : Nat) ≤ sizeLine := sizeLine_ge (by omega)
  have s1 : (1 : Nat) ≤ sizeLine := sizeLine_ge (by omega)
  have s2 : (2 : Nat) ≤ sizeLine := sizeLine_ge (by omega)
  refine ⟨v, ds1, h1, ?_⟩
  simp only [mBin_app, mLst_app, mTup_app, mArgs_cons, mArgs_nil, mC_app, mCall_app, bind_ok, mVar_app, List.getElem?_cons_zero, List.getElem?_cons_succ, f1, opMod_ii, Int.reduceLT, if_true, List.length_cons, List.length_nil, Nat.zero_add, Nat.reduceAdd, if_pos s0, if_pos s1, if_pos s2]
  exact f2
theorem it7' {M : ME} {env : DEnv} {st st' : Sto} {zs : List D} (h : M env st = .ok (.lst zs) st') : iSeq M env st = .ok (.vals zs) st' := by
  simp only [iSeq_app, h, bind_ok]
theorem law_body {Ph : Nat → List D → Sto → R D} {ns : List Int} (hdraws : ∃ ds, InD ds ∧ Ph 24 [.fz (ns.map .int)] [] = .ok (.ref 0) [.lst (ds.map .int)]) (hn : NextOk (Ph 25)) (hdeed : DeedOk (Ph 11))
    (hgood : ∀ ds : List Int, InD ds → ∃ gs ds', (∀ g ∈ gs, ok2 g ∧ deedB g = true) ∧ gs.length ≤ 100 ∧ InD ds' ∧ Ph 30 [.ref 0] [.lst (ds.map .int)] = .ok (.lst gs) [.lst (ds'.map .int)])
    (hbad : ∀ ds : List Int, InD ds → ∃ xs ds', Bad xs ∧ xs.length ≤ 1000 ∧ InD ds' ∧ Ph 31 [.ref 0] [.lst (ds.map .int)] = .ok (.lst xs) [.lst (ds'.map .int)])
    (href : ∀ (v d : D) (st : Sto), ok2 d → deedB d = false → Ph 29 [v, d] st = .ok (.bl true) st) : ∃ st, b_law Ph (startD 4 [.fz (ns.map .int)]) [] = .rt (.bl true) st := by
  obtain ⟨ds, hd, f0⟩ := hdraws
  obtain ⟨v, ds1, h1, f1⟩ := view_run hn hd (e0 := some (.fz (ns.map .int))) (e2 := none) (e3 := none)
  obtain ⟨gs, ds2, hg, gl, h2, f2⟩ := hgood ds1 h1
  obtain ⟨xs, ds3, hx, xl, h3, f3⟩ := hbad ds2 h2
  refine ⟨[.lst (ds3.map .int)], ?_⟩
  show b_law Ph [some (.fz (ns.map .int)), none, none, none] [] = _
  unfold b_law
  refine (seq_asg (call1 rfl f0)).trans ?_
  refine (seq_asg f1).trans ?_
  have a1 : mCall bAll [(mComp (iSeq (mCall (Ph 30) [(mVar 1)])) [3] (gVar 3) none (mBin opIs (mCall (Ph 11) [(mVar 3)]) (mC (.bl true))))] [some (.fz (ns.map .int)), some (.ref 0), some v, none] [.lst (ds1.map .int)] = .ok (.bl true) [.lst (ds2.map .int)] := by
    refine all_true (it7' (call1 rfl f2)) (fun d hd => ⟨_, rfl, ?_⟩) (by omega)
    have := hdeed d [.lst (ds2.map .int)] (hg d hd).1
    rw [(hg d hd).2] at this
    simp [this, opIs_bb]
  have a2 : mCall bAll [(mComp (iSeq (mCall (Ph 31) [(mVar 1)])) [3] (gVar 3) none (mAnd (mBin opIs (mCall (Ph 11) [(mVar 3)]) (mC (.bl false))) (mCall (Ph 29) [(mVar 2), (mVar 3)])))] [some (.fz (ns.map .int)), some (.ref 0), some v, none] [.lst (ds2.map .int)] = .ok (.bl true) [.lst (ds3.map .int)] := by
    refine all_true (it7' (call1 rfl f3)) (fun d hd => ⟨_, rfl, ?_⟩) (by omega)
    have := hdeed d [.lst (ds3.map .int)] (hx d hd).1
    rw [(hx d hd).2] at this
    have r := href v d [.lst (ds3.map .int)] (hx d hd).1 (hx d hd).2
    simp [this, opIs_bb, r]
  show (sSeq _ _) [some (.fz (ns.map .int)), some (.ref 0), some v, none] [.lst (ds1.map .int)] = _
  generalize (mCall bAll [(mComp (iSeq (mCall (Ph 30) [(mVar 1)])) [3] (gVar 3) none (mBin opIs (mCall (Ph 11) [(mVar 3)]) (mC (.bl true))))]) = M1 at a1 ⊢
  generalize (mCall bAll [(mComp (iSeq (mCall (Ph 31) [(mVar 1)])) [3] (gVar 3) none (mAnd (mBin opIs (mCall (Ph 11) [(mVar 3)]) (mC (.bl false))) (mCall (Ph 29) [(mVar 2), (mVar 3)])))]) = M2 at a2 ⊢
  simp [a1, a2]
theorem mixed_eq : d__law_mixed = ⟨2, 3, true, gMixed⟩ := rfl
theorem draws_eq : d__law_draws = ⟨1, 5, false, gDraws 23 1000⟩ := rfl
theorem next_eq : d__law_next = ⟨1, 1, true, gNext⟩ := rfl
section
variable (n : Nat)
theorem P_name : NameOk (Phi tbl (n + 1) 0) := fun s st h => by rw [phi_is_name]; exact name_ok h
theorem P_path : PathOk (Phi tbl (n + 2) 2) := fun d st h => by rw [phi_is_path]; exact path_ok (P_name n) h
theorem P_num : NumOk (Phi tbl (n + 1) 3) := fun d st h => by rw [phi_is_number]; exact num_ok h
theorem P_leaf : LeafOk (Phi tbl (n + 2) 4) := fun d st h => by rw [phi_is_leaf]; exact leaf_ok (P_num n) h
theorem P_way : WayOk (Phi tbl (n + 3) 9) := fun d st h => by rw [phi_is_way]; exact way_ok (P_path n) h
theorem P_count : CountOk (Phi tbl (n + 2) 10) := fun d st h => by rw [phi_is_count]; exact count_ok (P_num n) h
theorem P_deed : DeedOk (Phi tbl (n + 4) 11) := fun d st h => by rw [phi_is_deed]; exact isdeed_ok (P_way n) (P_count (n + 1)) (P_leaf (n + 1)) h
theorem P_ref (v d : D) (st : Sto) (h : ok2 d) (hb : deedB d = false) : Phi tbl (n + 6) 29 [v, d] st = .ok (.bl true) st := by
  rw [phi__law_refused]
  refine refused_ok ?_
  rw [phi_done]
  exact done_exc (P_deed n) h hb
theorem P_next : NextOk (Phi tbl (n + 1) 25) := fun l st ds hs hd => by
  rw [phi__law_next, next_eq]; exact next_ok hs hd
theorem P_menu : MenuOk (Phi tbl (n + 1) 26) := fun i st => by rw [phi__law_name]; exact lname_ok
theorem P_paths : PathsOk (Phi tbl (n + 2) 27) := fun ds hd => by
  rw [phi__law_path]
  obtain ⟨ps, ds', a, b, c, d, e⟩ := lpath_ok (P_next n) (P_menu n) hd
  exact ⟨ps, ds', ⟨a, b, c⟩, d, e⟩
theorem P_leaves : LeavesOk (Phi tbl (n + 2) 28) := fun ds hd => by
  rw [phi__law_leaf]; exact lleaf_ok (P_next n) hd
theorem P_good (ds : List Int) (hd : InD ds) : ∃ gs ds', (∀ g ∈ gs, ok2 g ∧ deedB g = true) ∧ gs.length ≤ 100 ∧ InD ds' ∧ Phi tbl (n + 3) 30 [.ref 0] [.lst (ds.map .int)] = .ok (.lst gs) [.lst (ds'.map .int)] := by
  rw [phi__law_good]; exact good_ok (P_next (n + 1)) (P_paths n) (P_leaves n) hd
theorem P_bad (ds : List Int) (hd : InD ds) : ∃ xs ds', Bad xs ∧ xs.length ≤ 1000 ∧ InD ds' ∧ Phi tbl (n + 3) 31 [.ref 0] [.lst (ds.map .int)] = .ok (.lst xs) [.lst (ds'.map .int)] := by
  rw [phi__law_bad]; exact bad_ok (P_paths n) (P_leaves n) hd
theorem P_draws (ns : List Int) : ∃ ds, InD ds ∧ Phi tbl (n + 2) 24 [.fz (ns.map .int)] [] = .ok (.ref 0) [.lst (ds.map .int)] := by
  obtain ⟨ds, hd, e⟩ := draws_body (im := 23) (F := 1000) (Nat.le_refl _) (Ph := Phi tbl (n + 1)) (st := []) (ns := ns) (fun c k st h0 h1 => by
    rw [phi__law_mixed, mixed_eq]; exact mixed_ok h0 h1)
  refine ⟨ds, hd, ?_⟩
  rw [phi__law_draws, draws_eq]
  exact runDef_raw rfl rfl e
end
theorem law_pure (ns : List Int) (h : ns.length ≤ 63) : ∃ st, Phi tbl 12 32 [.fz (ns.map .int)] [] = .ok (.bl true) st := by
  obtain ⟨st, hb⟩ := law_body (Ph := Phi tbl 11) (ns := ns) (P_draws 9 ns) (P_next 10) (P_deed 7) (P_good 8) (P_bad 8) (P_ref 5)
  have e : Phi tbl 12 32 [.fz (ns.map .int)] [] = runDef d_law (Phi tbl 11) [.fz (ns.map .int)] [] := phi_law 11 _ _
  rw [e]
  exact law_done rfl rfl hb
end LK09
/-! the reading of each def; the head -/
namespace LK09
open PySem PySem.Spec PyProof.Rows L2 MI
theorem sc_is_name : FnScope ["one", "sign"] ["one"] (defScope (topS 14)) := ⟨rfl, rfl, rfl, by decide +kernel, rfl, by decide +kernel, by decide +kernel⟩
theorem rd_is_name (Ph : Nat → List D → Sto → R D) : ofSs Ph 300 (cc.at ["one", "sign"] (defScope (topS 14))) (defBody (topS 14)) = some (b_is_name Ph) := by kernel_rfl
theorem sc_code_of : FnScope ["name", "code", "sign"] ["name"] (defScope (topS 15)) := ⟨rfl, rfl, rfl, by decide +kernel, rfl, by decide +kernel, by decide +kernel⟩
theorem rd_code_of (Ph : Nat → List D → Sto → R D) : ofSs Ph 300 (cc.at ["name", "code", "sign"] (defScope (topS 15))) (defBody (topS 15)) = some (b_code_of Ph) := by kernel_rfl
theorem sc_is_path : FnScope ["one", "name"] ["one"] (defScope (topS 16)) := ⟨rfl, rfl, rfl, by decide +kernel, rfl, by decide +kernel, by decide +kernel⟩
theorem rd_is_path (Ph : Nat → List D → Sto → R D) : ofSs Ph 300 (cc.at ["one", "name"] (defScope (topS 16))) (defBody (topS 16)) = some (b_is_path Ph) := by kernel_rfl
theorem sc_is_number : FnScope ["one"] ["one"] (defScope (topS 22)) := ⟨rfl, rfl, rfl, by decide +kernel, rfl, by decide +kernel, by decide +kernel⟩
theorem rd_is_number (Ph : Nat → List D → Sto → R D) : ofSs Ph 300 (cc.at ["one"] (defScope (topS 22))) (defBody (topS 22)) = some (b_is_number Ph) := by kernel_rfl
theorem sc_is_leaf : FnScope ["one", "number"] ["one"] (defScope (topS 23)) := ⟨rfl, rfl, rfl, by decide +kernel, rfl, by decide +kernel, by decide +kernel⟩
theorem rd_is_leaf (Ph : Nat → List D → Sto → R D) : ofSs Ph 300 (cc.at ["one", "number"] (defScope (topS 23))) (defBody (topS 23)) = some (b_is_leaf Ph) := by kernel_rfl
theorem sc_named : FnScope ["folder", "name", "row"] ["folder", "name"] (defScope (topS 24)) := ⟨rfl, rfl, rfl, by decide +kernel, rfl, by decide +kernel, by decide +kernel⟩
theorem rd_named (Ph : Nat → List D → Sto → R D) : ofSs Ph 300 (cc.at ["folder", "name", "row"] (defScope (topS 24))) (defBody (topS 24)) = some (b_named Ph) := by kernel_rfl
theorem sc_thing_at : FnScope ["view", "path", "thing", "name"] ["view", "path"] (defScope (topS 25)) := ⟨rfl, rfl, rfl, by decide +kernel, rfl, by decide +kernel, by decide +kernel⟩
theorem rd_thing_at (Ph : Nat → List D → Sto → R D) : ofSs Ph 300 (cc.at ["view", "path", "thing", "name"] (defScope (topS 25))) (defBody (topS 25)) = some (b_thing_at Ph) := by kernel_rfl
theorem sc_is_folder_at : FnScope ["view", "path", "thing"] ["view", "path"] (defScope (topS 26)) := ⟨rfl, rfl, rfl, by decide +kernel, rfl, by decide +kernel, by decide +kernel⟩
theorem rd_is_folder_at (Ph : Nat → List D → Sto → R D) : ofSs Ph 300 (cc.at ["view", "path", "thing"] (defScope (topS 26))) (defBody (topS 26)) = some (b_is_folder_at Ph) := by kernel_rfl
theorem sc_depth_of : FnScope ["thing", "row"] ["thing"] (defScope (topS 27)) := ⟨rfl, rfl, rfl, by decide +kernel, rfl, by decide +kernel, by decide +kernel⟩
theorem rd_depth_of (Ph : Nat → List D → Sto → R D) : ofSs Ph 300 (cc.at ["thing", "row"] (defScope (topS 27))) (defBody (topS 27)) = some (b_depth_of Ph) := by kernel_rfl
theorem sc_is_way : FnScope ["one"] ["one"] (defScope (topS 30)) := ⟨rfl, rfl, rfl, by decide +kernel, rfl, by decide +kernel, by decide +kernel⟩
theorem rd_is_way (Ph : Nat → List D → Sto → R D) : ofSs Ph 300 (cc.at ["one"] (defScope (topS 30))) (defBody (topS 30)) = some (b_is_way Ph) := by kernel_rfl
theorem sc_is_count : FnScope ["one"] ["one"] (defScope (topS 31)) := ⟨rfl, rfl, rfl, by decide +kernel, rfl, by decide +kernel, by decide +kernel⟩
theorem rd_is_count (Ph : Nat → List D → Sto → R D) : ofSs Ph 300 (cc.at ["one"] (defScope (topS 31))) (defBody (topS 31)) = some (b_is_count Ph) := by kernel_rfl
theorem sc_is_deed : FnScope ["one"] ["one"] (defScope (topS 32)) := ⟨rfl, rfl, rfl, by decide +kernel, rfl, by decide +kernel, by decide +kernel⟩
theorem rd_is_deed (Ph : Nat → List D → Sto → R D) : ofSs Ph 300 (cc.at ["one"] (defScope (topS 32))) (defBody (topS 32)) = some (b_is_deed Ph) := by kernel_rfl
theorem sc_with_row : FnScope ["folder", "name", "thing", "rows", "row"] ["folder", "name", "thing"] (defScope (topS 33)) := ⟨rfl, rfl, rfl, by decide +kernel, rfl, by decide +kernel, by decide +kernel⟩
theorem rd_with_row (Ph : Nat → List D → Sto → R D) : ofSs Ph 300 (cc.at ["folder", "name", "thing", "rows", "row"] (defScope (topS 33))) (defBody (topS 33)) = some (b_with_row Ph) := by kernel_rfl
theorem sc_with_thing : FnScope ["folder", "path", "thing"] ["folder", "path", "thing"] (defScope (topS 34)) := ⟨rfl, rfl, rfl, by decide +kernel, rfl, by decide +kernel, by decide +kernel⟩
theorem rd_with_thing (Ph : Nat → List D → Sto → R D) : ofSs Ph 300 (cc.at ["folder", "path", "thing"] (defScope (topS 34))) (defBody (topS 34)) = some (b_with_thing Ph) := by kernel_rfl
theorem sc_put_in : FnScope ["view", "path", "thing"] ["view", "path", "thing"] (defScope (topS 35)) := ⟨rfl, rfl, rfl, by decide +kernel, rfl, by decide +kernel, by decide +kernel⟩
theorem rd_put_in (Ph : Nat → List D → Sto → R D) : ofSs Ph 300 (cc.at ["view", "path", "thing"] (defScope (topS 35))) (defBody (topS 35)) = some (b_put_in Ph) := by kernel_rfl
theorem sc_file_at : FnScope ["view", "path", "thing"] ["view", "path"] (defScope (topS 36)) := ⟨rfl, rfl, rfl, by decide +kernel, rfl, by decide +kernel, by decide +kernel⟩
theorem rd_file_at (Ph : Nat → List D → Sto → R D) : ofSs Ph 300 (cc.at ["view", "path", "thing"] (defScope (topS 36))) (defBody (topS 36)) = some (b_file_at Ph) := by kernel_rfl
theorem sc_put_leaf : FnScope ["view", "path", "at", "leaf", "leaves"] ["view", "path", "at", "leaf"] (defScope (topS 37)) := ⟨rfl, rfl, rfl, by decide +kernel, rfl, by decide +kernel, by decide +kernel⟩
theorem rd_put_leaf (Ph : Nat → List D → Sto → R D) : ofSs Ph 300 (cc.at ["view", "path", "at", "leaf", "leaves"] (defScope (topS 37))) (defBody (topS 37)) = some (b_put_leaf Ph) := by kernel_rfl
theorem sc_trimmed : FnScope ["view", "path", "many", "leaves"] ["view", "path", "many"] (defScope (topS 38)) := ⟨rfl, rfl, rfl, by decide +kernel, rfl, by decide +kernel, by decide +kernel⟩
theorem rd_trimmed (Ph : Nat → List D → Sto → R D) : ofSs Ph 300 (cc.at ["view", "path", "many", "leaves"] (defScope (topS 38))) (defBody (topS 38)) = some (b_trimmed Ph) := by kernel_rfl
theorem sc_must_fit : FnScope ["view", "thing", "other", "less"] ["view", "thing", "other", "less"] (defScope (topS 39)) := ⟨rfl, rfl, rfl, by decide +kernel, rfl, by decide +kernel, by decide +kernel⟩
theorem rd_must_fit (Ph : Nat → List D → Sto → R D) : ofSs Ph 300 (cc.at ["view", "thing", "other", "less"] (defScope (topS 39))) (defBody (topS 39)) = some (b_must_fit Ph) := by kernel_rfl
theorem sc_moved_on : FnScope ["view", "path", "other", "thing", "less"] ["view", "path", "other"] (defScope (topS 40)) := ⟨rfl, rfl, rfl, by decide +kernel, rfl, by decide +kernel, by decide +kernel⟩
theorem rd_moved_on (Ph : Nat → List D → Sto → R D) : ofSs Ph 300 (cc.at ["view", "path", "other", "thing", "less"] (defScope (topS 40))) (defBody (topS 40)) = some (b_moved_on Ph) := by kernel_rfl
theorem sc_copied : FnScope ["view", "path", "other", "thing"] ["view", "path", "other"] (defScope (topS 41)) := ⟨rfl, rfl, rfl, by decide +kernel, rfl, by decide +kernel, by decide +kernel⟩
theorem rd_copied (Ph : Nat → List D → Sto → R D) : ofSs Ph 300 (cc.at ["view", "path", "other", "thing"] (defScope (topS 41))) (defBody (topS 41)) = some (b_copied Ph) := by kernel_rfl
theorem sc_taken_out : FnScope ["view", "path"] ["view", "path"] (defScope (topS 42)) := ⟨rfl, rfl, rfl, by decide +kernel, rfl, by decide +kernel, by decide +kernel⟩
theorem rd_taken_out (Ph : Nat → List D → Sto → R D) : ofSs Ph 300 (cc.at ["view", "path"] (defScope (topS 42))) (defBody (topS 42)) = some (b_taken_out Ph) := by kernel_rfl
theorem sc_done : FnScope ["view", "deed"] ["view", "deed"] (defScope (topS 43)) := ⟨rfl, rfl, rfl, by decide +kernel, rfl, by decide +kernel, by decide +kernel⟩
theorem rd_done (Ph : Nat → List D → Sto → R D) : ofSs Ph 300 (cc.at ["view", "deed"] (defScope (topS 43))) (defBody (topS 43)) = some (b_done Ph) := by kernel_rfl
theorem sc__law_mixed : FnScope ["_law_cell", "_law_k", "_law_number"] ["_law_cell", "_law_k"] (defScope (topS 45)) := ⟨rfl, rfl, rfl, by decide +kernel, rfl, by decide +kernel, by decide +kernel⟩
theorem rd__law_mixed (Ph : Nat → List D → Sto → R D) : ofSs Ph 300 (cc.at ["_law_cell", "_law_k", "_law_number"] (defScope (topS 45))) (defBody (topS 45)) = some (b__law_mixed Ph) := by kernel_rfl
theorem sc__law_draws : FnScope ["_law_script", "_law_drawn", "_law_k", "_law_cell", "_law_j"] ["_law_script"] (defScope (topS 46)) := ⟨rfl, rfl, rfl, by decide +kernel, rfl, by decide +kernel, by decide +kernel⟩
theorem rd__law_draws (Ph : Nat → List D → Sto → R D) : ofSs Ph 300 (cc.at ["_law_script", "_law_drawn", "_law_k", "_law_cell", "_law_j"] (defScope (topS 46))) (defBody (topS 46)) = some (b__law_draws Ph) := by kernel_rfl
theorem sc__law_next : FnScope ["_law_drawn"] ["_law_drawn"] (defScope (topS 47)) := ⟨rfl, rfl, rfl, by decide +kernel, rfl, by decide +kernel, by decide +kernel⟩
theorem rd__law_next (Ph : Nat → List D → Sto → R D) : ofSs Ph 300 (cc.at ["_law_drawn"] (defScope (topS 47))) (defBody (topS 47)) = some (b__law_next Ph) := by kernel_rfl
theorem sc__law_name : FnScope ["_law_number", "_law_menu"] ["_law_number"] (defScope (topS 48)) := ⟨rfl, rfl, rfl, by decide +kernel, rfl, by decide +kernel, by decide +kernel⟩
theorem rd__law_name (Ph : Nat → List D → Sto → R D) : ofSs Ph 300 (cc.at ["_law_number", "_law_menu"] (defScope (topS 48))) (defBody (topS 48)) = some (b__law_name Ph) := by kernel_rfl
theorem sc__law_path : FnScope ["_law_drawn", "_law_number", "_law_many", "_law_k"] ["_law_drawn"] (defScope (topS 49)) := ⟨rfl, rfl, rfl, by decide +kernel, rfl, by decide +kernel, by decide +kernel⟩
theorem rd__law_path (Ph : Nat → List D → Sto → R D) : ofSs Ph 300 (cc.at ["_law_drawn", "_law_number", "_law_many", "_law_k"] (defScope (topS 49))) (defBody (topS 49)) = some (b__law_path Ph) := by kernel_rfl
theorem sc__law_leaf : FnScope ["_law_drawn", "_law_number", "_law_k"] ["_law_drawn"] (defScope (topS 50)) := ⟨rfl, rfl, rfl, by decide +kernel, rfl, by decide +kernel, by decide +kernel⟩
theorem rd__law_leaf (Ph : Nat → List D → Sto → R D) : ofSs Ph 300 (cc.at ["_law_drawn", "_law_number", "_law_k"] (defScope (topS 50))) (defBody (topS 50)) = some (b__law_leaf Ph) := by kernel_rfl
theorem sc__law_refused : FnScope ["_law_view", "_law_one"] ["_law_view", "_law_one"] (defScope (topS 51)) := ⟨rfl, rfl, rfl, by decide +kernel, rfl, by decide +kernel, by decide +kernel⟩
theorem rd__law_refused (Ph : Nat → List D → Sto → R D) : ofSs Ph 300 (cc.at ["_law_view", "_law_one"] (defScope (topS 51))) (defBody (topS 51)) = some (b__law_refused Ph) := by kernel_rfl
theorem sc__law_good : FnScope ["_law_drawn", "_law_path_here", "_law_other", "_law_at"] ["_law_drawn"] (defScope (topS 52)) := ⟨rfl, rfl, rfl, by decide +kernel, rfl, by decide +kernel, by decide +kernel⟩
theorem rd__law_good (Ph : Nat → List D → Sto → R D) : ofSs Ph 300 (cc.at ["_law_drawn", "_law_path_here", "_law_other", "_law_at"] (defScope (topS 52))) (defBody (topS 52)) = some (b__law_good Ph) := by kernel_rfl
theorem sc__law_bad : FnScope ["_law_drawn", "_law_path_here", "_law_leaf_here", "_law_found", "_law_word", "_law_one"] ["_law_drawn"] (defScope (topS 53)) := ⟨rfl, rfl, rfl, by decide +kernel, rfl, by decide +kernel, by decide +kernel⟩
theorem rd__law_bad (Ph : Nat → List D → Sto → R D) : ofSs Ph 300 (cc.at ["_law_drawn", "_law_path_here", "_law_leaf_here", "_law_found", "_law_word", "_law_one"] (defScope (topS 53))) (defBody (topS 53)) = some (b__law_bad Ph) := by kernel_rfl
theorem sc_law : FnScope ["_law_script", "_law_drawn", "_law_view", "_law_one"] ["_law_script"] (defScope (topS 54)) := ⟨rfl, rfl, rfl, by decide +kernel, rfl, by decide +kernel, by decide +kernel⟩
theorem rd_law (Ph : Nat → List D → Sto → R D) : ofSs Ph 300 (cc.at ["_law_script", "_law_drawn", "_law_view", "_law_one"] (defScope (topS 54))) (defBody (topS 54)) = some (b_law Ph) := by kernel_rfl
theorem defOk_mk {K : PySem.W.Frag} {h : Heap} {mg : Str → Option Value} (X : K.In h) (G : h.Ns mainGlobals mg) {x : Str} {s : Stmt} {N ps : List Str} {d : DefR} {n : Nat} {f : Addr} {oc : Value} {od an : Option Addr} {osl : Array (Option Value)} {kV doc pm cdv ct : Value}
    (S : FnScope N ps (defScope s)) (ha : d.arity = ps.length) (hs : d.slots = N.length) (rd : ∀ Ph, ofSs Ph n (cc.at N (defScope s)) (defBody s) = some (d.body Ph))
    (bi : ∀ (kV doc pm : Value) (an : Option Addr) (cdv ct : Value) (us : List Value), us.length = ps.length → bindArgs (PySem.W.fnOf x x (defArgs s) (defBody s) (defScope s) .none kV doc pm an cdv ct) ⟨us, []⟩ = pure (ps.zip us))
    (a : PySem.W.nsIn K mainGlobals x = some (some (.ref f))) (l : K.lookup f = some ⟨oc, od, .func (PySem.W.fnOf x x (defArgs s) (defBody s) (defScope s) .none kV doc pm an cdv ct), osl⟩) (c : PySem.W.codeIn K cdv x = true) (k : PySem.W.keepIn K (.ref f) = true) : DefOk K mg cc x d :=
  have F := fun_mk (st := s) l c k
  ⟨s, f, _, N, ps, n, PySem.W.mg_of X G a, F, F.binds bi, S, ha, hs, rd⟩
theorem all_mk {l : PySem.W.OpenLaw} {w : World} {K : PySem.W.Frag} {h : Heap} {mg : Str → Option Value} {fa : Addr} (X : K.In h) (G : h.Ns mainGlobals mg) (hfa : mg "law" = some (.ref fa))
    {f0 : Addr} {oc0 kV0 dc0 pm0 cd0 ct0 : Value} {od0 an0 : Option Addr} {sl0 : Array (Option Value)}
    {f1 : Addr} {oc1 kV1 dc1 pm1 cd1 ct1 : Value} {od1 an1 : Option Addr} {sl1 : Array (Option Value)}
    {f2 : Addr} {oc2 kV2 dc2 pm2 cd2 ct2 : Value} {od2 an2 : Option Addr} {sl2 : Array (Option Value)}
    {f3 : Addr} {oc3 kV3 dc3 pm3 cd3 ct3 : Value} {od3 an3 : Option Addr} {sl3 : Array (Option Value)}
    {f4 : Addr} {oc4 kV4 dc4 pm4 cd4 ct4 : Value} {od4 an4 : Option Addr} {sl4 : Array (Option Value)}
    {f5 : Addr} {oc5 kV5 dc5 pm5 cd5 ct5 : Value} {od5 an5 : Option Addr} {sl5 : Array (Option Value)}
    {f6 : Addr} {oc6 kV6 dc6 pm6 cd6 ct6 : Value} {od6 an6 : Option Addr} {sl6 : Array (Option Value)}
    {f7 : Addr} {oc7 kV7 dc7 pm7 cd7 ct7 : Value} {od7 an7 : Option Addr} {sl7 : Array (Option Value)}
    {f8 : Addr} {oc8 kV8 dc8 pm8 cd8 ct8 : Value} {od8 an8 : Option Addr} {sl8 : Array (Option Value)}
    {f9 : Addr} {oc9 kV9 dc9 pm9 cd9 ct9 : Value} {od9 an9 : Option Addr} {sl9 : Array (Option Value)}
    {f10 : Addr} {oc10 kV10 dc10 pm10 cd10 ct10 : Value} {od10 an10 : Option Addr} {sl10 : Array (Option Value)}
    {f11 : Addr} {oc11 kV11 dc11 pm11 cd11 ct11 : Value} {od11 an11 : Option Addr} {sl11 : Array (Option Value)}
    {f12 : Addr} {oc12 kV12 dc12 pm12 cd12 ct12 : Value} {od12 an12 : Option Addr} {sl12 : Array (Option Value)}
    {f13 : Addr} {oc13 kV13 dc13 pm13 cd13 ct13 : Value} {od13 an13 : Option Addr} {sl13 : Array (Option Value)}
    {f14 : Addr} {oc14 kV14 dc14 pm14 cd14 ct14 : Value} {od14 an14 : Option Addr} {sl14 : Array (Option Value)}
    {f15 : Addr} {oc15 kV15 dc15 pm15 cd15 ct15 : Value} {od15 an15 : Option Addr} {sl15 : Array (Option Value)}
    {f16 : Addr} {oc16 kV16 dc16 pm16 cd16 ct16 : Value} {od16 an16 : Option Addr} {sl16 : Array (Option Value)}
    {f17 : Addr} {oc17 kV17 dc17 pm17 cd17 ct17 : Value} {od17 an17 : Option Addr} {sl17 : Array (Option Value)}
    {f18 : Addr} {oc18 kV18 dc18 pm18 cd18 ct18 : Value} {od18 an18 : Option Addr} {sl18 : Array (Option Value)}
    {f19 : Addr} {oc19 kV19 dc19 pm19 cd19 ct19 : Value} {od19 an19 : Option Addr} {sl19 : Array (Option Value)}
    {f20 : Addr} {oc20 kV20 dc20 pm20 cd20 ct20 : Value} {od20 an20 : Option Addr} {sl20 : Array (Option Value)}
    {f21 : Addr} {oc21 kV21 dc21 pm21 cd21 ct21 : Value} {od21 an21 : Option Addr} {sl21 : Array (Option Value)}
    {f22 : Addr} {oc22 kV22 dc22 pm22 cd22 ct22 : Value} {od22 an22 : Option Addr} {sl22 : Array (Option Value)}
    {f23 : Addr} {oc23 kV23 dc23 pm23 cd23 ct23 : Value} {od23 an23 : Option Addr} {sl23 : Array (Option Value)}
    {f24 : Addr} {oc24 kV24 dc24 pm24 cd24 ct24 : Value} {od24 an24 : Option Addr} {sl24 : Array (Option Value)}
    {f25 : Addr} {oc25 kV25 dc25 pm25 cd25 ct25 : Value} {od25 an25 : Option Addr} {sl25 : Array (Option Value)}
    {f26 : Addr} {oc26 kV26 dc26 pm26 cd26 ct26 : Value} {od26 an26 : Option Addr} {sl26 : Array (Option Value)}
    {f27 : Addr} {oc27 kV27 dc27 pm27 cd27 ct27 : Value} {od27 an27 : Option Addr} {sl27 : Array (Option Value)}
    {f28 : Addr} {oc28 kV28 dc28 pm28 cd28 ct28 : Value} {od28 an28 : Option Addr} {sl28 : Array (Option Value)}
    {f29 : Addr} {oc29 kV29 dc29 pm29 cd29 ct29 : Value} {od29 an29 : Option Addr} {sl29 : Array (Option Value)}
    {f30 : Addr} {oc30 kV30 dc30 pm30 cd30 ct30 : Value} {od30 an30 : Option Addr} {sl30 : Array (Option Value)}
    {f31 : Addr} {oc31 kV31 dc31 pm31 cd31 ct31 : Value} {od31 an31 : Option Addr} {sl31 : Array (Option Value)}
    {f32 : Addr} {oc32 kV32 dc32 pm32 cd32 ct32 : Value} {od32 an32 : Option Addr} {sl32 : Array (Option Value)}
    {gt0 : Tok}
    {gt1 : Tok}
    {gt2 : Tok}
    {gt3 : Tok}
    {gt4 : Tok}
    {gt5 : Tok}
    {gt6_1 : Tok}
    {ga6_2 : Addr} {go6_2 : Option Addr} {gn6_2 : Nat} {gs6_2 : Array (Option Value)}
    {ga6_0 : Addr} {go6_0 : Option Addr} {gn6_0 : Nat} {gs6_0 : Array (Option Value)}
    {kd0 : Addr} {kn0 : Nat}
    {kh0_0 : Int} {kt0_0 ku0_0 : Tok}
    {kh0_1 : Int} {kt0_1 ku0_1 : Tok}
    {kh0_2 : Int} {kt0_2 ku0_2 : Tok}
    {kh0_3 : Int} {kt0_3 ku0_3 : Tok}
    {kh0_4 : Int} {kt0_4 ku0_4 : Tok}
    {kh0_5 : Int} {kt0_5 ku0_5 : Tok}
    {kh0_6 : Int} {kt0_6 ku0_6 : Tok}
    {C0 : Addr}
    {C1 : Addr}
    {C2 : Addr}
    {C3 : Addr}
    {C4 : Addr}
    {C5 : Addr}
    {C6 : Addr}
    {C7 : Addr}
    (a0 : PySem.W.nsIn K mainGlobals "is_name" = some (some (.ref f0))) (l0 : K.lookup f0 = some ⟨oc0, od0, .func (PySem.W.fnOf "is_name" "is_name" (defArgs (topS 14)) (defBody (topS 14)) (defScope (topS 14)) .none kV0 dc0 pm0 an0 cd0 ct0), sl0⟩) (c0 : PySem.W.codeIn K cd0 "is_name" = true) (k0 : PySem.W.keepIn K (.ref f0) = true)
    (a1 : PySem.W.nsIn K mainGlobals "code_of" = some (some (.ref f1))) (l1 : K.lookup f1 = some ⟨oc1, od1, .func (PySem.W.fnOf "code_of" "code_of" (defArgs (topS 15)) (defBody (topS 15)) (defScope (topS 15)) .none kV1 dc1 pm1 an1 cd1 ct1), sl1⟩) (c1 : PySem.W.codeIn K cd1 "code_of" = true) (k1 : PySem.W.keepIn K (.ref f1) = true)
    (a2 : PySem.W.nsIn K mainGlobals "is_path" = some (some (.ref f2))) (l2 : K.lookup f2 = some ⟨oc2, od2, .func (PySem.W.fnOf "is_path" "is_path" (defArgs (topS 16)) (defBody (topS 16)) (defScope (topS 16)) .none kV2 dc2 pm2 an2 cd2 ct2), sl2⟩) (c2 : PySem.W.codeIn K cd2 "is_path" = true) (k2 : PySem.W.keepIn K (.ref f2) = true)
    (a3 : PySem.W.nsIn K mainGlobals "is_number" = some (some (.ref f3))) (l3 : K.lookup f3 = some ⟨oc3, od3, .func (PySem.W.fnOf "is_number" "is_number" (defArgs (topS 22)) (defBody (topS 22)) (defScope (topS 22)) .none kV3 dc3 pm3 an3 cd3 ct3), sl3⟩) (c3 : PySem.W.codeIn K cd3 "is_number" = true) (k3 : PySem.W.keepIn K (.ref f3) = true)
    (a4 : PySem.W.nsIn K mainGlobals "is_leaf" = some (some (.ref f4))) (l4 : K.lookup f4 = some ⟨oc4, od4, .func (PySem.W.fnOf "is_leaf" "is_leaf" (defArgs (topS 23)) (defBody (topS 23)) (defScope (topS 23)) .none kV4 dc4 pm4 an4 cd4 ct4), sl4⟩) (c4 : PySem.W.codeIn K cd4 "is_leaf" = true) (k4 : PySem.W.keepIn K (.ref f4) = true)
    (a5 : PySem.W.nsIn K mainGlobals "named" = some (some (.ref f5))) (l5 : K.lookup f5 = some ⟨oc5, od5, .func (PySem.W.fnOf "named" "named" (defArgs (topS 24)) (defBody (topS 24)) (defScope (topS 24)) .none kV5 dc5 pm5 an5 cd5 ct5), sl5⟩) (c5 : PySem.W.codeIn K cd5 "named" = true) (k5 : PySem.W.keepIn K (.ref f5) = true)
    (a6 : PySem.W.nsIn K mainGlobals "thing_at" = some (some (.ref f6))) (l6 : K.lookup f6 = some ⟨oc6, od6, .func (PySem.W.fnOf "thing_at" "thing_at" (defArgs (topS 25)) (defBody (topS 25)) (defScope (topS 25)) .none kV6 dc6 pm6 an6 cd6 ct6), sl6⟩) (c6 : PySem.W.codeIn K cd6 "thing_at" = true) (k6 : PySem.W.keepIn K (.ref f6) = true)
    (a7 : PySem.W.nsIn K mainGlobals "is_folder_at" = some (some (.ref f7))) (l7 : K.lookup f7 = some ⟨oc7, od7, .func (PySem.W.fnOf "is_folder_at" "is_folder_at" (defArgs (topS 26)) (defBody (topS 26)) (defScope (topS 26)) .none kV7 dc7 pm7 an7 cd7 ct7), sl7⟩) (c7 : PySem.W.codeIn K cd7 "is_folder_at" = true) (k7 : PySem.W.keepIn K (.ref f7) = true)
    (a8 : PySem.W.nsIn K mainGlobals "depth_of" = some (some (.ref f8))) (l8 : K.lookup f8 = some ⟨oc8, od8, .func (PySem.W.fnOf "depth_of" "depth_of" (defArgs (topS 27)) (defBody (topS 27)) (defScope (topS 27)) .none kV8 dc8 pm8 an8 cd8 ct8), sl8⟩) (c8 : PySem.W.codeIn K cd8 "depth_of" = true) (k8 : PySem.W.keepIn K (.ref f8) = true)
    (a9 : PySem.W.nsIn K mainGlobals "is_way" = some (some (.ref f9))) (l9 : K.lookup f9 = some ⟨oc9, od9, .func (PySem.W.fnOf "is_way" "is_way" (defArgs (topS 30)) (defBody (topS 30)) (defScope (topS 30)) .none kV9 dc9 pm9 an9 cd9 ct9), sl9⟩) (c9 : PySem.W.codeIn K cd9 "is_way" = true) (k9 : PySem.W.keepIn K (.ref f9) = true)
    (a10 : PySem.W.nsIn K mainGlobals "is_count" = some (some (.ref f10))) (l10 : K.lookup f10 = some ⟨oc10, od10, .func (PySem.W.fnOf "is_count" "is_count" (defArgs (topS 31)) (defBody (topS 31)) (defScope (topS 31)) .none kV10 dc10 pm10 an10 cd10 ct10), sl10⟩) (c10 : PySem.W.codeIn K cd10 "is_count" = true) (k10 : PySem.W.keepIn K (.ref f10) = true)
    (a11 : PySem.W.nsIn K mainGlobals "is_deed" = some (some (.ref f11))) (l11 : K.lookup f11 = some ⟨oc11, od11, .func (PySem.W.fnOf "is_deed" "is_deed" (defArgs (topS 32)) (defBody (topS 32)) (defScope (topS 32)) .none kV11 dc11 pm11 an11 cd11 ct11), sl11⟩) (c11 : PySem.W.codeIn K cd11 "is_deed" = true) (k11 : PySem.W.keepIn K (.ref f11) = true)
    (a12 : PySem.W.nsIn K mainGlobals "with_row" = some (some (.ref f12))) (l12 : K.lookup f12 = some ⟨oc12, od12, .func (PySem.W.fnOf "with_row" "with_row" (defArgs (topS 33)) (defBody (topS 33)) (defScope (topS 33)) .none kV12 dc12 pm12 an12 cd12 ct12), sl12⟩) (c12 : PySem.W.codeIn K cd12 "with_row" = true) (k12 : PySem.W.keepIn K (.ref f12) = true)
    (a13 : PySem.W.nsIn K mainGlobals "with_thing" = some (some (.ref f13))) (l13 : K.lookup f13 = some ⟨oc13, od13, .func (PySem.W.fnOf "with_thing" "with_thing" (defArgs (topS 34)) (defBody (topS 34)) (defScope (topS 34)) .none kV13 dc13 pm13 an13 cd13 ct13), sl13⟩) (c13 : PySem.W.codeIn K cd13 "with_thing" = true) (k13 : PySem.W.keepIn K (.ref f13) = true)
    (a14 : PySem.W.nsIn K mainGlobals "put_in" = some (some (.ref f14))) (l14 : K.lookup f14 = some ⟨oc14, od14, .func (PySem.W.fnOf "put_in" "put_in" (defArgs (topS 35)) (defBody (topS 35)) (defScope (topS 35)) .none kV14 dc14 pm14 an14 cd14 ct14), sl14⟩) (c14 : PySem.W.codeIn K cd14 "put_in" = true) (k14 : PySem.W.keepIn K (.ref f14) = true)
    (a15 : PySem.W.nsIn K mainGlobals "file_at" = some (some (.ref f15))) (l15 : K.lookup f15 = some ⟨oc15, od15, .func (PySem.W.fnOf "file_at" "file_at" (defArgs (topS 36)) (defBody (topS 36)) (defScope (topS 36)) .none kV15 dc15 pm15 an15 cd15 ct15), sl15⟩) (c15 : PySem.W.codeIn K cd15 "file_at" = true) (k15 : PySem.W.keepIn K (.ref f15) = true)
    (a16 : PySem.W.nsIn K mainGlobals "put_leaf" = some (some (.ref f16))) (l16 : K.lookup f16 = some ⟨oc16, od16, .func (PySem.W.fnOf "put_leaf" "put_leaf" (defArgs (topS 37)) (defBody (topS 37)) (defScope (topS 37)) .none kV16 dc16 pm16 an16 cd16 ct16), sl16⟩) (c16 : PySem.W.codeIn K cd16 "put_leaf" = true) (k16 : PySem.W.keepIn K (.ref f16) = true)
    (a17 : PySem.W.nsIn K mainGlobals "trimmed" = some (some (.ref f17))) (l17 : K.lookup f17 = some ⟨oc17, od17, .func (PySem.W.fnOf "trimmed" "trimmed" (defArgs (topS 38)) (defBody (topS 38)) (defScope (topS 38)) .none kV17 dc17 pm17 an17 cd17 ct17), sl17⟩) (c17 : PySem.W.codeIn K cd17 "trimmed" = true) (k17 : PySem.W.keepIn K (.ref f17) = true)
    (a18 : PySem.W.nsIn K mainGlobals "must_fit" = some (some (.ref f18))) (l18 : K.lookup f18 = some ⟨oc18, od18, .func (PySem.W.fnOf "must_fit" "must_fit" (defArgs (topS 39)) (defBody (topS 39)) (defScope (topS 39)) .none kV18 dc18 pm18 an18 cd18 ct18), sl18⟩) (c18 : PySem.W.codeIn K cd18 "must_fit" = true) (k18 : PySem.W.keepIn K (.ref f18) = true)
    (a19 : PySem.W.nsIn K mainGlobals "moved_on" = some (some (.ref f19))) (l19 : K.lookup f19 = some ⟨oc19, od19, .func (PySem.W.fnOf "moved_on" "moved_on" (defArgs (topS 40)) (defBody (topS 40)) (defScope (topS 40)) .none kV19 dc19 pm19 an19 cd19 ct19), sl19⟩) (c19 : PySem.W.codeIn K cd19 "moved_on" = true) (k19 : PySem.W.keepIn K (.ref f19) = true)
    (a20 : PySem.W.nsIn K mainGlobals "copied" = some (some (.ref f20))) (l20 : K.lookup f20 = some ⟨oc20, od20, .func (PySem.W.fnOf "copied" "copied" (defArgs (topS 41)) (defBody (topS 41)) (defScope (topS 41)) .none kV20 dc20 pm20 an20 cd20 ct20), sl20⟩) (c20 : PySem.W.codeIn K cd20 "copied" = true) (k20 : PySem.W.keepIn K (.ref f20) = true)
    (a21 : PySem.W.nsIn K mainGlobals "taken_out" = some (some (.ref f21))) (l21 : K.lookup f21 = some ⟨oc21, od21, .func (PySem.W.fnOf "taken_out" "taken_out" (defArgs (topS 42)) (defBody (topS 42)) (defScope (topS 42)) .none kV21 dc21 pm21 an21 cd21 ct21), sl21⟩) (c21 : PySem.W.codeIn K cd21 "taken_out" = true) (k21 : PySem.W.keepIn K (.ref f21) = true)
    (a22 : PySem.W.nsIn K mainGlobals "done" = some (some (.ref f22))) (l22 : K.lookup f22 = some ⟨oc22, od22, .func (PySem.W.fnOf "done" "done" (defArgs (topS 43)) (defBody (topS 43)) (defScope (topS 43)) .none kV22 dc22 pm22 an22 cd22 ct22), sl22⟩) (c22 : PySem.W.codeIn K cd22 "done" = true) (k22 : PySem.W.keepIn K (.ref f22) = true)
    (a23 : PySem.W.nsIn K mainGlobals "_law_mixed" = some (some (.ref f23))) (l23 : K.lookup f23 = some ⟨oc23, od23, .func (PySem.W.fnOf "_law_mixed" "_law_mixed" (defArgs (topS 45)) (defBody (topS 45)) (defScope (topS 45)) .none kV23 dc23 pm23 an23 cd23 ct23), sl23⟩) (c23 : PySem.W.codeIn K cd23 "_law_mixed" = true) (k23 : PySem.W.keepIn K (.ref f23) = true)
    (a24 : PySem.W.nsIn K mainGlobals "_law_draws" = some (some (.ref f24))) (l24 : K.lookup f24 = some ⟨oc24, od24, .func (PySem.W.fnOf "_law_draws" "_law_draws" (defArgs (topS 46)) (defBody (topS 46)) (defScope (topS 46)) .none kV24 dc24 pm24 an24 cd24 ct24), sl24⟩) (c24 : PySem.W.codeIn K cd24 "_law_draws" = true) (k24 : PySem.W.keepIn K (.ref f24) = true)
    (a25 : PySem.W.nsIn K mainGlobals "_law_next" = some (some (.ref f25))) (l25 : K.lookup f25 = some ⟨oc25, od25, .func (PySem.W.fnOf "_law_next" "_law_next" (defArgs (topS 47)) (defBody (topS 47)) (defScope (topS 47)) .none kV25 dc25 pm25 an25 cd25 ct25), sl25⟩) (c25 : PySem.W.codeIn K cd25 "_law_next" = true) (k25 : PySem.W.keepIn K (.ref f25) = true)
    (a26 : PySem.W.nsIn K mainGlobals "_law_name" = some (some (.ref f26))) (l26 : K.lookup f26 = some ⟨oc26, od26, .func (PySem.W.fnOf "_law_name" "_law_name" (defArgs (topS 48)) (defBody (topS 48)) (defScope (topS 48)) .none kV26 dc26 pm26 an26 cd26 ct26), sl26⟩) (c26 : PySem.W.codeIn K cd26 "_law_name" = true) (k26 : PySem.W.keepIn K (.ref f26) = true)
    (a27 : PySem.W.nsIn K mainGlobals "_law_path" = some (some (.ref f27))) (l27 : K.lookup f27 = some ⟨oc27, od27, .func (PySem.W.fnOf "_law_path" "_law_path" (defArgs (topS 49)) (defBody (topS 49)) (defScope (topS 49)) .none kV27 dc27 pm27 an27 cd27 ct27), sl27⟩) (c27 : PySem.W.codeIn K cd27 "_law_path" = true) (k27 : PySem.W.keepIn K (.ref f27) = true)
    (a28 : PySem.W.nsIn K mainGlobals "_law_leaf" = some (some (.ref f28))) (l28 : K.lookup f28 = some ⟨oc28, od28, .func (PySem.W.fnOf "_law_leaf" "_law_leaf" (defArgs (topS 50)) (defBody (topS 50)) (defScope (topS 50)) .none kV28 dc28 pm28 an28 cd28 ct28), sl28⟩) (c28 : PySem.W.codeIn K cd28 "_law_leaf" = true) (k28 : PySem.W.keepIn K (.ref f28) = true)
    (a29 : PySem.W.nsIn K mainGlobals "_law_refused" = some (some (.ref f29))) (l29 : K.lookup f29 = some ⟨oc29, od29, .func (PySem.W.fnOf "_law_refused" "_law_refused" (defArgs (topS 51)) (defBody (topS 51)) (defScope (topS 51)) .none kV29 dc29 pm29 an29 cd29 ct29), sl29⟩) (c29 : PySem.W.codeIn K cd29 "_law_refused" = true) (k29 : PySem.W.keepIn K (.ref f29) = true)
    (a30 : PySem.W.nsIn K mainGlobals "_law_good" = some (some (.ref f30))) (l30 : K.lookup f30 = some ⟨oc30, od30, .func (PySem.W.fnOf "_law_good" "_law_good" (defArgs (topS 52)) (defBody (topS 52)) (defScope (topS 52)) .none kV30 dc30 pm30 an30 cd30 ct30), sl30⟩) (c30 : PySem.W.codeIn K cd30 "_law_good" = true) (k30 : PySem.W.keepIn K (.ref f30) = true)
    (a31 : PySem.W.nsIn K mainGlobals "_law_bad" = some (some (.ref f31))) (l31 : K.lookup f31 = some ⟨oc31, od31, .func (PySem.W.fnOf "_law_bad" "_law_bad" (defArgs (topS 53)) (defBody (topS 53)) (defScope (topS 53)) .none kV31 dc31 pm31 an31 cd31 ct31), sl31⟩) (c31 : PySem.W.codeIn K cd31 "_law_bad" = true) (k31 : PySem.W.keepIn K (.ref f31) = true)
    (a32 : PySem.W.nsIn K mainGlobals "law" = some (some (.ref f32))) (l32 : K.lookup f32 = some ⟨oc32, od32, .func (PySem.W.fnOf "law" "law" (defArgs (topS 54)) (defBody (topS 54)) (defScope (topS 54)) .none kV32 dc32 pm32 an32 cd32 ct32), sl32⟩) (c32 : PySem.W.codeIn K cd32 "law" = true) (k32 : PySem.W.keepIn K (.ref f32) = true)
    (z0 : PySem.W.nsIn K mainGlobals "len" = some none)
    (z1 : PySem.W.nsIn K mainGlobals "abs" = some none)
    (z2 : PySem.W.nsIn K mainGlobals "min" = some none)
    (z3 : PySem.W.nsIn K mainGlobals "all" = some none)
    (z4 : PySem.W.nsIn K mainGlobals "tuple" = some none)
    (z5 : PySem.W.nsIn K mainGlobals "list" = some none)
    (z6 : PySem.W.nsIn K mainGlobals "str" = some none)
    (z7 : PySem.W.nsIn K mainGlobals "isinstance" = some none)
    (z8 : PySem.W.nsIn K mainGlobals "int" = some none)
    (z9 : PySem.W.nsIn K mainGlobals "bool" = some none)
    (z10 : PySem.W.nsIn K mainGlobals "range" = some none)
    (gg0 : PySem.W.nsIn K mainGlobals "LETTERS" = some (some (.str "abcdefghijklmnopqrstuvwxyz" gt0)))
    (gg1 : PySem.W.nsIn K mainGlobals "MOST_SIGNS" = some (some (.int 8 gt1)))
    (gg2 : PySem.W.nsIn K mainGlobals "MOST_NAMES" = some (some (.int 6 gt2)))
    (gg3 : PySem.W.nsIn K mainGlobals "MOST_NUMBERS" = some (some (.int 8 gt3)))
    (gg4 : PySem.W.nsIn K mainGlobals "MOST_LEAVES" = some (some (.int 64 gt4)))
    (gg5 : PySem.W.nsIn K mainGlobals "MOST_THINGS" = some (some (.int 8 gt5)))
    (gg6 : PySem.W.nsIn K mainGlobals "EMPTY" = some (some (.ref ga6_0)))
    (gl6_0 : K.lookup ga6_0 = some ⟨.type "tuple", go6_0, .seq #[.str "folder" gt6_1, .ref ga6_2] gn6_0, gs6_0⟩)
    (gl6_2 : K.lookup ga6_2 = some ⟨.type "tuple", go6_2, .seq #[] gn6_2, gs6_2⟩)
    (kg0 : PySem.W.nsIn K mainGlobals "SIZES" = some (some (.ref kd0)))
    (kl0 : K.lookup kd0 = some ⟨.type "dict", none, .dict #[⟨kh0_0, .str "folder" kt0_0, .int 2 ku0_0⟩, ⟨kh0_1, .str "file" kt0_1, .int 2 ku0_1⟩, ⟨kh0_2, .str "put" kt0_2, .int 4 ku0_2⟩, ⟨kh0_3, .str "trim" kt0_3, .int 3 ku0_3⟩, ⟨kh0_4, .str "out" kt0_4, .int 2 ku0_4⟩, ⟨kh0_5, .str "move" kt0_5, .int 3 ku0_5⟩, ⟨kh0_6, .str "copy" kt0_6, .int 3 ku0_6⟩] kn0, #[]⟩)
    (kq0_0 : kh0_0 = PyData.keyHash w.params "folder")
    (kq0_1 : kh0_1 = PyData.keyHash w.params "file")
    (kq0_2 : kh0_2 = PyData.keyHash w.params "put")
    (kq0_3 : kh0_3 = PyData.keyHash w.params "trim")
    (kq0_4 : kh0_4 = PyData.keyHash w.params "out")
    (kq0_5 : kh0_5 = PyData.keyHash w.params "move")
    (kq0_6 : kh0_6 = PyData.keyHash w.params "copy")
    (kw0 : (kd0 == sysModules) = false)
    (x0 : PySem.W.nsIn K mainGlobals "NoName" = some (some (.ref C0))) (y0 : PySem.W.excIn K C0 [.type "ValueError", .type "Exception", .type "BaseException", .type "object"] "ValueError.__new__" = true) (u0 : PySem.W.keepIn K (.ref C0) = true) (v0 : PySem.W.subIn K (.ref C0) (.type "BaseException") = some true) (w0 : PySem.W.typeIn K (.ref C0) = some (.type "type")) (ic0 : PySem.W.isClsIn K C0 = true)
    (x1 : PySem.W.nsIn K mainGlobals "NoThing" = some (some (.ref C1))) (y1 : PySem.W.excIn K C1 [.type "ValueError", .type "Exception", .type "BaseException", .type "object"] "ValueError.__new__" = true) (u1 : PySem.W.keepIn K (.ref C1) = true) (v1 : PySem.W.subIn K (.ref C1) (.type "BaseException") = some true) (w1 : PySem.W.typeIn K (.ref C1) = some (.type "type")) (ic1 : PySem.W.isClsIn K C1 = true)
    (x2 : PySem.W.nsIn K mainGlobals "Taken" = some (some (.ref C2))) (y2 : PySem.W.excIn K C2 [.type "ValueError", .type "Exception", .type "BaseException", .type "object"] "ValueError.__new__" = true) (u2 : PySem.W.keepIn K (.ref C2) = true) (v2 : PySem.W.subIn K (.ref C2) (.type "BaseException") = some true) (w2 : PySem.W.typeIn K (.ref C2) = some (.type "type")) (ic2 : PySem.W.isClsIn K C2 = true)
    (x3 : PySem.W.nsIn K mainGlobals "TooMany" = some (some (.ref C3))) (y3 : PySem.W.excIn K C3 [.type "ValueError", .type "Exception", .type "BaseException", .type "object"] "ValueError.__new__" = true) (u3 : PySem.W.keepIn K (.ref C3) = true) (v3 : PySem.W.subIn K (.ref C3) (.type "BaseException") = some true) (w3 : PySem.W.typeIn K (.ref C3) = some (.type "type")) (ic3 : PySem.W.isClsIn K C3 = true)
    (x4 : PySem.W.nsIn K mainGlobals "NoLeaf" = some (some (.ref C4))) (y4 : PySem.W.excIn K C4 [.type "ValueError", .type "Exception", .type "BaseException", .type "object"] "ValueError.__new__" = true) (u4 : PySem.W.keepIn K (.ref C4) = true) (v4 : PySem.W.subIn K (.ref C4) (.type "BaseException") = some true) (w4 : PySem.W.typeIn K (.ref C4) = some (.type "type")) (ic4 : PySem.W.isClsIn K C4 = true)
    (x5 : PySem.W.nsIn K mainGlobals "TooDeep" = some (some (.ref C5))) (y5 : PySem.W.excIn K C5 [.type "ValueError", .type "Exception", .type "BaseException", .type "object"] "ValueError.__new__" = true) (u5 : PySem.W.keepIn K (.ref C5) = true) (v5 : PySem.W.subIn K (.ref C5) (.type "BaseException") = some true) (w5 : PySem.W.typeIn K (.ref C5) = some (.type "type")) (ic5 : PySem.W.isClsIn K C5 = true)
    (x6 : PySem.W.nsIn K mainGlobals "Within" = some (some (.ref C6))) (y6 : PySem.W.excIn K C6 [.type "ValueError", .type "Exception", .type "BaseException", .type "object"] "ValueError.__new__" = true) (u6 : PySem.W.keepIn K (.ref C6) = true) (v6 : PySem.W.subIn K (.ref C6) (.type "BaseException") = some true) (w6 : PySem.W.typeIn K (.ref C6) = some (.type "type")) (ic6 : PySem.W.isClsIn K C6 = true)
    (x7 : PySem.W.nsIn K mainGlobals "NoDeed" = some (some (.ref C7))) (y7 : PySem.W.excIn K C7 [.type "ValueError", .type "Exception", .type "BaseException", .type "object"] "ValueError.__new__" = true) (u7 : PySem.W.keepIn K (.ref C7) = true) (v7 : PySem.W.subIn K (.ref C7) (.type "BaseException") = some true) (w7 : PySem.W.typeIn K (.ref C7) = some (.type "type")) (ic7 : PySem.W.isClsIn K C7 = true)
    (e0_0 : PySem.W.subIn K (.ref C0) (.ref C0) = some true)
    (e0_1 : PySem.W.subIn K (.ref C0) (.ref C1) = some false)
    (e0_2 : PySem.W.subIn K (.ref C0) (.ref C2) = some false)
    (e0_3 : PySem.W.subIn K (.ref C0) (.ref C3) = some false)
    (e0_4 : PySem.W.subIn K (.ref C0) (.ref C4) = some false)
    (e0_5 : PySem.W.subIn K (.ref C0) (.ref C5) = some false)
    (e0_6 : PySem.W.subIn K (.ref C0) (.ref C6) = some false)
    (e0_7 : PySem.W.subIn K (.ref C0) (.ref C7) = some false)
    (e1_0 : PySem.W.subIn K (.ref C1) (.ref C0) = some false)
    (e1_1 : PySem.W.subIn K (.ref C1) (.ref C1) = some true)
    (e1_2 : PySem.W.subIn K (.ref C1) (.ref C2) = some false)
    (e1_3 : PySem.W.subIn K (.ref C1) (.ref C3) = some false)
    (e1_4 : PySem.W.subIn K (.ref C1) (.ref C4) = some false)
    (e1_5 : PySem.W.subIn K (.ref C1) (.ref C5) = some false)
    (e1_6 : PySem.W.subIn K (.ref C1) (.ref C6) = some false)
    (e1_7 : PySem.W.subIn K (.ref C1) (.ref C7) = some false)
    (e2_0 : PySem.W.subIn K (.ref C2) (.ref C0) = some false)
    (e2_1 : PySem.W.subIn K (.ref C2) (.ref C1) = some false)
    (e2_2 : PySem.W.subIn K (.ref C2) (.ref C2) = some true)
    (e2_3 : PySem.W.subIn K (.ref C2) (.ref C3) = some false)
    (e2_4 : PySem.W.subIn K (.ref C2) (.ref C4) = some false)
    (e2_5 : PySem.W.subIn K (.ref C2) (.ref C5) = some false)
    (e2_6 : PySem.W.subIn K (.ref C2) (.ref C6) = some false)
    (e2_7 : PySem.W.subIn K (.ref C2) (.ref C7) = some false)
    (e3_0 : PySem.W.subIn K (.ref C3) (.ref C0) = some false)
    (e3_1 : PySem.W.subIn K (.ref C3) (.ref C1) = some false)
    (e3_2 : PySem.W.subIn K (.ref C3) (.ref C2) = some false)
    (e3_3 : PySem.W.subIn K (.ref C3) (.ref C3) = some true)
    (e3_4 : PySem.W.subIn K (.ref C3) (.ref C4) = some false)
    (e3_5 : PySem.W.subIn K (.ref C3) (.ref C5) = some false)
    (e3_6 : PySem.W.subIn K (.ref C3) (.ref C6) = some false)
    (e3_7 : PySem.W.subIn K (.ref C3) (.ref C7) = some false)
    (e4_0 : PySem.W.subIn K (.ref C4) (.ref C0) = some false)
    (e4_1 : PySem.W.subIn K (.ref C4) (.ref C1) = some false)
    (e4_2 : PySem.W.subIn K (.ref C4) (.ref C2) = some false)
    (e4_3 : PySem.W.subIn K (.ref C4) (.ref C3) = some false)
    (e4_4 : PySem.W.subIn K (.ref C4) (.ref C4) = some true)
    (e4_5 : PySem.W.subIn K (.ref C4) (.ref C5) = some false)
    (e4_6 : PySem.W.subIn K (.ref C4) (.ref C6) = some false)
    (e4_7 : PySem.W.subIn K (.ref C4) (.ref C7) = some false)
    (e5_0 : PySem.W.subIn K (.ref C5) (.ref C0) = some false)
    (e5_1 : PySem.W.subIn K (.ref C5) (.ref C1) = some false)
    (e5_2 : PySem.W.subIn K (.ref C5) (.ref C2) = some false)
    (e5_3 : PySem.W.subIn K (.ref C5) (.ref C3) = some false)
    (e5_4 : PySem.W.subIn K (.ref C5) (.ref C4) = some false)
    (e5_5 : PySem.W.subIn K (.ref C5) (.ref C5) = some true)
    (e5_6 : PySem.W.subIn K (.ref C5) (.ref C6) = some false)
    (e5_7 : PySem.W.subIn K (.ref C5) (.ref C7) = some false)
    (e6_0 : PySem.W.subIn K (.ref C6) (.ref C0) = some false)
    (e6_1 : PySem.W.subIn K (.ref C6) (.ref C1) = some false)
    (e6_2 : PySem.W.subIn K (.ref C6) (.ref C2) = some false)
    (e6_3 : PySem.W.subIn K (.ref C6) (.ref C3) = some false)
    (e6_4 : PySem.W.subIn K (.ref C6) (.ref C4) = some false)
    (e6_5 : PySem.W.subIn K (.ref C6) (.ref C5) = some false)
    (e6_6 : PySem.W.subIn K (.ref C6) (.ref C6) = some true)
    (e6_7 : PySem.W.subIn K (.ref C6) (.ref C7) = some false)
    (e7_0 : PySem.W.subIn K (.ref C7) (.ref C0) = some false)
    (e7_1 : PySem.W.subIn K (.ref C7) (.ref C1) = some false)
    (e7_2 : PySem.W.subIn K (.ref C7) (.ref C2) = some false)
    (e7_3 : PySem.W.subIn K (.ref C7) (.ref C3) = some false)
    (e7_4 : PySem.W.subIn K (.ref C7) (.ref C4) = some false)
    (e7_5 : PySem.W.subIn K (.ref C7) (.ref C5) = some false)
    (e7_6 : PySem.W.subIn K (.ref C7) (.ref C6) = some false)
    (e7_7 : PySem.W.subIn K (.ref C7) (.ref C7) = some true)
    : ∃ (cls : Nat → Value) (fd : FuncData), (∀ (s : Shared) (v : Value), BindsTo s fd ⟨[v], []⟩ [("_law_script", v)]) ∧ ∀ base : Heap, K.In base → base.Ns mainGlobals mg → FnOk l.prog w K mg base (L2.CX l.prog w) 12 fa fd ["_law_script"] (spF K cls (Phi tbl 12 32)) := by
  have e := hfa.symm.trans (PySem.W.mg_of X G a32)
  cases e
  have D0 : DefOk K mg cc "is_name" d_is_name := defOk_mk X G sc_is_name rfl rfl rd_is_name (fun _ _ _ _ _ _ us hl => match us, hl with | [_], _ => rfl) a0 l0 c0 k0
  have D1 : DefOk K mg cc "code_of" d_code_of := defOk_mk X G sc_code_of rfl rfl rd_code_of (fun _ _ _ _ _ _ us hl => match us, hl with | [_], _ => rfl) a1 l1 c1 k1
  have D2 : DefOk K mg cc "is_path" d_is_path := defOk_mk X G sc_is_path rfl rfl rd_is_path (fun _ _ _ _ _ _ us hl => match us, hl with | [_], _ => rfl) a2 l2 c2 k2
  have D3 : DefOk K mg cc "is_number" d_is_number := defOk_mk X G sc_is_number rfl rfl rd_is_number (fun _ _ _ _ _ _ us hl => match us, hl with | [_], _ => rfl) a3 l3 c3 k3
  have D4 : DefOk K mg cc "is_leaf" d_is_leaf := defOk_mk X G sc_is_leaf rfl rfl rd_is_leaf (fun _ _ _ _ _ _ us hl => match us, hl with | [_], _ => rfl) a4 l4 c4 k4
  have D5 : DefOk K mg cc "named" d_named := defOk_mk X G sc_named rfl rfl rd_named (fun _ _ _ _ _ _ us hl => match us, hl with | [_, _], _ => rfl) a5 l5 c5 k5
  have D6 : DefOk K mg cc "thing_at" d_thing_at := defOk_mk X G sc_thing_at rfl rfl rd_thing_at (fun _ _ _ _ _ _ us hl => match us, hl with | [_, _], _ => rfl) a6 l6 c6 k6
  have D7 : DefOk K mg cc "is_folder_at" d_is_folder_at := defOk_mk X G sc_is_folder_at rfl rfl rd_is_folder_at (fun _ _ _ _ _ _ us hl => match us, hl with | [_, _], _ => rfl) a7 l7 c7 k7
  have D8 : DefOk K mg cc "depth_of" d_depth_of := defOk_mk X G sc_depth_of rfl rfl rd_depth_of (fun _ _ _ _ _ _ us hl => match us, hl with | [_], _ => rfl) a8 l8 c8 k8
  have D9 : DefOk K mg cc "is_way" d_is_way := defOk_mk X G sc_is_way rfl rfl rd_is_way (fun _ _ _ _ _ _ us hl => match us, hl with | [_], _ => rfl) a9 l9 c9 k9
  have D10 : DefOk K mg cc "is_count" d_is_count := defOk_mk X G sc_is_count rfl rfl rd_is_count (fun _ _ _ _ _ _ us hl => match us, hl with | [_], _ => rfl) a10 l10 c10 k10
  have D11 : DefOk K mg cc "is_deed" d_is_deed := defOk_mk X G sc_is_deed rfl rfl rd_is_deed (fun _ _ _ _ _ _ us hl => match us, hl with | [_], _ => rfl) a11 l11 c11 k11
  have D12 : DefOk K mg cc "with_row" d_with_row := defOk_mk X G sc_with_row rfl rfl rd_with_row (fun _ _ _ _ _ _ us hl => match us, hl with | [_, _, _], _ => rfl) a12 l12 c12 k12
  have D13 : DefOk K mg cc "with_thing" d_with_thing := defOk_mk X G sc_with_thing rfl rfl rd_with_thing (fun _ _ _ _ _ _ us hl => match us, hl with | [_, _, _], _ => rfl) a13 l13 c13 k13
  have D14 : DefOk K mg cc "put_in" d_put_in := defOk_mk X G sc_put_in rfl rfl rd_put_in (fun _ _ _ _ _ _ us hl => match us, hl with | [_, _, _], _ => rfl) a14 l14 c14 k14
  have D15 : DefOk K mg cc "file_at" d_file_at := defOk_mk X G sc_file_at rfl rfl rd_file_at (fun _ _ _ _ _ _ us hl => match us, hl with | [_, _], _ => rfl) a15 l15 c15 k15
  have D16 : DefOk K mg cc "put_leaf" d_put_leaf := defOk_mk X G sc_put_leaf rfl rfl rd_put_leaf (fun _ _ _ _ _ _ us hl => match us, hl with | [_, _, _, _], _ => rfl) a16 l16 c16 k16
  have D17 : DefOk K mg cc "trimmed" d_trimmed := defOk_mk X G sc_trimmed rfl rfl rd_trimmed (fun _ _ _ _ _ _ us hl => match us, hl with | [_, _, _], _ => rfl) a17 l17 c17 k17
  have D18 : DefOk K mg cc "must_fit" d_must_fit := defOk_mk X G sc_must_fit rfl rfl rd_must_fit (fun _ _ _ _ _ _ us hl => match us, hl with | [_, _, _, _], _ => rfl) a18 l18 c18 k18
  have D19 : DefOk K mg cc "moved_on" d_moved_on := defOk_mk X G sc_moved_on rfl rfl rd_moved_on (fun _ _ _ _ _ _ us hl => match us, hl with | [_, _, _], _ => rfl) a19 l19 c19 k19
  have D20 : DefOk K mg cc "copied" d_copied := defOk_mk X G sc_copied rfl rfl rd_copied (fun _ _ _ _ _ _ us hl => match us, hl with | [_, _, _], _ => rfl) a20 l20 c20 k20
  have D21 : DefOk K mg cc "taken_out" d_taken_out := defOk_mk X G sc_taken_out rfl rfl rd_taken_out (fun _ _ _ _ _ _ us hl => match us, hl with | [_, _], _ => rfl) a21 l21 c21 k21
  have D22 : DefOk K mg cc "done" d_done := defOk_mk X G sc_done rfl rfl rd_done (fun _ _ _ _ _ _ us hl => match us, hl with | [_, _], _ => rfl) a22 l22 c22 k22
  have D23 : DefOk K mg cc "_law_mixed" d__law_mixed := defOk_mk X G sc__law_mixed rfl rfl rd__law_mixed (fun _ _ _ _ _ _ us hl => match us, hl with | [_, _], _ => rfl) a23 l23 c23 k23
  have D24 : DefOk K mg cc "_law_draws" d__law_draws := defOk_mk X G sc__law_draws rfl rfl rd__law_draws (fun _ _ _ _ _ _ us hl => match us, hl with | [_], _ => rfl) a24 l24 c24 k24
  have D25 : DefOk K mg cc "_law_next" d__law_next := defOk_mk X G sc__law_next rfl rfl rd__law_next (fun _ _ _ _ _ _ us hl => match us, hl with | [_], _ => rfl) a25 l25 c25 k25
  have D26 : DefOk K mg cc "_law_name" d__law_name := defOk_mk X G sc__law_name rfl rfl rd__law_name (fun _ _ _ _ _ _ us hl => match us, hl with | [_], _ => rfl) a26 l26 c26 k26
  have D27 : DefOk K mg cc "_law_path" d__law_path := defOk_mk X G sc__law_path rfl rfl rd__law_path (fun _ _ _ _ _ _ us hl => match us, hl with | [_], _ => rfl) a27 l27 c27 k27
  have D28 : DefOk K mg cc "_law_leaf" d__law_leaf := defOk_mk X G sc__law_leaf rfl rfl rd__law_leaf (fun _ _ _ _ _ _ us hl => match us, hl with | [_], _ => rfl) a28 l28 c28 k28
  have D29 : DefOk K mg cc "_law_refused" d__law_refused := defOk_mk X G sc__law_refused rfl rfl rd__law_refused (fun _ _ _ _ _ _ us hl => match us, hl with | [_, _], _ => rfl) a29 l29 c29 k29
  have D30 : DefOk K mg cc "_law_good" d__law_good := defOk_mk X G sc__law_good rfl rfl rd__law_good (fun _ _ _ _ _ _ us hl => match us, hl with | [_], _ => rfl) a30 l30 c30 k30
  have D31 : DefOk K mg cc "_law_bad" d__law_bad := defOk_mk X G sc__law_bad rfl rfl rd__law_bad (fun _ _ _ _ _ _ us hl => match us, hl with | [_], _ => rfl) a31 l31 c31 k31
  have D32 : DefOk K mg cc "law" d_law := defOk_mk X G sc_law rfl rfl rd_law (fun _ _ _ _ _ _ us hl => match us, hl with | [_], _ => rfl) a32 l32 c32 k32
  have defs : ∀ (i : Nat) (x : Str), cc.fns[i]? = some x → ∃ d, tbl[i]? = some d ∧ DefOk K mg cc x d := fun i x hx => by
    match i, hx with
    | 0, hx => cases hx; exact ⟨_, rfl, D0⟩
    | 1, hx => cases hx; exact ⟨_, rfl, D1⟩
    | 2, hx => cases hx; exact ⟨_, rfl, D2⟩
    | 3, hx => cases hx; exact ⟨_, rfl, D3⟩
    | 4, hx => cases hx; exact ⟨_, rfl, D4⟩
    | 5, hx => cases hx; exact ⟨_, rfl, D5⟩
    | 6, hx => cases hx; exact ⟨_, rfl, D6⟩
    | 7, hx => cases hx; exact ⟨_, rfl, D7⟩
    | 8, hx => cases hx; exact ⟨_, rfl, D8⟩
    | 9, hx => cases hx; exact ⟨_, rfl, D9⟩
    | 10, hx => cases hx; exact ⟨_, rfl, D10⟩
    | 11, hx => cases hx; exact ⟨_, rfl, D11⟩
    | 12, hx => cases hx; exact ⟨_, rfl, D12⟩
    | 13, hx => cases hx; exact ⟨_, rfl, D13⟩
    | 14, hx => cases hx; exact ⟨_, rfl, D14⟩
    | 15, hx => cases hx; exact ⟨_, rfl, D15⟩
    | 16, hx => cases hx; exact ⟨_, rfl, D16⟩
    | 17, hx => cases hx; exact ⟨_, rfl, D17⟩
    | 18, hx => cases hx; exact ⟨_, rfl, D18⟩
    | 19, hx => cases hx; exact ⟨_, rfl, D19⟩
    | 20, hx => cases hx; exact ⟨_, rfl, D20⟩
    | 21, hx => cases hx; exact ⟨_, rfl, D21⟩
    | 22, hx => cases hx; exact ⟨_, rfl, D22⟩
    | 23, hx => cases hx; exact ⟨_, rfl, D23⟩
    | 24, hx => cases hx; exact ⟨_, rfl, D24⟩
    | 25, hx => cases hx; exact ⟨_, rfl, D25⟩
    | 26, hx => cases hx; exact ⟨_, rfl, D26⟩
    | 27, hx => cases hx; exact ⟨_, rfl, D27⟩
    | 28, hx => cases hx; exact ⟨_, rfl, D28⟩
    | 29, hx => cases hx; exact ⟨_, rfl, D29⟩
    | 30, hx => cases hx; exact ⟨_, rfl, D30⟩
    | 31, hx => cases hx; exact ⟨_, rfl, D31⟩
    | 32, hx => cases hx; exact ⟨_, rfl, D32⟩
    | n + 33, hx => cases hx
  have blt : ∀ x ∈ cc.blt, mg x = none := fun x hx => by
    simp only [cc, List.mem_cons, List.not_mem_nil, or_false] at hx
    rcases hx with rfl | rfl | rfl | rfl | rfl | rfl | rfl | rfl | rfl | rfl | rfl
    · exact PySem.W.mg_none_of X G z0
    · exact PySem.W.mg_none_of X G z1
    · exact PySem.W.mg_none_of X G z2
    · exact PySem.W.mg_none_of X G z3
    · exact PySem.W.mg_none_of X G z4
    · exact PySem.W.mg_none_of X G z5
    · exact PySem.W.mg_none_of X G z6
    · exact PySem.W.mg_none_of X G z7
    · exact PySem.W.mg_none_of X G z8
    · exact PySem.W.mg_none_of X G z9
    · exact PySem.W.mg_none_of X G z10
  have gl : ∀ (x : Str) (d : D), cc.gl.lookup x = some d → GOk K mg x d := fun x d hx => by
    simp only [cc, List.lookup_cons, List.lookup_nil] at hx
    split at hx
    · rename_i ee
      have ee := eq_of_beq ee
      subst ee
      cases hx
      exact ⟨_, .str (⟨#[97, 98, 99, 100, 101, 102, 103, 104, 105, 106, 107, 108, 109, 110, 111, 112, 113, 114, 115, 116, 117, 118, 119, 120, 121, 122]⟩ : Str), PySem.W.mg_of X G gg0, ⟨_, rfl⟩, fun _ _ => .str _⟩
    split at hx
    · rename_i ee
      have ee := eq_of_beq ee
      subst ee
      cases hx
      exact ⟨_, .int 8, PySem.W.mg_of X G gg1, ⟨_, rfl⟩, fun _ _ => .int _⟩
    split at hx
    · rename_i ee
      have ee := eq_of_beq ee
      subst ee
      cases hx
      exact ⟨_, .int 6, PySem.W.mg_of X G gg2, ⟨_, rfl⟩, fun _ _ => .int _⟩
    split at hx
    · rename_i ee
      have ee := eq_of_beq ee
      subst ee
      cases hx
      exact ⟨_, .int 8, PySem.W.mg_of X G gg3, ⟨_, rfl⟩, fun _ _ => .int _⟩
    split at hx
    · rename_i ee
      have ee := eq_of_beq ee
      subst ee
      cases hx
      exact ⟨_, .int 64, PySem.W.mg_of X G gg4, ⟨_, rfl⟩, fun _ _ => .int _⟩
    split at hx
    · rename_i ee
      have ee := eq_of_beq ee
      subst ee
      cases hx
      exact ⟨_, .int 8, PySem.W.mg_of X G gg5, ⟨_, rfl⟩, fun _ _ => .int _⟩
    split at hx
    · rename_i ee
      have ee := eq_of_beq ee
      subst ee
      cases hx
      exact ⟨_, .ref ga6_0, PySem.W.mg_of X G gg6, rfl, (ktup_mk (ds := [.str (⟨#[102, 111, 108, 100, 101, 114]⟩ : Str), .tup []]) (vs := [.str (⟨#[102, 111, 108, 100, 101, 114]⟩ : Str), .ref ga6_2]) gl6_0 (by simp) (.cons ⟨_, rfl⟩ (.cons rfl .nil)) (fun _ _ => (.cons (.str _) (.cons ((ktup_mk (ds := []) (vs := []) gl6_2 (by simp) .nil (fun _ _ => .nil)) _ _) .nil))))⟩
    cases hx
  have kd : ∀ (x : Str) (t : List (Str × D)), cc.kd.lookup x = some t → KOk K w mg x t := fun x t hx => by
    simp only [cc, List.lookup_cons, List.lookup_nil] at hx
    split at hx
    · rename_i ee
      have ee := eq_of_beq ee
      subst ee
      cases hx
      refine kok_mk ([⟨"folder", kh0_0, kt0_0, .int 2 ku0_0, .int 2⟩, ⟨"file", kh0_1, kt0_1, .int 2 ku0_1, .int 2⟩, ⟨"put", kh0_2, kt0_2, .int 4 ku0_2, .int 4⟩, ⟨"trim", kh0_3, kt0_3, .int 3 ku0_3, .int 3⟩, ⟨"out", kh0_4, kt0_4, .int 2 ku0_4, .int 2⟩, ⟨"move", kh0_5, kt0_5, .int 3 ku0_5, .int 3⟩, ⟨"copy", kh0_6, kt0_6, .int 3 ku0_6, .int 3⟩] : List KRow) rfl (PySem.W.mg_of X G kg0) kl0 ?_ kw0 ?_
      · intro r hr
        simp only [List.mem_cons, List.not_mem_nil, or_false] at hr
        rcases hr with rfl | rfl | rfl | rfl | rfl | rfl | rfl
        · exact kq0_0
        · exact kq0_1
        · exact kq0_2
        · exact kq0_3
        · exact kq0_4
        · exact kq0_5
        · exact kq0_6
      · intro r hr
        simp only [List.mem_cons, List.not_mem_nil, or_false] at hr
        rcases hr with rfl | rfl | rfl | rfl | rfl | rfl | rfl
        · exact ⟨.int 2, ⟨_, rfl⟩, fun _ _ => .int _⟩
        · exact ⟨.int 2, ⟨_, rfl⟩, fun _ _ => .int _⟩
        · exact ⟨.int 4, ⟨_, rfl⟩, fun _ _ => .int _⟩
        · exact ⟨.int 3, ⟨_, rfl⟩, fun _ _ => .int _⟩
        · exact ⟨.int 2, ⟨_, rfl⟩, fun _ _ => .int _⟩
        · exact ⟨.int 3, ⟨_, rfl⟩, fun _ _ => .int _⟩
        · exact ⟨.int 3, ⟨_, rfl⟩, fun _ _ => .int _⟩
    cases hx
  have xcs : ∀ (i : Nat) (x : Str), cc.xcs[i]? = some x → XOk K mg ((fun n : Nat => match min n 7 with | 0 => Value.ref C0 | 1 => Value.ref C1 | 2 => Value.ref C2 | 3 => Value.ref C3 | 4 => Value.ref C4 | 5 => Value.ref C5 | 6 => Value.ref C6 | 7 => Value.ref C7 | _ => Value.ref C0) i) x := fun i x hx => by
    match i, hx with
    | 0, hx => cases hx; exact ⟨C0, rfl, PySem.W.mg_of X G x0, y0, u0, v0, w0⟩
    | 1, hx => cases hx; exact ⟨C1, rfl, PySem.W.mg_of X G x1, y1, u1, v1, w1⟩
    | 2, hx => cases hx; exact ⟨C2, rfl, PySem.W.mg_of X G x2, y2, u2, v2, w2⟩
    | 3, hx => cases hx; exact ⟨C3, rfl, PySem.W.mg_of X G x3, y3, u3, v3, w3⟩
    | 4, hx => cases hx; exact ⟨C4, rfl, PySem.W.mg_of X G x4, y4, u4, v4, w4⟩
    | 5, hx => cases hx; exact ⟨C5, rfl, PySem.W.mg_of X G x5, y5, u5, v5, w5⟩
    | 6, hx => cases hx; exact ⟨C6, rfl, PySem.W.mg_of X G x6, y6, u6, v6, w6⟩
    | 7, hx => cases hx; exact ⟨C7, rfl, PySem.W.mg_of X G x7, y7, u7, v7, w7⟩
    | n + 8, hx => cases hx
  have sub : cc.xcs ≠ [] → ∀ a b, PySem.W.exmOne K ((fun n : Nat => match min n 7 with | 0 => Value.ref C0 | 1 => Value.ref C1 | 2 => Value.ref C2 | 3 => Value.ref C3 | 4 => Value.ref C4 | 5 => Value.ref C5 | 6 => Value.ref C6 | 7 => Value.ref C7 | _ => Value.ref C0) a) ((fun n : Nat => match min n 7 with | 0 => Value.ref C0 | 1 => Value.ref C1 | 2 => Value.ref C2 | 3 => Value.ref C3 | 4 => Value.ref C4 | 5 => Value.ref C5 | 6 => Value.ref C6 | 7 => Value.ref C7 | _ => Value.ref C0) b) = some (cc.sub a b) := fun hne a b => by
    show _ = some (Sub a b)
    unfold Sub
    dsimp only
    have ha : min a 7 < 8 := by omega
    have hb : min b 7 < 8 := by omega
    revert ha hb
    generalize min a 7 = a' 
    generalize min b 7 = b' 
    intro ha hb
    match a', b', ha, hb with
    | 0, 0, _, _ => exact exm_mk v0 ic0 w0 e0_0
    | 0, 1, _, _ => exact exm_mk v1 ic1 w1 e0_1
    | 0, 2, _, _ => exact exm_mk v2 ic2 w2 e0_2
    | 0, 3, _, _ => exact exm_mk v3 ic3 w3 e0_3
    | 0, 4, _, _ => exact exm_mk v4 ic4 w4 e0_4
    | 0, 5, _, _ => exact exm_mk v5 ic5 w5 e0_5
    | 0, 6, _, _ => exact exm_mk v6 ic6 w6 e0_6
    | 0, 7, _, _ => exact exm_mk v7 ic7 w7 e0_7
    | 1, 0, _, _ => exact exm_mk v0 ic0 w0 e1_0
    | 1, 1, _, _ => exact exm_mk v1 ic1 w1 e1_1
    | 1, 2, _, _ => exact exm_mk v2 ic2 w2 e1_2
    | 1, 3, _, _ => exact exm_mk v3 ic3 w3 e1_3
    | 1, 4, _, _ => exact exm_mk v4 ic4 w4 e1_4
    | 1, 5, _, _ => exact exm_mk v5 ic5 w5 e1_5
    | 1, 6, _, _ => exact exm_mk v6 ic6 w6 e1_6
    | 1, 7, _, _ => exact exm_mk v7 ic7 w7 e1_7
    | 2, 0, _, _ => exact exm_mk v0 ic0 w0 e2_0
    | 2, 1, _, _ => exact exm_mk v1 ic1 w1 e2_1
    | 2, 2, _, _ => exact exm_mk v2 ic2 w2 e2_2
    | 2, 3, _, _ => exact exm_mk v3 ic3 w3 e2_3
    | 2, 4, _, _ => exact exm_mk v4 ic4 w4 e2_4
    | 2, 5, _, _ => exact exm_mk v5 ic5 w5 e2_5
    | 2, 6, _, _ => exact exm_mk v6 ic6 w6 e2_6
    | 2, 7, _, _ => exact exm_mk v7 ic7 w7 e2_7
    | 3, 0, _, _ => exact exm_mk v0 ic0 w0 e3_0
    | 3, 1, _, _ => exact exm_mk v1 ic1 w1 e3_1
    | 3, 2, _, _ => exact exm_mk v2 ic2 w2 e3_2
    | 3, 3, _, _ => exact exm_mk v3 ic3 w3 e3_3
    | 3, 4, _, _ => exact exm_mk v4 ic4 w4 e3_4
    | 3, 5, _, _ => exact exm_mk v5 ic5 w5 e3_5
    | 3, 6, _, _ => exact exm_mk v6 ic6 w6 e3_6
    | 3, 7, _, _ => exact exm_mk v7 ic7 w7 e3_7
    | 4, 0, _, _ => exact exm_mk v0 ic0 w0 e4_0
    | 4, 1, _, _ => exact exm_mk v1 ic1 w1 e4_1
    | 4, 2, _, _ => exact exm_mk v2 ic2 w2 e4_2
    | 4, 3, _, _ => exact exm_mk v3 ic3 w3 e4_3
    | 4, 4, _, _ => exact exm_mk v4 ic4 w4 e4_4
    | 4, 5, _, _ => exact exm_mk v5 ic5 w5 e4_5
    | 4, 6, _, _ => exact exm_mk v6 ic6 w6 e4_6
    | 4, 7, _, _ => exact exm_mk v7 ic7 w7 e4_7
    | 5, 0, _, _ => exact exm_mk v0 ic0 w0 e5_0
    | 5, 1, _, _ => exact exm_mk v1 ic1 w1 e5_1
    | 5, 2, _, _ => exact exm_mk v2 ic2 w2 e5_2
    | 5, 3, _, _ => exact exm_mk v3 ic3 w3 e5_3
    | 5, 4, _, _ => exact exm_mk v4 ic4 w4 e5_4
    | 5, 5, _, _ => exact exm_mk v5 ic5 w5 e5_5
    | 5, 6, _, _ => exact exm_mk v6 ic6 w6 e5_6
    | 5, 7, _, _ => exact exm_mk v7 ic7 w7 e5_7
    | 6, 0, _, _ => exact exm_mk v0 ic0 w0 e6_0
    | 6, 1, _, _ => exact exm_mk v1 ic1 w1 e6_1
    | 6, 2, _, _ => exact exm_mk v2 ic2 w2 e6_2
    | 6, 3, _, _ => exact exm_mk v3 ic3 w3 e6_3
    | 6, 4, _, _ => exact exm_mk v4 ic4 w4 e6_4
    | 6, 5, _, _ => exact exm_mk v5 ic5 w5 e6_5
    | 6, 6, _, _ => exact exm_mk v6 ic6 w6 e6_6
    | 6, 7, _, _ => exact exm_mk v7 ic7 w7 e6_7
    | 7, 0, _, _ => exact exm_mk v0 ic0 w0 e7_0
    | 7, 1, _, _ => exact exm_mk v1 ic1 w1 e7_1
    | 7, 2, _, _ => exact exm_mk v2 ic2 w2 e7_2
    | 7, 3, _, _ => exact exm_mk v3 ic3 w3 e7_3
    | 7, 4, _, _ => exact exm_mk v4 ic4 w4 e7_4
    | 7, 5, _, _ => exact exm_mk v5 ic5 w5 e7_5
    | 7, 6, _, _ => exact exm_mk v6 ic6 w6 e7_6
    | 7, 7, _, _ => exact exm_mk v7 ic7 w7 e7_7
    | 0, n + 8, _, hb => omega
    | 1, n + 8, _, hb => omega
    | 2, n + 8, _, hb => omega
    | 3, n + 8, _, hb => omega
    | 4, n + 8, _, hb => omega
    | 5, n + 8, _, hb => omega
    | 6, n + 8, _, hb => omega
    | 7, n + 8, _, hb => omega
    | n + 8, _, ha, _ => omega
  obtain ⟨s, f, fd, N, ps, m, h1, h2, h3, _⟩ := D32.ex
  refine ⟨(fun n : Nat => match min n 7 with | 0 => Value.ref C0 | 1 => Value.ref C1 | 2 => Value.ref C2 | 3 => Value.ref C3 | 4 => Value.ref C4 | 5 => Value.ref C5 | 6 => Value.ref C6 | 7 => Value.ref C7 | _ => Value.ref C0), PySem.W.fnOf "law" "law" (defArgs (topS 54)) (defBody (topS 54)) (defScope (topS 54)) .none kV32 dc32 pm32 an32 cd32 ct32, fun s v => .of_eq rfl, fun base _ _ => ?_⟩
  have F := fun_mk (st := topS 54) l32 c32 k32
  have ee : Phi tbl 12 32 = runDef d_law (Phi tbl 11) := by funext ds st; exact phi_law 11 ds st
  rw [ee]
  exact def_ok ⟨blt, fun j y hy => phi_ok blt gl kd xcs sub defs 11 j y hy, gl, kd, xcs, sub⟩ F sc_law rfl rfl (rd_law _)
end LK09
open PySem PySem.W PyProof.Rows
theorem PySem.Challenge.cw_snapshelf_k09_what_is_a_deed_holds : PySem.Challenge.rw_snapshelf_k09_what_is_a_deed.Holds := by
  w_on; o_law; k_head; (case hw => w_witness2)
  k_fill
  refine MI.walk_ofX (l := PySem.Challenge.rw_snapshelf_k09_what_is_a_deed) (n := 63) (k := 12) (x := "_law_script") (f := MI.Phi LK09.tbl 12 32) rfl (by decide) rfl ⟨rfl, by decide, by decide⟩ (fun w h Y => PySem.W.km_in_of Y) ?F (fun ns hl => LK09.law_pure ns hl)
  case F =>
    intro w mg fa h KX G hmg
    refine' LK09.all_mk KX G hmg ?a0 ?l0 ?c0 ?k0 ?a1 ?l1 ?c1 ?k1 ?a2 ?l2 ?c2 ?k2 ?a3 ?l3 ?c3 ?k3 ?a4 ?l4 ?c4 ?k4 ?a5 ?l5 ?c5 ?k5 ?a6 ?l6 ?c6 ?k6 ?a7 ?l7 ?c7 ?k7 ?a8 ?l8 ?c8 ?k8 ?a9 ?l9 ?c9 ?k9 ?a10 ?l10 ?c10 ?k10 ?a11 ?l11 ?c11 ?k11 ?a12 ?l12 ?c12 ?k12 ?a13 ?l13 ?c13 ?k13 ?a14 ?l14 ?c14 ?k14 ?a15 ?l15 ?c15 ?k15 ?a16 ?l16 ?c16 ?k16 ?a17 ?l17 ?c17 ?k17 ?a18 ?l18 ?c18 ?k18 ?a19 ?l19 ?c19 ?k19 ?a20 ?l20 ?c20 ?k20 ?a21 ?l21 ?c21 ?k21 ?a22 ?l22 ?c22 ?k22 ?a23 ?l23 ?c23 ?k23 ?a24 ?l24 ?c24 ?k24 ?a25 ?l25 ?c25 ?k25 ?a26 ?l26 ?c26 ?k26 ?a27 ?l27 ?c27 ?k27 ?a28 ?l28 ?c28 ?k28 ?a29 ?l29 ?c29 ?k29 ?a30 ?l30 ?c30 ?k30 ?a31 ?l31 ?c31 ?k31 ?a32 ?l32 ?c32 ?k32 ?z0 ?z1 ?z2 ?z3 ?z4 ?z5 ?z6 ?z7 ?z8 ?z9 ?z10 ?gg0 ?gg1 ?gg2 ?gg3 ?gg4 ?gg5 ?gg6 ?gl6_0 ?gl6_2 ?kg0 ?kl0 ?kq0_0 ?kq0_1 ?kq0_2 ?kq0_3 ?kq0_4 ?kq0_5 ?kq0_6 ?kw0 ?x0 ?y0 ?u0 ?v0 ?w0 ?ic0 ?x1 ?y1 ?u1 ?v1 ?w1 ?ic1 ?x2 ?y2 ?u2 ?v2 ?w2 ?ic2 ?x3 ?y3 ?u3 ?v3 ?w3 ?ic3 ?x4 ?y4 ?u4 ?v4 ?w4 ?ic4 ?x5 ?y5 ?u5 ?v5 ?w5 ?ic5 ?x6 ?y6 ?u6 ?v6 ?w6 ?ic6 ?x7 ?y7 ?u7 ?v7 ?w7 ?ic7 ?e0_0 ?e0_1 ?e0_2 ?e0_3 ?e0_4 ?e0_5 ?e0_6 ?e0_7 ?e1_0 ?e1_1 ?e1_2 ?e1_3 ?e1_4 ?e1_5 ?e1_6 ?e1_7 ?e2_0 ?e2_1 ?e2_2 ?e2_3 ?e2_4 ?e2_5 ?e2_6 ?e2_7 ?e3_0 ?e3_1 ?e3_2 ?e3_3 ?e3_4 ?e3_5 ?e3_6 ?e3_7 ?e4_0 ?e4_1 ?e4_2 ?e4_3 ?e4_4 ?e4_5 ?e4_6 ?e4_7 ?e5_0 ?e5_1 ?e5_2 ?e5_3 ?e5_4 ?e5_5 ?e5_6 ?e5_7 ?e6_0 ?e6_1 ?e6_2 ?e6_3 ?e6_4 ?e6_5 ?e6_6 ?e6_7 ?e7_0 ?e7_1 ?e7_2 ?e7_3 ?e7_4 ?e7_5 ?e7_6 ?e7_7
    (case a0 => k_is); (case l0 => k_is); (case c0 => k_is); (case k0 => k_is); (case a1 => k_is); (case l1 => k_is); (case c1 => k_is); (case k1 => k_is); (case a2 => k_is); (case l2 => k_is); (case c2 => k_is); (case k2 => k_is); (case a3 => k_is); (case l3 => k_is); (case c3 => k_is); (case k3 => k_is); (case a4 => k_is); (case l4 => k_is); (case c4 => k_is); (case k4 => k_is); (case a5 => k_is); (case l5 => k_is); (case c5 => k_is); (case k5 => k_is); (case a6 => k_is); (case l6 => k_is); (case c6 => k_is); (case k6 => k_is); (case a7 => k_is); (case l7 => k_is); (case c7 => k_is); (case k7 => k_is); (case a8 => k_is); (case l8 => k_is); (case c8 => k_is); (case k8 => k_is); (case a9 => k_is); (case l9 => k_is); (case c9 => k_is); (case k9 => k_is); (case a10 => k_is); (case l10 => k_is); (case c10 => k_is); (case k10 => k_is); (case a11 => k_is); (case l11 => k_is); (case c11 => k_is); (case k11 => k_is); (case a12 => k_is); (case l12 => k_is); (case c12 => k_is); (case k12 => k_is); (case a13 => k_is); (case l13 => k_is); (case c13 => k_is); (case k13 => k_is); (case a14 => k_is); (case l14 => k_is); (case c14 => k_is); (case k14 => k_is); (case a15 => k_is); (case l15 => k_is); (case c15 => k_is); (case k15 => k_is); (case a16 => k_is); (case l16 => k_is); (case c16 => k_is); (case k16 => k_is); (case a17 => k_is); (case l17 => k_is); (case c17 => k_is); (case k17 => k_is); (case a18 => k_is); (case l18 => k_is); (case c18 => k_is); (case k18 => k_is); (case a19 => k_is); (case l19 => k_is); (case c19 => k_is); (case k19 => k_is); (case a20 => k_is); (case l20 => k_is); (case c20 => k_is); (case k20 => k_is); (case a21 => k_is); (case l21 => k_is); (case c21 => k_is); (case k21 => k_is); (case a22 => k_is); (case l22 => k_is); (case c22 => k_is); (case k22 => k_is); (case a23 => k_is); (case l23 => k_is); (case c23 => k_is); (case k23 => k_is); (case a24 => k_is); (case l24 => k_is); (case c24 => k_is); (case k24 => k_is); (case a25 => k_is); (case l25 => k_is); (case c25 => k_is); (case k25 => k_is); (case a26 => k_is); (case l26 => k_is); (case c26 => k_is); (case k26 => k_is); (case a27 => k_is); (case l27 => k_is); (case c27 => k_is); (case k27 => k_is); (case a28 => k_is); (case l28 => k_is); (case c28 => k_is); (case k28 => k_is); (case a29 => k_is); (case l29 => k_is); (case c29 => k_is); (case k29 => k_is); (case a30 => k_is); (case l30 => k_is); (case c30 => k_is); (case k30 => k_is); (case a31 => k_is); (case l31 => k_is); (case c31 => k_is); (case k31 => k_is); (case a32 => k_is); (case l32 => k_is); (case c32 => k_is); (case k32 => k_is); (case z0 => k_is); (case z1 => k_is); (case z2 => k_is); (case z3 => k_is); (case z4 => k_is); (case z5 => k_is); (case z6 => k_is); (case z7 => k_is); (case z8 => k_is); (case z9 => k_is); (case z10 => k_is); (case gg0 => k_is); (case gg1 => k_is); (case gg2 => k_is); (case gg3 => k_is); (case gg4 => k_is); (case gg5 => k_is); (case gg6 => k_is); (case gl6_0 => k_is); (case gl6_2 => k_is); (case kg0 => k_is); (case kl0 => k_is); (case kq0_0 => rfl); (case kq0_1 => rfl); (case kq0_2 => rfl); (case kq0_3 => rfl); (case kq0_4 => rfl); (case kq0_5 => rfl); (case kq0_6 => rfl); (case kw0 => rfl); (case x0 => k_is); (case y0 => k_exc); (case u0 => k_is); (case v0 => k_is); (case w0 => k_is); (case ic0 => k_is); (case x1 => k_is); (case y1 => k_exc); (case u1 => k_is); (case v1 => k_is); (case w1 => k_is); (case ic1 => k_is); (case x2 => k_is); (case y2 => k_exc); (case u2 => k_is); (case v2 => k_is); (case w2 => k_is); (case ic2 => k_is); (case x3 => k_is); (case y3 => k_exc); (case u3 => k_is); (case v3 => k_is); (case w3 => k_is); (case ic3 => k_is); (case x4 => k_is); (case y4 => k_exc); (case u4 => k_is); (case v4 => k_is); (case w4 => k_is); (case ic4 => k_is); (case x5 => k_is); (case y5 => k_exc); (case u5 => k_is); (case v5 => k_is); (case w5 => k_is); (case ic5 => k_is); (case x6 => k_is); (case y6 => k_exc); (case u6 => k_is); (case v6 => k_is); (case w6 => k_is); (case ic6 => k_is); (case x7 => k_is); (case y7 => k_exc); (case u7 => k_is); (case v7 => k_is); (case w7 => k_is); (case ic7 => k_is); (case e0_0 => k_is); (case e0_1 => k_is); (case e0_2 => k_is); (case e0_3 => k_is); (case e0_4 => k_is); (case e0_5 => k_is); (case e0_6 => k_is); (case e0_7 => k_is); (case e1_0 => k_is); (case e1_1 => k_is); (case e1_2 => k_is); (case e1_3 => k_is); (case e1_4 => k_is); (case e1_5 => k_is); (case e1_6 => k_is); (case e1_7 => k_is); (case e2_0 => k_is); (case e2_1 => k_is); (case e2_2 => k_is); (case e2_3 => k_is); (case e2_4 => k_is); (case e2_5 => k_is); (case e2_6 => k_is); (case e2_7 => k_is); (case e3_0 => k_is); (case e3_1 => k_is); (case e3_2 => k_is); (case e3_3 => k_is); (case e3_4 => k_is); (case e3_5 => k_is); (case e3_6 => k_is); (case e3_7 => k_is); (case e4_0 => k_is); (case e4_1 => k_is); (case e4_2 => k_is); (case e4_3 => k_is); (case e4_4 => k_is); (case e4_5 => k_is); (case e4_6 => k_is); (case e4_7 => k_is); (case e5_0 => k_is); (case e5_1 => k_is); (case e5_2 => k_is); (case e5_3 => k_is); (case e5_4 => k_is); (case e5_5 => k_is); (case e5_6 => k_is); (case e5_7 => k_is); (case e6_0 => k_is); (case e6_1 => k_is); (case e6_2 => k_is); (case e6_3 => k_is); (case e6_4 => k_is); (case e6_5 => k_is); (case e6_6 => k_is); (case e6_7 => k_is); (case e7_0 => k_is); (case e7_1 => k_is); (case e7_2 => k_is); (case e7_3 => k_is); (case e7_4 => k_is); (case e7_5 => k_is); (case e7_6 => k_is); (case e7_7 => k_is)
