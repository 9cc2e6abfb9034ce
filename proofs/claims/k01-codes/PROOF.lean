import PyProof.Rows.All
import Wide.All
import OpenK.AllK
import Wide.FinOn
import HandS.ForMost
import HandS.ForExc
import HandS.TupAny
import HandS.IsInst
import HandS.Wide
import HandS.TupLe
import HandS.Conv
import HandS.Zip
import HandS.TupMul
import HandS.Iter
import HandS.Deep
import HandS.TryMany
import HandS.StrMore
import HandS.NoneIn
import HandS.Lambda
import HandS.ListEq
import HandS.ExcIs
import KE.KEqDict
import HandS.SortInts
import HandS.Small
import HandS.More
import HandS.Exc
import KE.GoesRaise
import HandS.SetFor
import HandS.TupSets
import HandS.Strs
import HandS.Zip0
import HandS.Rev
import KE.KDictWalk
import HandS.DictTup
import PyProof.DictMoreH
import KE.SortKeyHeap
import HandS.SortKw
import HandS.Keys
import KE.KDictCopyH
import KE.DataMinMax
import HandS.Text
import KE.KDictDisplayH
import HandS.FStr
import HandS.ExcValue
import HandS.HeadWalk
import KE.KNestM
import HandS.EndBits
import PySem.Challenge.RW_snapshelf_k01_codes
set_option Elab.async false
set_option linter.all false
set_option maxRecDepth 100000
set_option maxHeartbeats 4000000
namespace MI
open PySem PySem.Spec PyProof.Rows L2
inductive D where
  | non | bl (b : Bool) | int (i : Int) | str (x : Str)
  | tup (ds : List D) | lst (ds : List D) | fz (ds : List D)
  | dic (kvs : List (Key × D)) | ref (l : Nat)
  | fn (x : Str)
inductive SO where
  | lst (ds : List D)
  | dic (kvs : List (Key × D))
  | ins (c : Str) (fs : List (Str × D))
  | dicT (kvs : List (List Key × D))
  | dicL (kvs : List (List Key × D))
  | dicF (kvs : List (Key × D))
  | exn (c : Str)
abbrev Sto := List SO
abbrev DEnv := List (Option D)
inductive R (α : Type) where
  | ok (a : α) (st : Sto)
  | exc (c : Nat) (st : Sto)
  | stuck
def R.bind {α β : Type} (r : R α) (f : α → Sto → R β) : R β :=
  match r with
  | .ok a st => f a st
  | .exc c st => .exc c st
  | .stuck => .stuck
abbrev ME := DEnv → Sto → R D
inductive SR where
  | nx (env : DEnv) (st : Sto)
  | rt (d : D) (st : Sto)
  | bk (env : DEnv) (st : Sto)
  | ct (env : DEnv) (st : Sto)
  | exc (c : Nat) (env : DEnv) (st : Sto)
  | stuck
abbrev MS := DEnv → Sto → SR
@[simp] theorem R.bind_ok {α β : Type} (a : α) (st : Sto) (f : α → Sto → R β) : (R.ok a st).bind f = f a st := rfl
@[simp] theorem R.bind_exc {α β : Type} (c : Nat) (st : Sto) (f : α → Sto → R β) : (R.exc c st : R α).bind f = .exc c st := rfl
@[simp] theorem R.bind_stuck {α β : Type} (f : α → Sto → R β) : (R.stuck : R α).bind f = .stuck := rfl
mutual
def noRef : D → Bool
  | .tup ds => noRefs ds
  | .lst ds => noRefs ds
  | .fz ds => noRefs ds
  | .dic _ => false
  | .ref _ => false
  | .fn _ => false
  | _ => true
def noRefs : List D → Bool
  | [] => true
  | d :: ds => noRef d && noRefs ds
end
mutual
def toPy : D → PyData
  | .non => .none
  | .bl b => .bool b
  | .int i => .int i
  | .str x => .str x
  | .tup ds => .tuple (toPys ds)
  | .lst ds => .list (toPys ds)
  | .fz ds => .list (toPys ds)
  | .dic _ => .none
  | .ref _ => .none
  | .fn _ => .none
def toPys : List D → List PyData
  | [] => []
  | d :: ds => toPy d :: toPys ds
end
mutual
def below (n : Nat) : D → Bool
  | .tup ds => belows n ds
  | .lst ds => belows n ds
  | .fz ds => belows n ds
  | .dic kvs => belowk n kvs
  | .ref l => decide (l < n)
  | _ => true
def belows (n : Nat) : List D → Bool
  | [] => true
  | d :: ds => below n d && belows n ds
def belowk (n : Nat) : List (Key × D) → Bool
  | [] => true
  | (_, d) :: ds => below n d && belowk n ds
end
def isKeyD : D → Bool
  | .int _ => true
  | .str _ => true
  | _ => false
def topRow : List D → Bool
  | .str a :: .str b :: _ => (decide (a = "leaf") && decide (b = "branch")) || (decide (a = "folder") && decide (b = "file"))
  | _ => false
def keyT (ds : List D) : Bool := !ds.isEmpty && ds.all isKeyD && !topRow ds
def deref (st : Sto) : D → D
  | .ref l => match st[l]? with
    | some (.lst ds) => .lst ds
    | some (.dic kvs) => .dic kvs
    | _ => .ref l
  | d => d
def mulOk (i j : Int) : Prop := CMul i j ∨ CMulW i j
instance (i j : Int) : Decidable (mulOk i j) := by unfold mulOk CMul CMulW; infer_instance
instance (i j : Int) : Decidable (CDivW i j) := by unfold CDivW; infer_instance
instance (i j : Int) : Decidable (CPow i j) := by unfold CPow; infer_instance
def opAdd (x y : D) (st : Sto) : R D :=
  match x, y with
  | .int i, .int j => .ok (.int (i + j)) st
  | .int i, .bl k => .ok (.int (i + b2i k)) st
  | .str a, .str b => if a.length + b.length ≤ sizeLine then .ok (.str (a ++ b)) st else .stuck
  | .tup a, .tup b => if a.length + b.length ≤ sizeLine then .ok (.tup (a ++ b)) st else .stuck
  | x, y => match deref st x, deref st y with
    | .lst a, .lst b => if a.length + b.length ≤ sizeLine then .ok (.lst (a ++ b)) st else .stuck
    | _, _ => .stuck
def opSub (x y : D) (st : Sto) : R D :=
  match x, y with
  | .int i, .int j => .ok (.int (i - j)) st
  | _, _ => .stuck
def opMul (x y : D) (st : Sto) : R D :=
  match x, y with
  | .int i, .int j => if mulOk i j then .ok (.int (i * j)) st else .stuck
  | .str a, .int k => if 2 ≤ k ∧ k ≤ 1001 ∧ a.length ≤ 1000 then .ok (.str (Txt.mul a k)) st else .stuck
  | x, .int k => match deref st x with
    | .lst a => if -(2 ^ 63) ≤ k ∧ k < 2 ^ 63 ∧ a.length * k.toNat ≤ sizeLine then .ok (.lst (List.replicate k.toNat a).flatten) st else .stuck
    | .tup a => if (a ≠ [] ∨ a = []) ∧ 0 ≤ k ∧ k ≤ 1001 ∧ a.length ≤ 1000 then .ok (.tup (List.replicate k.toNat a).flatten) st else .stuck
    | _ => .stuck
  | _, _ => .stuck
def opMod (x y : D) (st : Sto) : R D :=
  match x, y with
  | .int i, .int j => if 0 < j then .ok (.int (i % j)) st else .stuck
  | _, _ => .stuck
def opDiv (x y : D) (st : Sto) : R D :=
  match x, y with
  | .int i, .int j => if CDivW i j then .ok (.int (i / j)) st else .stuck
  | _, _ => .stuck
def opPow (x y : D) (st : Sto) : R D :=
  match x, y with
  | .int i, .int j => if CPow i j then .ok (.int (i ^ j.toNat)) st else .stuck
  | _, _ => .stuck
def opCmp (p : Int → Int → Bool) (x y : D) (st : Sto) : R D :=
  match x, y with
  | .int i, .int j => .ok (.bl (p i j)) st
  | _, _ => .stuck
def opLt := opCmp fun i j => decide (i < j)
def opLe := opCmp fun i j => decide (i ≤ j)
def opGt := opCmp fun i j => decide (j < i)
def opGe := opCmp fun i j => decide (j ≤ i)
def eqD (st : Sto) (x y : D) : Option Bool :=
  if noRef (deref st x) && noRef (deref st y) && SeqAt.shaped (toPy (deref st x)) && SeqAt.shaped (toPy (deref st y)) then some (PyData.eqv (toPy (deref st x)) (toPy (deref st y))) else none
def eqT0 (x y : D) : Option Bool := match x, y with
  | .tup ds, .tup [] => some ds.isEmpty
  | _, _ => none
def keyOf : D → Option Key
  | .int i => some (.inl i)
  | .str x => some (.inr x)
  | _ => none
def ksT (ds : List D) : List Key := ds.filterMap keyOf
def keyTD : D → Option (List Key)
  | .tup ds => if keyT ds = true then some (ksT ds) else none
  | _ => none
def ktGet (kvs : List (List Key × D)) (k : List Key) : Option D := (kvs.find? fun kv => decide (kv.1 = k)).map (·.2)
def putT (kvs : List (List Key × D)) (k : List Key) (d : D) : List (List Key × D) :=
  if (kvs.any fun kv => decide (kv.1 = k)) = true then kvs.map (fun kv => if kv.1 = k then (kv.1, d) else kv) else kvs ++ [(k, d)]
def kvGet (kvs : List (Key × D)) (k : Key) : Option D := (kvs.find? fun kv => decide (kv.1 = k)).map (·.2)
def leafD (d : D) : Bool := noRef d && SeqAt.shaped (toPy d)
def sameV (v : D) : Option D → Bool
  | some u => leafD v && leafD u && PyData.eqv (toPy v) (toPy u)
  | none => false
def dicSame (a b : List (Key × D)) : Bool := decide (a.length = b.length) && a.all fun p => sameV p.2 (kvGet b p.1)
def eqX (st : Sto) (x y : D) : Bool := match deref st x, deref st y with
  | .dic a, .dic b => dicSame a b
  | _, _ => false
def eqTX (st : Sto) (x y : D) : Bool := match x, y with
  | .tup a, .tup b => decide (a.length = b.length) && (a.zip b).all fun p => decide (eqD st p.1 p.2 = some true) || eqX st p.1 p.2
  | _, _ => false
def sameO (v : D) : Option D → Option Bool
  | some u => if (leafD v && leafD u) = true then some (PyData.eqv (toPy v) (toPy u)) else none
  | none => some false
def dtAll (b : List (List Key × D)) : List (List Key × D) → Option Bool
  | [] => some true
  | p :: r => match sameO p.2 (ktGet b p.1), dtAll b r with
    | some e, some f => some (e && f)
    | _, _ => none
def dtSame (a b : List (List Key × D)) : Option Bool := if a.length = b.length then dtAll b a else some false
def eqDT (st : Sto) (x y : D) : Option Bool := match x, y with
  | .ref l, .ref m => match st[l]?, st[m]? with
    | some (.dicT a), some (.dicT b) => dtSame a b
    | _, _ => none
  | _, _ => none
def eqD0 (st : Sto) (x y : D) : Option Bool := match deref st x, deref st y with
  | .dic a, .dic [] => some a.isEmpty
  | _, _ => none
def opEq (x y : D) (st : Sto) : R D :=
  match eqD st x y with
  | some b => .ok (.bl b) st
  | none => match eqT0 x y with
    | some b => .ok (.bl b) st
    | none => if (eqX st x y || eqTX st x y) = true then .ok (.bl true) st else match eqDT st x y with
      | some b => .ok (.bl b) st
      | none => match eqD0 st x y with
        | some b => .ok (.bl b) st
        | none => .stuck
def opNe (x y : D) (st : Sto) : R D :=
  match eqD st x y with
  | some b => .ok (.bl (!b)) st
  | none => match eqT0 x y with
    | some b => .ok (.bl (!b)) st
    | none => if (eqX st x y || eqTX st x y) = true then .ok (.bl false) st else match eqD0 st x y with
      | some b => .ok (.bl (!b)) st
      | none => .stuck
def opIs (x y : D) (st : Sto) : R D :=
  match x, y with
  | .non, .non => .ok (.bl true) st
  | _, .non => .ok (.bl false) st
  | .bl a, .bl b => .ok (.bl (decide (a = b))) st
  | _, _ => .stuck
def opIsNot (x y : D) (st : Sto) : R D :=
  match x, y with
  | .non, .non => .ok (.bl false) st
  | _, .non => .ok (.bl true) st
  | .bl a, .bl b => .ok (.bl (!decide (a = b))) st
  | _, _ => .stuck
def intsOf : List D → Option (List Int)
  | [] => some []
  | .int i :: ds => (intsOf ds).map (i :: ·)
  | _ => none
def boolsOf : List D → Option (List Bool)
  | [] => some []
  | .bl i :: ds => (boolsOf ds).map (i :: ·)
  | _ => none
def strsOf : List D → Option (List Str)
  | [] => some []
  | .str i :: ds => (strsOf ds).map (i :: ·)
  | _ => none
@[simp] theorem intsOf_map (ns : List Int) : intsOf (ns.map D.int) = some ns := by
  induction ns with
  | nil => rfl
  | cons n ns ih => simp [intsOf, ih]
@[simp] theorem boolsOf_map (ns : List Bool) : boolsOf (ns.map D.bl) = some ns := by
  induction ns with
  | nil => rfl
  | cons n ns ih => simp [boolsOf, ih]
@[simp] theorem strsOf_map (ns : List Str) : strsOf (ns.map D.str) = some ns := by
  induction ns with
  | nil => rfl
  | cons n ns ih => simp [strsOf, ih]
def isIn (st : Sto) (x y : D) : Option Bool :=
  match x, deref st y with
  | .str a, .str b => match a.cps.toList with
    | [c] => some (decide (c ∈ b.cps.toList))
    | _ => none
  | x, .dic kvs => (keyOf x).map fun k => (kvGet kvs k).isSome
  | x, .lst ds => if noRef (deref st x) && noRefs ds && SeqAt.shaped (toPy (deref st x)) && SeqAt.shaped (.list (toPys ds)) then some ((toPys ds).any fun z => PyData.eqv z (toPy (deref st x))) else none
  | .int i, .tup ds => (intsOf ds).map fun ns => decide (i ∈ ns)
  | .str i, .tup ds => (strsOf ds).map fun ns => decide (i ∈ ns)
  | x, .ref l => (match st[l]? with
    | some (.dicT kvs) => (keyTD x).map fun k => (ktGet kvs k).isSome
    | some (.dicL kvs) => (keyTD x).map fun k => (ktGet kvs k).isSome
    | some (.dicF kvs) => (keyOf x).map fun k => (kvGet kvs k).isSome
    | _ => none)
  | _, _ => none
def opIn (x y : D) (st : Sto) : R D :=
  match isIn st x y with
  | some b => .ok (.bl b) st
  | none => .stuck
def opNotIn (x y : D) (st : Sto) : R D :=
  match isIn st x y with
  | some b => .ok (.bl (!b)) st
  | none => .stuck
def truth (st : Sto) (d : D) : Option Bool :=
  match deref st d with
  | .non => some false
  | .bl b => some b
  | .int i => some (i != 0)
  | .str x => if x.length ≤ sizeLine then some ((x.length : Int) != 0) else none
  | .tup ds => some (!ds.isEmpty)
  | .lst ds => some (!ds.isEmpty)
  | .fz ds => some (!ds.isEmpty)
  | .dic kvs => some (!kvs.isEmpty)
  | .ref _ => none
  | .fn _ => none
def tyName (st : Sto) (d : D) : Option String :=
  match deref st d with
  | .non => some "NoneType"
  | .bl _ => some "bool"
  | .int _ => some "int"
  | .str _ => some "str"
  | .tup _ => some "tuple"
  | .lst _ => some "list"
  | .fz _ => none
  | .dic _ => some "dict"
  | .ref _ => none
  | .fn _ => none
def isInst (T : String) (d : D) (st : Sto) : R D :=
  match tyName st d with
  | some a => match kitB a T with
    | some b => .ok (.bl b) st
    | none => .stuck
  | none => .stuck
def lenD (st : Sto) (d : D) : Option Nat :=
  match deref st d with
  | .str x => if x.length ≤ sizeLine then some x.length else none
  | .tup ds => some ds.length
  | .lst ds => some ds.length
  | .fz ds => some ds.length
  | _ => none
def opIx (x y : D) (st : Sto) : R D :=
  match deref st x, y with
  | .str z, .int i => if z.length ≤ sizeLine then (match atI z.cps.toList i with
    | some c => .ok (.str ⟨#[c]⟩) st
    | none => .stuck) else .stuck
  | .tup ds, .int i => match atI ds i with
    | some d => .ok d st
    | none => .stuck
  | .lst ds, .int i => match atI ds i with
    | some d => .ok d st
    | none => .stuck
  | .fz ds, .int i => match atI ds i with
    | some d => .ok d st
    | none => .stuck
  | .dic kvs, y => match (keyOf y).bind (kvGet kvs) with
    | some d => .ok d st
    | none => .stuck
  | .ref l, y => (match st[l]? with
    | some (.dicT kvs) => (match (keyTD y).bind (ktGet kvs) with
      | some d => .ok d st
      | none => .stuck)
    | some (.dicL kvs) => (match (keyTD y).bind (ktGet kvs) with
      | some d => .ok d st
      | none => .stuck)
    | some (.dicF kvs) => (match (keyOf y).bind (kvGet kvs) with
      | some d => .ok d st
      | none => .stuck)
    | _ => .stuck)
  | _, _ => .stuck
def cutL {α : Type} (xs : List α) (lo hi : Option Int) : List α :=
  (xs.drop (HT.sIx xs.length 0 lo)).take (HT.sIx xs.length xs.length hi - HT.sIx xs.length 0 lo)
def opSl (x : D) (lo hi : Option Int) (st : Sto) : R D :=
  match deref st x with
  | .str z => if z.length ≤ sizeLine then .ok (.str (cutS z lo hi)) st else .stuck
  | .tup ds => .ok (.tup (cutL ds lo hi)) st
  | .lst ds => .ok (.lst (cutL ds lo hi)) st
  | _ => .stuck
def mVar (i : Nat) : ME := fun env st => match env[i]? with
  | some (some d) => .ok d st
  | _ => .stuck
def mC (d : D) : ME := fun _ st => .ok d st
def mBin (f : D → D → Sto → R D) (a b : ME) : ME := fun env st => (a env st).bind fun x st => (b env st).bind fun y st => f x y st
def mNeg (a : ME) : ME := fun env st => (a env st).bind fun x st => match x with
  | .int i => .ok (.int (-i)) st
  | _ => .stuck
def mAnd (a b : ME) : ME := fun env st => (a env st).bind fun x st => match x with
  | .bl true => b env st
  | .bl false => .ok (.bl false) st
  | _ => .stuck
def mOr (a b : ME) : ME := fun env st => (a env st).bind fun x st => match x with
  | .bl true => .ok (.bl true) st
  | .bl false => b env st
  | _ => .stuck
def mNot (a : ME) : ME := fun env st => (a env st).bind fun x st => match x with
  | .bl b => .ok (.bl (!b)) st
  | _ => .stuck
def mT (a : ME) : DEnv → Sto → R Bool := fun env st => (a env st).bind fun x st => match truth st x with
  | some b => .ok b st
  | none => .stuck
def mIfE (c a b : ME) : ME := fun env st => (mT c env st).bind fun k st => if k = true then a env st else b env st
def mArgs : List ME → DEnv → Sto → R (List D)
  | [], _, st => .ok [] st
  | e :: es, env, st => (e env st).bind fun d st => (mArgs es env st).bind fun ds st => .ok (d :: ds) st
def mTup (es : List ME) : ME := fun env st => (mArgs es env st).bind fun ds st => if ds.length ≤ sizeLine then .ok (.tup ds) st else .stuck
def mLst (es : List ME) : ME := fun env st => (mArgs es env st).bind fun ds st => if ds.length ≤ sizeLine then .ok (.lst ds) st else .stuck
def mNew (es : List ME) : ME := fun env st => (mArgs es env st).bind fun ds st => if ds.length ≤ sizeLine then .ok (.ref st.length) (st ++ [.lst ds]) else .stuck
def mCall (f : List D → Sto → R D) (es : List ME) : ME := fun env st => (mArgs es env st).bind fun ds st => f ds st
def mExn (x : Str) : ME := fun _ st => .ok (.ref st.length) (st ++ [.exn x])
def isV (exv tr : List Str) (d : D) (st : Sto) : R D := match d with
  | .ref l => (match st[l]? with
    | some (.exn c) => if c ∈ exv then .ok (.bl (decide (c ∈ tr))) st else .stuck
    | _ => .stuck)
  | _ => .stuck
def mIsV (exv tr : List Str) (a : ME) : ME := fun env st => (a env st).bind fun d st => isV exv tr d st
def mIsI (T : String) (a : ME) : ME := fun env st => (a env st).bind fun x st => isInst T x st
def mOpt (a : Option ME) : DEnv → Sto → R (Option Int) := fun env st => match a with
  | none => .ok none st
  | some a => (a env st).bind fun x st => match x with
    | .int i => .ok (some i) st
    | _ => .stuck
def mSl (a : ME) (lo hi : Option ME) : ME := fun env st => (a env st).bind fun x st => (mOpt lo env st).bind fun i st => (mOpt hi env st).bind fun j st => opSl x i j st
inductive Src where
  | vals (ds : List D)
  | live (l : Nat) (ds : List D)
  | multi (ls : List (Nat × List D)) (ds : List D)
  | lock (l : Nat) (kvs : List (List Key × D)) (ds : List D)
  | lockF (l : Nat) (kvs : List (Key × D)) (ds : List D)
abbrev MIt := DEnv → Sto → R Src
def Src.items : Src → List D
  | .vals ds => ds
  | .live _ ds => ds
  | .multi _ ds => ds
  | .lock _ _ ds => ds
  | .lockF _ _ ds => ds
def Src.holds : Src → Sto → Prop
  | .vals _, _ => True
  | .live l ds, st => st[l]? = some (.lst ds)
  | .multi ls _, st => ∀ p ∈ ls, st[p.1]? = some (.lst p.2)
  | .lock l kvs _, st => st[l]? = some (.dicL kvs)
  | .lockF l kvs _, st => st[l]? = some (.dicF kvs)
open Classical in
noncomputable instance (s : Src) (st : Sto) : Decidable (s.holds st) := Classical.propDecidable _
def iSeq (a : ME) : MIt := fun env st => (a env st).bind fun x st => match x with
  | .ref l => match st[l]? with
    | some (.lst ds) => .ok (.live l ds) st
    | _ => .stuck
  | .tup ds => .ok (.vals ds) st
  | .lst ds => .ok (.vals ds) st
  | .fz ds => .ok (.vals ds) st
  | .str z => .ok (.vals (z.cps.toList.map fun c => .str ⟨#[c]⟩)) st
  | _ => .stuck
def rangeD (lo : Int) (n : Nat) : List D := (List.range n).map fun i : Nat => .int (lo + (i : Int))
def iRange1 (a : ME) : MIt := fun env st => (a env st).bind fun x st => match x with
  | .int j => if -(2 ^ 62) ≤ j ∧ j < 2 ^ 62 then .ok (.vals (rangeD 0 j.toNat)) st else .stuck
  | _ => .stuck
def rangeC (lo c : Int) (n : Nat) : List D := (List.range n).map fun i : Nat => .int (lo + (i : Int) * c)
def iRange3 (a b c : ME) : MIt := fun env st => (a env st).bind fun x st => (b env st).bind fun y st => (c env st).bind fun z st => match x, y, z with
  | .int i, .int j, .int k => if k ≠ 0 ∧ k.natAbs < 1073741824 ∧ Builtin.Range.small i j k = true then .ok (.vals (rangeC i k (Builtin.Range.rangeSize i j k).toNat)) st else .stuck
  | _, _, _ => .stuck
def iRange2 (a b : ME) : MIt := fun env st => (a env st).bind fun x st => (b env st).bind fun y st => match x, y with
  | .int i, .int j => if -(2 ^ 62) ≤ i ∧ i < 2 ^ 62 ∧ -(2 ^ 62) ≤ j ∧ j < 2 ^ 62 then .ok (.vals (rangeD i (j - i).toNat)) st else .stuck
  | _, _ => .stuck
abbrev MG := D → DEnv → Option DEnv
def gVar (i : Nat) : MG := fun d env => some (env.set i (some d))
def wipeD (env : DEnv) : List Nat → DEnv
  | [] => env
  | v :: vs => (wipeD env vs).set v none
noncomputable def compGo (s : Src) (g : MG) (c : Option ME) (e : ME) (env : DEnv) : List D → Sto → R (List D)
  | [], st => .ok [] st
  | d :: ds, st => match g d env with
    | none => .stuck
    | some env' => match (match c with | none => R.ok true st | some c => mT c env' st) with
      | .ok true st => match e env' st with
        | .ok y st => if s.holds st then (match compGo s g c e env ds st with
          | .ok ys st => .ok (y :: ys) st
          | _ => .stuck) else .stuck
        | _ => .stuck
      | .ok false st => if s.holds st then compGo s g c e env ds st else .stuck
      | _ => .stuck
noncomputable def mComp (it : MIt) (vs : List Nat) (g : MG) (c : Option ME) (e : ME) : ME := fun env st => (it env st).bind fun s st =>
  match compGo s g c e (wipeD env vs) s.items st with
  | .ok ys st => if ys.length ≤ sizeLine then .ok (.lst ys) st else .stuck
  | _ => .stuck
noncomputable def mCompN (it : MIt) (vs : List Nat) (g : MG) (c : Option ME) (e : ME) : ME := fun env st => (it env st).bind fun s st =>
  match compGo s g c e (wipeD env vs) s.items st with
  | .ok ys st => if ys.length ≤ sizeLine then .ok (.ref st.length) (st ++ [.lst ys]) else .stuck
  | _ => .stuck
noncomputable def compGoX (s : Src) (g : MG) (c : Option ME) (e : ME) (env : DEnv) : List D → Sto → R (List D)
  | [], st => .ok [] st
  | d :: ds, st => match g d env with
    | none => .stuck
    | some env' => (match c with | none => R.ok true st | some c => mT c env' st).bind fun b st => if b = true then (e env' st).bind fun y st => if s.holds st then (compGoX s g c e env ds st).bind fun ys st => .ok (y :: ys) st else .stuck
      else if s.holds st then compGoX s g c e env ds st else .stuck
noncomputable def mCompX (it : MIt) (vs : List Nat) (g : MG) (c : Option ME) (e : ME) : ME := fun env st => (it env st).bind fun s st =>
  if s.items.length ≤ sizeLine then (compGoX s g c e (wipeD env vs) s.items st).bind fun ys st => .ok (.lst ys) st else .stuck
def SR.then (r : SR) (f : DEnv → Sto → SR) : SR :=
  match r with
  | .nx env st => f env st
  | r => r
def sSkip : MS := fun env st => .nx env st
def sStuck : MS := fun _ _ => .stuck
def sSeq (a b : MS) : MS := fun env st => (a env st).then b
def sAsg (e : ME) (g : MG) : MS := fun env st => match e env st with
  | .ok d st => (match g d env with
    | some env => .nx env st
    | none => .stuck)
  | .exc c st => .exc c env st
  | .stuck => .stuck
def sExpr (e : ME) : MS := fun env st => match e env st with
  | .ok _ st => .nx env st
  | .exc c st => .exc c env st
  | .stuck => .stuck
def sRet (e : ME) : MS := fun env st => match e env st with
  | .ok d st => .rt d st
  | .exc c st => .exc c env st
  | .stuck => .stuck
def sIf (c : ME) (a b : MS) : MS := fun env st => match mT c env st with
  | .ok true st => a env st
  | .ok false st => b env st
  | .exc x st => .exc x env st
  | .stuck => .stuck
def sWhile (c : ME) (b : MS) : Nat → MS
  | 0 => fun _ _ => .stuck
  | n + 1 => fun env st => match mT c env st with
    | .ok true st => (match b env st with
      | .nx env st => sWhile c b n env st
      | .ct env st => sWhile c b n env st
      | .bk env st => .nx env st
      | .rt d st => .rt d st
      | .exc x env st => .exc x env st
      | .stuck => .stuck)
    | .ok false st => .nx env st
    | .exc x st => .exc x env st
    | .stuck => .stuck
noncomputable def forGo (s : Src) (g : MG) (b : MS) : List D → DEnv → Sto → SR
  | [], env, st => .nx env st
  | d :: ds, env, st => match g d env with
    | none => .stuck
    | some env => match b env st with
      | .nx env st => if s.holds st then forGo s g b ds env st else .stuck
      | .ct env st => if s.holds st then forGo s g b ds env st else .stuck
      | .bk env st => .nx env st
      | .rt d st => .rt d st
      | .exc x env st => .exc x env st
      | .stuck => .stuck
noncomputable def sFor (it : MIt) (g : MG) (b : MS) : MS := fun env st => match it env st with
  | .ok s st => forGo s g b s.items env st
  | .exc c st => .exc c env st
  | .stuck => .stuck
def sRaise (c : Nat) : MS := fun env st => .exc c env st
def mKIn (tab : List (Str × D)) (neg : Bool) (a : ME) : ME := fun env st => (a env st).bind fun x st => match x with
  | .str z => .ok (.bl (if neg = true then !(tab.lookup z).isSome else (tab.lookup z).isSome)) st
  | _ => .stuck
def mKIx (tab : List (Str × D)) (a : ME) : ME := fun env st => (a env st).bind fun x st => match x with
  | .str z => (match tab.lookup z with
    | some d => .ok d st
    | none => .stuck)
  | _ => .stuck
class TabsC where
  tabs : List (Addr × Str)
  codes : List (Addr × Addr)
instance (priority := low) tab0 : TabsC := ⟨[], []⟩
variable [TC : TabsC]
def NT (o : HO) : Prop := ∀ ps, o ≠ .tbl ps
theorem nt_lst {xs : List V} : NT (.lst xs) := fun _ z => by cases z
theorem nt_dK {xs : List (Key × V)} : NT (.dK xs) := fun _ z => by cases z
def FzL (K : PySem.W.Frag) (H : Hp) (a : Addr) (xs : List V) : Prop :=
  (∃ o, H a = some (.frz o (.lst xs))) ∨
    ∃ (o : Obj) (its : Array Value) (n : Nat), K.lookup a = some o ∧ o.cls = .type "list" ∧ o.dict = none ∧ o.data = .seq its n ∧ its.size ≤ sizeLine ∧ Vals xs its.toList
theorem FzL.sq {K : PySem.W.Frag} {H : Hp} {a : Addr} {xs : List V} (h : FzL K H a xs) : SqL K H a xs := by
  rcases h with ⟨o, h⟩ | h
  · exact .inl (.inr ⟨o, h⟩)
  · exact .inr h
structure Rho where
  loc : List Addr
  res : List Addr
instance : Membership Addr Rho := ⟨fun r a => a ∈ r.loc ∨ a ∈ r.res⟩
def Rho.add (r : Rho) (p : Addr) : Rho := ⟨r.loc ++ [p], r.res⟩
def Rho.hide (r : Rho) (p : Addr) : Rho := ⟨r.loc, p :: r.res⟩
mutual
inductive RelD (K : PySem.W.Frag) (rho : Rho) (H : Hp) : D → V → Prop where
  | non : RelD K rho H .non .non
  | bl (b : Bool) : RelD K rho H (.bl b) (.bl b)
  | int (i : Int) : RelD K rho H (.int i) (.int i)
  | str (x : Str) : RelD K rho H (.str x) (.str x)
  | tup {a : Addr} {ds : List D} {vs : List V} (h : SqT K H a vs) (r : RelDs K rho H ds vs) (k : keyT ds = true → H a = some (.tup vs)) : RelD K rho H (.tup ds) (.ref a)
  | lst {a : Addr} {ds : List D} {vs : List V} (h : H a = some (.lst vs)) (n : a ∉ rho) (r : RelDs K rho H ds vs) : RelD K rho H (.lst ds) (.ref a)
  | fz {a : Addr} {ds : List D} {vs : List V} (h : FzL K H a vs) (r : RelDs K rho H ds vs) : RelD K rho H (.fz ds) (.ref a)
  | dic {a : Addr} {ds : List (Key × D)} {vs : List (Key × V)} (h : H a = some (.dK vs)) (n : a ∉ rho) (r : RelK K rho H ds vs) : RelD K rho H (.dic ds) (.ref a)
  | ref {l : Nat} {a : Addr} (h : rho.loc[l]? = some a) : RelD K rho H (.ref l) (.ref a)
  | fn {x : Str} {f : Addr} (h : PySem.W.nsIn K mainGlobals x = some (some (.ref f))) : RelD K rho H (.fn x) (.ref f)
inductive RelDs (K : PySem.W.Frag) (rho : Rho) (H : Hp) : List D → List V → Prop where
  | nil : RelDs K rho H [] []
  | cons {d : D} {ds : List D} {v : V} {vs : List V} (h : RelD K rho H d v) (t : RelDs K rho H ds vs) : RelDs K rho H (d :: ds) (v :: vs)
inductive RelK (K : PySem.W.Frag) (rho : Rho) (H : Hp) : List (Key × D) → List (Key × V) → Prop where
  | nil : RelK K rho H [] []
  | cons {k : Key} {d : D} {ds : List (Key × D)} {v : V} {vs : List (Key × V)} (h : RelD K rho H d v) (t : RelK K rho H ds vs) : RelK K rho H ((k, d) :: ds) ((k, v) :: vs)
end
structure Ext (rho : Rho) (H : Hp) (rho' : Rho) (H' : Hp) : Prop where
  new : ∃ n, rho'.loc = rho.loc ++ n ∧ ∀ b ∈ n, H b = none
  res : rho'.res = rho.res
  keep : ∀ b o, H b = some o → b ∉ rho → NT o → H' b = some o
  kres : ∀ b o, H b = some o → b ∈ rho.res → H' b = some o
  tup : ∀ b xs, H b = some (.tup xs) → H' b = some (.tup xs)
  frz : ∀ b o u, H b = some (.frz o u) → H' b = some (.frz o u)
  liv : ∀ b o, H b = some o → ∃ o', H' b = some o'
theorem Ext.refl (rho : Rho) (H : Hp) : Ext rho H rho H :=
  ⟨⟨[], by simp, fun b hb => absurd hb (by simp)⟩, rfl, fun _ _ h _ _ => h, fun _ _ h _ => h, fun _ _ h => h, fun _ _ _ h => h, fun _ o h => ⟨o, h⟩⟩
theorem Ext.none_of {rho rho' : Rho} {H H' : Hp} (e : Ext rho H rho' H') {b : Addr} (h : H' b = none) : H b = none := by
  cases q : H b with
  | none => rfl
  | some o =>
    obtain ⟨o', h'⟩ := e.liv b o q
    rw [h] at h'; cases h'
theorem Ext.notMem {rho rho' : Rho} {H H' : Hp} (e : Ext rho H rho' H') {b : Addr} {o : HO} (h : H b = some o) (n : b ∉ rho) : b ∉ rho' := by
  obtain ⟨m, em, hm⟩ := e.new
  intro hb
  rcases hb with hb | hb
  · rw [em] at hb
    rcases List.mem_append.mp hb with hb | hb
    · exact n (.inl hb)
    · rw [hm b hb] at h; cases h
  · rw [e.res] at hb
    exact n (.inr hb)
theorem Ext.trans {r0 r1 r2 : Rho} {H0 H1 H2 : Hp} (a : Ext r0 H0 r1 H1) (b : Ext r1 H1 r2 H2) : Ext r0 H0 r2 H2 := by
  refine ⟨?_, b.res.trans a.res, fun c o h n t => b.keep c o (a.keep c o h n t) (a.notMem h n) t, fun c o h n => b.kres c o (a.kres c o h n) (by rw [a.res]; exact n), fun c xs h => b.tup c xs (a.tup c xs h), fun c o u h => b.frz c o u (a.frz c o u h), fun c o h => ?_⟩
  · obtain ⟨n1, e1, h1⟩ := a.new
    obtain ⟨n2, e2, h2⟩ := b.new
    refine ⟨n1 ++ n2, by rw [e2, e1, List.append_assoc], fun c hc => ?_⟩
    rcases List.mem_append.mp hc with hc | hc
    · exact h1 c hc
    · exact a.none_of (h2 c hc)
  · obtain ⟨o1, h1⟩ := a.liv c o h
    exact b.liv c o1 h1
theorem Ext.get {rho rho' : Rho} {H H' : Hp} (e : Ext rho H rho' H') {l : Nat} {a : Addr} (h : rho.loc[l]? = some a) : rho'.loc[l]? = some a := by
  obtain ⟨n, en, _⟩ := e.new
  obtain ⟨hl, _⟩ := List.getElem?_eq_some_iff.mp h
  rw [en, List.getElem?_append_left hl]
  exact h
theorem Ext.sqT {K : PySem.W.Frag} {rho rho' : Rho} {H H' : Hp} (e : Ext rho H rho' H') {a : Addr} {xs : List V} (h : SqT K H a xs) : SqT K H' a xs := by
  rcases h with (h | ⟨o, h⟩) | h
  · exact .inl (.inl (e.tup a xs h))
  · exact .inl (.inr ⟨o, e.frz a o _ h⟩)
  · exact .inr h
theorem Ext.fzL {K : PySem.W.Frag} {rho rho' : Rho} {H H' : Hp} (e : Ext rho H rho' H') {a : Addr} {xs : List V} (h : FzL K H a xs) : FzL K H' a xs := by
  rcases h with ⟨o, h⟩ | h
  · exact .inl ⟨o, e.frz a o _ h⟩
  · exact .inr h
mutual
theorem RelD.ext {K : PySem.W.Frag} {rho rho' : Rho} {H H' : Hp} (e : Ext rho H rho' H') : ∀ {d : D} {v : V}, RelD K rho H d v → RelD K rho' H' d v
  | _, _, .non => .non
  | _, _, .bl b => .bl b
  | _, _, .int i => .int i
  | _, _, .str x => .str x
  | _, _, .tup h r k => .tup (e.sqT h) (RelDs.ext e r) fun z => e.tup _ _ (k z)
  | _, _, .lst h n r => .lst (e.keep _ _ h n nt_lst) (e.notMem h n) (RelDs.ext e r)
  | _, _, .fz h r => .fz (e.fzL h) (RelDs.ext e r)
  | _, _, .dic h n r => .dic (e.keep _ _ h n nt_dK) (e.notMem h n) (RelK.ext e r)
  | _, _, .ref h => .ref (e.get h)
  | _, _, .fn h => .fn h
theorem RelDs.ext {K : PySem.W.Frag} {rho rho' : Rho} {H H' : Hp} (e : Ext rho H rho' H') : ∀ {ds : List D} {vs : List V}, RelDs K rho H ds vs → RelDs K rho' H' ds vs
  | _, _, .nil => .nil
  | _, _, .cons h t => .cons (RelD.ext e h) (RelDs.ext e t)
theorem RelK.ext {K : PySem.W.Frag} {rho rho' : Rho} {H H' : Hp} (e : Ext rho H rho' H') : ∀ {ds : List (Key × D)} {vs : List (Key × V)}, RelK K rho H ds vs → RelK K rho' H' ds vs
  | _, _, .nil => .nil
  | _, _, .cons h t => .cons (RelD.ext e h) (RelK.ext e t)
end
theorem RelDs.length {K : PySem.W.Frag} {rho : Rho} {H : Hp} : ∀ {ds : List D} {vs : List V}, RelDs K rho H ds vs → ds.length = vs.length
  | _, _, .nil => rfl
  | _, _, .cons _ t => by simp [RelDs.length t]
theorem RelDs.get {K : PySem.W.Frag} {rho : Rho} {H : Hp} : ∀ {ds : List D} {vs : List V}, RelDs K rho H ds vs → ∀ {i : Nat} {d : D}, ds[i]? = some d → ∃ v, vs[i]? = some v ∧ RelD K rho H d v
  | _, _, .nil, _, _, h => by simp at h
  | _, _, .cons h _, 0, _, e => by simp at e; subst e; exact ⟨_, rfl, h⟩
  | _, _, .cons _ t, i + 1, _, e => by
    obtain ⟨v, h1, h2⟩ := RelDs.get t (i := i) (by simpa using e)
    exact ⟨v, by simpa using h1, h2⟩
theorem RelDs.append {K : PySem.W.Frag} {rho : Rho} {H : Hp} : ∀ {ds es : List D} {vs ws : List V}, RelDs K rho H ds vs → RelDs K rho H es ws → RelDs K rho H (ds ++ es) (vs ++ ws)
  | _, _, _, _, .nil, s => s
  | _, _, _, _, .cons h t, s => .cons h (RelDs.append t s)
theorem RelDs.drop {K : PySem.W.Frag} {rho : Rho} {H : Hp} : ∀ {ds : List D} {vs : List V} (n : Nat), RelDs K rho H ds vs → RelDs K rho H (ds.drop n) (vs.drop n)
  | _, _, 0, r => r
  | _, _, _ + 1, .nil => .nil
  | _, _, n + 1, .cons _ t => RelDs.drop n t
theorem RelDs.take {K : PySem.W.Frag} {rho : Rho} {H : Hp} : ∀ {ds : List D} {vs : List V} (n : Nat), RelDs K rho H ds vs → RelDs K rho H (ds.take n) (vs.take n)
  | _, _, 0, _ => .nil
  | _, _, _ + 1, .nil => .nil
  | _, _, n + 1, .cons h t => .cons h (RelDs.take n t)
theorem RelK.length {K : PySem.W.Frag} {rho : Rho} {H : Hp} : ∀ {ds : List (Key × D)} {vs : List (Key × V)}, RelK K rho H ds vs → ds.length = vs.length
  | _, _, .nil => rfl
  | _, _, .cons _ t => by simp [RelK.length t]
def ObjR (K : PySem.W.Frag) (rho : Rho) (H : Hp) (a : Addr) : SO → Prop
  | .lst ds => ∃ vs, H a = some (.lst vs) ∧ RelDs K rho H ds vs
  | .dic ds => ∃ vs, H a = some (.dK vs) ∧ RelK K rho H ds vs
  | .ins c fs => ∃ (vs : List (Str × V)) (C dx : Addr), H a = some (.ins C dx vs) ∧ PySem.W.nsIn K mainGlobals c = some (some (.ref C)) ∧ fs.map (·.1) = vs.map (·.1) ∧ RelDs K rho H (fs.map (·.2)) (vs.map (·.2))
  | .dicT kvs => ∃ vs : List (List Key × V), H a = some (.dT vs) ∧ kvs.map (·.1) = vs.map (·.1) ∧ RelDs K rho H (kvs.map (·.2)) (vs.map (·.2))
  | .dicL kvs => ∃ (o : Obj) (vs : List (List Key × V)), H a = some (.frz o (.dT vs)) ∧ kvs.map (·.1) = vs.map (·.1) ∧ RelDs K rho H (kvs.map (·.2)) (vs.map (·.2))
  | .dicF kvs => ∃ (o : Obj) (vs : List (Key × V)), H a = some (.frz o (.dK vs)) ∧ RelK K rho H kvs vs
  | .exn c => ∃ (o : Obj) (C : Addr), H a = some (.frz o (.own a)) ∧ PySem.W.nsIn K mainGlobals c = some (some (.ref C)) ∧ Zc (.ref C) none o ∧ ∃ vs, o.data = .fields vs
theorem ObjR.tracked {K : PySem.W.Frag} {rho : Rho} {H : Hp} {a : Addr} {o : SO} (h : ObjR K rho H a o) : ∃ u, H a = some u := by
  cases o with
  | lst ds => obtain ⟨vs, h, _⟩ := h; exact ⟨_, h⟩
  | dic ds => obtain ⟨vs, h, _⟩ := h; exact ⟨_, h⟩
  | ins c fs => obtain ⟨vs, C, dx, h, _⟩ := h; exact ⟨_, h⟩
  | dicT kvs => obtain ⟨vs, h, _⟩ := h; exact ⟨_, h⟩
  | dicL kvs => obtain ⟨o, vs, h, _⟩ := h; exact ⟨_, h⟩
  | dicF kvs => obtain ⟨o, vs, h, _⟩ := h; exact ⟨_, h⟩
  | exn c => obtain ⟨o, C, h, _⟩ := h; exact ⟨_, h⟩
structure Wld (K : PySem.W.Frag) (rho : Rho) (st : Sto) (H : Hp) : Prop where
  len : rho.loc.length = st.length
  nd : rho.loc.Nodup
  obj : ∀ (l : Nat) (a : Addr) (o : SO), rho.loc[l]? = some a → st[l]? = some o → ObjR K rho H a o
  dis : ∀ a ∈ rho.loc, a ∉ rho.res
  rsv : ∀ b ∈ rho.res, ∃ o, H b = some o ∧ Mut (some o)
  tab : LamX.Tabs TabsC.tabs H
theorem Wld.at {K : PySem.W.Frag} {rho : Rho} {st : Sto} {H : Hp} (w : Wld K rho st H) {a : Addr} (h : a ∈ rho.loc) : ∃ (l : Nat) (o : SO), rho.loc[l]? = some a ∧ st[l]? = some o ∧ ObjR K rho H a o := by
  obtain ⟨l, hl, e⟩ := List.mem_iff_getElem.mp h
  have h1 : rho.loc[l]? = some a := by rw [List.getElem?_eq_getElem hl, e]
  have hl2 : l < st.length := by rw [← w.len]; exact hl
  exact ⟨l, st[l], h1, List.getElem?_eq_getElem hl2, w.obj l a _ h1 (List.getElem?_eq_getElem hl2)⟩
theorem Wld.fresh {K : PySem.W.Frag} {rho : Rho} {st : Sto} {H : Hp} (w : Wld K rho st H) {p : Addr} (h : H p = none) : p ∉ rho := fun hp => by
  rcases hp with hp | hp
  · obtain ⟨l, o, _, _, r⟩ := w.at hp
    obtain ⟨u, e⟩ := r.tracked
    rw [h] at e; cases e
  · obtain ⟨xs, e, _⟩ := w.rsv p hp
    rw [h] at e; cases e
theorem Wld.extTmp {K : PySem.W.Frag} {rho : Rho} {st : Sto} {H : Hp} (w : Wld K rho st H) {p : Addr} (h : H p = none) (o : HO) : Ext rho H rho (upd H p o) :=
  ⟨⟨[], by simp, fun b hb => absurd hb (by simp)⟩, rfl, fun b u e _ _ => by rw [upd_ne (ne_of_none e h)]; exact e, fun b u e _ => by rw [upd_ne (ne_of_none e h)]; exact e, fun b xs e => by rw [upd_ne (ne_of_none e h)]; exact e,
    fun b q u e => by rw [upd_ne (ne_of_none e h)]; exact e, fun b u e => ⟨u, by rw [upd_ne (ne_of_none e h)]; exact e⟩⟩
theorem ObjR.ext {K : PySem.W.Frag} {rho rho' : Rho} {H H' : Hp} {a : Addr} {o : SO} (e : Ext rho H rho' H') (q : ∀ u, H a = some u → H' a = some u) (h : ObjR K rho H a o) : ObjR K rho' H' a o := by
  cases o with
  | lst ds => obtain ⟨vs, h, r⟩ := h; exact ⟨vs, q _ h, r.ext e⟩
  | dic ds => obtain ⟨vs, h, r⟩ := h; exact ⟨vs, q _ h, r.ext e⟩
  | ins c fs => obtain ⟨vs, C, dx, h, h2, h3, r⟩ := h; exact ⟨vs, C, dx, q _ h, h2, h3, r.ext e⟩
  | dicT kvs => obtain ⟨vs, h, h3, r⟩ := h; exact ⟨vs, q _ h, h3, r.ext e⟩
  | dicL kvs => obtain ⟨o, vs, h, h3, r⟩ := h; exact ⟨o, vs, q _ h, h3, r.ext e⟩
  | dicF kvs => obtain ⟨o, vs, h, r⟩ := h; exact ⟨o, vs, q _ h, r.ext e⟩
  | exn c => obtain ⟨o, C, h, r⟩ := h; exact ⟨o, C, q _ h, r⟩
theorem Wld.tmp {K : PySem.W.Frag} {rho : Rho} {st : Sto} {H : Hp} (w : Wld K rho st H) {p : Addr} (h : H p = none) (o : HO) : Wld K rho st (upd H p o) :=
  ⟨w.len, w.nd, fun l a u h1 h2 => (w.obj l a u h1 h2).ext (w.extTmp h o) fun x e => by rw [upd_ne (ne_of_none e h)]; exact e, w.dis, fun b hb => by
    obtain ⟨xs, e, m⟩ := w.rsv b hb
    exact ⟨xs, by rw [upd_ne (ne_of_none e h)]; exact e, m⟩, w.tab.ext fun b u e => by rw [upd_ne (ne_of_none e h)]; exact e⟩
theorem Wld.extNew {K : PySem.W.Frag} {rho : Rho} {st : Sto} {H : Hp} (w : Wld K rho st H) {p : Addr} (h : H p = none) (o : HO) : Ext rho H (rho.add p) (upd H p o) :=
  ⟨⟨[p], rfl, fun b hb => by rw [List.mem_singleton.mp hb]; exact h⟩, rfl, (w.extTmp h o).keep, (w.extTmp h o).kres, (w.extTmp h o).tup, (w.extTmp h o).frz, (w.extTmp h o).liv⟩
theorem Wld.new {K : PySem.W.Frag} {rho : Rho} {st : Sto} {H : Hp} (w : Wld K rho st H) {p : Addr} (h : H p = none) {o : HO} {so : SO} (r : ObjR K (rho.add p) (upd H p o) p so) : Wld K (rho.add p) (st ++ [so]) (upd H p o) := by
  refine ⟨by simp [Rho.add, w.len], ?_, fun l a u h1 h2 => ?_, fun a ha => ?_, fun b hb => ?_, w.tab.ext fun b u e => by rw [upd_ne (ne_of_none e h)]; exact e⟩
  · show (rho.loc ++ [p]).Nodup
    rw [List.nodup_append]
    exact ⟨w.nd, by simp, fun a ha b hb => by rw [List.mem_singleton.mp hb]; exact fun e => w.fresh h (.inl (e ▸ ha))⟩
  · have h1' : (rho.loc ++ [p])[l]? = some a := h1
    by_cases hl : l < rho.loc.length
    · rw [List.getElem?_append_left hl] at h1'
      rw [List.getElem?_append_left (by rw [← w.len]; exact hl)] at h2
      exact (w.obj l a u h1' h2).ext (w.extNew h o) fun x e => by rw [upd_ne (ne_of_none e h)]; exact e
    · obtain ⟨hl2, _⟩ := List.getElem?_eq_some_iff.mp h1'
      have e : l = rho.loc.length := by simp at hl2; omega
      subst e
      rw [List.getElem?_append_right (Nat.le_refl _)] at h1'
      rw [w.len, List.getElem?_append_right (Nat.le_refl _)] at h2
      simp at h1' h2
      subst h1' h2
      exact r
  · rcases List.mem_append.mp ha with ha | ha
    · exact w.dis a ha
    · rw [List.mem_singleton.mp ha]
      exact fun z => w.fresh h (.inr z)
  · obtain ⟨xs, e, m⟩ := w.rsv b hb
    exact ⟨xs, by rw [upd_ne (ne_of_none e h)]; exact e, m⟩
theorem tabs_upd {T : List (Addr × Str)} {H : Hp} {a : Addr} {o : HO} (t : LamX.Tabs T H) (n1 : ∀ ps, H a ≠ some (.tbl ps)) (n2 : ∀ φ, H a ≠ some (.ext φ)) : LamX.Tabs T (upd H a o) := fun p hp => by
  obtain ⟨ps, h1, h2, h3⟩ := t p hp
  refine ⟨ps, by rw [upd_ne (fun z => n1 ps (by rw [← z]; exact h1))]; exact h1, h2, fun pos cv hc => ?_⟩
  obtain ⟨c, e1, e2⟩ := h3 pos cv hc
  exact ⟨c, e1, by rw [upd_ne (fun z => n2 _ (by rw [← z]; exact e2))]; exact e2⟩
theorem ObjR.kind {K : PySem.W.Frag} {rho : Rho} {H : Hp} {a : Addr} {o : SO} (h : ObjR K rho H a o) : (∀ ps, H a ≠ some (.tbl ps)) ∧ ∀ φ, H a ≠ some (.ext φ) := by
  cases o with
  | lst ds => obtain ⟨vs, h, _⟩ := h; rw [h]; exact ⟨fun _ z => (by cases z), fun _ z => (by cases z)⟩
  | dic ds => obtain ⟨vs, h, _⟩ := h; rw [h]; exact ⟨fun _ z => (by cases z), fun _ z => (by cases z)⟩
  | ins c fs => obtain ⟨vs, C, dx, h, _⟩ := h; rw [h]; exact ⟨fun _ z => (by cases z), fun _ z => (by cases z)⟩
  | dicT kvs => obtain ⟨vs, h, _⟩ := h; rw [h]; exact ⟨fun _ z => (by cases z), fun _ z => (by cases z)⟩
  | dicL kvs => obtain ⟨o, vs, h, _⟩ := h; rw [h]; exact ⟨fun _ z => (by cases z), fun _ z => (by cases z)⟩
  | dicF kvs => obtain ⟨o, vs, h, _⟩ := h; rw [h]; exact ⟨fun _ z => (by cases z), fun _ z => (by cases z)⟩
  | exn c => obtain ⟨o, C, h, _⟩ := h; rw [h]; exact ⟨fun _ z => (by cases z), fun _ z => (by cases z)⟩
theorem Wld.extSet {K : PySem.W.Frag} {rho : Rho} {st : Sto} {H : Hp} (w : Wld K rho st H) {l : Nat} {a : Addr} (h : rho.loc[l]? = some a) (o : HO) (mu : Mut (H a)) : Ext rho H rho (upd H a o) := by
  have ha : a ∈ rho.loc := List.mem_of_getElem? h
  obtain ⟨l', so, _, _, r⟩ := w.at ha
  obtain ⟨u, hu⟩ := r.tracked
  have hm : Mut (some u) := by rw [← hu]; exact mu
  refine ⟨⟨[], by simp, fun b hb => absurd hb (by simp)⟩, rfl, fun b x e n _ => ?_, fun b x e n => ?_, fun b xs e => ?_, fun b q x e => ?_, fun b x e => ?_⟩
  · rw [upd_ne (fun z : b = a => n (by rw [z]; exact .inl ha))]; exact e
  · rw [upd_ne (fun z : b = a => w.dis a ha (by rw [← z]; exact n))]; exact e
  · rw [upd_ne (fun z => by subst z; rw [hu] at e; cases e; exact hm)]; exact e
  · rw [upd_ne (fun z => by subst z; rw [hu] at e; cases e; exact hm)]; exact e
  · by_cases z : b = a
    · subst z; exact ⟨o, upd_same⟩
    · exact ⟨x, by rw [upd_ne z]; exact e⟩
theorem Wld.set {K : PySem.W.Frag} {rho : Rho} {st : Sto} {H : Hp} (w : Wld K rho st H) {l : Nat} {a : Addr} (h : rho.loc[l]? = some a) {o : HO} {so : SO} (mu : Mut (H a)) (r : ObjR K rho (upd H a o) a so) : Wld K rho (st.set l so) (upd H a o) := by
  have ha : a ∈ rho.loc := List.mem_of_getElem? h
  obtain ⟨_, _, _, _, rk⟩ := w.at ha
  refine ⟨by simp [w.len], w.nd, fun l' a' u h1 h2 => ?_, w.dis, fun b hb => ?_, tabs_upd w.tab rk.kind.1 rk.kind.2⟩
  · by_cases e : l' = l
    · subst e
      rw [h] at h1; cases h1
      obtain ⟨hl, _⟩ := List.getElem?_eq_some_iff.mp h
      rw [List.getElem?_set_self (by rw [← w.len]; exact hl)] at h2
      cases h2
      exact r
    · rw [List.getElem?_set_ne (fun z => e z.symm)] at h2
      have na : a' ≠ a := fun z => by
        subst z
        obtain ⟨hl, e1⟩ := List.getElem?_eq_some_iff.mp h
        obtain ⟨hl', e2⟩ := List.getElem?_eq_some_iff.mp h1
        exact e ((List.getElem_inj w.nd).mp (e2.trans e1.symm))
      exact (w.obj l' a' u h1 h2).ext (w.extSet h o mu) fun x q => by rw [upd_ne na]; exact q
  · obtain ⟨xs, e, m⟩ := w.rsv b hb
    exact ⟨xs, by rw [upd_ne (fun z : b = a => w.dis a ha (by rw [← z]; exact hb))]; exact e, m⟩
mutual
theorem RelD.hide {K : PySem.W.Frag} {rho : Rho} {H : Hp} {p : Addr} {o : HO} (h : H p = none) : ∀ {d : D} {v : V}, RelD K rho H d v → RelD K (rho.hide p) (upd H p o) d v
  | _, _, .non => .non
  | _, _, .bl b => .bl b
  | _, _, .int i => .int i
  | _, _, .str x => .str x
  | _, _, .tup q r k => .tup (by
      rcases q with (q | ⟨ob, q⟩) | q
      · exact .inl (.inl (by rw [upd_ne (ne_of_none q h)]; exact q))
      · exact .inl (.inr ⟨ob, by rw [upd_ne (ne_of_none q h)]; exact q⟩)
      · exact .inr q) (RelDs.hide h r) (fun z => by rw [upd_ne (ne_of_none (k z) h)]; exact k z)
  | _, _, .lst q n r => .lst (by rw [upd_ne (ne_of_none q h)]; exact q) (fun z => by
      rcases z with z | z
      · exact n (.inl z)
      · rcases List.mem_cons.mp z with z | z
        · subst z; rw [h] at q; cases q
        · exact n (.inr z)) (RelDs.hide h r)
  | _, _, .fz q r => .fz (by
      rcases q with ⟨ob, q⟩ | q
      · exact .inl ⟨ob, by rw [upd_ne (ne_of_none q h)]; exact q⟩
      · exact .inr q) (RelDs.hide h r)
  | _, _, .dic q n r => .dic (by rw [upd_ne (ne_of_none q h)]; exact q) (fun z => by
      rcases z with z | z
      · exact n (.inl z)
      · rcases List.mem_cons.mp z with z | z
        · subst z; rw [h] at q; cases q
        · exact n (.inr z)) (RelK.hide h r)
  | _, _, .ref q => .ref q
  | _, _, .fn q => .fn q
theorem RelDs.hide {K : PySem.W.Frag} {rho : Rho} {H : Hp} {p : Addr} {o : HO} (h : H p = none) : ∀ {ds : List D} {vs : List V}, RelDs K rho H ds vs → RelDs K (rho.hide p) (upd H p o) ds vs
  | _, _, .nil => .nil
  | _, _, .cons q t => .cons (RelD.hide h q) (RelDs.hide h t)
theorem RelK.hide {K : PySem.W.Frag} {rho : Rho} {H : Hp} {p : Addr} {o : HO} (h : H p = none) : ∀ {ds : List (Key × D)} {vs : List (Key × V)}, RelK K rho H ds vs → RelK K (rho.hide p) (upd H p o) ds vs
  | _, _, .nil => .nil
  | _, _, .cons q t => .cons (RelD.hide h q) (RelK.hide h t)
end
theorem Wld.hide {K : PySem.W.Frag} {rho : Rho} {st : Sto} {H : Hp} (w : Wld K rho st H) {p : Addr} (h : H p = none) (o : HO) (hm : Mut (some o)) : Wld K (rho.hide p) st (upd H p o) := by
  refine ⟨w.len, w.nd, fun l a u h1 h2 => ?_, fun a ha z => ?_, fun b hb => ?_, w.tab.ext fun b u e => by rw [upd_ne (ne_of_none e h)]; exact e⟩
  · have q := w.obj l a u h1 h2
    cases u with
    | lst ds => obtain ⟨vs, q, r⟩ := q; exact ⟨vs, by rw [upd_ne (ne_of_none q h)]; exact q, r.hide h⟩
    | dic ds => obtain ⟨vs, q, r⟩ := q; exact ⟨vs, by rw [upd_ne (ne_of_none q h)]; exact q, r.hide h⟩
    | ins c fs => obtain ⟨vs, C, dx, q, h2, h3, r⟩ := q; exact ⟨vs, C, dx, by rw [upd_ne (ne_of_none q h)]; exact q, h2, h3, r.hide h⟩
    | dicT kvs => obtain ⟨vs, q, h3, r⟩ := q; exact ⟨vs, by rw [upd_ne (ne_of_none q h)]; exact q, h3, r.hide h⟩
    | dicL kvs => obtain ⟨o, vs, q, h3, r⟩ := q; exact ⟨o, vs, by rw [upd_ne (ne_of_none q h)]; exact q, h3, r.hide h⟩
    | dicF kvs => obtain ⟨o, vs, q, r⟩ := q; exact ⟨o, vs, by rw [upd_ne (ne_of_none q h)]; exact q, r.hide h⟩
    | exn c => obtain ⟨o, C, q, r⟩ := q; exact ⟨o, C, by rw [upd_ne (ne_of_none q h)]; exact q, r⟩
  · rcases List.mem_cons.mp z with z | z
    · exact w.fresh h (.inl (z ▸ ha))
    · exact w.dis a ha z
  · rcases List.mem_cons.mp hb with z | z
    · subst z; exact ⟨o, upd_same, hm⟩
    · obtain ⟨ys, e, m⟩ := w.rsv b z
      exact ⟨ys, by rw [upd_ne (ne_of_none e h)]; exact e, m⟩
theorem Ext.grow {rho : Rho} {H : Hp} {p : Addr} {o o' : HO} (hp : p ∈ rho.res) (h : H p = some o) (hm : Mut (some o)) : (∀ b xs', H b = some (.tup xs') → upd H p o' b = some (.tup xs')) ∧ (∀ b q u, H b = some (.frz q u) → upd H p o' b = some (.frz q u)) :=
  ⟨fun b xs' e => by rw [upd_ne (fun z => by subst z; rw [h] at e; cases e; exact hm)]; exact e, fun b q u e => by rw [upd_ne (fun z => by subst z; rw [h] at e; cases e; exact hm)]; exact e⟩
mutual
theorem RelD.grow {K : PySem.W.Frag} {rho : Rho} {H : Hp} {p : Addr} {o o' : HO} (hp : p ∈ rho.res) (h : H p = some o) (hm : Mut (some o)) : ∀ {d : D} {v : V}, RelD K rho H d v → RelD K rho (upd H p o') d v
  | _, _, .non => .non
  | _, _, .bl b => .bl b
  | _, _, .int i => .int i
  | _, _, .str x => .str x
  | _, _, .tup q r k => .tup (by
      rcases q with (q | ⟨ob, q⟩) | q
      · exact .inl (.inl ((Ext.grow hp h hm).1 _ _ q))
      · exact .inl (.inr ⟨ob, (Ext.grow hp h hm).2 _ _ _ q⟩)
      · exact .inr q) (RelDs.grow hp h hm r) (fun z => (Ext.grow hp h hm).1 _ _ (k z))
  | _, _, .lst q n r => .lst (by rw [upd_ne (fun z => n (by rw [z]; exact .inr hp))]; exact q) n (RelDs.grow hp h hm r)
  | _, _, .fz q r => .fz (by
      rcases q with ⟨ob, q⟩ | q
      · exact .inl ⟨ob, (Ext.grow hp h hm).2 _ _ _ q⟩
      · exact .inr q) (RelDs.grow hp h hm r)
  | _, _, .dic q n r => .dic (by rw [upd_ne (fun z => n (by rw [z]; exact .inr hp))]; exact q) n (RelK.grow hp h hm r)
  | _, _, .ref q => .ref q
  | _, _, .fn q => .fn q
theorem RelDs.grow {K : PySem.W.Frag} {rho : Rho} {H : Hp} {p : Addr} {o o' : HO} (hp : p ∈ rho.res) (h : H p = some o) (hm : Mut (some o)) : ∀ {ds : List D} {vs : List V}, RelDs K rho H ds vs → RelDs K rho (upd H p o') ds vs
  | _, _, .nil => .nil
  | _, _, .cons q t => .cons (RelD.grow hp h hm q) (RelDs.grow hp h hm t)
theorem RelK.grow {K : PySem.W.Frag} {rho : Rho} {H : Hp} {p : Addr} {o o' : HO} (hp : p ∈ rho.res) (h : H p = some o) (hm : Mut (some o)) : ∀ {ds : List (Key × D)} {vs : List (Key × V)}, RelK K rho H ds vs → RelK K rho (upd H p o') ds vs
  | _, _, .nil => .nil
  | _, _, .cons q t => .cons (RelD.grow hp h hm q) (RelK.grow hp h hm t)
end
theorem Wld.grow {K : PySem.W.Frag} {rho : Rho} {st : Sto} {H : Hp} (w : Wld K rho st H) {p : Addr} {o o' : HO} (hp : p ∈ rho.res) (h : H p = some o) (hm : Mut (some o)) (hm' : Mut (some o')) (hx : ∀ φ, o ≠ .ext φ := by intro _ z; cases z) : Wld K rho st (upd H p o') := by
  refine ⟨w.len, w.nd, fun l a u h1 h2 => ?_, w.dis, fun b hb => ?_, tabs_upd w.tab (fun ps z => by rw [h] at z; cases z; exact hm) (fun φ z => by rw [h] at z; cases z; exact hx _ rfl)⟩
  · have na : a ≠ p := fun z => w.dis a (List.mem_of_getElem? h1) (by rw [z]; exact hp)
    have q := w.obj l a u h1 h2
    cases u with
    | lst ds => obtain ⟨vs, q, r⟩ := q; exact ⟨vs, by rw [upd_ne na]; exact q, r.grow hp h hm⟩
    | dic ds => obtain ⟨vs, q, r⟩ := q; exact ⟨vs, by rw [upd_ne na]; exact q, r.grow hp h hm⟩
    | ins c fs => obtain ⟨vs, C, dx, q, h2, h3, r⟩ := q; exact ⟨vs, C, dx, by rw [upd_ne na]; exact q, h2, h3, r.grow hp h hm⟩
    | dicT kvs => obtain ⟨vs, q, h3, r⟩ := q; exact ⟨vs, by rw [upd_ne na]; exact q, h3, r.grow hp h hm⟩
    | dicL kvs => obtain ⟨o, vs, q, h3, r⟩ := q; exact ⟨o, vs, by rw [upd_ne na]; exact q, h3, r.grow hp h hm⟩
    | dicF kvs => obtain ⟨o, vs, q, r⟩ := q; exact ⟨o, vs, by rw [upd_ne na]; exact q, r.grow hp h hm⟩
    | exn c => obtain ⟨o, C, q, r⟩ := q; exact ⟨o, C, by rw [upd_ne na]; exact q, r⟩
  · by_cases z : b = p
    · subst z; exact ⟨o', upd_same, hm'⟩
    · obtain ⟨zs, e, m⟩ := w.rsv b hb
      exact ⟨zs, by rw [upd_ne z]; exact e, m⟩
def Rho.show_ (r : Rho) (res : List Addr) : Rho := ⟨r.loc, res⟩
mutual
theorem RelD.show_ {K : PySem.W.Frag} {rho : Rho} {H : Hp} {res : List Addr} (hs : ∀ b ∈ res, b ∈ rho.res) : ∀ {d : D} {v : V}, RelD K rho H d v → RelD K (rho.show_ res) H d v
  | _, _, .non => .non
  | _, _, .bl b => .bl b
  | _, _, .int i => .int i
  | _, _, .str x => .str x
  | _, _, .tup q r k => .tup q (RelDs.show_ hs r) k
  | _, _, .lst q n r => .lst q (fun z => n (z.elim .inl fun z => .inr (hs _ z))) (RelDs.show_ hs r)
  | _, _, .fz q r => .fz q (RelDs.show_ hs r)
  | _, _, .dic q n r => .dic q (fun z => n (z.elim .inl fun z => .inr (hs _ z))) (RelK.show_ hs r)
  | _, _, .ref q => .ref q
  | _, _, .fn q => .fn q
theorem RelDs.show_ {K : PySem.W.Frag} {rho : Rho} {H : Hp} {res : List Addr} (hs : ∀ b ∈ res, b ∈ rho.res) : ∀ {ds : List D} {vs : List V}, RelDs K rho H ds vs → RelDs K (rho.show_ res) H ds vs
  | _, _, .nil => .nil
  | _, _, .cons q t => .cons (RelD.show_ hs q) (RelDs.show_ hs t)
theorem RelK.show_ {K : PySem.W.Frag} {rho : Rho} {H : Hp} {res : List Addr} (hs : ∀ b ∈ res, b ∈ rho.res) : ∀ {ds : List (Key × D)} {vs : List (Key × V)}, RelK K rho H ds vs → RelK K (rho.show_ res) H ds vs
  | _, _, .nil => .nil
  | _, _, .cons q t => .cons (RelD.show_ hs q) (RelK.show_ hs t)
end
theorem Wld.show_ {K : PySem.W.Frag} {rho : Rho} {st : Sto} {H : Hp} (w : Wld K rho st H) {res : List Addr} (hs : ∀ b ∈ res, b ∈ rho.res) : Wld K (rho.show_ res) st H := by
  refine ⟨w.len, w.nd, fun l a u h1 h2 => ?_, fun a ha z => w.dis a ha (hs _ z), fun b hb => w.rsv b (hs b hb), w.tab⟩
  have q := w.obj l a u h1 h2
  cases u with
  | lst ds => obtain ⟨vs, q, r⟩ := q; exact ⟨vs, q, r.show_ hs⟩
  | dic ds => obtain ⟨vs, q, r⟩ := q; exact ⟨vs, q, r.show_ hs⟩
  | ins c fs => obtain ⟨vs, C, dx, q, h2, h3, r⟩ := q; exact ⟨vs, C, dx, q, h2, h3, r.show_ hs⟩
  | dicT kvs => obtain ⟨vs, q, h3, r⟩ := q; exact ⟨vs, q, h3, r.show_ hs⟩
  | dicL kvs => obtain ⟨o, vs, q, h3, r⟩ := q; exact ⟨o, vs, q, h3, r.show_ hs⟩
  | dicF kvs => obtain ⟨o, vs, q, r⟩ := q; exact ⟨o, vs, q, r.show_ hs⟩
  | exn c => exact q
structure RelEnv (K : PySem.W.Frag) (rho : Rho) (H : Hp) (env : DEnv) (sg : L2.St) : Prop where
  len : env.length = sg.length
  at_ : ∀ (i : Nat) (d : D), env[i]? = some (some d) → ∃ v, sg[i]? = some (some v) ∧ RelD K rho H d v
theorem RelEnv.ext {K : PySem.W.Frag} {rho rho' : Rho} {H H' : Hp} {env : DEnv} {sg : L2.St} (e : Ext rho H rho' H') (r : RelEnv K rho H env sg) : RelEnv K rho' H' env sg :=
  ⟨r.len, fun i d h => let ⟨v, h1, h2⟩ := r.at_ i d h; ⟨v, h1, h2.ext e⟩⟩
theorem RelEnv.set {K : PySem.W.Frag} {rho : Rho} {H : Hp} {env : DEnv} {sg : L2.St} (r : RelEnv K rho H env sg) {d : D} {v : V} (h : RelD K rho H d v) (i : Nat) : RelEnv K rho H (env.set i (some d)) (sg.set i (some v)) := by
  refine ⟨by simp [r.len], fun j d' hj => ?_⟩
  by_cases e : i = j
  · subst e
    by_cases hl : i < env.length
    · rw [List.getElem?_set_self hl] at hj
      cases hj
      exact ⟨v, by rw [List.getElem?_set_self (by rw [← r.len]; exact hl)], h⟩
    · rw [List.getElem?_eq_none (by simpa using hl)] at hj; cases hj
  · rw [List.getElem?_set_ne e] at hj
    obtain ⟨v', h1, h2⟩ := r.at_ j d' hj
    exact ⟨v', by rw [List.getElem?_set_ne e]; exact h1, h2⟩
theorem RelEnv.wipe {K : PySem.W.Frag} {rho : Rho} {H : Hp} {env : DEnv} {sg : L2.St} (r : RelEnv K rho H env sg) : ∀ vs : List Nat, RelEnv K rho H (wipeD env vs) (wipe sg vs)
  | [] => r
  | v :: vs => by
    have ih := RelEnv.wipe r vs
    refine ⟨by simp [wipeD, L2.wipe, ih.len], fun j d hj => ?_⟩
    unfold wipeD at hj
    unfold L2.wipe
    by_cases e : v = j
    · subst e
      by_cases hl : v < (wipeD env vs).length
      · rw [List.getElem?_set_self hl] at hj; cases hj
      · rw [List.getElem?_eq_none (by simpa using hl)] at hj; cases hj
    · rw [List.getElem?_set_ne e] at hj
      obtain ⟨v', h1, h2⟩ := ih.at_ j d hj
      exact ⟨v', by rw [List.getElem?_set_ne e]; exact h1, h2⟩
def OkR {α : Type} (K : PySem.W.Frag) (cls : Nat → Value) (W : WX) (sg : L2.St) (rho : Rho) (H : Hp) (r : R α) (P : α → Sto → Rho → Hp → Prop) : Prop :=
  match r with
  | .ok a st => ∀ rho' H', Ext rho H rho' H' → Wld K rho' st H' → P a st rho' H'
  | .exc c st => ∀ rho' H', Ext rho H rho' H' → Wld K rho' st H' → W (cls c) none sg H'
  | .stuck => False
section
variable {α β : Type} {K : PySem.W.Frag} {cls : Nat → Value} {W : WX} {sg : L2.St} {rho rho1 : Rho} {H H1 : Hp}
theorem OkR.from {r : R α} {P : α → Sto → Rho → Hp → Prop} (h : OkR K cls W sg rho H r P) (e : Ext rho H rho1 H1) : OkR K cls W sg rho1 H1 r P := by
  cases r with
  | ok a st => exact fun r2 H2 e2 w2 => h r2 H2 (e.trans e2) w2
  | exc c st => exact fun r2 H2 e2 w2 => h r2 H2 (e.trans e2) w2
  | stuck => exact h
theorem OkR.mono {r : R α} {P P' : α → Sto → Rho → Hp → Prop} (h : OkR K cls W sg rho H r P) (f : ∀ a st rho' H', Ext rho H rho' H' → Wld K rho' st H' → P a st rho' H' → P' a st rho' H') : OkR K cls W sg rho H r P' := by
  cases r with
  | ok a st => exact fun r2 H2 e2 w2 => f _ _ _ _ e2 w2 (h r2 H2 e2 w2)
  | exc c st => exact h
  | stuck => exact h
theorem OkR.bind {r : R α} {f : α → Sto → R β} {P : β → Sto → Rho → Hp → Prop} (h : OkR K cls W sg rho H (r.bind f) P) :
    OkR K cls W sg rho H r (fun a st rho' H' => OkR K cls W sg rho' H' (f a st) P) := by
  cases r with
  | ok a st => exact fun r2 H2 e2 _ => OkR.from h e2
  | exc c st => exact h
  | stuck => exact h
theorem OkR.ok {a : α} {st : Sto} {P : α → Sto → Rho → Hp → Prop} (h : OkR K cls W sg rho H (.ok a st) P) (w : Wld K rho st H) : P a st rho H := h rho H (Ext.refl rho H) w
end
def VQ (K : PySem.W.Frag) (Q : VK) : D → Sto → Rho → Hp → Prop := fun d _ rho H => ∀ v, RelD K rho H d v → Q v H
def tE (K : PySem.W.Frag) (cls : Nat → Value) (W : WX) (m : ME) : TE := fun sg H Q => ∃ rho env st, Wld K rho st H ∧ RelEnv K rho H env sg ∧ OkR K cls W sg rho H (m env st) (VQ K Q)
def tTm (K : PySem.W.Frag) (cls : Nat → Value) (W : WX) (m : ME) : TT := fun sg H Q => ∃ rho env st, Wld K rho st H ∧ RelEnv K rho H env sg ∧ OkR K cls W sg rho H (mT m env st) (fun b _ _ H' => Q b H')
def tAm (K : PySem.W.Frag) (cls : Nat → Value) (W : WX) (ms : List ME) : TA := fun sg H Q => ∃ rho env st, Wld K rho st H ∧ RelEnv K rho H env sg ∧
  OkR K cls W sg rho H (mArgs ms env st) (fun ds _ rho' H' => ∀ vs, RelDs K rho' H' ds vs → Q vs H')
def OkS (K : PySem.W.Frag) (cls : Nat → Value) (W : WX) (rho : Rho) (H : Hp) (r : SR) (E : Ends) : Prop :=
  match r with
  | .nx env st => ∀ sg rho' H', Ext rho H rho' H' → Wld K rho' st H' → RelEnv K rho' H' env sg → E.nx sg H'
  | .bk env st => ∀ sg rho' H', Ext rho H rho' H' → Wld K rho' st H' → RelEnv K rho' H' env sg → E.bk sg H'
  | .ct env st => ∀ sg rho' H', Ext rho H rho' H' → Wld K rho' st H' → RelEnv K rho' H' env sg → E.ct sg H'
  | .rt d st => ∀ v rho' H', Ext rho H rho' H' → Wld K rho' st H' → RelD K rho' H' d v → E.rt v H'
  | .exc c env st => ∀ sg rho' H', Ext rho H rho' H' → Wld K rho' st H' → RelEnv K rho' H' env sg → W (cls c) none sg H'
  | .stuck => False
theorem OkS.from {K : PySem.W.Frag} {cls : Nat → Value} {W : WX} {rho rho1 : Rho} {H H1 : Hp} {r : SR} {E : Ends} (h : OkS K cls W rho H r E) (e : Ext rho H rho1 H1) : OkS K cls W rho1 H1 r E := by
  cases r with
  | nx env st => exact fun sg r2 H2 e2 => h sg r2 H2 (e.trans e2)
  | bk env st => exact fun sg r2 H2 e2 => h sg r2 H2 (e.trans e2)
  | ct env st => exact fun sg r2 H2 e2 => h sg r2 H2 (e.trans e2)
  | rt d st => exact fun sg r2 H2 e2 => h sg r2 H2 (e.trans e2)
  | exc c env st => exact fun sg r2 H2 e2 => h sg r2 H2 (e.trans e2)
  | stuck => exact h
def tS (K : PySem.W.Frag) (cls : Nat → Value) (W : WX) (m : MS) : TS := fun E sg H => ∃ rho env st, Wld K rho st H ∧ RelEnv K rho H env sg ∧ OkS K cls W rho H (m env st) E
theorem PE.weak {X : Cx} {e : Expr} {t t' : TE} (h : PE X e t) (f : ∀ sg H Q, t' sg H Q → t sg H Q) : PE X e t' := ⟨fun pins s sg H Q I q => h.run pins s sg H Q I (f _ _ _ q)⟩
theorem PE.or {X : Cx} {e : Expr} {t t' : TE} (h : PE X e t) (h' : PE X e t') : PE X e (fun sg H Q => t sg H Q ∨ t' sg H Q) := ⟨fun pins s sg H Q I q => q.elim (h.run pins s sg H Q I) (h'.run pins s sg H Q I)⟩
theorem PT.weak {X : Cx} {e : Expr} {t t' : TT} (h : PT X e t) (f : ∀ sg H Q, t' sg H Q → t sg H Q) : PT X e t' := ⟨fun pins s sg H Q I q => h.run pins s sg H Q I (f _ _ _ q)⟩
theorem PW.weak {X : Cx} {e : Expr} {t t' : TT} (h : PW X e t) (f : ∀ sg H Q, t' sg H Q → t sg H Q) : PW X e t' := ⟨fun wh pins s sg H Q I q => h.run wh pins s sg H Q I (f _ _ _ q)⟩
theorem PA.weak {X : Cx} {es : List Expr} {t t' : TA} (h : PA X es t) (f : ∀ sg H Q, t' sg H Q → t sg H Q) : PA X es t' := ⟨fun pos pins s sg H Q I q => h.run pos pins s sg H Q I (f _ _ _ q)⟩
theorem PS.weak {X : Cx} {e : Stmt} {t t' : TS} (h : PS X e t) (f : ∀ E sg H, t' E sg H → t E sg H) : PS X e t' := ⟨fun pins s sg H E I q => h.run pins s sg H E I (f _ _ _ q)⟩
theorem PSs.weak {X : Cx} {e : List Stmt} {t t' : TS} (h : PSs X e t) (f : ∀ E sg H, t' E sg H → t E sg H) : PSs X e t' := ⟨fun pins s sg H E I q => h.run pins s sg H E I (f _ _ _ q)⟩
theorem PI.or {X : Cx} {tg e : Expr} {t t' : TI} (h : PI X tg e t) (h' : PI X tg e t') : PI X tg e (fun sg H R => t sg H R ∨ t' sg H R) := ⟨fun pins s sg H R I q => q.elim (h.run pins s sg H R I) (h'.run pins s sg H R I)⟩
theorem PI.weak {X : Cx} {tg e : Expr} {t t' : TI} (h : PI X tg e t) (f : ∀ sg H R, t' sg H R → t sg H R) : PI X tg e t' := ⟨fun pins s sg H R I q => h.run pins s sg H R I (f _ _ _ q)⟩
end MI
namespace MX
open PySem PySem.Spec PyProof.Rows L2
section
variable {P : Program} {w : World} {A : Around} {E : Value → Shared → Prop} {s : Shared} {l : Addr}
theorem walk_tup {Q : Value → Shared → Prop} {vs : Array Value} (hl : s.heap.IsTuple l vs)
    (h : ∀ s2 : Shared, s2 = { s with heap := s.heap.push { cls := .type "tuple_iterator", data := .fields #[.ref l, .int 0 0] } } →
      (s2.heap.IsTupleIter s.heap.objs.size l 0 ∧ s2.heap.IsTuple l vs) → (∀ b ∈ [s.heap.objs.size, l], b < s2.heap.objs.size) → l ≠ s.heap.objs.size → Q (.ref s.heap.objs.size) s2) :
    wpAny (model P w) A (pyIter (.ref l)) Q E s := by
  have lt : l < s.heap.objs.size := by obtain ⟨_, e, _⟩ := hl; exact Heap.lt_size e
  refine wpAny_pyIter_tuple hl (h _ rfl ⟨⟨_, Heap.get?_push_size _ rfl, rfl, rfl⟩, hl.push _⟩ (fun b hb => ?_) (Nat.ne_of_lt lt))
  show b < (s.heap.push _).objs.size
  rw [Heap.size_push]
  simp only [List.mem_cons, List.not_mem_nil, or_false] at hb
  rcases hb with rfl | rfl
  · exact Nat.lt_succ_self _
  · exact Nat.lt_succ_of_lt lt
theorem stays {h' : Heap} (hk : ∀ b o, b ∉ [s.heap.objs.size] → (s.heap.push { cls := .type "tuple_iterator", data := .fields #[.ref l, .int 0 0] }).get? b = some o → h'.get? b = some o) :
    ∀ b o, s.heap.get? b = some o → h'.get? b = some o := fun b o e => by
  refine hk b o (fun z => ?_) (Heap.get?_push_of_some _ e)
  simp only [List.mem_cons, List.not_mem_nil, or_false] at z
  exact absurd (z ▸ Heap.lt_size e) (Nat.lt_irrefl _)
theorem max_tup {Q : Value → Shared → Prop} {its : List Value} {ns : List Int} (hh : A.handled = none) (hl : s.heap.IsTuple l its.toArray) (hi : IntsAre its ns) (hne : 0 < ns.length)
    (h : ∀ h' tk m t, (∀ b o, s.heap.get? b = some o → h'.get? b = some o) → m ∈ ns → (∀ y, y ∈ ns → y ≤ m) → Q (.int m t) { s with heap := h', toks := tk }) : wpAny (model P w) A (call (.builtin "max") [.ref l]) Q E s := by
  obtain ⟨xs, e⟩ := hi.allInts.items
  have hn : numsOf (intItems xs).toList = ns := by rw [← e]; exact hi.numsOf
  rw [nums_intItems] at hn
  subst hn
  rw [e] at hl
  have pos : 0 < xs.size := by simpa using hne
  refine call_max_walk (walk_tup hl fun s2 e2 st fp ne => ?_)
  subst e2
  refine ⟨_, _, _, _, _, _, _, rfl, Walks.tuple (A := A.in1) hh _ l ne (intItems xs), st, fp, by simpa [intItems] using pos, CmpOf.ints_gt (numAt xs) (fun _ _ => intItems_at), fun v h' tk hp hk => ?_⟩
  have hv : (intItems xs)[argBest (fun i j => decide (numAt xs i > numAt xs j)) (xs.size - 1)]? = some v := by simpa [intItems] using hp
  obtain ⟨t, rfl⟩ := intItems_at hv
  obtain ⟨_, h2⟩ := argBest_gt (numAt xs) (xs.size - 1)
  have lb := (argBest_gt (numAt xs) (xs.size - 1)).1
  refine h h' tk _ t (stays hk) ?_ fun y hy => ?_
  · rw [numAt_eq]
    exact PySem.getD_mem (by rw [List.length_map, Array.length_toList]; omega)
  · obtain ⟨j, hj, rfl⟩ := mem_getD hy
    rw [List.length_map, Array.length_toList] at hj
    rw [← numAt_eq]
    exact h2 j (by omega)
theorem min_tup {Q : Value → Shared → Prop} {its : List Value} {ns : List Int} (hh : A.handled = none) (hl : s.heap.IsTuple l its.toArray) (hi : IntsAre its ns) (hne : 0 < ns.length)
    (h : ∀ h' tk m t, (∀ b o, s.heap.get? b = some o → h'.get? b = some o) → m ∈ ns → (∀ y, y ∈ ns → m ≤ y) → Q (.int m t) { s with heap := h', toks := tk }) : wpAny (model P w) A (call (.builtin "min") [.ref l]) Q E s := by
  obtain ⟨xs, e⟩ := hi.allInts.items
  have hn : numsOf (intItems xs).toList = ns := by rw [← e]; exact hi.numsOf
  rw [nums_intItems] at hn
  subst hn
  rw [e] at hl
  have pos : 0 < xs.size := by simpa using hne
  refine call_min_walk (walk_tup hl fun s2 e2 st fp ne => ?_)
  subst e2
  refine ⟨_, _, _, _, _, _, _, rfl, Walks.tuple (A := A.in1) hh _ l ne (intItems xs), st, fp, by simpa [intItems] using pos, CmpOf.ints_lt (numAt xs) (fun _ _ => intItems_at), fun v h' tk hp hk => ?_⟩
  have hv : (intItems xs)[argBest (fun i j => decide (numAt xs i < numAt xs j)) (xs.size - 1)]? = some v := by simpa [intItems] using hp
  obtain ⟨t, rfl⟩ := intItems_at hv
  obtain ⟨lb, h2⟩ := argBest_lt (numAt xs) (xs.size - 1)
  refine h h' tk _ t (stays hk) ?_ fun y hy => ?_
  · rw [numAt_eq]
    exact PySem.getD_mem (by rw [List.length_map, Array.length_toList]; omega)
  · obtain ⟨j, hj, rfl⟩ := mem_getD hy
    rw [List.length_map, Array.length_toList] at hj
    rw [← numAt_eq]
    exact h2 j (by omega)
end
section
variable {X : Cx}
theorem CallR.or {f : Value} {r r' : List V → Hp → VK → Prop} (h : CallR X f r) (h' : CallR X f r') : CallR X f (fun xs H Q => r xs H Q ∨ r' xs H Q) :=
  fun pins s σ H xs us Q I rv q => q.elim (h pins s σ H xs us Q I rv) (h' pins s σ H xs us Q I rv)
def rMaxT (K : PySem.W.Frag) : List V → Hp → VK → Prop := fun vs H Q => ∃ (a : Addr) (ns : List Int), vs = [V.ref a] ∧ SqT K H a (ns.map V.int) ∧ 0 < ns.length ∧ ∀ m, m ∈ ns → (∀ y, y ∈ ns → y ≤ m) → Q (.int m) H
def rMinT (K : PySem.W.Frag) : List V → Hp → VK → Prop := fun vs H Q => ∃ (a : Addr) (ns : List Int), vs = [V.ref a] ∧ SqT K H a (ns.map V.int) ∧ 0 < ns.length ∧ ∀ m, m ∈ ns → (∀ y, y ∈ ns → m ≤ y) → Q (.int m) H
theorem cr_maxT (hc : X.calm = true) : CallR X (.builtin "max") (rMaxT X.K) := by
  intro pins s σ H vs us Q I r h
  obtain ⟨a, ns, rfl, hs, hne, q⟩ := h
  obtain ⟨its, rv, hl, _⟩ := I.tuple hs
  rw [Vals.ref1 r]
  exact max_tup (I.ok.hd hc) (show s.heap.IsTuple a its.toArray from hl) rv.ints hne fun h' tk m t hk h1 h2 => ⟨.int m, H, I.kept hk, ⟨t, rfl⟩, q m h1 h2⟩
theorem cr_minT (hc : X.calm = true) : CallR X (.builtin "min") (rMinT X.K) := by
  intro pins s σ H vs us Q I r h
  obtain ⟨a, ns, rfl, hs, hne, q⟩ := h
  obtain ⟨its, rv, hl, _⟩ := I.tuple hs
  rw [Vals.ref1 r]
  exact min_tup (I.ok.hd hc) (show s.heap.IsTuple a its.toArray from hl) rv.ints hne fun h' tk m t hk h1 h2 => ⟨.int m, H, I.kept hk, ⟨t, rfl⟩, q m h1 h2⟩
end
theorem tup_mul1 (l : Addr) (items : Array Value) (n : Nat) (dd : Option Addr) (sl : Array (Option Value)) (x : Int) (u : Tok) (c0 : (decide (x < -(2 ^ 63)) || decide (x ≥ 2 ^ 63)) = false) (c1 : (items.isEmpty || x == 1) = true) :
    Meets (Builtin.«tuple.__mul__» ⟨[.ref l, .int x u], []⟩) (fun _ R s => s.heap.get? l = some { cls := .type "tuple", dict := dd, data := .seq items n, slots := sl } ∧ R (.ok (.ret (Value.ref l))) s) :=
  .of_wp fun prog w A R s h => by
    obtain ⟨hp, g, d, tk, os⟩ := s
    obtain ⟨hl, h⟩ := h
    have f1 := AutoSeq1.idx_int
    wp_walk using wpAny_loadPart' hl
    repeat (first
      | (refine wpAny_ite_false (decide_eq_false (by rw [c0]; exact Bool.false_ne_true)) ?_; wp_walk using wpAny_loadPart' hl)
      | (refine wpAny_ite_true (decide_eq_true c1) ?_; wp_walk using wpAny_loadPart' hl))
    exact ⟨_, rfl, h⟩
theorem tup_mul0 (l : Addr) (items : Array Value) (n : Nat) (dd : Option Addr) (sl : Array (Option Value)) (x : Int) (u : Tok) (c0 : (decide (x < -(2 ^ 63)) || decide (x ≥ 2 ^ 63)) = false) (c1 : (items.isEmpty || x == 1) = false) (c2 : (decide (x ≤ 0) || items.isEmpty) = true) :
    Meets (Builtin.«tuple.__mul__» ⟨[.ref l, .int x u], []⟩) (fun _ R s => s.heap.get? l = some { cls := .type "tuple", dict := dd, data := .seq items n, slots := sl } ∧
      R (.ok (.ret (Value.ref s.heap.objs.size))) { s with heap := s.heap.push { cls := Value.type "tuple", data := Data.seq #[] }, toks := s.toks }) :=
  .of_wp fun prog w A R s h => by
    obtain ⟨hp, g, d, tk, os⟩ := s
    obtain ⟨hl, h⟩ := h
    have f1 := AutoSeq1.idx_int
    wp_walk using wpAny_loadPart' hl
    repeat (first
      | (refine wpAny_ite_false (decide_eq_false (by rw [c0]; exact Bool.false_ne_true)) ?_; wp_walk using wpAny_loadPart' hl)
      | (refine wpAny_ite_false (decide_eq_false (by rw [c1]; exact Bool.false_ne_true)) ?_; wp_walk using wpAny_loadPart' hl)
      | (refine wpAny_ite_true (decide_eq_true c2) ?_; wp_walk using wpAny_loadPart' hl))
    exact ⟨_, rfl, h⟩
def rRepT1 (K : PySem.W.Frag) : R2 := fun x y H Q => ∃ l xs, x = .ref l ∧ y = .int 1 ∧ SqT K H l xs ∧ Q (.ref l) H
def rRepT0 (K : PySem.W.Frag) : R2 := fun x y H Q => ∃ l xs, x = .ref l ∧ y = .int 0 ∧ SqT K H l xs ∧ xs ≠ [] ∧ ∀ p, H p = none → Q (.ref p) (upd H p (.tup []))
section
variable {X : Cx}
theorem op_repT1 : OpR X (binaryOp .Mult) (rRepT1 X.K) := by
  intro pins s σ H x y v u Q I rx ry h
  obtain ⟨l, xs, rfl, rfl, hT, q⟩ := h
  cases rx
  obtain ⟨t, rfl⟩ := ry
  obtain ⟨its, r, ⟨⟨cls, dd, data, sl⟩, ho, hc, n, hd⟩, hs⟩ := I.tuple hT
  simp only at hc hd
  subst hc hd
  refine wpAny_binaryOp_repeat_ref (T := "tuple") (U := "int") (by decide) ⟨_, ho, rfl⟩ (fun s' => typeIs_int s' 1 t) noFill_tuple_mul F.fills_int_mul F.slot_int_rmul repeat_tuple F.slot_int_index.lookup
    (call_meets F.slot_int_rmul (typeIs_int s 1 t) F.entry_int_rmul (F.args_int_rmul_2 _ _) (int_rmul_tuple 1 t l its.toArray n dd sl)
      ⟨ho, rfl, ⟨_, ho, rfl⟩, call_meets F.slot_tuple_mul ⟨_, ho, rfl⟩ F.entry_tuple_mul (F.args_tuple_mul_2 _ _) (tup_mul1 l its.toArray n dd sl 1 t (by decide) (by simp)) ⟨ho, ?_⟩⟩)
  exact ⟨.ref l, H, I, rfl, q⟩
theorem op_repT0 : OpR X (binaryOp .Mult) (rRepT0 X.K) := by
  intro pins s σ H x y v u Q I rx ry h
  obtain ⟨l, xs, rfl, rfl, hT, hne, q⟩ := h
  cases rx
  obtain ⟨t, rfl⟩ := ry
  obtain ⟨its, r, ⟨⟨cls, dd, data, sl⟩, ho, hc, n, hd⟩, hs⟩ := I.tuple hT
  simp only at hc hd
  subst hc hd
  have hi : its.toArray.isEmpty = false := by
    cases its with
    | nil => exact absurd (List.eq_nil_of_length_eq_zero r.length) hne
    | cons a b => rfl
  refine wpAny_binaryOp_repeat_ref (T := "tuple") (U := "int") (by decide) ⟨_, ho, rfl⟩ (fun s' => typeIs_int s' 0 t) noFill_tuple_mul F.fills_int_mul F.slot_int_rmul repeat_tuple F.slot_int_index.lookup
    (call_meets F.slot_int_rmul (typeIs_int s 0 t) F.entry_int_rmul (F.args_int_rmul_2 _ _) (int_rmul_tuple 0 t l its.toArray n dd sl)
      ⟨ho, rfl, ⟨_, ho, rfl⟩, call_meets F.slot_tuple_mul ⟨_, ho, rfl⟩ F.entry_tuple_mul (F.args_tuple_mul_2 _ _) (tup_mul0 l its.toArray n dd sl 0 t (by decide) (by rw [hi]; rfl) (by rfl)) ⟨ho, ?_⟩⟩)
  refine ⟨.ref s.heap.objs.size, _, I.laid (t' := s.toks) (o := .tup []) (fun b ob q => Heap.get?_push_of_some _ q) (Nat.le_refl _) ?_, rfl, q _ (I.hok.fresh (Nat.le_refl _))⟩
  exact ⟨by decide, [], .nil, IsTup.new _ _⟩
def rRepE (K : PySem.W.Frag) : R2 := fun x y H Q => ∃ l k, x = .ref l ∧ y = .int k ∧ SqT K H l [] ∧ 0 ≤ k ∧ k ≤ 1001 ∧ Q (.ref l) H
theorem op_repE : OpR X (binaryOp .Mult) (rRepE X.K) := by
  intro pins s σ H x y v u Q I rx ry h
  obtain ⟨l, k, rfl, rfl, hT, k0, k1, q⟩ := h
  cases rx
  obtain ⟨t, rfl⟩ := ry
  obtain ⟨its, r, ⟨⟨cls, dd, data, sl⟩, ho, hc, n, hd⟩, hs⟩ := I.tuple hT
  simp only at hc hd
  subst hc hd
  have e : its = [] := List.eq_nil_of_length_eq_zero r.length.symm
  subst e
  have b0 : (decide (k < -(2 ^ 63)) || decide (k ≥ 2 ^ 63)) = false := by
    rw [decide_eq_false (by omega), decide_eq_false (by omega)]
    rfl
  refine wpAny_binaryOp_repeat_ref (T := "tuple") (U := "int") (by decide) ⟨_, ho, rfl⟩ (fun s' => typeIs_int s' k t) noFill_tuple_mul F.fills_int_mul F.slot_int_rmul repeat_tuple F.slot_int_index.lookup
    (call_meets F.slot_int_rmul (typeIs_int s k t) F.entry_int_rmul (F.args_int_rmul_2 _ _) (int_rmul_tuple k t l _ n dd sl)
      ⟨ho, rfl, ⟨_, ho, rfl⟩, call_meets F.slot_tuple_mul ⟨_, ho, rfl⟩ F.entry_tuple_mul (F.args_tuple_mul_2 _ _) (tup_mul1 l _ n dd sl k t b0 (by simp)) ⟨ho, ?_⟩⟩)
  exact ⟨.ref l, H, I, rfl, q⟩
def rRepTB (K : PySem.W.Frag) : R2 := fun x y H Q => ∃ l k xs, x = .ref l ∧ y = .int k ∧ SqT K H l xs ∧ xs ≠ [] ∧ 2 ≤ k ∧ k ≤ 1001 ∧ xs.length ≤ 1000 ∧ ∀ p, H p = none → Q (.ref p) (upd H p (.tup (List.replicate k.toNat xs).flatten))
theorem op_repTB : OpR X (binaryOp .Mult) (rRepTB X.K) := by
  intro pins s σ H x y v u Q I rx ry h
  obtain ⟨l, k, xs, rfl, rfl, hT, hne, k2, kB, xB, q⟩ := h
  cases rx
  obtain ⟨t, rfl⟩ := ry
  obtain ⟨its, r, ⟨⟨cls, dd, data, sl⟩, ho, hc, n, hd⟩, hs⟩ := I.tuple hT
  simp only at hc hd
  subst hc hd
  have hlen := r.length
  have emp : its.toArray.isEmpty = false := by
    cases its with
    | nil => exact absurd (List.eq_nil_of_length_eq_zero hlen) hne
    | cons a b => rfl
  obtain ⟨m, rfl⟩ : ∃ m : Nat, k = (m : Int) := ⟨k.toNat, by omega⟩
  rw [Int.toNat_natCast] at q
  have big : m * xs.length ≤ 1001 * 1000 := Nat.mul_le_mul (by omega) xB
  have siz : its.toArray.size = xs.length := by rw [List.size_toArray, ← hlen]
  have prod : ((its.toArray.size : Nat) : Int) * (m : Int) ≤ 1001000 := by
    rw [siz, ← Int.natCast_mul, Nat.mul_comm]
    omega
  have fl : ∀ {α : Type} (zs : List α), zs.length = xs.length → (List.replicate m zs).flatten.length ≤ sizeLine := fun zs hz => by
    rw [PyProof.Rows.lm_len_rep_flat, hz, sizeLine_eq]
    omega
  have b0 : (decide ((m : Int) < -(2 ^ 63)) || decide ((m : Int) ≥ 2 ^ 63)) = false := by
    rw [decide_eq_false (by omega), decide_eq_false (by omega)]
    rfl
  have b1 : (its.toArray.isEmpty || (m : Int) == 1) = false := by
    rw [emp, Bool.false_or]
    exact beq_eq_false_iff_ne.mpr (by omega)
  have b2 : (decide ((m : Int) ≤ 0) || its.toArray.isEmpty) = false := by rw [emp, Bool.or_false, decide_eq_false (by omega)]
  have b4 : Builtin.Tuple.tupleTooMany (((its.toArray.size : Nat) : Int) * (m : Int)) = false := by
    unfold Builtin.Tuple.tupleTooMany
    rw [sizeLine_eq, decide_eq_false (by omega)]
  refine wpAny_binaryOp_repeat_ref (T := "tuple") (U := "int") (by decide) ⟨_, ho, rfl⟩ (fun s' => typeIs_int s' m t) noFill_tuple_mul F.fills_int_mul F.slot_int_rmul repeat_tuple F.slot_int_index.lookup
    (call_meets F.slot_int_rmul (typeIs_int s m t) F.entry_int_rmul (F.args_int_rmul_2 _ _) (int_rmul_tuple m t l its.toArray n dd sl)
      ⟨ho, rfl, ⟨_, ho, rfl⟩, call_meets F.slot_tuple_mul ⟨_, ho, rfl⟩ F.entry_tuple_mul (F.args_tuple_mul_2 _ _) (tuple_mulW l its.toArray n dd sl m t b0 b1 b2 (by omega) b4 (by rw [Int.toNat_natCast, size_rep, List.size_toArray]; exact fl its hlen.symm)) ⟨ho, ?_⟩⟩)
  rw [Int.toNat_natCast, size_rep]
  exact ⟨.ref s.heap.objs.size, _, I.laid (t' := s.toks) (o := .tup (List.replicate m xs).flatten) (fun b ob z => Heap.get?_push_of_some _ z) (Nat.le_refl _) ⟨fl xs rfl, _, r.rep m, IsTup.new _ _⟩, rfl, q _ (I.hok.fresh (Nat.le_refl _))⟩
end
end MX
namespace PySem.SeqAt
open AutoSeq1 (wpAny_loadPart')
open MeetsSeq MeetsSeq2 MeetsSeq3 SeqRoads2
section
variable {prog : Program} {w : World}
theorem mi_tuple_eqIn (l b : Addr) (items items2 : Array Value) (n n2 : Nat) (dd dd2 : Option Addr) (sl sl2 : Array (Option Value)) (hsz : items.size = items2.size) :
    MeetsIn prog w (Builtin.«tuple.__eq__» ⟨[.ref l, .ref b], []⟩)
      (fun A R s => s.heap.get? l = some { cls := .type "tuple", dict := dd, data := .seq items n, slots := sl } ∧ s.heap.get? b = some { cls := .type "tuple", dict := dd2, data := .seq items2 n2, slots := sl2 } ∧
        (∀ j (h1 : j < items.size) (h2 : j < items2.size), EqP prog w A.in1 s items[j] items2[j] true) ∧
        R (.ok (.ret (.bool true))) s) := by
  intro A R s h
  obtain ⟨hp, g, d, tk, os⟩ := s; obtain ⟨hl, hb, he, h⟩ := h
  have f2 := AutoSeq1.sub_tuple_tuple
  have hZ : (items.toList.zip items2.toList).length = items.size := by simp [hsz]
  wp_walk using wpAny_loadPart' hl, wpAny_loadPart' hb, wpAny_forIn_list _ (fun rest b s' => b.1 = none ∧ s' = ⟨hp, g, d, tk, os⟩ ∧ ∃ i, rest = (items.toList.zip items2.toList).drop i) _
  case turn =>
    rintro ⟨y, x⟩ rest b s' ⟨hb', rfl, i, hz⟩
    have hlt : i < (items.toList.zip items2.toList).length := by
      rcases Nat.lt_or_ge i (items.toList.zip items2.toList).length with h' | h'
      · exact h'
      · rw [List.drop_of_length_le h'] at hz; cases hz
    have h1 : i < items.size := hZ ▸ hlt
    have h2 : i < items2.size := hsz ▸ h1
    rw [List.drop_eq_getElem_cons hlt] at hz
    injection hz with hyx hrest
    have hy : y = items[i] := by have := congrArg Prod.fst hyx; simpa using this
    have hx : x = items2[i] := by have := congrArg Prod.snd hyx; simpa using this
    subst hy hx
    refine wpAny_bind (he i h1 h2 _ _ ?_)
    wp_walk
    exact ⟨rfl, rfl, i + 1, hrest⟩
  case fin =>
    rintro ⟨b1, b2⟩ s' ⟨hb', rfl, i, hz⟩
    simp only at hb'
    subst hb'
    wp_walk
    simpa [Builtin.Tuple.tupleCompareSizes, hsz] using h
  case h =>
    exact ⟨rfl, rfl, 0, rfl⟩
theorem mi_tuple_neIn (l b : Addr) (items items2 : Array Value) (n n2 : Nat) (dd dd2 : Option Addr) (sl sl2 : Array (Option Value)) (hsz : items.size = items2.size) :
    MeetsIn prog w (Builtin.«tuple.__ne__» ⟨[.ref l, .ref b], []⟩)
      (fun A R s => s.heap.get? l = some { cls := .type "tuple", dict := dd, data := .seq items n, slots := sl } ∧ s.heap.get? b = some { cls := .type "tuple", dict := dd2, data := .seq items2 n2, slots := sl2 } ∧
        (∀ j (h1 : j < items.size) (h2 : j < items2.size), EqP prog w A.in1 s items[j] items2[j] true) ∧
        R (.ok (.ret (.bool false))) s) := by
  intro A R s h
  obtain ⟨hp, g, d, tk, os⟩ := s; obtain ⟨hl, hb, he, h⟩ := h
  have f2 := AutoSeq1.sub_tuple_tuple
  have hZ : (items.toList.zip items2.toList).length = items.size := by simp [hsz]
  wp_walk using wpAny_loadPart' hl, wpAny_loadPart' hb, wpAny_forIn_list _ (fun rest b s' => b.1 = none ∧ s' = ⟨hp, g, d, tk, os⟩ ∧ ∃ i, rest = (items.toList.zip items2.toList).drop i) _
  case turn =>
    rintro ⟨y, x⟩ rest b s' ⟨hb', rfl, i, hz⟩
    have hlt : i < (items.toList.zip items2.toList).length := by
      rcases Nat.lt_or_ge i (items.toList.zip items2.toList).length with h' | h'
      · exact h'
      · rw [List.drop_of_length_le h'] at hz; cases hz
    have h1 : i < items.size := hZ ▸ hlt
    have h2 : i < items2.size := hsz ▸ h1
    rw [List.drop_eq_getElem_cons hlt] at hz
    injection hz with hyx hrest
    have hy : y = items[i] := by have := congrArg Prod.fst hyx; simpa using this
    have hx : x = items2[i] := by have := congrArg Prod.snd hyx; simpa using this
    subst hy hx
    refine wpAny_bind (he i h1 h2 _ _ ?_)
    wp_walk
    exact ⟨rfl, rfl, i + 1, hrest⟩
  case fin =>
    rintro ⟨b1, b2⟩ s' ⟨hb', rfl, i, hz⟩
    simp only at hb'
    subst hb'
    wp_walk
    simpa [Builtin.Tuple.tupleCompareSizes, hsz, bne] using h
  case h =>
    exact ⟨rfl, rfl, 0, rfl⟩
theorem mi_rc_tuples {A : Around} {s : Shared} {l b : Addr} {items items2 : Array Value} (hl : s.heap.IsTuple l items) (hb : s.heap.IsTuple b items2) (hsz : items.size = items2.size) (hu : A.units < cLine)
    (he : ∀ j (h1 : j < items.size) (h2 : j < items2.size), EqP prog w A.in1 s items[j] items2[j] true) (E Q : Value → Shared → Prop) (h : Q (.bool true) s) : wpAny (model prog w) A (richCompare .Eq (.ref l) (.ref b)) Q E s := by
  obtain ⟨⟨cls, dd, data, sl⟩, ho, hc, n, hd⟩ := id hl
  obtain ⟨⟨cls2, dd2, data2, sl2⟩, ho2, hc2, n2, hd2⟩ := id hb
  simp only at hc hd hc2 hd2
  subst hc hd hc2 hd2
  have ta : s.TypeIs (.ref l) "tuple" := ⟨_, ho, rfl⟩
  have tb : s.TypeIs (.ref b) "tuple" := ⟨_, ho2, rfl⟩
  exact wpAny_richCompare_same_room (op := .Eq) ta tb F.slot_tuple_eq (call_meetsIn F.slot_tuple_eq ta F.entry_tuple_eq (F.args_tuple_eq_2 _ _) (mi_tuple_eqIn l b items items2 n n2 dd dd2 sl sl2 hsz)
    ⟨ho, ho2, he, show Value.bool true ≠ Value.notImplemented ∧ Q (.bool true) s from ⟨(fun x => nomatch x), h⟩⟩) hu
theorem mi_rcne_tuples {A : Around} {s : Shared} {l b : Addr} {items items2 : Array Value} (hl : s.heap.IsTuple l items) (hb : s.heap.IsTuple b items2) (hsz : items.size = items2.size) (hu : A.units < cLine)
    (he : ∀ j (h1 : j < items.size) (h2 : j < items2.size), EqP prog w A.in1 s items[j] items2[j] true) (E Q : Value → Shared → Prop) (h : Q (.bool false) s) : wpAny (model prog w) A (richCompare .NotEq (.ref l) (.ref b)) Q E s := by
  obtain ⟨⟨cls, dd, data, sl⟩, ho, hc, n, hd⟩ := id hl
  obtain ⟨⟨cls2, dd2, data2, sl2⟩, ho2, hc2, n2, hd2⟩ := id hb
  simp only at hc hd hc2 hd2
  subst hc hd hc2 hd2
  have ta : s.TypeIs (.ref l) "tuple" := ⟨_, ho, rfl⟩
  have tb : s.TypeIs (.ref b) "tuple" := ⟨_, ho2, rfl⟩
  exact wpAny_richCompare_same_room (op := .NotEq) ta tb F.slot_tuple_ne (call_meetsIn F.slot_tuple_ne ta F.entry_tuple_ne (F.args_tuple_ne_2 _ _) (mi_tuple_neIn l b items items2 n n2 dd dd2 sl sl2 hsz)
    ⟨ho, ho2, he, show Value.bool false ≠ Value.notImplemented ∧ Q (.bool false) s from ⟨(fun x => nomatch x), h⟩⟩) hu
theorem mi_tuple_ne0In (l b : Addr) (items : Array Value) (n n2 : Nat) (dd dd2 : Option Addr) (sl sl2 : Array (Option Value)) :
    MeetsIn prog w (Builtin.«tuple.__ne__» ⟨[.ref l, .ref b], []⟩)
      (fun A R s => s.heap.get? l = some { cls := .type "tuple", dict := dd, data := .seq items n, slots := sl } ∧ s.heap.get? b = some { cls := .type "tuple", dict := dd2, data := .seq #[] n2, slots := sl2 } ∧
        R (.ok (.ret (.bool (items.size != 0)))) s) := by
  intro A R s h
  obtain ⟨hp, g, d, tk, os⟩ := s; obtain ⟨hl, hb, h⟩ := h
  have f2 := AutoSeq1.sub_tuple_tuple
  have hZ : items.toList.zip (#[] : Array Value).toList = [] := List.zip_nil_right
  wp_walk using wpAny_loadPart' hl, wpAny_loadPart' hb, wpAny_forIn_list _ (fun rest b s' => b.1 = none ∧ s' = ⟨hp, g, d, tk, os⟩ ∧ rest = []) _
  case turn =>
    rintro ⟨y, x⟩ rest b s' ⟨hb', rfl, hz⟩
    cases hz
  case fin =>
    rintro ⟨b1, b2⟩ s' ⟨hb', rfl, _⟩
    simp only at hb'
    subst hb'
    wp_walk
    simpa [Builtin.Tuple.tupleCompareSizes, bne] using h
  case h =>
    exact ⟨rfl, rfl, hZ⟩
theorem mi_rcne_tuple0 {A : Around} {s : Shared} {l b : Addr} {items : Array Value} (hl : s.heap.IsTuple l items) (hb : s.heap.IsTuple b #[]) (hu : A.units < cLine)
    (E Q : Value → Shared → Prop) (h : Q (.bool (items.size != 0)) s) : wpAny (model prog w) A (richCompare .NotEq (.ref l) (.ref b)) Q E s := by
  obtain ⟨⟨cls, dd, data, sl⟩, ho, hc, n, hd⟩ := id hl
  obtain ⟨⟨cls2, dd2, data2, sl2⟩, ho2, hc2, n2, hd2⟩ := id hb
  simp only at hc hd hc2 hd2
  subst hc hd hc2 hd2
  have ta : s.TypeIs (.ref l) "tuple" := ⟨_, ho, rfl⟩
  have tb : s.TypeIs (.ref b) "tuple" := ⟨_, ho2, rfl⟩
  exact wpAny_richCompare_same_room (op := .NotEq) ta tb F.slot_tuple_ne (call_meetsIn F.slot_tuple_ne ta F.entry_tuple_ne (F.args_tuple_ne_2 _ _) (mi_tuple_ne0In l b items n n2 dd dd2 sl sl2)
    ⟨ho, ho2, show Value.bool (items.size != 0) ≠ Value.notImplemented ∧ Q (.bool (items.size != 0)) s from ⟨(fun x => nomatch x), h⟩⟩) hu
end
end PySem.SeqAt
namespace PySem.W
open PySem.SeqAt
section
variable {prog : Program} {w : World} {K : Type} [DecidableEq K] {knd : HeapKind prog w K} {A : Around} {E : Value → Shared → Prop} {s : Shared}
inductive HitsH (A : Around) (s : Shared) (xb : List (K × Addr × Value)) : List (K × Addr × Value) → Bool → Prop
  | nil : HitsH A s xb [] true
  | miss {k : K} {p : Addr} {v : Value} {r : List (K × Addr × Value)} : atKey xb k = none → HitsH A s xb ((k, p, v) :: r) false
  | hit {k : K} {p q : Addr} {v y : Value} {r : List (K × Addr × Value)} {e b : Bool} : atKey xb k = some (q, y) → SeqAt.EqAt A s v y e → HitsH A s xb r b → HitsH A s xb ((k, p, v) :: r) (e && b)
theorem HitsH.inv {xb : List (K × Addr × Value)} {k : K} {p : Addr} {v : Value} {r : List (K × Addr × Value)} {b : Bool} (h : HitsH A s xb ((k, p, v) :: r) b) :
    (atKey xb k = none ∧ b = false) ∨ ∃ q y e b', atKey xb k = some (q, y) ∧ SeqAt.EqAt A s v y e ∧ HitsH A s xb r b' ∧ b = (e && b') := by
  cases h with
  | miss h => exact .inl ⟨h, rfl⟩
  | hit a b c => exact .inr ⟨_, _, _, _, a, b, c, rfl⟩
theorem mi_samePairsH {nm : String} {a b : Addr} {xa xb : List (K × Addr × Value)} {r : Bool} {Q : Bool → Shared → Prop} (ha : (a == sysModules) = false) (hb : (b == sysModules) = false) (hu : knd.room A)
    (da : s.heap.DictOfH knd a xa) (db : s.heap.DictOfH knd b xb) (hits : xa.length = xb.length → HitsH A s xb xa r) (h : Q (xa.length == xb.length && r) s) : wpAny (model prog w) A (Builtin.Dict.samePairs nm a b) Q E s := by
  obtain ⟨oa, es, ep, hoa, _, hda, hea, hia, hna⟩ := da
  obtain ⟨ob, es', ep', hob, _, hdb, heb, hib, hnb⟩ := db
  have sa : es.size = xa.length := size_of_entries hea
  have sb : es'.size = xb.length := size_of_entries heb
  rw [← sa, ← sb] at h
  unfold Builtin.Dict.samePairs Builtin.Dict.showsAll
  rw [if_neg (by rw [ha]; exact Bool.false_ne_true), if_neg (by rw [hb]; exact Bool.false_ne_true)]
  refine wpAny_bind (wpAny_pure (wpAny_bind (wpAny_pure ?_)))
  refine wpAny_bind (wpAny_dictEntries hoa hda ?_)
  dsimp only
  refine wpAny_bind (wpAny_dictEntries hob hdb ?_)
  by_cases hsz : es.size = es'.size
  case neg =>
    rw [if_pos (by simpa using hsz)]
    have hbf : (es.size == es'.size) = false := by simpa using hsz
    rw [hbf, Bool.false_and] at h
    exact wpAny_bind (wpAny_rule (wpAny_pure h))
  case pos =>
    have h' : Q r s := by simpa [hsz] using h
    have hits' := hits (by omega)
    rw [if_neg (by rw [hsz]; simp)]
    refine wpAny_bind (wpAny_dictEpoch hoa hda ?_)
    refine wpAny_bind ?_
    rw [Std.Legacy.Range.forIn_eq_forIn_range']
    simp only [Std.Legacy.Range.size, Nat.sub_zero, Nat.add_sub_cancel, Nat.div_one]
    refine wpAny_forIn_list _ (fun rest q s' => s' = s ∧ q = (none, ()) ∧ ∃ i, rest = List.range' i (es.size - i) ∧ i ≤ es.size ∧ HitsH A s xb (xa.drop i) r) _ ?_ ?_ _ _ ⟨rfl, rfl, 0, by simp, Nat.zero_le _, hits'⟩
    · rintro x rest q s' ⟨rfl, rfl, i, hr, hi, hpre⟩
      have hlt : i < es.size := by
        rcases Nat.lt_or_ge i es.size with z | z
        · exact z
        · rw [Nat.sub_eq_zero_of_le z] at hr
          simp at hr
      obtain ⟨rfl, hrest⟩ : x = i ∧ rest = List.range' (i + 1) (es.size - (i + 1)) := by
        rw [show es.size - i = (es.size - (i + 1)) + 1 by omega, List.range'_succ] at hr
        injection hr with z1 z2
        exact ⟨z1, z2⟩
      have hxl : x < xa.length := by omega
      obtain ⟨k, p, v, hx⟩ : ∃ k p v, xa[x]? = some (k, p, v) := ⟨_, _, _, List.getElem?_eq_getElem hxl⟩
      have hdrop : xa.drop x = (k, p, v) :: xa.drop (x + 1) := by
        rw [List.drop_eq_getElem_cons hxl, (List.getElem?_eq_some_iff.mp hx).2]
      rw [hdrop] at hpre
      have hkey : knd.is s'.heap k p := hia _ (List.mem_of_getElem? hx)
      refine wpAny_bind (wpAny_dictEntries hoa hda ?_)
      rw [entry_at hea x, hx]
      show wpAny _ _ (holding [Value.ref p, v] _ >>= _) _ _ _
      refine wpAny_bind (wpAny_holding (wpAny_bind (wpAny_dictFind_heap hu hkey hob hdb heb hib hnb ?_ ?_)))
      · intro hno
        rcases hpre.inv with ⟨_, er⟩ | ⟨q2, y, _, _, hy, _⟩
        · rw [er] at h'
          refine wpAny_pure ?_
          show wpAny _ _ (if (!false) = true then _ else _) _ _ _
          rw [if_pos (by decide)]
          exact wpAny_pure (wpAny_pure h')
        · rw [atKey_none_of_get hno] at hy
          cases hy
      · intro j z hj
        refine wpAny_bind (wpAny_dictEntries hob hdb ?_)
        rw [entry_at heb j, hj]
        rcases hpre.inv with ⟨hn, _⟩ | ⟨q2, y, e, b', hy, he, hrr, er⟩
        · rw [atKey_of_get hnb hj] at hn
          cases hn
        · rw [atKey_of_get hnb hj] at hy
          cases hy
          refine wpAny_holding (he prog w _ _ ?_)
          cases e with
          | false =>
            rw [er, Bool.false_and] at h'
            show wpAny _ _ (if (!false) = true then _ else _) _ _ _
            rw [if_pos (by decide)]
            exact wpAny_pure (wpAny_pure h')
          | true =>
            rw [Bool.true_and] at er
            rw [← er] at hrr
            show wpAny _ _ (if (!true) = true then _ else _) _ _ _
            rw [if_neg (by decide)]
            refine wpAny_bind (wpAny_dictEpoch hoa hda ?_)
            rw [if_neg (by simp)]
            exact wpAny_pure ⟨rfl, rfl, x + 1, hrest, by omega, hrr⟩
    · rintro q s' ⟨rfl, rfl, i, hr, hi, hpre⟩
      have hin : i = es.size := by
        rcases Nat.lt_or_ge i es.size with z | z
        · rw [show es.size - i = (es.size - (i + 1)) + 1 by omega, List.range'_succ] at hr
          cases hr
        · omega
      refine wpAny_pure ?_
      rw [hin, sa, List.drop_length] at hpre
      cases hpre
      exact h'
theorem mi_eqH {a b : Addr} {xa xb : List (K × Addr × Value)} {r : Bool} {Q : Value → Shared → Prop} (ha : (a == sysModules) = false) (hb : (b == sysModules) = false) (hr : knd.room A.in1)
    (da : s.heap.DictOfH knd a xa) (db : s.heap.DictOfH knd b xb) (hu : A.units < cLine) (hits : xa.length = xb.length → HitsH A.in1 s xb xa r) (h : Q (.bool (xa.length == xb.length && r)) s) :
    wpAny (model prog w) A (compareOp .Eq (.ref a) (.ref b)) Q E s := by
  refine wpAny_richCompare_same_room (op := .Eq) da.typeIs db.typeIs PySem.F.slot_dict_eq (wpAny_call_entry PySem.F.slot_dict_eq da.typeIs PySem.F.entry_dict_eq ?_ (PySem.F.args_dict_eq_2 _ _)) hu
  show wpAny _ _ (Builtin.Dict.dictSlotArgs "__eq__" ⟨[.ref a, .ref b], []⟩ >>= _) _ _ s
  refine wpAny_bind ?_
  unfold Builtin.Dict.dictSlotArgs
  refine wpAny_bind (wpAny_notOrdered_dict da.typeIs ?_)
  show wpAny _ _ (pure (Value.ref a, Value.ref b)) _ _ s
  refine wpAny_pure ?_
  refine wpAny_bind (wpAny_isInstance (T := "dict") db.typeIs PySem.F.sub_dict_dict ?_)
  simp only [Bool.not_true, Bool.false_eq_true, if_false]
  refine wpAny_bind (wpAny_pure (wpAny_bind (wpAny_pure ?_)))
  refine wpAny_bind (mi_samePairsH ha hb hr da db hits ?_)
  refine wpAny_pure ⟨_, rfl, ?_, ?_⟩
  · exact fun x => nomatch x
  · rw [beq_true]
    exact h
end
end PySem.W
namespace MI
open PySem PySem.Spec PyProof.Rows L2
variable [TC : TabsC]
section
variable {K : PySem.W.Frag} {cls : Nat → Value} {W : WX} {sg : L2.St} {rho : Rho} {st : Sto} {H : Hp} {Q : VK} {x y : D} {v u : V}
def DerR (K : PySem.W.Frag) (rho : Rho) (H : Hp) : D → V → Prop
  | .lst ds, v => ∃ a vs, v = .ref a ∧ H a = some (.lst vs) ∧ RelDs K rho H ds vs
  | .dic ds, v => ∃ a vs, v = .ref a ∧ H a = some (.dK vs) ∧ RelK K rho H ds vs
  | d, v => RelD K rho H d v
theorem deref_rel (w : Wld K rho st H) (r : RelD K rho H x v) : DerR K rho H (deref st x) v := by
  cases r with
  | non => exact .non
  | bl b => exact .bl b
  | int i => exact .int i
  | str z => exact .str z
  | tup h r k => exact .tup h r k
  | lst h n r => exact ⟨_, _, rfl, h, r⟩
  | fz h r => exact .fz h r
  | dic h n r => exact ⟨_, _, rfl, h, r⟩
  | fn h => exact .fn h
  | ref h =>
    rename_i l a
    have hl : l < st.length := by rw [← w.len]; exact (List.getElem?_eq_some_iff.mp h).1
    have e : st[l]? = some st[l] := List.getElem?_eq_getElem hl
    have ob := w.obj l a _ h e
    unfold deref
    simp only [e]
    generalize st[l] = o at ob
    cases o with
    | lst ds => obtain ⟨vs, h1, h2⟩ := ob; exact ⟨a, vs, rfl, h1, h2⟩
    | dic ds => obtain ⟨vs, h1, h2⟩ := ob; exact ⟨a, vs, rfl, h1, h2⟩
    | ins c fs => exact .ref h
    | dicT kvs => exact .ref h
    | dicL kvs => exact .ref h
    | dicF kvs => exact .ref h
    | exn c => exact .ref h
theorem der_lst {ds : List D} (h : DerR K rho H (.lst ds) v) : ∃ a vs, v = .ref a ∧ H a = some (.lst vs) ∧ RelDs K rho H ds vs := h
theorem der_tup {ds : List D} (h : DerR K rho H (.tup ds) v) : ∃ a vs, v = .ref a ∧ SqT K H a vs ∧ RelDs K rho H ds vs := by
  cases h with
  | tup h r k => exact ⟨_, _, rfl, h, r⟩
theorem der_tupK {ds : List D} (h : DerR K rho H (.tup ds) v) : ∃ a vs, v = .ref a ∧ SqT K H a vs ∧ RelDs K rho H ds vs ∧ (keyT ds = true → H a = some (.tup vs)) := by
  cases h with
  | tup h r k => exact ⟨_, _, rfl, h, r, k⟩
theorem der_dic {ds : List (Key × D)} (h : DerR K rho H (.dic ds) v) : ∃ a vs, v = .ref a ∧ H a = some (.dK vs) ∧ RelK K rho H ds vs := h
theorem ok_here {d : D} (w : Wld K rho st H) (h : OkR K cls W sg rho H (.ok d st) (VQ K Q)) {v : V} (r : RelD K rho H d v) : Q v H := h rho H (Ext.refl rho H) w v r
theorem ok_tmp_lst {ds : List D} {vs : List V} (w : Wld K rho st H) (h : OkR K cls W sg rho H (.ok (.lst ds) st) (VQ K Q)) (r : RelDs K rho H ds vs) : ∀ p, H p = none → Q (.ref p) (upd H p (.lst vs)) := fun p hp =>
  h rho _ (w.extTmp hp _) (w.tmp hp _) _ (.lst upd_same (w.fresh hp) (r.ext (w.extTmp hp _)))
theorem ok_tmp_tup {ds : List D} {vs : List V} (w : Wld K rho st H) (h : OkR K cls W sg rho H (.ok (.tup ds) st) (VQ K Q)) (r : RelDs K rho H ds vs) : ∀ p, H p = none → Q (.ref p) (upd H p (.tup vs)) := fun p hp =>
  h rho _ (w.extTmp hp _) (w.tmp hp _) _ (.tup (SqT.of upd_same) (r.ext (w.extTmp hp _)) fun _ => upd_same)
def rAddA (K : PySem.W.Frag) : R2 := fun x y H Q => (rI0 fun i j => .int (i + j)) x y H Q ∨ ((fun x y H Q => ∃ i k, x = .int i ∧ y = .bl k ∧ Q (.int (i + b2i k)) H) : R2) x y H Q ∨
  ((fun x y H Q => ∃ i j, x = .str i ∧ y = .str j ∧ i.length + j.length ≤ sizeLine ∧ Q (.str (i ++ j)) H) : R2) x y H Q ∨ rCatA K x y H Q ∨ rCat x y H Q
theorem op_addA {X : Cx} : OpR X (binaryOp .Add) (rAddA X.K) := op_add.or (op_add_ib.or (op_add_str.or (op_catA.or op_cat)))
theorem hop_add (w : Wld K rho st H) (r1 : RelD K rho H x v) (r2 : RelD K rho H y u) (h : OkR K cls W sg rho H (opAdd x y st) (VQ K Q)) : rAddA K v u H Q := by
  unfold opAdd at h
  split at h
  · cases r1; cases r2
    exact .inl ⟨_, _, rfl, rfl, ok_here w h (.int _)⟩
  · cases r1; cases r2
    exact .inr (.inl ⟨_, _, rfl, rfl, ok_here w h (.int _)⟩)
  · split at h
    · cases r1; cases r2
      exact .inr (.inr (.inl ⟨_, _, rfl, rfl, by assumption, ok_here w h (.str _)⟩))
    · exact h.elim
  · split at h
    · rename_i a b hl
      cases r1 with
      | tup h1 q1 k1 =>
        cases r2 with
        | tup h2 q2 k2 =>
          refine .inr (.inr (.inr (.inl ⟨_, _, _, _, rfl, rfl, h1, h2, by rw [← q1.length, ← q2.length]; exact hl, fun e => ?_, fun e1 e2 => ?_, fun e1 e2 => ?_⟩)))
          · subst e
            cases q1
            exact ok_here w h (.tup h2 q2 k2)
          · subst e2
            cases q2
            rw [List.append_nil] at h
            exact ok_here w h (.tup h1 q1 k1)
          · exact ok_tmp_tup w h (q1.append q2)
    · exact h.elim
  · have d1 := deref_rel w r1
    have d2 := deref_rel w r2
    split at h
    · rename_i e1 e2
      rw [e1] at d1
      rw [e2] at d2
      obtain ⟨a, vs, rfl, h1, q1⟩ := der_lst d1
      obtain ⟨b, ws, rfl, h2, q2⟩ := der_lst d2
      split at h
      · rename_i hl
        exact .inr (.inr (.inr (.inr ⟨a, b, vs, ws, rfl, rfl, h1, h2, by rw [← q1.length, ← q2.length]; exact hl, ok_tmp_lst w h (q1.append q2)⟩)))
      · exact h.elim
    · exact h.elim
theorem hop_sub (w : Wld K rho st H) (r1 : RelD K rho H x v) (r2 : RelD K rho H y u) (h : OkR K cls W sg rho H (opSub x y st) (VQ K Q)) : (rI0 fun i j => .int (i - j)) v u H Q := by
  unfold opSub at h
  split at h
  · cases r1; cases r2
    exact ⟨_, _, rfl, rfl, ok_here w h (.int _)⟩
  · exact h.elim
def rMulS : R2 := fun x y H Q => ∃ i n, x = .str i ∧ y = .int n ∧ 2 ≤ n ∧ n ≤ 1001 ∧ i.length ≤ 1000 ∧ Q (.str (Txt.mul i n)) H
theorem op_mulS {X : Cx} : OpR X (binaryOp .Mult) rMulS := by
  intro pins s σ H x y v u Q I rx ry h
  obtain ⟨i, n, rfl, rfl, h1, h2, h3, q⟩ := h
  obtain ⟨t, rfl⟩ := rx
  obtain ⟨t', rfl⟩ := ry
  refine PySem.SB.mul ⟨?_, fun _ _ => ?_, fun _ _ => ?_⟩ fun t' k => ⟨.str (Txt.mul i n), H, I.tok _, ⟨_, rfl⟩, q⟩
  · have a1 : ¬ n < -(2 ^ 63 : Int) := by omega
    have a2 : ¬ n ≥ 2 ^ 63 := by omega
    rw [decide_eq_false a1, decide_eq_false a2]
    rfl
  · have : (1000 : Int) ≤ (2 ^ 63 - 1) / n := Int.le_ediv_of_mul_le (by omega) (by omega)
    omega
  · have a1 : i.length * n.toNat ≤ 1000 * 1001 := Nat.mul_le_mul h3 (by omega)
    have a2 : 1000 * 1001 ≤ sizeLine := by rw [sizeLine_eq]; omega
    show decide (_ > sizeLine) = false
    exact decide_eq_false (by omega)
def rMulA (K : PySem.W.Frag) : R2 := fun x y H Q => rI CMul (fun i j => .int (i * j)) x y H Q ∨ rI CMulW (fun i j => .int (i * j)) x y H Q ∨ rRep x y H Q ∨ MX.rRepTB K x y H Q ∨ MX.rRepT1 K x y H Q ∨ MX.rRepT0 K x y H Q ∨ MX.rRepE K x y H Q ∨ rMulS x y H Q
theorem op_mulA {X : Cx} : OpR X (binaryOp .Mult) (rMulA X.K) := op_mul.or (op_mulW.or (op_rep.or (MX.op_repTB.or (MX.op_repT1.or (MX.op_repT0.or (MX.op_repE.or op_mulS))))))
theorem relDs_rep {ds : List D} {vs : List V} (r : RelDs K rho H ds vs) : ∀ n : Nat, RelDs K rho H (List.replicate n ds).flatten (List.replicate n vs).flatten
  | 0 => .nil
  | n + 1 => by
    rw [List.replicate_succ, List.replicate_succ, List.flatten_cons, List.flatten_cons]
    exact r.append (relDs_rep r n)
theorem hop_mul (w : Wld K rho st H) (r1 : RelD K rho H x v) (r2 : RelD K rho H y u) (h : OkR K cls W sg rho H (opMul x y st) (VQ K Q)) : rMulA K v u H Q := by
  unfold opMul at h
  split at h
  · split at h
    · rename_i hm
      cases r1; cases r2
      rcases hm with hm | hm
      · exact .inl ⟨_, _, rfl, rfl, hm, ok_here w h (.int _)⟩
      · exact .inr (.inl ⟨_, _, rfl, rfl, hm, ok_here w h (.int _)⟩)
    · exact h.elim
  · split at h
    · rename_i hl
      cases r1; cases r2
      exact .inr (.inr (.inr (.inr (.inr (.inr (.inr ⟨_, _, rfl, rfl, hl.1, hl.2.1, hl.2.2, ok_here w h (.str _)⟩))))))
    · exact h.elim
  · have d1 := deref_rel w r1
    split at h
    · rename_i e1
      rw [e1] at d1
      obtain ⟨a, vs, rfl, h1, q1⟩ := der_lst d1
      cases r2
      split at h
      · rename_i hl
        exact .inr (.inr (.inl ⟨a, _, vs, rfl, rfl, h1, hl.1, hl.2.1, by rw [← q1.length]; exact hl.2.2, ok_tmp_lst w h (relDs_rep q1 _)⟩))
      · exact h.elim
    · rename_i e1
      rw [e1] at d1
      obtain ⟨a, vs, rfl, h1, q1, kk⟩ := der_tupK d1
      cases r2
      split at h
      · rename_i hl
        rename_i k _ _ _ _
        by_cases hne : vs = []
        · subst hne
          cases q1
          have ee : (List.replicate k.toNat ([] : List D)).flatten = [] := by simp
          rw [ee] at h
          exact .inr (.inr (.inr (.inr (.inr (.inr (.inl ⟨a, k, rfl, rfl, h1, hl.2.1, hl.2.2.1, ok_here w h (.tup h1 .nil kk)⟩))))))
        by_cases k0 : k = 0
        · subst k0
          exact .inr (.inr (.inr (.inr (.inr (.inl ⟨a, vs, rfl, rfl, h1, hne, ok_tmp_tup w h .nil⟩)))))
        · by_cases k1 : k = 1
          · subst k1
            have e : ∀ zs : List D, (List.replicate (1 : Int).toNat zs).flatten = zs := fun zs => List.append_nil zs
            rw [e] at h
            exact .inr (.inr (.inr (.inr (.inl ⟨a, vs, rfl, rfl, h1, ok_here w h (.tup h1 q1 kk)⟩))))
          · exact .inr (.inr (.inr (.inl ⟨a, _, vs, rfl, rfl, h1, hne, by omega, hl.2.2.1, by rw [← q1.length]; exact hl.2.2.2, ok_tmp_tup w h (relDs_rep q1 _)⟩)))
      · exact h.elim
    · exact h.elim
  · exact h.elim
theorem hop_mod (w : Wld K rho st H) (r1 : RelD K rho H x v) (r2 : RelD K rho H y u) (h : OkR K cls W sg rho H (opMod x y st) (VQ K Q)) : (rI (fun _ j => 0 < j) fun i j => .int (i % j)) v u H Q := by
  unfold opMod at h
  split at h
  · split at h
    · cases r1; cases r2
      exact ⟨_, _, rfl, rfl, by assumption, ok_here w h (.int _)⟩
    · exact h.elim
  · exact h.elim
theorem hop_div (w : Wld K rho st H) (r1 : RelD K rho H x v) (r2 : RelD K rho H y u) (h : OkR K cls W sg rho H (opDiv x y st) (VQ K Q)) : (rI CDivW fun i j => .int (i / j)) v u H Q := by
  unfold opDiv at h
  split at h
  · split at h
    · cases r1; cases r2
      exact ⟨_, _, rfl, rfl, by assumption, ok_here w h (.int _)⟩
    · exact h.elim
  · exact h.elim
theorem hop_pow (w : Wld K rho st H) (r1 : RelD K rho H x v) (r2 : RelD K rho H y u) (h : OkR K cls W sg rho H (opPow x y st) (VQ K Q)) : (rI CPow fun i j => .int (i ^ j.toNat)) v u H Q := by
  unfold opPow at h
  split at h
  · split at h
    · cases r1; cases r2
      exact ⟨_, _, rfl, rfl, by assumption, ok_here w h (.int _)⟩
    · exact h.elim
  · exact h.elim
theorem hop_cmp {p : Int → Int → Bool} (w : Wld K rho st H) (r1 : RelD K rho H x v) (r2 : RelD K rho H y u) (h : OkR K cls W sg rho H (opCmp p x y st) (VQ K Q)) : (rI0 fun i j => .bl (p i j)) v u H Q := by
  unfold opCmp at h
  split at h
  · cases r1; cases r2
    exact ⟨_, _, rfl, rfl, ok_here w h (.bl _)⟩
  · exact h.elim
mutual
theorem relD_dp : ∀ {d : D} {v : V}, RelD K rho H d v → noRef d = true → Dp K H v (toPy d)
  | _, _, .non, _ => .non
  | _, _, .bl b, _ => .bl b
  | _, _, .int i, _ => .int i
  | _, _, .str x, _ => .str x
  | _, _, .tup h r _, n => by
    simp only [noRef] at n
    simp only [toPy]
    exact .tup h (relDs_dp r n)
  | _, _, .lst h m r, n => by
    simp only [noRef] at n
    simp only [toPy]
    exact .lst (SqL.of h) (relDs_dp r n)
  | _, _, .fz h r, n => by
    simp only [noRef] at n
    simp only [toPy]
    exact .lst h.sq (relDs_dp r n)
  | _, _, .dic h m r, n => by simp [noRef] at n
  | _, _, .ref h, n => by simp [noRef] at n
theorem relDs_dp : ∀ {ds : List D} {vs : List V}, RelDs K rho H ds vs → noRefs ds = true → DpAll K H vs (toPys ds)
  | _, _, .nil, _ => by simp only [toPys]; exact .nil
  | _, _, .cons h t, n => by
    simp only [noRefs, Bool.and_eq_true] at n
    simp only [toPys]
    exact .cons (relD_dp h n.1) (relDs_dp t n.2)
end
theorem der_dp {d : D} (h : DerR K rho H d v) (n : noRef d = true) : Dp K H v (toPy d) := by
  cases d with
  | lst ds =>
    obtain ⟨a, vs, rfl, h1, q1⟩ := der_lst h
    simp only [noRef] at n
    simp only [toPy]
    exact .lst (SqL.of h1) (relDs_dp q1 n)
  | dic ds => simp [noRef] at n
  | _ => exact relD_dp h n
theorem eqD_some {b : Bool} (w : Wld K rho st H) (r1 : RelD K rho H x v) (r2 : RelD K rho H y u) (h : eqD st x y = some b) : ∃ d e, Dp K H v d ∧ Dp K H u e ∧ SeqAt.shaped d = true ∧ SeqAt.shaped e = true ∧ PyData.eqv d e = b := by
  unfold eqD at h
  split at h
  · rename_i hc
    simp only [Bool.and_eq_true] at hc
    obtain ⟨⟨⟨h1, h2⟩, h3⟩, h4⟩ := hc
    exact ⟨_, _, der_dp (deref_rel w r1) h1, der_dp (deref_rel w r2) h2, h3, h4, Option.some.inj h⟩
  · cases h
def rEqT0 (K : PySem.W.Frag) : R2 := fun x y H Q => ∃ (a b : Addr) (xs : List V), x = .ref a ∧ y = .ref b ∧ SqT K H a xs ∧ SqT K H b [] ∧ Q (.bl xs.isEmpty) H
def rNeT0 (K : PySem.W.Frag) : R2 := fun x y H Q => ∃ (a b : Addr) (xs : List V), x = .ref a ∧ y = .ref b ∧ SqT K H a xs ∧ SqT K H b [] ∧ Q (.bl (!xs.isEmpty)) H
theorem op_eqT0 {X : Cx} (hu : X.A.units < cLine) : OpR X (compareOp .Eq) (rEqT0 X.K) := by
  intro pins s σ H x y v u Q I rx ry h
  obtain ⟨a, b, xs, rfl, rfl, ha, hb, q⟩ := h
  cases rx
  cases ry
  obtain ⟨its, r, ht, hz⟩ := I.tuple ha
  obtain ⟨its2, r2, ht2, hz2⟩ := I.tuple hb
  have e2 : its2 = [] := List.length_eq_zero_iff.mp (by rw [← r2.length]; rfl)
  subst e2
  have hrc := SeqAt.RcAt.tuples (A := X.A) (e := fun _ => true) ht ht2 hu (fun j h1 h2 => absurd h2 (by simp))
  refine hrc X.prog X.w _ _ ⟨.bl _, H, I, rfl, ?_⟩
  have : ((List.range (min its.toArray.size ([] : List Value).toArray.size)).all (fun _ => true) && its.toArray.size == ([] : List Value).toArray.size) = xs.isEmpty := by
    have hl := r.length
    cases xs with
    | nil =>
      have : its = [] := List.length_eq_zero_iff.mp (by rw [← hl]; rfl)
      subst this
      rfl
    | cons x xs =>
      simp at hl
      simp [← hl]
  rw [this]
  exact q
theorem op_neT0 {X : Cx} (hu : X.A.units < cLine) : OpR X (compareOp .NotEq) (rNeT0 X.K) := by
  intro pins s σ H x y v u Q I rx ry h
  obtain ⟨a, b, xs, rfl, rfl, ha, hb, q⟩ := h
  cases rx
  cases ry
  obtain ⟨its, r, ht, hz⟩ := I.tuple ha
  obtain ⟨its2, r2, ht2, hz2⟩ := I.tuple hb
  have e2 : its2 = [] := List.length_eq_zero_iff.mp (by rw [← r2.length]; rfl)
  subst e2
  refine SeqAt.mi_rcne_tuple0 ht ht2 hu _ _ ⟨.bl _, H, I, rfl, ?_⟩
  have : (its.toArray.size != 0) = !xs.isEmpty := by
    have hl := r.length
    cases xs with
    | nil =>
      have : its = [] := List.length_eq_zero_iff.mp (by rw [← hl]; rfl)
      subst this
      rfl
    | cons x xs =>
      rw [List.size_toArray, ← hl]
      rfl
  rw [this]
  exact q
theorem kvGet_rel {K : PySem.W.Frag} {rho : Rho} {H : Hp} : ∀ {ds : List (Key × D)} {vs : List (Key × V)} {k : Key} {d : D}, RelK K rho H ds vs → kvGet ds k = some d → ∃ v, valV vs k = some v ∧ RelD K rho H d v
  | _, _, _, _, .nil, h => by simp [kvGet] at h
  | (k', d') :: ds, (_, v') :: vs, k, d, .cons r t, h => by
    unfold kvGet valV at *
    simp only [List.find?_cons] at h ⊢
    by_cases e : k' = k
    · simp only [e, decide_true, Option.map_some, Option.some.injEq] at h ⊢
      subst h
      exact ⟨v', rfl, r⟩
    · simp only [e, decide_false] at h ⊢
      exact kvGet_rel t h
def SameK (K : PySem.W.Frag) (H : Hp) (ks ls : List (Key × V)) : Prop := ks.length = ls.length ∧ ∀ p ∈ ks, ∃ u d e, valV ls p.1 = some u ∧ Dp K H p.2 d ∧ Dp K H u e ∧ SeqAt.shaped d = true ∧ SeqAt.shaped e = true ∧ PyData.eqv d e = true
def rEqX (K : PySem.W.Frag) : R2 := fun x y H Q => ∃ a b ks ls, x = .ref a ∧ y = .ref b ∧ H a = some (.dK ks) ∧ H b = some (.dK ls) ∧ SameK K H ks ls ∧ Q (.bl true) H
def rNeX (K : PySem.W.Frag) : R2 := fun x y H Q => ∃ a b ks ls, x = .ref a ∧ y = .ref b ∧ H a = some (.dK ks) ∧ H b = some (.dK ls) ∧ SameK K H ks ls ∧ Q (.bl false) H
theorem hits_same {X : Cx} {pins : List (Addr × Obj)} {σ : L2.St} {H : Hp} {s : Shared} (I : Inv X pins σ H s) (hu : X.A.in1.units + 64 < cLine) {ls : List (Key × V)} {vb : List (Key × Value)} (rb : KV ls vb) :
    ∀ {ks : List (Key × V)} {va : List (Key × Value)}, KV ks va → (∀ p ∈ ks, ∃ u d e, valV ls p.1 = some u ∧ Dp X.K H p.2 d ∧ Dp X.K H u e ∧ SeqAt.shaped d = true ∧ SeqAt.shaped e = true ∧ PyData.eqv d e = true) → PySem.W.KeqHits X.A.in1 s vb va true := by
  intro ks va ra
  unfold KV at ra
  induction ra with
  | nil => intro _; exact .nil
  | @cons p q ps qs h t k =>
    intro hp
    obtain ⟨h1, h2⟩ := h
    obtain ⟨u, d, e, ev, d1, d2, s1, s2, eq⟩ := hp p List.mem_cons_self
    have rr : RelO (some u) (valueAt vb p.1) := by rw [← ev]; exact rb.val p.1
    obtain ⟨y, hy, ry⟩ := rr.some_of
    obtain ⟨key, v⟩ := q
    have h1' : p.1 = key := h1
    rw [h1'] at hy
    obtain ⟨as, g1⟩ := Dp.reads I d _ _ d1 h2
    obtain ⟨bs, g2⟩ := Dp.reads I e _ _ d2 ry
    have z := PySem.W.keq_at (A := X.A) g1 g2 s1 s2 hu
    rw [eq] at z
    show PySem.W.KeqHits X.A.in1 s vb ((key, v) :: qs) (true && true)
    exact .hit hy z (k fun p' hm => hp p' (List.mem_cons_of_mem _ hm))
theorem hits_same1 {X : Cx} {pins : List (Addr × Obj)} {σ : L2.St} {H : Hp} {s : Shared} (I : Inv X pins σ H s) (hu : X.A.in1.in1.units + 64 < cLine) {ls : List (Key × V)} {vb : List (Key × Value)} (rb : KV ls vb) :
    ∀ {ks : List (Key × V)} {va : List (Key × Value)}, KV ks va → (∀ p ∈ ks, ∃ u d e, valV ls p.1 = some u ∧ Dp X.K H p.2 d ∧ Dp X.K H u e ∧ SeqAt.shaped d = true ∧ SeqAt.shaped e = true ∧ PyData.eqv d e = true) → PySem.W.KeqHits X.A.in1.in1 s vb va true := by
  intro ks va ra
  unfold KV at ra
  induction ra with
  | nil => intro _; exact .nil
  | @cons p q ps qs h t k =>
    intro hp
    obtain ⟨h1, h2⟩ := h
    obtain ⟨u, d, e, ev, d1, d2, s1, s2, eq⟩ := hp p List.mem_cons_self
    have rr : RelO (some u) (valueAt vb p.1) := by rw [← ev]; exact rb.val p.1
    obtain ⟨y, hy, ry⟩ := rr.some_of
    obtain ⟨key, v⟩ := q
    have h1' : p.1 = key := h1
    rw [h1'] at hy
    obtain ⟨as, g1⟩ := Dp.reads I d _ _ d1 h2
    obtain ⟨bs, g2⟩ := Dp.reads I e _ _ d2 ry
    have z := PySem.W.keq_at (A := X.A.in1) g1 g2 s1 s2 hu
    rw [eq] at z
    show PySem.W.KeqHits X.A.in1.in1 s vb ((key, v) :: qs) (true && true)
    exact .hit hy z (k fun p' hm => hp p' (List.mem_cons_of_mem _ hm))
theorem op_eqX {X : Cx} (hu : X.A.units + 65 < cLine) : OpR X (compareOp .Eq) (rEqX X.K) := by
  intro pins s σ H x y v u Q I rx ry h
  obtain ⟨a, b, ks, ls, rfl, rfl, ea, eb, ⟨hlen, hp⟩, q⟩ := h
  obtain rfl : v = Value.ref a := rx
  obtain rfl : u = Value.ref b := ry
  obtain ⟨_, ya, va, ra, da⟩ := (show ObjOk X.prog X.w H s.heap a (.dK ks) from I.hok a _ ea)
  obtain ⟨_, yb, vb, rb, db⟩ := (show ObjOk X.prog X.w H s.heap b (.dK ls) from I.hok b _ eb)
  have hl : va.length = vb.length := by rw [← ra.length, ← rb.length]; exact hlen
  exact PySem.W.keq_eq (knd := mixKind X.prog X.w) (r := true) ya yb da db (by omega) (fun _ => hits_same I (show X.A.units + 1 + 64 < cLine by omega) rb ra hp) (fin_bl I q (by simp [hl]))
theorem op_neX {X : Cx} (hu : X.A.units + 65 < cLine) : OpR X (compareOp .NotEq) (rNeX X.K) := by
  intro pins s σ H x y v u Q I rx ry h
  obtain ⟨a, b, ks, ls, rfl, rfl, ea, eb, ⟨hlen, hp⟩, q⟩ := h
  obtain rfl : v = Value.ref a := rx
  obtain rfl : u = Value.ref b := ry
  obtain ⟨_, ya, va, ra, da⟩ := (show ObjOk X.prog X.w H s.heap a (.dK ks) from I.hok a _ ea)
  obtain ⟨_, yb, vb, rb, db⟩ := (show ObjOk X.prog X.w H s.heap b (.dK ls) from I.hok b _ eb)
  have hl : va.length = vb.length := by rw [← ra.length, ← rb.length]; exact hlen
  exact PySem.W.keq_ne (knd := mixKind X.prog X.w) (r := true) ya yb da db (by omega) (fun _ => hits_same I (show X.A.units + 1 + 64 < cLine by omega) rb ra hp) (fin_bl I q (by simp [hl]))
theorem same_rel {K : PySem.W.Frag} {rho : Rho} {H : Hp} {bs : List (Key × D)} {ls : List (Key × V)} (r2 : RelK K rho H bs ls) : ∀ {as : List (Key × D)} {ks : List (Key × V)}, RelK K rho H as ks → (as.all fun p => sameV p.2 (kvGet bs p.1)) = true → ∀ p ∈ ks, ∃ u d e, valV ls p.1 = some u ∧ Dp K H p.2 d ∧ Dp K H u e ∧ SeqAt.shaped d = true ∧ SeqAt.shaped e = true ∧ PyData.eqv d e = true
  | _, _, .nil, _, p, hp => by cases hp
  | (k, d) :: as, (_, v) :: ks, .cons h t, ha, p, hp => by
    simp only [List.all_cons, Bool.and_eq_true] at ha
    rcases List.mem_cons.mp hp with rfl | hp
    · have h0 := ha.1
      cases q : kvGet bs k with
      | none => rw [q] at h0; cases h0
      | some u =>
        rw [q] at h0
        simp only [sameV, leafD, Bool.and_eq_true] at h0
        obtain ⟨⟨⟨n1, s1⟩, n2, s2⟩, e⟩ := h0
        obtain ⟨z, hz, rz⟩ := kvGet_rel r2 q
        exact ⟨z, _, _, hz, relD_dp h n1, relD_dp rz n2, s1, s2, e⟩
    · exact same_rel r2 t ha.2 p hp
theorem eqX_some (w : Wld K rho st H) (r1 : RelD K rho H x v) (r2 : RelD K rho H y u) (h : eqX st x y = true) : ∃ a b ks ls, v = .ref a ∧ u = .ref b ∧ H a = some (.dK ks) ∧ H b = some (.dK ls) ∧ SameK K H ks ls := by
  unfold eqX at h
  split at h
  · rename_i as bs e1 e2
    have q1 := deref_rel w r1
    have q2 := deref_rel w r2
    rw [e1] at q1
    rw [e2] at q2
    obtain ⟨a, ks, rfl, g1, g2⟩ := der_dic q1
    obtain ⟨b, ls, rfl, g3, g4⟩ := der_dic q2
    simp only [dicSame, Bool.and_eq_true, decide_eq_true_eq] at h
    exact ⟨a, b, ks, ls, rfl, rfl, g1, g3, by rw [← g2.length, ← g4.length]; exact h.1, same_rel g4 g2 h.2⟩
  · cases h
def SameI (K : PySem.W.Frag) (H : Hp) (v u : V) : Prop :=
  (∃ d e, Dp K H v d ∧ Dp K H u e ∧ SeqAt.shaped d = true ∧ SeqAt.shaped e = true ∧ PyData.eqv d e = true) ∨ ∃ a b ks ls, v = .ref a ∧ u = .ref b ∧ H a = some (.dK ks) ∧ H b = some (.dK ls) ∧ SameK K H ks ls
def rEqT (K : PySem.W.Frag) : R2 := fun x y H Q => ∃ (a b : Addr) (xs ys : List V), x = .ref a ∧ y = .ref b ∧ SqT K H a xs ∧ SqT K H b ys ∧ Paired (SameI K H) xs ys ∧ Q (.bl true) H
def rNeT (K : PySem.W.Frag) : R2 := fun x y H Q => ∃ (a b : Addr) (xs ys : List V), x = .ref a ∧ y = .ref b ∧ SqT K H a xs ∧ SqT K H b ys ∧ Paired (SameI K H) xs ys ∧ Q (.bl false) H
theorem sameI_run {X : Cx} {pins : List (Addr × Obj)} {σ : L2.St} {H : Hp} {s : Shared} (I : Inv X pins σ H s) (hu : X.A.in1.units + 65 < cLine) {x y : V} {v u : Value} (h : SameI X.K H x y) (rx : RelV x v) (ry : RelV y u) : SeqAt.EqP X.prog X.w X.A.in1 s v u true := by
  rcases h with ⟨d, e, d1, d2, s1, s2, eq⟩ | ⟨a, b, ks, ls, rfl, rfl, ea, eb, ⟨hlen, hp⟩⟩
  · obtain ⟨as, g1⟩ := Dp.reads I d _ _ d1 rx
    obtain ⟨bs, g2⟩ := Dp.reads I e _ _ d2 ry
    have z := PySem.W.keq_at (A := X.A) g1 g2 s1 s2 (by omega)
    rw [eq] at z
    exact z.eqP
  · obtain rfl : v = Value.ref a := rx
    obtain rfl : u = Value.ref b := ry
    by_cases e : a = b
    · subst e
      exact (SeqAt.EqAt.same _).eqP
    · refine SeqAt.eqP_refs e fun E Q q => ?_
      obtain ⟨_, ya, va, ra, da⟩ := (show ObjOk X.prog X.w H s.heap a (.dK ks) from I.hok a _ ea)
      obtain ⟨_, yb, vb, rb, db⟩ := (show ObjOk X.prog X.w H s.heap b (.dK ls) from I.hok b _ eb)
      have hl : va.length = vb.length := by rw [← ra.length, ← rb.length]; exact hlen
      exact PySem.W.keq_eq (knd := mixKind X.prog X.w) (r := true) ya yb da db (by omega) (fun _ => hits_same1 I (show X.A.units + 1 + 1 + 64 < cLine from by have : X.A.in1.units = X.A.units + 1 := rfl; omega) rb ra hp) (by rw [show (va.length == vb.length && true) = true from by rw [hl]; simp]; exact q)
theorem pair_run {X : Cx} {pins : List (Addr × Obj)} {σ : L2.St} {H : Hp} {s : Shared} (I : Inv X pins σ H s) (hu : X.A.in1.units + 65 < cLine) {xs ys : List V} (hp : Paired (SameI X.K H) xs ys) :
    ∀ {us ws : List Value}, Vals xs us → Vals ys ws → ∀ j (h1 : j < us.length) (h2 : j < ws.length), SeqAt.EqP X.prog X.w X.A.in1 s us[j] ws[j] true := by
  induction hp with
  | nil =>
    intro us ws r1 r2 j h1 h2
    cases r1
    exact absurd h1 (Nat.not_lt_zero j)
  | cons h _ k =>
    intro us ws r1 r2 j h1 h2
    cases r1 with
    | cons a1 b1 =>
      cases r2 with
      | cons a2 b2 =>
        cases j with
        | zero => exact sameI_run I hu h a1 a2
        | succ j => exact k b1 b2 j (Nat.lt_of_succ_lt_succ h1) (Nat.lt_of_succ_lt_succ h2)
theorem op_eqT {X : Cx} (hu : X.A.units + 66 < cLine) : OpR X (compareOp .Eq) (rEqT X.K) := by
  intro pins s σ H x y v u Q I rx ry h
  obtain ⟨a, b, xs, ys, rfl, rfl, ha, hb, hp, q⟩ := h
  cases rx
  cases ry
  obtain ⟨us, r1, p1, _⟩ := I.tuple ha
  obtain ⟨ws, r2, p2, _⟩ := I.tuple hb
  have hsz : us.toArray.size = ws.toArray.size := by
    rw [List.size_toArray, List.size_toArray, ← r1.length, ← r2.length]
    exact Paired.length hp
  refine SeqAt.mi_rc_tuples p1 p2 hsz (by omega) (fun j h1 h2 => ?_) _ _ ⟨.bl true, H, I, rfl, q⟩
  have k := pair_run I (show X.A.units + 1 + 65 < cLine by omega) hp r1 r2 j (by simpa using h1) (by simpa using h2)
  simpa using k
theorem op_neT {X : Cx} (hu : X.A.units + 66 < cLine) : OpR X (compareOp .NotEq) (rNeT X.K) := by
  intro pins s σ H x y v u Q I rx ry h
  obtain ⟨a, b, xs, ys, rfl, rfl, ha, hb, hp, q⟩ := h
  cases rx
  cases ry
  obtain ⟨us, r1, p1, _⟩ := I.tuple ha
  obtain ⟨ws, r2, p2, _⟩ := I.tuple hb
  have hsz : us.toArray.size = ws.toArray.size := by
    rw [List.size_toArray, List.size_toArray, ← r1.length, ← r2.length]
    exact Paired.length hp
  refine SeqAt.mi_rcne_tuples p1 p2 hsz (by omega) (fun j h1 h2 => ?_) _ _ ⟨.bl false, H, I, rfl, q⟩
  have k := pair_run I (show X.A.units + 1 + 65 < cLine by omega) hp r1 r2 j (by simpa using h1) (by simpa using h2)
  simpa using k
theorem item_same (w : Wld K rho st H) (r1 : RelD K rho H x v) (r2 : RelD K rho H y u) (h : (decide (eqD st x y = some true) || eqX st x y) = true) : SameI K H v u := by
  rcases Bool.or_eq_true _ _ ▸ h with h | h
  · exact .inl (eqD_some w r1 r2 (of_decide_eq_true h))
  · exact .inr (eqX_some w r1 r2 h)
theorem items_same (w : Wld K rho st H) : ∀ {as bs : List D} {xs ys : List V}, as.length = bs.length → RelDs K rho H as xs → RelDs K rho H bs ys → ((as.zip bs).all fun p => decide (eqD st p.1 p.2 = some true) || eqX st p.1 p.2) = true → Paired (SameI K H) xs ys
  | [], [], _, _, _, .nil, .nil, _ => .nil
  | _ :: _, _ :: _, _, _, hl, .cons h1 t1, .cons h2 t2, h => by
    simp only [List.zip_cons_cons, List.all_cons, Bool.and_eq_true] at h
    exact .cons (item_same w h1 h2 h.1) (items_same w (Nat.succ.inj hl) t1 t2 h.2)
theorem eqTX_some (w : Wld K rho st H) (r1 : RelD K rho H x v) (r2 : RelD K rho H y u) (h : eqTX st x y = true) : ∃ (a b : Addr) (xs ys : List V), v = .ref a ∧ u = .ref b ∧ SqT K H a xs ∧ SqT K H b ys ∧ Paired (SameI K H) xs ys := by
  unfold eqTX at h
  split at h
  · rename_i as bs
    simp only [Bool.and_eq_true, decide_eq_true_eq] at h
    cases r1 with
    | tup h1 q1 _ =>
      cases r2 with
      | tup h2 q2 _ =>
        refine ⟨_, _, _, _, rfl, rfl, h1, h2, ?_⟩
        exact items_same w h.1 q1 q2 h.2
  · cases h
inductive HitsV (K : PySem.W.Frag) (H : Hp) (ls : List (List Key × V)) : List (List Key × V) → Bool → Prop
  | nil : HitsV K H ls [] true
  | miss {k : List Key} {v : V} {r : List (List Key × V)} : valV ls k = none → HitsV K H ls ((k, v) :: r) false
  | hit {k : List Key} {v u : V} {d e : PyData} {r : List (List Key × V)} {b : Bool} : valV ls k = some u → Dp K H v d → Dp K H u e → SeqAt.shaped d = true → SeqAt.shaped e = true → HitsV K H ls r b → HitsV K H ls ((k, v) :: r) (PyData.eqv d e && b)
def rEqDT (K : PySem.W.Frag) : R2 := fun x y H Q => ∃ a b ks ls r, x = .ref a ∧ y = .ref b ∧ H a = some (.dT ks) ∧ H b = some (.dT ls) ∧ (ks.length = ls.length → HitsV K H ls ks r) ∧ Q (.bl (ks.length == ls.length && r)) H
theorem hits_dt {X : Cx} {pins : List (Addr × Obj)} {σ : L2.St} {H : Hp} {s : Shared} (I : Inv X pins σ H s) (hu : X.A.in1.units + 64 < cLine) {ls : List (List Key × V)} {xb : List (List Key × Addr × Value)} (rb : KT H ls xb) :
    ∀ {ks : List (List Key × V)} {xa : List (List Key × Addr × Value)} {r : Bool}, KT H ks xa → HitsV X.K H ls ks r → PySem.W.HitsH X.A.in1 s xb xa r := by
  intro ks xa r ra hv
  unfold KT at ra
  induction hv generalizing xa with
  | nil => cases ra; exact .nil
  | @miss k v ps hn =>
    cases ra with
    | @cons _ q _ qs h t =>
      obtain ⟨q1, q2, q3⟩ := q
      obtain ⟨h1, h2, h3⟩ := h
      have h1 : k = q1 := h1
      subst h1
      have rr : RelO none ((atKey xb k).map (·.2)) := by rw [← hn]; exact rb.val k
      refine .miss ?_
      cases e : atKey xb k with
      | none => rfl
      | some z => rw [e] at rr; cases rr
  | @hit k v u d e ps b ev d1 d2 s1 s2 _ ih =>
    cases ra with
    | @cons _ q _ qs h t =>
      obtain ⟨q1, q2, q3⟩ := q
      obtain ⟨h1, h2, h3⟩ := h
      have h1 : k = q1 := h1
      subst h1
      have rr : RelO (some u) ((atKey xb k).map (·.2)) := by rw [← ev]; exact rb.val k
      obtain ⟨y, hy, ry⟩ := rr.some_of
      obtain ⟨z, hz, rfl⟩ := Option.map_eq_some_iff.mp hy
      obtain ⟨as, g1⟩ := Dp.reads I d _ _ d1 h3
      obtain ⟨bs, g2⟩ := Dp.reads I e _ _ d2 ry
      exact .hit hz (PySem.W.keq_at (A := X.A) g1 g2 s1 s2 hu) (ih t)
theorem op_eqDT {X : Cx} (hu : X.A.units + 65 < cLine) : OpR X (compareOp .Eq) (rEqDT X.K) := by
  intro pins s σ H x y v u Q I rx ry h
  obtain ⟨a, b, ks, ls, r, rfl, rfl, ea, eb, hp, q⟩ := h
  obtain rfl : v = Value.ref a := rx
  obtain rfl : u = Value.ref b := ry
  obtain ⟨_, ya, xa, ra, da⟩ := dt_of I.hok ea
  obtain ⟨_, yb, xb, rb, db⟩ := dt_of I.hok eb
  have l1 : xa.length = ks.length := (Paired.length ra).symm
  have l2 : xb.length = ls.length := (Paired.length rb).symm
  refine PySem.W.mi_eqH (r := r) ya yb (tupleKind_room_in1 (by omega)) da db (by omega) (fun hl => hits_dt I (show X.A.units + 1 + 64 < cLine by omega) rb ra (hp (by omega))) ?_
  rw [l1, l2]
  exact ⟨.bl _, H, I, rfl, q⟩
theorem ktGet_none1 : ∀ {bs : List (List Key × D)} {ls : List (List Key × V)} {k : List Key}, bs.map (·.1) = ls.map (·.1) → ktGet bs k = none → valV ls k = none
  | [], [], k, _, _ => rfl
  | [], l :: ls, k, h, _ => by cases h
  | b :: bs, [], k, h, _ => by cases h
  | (k', d') :: bs, (j', v') :: ls, k, h1, h => by
    simp only [List.map_cons, List.cons.injEq] at h1
    obtain ⟨e1, h1⟩ := h1
    subst e1
    unfold ktGet valV at *
    simp only [List.find?_cons] at h ⊢
    by_cases e : k' = k
    · simp only [e, decide_true] at h
      cases h
    · simp only [e, decide_false] at h ⊢
      exact ktGet_none1 h1 h
theorem ktGet_rel1 {K : PySem.W.Frag} {rho : Rho} {H : Hp} : ∀ {bs : List (List Key × D)} {ls : List (List Key × V)} {k : List Key} {d : D}, bs.map (·.1) = ls.map (·.1) → RelDs K rho H (bs.map (·.2)) (ls.map (·.2)) → ktGet bs k = some d → ∃ v, valV ls k = some v ∧ RelD K rho H d v
  | [], _, k, d, _, _, h => by simp [ktGet] at h
  | b :: bs, [], k, d, h1, _, h => by cases h1
  | (k', d') :: bs, (j', v') :: ls, k, d, h1, r, h => by
    simp only [List.map_cons, List.cons.injEq] at h1
    obtain ⟨e1, h1⟩ := h1
    subst e1
    cases r with
    | cons r0 r =>
      unfold ktGet valV at *
      simp only [List.find?_cons] at h ⊢
      by_cases e : k' = k
      · simp only [e, decide_true, Option.map_some, Option.some.injEq] at h ⊢
        subst h
        exact ⟨v', rfl, r0⟩
      · simp only [e, decide_false] at h ⊢
        exact ktGet_rel1 h1 r h
theorem dtAll_rel {K : PySem.W.Frag} {rho : Rho} {H : Hp} {bs : List (List Key × D)} {ls : List (List Key × V)} (b1 : bs.map (·.1) = ls.map (·.1)) (b2 : RelDs K rho H (bs.map (·.2)) (ls.map (·.2))) : ∀ {as : List (List Key × D)} {ks : List (List Key × V)} {r : Bool}, as.map (·.1) = ks.map (·.1) → RelDs K rho H (as.map (·.2)) (ks.map (·.2)) → dtAll bs as = some r → HitsV K H ls ks r
  | [], [], r, _, _, h => by cases h; exact .nil
  | [], k :: ks, r, h, _, _ => by cases h
  | a :: as, [], r, h, _, _ => by cases h
  | (k, d) :: as, (j, v) :: ks, r, h1, q, h => by
    simp only [List.map_cons, List.cons.injEq] at h1
    obtain ⟨e1, h1⟩ := h1
    subst e1
    cases q with
    | cons r0 q =>
      unfold dtAll at h
      cases hs : sameO d (ktGet bs k) with
      | none => simp only [hs] at h; cases h
      | some e =>
        cases ha : dtAll bs as with
        | none => simp only [hs, ha] at h; cases h
        | some f =>
          simp only [hs, ha, Option.some.injEq] at h
          subst h
          have ih := dtAll_rel b1 b2 h1 q ha
          cases hg : ktGet bs k with
          | none =>
            rw [hg] at hs
            cases hs
            exact .miss (ktGet_none1 b1 hg)
          | some u =>
            rw [hg] at hs
            unfold sameO at hs
            simp only at hs
            split at hs
            · rename_i hl
              cases hs
              simp only [leafD, Bool.and_eq_true] at hl
              obtain ⟨⟨n1, s1⟩, n2, s2⟩ := hl
              obtain ⟨z, hz, rz⟩ := ktGet_rel1 b1 b2 hg
              exact .hit hz (relD_dp r0 n1) (relD_dp rz n2) s1 s2 ih
            · cases hs
theorem eqDT_some (w : Wld K rho st H) (r1 : RelD K rho H x v) (r2 : RelD K rho H y u) {bb : Bool} (h : eqDT st x y = some bb) : ∃ a b ks ls r, v = .ref a ∧ u = .ref b ∧ H a = some (.dT ks) ∧ H b = some (.dT ls) ∧ (ks.length = ls.length → HitsV K H ls ks r) ∧ bb = (ks.length == ls.length && r) := by
  unfold eqDT at h
  split at h
  · rename_i l m
    split at h
    · rename_i as bs e1 e2
      cases r1 with
      | ref p1 =>
        cases r2 with
        | ref p2 =>
          obtain ⟨ks, g1, g2, g3⟩ := w.obj l _ _ p1 e1
          obtain ⟨ls, f1, f2, f3⟩ := w.obj m _ _ p2 e2
          have l1 := congrArg List.length g2
          have l2 := congrArg List.length f2
          simp only [List.length_map] at l1 l2
          unfold dtSame at h
          split at h
          · rename_i hl
            refine ⟨_, _, ks, ls, bb, rfl, rfl, g1, f1, fun _ => dtAll_rel f2 f3 g2 g3 h, ?_⟩
            rw [← l1, ← l2, hl]
            simp
          · rename_i hl
            cases h
            refine ⟨_, _, ks, ls, false, rfl, rfl, g1, f1, fun z => absurd (by omega) hl, by simp⟩
    · cases h
  · cases h
def rEqX0 (K : PySem.W.Frag) : R2 := fun x y H Q => ∃ a b ks, x = .ref a ∧ y = .ref b ∧ H a = some (.dK ks) ∧ H b = some (.dK []) ∧ Q (.bl ks.isEmpty) H
def rNeX0 (K : PySem.W.Frag) : R2 := fun x y H Q => ∃ a b ks, x = .ref a ∧ y = .ref b ∧ H a = some (.dK ks) ∧ H b = some (.dK []) ∧ Q (.bl (!ks.isEmpty)) H
theorem op_eqX0 {X : Cx} (hu : X.A.units < cLine) : OpR X (compareOp .Eq) (rEqX0 X.K) := by
  intro pins s σ H x y v u Q I rx ry h
  obtain ⟨a, b, ks, rfl, rfl, ea, eb, q⟩ := h
  obtain rfl : v = Value.ref a := rx
  obtain rfl : u = Value.ref b := ry
  obtain ⟨_, ya, va, ra, da⟩ := (show ObjOk X.prog X.w H s.heap a (.dK ks) from I.hok a _ ea)
  obtain ⟨_, yb, vb, rb, db⟩ := (show ObjOk X.prog X.w H s.heap b (.dK []) from I.hok b _ eb)
  have lb : vb = [] := List.length_eq_zero_iff.mp (by rw [← rb.length]; rfl)
  subst lb
  refine PySem.W.keq_eq (knd := mixKind X.prog X.w) (r := true) ya yb da db hu (fun hl => ?_) (fin_bl I q ?_)
  · have : va = [] := List.length_eq_zero_iff.mp (by rw [hl]; rfl)
    subst this
    exact .nil
  · have := ra.length
    cases ks with
    | nil => have : va = [] := List.length_eq_zero_iff.mp (by rw [← this]; rfl)
             subst this; rfl
    | cons k ks => cases va <;> first | (simp at this; done) | rfl
theorem op_neX0 {X : Cx} (hu : X.A.units < cLine) : OpR X (compareOp .NotEq) (rNeX0 X.K) := by
  intro pins s σ H x y v u Q I rx ry h
  obtain ⟨a, b, ks, rfl, rfl, ea, eb, q⟩ := h
  obtain rfl : v = Value.ref a := rx
  obtain rfl : u = Value.ref b := ry
  obtain ⟨_, ya, va, ra, da⟩ := (show ObjOk X.prog X.w H s.heap a (.dK ks) from I.hok a _ ea)
  obtain ⟨_, yb, vb, rb, db⟩ := (show ObjOk X.prog X.w H s.heap b (.dK []) from I.hok b _ eb)
  have lb : vb = [] := List.length_eq_zero_iff.mp (by rw [← rb.length]; rfl)
  subst lb
  refine PySem.W.keq_ne (knd := mixKind X.prog X.w) (r := true) ya yb da db hu (fun hl => ?_) (fin_bl I q ?_)
  · have : va = [] := List.length_eq_zero_iff.mp (by rw [hl]; rfl)
    subst this
    exact .nil
  · have := ra.length
    cases ks with
    | nil => have : va = [] := List.length_eq_zero_iff.mp (by rw [← this]; rfl)
             subst this; rfl
    | cons k ks => cases va <;> first | (simp at this; done) | rfl
theorem eqD0_some (w : Wld K rho st H) (r1 : RelD K rho H x v) (r2 : RelD K rho H y u) {bb : Bool} (h : eqD0 st x y = some bb) : ∃ a b ks, v = .ref a ∧ u = .ref b ∧ H a = some (.dK ks) ∧ H b = some (.dK []) ∧ bb = ks.isEmpty := by
  unfold eqD0 at h
  split at h
  · rename_i as e1 e2
    have q1 := deref_rel w r1
    have q2 := deref_rel w r2
    rw [e1] at q1
    rw [e2] at q2
    obtain ⟨a, ks, rfl, g1, g2⟩ := der_dic q1
    obtain ⟨b, ls, rfl, g3, g4⟩ := der_dic q2
    cases g4
    cases h
    exact ⟨a, b, ks, rfl, rfl, g1, g3, by cases g2 <;> rfl⟩
  · cases h
def rEqA (K : PySem.W.Frag) : R2 := fun x y H Q => ((fun x y H Q => ((fun x y H Q => rEqD K x y H Q ∨ rEqT0 K x y H Q) : R2) x y H Q ∨ rEqX K x y H Q) : R2) x y H Q ∨ ((fun x y H Q => rEqT K x y H Q ∨ (fun x y H Q => rEqDT K x y H Q ∨ rEqX0 K x y H Q : R2) x y H Q) : R2) x y H Q
theorem op_eqA {X : Cx} (hu : X.A.units + 66 < cLine) : OpR X (compareOp .Eq) (rEqA X.K) := (((op_eqD (by omega)).or (op_eqT0 (by omega))).or (op_eqX (by omega))).or ((op_eqT hu).or ((op_eqDT (by omega)).or (op_eqX0 (by omega))))
def rNeA (K : PySem.W.Frag) : R2 := fun x y H Q => ((fun x y H Q => ((fun x y H Q => rNeD K x y H Q ∨ rNeX K x y H Q) : R2) x y H Q ∨ rNeT K x y H Q) : R2) x y H Q ∨ ((fun x y H Q => rNeT0 K x y H Q ∨ rNeX0 K x y H Q) : R2) x y H Q
theorem op_neA {X : Cx} (hu : X.A.units + 66 < cLine) : OpR X (compareOp .NotEq) (rNeA X.K) := (((op_neD (by omega)).or (op_neX (by omega))).or (op_neT hu)).or ((op_neT0 (by omega)).or (op_neX0 (by omega)))
theorem hop_eq (w : Wld K rho st H) (r1 : RelD K rho H x v) (r2 : RelD K rho H y u) (h : OkR K cls W sg rho H (opEq x y st) (VQ K Q)) : rEqA K v u H Q := by
  unfold opEq at h
  split at h
  · rename_i b e
    obtain ⟨d, e', h1, h2, h3, h4, h5⟩ := eqD_some w r1 r2 e
    exact .inl (.inl (.inl ⟨d, e', h1, h2, h3, h4, by rw [h5]; exact ok_here w h (.bl _)⟩))
  · split at h
    · rename_i b e
      unfold eqT0 at e
      split at e
      · cases e
        cases r1 with
        | tup h1 q1 _ =>
          cases r2 with
          | tup h2 q2 _ =>
            cases q2
            refine .inl (.inl (.inr ⟨_, _, _, rfl, rfl, h1, h2, ?_⟩))
            cases q1 with
            | nil => exact ok_here w h (.bl _)
            | cons _ _ => exact ok_here w h (.bl _)
      · cases e
    · split at h
      · rename_i e
        rcases Bool.or_eq_true _ _ ▸ e with e | e
        · obtain ⟨a, b, ks, ls, e1, e2, g1, g2, g3⟩ := eqX_some w r1 r2 e
          exact .inl (.inr ⟨a, b, ks, ls, e1, e2, g1, g2, g3, ok_here w h (.bl _)⟩)
        · obtain ⟨a, b, xs, ys, e1, e2, g1, g2, g3⟩ := eqTX_some w r1 r2 e
          exact .inr (.inl ⟨a, b, xs, ys, e1, e2, g1, g2, g3, ok_here w h (.bl _)⟩)
      · split at h
        · rename_i e
          obtain ⟨a, b, ks, ls, r, e1, e2, g1, g2, g3, rfl⟩ := eqDT_some w r1 r2 e
          exact .inr (.inr (.inl ⟨a, b, ks, ls, r, e1, e2, g1, g2, g3, ok_here w h (.bl _)⟩))
        · split at h
          · rename_i e
            obtain ⟨a, b, ks, e1, e2, g1, g2, rfl⟩ := eqD0_some w r1 r2 e
            exact .inr (.inr (.inr ⟨a, b, ks, e1, e2, g1, g2, ok_here w h (.bl _)⟩))
          · exact h.elim
theorem hop_ne (w : Wld K rho st H) (r1 : RelD K rho H x v) (r2 : RelD K rho H y u) (h : OkR K cls W sg rho H (opNe x y st) (VQ K Q)) : rNeA K v u H Q := by
  unfold opNe at h
  split at h
  · rename_i b e
    obtain ⟨d, e', h1, h2, h3, h4, h5⟩ := eqD_some w r1 r2 e
    exact .inl (.inl (.inl ⟨d, e', h1, h2, h3, h4, by rw [h5]; exact ok_here w h (.bl _)⟩))
  · split at h
    · rename_i b e
      unfold eqT0 at e
      split at e
      · cases e
        cases r1 with
        | tup h1 q1 _ =>
          cases r2 with
          | tup h2 q2 _ =>
            cases q2
            refine .inr (.inl ⟨_, _, _, rfl, rfl, h1, h2, ?_⟩)
            cases q1 with
            | nil => exact ok_here w h (.bl _)
            | cons _ _ => exact ok_here w h (.bl _)
      · cases e
    · split at h
      · rename_i e
        rcases Bool.or_eq_true _ _ ▸ e with e | e
        · obtain ⟨a, b, ks, ls, e1, e2, g1, g2, g3⟩ := eqX_some w r1 r2 e
          exact .inl (.inl (.inr ⟨a, b, ks, ls, e1, e2, g1, g2, g3, ok_here w h (.bl _)⟩))
        · obtain ⟨a, b, xs, ys, e1, e2, g1, g2, g3⟩ := eqTX_some w r1 r2 e
          exact .inl (.inr ⟨a, b, xs, ys, e1, e2, g1, g2, g3, ok_here w h (.bl _)⟩)
      · split at h
        · rename_i e
          obtain ⟨a, b, ks, e1, e2, g1, g2, rfl⟩ := eqD0_some w r1 r2 e
          exact .inr (.inr ⟨a, b, ks, e1, e2, g1, g2, ok_here w h (.bl _)⟩)
        · exact h.elim
theorem relD_non (r : RelD K rho H x v) (n : x ≠ .non) : v ≠ .non := by
  cases r <;> first | (intro e; cases e; done) | exact absurd rfl n
def rIsA : R2 := fun x y H Q => ((fun x y H Q => y = .non ∧ Q (.bl (decide (x = .non))) H) : R2) x y H Q ∨ ((fun x y H Q => ∃ a b, x = .bl a ∧ y = .bl b ∧ Q (.bl (decide (a = b))) H) : R2) x y H Q
def rIsNotA : R2 := fun x y H Q => ((fun x y H Q => y = .non ∧ Q (.bl (!decide (x = .non))) H) : R2) x y H Q ∨ ((fun x y H Q => ∃ a b, x = .bl a ∧ y = .bl b ∧ Q (.bl (!decide (a = b))) H) : R2) x y H Q
theorem op_isA {X : Cx} : OpR X (compareOp .Is) rIsA := op_isN.or op_is_bl
theorem op_isNotA {X : Cx} : OpR X (compareOp .IsNot) rIsNotA := op_notN.or op_isnot_bl
theorem hop_is (w : Wld K rho st H) (r1 : RelD K rho H x v) (r2 : RelD K rho H y u) (h : OkR K cls W sg rho H (opIs x y st) (VQ K Q)) : rIsA v u H Q := by
  unfold opIs at h
  split at h
  · cases r1; cases r2
    exact .inl ⟨rfl, ok_here w h (.bl _)⟩
  · rename_i hn
    cases r2
    refine .inl ⟨rfl, ?_⟩
    rw [decide_eq_false (relD_non r1 fun e => hn e)]
    exact ok_here w h (.bl _)
  · cases r1; cases r2
    exact .inr ⟨_, _, rfl, rfl, ok_here w h (.bl _)⟩
  · exact h.elim
theorem hop_isNot (w : Wld K rho st H) (r1 : RelD K rho H x v) (r2 : RelD K rho H y u) (h : OkR K cls W sg rho H (opIsNot x y st) (VQ K Q)) : rIsNotA v u H Q := by
  unfold opIsNot at h
  split at h
  · cases r1; cases r2
    exact .inl ⟨rfl, ok_here w h (.bl _)⟩
  · rename_i hn
    cases r2
    refine .inl ⟨rfl, ?_⟩
    rw [decide_eq_false (relD_non r1 fun e => hn e)]
    exact ok_here w h (.bl _)
  · cases r1; cases r2
    exact .inr ⟨_, _, rfl, rfl, ok_here w h (.bl _)⟩
  · exact h.elim
theorem truth_some {k : Bool} (w : Wld K rho st H) (r : RelD K rho H x v) (h : truth st x = some k) : TruV K v H k := by
  have d := deref_rel w r
  unfold truth at h
  split at h <;> (rename_i e; rw [e] at d)
  · cases d; exact (Option.some.inj h).symm
  · cases d; exact (Option.some.inj h).symm
  · cases d; exact (Option.some.inj h).symm
  · split at h
    · cases d; exact ⟨by assumption, (Option.some.inj h).symm⟩
    · cases h
  · cases d with
    | tup h1 q _ => exact .inr (.inl ⟨_, h1, by rw [← Option.some.inj h]; cases q <;> rfl⟩)
  · obtain ⟨a, vs, rfl, h1, q⟩ := der_lst d
    exact .inl ⟨_, SqL.of h1, by rw [← Option.some.inj h]; cases q <;> rfl⟩
  · cases d with
    | fz h1 q => exact .inl ⟨_, h1.sq, by rw [← Option.some.inj h]; cases q <;> rfl⟩
  · obtain ⟨a, vs, rfl, h1, q⟩ := der_dic d
    exact .inr (.inr ⟨_, h1, by rw [← Option.some.inj h]; cases q <;> rfl⟩)
  · cases h
  · cases h
theorem tyName_some {T : String} (w : Wld K rho st H) (r : RelD K rho H x v) (h : tyName st x = some T) : TyX K H v (.type T) := by
  have d := deref_rel w r
  unfold tyName at h
  split at h <;> (rename_i e; rw [e] at d)
  · cases d; cases h; exact .base .non
  · cases d; cases h; exact .base (.bl _)
  · cases d; cases h; exact .base (.int _)
  · cases d; cases h; exact .base (.str _)
  · cases h
    cases d with
    | tup h1 q _ =>
      rcases h1 with (h1 | ⟨o, h1⟩) | ⟨o, its, n, h1, h2, _⟩
      · exact .base (.tup h1)
      · exact .fTuple h1
      · exact .kTuple h1 h2
  · cases h
    obtain ⟨a, vs, rfl, h1, q⟩ := der_lst d
    exact .base (.lst h1)
  · cases h
  · cases h
    obtain ⟨a, vs, rfl, h1, q⟩ := der_dic d
    exact .base (.dK h1)
  · cases h
  · cases h
theorem isInst_ok {T : String} (w : Wld K rho st H) (r : RelD K rho H x v) (h : OkR K cls W sg rho H (isInst T x st) (VQ K Q)) : rIsi K [v, .ty T] H Q := by
  unfold isInst at h
  split at h
  · rename_i a e
    split at h
    · rename_i b e2
      exact ⟨v, _, _, _, b, rfl, .ty T, tyName_some w r e, kit_ty e2, ok_here w h (.bl _)⟩
    · exact h.elim
  · exact h.elim
theorem lenD_some {n : Nat} (w : Wld K rho st H) (r : RelD K rho H x v) (h : lenD st x = some n) : LenV K v H n := by
  have d := deref_rel w r
  unfold lenD at h
  split at h <;> (rename_i e; try rw [e] at d)
  · split at h
    · cases d; exact ⟨by assumption, (Option.some.inj h).symm⟩
    · cases h
  · cases d with
    | tup h1 q _ => exact .inr ⟨_, h1, by rw [← Option.some.inj h, q.length]⟩
  · obtain ⟨a, vs, rfl, h1, q⟩ := der_lst d
    exact .inl ⟨_, SqL.of h1, by rw [← Option.some.inj h, q.length]⟩
  · cases d with
    | fz h1 q => exact .inl ⟨_, h1.sq, by rw [← Option.some.inj h, q.length]⟩
  · cases h
theorem atI_rel {ds : List D} {vs : List V} {i : Int} {d : D} (r : RelDs K rho H ds vs) (h : atI ds i = some d) : ∃ z, atI vs i = some z ∧ RelD K rho H d z := by
  unfold atI at h ⊢
  rw [← r.length]
  cases q : ixN ds.length i with
  | none => rw [q] at h; cases h
  | some j =>
    rw [q] at h
    exact r.get (show ds[j]? = some d from h)
end
end MI
namespace MI
open PySem PySem.Spec PyProof.Rows L2
variable [TC : TabsC]
def bLen (ds : List D) (st : Sto) : R D := match ds with
  | [d] => match lenD st d with
    | some n => .ok (.int n) st
    | none => match deref st d with
      | .dic kvs => .ok (.int kvs.length) st
      | _ => .stuck
  | _ => .stuck
def bAbs (ds : List D) (st : Sto) : R D := match ds with
  | [.int i] => .ok (.int (if i < 0 then -i else i)) st
  | _ => .stuck
def intSeq (st : Sto) (d : D) : Option (Int × List Int) := match deref st d with
  | .lst es => (match intsOf es with | some (n :: ns) => some (n, ns) | _ => none)
  | .tup es => (match intsOf es with | some (n :: ns) => some (n, ns) | _ => none)
  | _ => none
def bMin (ds : List D) (st : Sto) : R D := match ds with
  | [.int i, .int j] => .ok (.int (if j < i then j else i)) st
  | [d] => (match intSeq st d with | some (n, ns) => .ok (.int (ns.foldl min n)) st | none => .stuck)
  | _ => .stuck
def bMax (ds : List D) (st : Sto) : R D := match ds with
  | [.int i, .int j] => .ok (.int (if j > i then j else i)) st
  | [d] => (match intSeq st d with | some (n, ns) => .ok (.int (ns.foldl max n)) st | none => .stuck)
  | _ => .stuck
theorem foldl_max_ge : ∀ (ns : List Int) (n : Int), n ≤ ns.foldl max n ∧ ∀ y ∈ ns, y ≤ ns.foldl max n
  | [], n => ⟨Int.le_refl _, fun y hy => by cases hy⟩
  | m :: ns, n => by
    obtain ⟨h1, h2⟩ := foldl_max_ge ns (max n m)
    simp only [List.foldl_cons]
    refine ⟨by omega, fun y hy => ?_⟩
    rcases List.mem_cons.mp hy with rfl | hy
    · omega
    · exact h2 y hy
theorem foldl_max_mem : ∀ (ns : List Int) (n : Int), ns.foldl max n ∈ n :: ns
  | [], n => by simp
  | m :: ns, n => by
    have := foldl_max_mem ns (max n m)
    simp only [List.foldl_cons]
    rcases List.mem_cons.mp this with e | e
    · rw [e]
      by_cases h : n ≤ m
      · simp [Int.max_eq_right h]
      · simp [Int.max_eq_left (by omega : m ≤ n)]
    · simp [e]
theorem foldl_min_le : ∀ (ns : List Int) (n : Int), ns.foldl min n ≤ n ∧ ∀ y ∈ ns, ns.foldl min n ≤ y
  | [], n => ⟨Int.le_refl _, fun y hy => by cases hy⟩
  | m :: ns, n => by
    obtain ⟨h1, h2⟩ := foldl_min_le ns (min n m)
    simp only [List.foldl_cons]
    refine ⟨by omega, fun y hy => ?_⟩
    rcases List.mem_cons.mp hy with rfl | hy
    · omega
    · exact h2 y hy
theorem foldl_min_mem : ∀ (ns : List Int) (n : Int), ns.foldl min n ∈ n :: ns
  | [], n => by simp
  | m :: ns, n => by
    have := foldl_min_mem ns (min n m)
    simp only [List.foldl_cons]
    rcases List.mem_cons.mp this with e | e
    · rw [e]
      by_cases h : n ≤ m
      · simp [Int.min_eq_left h]
      · simp [Int.min_eq_right (by omega : m ≤ n)]
    · simp [e]
theorem max_eq {n m : Int} {ns : List Int} (h1 : m ∈ n :: ns) (h2 : ∀ y ∈ n :: ns, y ≤ m) : m = ns.foldl max n := by
  have a := h2 _ (foldl_max_mem ns n)
  have b : m ≤ ns.foldl max n := by
    rcases List.mem_cons.mp h1 with rfl | h
    · exact (foldl_max_ge ns m).1
    · exact (foldl_max_ge ns n).2 m h
  omega
theorem min_eq {n m : Int} {ns : List Int} (h1 : m ∈ n :: ns) (h2 : ∀ y ∈ n :: ns, m ≤ y) : m = ns.foldl min n := by
  have a := h2 _ (foldl_min_mem ns n)
  have b : ns.foldl min n ≤ m := by
    rcases List.mem_cons.mp h1 with rfl | h
    · exact (foldl_min_le ns m).1
    · exact (foldl_min_le ns n).2 m h
  omega
def bAll (ds : List D) (st : Sto) : R D := match ds with
  | [d] => match deref st d with
    | .lst es => match boolsOf es with
      | some bs => .ok (.bl (bs.all id)) st
      | none => .stuck
    | _ => .stuck
  | _ => .stuck
def bAny (ds : List D) (st : Sto) : R D := match ds with
  | [d] => match deref st d with
    | .lst es => match boolsOf es with
      | some bs => .ok (.bl (bs.any id)) st
      | none => .stuck
    | _ => .stuck
  | _ => .stuck
def bSum (ds : List D) (st : Sto) : R D := match ds with
  | [d] => match deref st d with
    | .lst es => match intsOf es with
      | some ns => .ok (.int ns.sum) st
      | none => .stuck
    | _ => .stuck
  | _ => .stuck
def seqOf (st : Sto) (d : D) : Option (List D) := match deref st d with
  | .lst es => some es
  | .fz es => some es
  | .tup es => some es
  | _ => none
def bTuple (ds : List D) (st : Sto) : R D := match ds with
  | [d] => match seqOf st d with
    | some es => .ok (.tup es) st
    | none => .stuck
  | _ => .stuck
def bList (ds : List D) (st : Sto) : R D := match ds with
  | [d] => match seqOf st d with
    | some es => .ok (.lst es) st
    | none => .stuck
  | _ => .stuck
def bListN (ds : List D) (st : Sto) : R D := match ds with
  | [d] => match seqOf st d with
    | some es => .ok (.ref st.length) (st ++ [.lst es])
    | none => .stuck
  | _ => .stuck
def bStr (ds : List D) (st : Sto) : R D := match ds with
  | [.int i] => if i.natAbs.log2 < 1920 then .ok (.str (toString i)) st else .stuck
  | _ => .stuck
def bOrd (ds : List D) (st : Sto) : R D := match ds with
  | [.str x] => if x.length = 1 then .ok (.int (x.cps.getD 0 0 : Nat)) st else .stuck
  | _ => .stuck
def sortI (ns : List Int) : List Int := ns.mergeSort (fun a b => decide (a ≤ b))
def bSorted (ds : List D) (st : Sto) : R D := match ds with
  | [d] => match deref st d with
    | .lst es => match intsOf es with
      | some ns => .ok (.lst ((sortI ns).map .int)) st
      | none => .stuck
    | _ => .stuck
  | _ => .stuck
section
variable {K : PySem.W.Frag} {cls : Nat → Value} {W : WX} {sg : L2.St} {rho : Rho} {st : Sto} {H : Hp} {Q : VK} {ds : List D} {vs : List V}
theorem relDs1 {d : D} (r : RelDs K rho H [d] vs) : ∃ v, vs = [v] ∧ RelD K rho H d v := by
  cases r with
  | cons h t => cases t; exact ⟨_, rfl, h⟩
theorem relDs2 {d e : D} (r : RelDs K rho H [d, e] vs) : ∃ v u, vs = [v, u] ∧ RelD K rho H d v ∧ RelD K rho H e u := by
  cases r with
  | cons h t =>
    obtain ⟨u, rfl, q⟩ := relDs1 t
    exact ⟨_, _, rfl, h, q⟩
theorem intsOf_rel : ∀ {ds : List D} {vs : List V} {ns : List Int}, RelDs K rho H ds vs → intsOf ds = some ns → vs = ns.map V.int
  | _, _, _, .nil, h => by cases h; rfl
  | d :: ds, _, ns, .cons h t, e => by
    cases d <;> simp only [intsOf, Option.map_eq_some_iff, reduceCtorEq] at e
    obtain ⟨ms, e, rfl⟩ := e
    cases h
    rw [intsOf_rel t e]
    rfl
theorem boolsOf_rel : ∀ {ds : List D} {vs : List V} {ns : List Bool}, RelDs K rho H ds vs → boolsOf ds = some ns → vs = ns.map V.bl
  | _, _, _, .nil, h => by cases h; rfl
  | d :: ds, _, ns, .cons h t, e => by
    cases d <;> simp only [boolsOf, Option.map_eq_some_iff, reduceCtorEq] at e
    obtain ⟨ms, e, rfl⟩ := e
    cases h
    rw [boolsOf_rel t e]
    rfl
theorem strsOf_rel : ∀ {ds : List D} {vs : List V} {ns : List Str}, RelDs K rho H ds vs → strsOf ds = some ns → vs = ns.map V.str
  | _, _, _, .nil, h => by cases h; rfl
  | d :: ds, _, ns, .cons h t, e => by
    cases d <;> simp only [strsOf, Option.map_eq_some_iff, reduceCtorEq] at e
    obtain ⟨ms, e, rfl⟩ := e
    cases h
    rw [strsOf_rel t e]
    rfl
theorem rel_ints (ns : List Int) : RelDs K rho H (ns.map D.int) (ns.map V.int) := by
  induction ns with
  | nil => exact .nil
  | cons n ns ih => exact .cons (.int n) ih
theorem seqOf_rel {d : D} {v : V} {es : List D} (w : Wld K rho st H) (r : RelD K rho H d v) (h : seqOf st d = some es) : ∃ a vs, v = .ref a ∧ RelDs K rho H es vs ∧ (SqL K H a vs ∨ SqT K H a vs) := by
  have q := deref_rel w r
  unfold seqOf at h
  split at h <;> (try rename_i e) <;> (try rw [e] at q)
  · obtain ⟨a, vs, rfl, h1, h2⟩ := der_lst q
    cases h
    exact ⟨a, vs, rfl, h2, .inl (SqL.of h1)⟩
  · cases h
    cases q with
    | fz h1 h2 => exact ⟨_, _, rfl, h2, .inl h1.sq⟩
  · cases h
    cases q with
    | tup h1 h2 _ => exact ⟨_, _, rfl, h2, .inr h1⟩
  · cases h
theorem seqOf_relK {d : D} {v : V} {es : List D} (w : Wld K rho st H) (r : RelD K rho H d v) (h : seqOf st d = some es) : ∃ a vs, v = .ref a ∧ RelDs K rho H es vs ∧ (SqL K H a vs ∨ (SqT K H a vs ∧ (keyT es = true → H a = some (.tup vs)))) := by
  have q := deref_rel w r
  unfold seqOf at h
  split at h <;> (try rename_i e) <;> (try rw [e] at q)
  · obtain ⟨a, vs, rfl, h1, h2⟩ := der_lst q
    cases h
    exact ⟨a, vs, rfl, h2, .inl (SqL.of h1)⟩
  · cases h
    cases q with
    | fz h1 h2 => exact ⟨_, _, rfl, h2, .inl h1.sq⟩
  · cases h
    cases q with
    | tup h1 h2 k => exact ⟨_, _, rfl, h2, .inr ⟨h1, k⟩⟩
  · cases h
def rLenA (K : PySem.W.Frag) : List V → Hp → VK → Prop := fun xs H Q => (∃ x n, xs = [x] ∧ LenV K x H n ∧ Q (.int n) H) ∨ (∃ a kvs, xs = [V.ref a] ∧ H a = some (.dK kvs) ∧ Q (.int kvs.length) H)
theorem CallR.or {X : Cx} {f : Value} {r r' : List V → Hp → VK → Prop} (h : CallR X f r) (h' : CallR X f r') : CallR X f (fun xs H Q => r xs H Q ∨ r' xs H Q) :=
  fun pins s sg H xs us Q I v q => q.elim (h pins s sg H xs us Q I v) (h' pins s sg H xs us Q I v)
theorem call_lenA {X : Cx} : CallR X (.builtin "len") (rLenA X.K) := CallR.or call_len call_lenD
theorem hop_len (w : Wld K rho st H) (r : RelDs K rho H ds vs) (h : OkR K cls W sg rho H (bLen ds st) (VQ K Q)) : rLenA K vs H Q := by
  unfold bLen at h
  split at h
  · replace r := relDs1 r; obtain ⟨v, rfl, r⟩ := r
    split at h
    · rename_i n e
      exact .inl ⟨v, n, rfl, lenD_some w r e, ok_here w h (.int _)⟩
    · have q := deref_rel w r
      split at h
      · rename_i e
        rw [e] at q
        obtain ⟨a, ks, rfl, h1, h2⟩ := der_dic q
        refine .inr ⟨a, ks, rfl, h1, ?_⟩
        rw [← h2.length]
        exact ok_here w h (.int _)
      · exact h.elim
  · exact h.elim
theorem hop_abs (w : Wld K rho st H) (r : RelDs K rho H ds vs) (h : OkR K cls W sg rho H (bAbs ds st) (VQ K Q)) : ∃ i, vs = [.int i] ∧ Q (.int (if i < 0 then -i else i)) H := by
  unfold bAbs at h
  split at h
  · replace r := relDs1 r; obtain ⟨v, rfl, r⟩ := r
    cases r
    exact ⟨_, rfl, ok_here w h (.int _)⟩
  · exact h.elim
theorem intSeq_rel {d : D} {v : V} {n : Int} {ns : List Int} (w : Wld K rho st H) (r : RelD K rho H d v) (h : intSeq st d = some (n, ns)) : ∃ a, v = .ref a ∧ (SqL K H a ((n :: ns).map V.int) ∨ SqT K H a ((n :: ns).map V.int)) := by
  have q := deref_rel w r
  unfold intSeq at h
  split at h
  · rename_i es e
    rw [e] at q
    obtain ⟨a, ks, rfl, h1, h2⟩ := der_lst q
    split at h
    · rename_i m ms e2
      cases h
      rw [intsOf_rel h2 e2] at h1
      exact ⟨a, rfl, .inl (SqL.of h1)⟩
    · cases h
  · rename_i es e
    rw [e] at q
    obtain ⟨a, ks, rfl, h1, h2⟩ := der_tup q
    split at h
    · rename_i m ms e2
      cases h
      rw [intsOf_rel h2 e2] at h1
      exact ⟨a, rfl, .inr h1⟩
    · cases h
  · cases h
def rMin2 : List V → Hp → VK → Prop := fun vs H Q => ∃ i j, vs = [.int i, .int j] ∧ Q (.int (if j < i then j else i)) H
def rMax2 : List V → Hp → VK → Prop := fun vs H Q => ∃ i j, vs = [.int i, .int j] ∧ Q (.int (if j > i then j else i)) H
def rMinA (K : PySem.W.Frag) : List V → Hp → VK → Prop := fun vs H Q => rMin2 vs H Q ∨ rMin K vs H Q ∨ MX.rMinT K vs H Q
def rMaxA (K : PySem.W.Frag) : List V → Hp → VK → Prop := fun vs H Q => rMax2 vs H Q ∨ rMax K vs H Q ∨ MX.rMaxT K vs H Q
theorem cr_minA {X : Cx} (hc : X.calm = true) : CallR X (.builtin "min") (rMinA X.K) := MX.CallR.or (call_min2 hc) (MX.CallR.or (cr_min hc) (MX.cr_minT hc))
theorem cr_maxA {X : Cx} (hc : X.calm = true) : CallR X (.builtin "max") (rMaxA X.K) := MX.CallR.or (call_max2 hc) (MX.CallR.or (cr_max hc) (MX.cr_maxT hc))
theorem hop_min (w : Wld K rho st H) (r : RelDs K rho H ds vs) (h : OkR K cls W sg rho H (bMin ds st) (VQ K Q)) : rMinA K vs H Q := by
  unfold bMin at h
  split at h
  · obtain ⟨v, u, rfl, r1, r2⟩ := relDs2 r
    cases r1; cases r2
    exact .inl ⟨_, _, rfl, ok_here w h (.int _)⟩
  · obtain ⟨v, rfl, r1⟩ := relDs1 r
    split at h
    · rename_i n ns e
      obtain ⟨a, rfl, q⟩ := intSeq_rel w r1 e
      rcases q with q | q
      · refine .inr (.inl ⟨a, n :: ns, rfl, q, by simp, fun m h1 h2 => ?_⟩)
        rw [min_eq h1 h2]
        exact ok_here w h (.int _)
      · refine .inr (.inr ⟨a, n :: ns, rfl, q, by simp, fun m h1 h2 => ?_⟩)
        rw [min_eq h1 h2]
        exact ok_here w h (.int _)
    · exact h.elim
  · exact h.elim
theorem hop_max (w : Wld K rho st H) (r : RelDs K rho H ds vs) (h : OkR K cls W sg rho H (bMax ds st) (VQ K Q)) : rMaxA K vs H Q := by
  unfold bMax at h
  split at h
  · obtain ⟨v, u, rfl, r1, r2⟩ := relDs2 r
    cases r1; cases r2
    exact .inl ⟨_, _, rfl, ok_here w h (.int _)⟩
  · obtain ⟨v, rfl, r1⟩ := relDs1 r
    split at h
    · rename_i n ns e
      obtain ⟨a, rfl, q⟩ := intSeq_rel w r1 e
      rcases q with q | q
      · refine .inr (.inl ⟨a, n :: ns, rfl, q, by simp, fun m h1 h2 => ?_⟩)
        rw [max_eq h1 h2]
        exact ok_here w h (.int _)
      · refine .inr (.inr ⟨a, n :: ns, rfl, q, by simp, fun m h1 h2 => ?_⟩)
        rw [max_eq h1 h2]
        exact ok_here w h (.int _)
    · exact h.elim
  · exact h.elim
theorem hop_all (w : Wld K rho st H) (r : RelDs K rho H ds vs) (h : OkR K cls W sg rho H (bAll ds st) (VQ K Q)) : rAll K vs H Q := by
  unfold bAll at h
  split at h
  · replace r := relDs1 r; obtain ⟨v, rfl, r⟩ := r
    have q := deref_rel w r
    split at h
    · rename_i e
      rw [e] at q
      obtain ⟨a, ks, rfl, h1, h2⟩ := der_lst q
      split at h
      · rename_i bs e2
        rw [boolsOf_rel h2 e2] at h1
        exact ⟨a, bs, rfl, SqL.of h1, ok_here w h (.bl _)⟩
      · exact h.elim
    · exact h.elim
  · exact h.elim
theorem hop_any (w : Wld K rho st H) (r : RelDs K rho H ds vs) (h : OkR K cls W sg rho H (bAny ds st) (VQ K Q)) : rAny K vs H Q := by
  unfold bAny at h
  split at h
  · replace r := relDs1 r; obtain ⟨v, rfl, r⟩ := r
    have q := deref_rel w r
    split at h
    · rename_i e
      rw [e] at q
      obtain ⟨a, ks, rfl, h1, h2⟩ := der_lst q
      split at h
      · rename_i bs e2
        rw [boolsOf_rel h2 e2] at h1
        exact ⟨a, bs, rfl, SqL.of h1, ok_here w h (.bl _)⟩
      · exact h.elim
    · exact h.elim
  · exact h.elim
theorem hop_sum (w : Wld K rho st H) (r : RelDs K rho H ds vs) (h : OkR K cls W sg rho H (bSum ds st) (VQ K Q)) : rSum K vs H Q := by
  unfold bSum at h
  split at h
  · replace r := relDs1 r; obtain ⟨v, rfl, r⟩ := r
    have q := deref_rel w r
    split at h
    · rename_i e
      rw [e] at q
      obtain ⟨a, ks, rfl, h1, h2⟩ := der_lst q
      split at h
      · rename_i bs e2
        rw [intsOf_rel h2 e2] at h1
        exact ⟨a, bs, rfl, SqL.of h1, ok_here w h (.int _)⟩
      · exact h.elim
    · exact h.elim
  · exact h.elim
theorem hop_tuple (w : Wld K rho st H) (r : RelDs K rho H ds vs) (h : OkR K cls W sg rho H (bTuple ds st) (VQ K Q)) : ∃ p ys, vs = [.ref p] ∧ ((SqL K H p ys ∧ ∀ l, H l = none → Q (.ref l) (upd H l (.tup ys))) ∨ (SqT K H p ys ∧ Q (.ref p) H)) := by
  unfold bTuple at h
  split at h
  · replace r := relDs1 r; obtain ⟨v, rfl, r⟩ := r
    split at h
    · rename_i es e
      obtain ⟨a, ks, rfl, h1, h2⟩ := seqOf_relK w r e
      rcases h2 with h2 | ⟨h2, kk⟩
      · exact ⟨a, ks, rfl, .inl ⟨h2, ok_tmp_tup w h h1⟩⟩
      · exact ⟨a, ks, rfl, .inr ⟨h2, ok_here w h (.tup h2 h1 kk)⟩⟩
    · exact h.elim
  · exact h.elim
theorem hop_list (w : Wld K rho st H) (r : RelDs K rho H ds vs) (h : OkR K cls W sg rho H (bList ds st) (VQ K Q)) : ∃ p ys, vs = [.ref p] ∧ (SqL K H p ys ∨ SqT K H p ys) ∧ ∀ l, H l = none → Q (.ref l) (upd H l (.lst ys)) := by
  unfold bList at h
  split at h
  · replace r := relDs1 r; obtain ⟨v, rfl, r⟩ := r
    split at h
    · rename_i es e
      obtain ⟨a, ks, rfl, h1, h2⟩ := seqOf_rel w r e
      exact ⟨a, ks, rfl, h2, ok_tmp_lst w h h1⟩
    · exact h.elim
  · exact h.elim
theorem ok_new_lst {es : List D} {ks : List V} (w : Wld K rho st H) (h : OkR K cls W sg rho H (.ok (.ref st.length) (st ++ [.lst es])) (VQ K Q)) (r : RelDs K rho H es ks) : ∀ p, H p = none → Q (.ref p) (upd H p (.lst ks)) := fun p hp =>
  h (rho.add p) _ (w.extNew hp _) (w.new hp ⟨ks, upd_same, r.ext (w.extNew hp _)⟩) _ (.ref (by rw [← w.len]; simp [Rho.add]))
def opAddN (x y : D) (st : Sto) : R D := match deref st x, deref st y with
  | .lst a, .lst b => if a.length + b.length ≤ sizeLine then .ok (.ref st.length) (st ++ [.lst (a ++ b)]) else .stuck
  | _, _ => .stuck
theorem hop_addN {x y : D} {v u : V} (w : Wld K rho st H) (r1 : RelD K rho H x v) (r2 : RelD K rho H y u) (h : OkR K cls W sg rho H (opAddN x y st) (VQ K Q)) : rAddA K v u H Q := by
  have d1 := deref_rel w r1
  have d2 := deref_rel w r2
  unfold opAddN at h
  split at h
  · rename_i e1 e2
    rw [e1] at d1
    rw [e2] at d2
    obtain ⟨a, vs, rfl, h1, q1⟩ := der_lst d1
    obtain ⟨b, ws, rfl, h2, q2⟩ := der_lst d2
    split at h
    · rename_i hl
      exact .inr (.inr (.inr (.inr ⟨a, b, vs, ws, rfl, rfl, h1, h2, by rw [← q1.length, ← q2.length]; exact hl, ok_new_lst w h (q1.append q2)⟩)))
    · exact h.elim
  · exact h.elim
theorem ok_new_dic {es : List (Key × D)} {ks : List (Key × V)} (w : Wld K rho st H) (h : OkR K cls W sg rho H (.ok (.ref st.length) (st ++ [.dic es])) (VQ K Q)) (r : RelK K rho H es ks) : ∀ p, H p = none → Q (.ref p) (upd H p (.dK ks)) := fun p hp =>
  h (rho.add p) _ (w.extNew hp _) (w.new hp ⟨ks, upd_same, r.ext (w.extNew hp _)⟩) _ (.ref (by rw [← w.len]; simp [Rho.add]))
theorem hop_listN (w : Wld K rho st H) (r : RelDs K rho H ds vs) (h : OkR K cls W sg rho H (bListN ds st) (VQ K Q)) : ∃ p ys, vs = [.ref p] ∧ (SqL K H p ys ∨ SqT K H p ys) ∧ ∀ l, H l = none → Q (.ref l) (upd H l (.lst ys)) := by
  unfold bListN at h
  split at h
  · replace r := relDs1 r; obtain ⟨v, rfl, r⟩ := r
    split at h
    · rename_i es e
      obtain ⟨a, ks, rfl, h1, h2⟩ := seqOf_rel w r e
      exact ⟨a, ks, rfl, h2, ok_new_lst w h h1⟩
    · exact h.elim
  · exact h.elim
theorem hop_str (w : Wld K rho st H) (r : RelDs K rho H ds vs) (h : OkR K cls W sg rho H (bStr ds st) (VQ K Q)) : ∃ i : Int, vs = [.int i] ∧ i.natAbs.log2 < 1920 ∧ Q (.str (toString i)) H := by
  unfold bStr at h
  split at h
  · replace r := relDs1 r; obtain ⟨v, rfl, r⟩ := r
    cases r
    split at h
    · exact ⟨_, rfl, by assumption, ok_here w h (.str _)⟩
    · exact h.elim
  · exact h.elim
theorem hop_ord (w : Wld K rho st H) (r : RelDs K rho H ds vs) (h : OkR K cls W sg rho H (bOrd ds st) (VQ K Q)) : ∃ x, vs = [.str x] ∧ x.length = 1 ∧ Q (.int (x.cps.getD 0 0 : Nat)) H := by
  unfold bOrd at h
  split at h
  · replace r := relDs1 r; obtain ⟨v, rfl, r⟩ := r
    cases r
    split at h
    · exact ⟨_, rfl, by assumption, ok_here w h (.int _)⟩
    · exact h.elim
  · exact h.elim
theorem sortI_eq {ns ms : List Int} (p : ms.Perm ns) (s : ms.Pairwise (· ≤ ·)) : ms = sortI ns := by
  have h1 : (sortI ns).Pairwise (fun a b => (decide (a ≤ b)) = true) := List.pairwise_mergeSort (le := fun a b => decide (a ≤ b)) (fun a b c h1 h2 => by simp at *; omega) (fun a b => by simp; omega) ns
  have h2 : (sortI ns).Pairwise (· ≤ ·) := h1.imp fun h => by simpa using h
  exact List.Perm.eq_of_pairwise (fun a b _ _ h1 h2 => by omega) s h2 (p.trans (List.mergeSort_perm ns _).symm)
theorem hop_sorted (w : Wld K rho st H) (r : RelDs K rho H ds vs) (h : OkR K cls W sg rho H (bSorted ds st) (VQ K Q)) : rSortedI K vs H Q := by
  unfold bSorted at h
  split at h
  · replace r := relDs1 r; obtain ⟨v, rfl, r⟩ := r
    have q := deref_rel w r
    split at h
    · rename_i e
      rw [e] at q
      obtain ⟨a, ks, rfl, h1, h2⟩ := der_lst q
      split at h
      · rename_i bs e2
        rw [intsOf_rel h2 e2] at h1
        refine ⟨a, bs, rfl, SqL.of h1, fun ns' p pm sr hp => ?_⟩
        have e3 : ns' = sortI bs := sortI_eq pm sr
        subst e3
        exact ok_tmp_lst w h (rel_ints _) p hp
      · exact h.elim
    · exact h.elim
  · exact h.elim
end
def isLst (st : Sto) (d : D) : Bool := match deref st d with
  | .lst _ => true
  | _ => false
def mAppend (d : D) (ds : List D) (st : Sto) : R D := match d, ds with
  | .ref l, [y] => match st[l]? with
    | some (.lst xs) => if xs.length < sizeLine then .ok .non (st.set l (.lst (xs ++ [y]))) else .stuck
    | _ => .stuck
  | _, _ => .stuck
def mPop (d : D) (ds : List D) (st : Sto) : R D := match d, ds with
  | .ref l, [] => match st[l]? with
    | some (.lst xs) => match xs[xs.length - 1]? with
      | some y => .ok y (st.set l (.lst xs.dropLast))
      | none => .stuck
    | _ => .stuck
  | .ref l, [.int i] => match st[l]? with
    | some (.lst xs) => if -(2 ^ 63) ≤ i ∧ i < 2 ^ 63 then (match seqIndex? i xs.length with
      | some k => (match xs[k]? with
        | some y => .ok y (st.set l (.lst (xs.eraseIdx k)))
        | none => .stuck)
      | none => .stuck) else .stuck
    | _ => .stuck
  | _, _ => .stuck
def mExtend (d : D) (ds : List D) (st : Sto) : R D := match d, ds with
  | .ref l, [y] => match st[l]?, deref st y with
    | some (.lst xs), .lst ys => if xs.length + ys.length ≤ sizeLine then .ok .non (st.set l (.lst (xs ++ ys))) else .stuck
    | some (.lst xs), .tup ys => if xs.length + ys.length ≤ sizeLine then .ok .non (st.set l (.lst (xs ++ ys))) else .stuck
    | _, _ => .stuck
  | _, _ => .stuck
def mReverse (d : D) (ds : List D) (st : Sto) : R D := match d, ds with
  | .ref l, [] => match st[l]? with
    | some (.lst xs) => .ok .non (st.set l (.lst xs.reverse))
    | _ => .stuck
  | _, _ => .stuck
def mMethL (f : D → List D → Sto → R D) (o : ME) (es : List ME) : ME := fun env st => (o env st).bind fun d st => if isLst st d = true then (mArgs es env st).bind fun ds st => f d ds st else .stuck
section
variable {K : PySem.W.Frag} {cls : Nat → Value} {W : WX} {sg : L2.St} {rho : Rho} {st : Sto} {H : Hp} {Q : VK} {d : D} {v : V} {ds : List D} {vs : List V}
theorem isLst_ok (w : Wld K rho st H) (r : RelD K rho H d v) (h : isLst st d = true) : tyV K "list" v H := by
  have q := deref_rel w r
  unfold isLst at h
  split at h
  · rename_i e
    rw [e] at q
    obtain ⟨a, ks, rfl, h1, h2⟩ := der_lst q
    exact .inl ⟨rfl, _, SqL.of h1⟩
  · cases h
theorem ref_lst {l : Nat} {xs : List D} (w : Wld K rho st H) (r : RelD K rho H (.ref l) v) (e : st[l]? = some (.lst xs)) : ∃ a ks, v = .ref a ∧ rho.loc[l]? = some a ∧ H a = some (.lst ks) ∧ RelDs K rho H xs ks := by
  cases r with
  | ref h =>
    obtain ⟨ks, h1, h2⟩ := w.obj l _ _ h e
    exact ⟨_, ks, rfl, h, h1, h2⟩
theorem ref_dic {l : Nat} {xs : List (Key × D)} (w : Wld K rho st H) (r : RelD K rho H (.ref l) v) (e : st[l]? = some (.dic xs)) : ∃ a ks, v = .ref a ∧ rho.loc[l]? = some a ∧ H a = some (.dK ks) ∧ RelK K rho H xs ks := by
  cases r with
  | ref h =>
    obtain ⟨ks, h1, h2⟩ := w.obj l _ _ h e
    exact ⟨_, ks, rfl, h, h1, h2⟩
theorem ok_set_lst {l : Nat} {a : Addr} {es : List D} {ks : List V} {d : D} {v : V} (w : Wld K rho st H) (h : OkR K cls W sg rho H (.ok d (st.set l (.lst es))) (VQ K Q)) (ha : rho.loc[l]? = some a) (mu : Mut (H a)) (r : RelDs K rho H es ks) (rd : RelD K rho H d v) : Q v (upd H a (.lst ks)) :=
  h rho _ (w.extSet ha _ mu) (w.set ha mu ⟨ks, upd_same, r.ext (w.extSet ha _ mu)⟩) _ (rd.ext (w.extSet ha _ mu))
theorem ok_set_dic {l : Nat} {a : Addr} {es : List (Key × D)} {ks : List (Key × V)} {d : D} {v : V} (w : Wld K rho st H) (h : OkR K cls W sg rho H (.ok d (st.set l (.dic es))) (VQ K Q)) (ha : rho.loc[l]? = some a) (mu : Mut (H a)) (r : RelK K rho H es ks) (rd : RelD K rho H d v) : Q v (upd H a (.dK ks)) :=
  h rho _ (w.extSet ha _ mu) (w.set ha mu ⟨ks, upd_same, r.ext (w.extSet ha _ mu)⟩) _ (rd.ext (w.extSet ha _ mu))
theorem hop_append (w : Wld K rho st H) (r : RelD K rho H d v) (rs : RelDs K rho H ds vs) (h : OkR K cls W sg rho H (mAppend d ds st) (VQ K Q)) : rAppend v vs H Q := by
  unfold mAppend at h
  split at h
  · obtain ⟨u, rfl, ru⟩ := relDs1 rs
    split at h
    · rename_i e
      obtain ⟨a, ks, rfl, ha, h1, h2⟩ := ref_lst w r e
      split at h
      · exact ⟨a, ks, u, rfl, rfl, h1, by rw [← h2.length]; assumption, ok_set_lst w h ha (by rw [h1]; trivial) (h2.append (.cons ru .nil)) .non⟩
      · exact h.elim
    · exact h.elim
  · exact h.elim
theorem relDs_eraseIdx : ∀ {ds : List D} {vs : List V} (n : Nat), RelDs K rho H ds vs → RelDs K rho H (ds.eraseIdx n) (vs.eraseIdx n)
  | _, _, _, .nil => by simp; exact .nil
  | _, _, 0, .cons _ t => by simpa using t
  | _, _, n + 1, .cons h t => by simpa using RelDs.cons h (relDs_eraseIdx n t)
theorem relDs_dropLast {ds : List D} {vs : List V} (r : RelDs K rho H ds vs) : RelDs K rho H ds.dropLast vs.dropLast := by
  rw [List.dropLast_eq_take, List.dropLast_eq_take, r.length]
  exact r.take _
theorem relDs_reverse : ∀ {ds : List D} {vs : List V}, RelDs K rho H ds vs → RelDs K rho H ds.reverse vs.reverse
  | _, _, .nil => .nil
  | _, _, .cons h t => by
    rw [List.reverse_cons, List.reverse_cons]
    exact (relDs_reverse t).append (.cons h .nil)
def rPopA : V → List V → Hp → VK → Prop := fun x xs H Q => rPop x xs H Q ∨ rPopAt x xs H Q
theorem MtM.or {X : Cx} {id : String} {r r' : V → List V → Hp → VK → Prop} (h : MtM X id r) (h' : MtM X id r') : MtR X id (fun x xs H Q => r x xs H Q ∨ r' x xs H Q) :=
  fun pins s sg H x xs v us Q I rx rs q => q.elim (h pins s sg H x xs v us Q I rx rs) (h' pins s sg H x xs v us Q I rx rs)
theorem mt_popA {X : Cx} : MtR X "list.pop" rPopA := MtM.or mt_pop mt_popAt
theorem hop_pop (w : Wld K rho st H) (r : RelD K rho H d v) (rs : RelDs K rho H ds vs) (h : OkR K cls W sg rho H (mPop d ds st) (VQ K Q)) : rPopA v vs H Q := by
  unfold mPop at h
  split at h
  · cases rs
    split at h
    · rename_i e
      obtain ⟨a, ks, rfl, ha, h1, h2⟩ := ref_lst w r e
      split at h
      · rename_i y hy
        obtain ⟨u, hu, ru⟩ := h2.get hy
        exact .inl ⟨a, ks, u, rfl, rfl, h1, by rw [← h2.length]; exact hu, ok_set_lst w h ha (by rw [h1]; trivial) (relDs_dropLast h2) ru⟩
      · exact h.elim
    · exact h.elim
  · obtain ⟨u0, rfl, ru0⟩ := relDs1 rs
    cases ru0
    split at h
    · rename_i e
      obtain ⟨a, ks, rfl, ha, h1, h2⟩ := ref_lst w r e
      split at h
      · rename_i hb
        split at h
        · rename_i k hk
          split at h
          · rename_i y hy
            obtain ⟨u, hu, ru⟩ := h2.get hy
            exact .inr ⟨a, ks, _, k, u, rfl, rfl, h1, hb.1, hb.2, by rw [← h2.length]; exact hk, hu, ok_set_lst w h ha (by rw [h1]; trivial) (relDs_eraseIdx k h2) ru⟩
          · exact h.elim
        · exact h.elim
      · exact h.elim
    · exact h.elim
  · exact h.elim
def rExtendT (K : PySem.W.Frag) : V → List V → Hp → VK → Prop := fun x vs H Q => ∃ l b xs zs, x = .ref l ∧ vs = [.ref b] ∧ H l = some (.lst xs) ∧ SqT K H b zs ∧ xs.length + zs.length ≤ sizeLine ∧ Q .non (upd H l (.lst (xs ++ zs)))
theorem mt_extendT {X : Cx} : MtM X "list.extend" (rExtendT X.K) := by
  intro pins s σ H x vs v us Q I rx rv h
  obtain ⟨l, b, xs, zs, rfl, rfl, hH, hB, hz, q⟩ := h
  cases rx
  obtain ⟨u, rfl, ru⟩ := rv.one
  cases ru
  obtain ⟨z, its, n, r, hl, e⟩ := I.lstM hH
  obtain ⟨its2, r2, ⟨o2, e2, hc2, n2, hd2⟩, z2⟩ := I.tuple hB
  have hl2 := r2.length
  have hsz : its.toArray.size + its2.toArray.size ≤ sizeLine := by rw [List.size_toArray, List.size_toArray]; omega
  have hlong : (!its.toArray.isEmpty && Builtin.List.listTooLong (its.toArray.size + its2.toArray.size)) = false := by
    rw [notLongL hsz, Bool.and_false]
  refine wpAny_call_entry PySem.F.slot_list_extend ⟨_, e, rfl⟩ PySem.F.entry_list_extend ?_ (PySem.F.args_list_extend_2 _ _)
  unfold Builtin.«list.extend»
  refine wpAny_bind (wpAny_pure ?_)
  show wpAny _ _ (Builtin.List.listExtendWith (.ref l) (.ref b) .none) _ _ s
  unfold Builtin.List.listExtendWith
  refine wpAny_bind (wpAny_typeOf ⟨o2, e2, hc2⟩ ?_)
  have h1 : (Builtin.List.listSameRef (.ref l) (.ref b) || Value.type "tuple" == Value.type "list" || Value.type "tuple" == Value.type "tuple") = true := by simp
  simp only [h1, if_true]
  refine wpAny_bind (PyProof.Rows.listItems_at e2 hd2 ?_)
  refine wpAny_bind (PyProof.Rows.listItems_at e rfl ?_)
  simp only [hlong, Bool.false_eq_true, if_false]
  refine wpAny_bind (PyProof.Rows.listUpdate_at e rfl ?_ (by rw [List.size_toArray]; omega) (by rw [Array.size_append]; omega))
  refine wpAny_pure ⟨_, rfl, ?_⟩
  refine ⟨.non, _, I.lset (its' := its ++ its2) hH e (by simp) (r.append r2) ?_, rfl, q⟩
  rw [List.length_append]
  omega
def rExtendA (K : PySem.W.Frag) : V → List V → Hp → VK → Prop := fun x vs H Q => rExtend x vs H Q ∨ rExtendT K x vs H Q
theorem mt_extendA {X : Cx} : MtR X "list.extend" (rExtendA X.K) := MtM.or mt_extend mt_extendT
theorem hop_extend (w : Wld K rho st H) (r : RelD K rho H d v) (rs : RelDs K rho H ds vs) (h : OkR K cls W sg rho H (mExtend d ds st) (VQ K Q)) : rExtendA K v vs H Q := by
  unfold mExtend at h
  split at h
  · obtain ⟨u, rfl, ru⟩ := relDs1 rs
    have q := deref_rel w ru
    split at h
    · rename_i e1 e2
      rw [e2] at q
      obtain ⟨b, ls, rfl, h3, h4⟩ := der_lst q
      obtain ⟨a, ks, rfl, ha, h1, h2⟩ := ref_lst w r e1
      split at h
      · exact .inl ⟨a, b, ks, ls, rfl, rfl, h1, h3, by rw [← h2.length, ← h4.length]; assumption, ok_set_lst w h ha (by rw [h1]; trivial) (h2.append h4) .non⟩
      · exact h.elim
    · rename_i e1 e2
      rw [e2] at q
      obtain ⟨b, ls, rfl, h3, h4⟩ := der_tup q
      obtain ⟨a, ks, rfl, ha, h1, h2⟩ := ref_lst w r e1
      split at h
      · exact .inr ⟨a, b, ks, ls, rfl, rfl, h1, h3, by rw [← h2.length, ← h4.length]; assumption, ok_set_lst w h ha (by rw [h1]; trivial) (h2.append h4) .non⟩
      · exact h.elim
    · exact h.elim
  · exact h.elim
theorem hop_reverse (w : Wld K rho st H) (r : RelD K rho H d v) (rs : RelDs K rho H ds vs) (h : OkR K cls W sg rho H (mReverse d ds st) (VQ K Q)) : rReverse v vs H Q := by
  unfold mReverse at h
  split at h
  · cases rs
    split at h
    · rename_i e
      obtain ⟨a, ks, rfl, ha, h1, h2⟩ := ref_lst w r e
      exact ⟨a, ks, rfl, rfl, h1, ok_set_lst w h ha (by rw [h1]; trivial) (relDs_reverse h2) .non⟩
    · exact h.elim
  · exact h.elim
end
end MI
namespace MI
open PySem PySem.Spec PyProof.Rows L2
variable [TC : TabsC]
def plainE : Expr → Bool
  | .Starred .. => false
  | _ => true
def noComp : Expr → Bool
  | .ListComp .. => false
  | .SetComp .. => false
  | .DictComp .. => false
  | _ => true
def noSlice : Expr → Bool
  | .Slice .. => false
  | _ => true
def noSet : Expr → Bool
  | .Set .. => false
  | _ => true
def noTuple : Expr → Bool
  | .Tuple .. => false
  | _ => true
theorem star_plain {e : Expr} {es : List Expr} {env : Env} (h : plainE e = true) : starEach (e :: es) env = (false, eval e env) :: starEach es env := by
  cases e <;> first | rfl | cases h
theorem star_any : ∀ {es : List Expr} {env : Env} {pos : Pos}, es.all plainE = true → (backTo pos (starEach es env)).any (·.1) = false
  | [], _, _, _ => rfl
  | e :: es, env, pos, h => by
    simp only [List.all_cons, Bool.and_eq_true] at h
    have ih := star_any (env := env) (pos := pos) h.2
    unfold backTo at ih ⊢
    rw [star_plain h.1]
    simp only [List.any_map, List.map_cons, List.any_cons] at ih ⊢
    simpa using ih
theorem swaps_no {e : Expr} {t : Option Expr} {l : Nat} {env : Env} (h : noComp e = true) : swapsWith e t l env = pure false := by
  cases e <;> first | rfl | cases h
section
variable {X : Cx} {cls : Nat → Value} {W : WX} {pos : Pos} {a b c e : Expr} {ma mb mc m : ME}
theorem tE_bin {K : PySem.W.Frag} {r : R2} {f : D → D → Sto → R D} (hop : ∀ {sg : L2.St} {rho : Rho} {st : Sto} {H : Hp} {Q : VK} {x y : D} {v u : V}, Wld K rho st H → RelD K rho H x v → RelD K rho H y u → OkR K cls W sg rho H (f x y st) (VQ K Q) → r v u H Q)
    {sg : L2.St} {H : Hp} {Q : VK} (h : tE K cls W (mBin f ma mb) sg H Q) : tOp r (tE K cls W ma) (tE K cls W mb) sg H Q := by
  obtain ⟨rho, env, st, w, re, h⟩ := h
  refine ⟨rho, env, st, w, re, OkR.mono (OkR.bind h) fun d1 st1 rho1 H1 e1 w1 h1 v1 rv1 => ?_⟩
  exact ⟨rho1, env, st1, w1, re.ext e1, OkR.mono (OkR.bind h1) fun d2 st2 rho2 H2 e2 w2 h2 v2 rv2 => hop w2 (rv1.ext e2) rv2 h2⟩
theorem pe_binM {op : Operator} {r : R2} {f : D → D → Sto → R D} (ho : OpR X (binaryOp op) r) (hop : ∀ {sg : L2.St} {rho : Rho} {st : Sto} {H : Hp} {Q : VK} {x y : D} {v u : V}, Wld X.K rho st H → RelD X.K rho H x v → RelD X.K rho H y u → OkR X.K cls W sg rho H (f x y st) (VQ X.K Q) → r v u H Q)
    (ha : PE X a (tE X.K cls W ma)) (hb : PE X b (tE X.K cls W mb)) : PE X (.BinOp a op b pos) (tE X.K cls W (mBin f ma mb)) := PE.weak (pe_op ho ha hb) fun _ _ _ h => tE_bin hop h
theorem pe_cmpM {op : CmpOp} {r : R2} {f : D → D → Sto → R D} (ho : OpR X (compareOp op) r) (hop : ∀ {sg : L2.St} {rho : Rho} {st : Sto} {H : Hp} {Q : VK} {x y : D} {v u : V}, Wld X.K rho st H → RelD X.K rho H x v → RelD X.K rho H y u → OkR X.K cls W sg rho H (f x y st) (VQ X.K Q) → r v u H Q)
    (hm : behindInMarks op b = false) (ha : PE X a (tE X.K cls W ma)) (hb : PE X b (tE X.K cls W mb)) : PE X (.Compare a [op] [b] pos) (tE X.K cls W (mBin f ma mb)) := PE.weak (pe_cmpR ho ha hb hm) fun _ _ _ h => tE_bin hop h
theorem tT_of {K : PySem.W.Frag} {t : TE} {sg : L2.St} {H : Hp} {Q : Bool → Hp → Prop} (hb : ∀ env st d st', m env st = .ok d st' → ∃ k, d = .bl k) (f : ∀ {Q : VK}, tE K cls W m sg H Q → t sg H Q) (h : tTm K cls W m sg H Q) : tTest t sg H Q := by
  obtain ⟨rho, env, st, w, re, h⟩ := h
  refine f ⟨rho, env, st, w, re, ?_⟩
  unfold mT at h
  have hb' := hb env st
  cases q : m env st with
  | ok d st' =>
    obtain ⟨k, rfl⟩ := hb' d st' q
    rw [q] at h
    intro rho' H' e' w' v rv
    cases rv
    exact ⟨k, rfl, h rho' H' e' w'⟩
  | exc c' st' => rw [q] at h; exact h
  | stuck => rw [q] at h; exact h
theorem pt_cmpM {op : CmpOp} {r : R2} {f : D → D → Sto → R D} (ho : OpR X (compareOp op) r) (hop : ∀ {sg : L2.St} {rho : Rho} {st : Sto} {H : Hp} {Q : VK} {x y : D} {v u : V}, Wld X.K rho st H → RelD X.K rho H x v → RelD X.K rho H y u → OkR X.K cls W sg rho H (f x y st) (VQ X.K Q) → r v u H Q)
    (hf : ∀ x y st d st', f x y st = .ok d st' → ∃ k, d = .bl k) (hm : behindInMarks op b = false) (ha : PE X a (tE X.K cls W ma)) (hb : PE X b (tE X.K cls W mb)) : PT X (.Compare a [op] [b] pos) (tTm X.K cls W (mBin f ma mb)) := by
  refine PT.weak (pt_cmpR ho ha hb hm) fun sg H Q h => tT_of (m := mBin f ma mb) (fun env st d st' q => ?_) (fun h => tE_bin hop h) h
  unfold mBin at q
  cases q1 : ma env st with
  | ok d1 st1 =>
    rw [q1] at q
    simp only [R.bind_ok] at q
    cases q2 : mb env st1 with
    | ok d2 st2 => rw [q2] at q; exact hf _ _ _ _ _ q
    | exc c' st' => rw [q2] at q; cases q
    | stuck => rw [q2] at q; cases q
  | exc c' st' => rw [q1] at q; cases q
  | stuck => rw [q1] at q; cases q
theorem pt_any (h : PE X e (tE X.K cls W m)) (he : ∀ whole, isTrue e X.env whole = (do let v ← whole; standAt e.pos; holding [v] (truthy v))) : PT X e (tTm X.K cls W m) := by
  refine PT.weak (pt_truth h he) fun sg H Q hq => ?_
  obtain ⟨rho, env, st, w, re, hq⟩ := hq
  refine ⟨rho, env, st, w, re, OkR.mono (OkR.bind hq) fun d st1 rho1 H1 e1 w1 h1 v rv => ?_⟩
  split at h1
  · rename_i k ek
    exact ⟨k, truth_some w1 rv ek, OkR.ok h1 w1⟩
  · exact h1.elim
theorem pe_varM {i : Nat} {x : Str} (hN : X.N[i]? = some x) (hv : Vis X.env.scope x) (hd : (x == ("__debug__" : Str)) = false) (hcd : (x == ("__classdict__" : Str)) = false) : PE X (.Name x pos) (tE X.K cls W (mVar i)) := by
  refine PE.weak (pe_var hN hv hd hcd) fun sg H Q h => ?_
  obtain ⟨rho, env, st, w, re, h⟩ := h
  unfold mVar at h
  split at h
  · rename_i d hd
    obtain ⟨v, h1, h2⟩ := re.at_ i d hd
    exact ⟨v, h1, ok_here w h h2⟩
  · exact h.elim
theorem tE_const {K : PySem.W.Frag} {d : D} {v : V} (r : ∀ rho H, RelD K rho H d v) {sg : L2.St} {H : Hp} {Q : VK} (h : tE K cls W (mC d) sg H Q) : tC v sg H Q := by
  obtain ⟨rho, env, st, w, re, h⟩ := h
  exact ok_here w h (r rho H)
theorem pe_globM {x : Str} {d : D} {v : V} {u : Value} (hg : Gl X x) (hm : X.mg x = some u) (rv : RelV v u) (r : ∀ rho H, RelD X.K rho H d v) (hd : (x == ("__debug__" : Str)) = false) : PE X (.Name x pos) (tE X.K cls W (mC d)) :=
  PE.weak (pe_glob hg hm rv hd) fun _ _ _ h => tE_const r h
theorem pe_negM (ha : PE X a (tE X.K cls W ma)) : PE X (.UnaryOp .USub a pos) (tE X.K cls W (mNeg ma)) := by
  refine PE.weak (pe_un un_neg ha) fun sg H Q h => ?_
  obtain ⟨rho, env, st, w, re, h⟩ := h
  refine ⟨rho, env, st, w, re, OkR.mono (OkR.bind h) fun d st1 rho1 H1 e1 w1 h1 v rv => ?_⟩
  split at h1
  · cases rv
    exact ⟨_, rfl, ok_here w1 h1 (.int _)⟩
  · exact h1.elim
theorem pe_notM (ha : PE X a (tE X.K cls W ma)) : PE X (.UnaryOp .Not a pos) (tE X.K cls W (mNot ma)) := by
  refine PE.weak (pe_not ha) fun sg H Q h => ?_
  obtain ⟨rho, env, st, w, re, h⟩ := h
  refine ⟨rho, env, st, w, re, OkR.mono (OkR.bind h) fun d st1 rho1 H1 e1 w1 h1 v rv => ?_⟩
  split at h1
  · cases rv
    exact ⟨_, rfl, ok_here w1 h1 (.bl _)⟩
  · exact h1.elim
theorem pt_notM (ha : PT X a (tTm X.K cls W ma)) : PT X (.UnaryOp .Not a pos) (tTm X.K cls W (mNot ma)) := by
  refine PT.weak (pt_not ha) fun sg H Q h => ?_
  obtain ⟨rho, env, st, w, re, h⟩ := h
  refine ⟨rho, env, st, w, re, ?_⟩
  unfold mT mNot at h
  unfold mT
  cases q : ma env st with
  | ok d st' =>
    rw [q] at h
    cases d with
    | bl k => exact h
    | _ => exact h.elim
  | exc c' st' => rw [q] at h; exact h
  | stuck => rw [q] at h; exact h
theorem pe_andM {rest : List Expr} (ha : PE X a (tE X.K cls W ma)) (hb : PE X (.BoolOp .And (b :: rest) pos) (tE X.K cls W mb)) : PE X (.BoolOp .And (a :: b :: rest) pos) (tE X.K cls W (mAnd ma mb)) := by
  refine PE.weak (pe_and ha hb) fun sg H Q h => ?_
  obtain ⟨rho, env, st, w, re, h⟩ := h
  refine ⟨rho, env, st, w, re, OkR.mono (OkR.bind h) fun d st1 rho1 H1 e1 w1 h1 v rv => ?_⟩
  split at h1
  · cases rv
    exact ⟨true, rfl, by rw [if_pos rfl]; exact ⟨rho1, env, st1, w1, re.ext e1, h1⟩⟩
  · cases rv
    exact ⟨false, rfl, by rw [if_neg (by simp)]; exact ok_here w1 h1 (.bl _)⟩
  · exact h1.elim
theorem pe_orM {rest : List Expr} (ha : PE X a (tE X.K cls W ma)) (hb : PE X (.BoolOp .Or (b :: rest) pos) (tE X.K cls W mb)) : PE X (.BoolOp .Or (a :: b :: rest) pos) (tE X.K cls W (mOr ma mb)) := by
  refine PE.weak (pe_or ha hb) fun sg H Q h => ?_
  obtain ⟨rho, env, st, w, re, h⟩ := h
  refine ⟨rho, env, st, w, re, OkR.mono (OkR.bind h) fun d st1 rho1 H1 e1 w1 h1 v rv => ?_⟩
  split at h1
  · cases rv
    exact ⟨true, rfl, by rw [if_pos rfl]; exact ok_here w1 h1 (.bl _)⟩
  · cases rv
    exact ⟨false, rfl, by rw [if_neg (by simp)]; exact ⟨rho1, env, st1, w1, re.ext e1, h1⟩⟩
  · exact h1.elim
theorem pw_andM {rest : List Expr} (ha : PT X a (tTm X.K cls W ma)) (hb : PW X (.BoolOp .And (b :: rest) pos) (tTm X.K cls W mb)) : PW X (.BoolOp .And (a :: b :: rest) pos) (tTm X.K cls W (mAnd ma mb)) := by
  refine PW.weak (pw_and ha hb) fun sg H Q h => ?_
  obtain ⟨rho, env, st, w, re, h⟩ := h
  refine ⟨rho, env, st, w, re, ?_⟩
  unfold mT mAnd at h
  unfold mT
  cases q : ma env st with
  | ok d st' =>
    rw [q] at h
    cases d with
    | bl k =>
      intro rho1 H1 e1 w1
      cases k with
      | true => rw [if_pos rfl]; exact ⟨rho1, env, st', w1, re.ext e1, OkR.from h e1⟩
      | false => rw [if_neg (by simp)]; exact h rho1 H1 e1 w1
    | _ => exact h.elim
  | exc c' st' => rw [q] at h; exact h
  | stuck => rw [q] at h; exact h
theorem pw_orM {rest : List Expr} (ha : PT X a (tTm X.K cls W ma)) (hb : PW X (.BoolOp .Or (b :: rest) pos) (tTm X.K cls W mb)) : PW X (.BoolOp .Or (a :: b :: rest) pos) (tTm X.K cls W (mOr ma mb)) := by
  refine PW.weak (pw_or ha hb) fun sg H Q h => ?_
  obtain ⟨rho, env, st, w, re, h⟩ := h
  refine ⟨rho, env, st, w, re, ?_⟩
  unfold mT mOr at h
  unfold mT
  cases q : ma env st with
  | ok d st' =>
    rw [q] at h
    cases d with
    | bl k =>
      intro rho1 H1 e1 w1
      cases k with
      | true => rw [if_pos rfl]; exact h rho1 H1 e1 w1
      | false => rw [if_neg (by simp)]; exact ⟨rho1, env, st', w1, re.ext e1, OkR.from h e1⟩
    | _ => exact h.elim
  | exc c' st' => rw [q] at h; exact h
  | stuck => rw [q] at h; exact h
theorem pe_ifM (hc : PT X c (tTm X.K cls W mc)) (ha : PE X a (tE X.K cls W ma)) (hb : PE X b (tE X.K cls W mb)) : PE X (.IfExp c a b pos) (tE X.K cls W (mIfE mc ma mb)) := by
  refine PE.weak (pe_ifExp hc ha hb) fun sg H Q h => ?_
  obtain ⟨rho, env, st, w, re, h⟩ := h
  refine ⟨rho, env, st, w, re, OkR.mono (OkR.bind h) fun k st1 rho1 H1 e1 w1 h1 => ?_⟩
  cases k with
  | true => rw [if_pos rfl] at h1 ⊢; exact ⟨rho1, env, st1, w1, re.ext e1, h1⟩
  | false => rw [if_neg (by simp)] at h1 ⊢; exact ⟨rho1, env, st1, w1, re.ext e1, h1⟩
theorem pa_nilM : PA X [] (tAm X.K cls W []) := PA.weak pa_nil fun sg H Q h => by
  obtain ⟨rho, env, st, w, re, h⟩ := h
  exact h rho H (Ext.refl rho H) w [] .nil
theorem pa_consM {es : List Expr} {ms : List ME} (hp : plainE e = true) (he : PE X e (tE X.K cls W m)) (hs : PA X es (tAm X.K cls W ms)) : PA X (e :: es) (tAm X.K cls W (m :: ms)) := by
  refine PA.weak (pa_cons he hs (star_plain hp)) fun sg H Q h => ?_
  obtain ⟨rho, env, st, w, re, h⟩ := h
  refine ⟨rho, env, st, w, re, OkR.mono (OkR.bind h) fun d st1 rho1 H1 e1 w1 h1 v rv => ?_⟩
  refine ⟨rho1, env, st1, w1, re.ext e1, OkR.mono (OkR.bind h1) fun ds st2 rho2 H2 e2 w2 h2 vs rvs => ?_⟩
  exact OkR.ok h2 w2 (v :: vs) (.cons (rv.ext e2) rvs)
theorem pe_tupM {es : List Expr} {ms : List ME} {x1 : Nat} (h : PA X es (tAm X.K cls W ms)) : PE X (.Tuple es x1 pos) (tE X.K cls W (mTup ms)) := by
  refine PE.weak (pe_tup h) fun sg H Q h => ?_
  obtain ⟨rho, env, st, w, re, h⟩ := h
  refine ⟨rho, env, st, w, re, OkR.mono (OkR.bind h) fun ds st1 rho1 H1 e1 w1 h1 vs rvs => ?_⟩
  split at h1
  · exact ⟨by rw [← rvs.length]; assumption, ok_tmp_tup w1 h1 rvs⟩
  · exact h1.elim
theorem pe_lstM {es : List Expr} {ms : List ME} (h : PA X es (tAm X.K cls W ms)) : PE X (.List es pos) (tE X.K cls W (mLst ms)) := by
  refine PE.weak (pe_lst h) fun sg H Q h => ?_
  obtain ⟨rho, env, st, w, re, h⟩ := h
  refine ⟨rho, env, st, w, re, OkR.mono (OkR.bind h) fun ds st1 rho1 H1 e1 w1 h1 vs rvs => ?_⟩
  split at h1
  · exact ⟨by rw [← rvs.length]; assumption, ok_tmp_lst w1 h1 rvs⟩
  · exact h1.elim
theorem pe_newM {es : List Expr} {ms : List ME} (h : PA X es (tAm X.K cls W ms)) : PE X (.List es pos) (tE X.K cls W (mNew ms)) := by
  refine PE.weak (pe_lst h) fun sg H Q h => ?_
  obtain ⟨rho, env, st, w, re, h⟩ := h
  refine ⟨rho, env, st, w, re, OkR.mono (OkR.bind h) fun ds st1 rho1 H1 e1 w1 h1 vs rvs => ?_⟩
  split at h1
  · exact ⟨by rw [← rvs.length]; assumption, ok_new_lst w1 h1 rvs⟩
  · exact h1.elim
theorem pe_dic0M : PE X (.Dict [] [] pos) (tE X.K cls W (mC (.dic []))) := by
  refine PE.weak pe_dnewK fun sg H Q h => ?_
  obtain ⟨rho, env, st, w, re, h⟩ := h
  exact fun p hp => h rho _ (w.extTmp hp _) (w.tmp hp _) _ (.dic upd_same (w.fresh hp) .nil)
def mNewD : ME := fun _ st => .ok (.ref st.length) (st ++ [.dic []])
theorem pe_newDM : PE X (.Dict [] [] pos) (tE X.K cls W mNewD) := by
  refine PE.weak pe_dnewK fun sg H Q h => ?_
  obtain ⟨rho, env, st, w, re, h⟩ := h
  exact ok_new_dic w h .nil
theorem tE_call {K : PySem.W.Frag} {f : List D → Sto → R D} {ms : List ME} {r : List V → Hp → VK → Prop} (hop : ∀ {sg : L2.St} {rho : Rho} {st : Sto} {H : Hp} {Q : VK} {ds : List D} {vs : List V}, Wld K rho st H → RelDs K rho H ds vs → OkR K cls W sg rho H (f ds st) (VQ K Q) → r vs H Q)
    {sg : L2.St} {H : Hp} {Q : VK} (h : tE K cls W (mCall f ms) sg H Q) : tCB r (tAm K cls W ms) sg H Q := by
  obtain ⟨rho, env, st, w, re, h⟩ := h
  exact ⟨rho, env, st, w, re, OkR.mono (OkR.bind h) fun ds st1 rho1 H1 e1 w1 h1 vs rvs => hop w1 rvs h1⟩
theorem pe_callBM {es : List Expr} {ms : List ME} {x : Str} {p : Pos} {id : String} {f : List D → Sto → R D} {r : List V → Hp → VK → Prop} (hc : CallR X (.builtin id) r)
    (hop : ∀ {sg : L2.St} {rho : Rho} {st : Sto} {H : Hp} {Q : VK} {ds : List D} {vs : List V}, Wld X.K rho st H → RelDs X.K rho H ds vs → OkR X.K cls W sg rho H (f ds st) (VQ X.K Q) → r vs H Q)
    (hg : Gl X x) (hm : X.mg x = none) (hv : bootBuiltins x = some (.builtin id)) (hn : x ≠ "__name__") (hdb : (x == ("__debug__" : Str)) = false) (hp : (e :: es).all plainE = true) (ha : PA X (e :: es) (tAm X.K cls W ms)) : PE X (.Call (.Name x p) (e :: es) [] pos) (tE X.K cls W (mCall f ms)) := by
  simp only [List.all_cons, Bool.and_eq_true] at hp
  exact PE.weak (pe_callB hc hg hm hv ha hn hdb (star_plain hp.1) (star_any hp.2)) fun _ _ _ h => tE_call hop h
theorem pe_callTyM {es : List Expr} {ms : List ME} {x : Str} {p : Pos} {T : String} {f : List D → Sto → R D} {r : List V → Hp → VK → Prop} (hc : CallR X (.type T) r)
    (hop : ∀ {sg : L2.St} {rho : Rho} {st : Sto} {H : Hp} {Q : VK} {ds : List D} {vs : List V}, Wld X.K rho st H → RelDs X.K rho H ds vs → OkR X.K cls W sg rho H (f ds st) (VQ X.K Q) → r vs H Q)
    (hg : Gl X x) (hm : X.mg x = none) (hv : bootBuiltins x = some (.type T)) (hn : x ≠ "__name__") (hdb : (x == ("__debug__" : Str)) = false) (hp : (e :: es).all plainE = true) (ha : PA X (e :: es) (tAm X.K cls W ms)) : PE X (.Call (.Name x p) (e :: es) [] pos) (tE X.K cls W (mCall f ms)) := by
  simp only [List.all_cons, Bool.and_eq_true] at hp
  exact PE.weak (pe_callTy hc hg hm hv ha hn hdb (star_plain hp.1) (star_any hp.2)) fun _ _ _ h => tE_call hop h
theorem pe_isiM {T : String} {t : Str} {p p2 : Pos} (hp : plainE e = true) (he : PE X e (tE X.K cls W m)) (hg : Gl X "isinstance") (hm : X.mg "isinstance" = none) (hg2 : Gl X t) (hm2 : X.mg t = none) (hv : bootBuiltins t = some (.type T)) (hn : t ≠ "__name__") (hdb : (t == ("__debug__" : Str)) = false) :
    PE X (.Call (.Name "isinstance" p) [e, .Name t p2] [] pos) (tE X.K cls W (mIsI T m)) := by
  have h2 : PE X (.Name t p2) (tC (.ty T)) := pe_bltn hg2 hm2 hv rfl hn hdb
  have ha : PA X [e, .Name t p2] (tCons (tE X.K cls W m) (tCons (tC (.ty T)) tNil)) := pa_cons he (pa_cons h2 pa_nil) (star_plain hp)
  refine PE.weak (pe_callB call_isi hg hm boot_isinstance ha (by decide) (by decide) (star_plain hp) rfl) fun sg H Q h => ?_
  obtain ⟨rho, env, st, w, re, h⟩ := h
  exact ⟨rho, env, st, w, re, OkR.mono (OkR.bind h) fun d st1 rho1 H1 e1 w1 h1 v rv => isInst_ok w1 rv h1⟩
theorem plainIx {b : Expr} (h : noSlice b = true) : PlainIx b := fun o i => by
  cases b <;> first | rfl | cases h
theorem kvGet_none {K : PySem.W.Frag} {rho : Rho} {H : Hp} : ∀ {ds : List (Key × D)} {vs : List (Key × V)} {k : Key}, RelK K rho H ds vs → kvGet ds k = none → valV vs k = none
  | _, _, _, .nil, h => rfl
  | (k', d') :: ds, (_, v') :: vs, k, .cons r t, h => by
    unfold kvGet valV at *
    simp only [List.find?_cons] at h ⊢
    by_cases e : k' = k
    · simp only [e, decide_true, Option.map_some, reduceCtorEq] at h
    · simp only [e, decide_false] at h ⊢
      exact kvGet_none t h
theorem keyOf_rel {K : PySem.W.Frag} {rho : Rho} {H : Hp} {d : D} {v : V} {k : Key} (r : RelD K rho H d v) (h : keyOf d = some k) : v = kV k := by
  cases r <;> simp only [keyOf, Option.some.injEq, reduceCtorEq] at h <;> (subst h; rfl)
theorem ksT_rel {K : PySem.W.Frag} {rho : Rho} {H : Hp} : ∀ {ds : List D} {vs : List V}, RelDs K rho H ds vs → ds.all isKeyD = true → vs = (ksT ds).map kV
  | _, _, .nil, _ => rfl
  | d :: ds, v :: vs, .cons h t, e => by
    simp only [List.all_cons, Bool.and_eq_true] at e
    have ih := ksT_rel t e.2
    cases h <;> simp only [isKeyD, Bool.false_eq_true, false_and] at e <;> (rw [ih]; rfl)
theorem keyTD_rel {K : PySem.W.Frag} {rho : Rho} {H : Hp} {d : D} {v : V} {k : List Key} (r : RelD K rho H d v) (h : keyTD d = some k) : ∃ b, v = .ref b ∧ H b = some (.tup (k.map kV)) := by
  cases r <;> simp only [keyTD, reduceCtorEq] at h
  rename_i a ds vs h1 h2 kk
  split at h
  · rename_i e
    cases h
    refine ⟨_, rfl, ?_⟩
    rw [kk e]
    have e' := e
    simp only [keyT, Bool.and_eq_true] at e'
    rw [ksT_rel h2 e'.1.2]
  · cases h
theorem ktGet_rel {K : PySem.W.Frag} {rho : Rho} {H : Hp} {k : List Key} : ∀ {ds : List (List Key × D)} {vs : List (List Key × V)}, ds.map (·.1) = vs.map (·.1) → RelDs K rho H (ds.map (·.2)) (vs.map (·.2)) → (∀ d, ktGet ds k = some d → ∃ v, valV vs k = some v ∧ RelD K rho H d v) ∧ (ktGet ds k = none → valV vs k = none)
  | [], [], _, _ => ⟨fun d h => (by simp [ktGet] at h), fun _ => rfl⟩
  | [], _ :: _, e, _ => by simp at e
  | _ :: _, [], e, _ => by simp at e
  | (k', d') :: ds, (k'', v') :: vs, e, r => by
    simp only [List.map_cons, List.cons.injEq] at e
    obtain ⟨rfl, e⟩ := e
    cases r with
    | cons h t =>
      have ih := ktGet_rel (k := k) e t
      unfold ktGet valV at *
      simp only [List.find?_cons]
      by_cases q : k' = k
      · simp only [q, decide_true, Option.map_some, Option.some.injEq, reduceCtorEq, false_implies, and_true]
        intro d hd
        subst hd
        exact ⟨v', rfl, h⟩
      · simp only [q, decide_false]
        exact ih
theorem ref_dicT {K : PySem.W.Frag} {rho : Rho} {st : Sto} {H : Hp} {v : V} {l : Nat} {xs : List (List Key × D)} (w : Wld K rho st H) (r : RelD K rho H (.ref l) v) (e : st[l]? = some (.dicT xs)) : ∃ a ks, v = .ref a ∧ rho.loc[l]? = some a ∧ H a = some (.dT ks) ∧ xs.map (·.1) = ks.map (·.1) ∧ RelDs K rho H (xs.map (·.2)) (ks.map (·.2)) := by
  cases r with
  | ref h =>
    obtain ⟨ks, h1, h2, h3⟩ := w.obj l _ _ h e
    exact ⟨_, ks, rfl, h, h1, h2, h3⟩
theorem ref_dicL {K : PySem.W.Frag} {rho : Rho} {st : Sto} {H : Hp} {v : V} {l : Nat} {xs : List (List Key × D)} (w : Wld K rho st H) (r : RelD K rho H (.ref l) v) (e : st[l]? = some (.dicL xs)) : ∃ a o ks, v = .ref a ∧ rho.loc[l]? = some a ∧ H a = some (.frz o (.dT ks)) ∧ xs.map (·.1) = ks.map (·.1) ∧ RelDs K rho H (xs.map (·.2)) (ks.map (·.2)) := by
  cases r with
  | ref h =>
    obtain ⟨o, ks, h1, h2, h3⟩ := w.obj l _ _ h e
    exact ⟨_, o, ks, rfl, h, h1, h2, h3⟩
theorem ref_dicF {K : PySem.W.Frag} {rho : Rho} {st : Sto} {H : Hp} {v : V} {l : Nat} {xs : List (Key × D)} (w : Wld K rho st H) (r : RelD K rho H (.ref l) v) (e : st[l]? = some (.dicF xs)) : ∃ a o ks, v = .ref a ∧ rho.loc[l]? = some a ∧ H a = some (.frz o (.dK ks)) ∧ RelK K rho H xs ks := by
  cases r with
  | ref h =>
    obtain ⟨o, ks, h1, h2⟩ := w.obj l _ _ h e
    exact ⟨_, o, ks, rfl, h, h1, h2⟩
def mNewDT : ME := fun _ st => .ok (.ref st.length) (st ++ [.dicT []])
theorem pe_newDTM : PE X (.Dict [] [] pos) (tE X.K cls W mNewDT) := by
  refine PE.weak pe_dnewT fun sg H Q h => ?_
  obtain ⟨rho, env, st, w, re, h⟩ := h
  exact fun p hp => h (rho.add p) _ (w.extNew hp _) (w.new hp ⟨[], upd_same, rfl, .nil⟩) _ (.ref (by rw [← w.len]; simp [Rho.add]))
def rIxA (K : PySem.W.Frag) : R2 := fun x y H Q => rIx K x y H Q ∨ ∃ a v, x = .ref a ∧ DGet H a y (some v) ∧ Q v H
theorem hop_ix {K : PySem.W.Frag} {sg : L2.St} {rho : Rho} {st : Sto} {H : Hp} {Q : VK} {x y : D} {v u : V} (w : Wld K rho st H) (r1 : RelD K rho H x v) (r2 : RelD K rho H y u) (h : OkR K cls W sg rho H (opIx x y st) (VQ K Q)) :
    rIxA K v u H Q := by
  have q := deref_rel w r1
  unfold opIx at h
  split at h <;> (rename_i e1; try rw [e1] at q)
  · cases q; cases r2
    split at h
    · split at h
      · rename_i c hc
        exact .inl (.inr (.inr ⟨_, _, c, rfl, rfl, by assumption, hc, ok_here w h (.str _)⟩))
      · exact h.elim
    · exact h.elim
  · cases r2
    cases q with
    | tup h1 h2 _ =>
      split at h
      · rename_i d hd
        obtain ⟨z, hz, rz⟩ := atI_rel h2 hd
        exact .inl (.inr (.inl ⟨_, _, _, z, rfl, rfl, h1, hz, ok_here w h rz⟩))
      · exact h.elim
  · cases r2
    obtain ⟨a, ks, rfl, h1, h2⟩ := der_lst q
    split at h
    · rename_i d hd
      obtain ⟨z, hz, rz⟩ := atI_rel h2 hd
      exact .inl (.inl ⟨_, _, _, z, rfl, rfl, SqL.of h1, hz, ok_here w h rz⟩)
    · exact h.elim
  · cases r2
    cases q with
    | fz h1 h2 =>
      split at h
      · rename_i d hd
        obtain ⟨z, hz, rz⟩ := atI_rel h2 hd
        exact .inl (.inl ⟨_, _, _, z, rfl, rfl, h1.sq, hz, ok_here w h rz⟩)
      · exact h.elim
  · obtain ⟨a, ks, rfl, h1, h2⟩ := der_dic q
    split at h
    · rename_i d hd
      obtain ⟨k, hk, hg⟩ := Option.bind_eq_some_iff.mp hd
      obtain ⟨z, hz, rz⟩ := kvGet_rel h2 hg
      refine .inr ⟨a, z, rfl, ?_, ok_here w h rz⟩
      rw [keyOf_rel r2 hk, ← hz]
      exact DGet.k h1
    · exact h.elim
  · split at h
    · rename_i kvs hl
      obtain ⟨a, ks, rfl, ha, h1, h2, h3⟩ := ref_dicT w q hl
      split at h
      · rename_i d hd
        obtain ⟨k, hk, hg⟩ := Option.bind_eq_some_iff.mp hd
        obtain ⟨z, hz, rz⟩ := (ktGet_rel h2 h3).1 d hg
        obtain ⟨b, rfl, hb⟩ := keyTD_rel r2 hk
        refine .inr ⟨a, z, rfl, ?_, ok_here w h rz⟩
        rw [← hz]
        exact DGet.t h1 hb
      · exact h.elim
    · rename_i kvs hl
      obtain ⟨a, o, ks, rfl, ha, h1, h2, h3⟩ := ref_dicL w q hl
      split at h
      · rename_i d hd
        obtain ⟨k, hk, hg⟩ := Option.bind_eq_some_iff.mp hd
        obtain ⟨z, hz, rz⟩ := (ktGet_rel h2 h3).1 d hg
        obtain ⟨b, rfl, hb⟩ := keyTD_rel r2 hk
        refine .inr ⟨a, z, rfl, ?_, ok_here w h rz⟩
        rw [← hz]
        exact .inr ⟨ks, k, b, .inr ⟨o, h1⟩, rfl, hb, rfl⟩
      · exact h.elim
    · rename_i kvs hl
      obtain ⟨a, o, ks, rfl, ha, h1, h2⟩ := ref_dicF w q hl
      split at h
      · rename_i d hd
        obtain ⟨k, hk, hg⟩ := Option.bind_eq_some_iff.mp hd
        obtain ⟨z, hz, rz⟩ := kvGet_rel h2 hg
        refine .inr ⟨a, z, rfl, ?_, ok_here w h rz⟩
        rw [keyOf_rel r2 hk, ← hz]
        exact .inl ⟨ks, k, .inr ⟨o, h1⟩, rfl, rfl⟩
      · exact h.elim
    · exact h.elim
  · exact h.elim
theorem pe_ixM (hu : X.A.units + 1 < cLine) (hs : noSlice b = true) (ha : PE X a (tE X.K cls W ma)) (hb : PE X b (tE X.K cls W mb)) : PE X (.Subscript a b pos) (tE X.K cls W (mBin opIx ma mb)) := by
  refine ⟨fun pins s sg H Q I h => ?_⟩
  have h' := tE_bin (K := X.K) (r := rIxA X.K) (fun {sg rho st H Q x y v u} => hop_ix) h
  refine Subscript_ (binT ha hb I h' fun v u s2 x y H2 I2 rx ry q => ?_)
  rcases q with q | ⟨ad, z, rfl, g, q⟩
  · exact ix_seq a b pins s2 sg H2 x y v u Q I2 rx ry q (plainIx hs v u)
  · cases rx
    have hti := dict_typeIs I2 g
    exact tail_any hti PySem.F.slot_dict_getitem.lookup (d_getItem hu I2 g ry fun w' s' I' r' => ⟨z, H2, I', r', q⟩) (plainIx hs _ _)
end
end MI
namespace MI
open PySem PySem.Spec PyProof.Rows L2
variable [TC : TabsC]
def noCall : Expr → Bool
  | .Call (.Name ..) [] [] _ => false
  | _ => true
theorem base_ok {o : Expr} {n : Str} {env : Env} {wh : Sem Value} (h : noCall o = true) : attributeBase o n env wh = wh := by
  cases o with
  | Call f as ks p =>
    cases f with
    | Name x q =>
      cases as with
      | nil =>
        cases ks with
        | nil => cases h
        | cons _ _ => rfl
      | cons _ _ => rfl
    | _ => rfl
  | _ => rfl
theorem star_all : ∀ {es : List Expr} {env : Env} {pos : Pos}, es.all plainE = true → (backTo pos (starEach es env)).all (fun x => !x.1) = true
  | [], _, _, _ => rfl
  | e :: es, env, pos, h => by
    simp only [List.all_cons, Bool.and_eq_true] at h
    have ih := star_all (env := env) (pos := pos) h.2
    unfold backTo at ih ⊢
    rw [star_plain h.1]
    simp only [List.all_map, List.map_cons, List.all_cons] at ih ⊢
    simpa using ih
section
variable {X : Cx} {cls : Nat → Value} {W : WX} {pos : Pos} {a b c e o : Expr} {ma mb mc m mo : ME}
def rInA (K : PySem.W.Frag) (neg : Bool) : R2 := fun x y H Q => (∃ (c : Nat) (z : Str), x = .str ⟨#[c]⟩ ∧ y = .str z ∧ Q (.bl (neg ^^ decide (c ∈ z.cps.toList))) H) ∨
  (∃ d ds, Dp K H x d ∧ Dp K H y (.list ds) ∧ SeqAt.shaped d = true ∧ SeqAt.shaped (.list ds) = true ∧ Q (.bl (neg ^^ ds.any fun z => PyData.eqv z d)) H) ∨ (∃ a ov, y = .ref a ∧ DGet H a x ov ∧ Q (.bl (neg ^^ ov.isSome)) H) ∨
  ∃ p xs, y = .ref p ∧ SqT K H p xs ∧ flatV x = true ∧ xs.all flatV = true ∧ Q (.bl (neg ^^ inV x xs)) H
theorem op_inA (hu : X.A.units + 65 < cLine) : OpR X (compareOp .In) (rInA X.K false) := by
  intro pins s sg H x y v u Q I rx ry h
  rcases h with ⟨c, z, e1, e2, q⟩ | h | ⟨ad, ov, rfl, g, q⟩ | ⟨p, xs, e1, e2, e3, e4, q⟩
  · exact op_in_sign pins s sg H x y v u Q I rx ry ⟨c, z, e1, e2, by simpa using q⟩
  · exact op_inD hu pins s sg H x y v u Q I rx ry (by simpa [rInD] using h)
  · cases ry
    exact d_in (by omega) I g rx fun s' I' => ⟨.bl ov.isSome, H, I', rfl, by simpa using q⟩
  · exact op_in_seq pins s sg H x y v u Q I rx ry ⟨p, xs, e1, .inr e2, e3, e4, by simpa using q⟩
theorem op_notInA (hu : X.A.units + 65 < cLine) : OpR X (compareOp .NotIn) (rInA X.K true) := by
  intro pins s sg H x y v u Q I rx ry h
  rcases h with ⟨c, z, e1, e2, q⟩ | h | ⟨ad, ov, rfl, g, q⟩ | ⟨p, xs, e1, e2, e3, e4, q⟩
  · exact op_notIn_sign pins s sg H x y v u Q I rx ry ⟨c, z, e1, e2, by simpa using q⟩
  · exact op_notInD hu pins s sg H x y v u Q I rx ry (by simpa [rNotInD] using h)
  · cases ry
    exact d_notIn (by omega) I g rx fun s' I' => ⟨.bl (!ov.isSome), H, I', rfl, by simpa using q⟩
  · exact op_notIn_seq pins s sg H x y v u Q I rx ry ⟨p, xs, e1, .inr e2, e3, e4, by simpa using q⟩
theorem inV_ints (i : Int) (ns : List Int) : inV (.int i) (ns.map V.int) = decide (i ∈ ns) := by
  unfold inV
  rw [List.any_map]
  induction ns with
  | nil => rfl
  | cons n ns ih =>
    rw [List.any_cons, ih]
    have : (((fun y => eqV y (V.int i)) ∘ V.int) n) = (n == i) := rfl
    rw [this]
    by_cases h : i = n
    · subst h; simp
    · have h2 : (n == i) = false := beq_eq_false_iff_ne.mpr (Ne.symm h)
      simp [h, h2]
theorem inV_strs (i : Str) (ns : List Str) : inV (.str i) (ns.map V.str) = decide (i ∈ ns) := by
  unfold inV
  rw [List.any_map]
  induction ns with
  | nil => rfl
  | cons n ns ih =>
    rw [List.any_cons, ih]
    have : (((fun y => eqV y (V.str i)) ∘ V.str) n) = (n == i) := rfl
    rw [this]
    by_cases h : i = n
    · subst h; simp
    · have h2 : (n == i) = false := beq_eq_false_iff_ne.mpr (Ne.symm h)
      simp [h, h2]
theorem isIn_some {K : PySem.W.Frag} {rho : Rho} {st : Sto} {H : Hp} {x y : D} {v u : V} {k : Bool} {neg : Bool} {Q : VK} (w : Wld K rho st H) (r1 : RelD K rho H x v) (r2 : RelD K rho H y u) (h : isIn st x y = some k) (q : Q (.bl (neg ^^ k)) H) : rInA K neg v u H Q := by
  have d2 := deref_rel w r2
  unfold isIn at h
  split at h <;> (rename_i e1; try rw [e1] at d2)
  · cases d2; cases r1
    rename_i sa sb
    split at h
    · rename_i c hc
      cases h
      refine .inl ⟨c, sb, ?_, rfl, q⟩
      cases sa with
      | mk cp =>
        have : cp = #[c] := by
          apply Array.toList_inj.mp
          simpa using hc
        rw [this]
    · cases h
  · obtain ⟨ad, ks, rfl, h1, h2⟩ := der_dic d2
    obtain ⟨k', hk, e⟩ := Option.map_eq_some_iff.mp h
    refine .inr (.inr (.inl ⟨ad, valV ks k', rfl, ?_, ?_⟩))
    · rw [keyOf_rel r1 hk]
      exact DGet.k h1
    · have : (valV ks k').isSome = k := by
        rw [← e]
        cases g : kvGet _ k' with
        | none => rw [kvGet_none h2 g]; rfl
        | some d =>
          obtain ⟨z, hz, _⟩ := kvGet_rel h2 g
          rw [hz]; rfl
      rw [this]
      exact q
  · obtain ⟨ad, ks, rfl, h1, h2⟩ := der_lst d2
    split at h
    · rename_i hc
      simp only [Bool.and_eq_true] at hc
      obtain ⟨⟨⟨c1, c2⟩, c3⟩, c4⟩ := hc
      cases h
      exact .inr (.inl ⟨_, _, der_dp (deref_rel w r1) c1, .lst (SqL.of h1) (relDs_dp h2 c2), c3, c4, q⟩)
    · cases h
  · obtain ⟨ns, hns, rfl⟩ := Option.map_eq_some_iff.mp h
    obtain ⟨ad, ks, rfl, h1, h2⟩ := der_tup d2
    cases r1
    rw [intsOf_rel h2 hns] at h1
    refine .inr (.inr (.inr ⟨ad, _, rfl, h1, rfl, by simp [List.all_map, flatV], ?_⟩))
    rw [inV_ints]
    exact q
  · obtain ⟨ns, hns, rfl⟩ := Option.map_eq_some_iff.mp h
    obtain ⟨ad, ks, rfl, h1, h2⟩ := der_tup d2
    cases r1
    rw [strsOf_rel h2 hns] at h1
    refine .inr (.inr (.inr ⟨ad, _, rfl, h1, rfl, by simp [List.all_map, flatV], ?_⟩))
    rw [inV_strs]
    exact q
  · split at h
    · rename_i kvs hl
      obtain ⟨ad, ks, rfl, ha, h1, h2, h3⟩ := ref_dicT w d2 hl
      obtain ⟨k', hk, e⟩ := Option.map_eq_some_iff.mp h
      obtain ⟨b, rfl, hb⟩ := keyTD_rel r1 hk
      refine .inr (.inr (.inl ⟨ad, valV ks k', rfl, DGet.t h1 hb, ?_⟩))
      have : (valV ks k').isSome = k := by
        rw [← e]
        cases g : ktGet kvs k' with
        | none => rw [(ktGet_rel h2 h3).2 g]; rfl
        | some d =>
          obtain ⟨z, hz, _⟩ := (ktGet_rel h2 h3).1 d g
          rw [hz]; rfl
      rw [this]
      exact q
    · rename_i kvs hl
      obtain ⟨ad, o, ks, rfl, ha, h1, h2, h3⟩ := ref_dicL w d2 hl
      obtain ⟨k', hk, e⟩ := Option.map_eq_some_iff.mp h
      obtain ⟨b, rfl, hb⟩ := keyTD_rel r1 hk
      refine .inr (.inr (.inl ⟨ad, valV ks k', rfl, .inr ⟨ks, k', b, .inr ⟨o, h1⟩, rfl, hb, rfl⟩, ?_⟩))
      have : (valV ks k').isSome = k := by
        rw [← e]
        cases g : ktGet kvs k' with
        | none => rw [(ktGet_rel h2 h3).2 g]; rfl
        | some d =>
          obtain ⟨z, hz, _⟩ := (ktGet_rel h2 h3).1 d g
          rw [hz]; rfl
      rw [this]
      exact q
    · rename_i kvs hl
      obtain ⟨ad, o, ks, rfl, ha, h1, h2⟩ := ref_dicF w d2 hl
      obtain ⟨k', hk, e⟩ := Option.map_eq_some_iff.mp h
      refine .inr (.inr (.inl ⟨ad, valV ks k', rfl, .inl ⟨ks, k', .inr ⟨o, h1⟩, keyOf_rel r1 hk, rfl⟩, ?_⟩))
      have : (valV ks k').isSome = k := by
        rw [← e]
        cases g : kvGet kvs k' with
        | none => rw [kvGet_none h2 g]; rfl
        | some d =>
          obtain ⟨z, hz, _⟩ := kvGet_rel h2 g
          rw [hz]; rfl
      rw [this]
      exact q
    · cases h
  · cases h
theorem hop_in {K : PySem.W.Frag} {sg : L2.St} {rho : Rho} {st : Sto} {H : Hp} {Q : VK} {x y : D} {v u : V} (w : Wld K rho st H) (r1 : RelD K rho H x v) (r2 : RelD K rho H y u) (h : OkR K cls W sg rho H (opIn x y st) (VQ K Q)) : rInA K false v u H Q := by
  unfold opIn at h
  split at h
  · rename_i k e1
    exact isIn_some w r1 r2 e1 (by simpa using ok_here w h (.bl _))
  · exact h.elim
theorem hop_notIn {K : PySem.W.Frag} {sg : L2.St} {rho : Rho} {st : Sto} {H : Hp} {Q : VK} {x y : D} {v u : V} (w : Wld K rho st H) (r1 : RelD K rho H x v) (r2 : RelD K rho H y u) (h : OkR K cls W sg rho H (opNotIn x y st) (VQ K Q)) : rInA K true v u H Q := by
  unfold opNotIn at h
  split at h
  · rename_i k e1
    exact isIn_some w r1 r2 e1 (by simpa using ok_here w h (.bl _))
  · exact h.elim
def tOm (K : PySem.W.Frag) (cls : Nat → Value) (W : WX) (m : Option ME) : TO := fun sg H Q => ∃ rho env st, Wld K rho st H ∧ RelEnv K rho H env sg ∧ OkR K cls W sg rho H (mOpt m env st) (fun o _ _ H' => Q o H')
theorem po_noneM : PO X none (tOm X.K cls W none) := ⟨fun pins s sg H Q I h => po_none.run pins s sg H Q I (by
  obtain ⟨rho, env, st, w, re, h⟩ := h
  exact h rho H (Ext.refl rho H) w)⟩
theorem po_someM (h : PE X e (tE X.K cls W m)) : PO X (some e) (tOm X.K cls W (some m)) := ⟨fun pins s sg H Q I hq => (po_some h).run pins s sg H Q I (by
  obtain ⟨rho, env, st, w, re, hq⟩ := hq
  refine ⟨rho, env, st, w, re, OkR.mono (OkR.bind hq) fun d st1 rho1 H1 e1 w1 h1 v rv => ?_⟩
  split at h1
  · cases rv
    exact ⟨_, rfl, OkR.ok h1 w1⟩
  · exact h1.elim)⟩
def rSlAll (K : PySem.W.Frag) : V → Option Int → Option Int → Hp → VK → Prop := fun x lo hi H Q => rSlA K x lo hi H Q ∨ rSlL K x lo hi H Q ∨ rSlS x lo hi H Q
theorem sl_all : SlR X (rSlAll X.K) := SlR.or sl_tupA (SlR.or sl_list sl_str)
theorem cut_whole {α : Type} {xs : List α} {lo hi : Option Int} (h1 : HT.sIx xs.length 0 lo = 0) (h2 : HT.sIx xs.length xs.length hi = xs.length) : cutL xs lo hi = xs := by
  unfold cutL
  rw [h1, h2]
  simp
theorem hop_sl {K : PySem.W.Frag} {sg : L2.St} {rho : Rho} {st : Sto} {H : Hp} {Q : VK} {x : D} {v : V} {lo hi : Option Int} (w : Wld K rho st H) (r1 : RelD K rho H x v) (h : OkR K cls W sg rho H (opSl x lo hi st) (VQ K Q)) : rSlAll K v lo hi H Q := by
  have q := deref_rel w r1
  unfold opSl at h
  split at h <;> (rename_i e1; try rw [e1] at q)
  · cases q
    split at h
    · exact .inr (.inr ⟨_, rfl, by assumption, ok_here w h (.str _)⟩)
    · exact h.elim
  · cases q with
    | tup h1 h2 kk =>
      rename_i ds ad vs
      refine .inl ⟨ad, vs, rfl, h1, fun e2 => ?_, fun e2 => ?_⟩
      · rw [cut_whole (by rw [h2.length]; exact e2.1) (by rw [h2.length]; exact e2.2)] at h
        exact ok_here w h (.tup h1 h2 kk)
      · refine ok_tmp_tup w h ?_
        unfold cutL cutV
        rw [h2.length]
        exact (h2.drop _).take _
  · obtain ⟨ad, ks, rfl, h1, h2⟩ := der_lst q
    refine .inr (.inl ⟨ad, ks, rfl, SqL.of h1, ok_tmp_lst w h ?_⟩)
    unfold cutL cutV
    rw [h2.length]
    exact (h2.drop _).take _
  · exact h.elim
theorem pe_slM {lo hi : Option Expr} {ml mh : Option ME} {p2 : Pos} (ha : PE X a (tE X.K cls W ma)) (hl : PO X lo (tOm X.K cls W ml)) (hh : PO X hi (tOm X.K cls W mh)) : PE X (.Subscript a (.Slice lo hi none p2) pos) (tE X.K cls W (mSl ma ml mh)) := by
  refine PE.weak (pe_slice sl_all ha hl hh) fun sg H Q h => ?_
  obtain ⟨rho, env, st, w, re, h⟩ := h
  refine ⟨rho, env, st, w, re, OkR.mono (OkR.bind h) fun d st1 rho1 H1 e1 w1 h1 v rv => ?_⟩
  refine ⟨rho1, env, st1, w1, re.ext e1, OkR.mono (OkR.bind h1) fun i st2 rho2 H2 e2 w2 h2 => ?_⟩
  refine ⟨rho2, env, st2, w2, (re.ext e1).ext e2, OkR.mono (OkR.bind h2) fun j st3 rho3 H3 e3 w3 h3 => ?_⟩
  exact hop_sl w3 ((rv.ext e2).ext e3) h3
theorem pe_methL {es : List Expr} {ms : List ME} {name : Str} {apos : Pos} {id : String} {f : D → List D → Sto → R D} {r : V → List V → Hp → VK → Prop} (slot : Slot "list" name id) (hty : typeOf (.builtin id) = pure (.type "method_descriptor")) (hm : MtR X id r)
    (hop : ∀ {sg : L2.St} {rho : Rho} {st : Sto} {H : Hp} {Q : VK} {d : D} {v : V} {ds : List D} {vs : List V}, Wld X.K rho st H → RelD X.K rho H d v → RelDs X.K rho H ds vs → OkR X.K cls W sg rho H (f d ds st) (VQ X.K Q) → r v vs H Q)
    (hb : noCall o = true) (hl : (apos.endLine == pos.line) = true) (hp : (e :: es).all plainE = true) (hn : (e :: es).length < 30) (ho : PE X o (tE X.K cls W mo)) (ha : PA X (e :: es) (tAm X.K cls W ms)) :
    PE X (.Call (.Attribute o name apos) (e :: es) [] pos) (tE X.K cls W (mMethL f mo ms)) := by
  have hp' := hp
  simp only [List.all_cons, Bool.and_eq_true] at hp
  refine PE.weak (pe_bm PySem.F.plainAttrs_list slot hty hm ho ha (base_ok hb) ?_ hl (star_plain hp.1) (star_any hp.2)) fun sg H Q h => ?_
  · rw [star_all hp']
    have hk : (backToKw pos (keywordEach [] X.env)).all (fun x => x.1.isSome) = true := rfl
    rw [hk]
    have hn' : decide ((e :: es).length + 0 + 0 < 30) = true := by simpa using hn
    simpa using hn'
  · obtain ⟨rho, env, st, w, re, h⟩ := h
    refine ⟨rho, env, st, w, re, OkR.mono (OkR.bind h) fun d st1 rho1 H1 e1 w1 h1 v rv => ?_⟩
    split at h1
    · rename_i hl1
      refine ⟨isLst_ok w1 rv hl1, rho1, env, st1, w1, re.ext e1, OkR.mono (OkR.bind h1) fun ds st2 rho2 H2 e2 w2 h2 vs rvs => ?_⟩
      exact hop w2 (rv.ext e2) rvs h2
    · exact h1.elim
theorem pe_methL0 {name : Str} {apos : Pos} {id : String} {f : D → List D → Sto → R D} {r : V → List V → Hp → VK → Prop} (slot : Slot "list" name id) (hty : typeOf (.builtin id) = pure (.type "method_descriptor")) (hm : MtR X id r)
    (hop : ∀ {sg : L2.St} {rho : Rho} {st : Sto} {H : Hp} {Q : VK} {d : D} {v : V} {ds : List D} {vs : List V}, Wld X.K rho st H → RelD X.K rho H d v → RelDs X.K rho H ds vs → OkR X.K cls W sg rho H (f d ds st) (VQ X.K Q) → r v vs H Q)
    (hb : noCall o = true) (hl : (apos.endLine == pos.line) = true) (ho : PE X o (tE X.K cls W mo)) : PE X (.Call (.Attribute o name apos) [] [] pos) (tE X.K cls W (mMethL f mo [])) := by
  refine PE.weak (pe_bm0 PySem.F.plainAttrs_list slot hty hm ho (base_ok hb) hl) fun sg H Q h => ?_
  obtain ⟨rho, env, st, w, re, h⟩ := h
  refine ⟨rho, env, st, w, re, OkR.mono (OkR.bind h) fun d st1 rho1 H1 e1 w1 h1 v rv => ?_⟩
  split at h1
  · rename_i hl1
    exact ⟨isLst_ok w1 rv hl1, hop w1 rv .nil h1⟩
  · exact h1.elim
def spF (K : PySem.W.Frag) (cls : Nat → Value) (f : List D → Sto → R D) : Sp := fun vs H Q E => ∃ rho st ds, Wld K rho st H ∧ RelDs K rho H ds vs ∧ OkR K cls (fun c d _ H => E c d H) [] rho H (f ds st) (VQ K Q)
theorem OkR.wish {α : Type} {K : PySem.W.Frag} {W' : WX} {sg sg' : L2.St} {rho : Rho} {H : Hp} {r : R α} {P : α → Sto → Rho → Hp → Prop} (h : OkR K cls W sg rho H r P) (f : ∀ c H, W c none sg H → W' c none sg' H) : OkR K cls W' sg' rho H r P := by
  cases r with
  | ok a st => exact h
  | exc c st => exact fun r2 H2 e2 w2 => f _ _ (h r2 H2 e2 w2)
  | stuck => exact h
theorem pe_call0S {CX : CXT} {k : Nat} {f : Addr} {fd : FuncData} {ps : List Str} {sp : Sp} {E : L2.St → XK} {x : Str} {p : Pos} (F : FnOk X.prog X.w X.K X.mg X.base CX k f fd ps sp) (hr : Room k X.A) (hg : Gl X x) (hm : X.mg x = some (.ref f)) (hk : PySem.W.keepIn X.K (.ref f) = true) (hb : Binds X.K fd ps []) (hx : ∀ sg, PassesAt CX X sg (E sg))
    (hdb : (x == ("__debug__" : Str)) = false) : PE X (.Call (.Name x p) [] [] pos) (tCallS sp E tNil) := by
  refine ⟨fun pins s sg H Q I h => ?_⟩
  refine wpAny_Call_Name_kw (ld_glob I hg hm ?_ hdb)
  exact PySem.W.callWith_K0 I.kIn hk (run_fnS (us := []) F hr hb (hx sg) I .nil h)
theorem pe_callM {k : Nat} {fa : Addr} {fd : FuncData} {ps : List Str} {f : List D → Sto → R D} {x : Str} {p : Pos} {es : List Expr} {ms : List ME} (F : FnOk X.prog X.w X.K X.mg X.base (L2.CX X.prog X.w) k fa fd ps (spF X.K cls f)) (hr : Room k X.A) (hg : Gl X x) (hm : X.mg x = some (.ref fa))
    (hk : PySem.W.keepIn X.K (.ref fa) = true) (hb : Binds X.K fd ps []) (tk : Takes X W) (hdb : (x == ("__debug__" : Str)) = false) (hp : (e :: es).all plainE = true) (ha : PA X (e :: es) (tAm X.K cls W ms)) : PE X (.Call (.Name x p) (e :: es) [] pos) (tE X.K cls W (mCall f ms)) := by
  have go : ∀ sg H Q, tE X.K cls W (mCall f ms) sg H Q → tCallS (spF X.K cls f) (WE W) (tAm X.K cls W ms) sg H Q := fun sg H Q h => by
    obtain ⟨rho, env, st, w, re, h⟩ := h
    refine ⟨rho, env, st, w, re, OkR.mono (OkR.bind h) fun ds st1 rho1 H1 e1 w1 h1 vs rvs => ?_⟩
    exact ⟨rho1, st1, ds, w1, rvs, OkR.wish h1 fun c H q => q⟩
  simp only [List.all_cons, Bool.and_eq_true] at hp
  exact PE.weak (pe_callS F hr hg hm hk hb (fun sg => passAt tk sg) ha hdb (star_plain hp.1) (star_any hp.2)) go
theorem pe_call0M {k : Nat} {fa : Addr} {fd : FuncData} {ps : List Str} {f : List D → Sto → R D} {x : Str} {p : Pos} (F : FnOk X.prog X.w X.K X.mg X.base (L2.CX X.prog X.w) k fa fd ps (spF X.K cls f)) (hr : Room k X.A) (hg : Gl X x) (hm : X.mg x = some (.ref fa))
    (hk : PySem.W.keepIn X.K (.ref fa) = true) (hb : Binds X.K fd ps []) (tk : Takes X W) (hdb : (x == ("__debug__" : Str)) = false) : PE X (.Call (.Name x p) [] [] pos) (tE X.K cls W (mCall f [])) := by
  refine PE.weak (pe_call0S F hr hg hm hk hb (fun sg => passAt tk sg) hdb) fun sg H Q h => ?_
  obtain ⟨rho, env, st, w, re, h⟩ := h
  exact ⟨rho, st, [], w, .nil, OkR.wish h fun c H q => q⟩
end
end MI
namespace MI
open PySem PySem.Spec PyProof.Rows L2
variable [TC : TabsC]
def tGm (K : PySem.W.Frag) (vs : List Nat) (m : MG) : TG := fun v sg H Q => ∃ rho env st d env', Wld K rho st H ∧ RelEnv K rho H env sg ∧ RelD K rho H d v ∧ m d env = some env' ∧
  ∀ sg', RelEnv K rho H env' sg' → sg'.length = sg.length → (∀ j, j ∉ vs → sg'[j]? = sg[j]?) → Q sg' H
theorem wipe_same : ∀ {vs : List Nat} {sg sg' : L2.St}, sg'.length = sg.length → (∀ j, j ∉ vs → sg'[j]? = sg[j]?) → wipe sg' vs = wipe sg vs := by
  intro vs sg sg' hl h
  apply List.ext_getElem?
  intro j
  by_cases hj : j ∈ vs
  · have out : ∀ (s : L2.St), (wipe s vs)[j]? = if j < s.length then some none else none := fun s => by
      have : ∀ {us : List Nat}, j ∈ us → (wipe s us)[j]? = if j < s.length then some none else none := by
        intro us
        induction us with
        | nil => intro h; cases h
        | cons u us ih =>
          intro hm
          unfold L2.wipe
          by_cases e : u = j
          · subst e
            rw [List.getElem?_set, wipe_length]
            simp
          · rcases List.mem_cons.mp hm with z | z
            · exact absurd z.symm e
            · rw [List.getElem?_set_ne e]
              exact ih z
      exact this hj
    rw [out, out, hl]
  · have keep : ∀ (s : L2.St), (wipe s vs)[j]? = s[j]? := fun s => by
      have : ∀ {us : List Nat}, j ∉ us → (wipe s us)[j]? = s[j]? := by
        intro us
        induction us with
        | nil => intro _; rfl
        | cons u us ih =>
          intro hm
          unfold L2.wipe
          rw [List.getElem?_set_ne (fun e => hm (by rw [e]; exact List.mem_cons_self))]
          exact ih fun z => hm (List.mem_cons_of_mem _ z)
      exact this hj
    rw [keep, keep]
    exact h j hj
theorem PG.weak {X : Cx} {tg : Expr} {t t' : TG} (h : PG X tg t) (f : ∀ v sg H Q, t' v sg H Q → t v sg H Q) : PG X tg t' := ⟨fun pins s sg H v u Q I r q => h.run pins s sg H v u Q I r (f _ _ _ _ q)⟩
theorem PGs.weak {X : Cx} {tg : List Expr} {t t' : TGs} (h : PGs X tg t) (f : ∀ v sg H Q, t' v sg H Q → t v sg H Q) : PGs X tg t' := ⟨fun pins s sg H v u Q I r q => h.run pins s sg H v u Q I r (f _ _ _ _ q)⟩
section
variable {X : Cx} {cls : Nat → Value} {W : WX} {pos : Pos}
theorem pg_varM {i : Nat} {x : Str} (hN : X.N.Nodup) (hi : X.N[i]? = some x) (hx : Loc X.env.scope x) (hf : X.fn x = true ∨ X.env.scope.names.lookup x = some .local) : PG X (.Name x pos) (tGm X.K [i] (gVar i)) := by
  refine PG.weak (pg_name hN hi hx hf) fun v sg H Q h => ?_
  obtain ⟨rho, env, st, d, env', w, re, rd, e, h⟩ := h
  cases e
  exact h _ (re.set rd i) (by simp) fun j hj => by rw [List.getElem?_set_ne (fun z => hj (by simp [z]))]
def gVars : List Nat → List D → DEnv → Option DEnv
  | [], [], env => some env
  | i :: is, d :: ds, env => gVars is ds (env.set i (some d))
  | _, _, _ => none
def gTupV (is : List Nat) : MG := fun d env => match d with
  | .tup ds => gVars is ds env
  | .lst ds => gVars is ds env
  | _ => none
def tGsm (K : PySem.W.Frag) (is : List Nat) : TGs := fun vs sg H Q => ∃ rho env st ds env', Wld K rho st H ∧ RelEnv K rho H env sg ∧ RelDs K rho H ds vs ∧ gVars is ds env = some env' ∧
  ∀ sg', RelEnv K rho H env' sg' → sg'.length = sg.length → (∀ j, j ∉ is → sg'[j]? = sg[j]?) → Q sg' H
inductive NamesAt (X : Cx) : List Expr → List Nat → Prop where
  | nil : NamesAt X [] []
  | cons {x : Str} {p : Pos} {i : Nat} {es : List Expr} {is : List Nat} (hi : X.N[i]? = some x) (hx : Loc X.env.scope x) (hf : X.fn x = true ∨ X.env.scope.names.lookup x = some .local) (t : NamesAt X es is) : NamesAt X (.Name x p :: es) (i :: is)
theorem pgs_varsM (hN : X.N.Nodup) : ∀ {es : List Expr} {is : List Nat}, NamesAt X es is → PGs X es (tGsm X.K is)
  | _, _, .nil => PGs.weak pgs_nil fun v sg H Q h => by
    obtain ⟨rho, env, st, ds, env', w, re, rd, e, h⟩ := h
    cases ds with
    | nil =>
      cases e
      cases rd
      exact ⟨rfl, h sg re rfl fun _ _ => rfl⟩
    | cons d ds => cases e
  | _, _, .cons (x := x) (i := i) (is := is) hi hx hf t => PGs.weak (pgs_cons (pg_name hN hi hx hf) (pgs_varsM hN t) rfl) fun v sg H Q h => by
    obtain ⟨rho, env, st, ds, env', w, re, rd, e, h⟩ := h
    cases ds with
    | nil => cases e
    | cons d ds =>
      cases rd with
      | cons r1 r2 =>
        rename_i v1 vs1
        refine ⟨v1, vs1, rfl, rho, env.set i (some d), st, ds, env', w, re.set r1 i, r2, e, fun sg' re' hl hk => h sg' re' (by rw [hl]; simp) fun j hj => ?_⟩
        rw [hk j fun z => hj (List.mem_cons_of_mem _ z), List.getElem?_set_ne (fun z => hj (by rw [z]; exact List.mem_cons_self))]
theorem NamesAt.each {es : List Expr} {is : List Nat} (n : NamesAt X es is) : (assignEach es X.env).length = es.length ∧ (assignEach es X.env).findIdx? (·.1) = none := by
  induction n with
  | nil => exact ⟨rfl, rfl⟩
  | cons hi hx hf t ih =>
    rename_i x p i es is
    have e : assignEach (.Name x p :: es) X.env = (false, assign (.Name x p) X.env) :: assignEach es X.env := rfl
    rw [e]
    refine ⟨by simp [ih.1], ?_⟩
    rw [List.findIdx?_cons]
    simp [ih.2]
theorem NamesAt.len {es : List Expr} {is : List Nat} (n : NamesAt X es is) : es.length = is.length := by
  induction n with
  | nil => rfl
  | cons _ _ _ _ ih => simp [ih]
theorem gVars_len : ∀ {is : List Nat} {ds : List D} {env env' : DEnv}, gVars is ds env = some env' → ds.length = is.length
  | [], [], _, _, _ => rfl
  | _ :: is, _ :: ds, _, _, h => by simp [gVars_len (is := is) (ds := ds) h]
theorem PG.or {tg : Expr} {t t' : TG} (h : PG X tg t) (h' : PG X tg t') : PG X tg (fun v sg H Q => t v sg H Q ∨ t' v sg H Q) := ⟨fun pins s sg H v u Q I r q => q.elim (h.run pins s sg H v u Q I r) (h'.run pins s sg H v u Q I r)⟩
theorem pg_tupM {es : List Expr} {is : List Nat} {k : Nat} (hc : X.calm = true) (hN : X.N.Nodup) (n : NamesAt X es is) : PG X (.Tuple es k pos) (tGm X.K is (gTupV is)) := by
  refine PG.weak (PG.or (pg_tup (n := es.length) hc (pgs_varsM hN n) n.each.1 n.each.2) (pg_unl (n := es.length) hc (pgs_varsM hN n) n.each.1 n.each.2)) fun v sg H Q h => ?_
  obtain ⟨rho, env, st, d, env', w, re, rd, e, h⟩ := h
  unfold gTupV at e
  split at e
  · cases rd with
    | tup h1 h2 _ => exact .inl ⟨_, _, rfl, h1, by rw [← h2.length, gVars_len e, n.len], rho, env, st, _, env', w, re, h2, e, h⟩
  · cases rd with
    | lst h1 _ h2 => exact .inr ⟨_, _, rfl, SqL.of h1, by rw [← h2.length, gVars_len e, n.len], rho, env, st, _, env', w, re, h2, e, h⟩
  · cases e
structure ItOk (K : PySem.W.Frag) (J : It) (s : Src) (P : Rho → Hp → Prop) : Prop where
  stab : ∀ rho H rho' H', P rho H → Ext rho H rho' H' → P rho' H'
  go : ∀ (i : Nat) d rho st H, Wld K rho st H → P rho H → s.holds st → s.items[i]? = some d → J.go i H
  yld : ∀ (i : Nat) d rho st H x H', Wld K rho st H → P rho H → s.holds st → s.items[i]? = some d → J.yld i H x H' → Ext rho H rho H' ∧ Wld K rho st H' ∧ RelD K rho H' d x
  stop : ∀ i rho st H, Wld K rho st H → P rho H → s.holds st → s.items.length ≤ i → J.stop i H
  hide : ∀ rho H p xs, P rho H → H p = none → P (rho.hide p) (upd H p (.lst xs))
  grow : ∀ rho H p xs ys, p ∈ rho.res → H p = some (.lst xs) → P rho H → P rho (upd H p (.lst ys))
def tIm (K : PySem.W.Frag) (cls : Nat → Value) (W : WX) (m : MIt) : TI := fun sg H R => ∃ rho env st, Wld K rho st H ∧ RelEnv K rho H env sg ∧
  OkR K cls W sg rho H (m env st) (fun s st' rho' H' => ∀ J P, ItOk K J s P → P rho' H' → s.holds st' → R J H')
theorem it_tup {K : PySem.W.Frag} (a : Addr) (ds : List D) (vs : List V) : ItOk K (Itt K a) (.vals ds) (fun rho H => SqT K H a vs ∧ RelDs K rho H ds vs) where
  stab := fun rho H rho' H' p e => ⟨e.sqT p.1, p.2.ext e⟩
  go := fun i d rho st H w p _ hd => by
    obtain ⟨v, hv, _⟩ := p.2.get hd
    exact ⟨vs, v, p.1, hv⟩
  yld := fun i d rho st H x H' w p _ hd y => by
    obtain ⟨rfl, hy⟩ := y
    obtain ⟨v, hv, r⟩ := p.2.get hd
    have := hy vs p.1
    rw [hv] at this
    cases this
    exact ⟨Ext.refl _ _, w, r⟩
  stop := fun i rho st H w p _ hi => ⟨vs, p.1, by rw [← p.2.length]; exact hi⟩
  hide := fun rho H p xs q h => ⟨by
    rcases q.1 with (q | ⟨ob, q⟩) | q
    · exact .inl (.inl (by rw [upd_ne (ne_of_none q h)]; exact q))
    · exact .inl (.inr ⟨ob, by rw [upd_ne (ne_of_none q h)]; exact q⟩)
    · exact .inr q, q.2.hide h⟩
  grow := fun rho H p xs ys hp h q => ⟨by
    rcases q.1 with (q | ⟨ob, q⟩) | q
    · exact .inl (.inl ((Ext.grow (o' := .lst ys) hp h trivial).1 _ _ q))
    · exact .inl (.inr ⟨ob, (Ext.grow (o' := .lst ys) hp h trivial).2 _ _ _ q⟩)
    · exact .inr q, q.2.grow hp h trivial⟩
theorem it_lst {K : PySem.W.Frag} (a : Addr) (ds : List D) (vs : List V) : ItOk K (Itl K a) (.vals ds) (fun rho H => (H a = some (.lst vs) ∧ a ∉ rho) ∧ RelDs K rho H ds vs) where
  stab := fun rho H rho' H' p e => ⟨⟨e.keep _ _ p.1.1 p.1.2 nt_lst, e.notMem p.1.1 p.1.2⟩, p.2.ext e⟩
  go := fun i d rho st H w p _ hd => by
    obtain ⟨v, hv, _⟩ := p.2.get hd
    exact ⟨vs, v, SqL.of p.1.1, hv⟩
  yld := fun i d rho st H x H' w p _ hd y => by
    obtain ⟨rfl, hy⟩ := y
    obtain ⟨v, hv, r⟩ := p.2.get hd
    have := hy vs (SqL.of p.1.1)
    rw [hv] at this
    cases this
    exact ⟨Ext.refl _ _, w, r⟩
  stop := fun i rho st H w p _ hi => ⟨vs, SqL.of p.1.1, by rw [← p.2.length]; exact hi⟩
  hide := fun rho H p xs q h => ⟨⟨by rw [upd_ne (ne_of_none q.1.1 h)]; exact q.1.1, fun z => by
    rcases z with z | z
    · exact q.1.2 (.inl z)
    · rcases List.mem_cons.mp z with z | z
      · have := q.1.1
        rw [z, h] at this; cases this
      · exact q.1.2 (.inr z)⟩, q.2.hide h⟩
  grow := fun rho H p xs ys hp h q => ⟨⟨by rw [upd_ne (fun z => q.1.2 (by rw [z]; exact .inr hp))]; exact q.1.1, q.1.2⟩, q.2.grow hp h trivial⟩
theorem it_fz {K : PySem.W.Frag} (a : Addr) (ds : List D) (vs : List V) : ItOk K (Itl K a) (.vals ds) (fun rho H => FzL K H a vs ∧ RelDs K rho H ds vs) where
  stab := fun rho H rho' H' p e => ⟨e.fzL p.1, p.2.ext e⟩
  go := fun i d rho st H w p _ hd => by
    obtain ⟨v, hv, _⟩ := p.2.get hd
    exact ⟨vs, v, p.1.sq, hv⟩
  yld := fun i d rho st H x H' w p _ hd y => by
    obtain ⟨rfl, hy⟩ := y
    obtain ⟨v, hv, r⟩ := p.2.get hd
    have := hy vs p.1.sq
    rw [hv] at this
    cases this
    exact ⟨Ext.refl _ _, w, r⟩
  stop := fun i rho st H w p _ hi => ⟨vs, p.1.sq, by rw [← p.2.length]; exact hi⟩
  hide := fun rho H p xs q h => ⟨by
    rcases q.1 with ⟨ob, q⟩ | q
    · exact .inl ⟨ob, by rw [upd_ne (ne_of_none q h)]; exact q⟩
    · exact .inr q, q.2.hide h⟩
  grow := fun rho H p xs ys hp h q => ⟨by
    rcases q.1 with ⟨ob, q⟩ | q
    · exact .inl ⟨ob, (Ext.grow (o' := .lst ys) hp h trivial).2 _ _ _ q⟩
    · exact .inr q, q.2.grow hp h trivial⟩
theorem it_live {K : PySem.W.Frag} (a : Addr) (l : Nat) (ds : List D) : ItOk K (Itl K a) (.live l ds) (fun rho H => rho.loc[l]? = some a) where
  stab := fun rho H rho' H' p e => e.get p
  go := fun i d rho st H w p hs hd => by
    obtain ⟨vs, h1, h2⟩ := w.obj l a _ p hs
    obtain ⟨v, hv, _⟩ := h2.get hd
    exact ⟨vs, v, SqL.of h1, hv⟩
  yld := fun i d rho st H x H' w p hs hd y => by
    obtain ⟨rfl, hy⟩ := y
    obtain ⟨vs, h1, h2⟩ := w.obj l a _ p hs
    obtain ⟨v, hv, r⟩ := h2.get hd
    have := hy vs (SqL.of h1)
    rw [hv] at this
    cases this
    exact ⟨Ext.refl _ _, w, r⟩
  stop := fun i rho st H w p hs hi => by
    obtain ⟨vs, h1, h2⟩ := w.obj l a _ p hs
    exact ⟨vs, SqL.of h1, by rw [← h2.length]; exact hi⟩
  hide := fun rho H p xs q h => q
  grow := fun rho H p xs ys hp h q => q
theorem it_range {K : PySem.W.Frag} (lo : Int) (n : Nat) : ItOk K (Itr lo n) (.vals (rangeD lo n)) (fun _ _ => True) where
  stab := fun _ _ _ _ _ _ => trivial
  go := fun i d rho st H w p _ hd => by
    obtain ⟨hl, _⟩ := List.getElem?_eq_some_iff.mp hd
    show i < n
    simpa [Src.items, rangeD] using hl
  yld := fun i d rho st H x H' w p _ hd y => by
    obtain ⟨rfl, rfl⟩ := y
    obtain ⟨hl, e⟩ := List.getElem?_eq_some_iff.mp hd
    simp [Src.items, rangeD] at e
    subst e
    exact ⟨Ext.refl _ _, w, .int _⟩
  stop := fun i rho st H w p _ hi => by
    show n ≤ i
    simpa [Src.items, rangeD] using hi
  hide := fun _ _ _ _ _ _ => trivial
  grow := fun _ _ _ _ _ _ _ _ => trivial
theorem it_rangeC {K : PySem.W.Frag} (lo c : Int) (n : Nat) : ItOk K (Itc lo c n) (.vals (rangeC lo c n)) (fun _ _ => True) where
  stab := fun _ _ _ _ _ _ => trivial
  go := fun i d rho st H w p _ hd => by
    obtain ⟨hl, _⟩ := List.getElem?_eq_some_iff.mp hd
    show i < n
    simpa [Src.items, rangeC] using hl
  yld := fun i d rho st H x H' w p _ hd y => by
    obtain ⟨rfl, rfl⟩ := y
    obtain ⟨hl, e⟩ := List.getElem?_eq_some_iff.mp hd
    simp [Src.items, rangeC] at e
    subst e
    exact ⟨Ext.refl _ _, w, .int _⟩
  stop := fun i rho st H w p _ hi => by
    show n ≤ i
    simpa [Src.items, rangeC] using hi
  hide := fun _ _ _ _ _ _ => trivial
  grow := fun _ _ _ _ _ _ _ _ => trivial
theorem it_str {K : PySem.W.Frag} (z : Str) : ItOk K (Its z) (.vals (z.cps.toList.map fun c => .str ⟨#[c]⟩)) (fun _ _ => True) where
  stab := fun _ _ _ _ _ _ => trivial
  go := fun i d rho st H w p _ hd => by
    obtain ⟨hl, _⟩ := List.getElem?_eq_some_iff.mp hd
    simp [Src.items] at hl
    first | exact hl | exact ⟨_, List.getElem?_eq_getElem hl⟩ | (simp [Its]; exact hl)
  yld := fun i d rho st H x H' w p _ hd y => by
    obtain ⟨rfl, y⟩ := y
    obtain ⟨hl, e⟩ := List.getElem?_eq_some_iff.mp hd
    simp [Src.items] at e hl
    refine ⟨Ext.refl _ _, w, ?_⟩
    subst e
    first
    | (obtain ⟨c, hc, rfl⟩ := y; simp [hl] at hc; subst hc; exact .str _)
    | (simp [hl] at y; subst y; exact .str _)
  stop := fun i rho st H w p _ hi => by
    simp [Src.items] at hi
    first | exact hi | (simp [Its]; exact hi)
  hide := fun _ _ _ _ _ _ => trivial
  grow := fun _ _ _ _ _ _ _ _ => trivial
end
end MI
namespace MI
open PySem PySem.Spec PyProof.Rows L2
variable [TC : TabsC]
section
variable {X : Cx} {cls : Nat → Value} {W : WX} {pos : Pos} {tg l e iter : Expr} {m ma mb : ME}
theorem pi_seqM (h : PE X l (tE X.K cls W m)) : PI X tg l (tIm X.K cls W (iSeq m)) := by
  refine PI.weak (PI.or (pi_list h) (PI.or (pi_tup h) (pi_str h))) fun sg H R hq => ?_
  obtain ⟨rho, env, st, w, re, hq⟩ := hq
  unfold iSeq at hq
  cases q : m env st with
  | stuck => rw [q] at hq; exact hq.elim
  | exc c st1 => exact .inl ⟨rho, env, st, w, re, by rw [q] at hq ⊢; exact hq⟩
  | ok d st1 =>
    rw [q] at hq
    simp only [MI.R.bind_ok] at hq
    split at hq
    · rename_i ll
      split at hq
      · rename_i ds hl
        refine .inl ⟨rho, env, st, w, re, ?_⟩
        rw [q]
        intro rho1 H1 e1 w1 v rv
        cases rv with
        | ref ha =>
          rename_i a
          obtain ⟨vs, h1, h2⟩ := w1.obj ll a _ ha hl
          exact ⟨a, rfl, ⟨vs, SqL.of h1⟩, hq rho1 H1 e1 w1 _ _ (it_live a ll ds) ha hl⟩
      · exact hq.elim
    · refine .inr (.inl ⟨rho, env, st, w, re, ?_⟩)
      rw [q]
      intro rho1 H1 e1 w1 v rv
      cases rv with
      | tup h1 h2 _ => exact ⟨_, rfl, ⟨_, h1⟩, hq rho1 H1 e1 w1 _ _ (it_tup _ _ _) ⟨h1, h2⟩ trivial⟩
    · refine .inl ⟨rho, env, st, w, re, ?_⟩
      rw [q]
      intro rho1 H1 e1 w1 v rv
      cases rv with
      | lst h1 n h2 => exact ⟨_, rfl, ⟨_, SqL.of h1⟩, hq rho1 H1 e1 w1 _ _ (it_lst _ _ _) ⟨⟨h1, n⟩, h2⟩ trivial⟩
    · refine .inl ⟨rho, env, st, w, re, ?_⟩
      rw [q]
      intro rho1 H1 e1 w1 v rv
      cases rv with
      | fz h1 h2 => exact ⟨_, rfl, ⟨_, h1.sq⟩, hq rho1 H1 e1 w1 _ _ (it_fz _ _ _) ⟨h1, h2⟩ trivial⟩
    · refine .inr (.inr ⟨rho, env, st, w, re, ?_⟩)
      rw [q]
      intro rho1 H1 e1 w1 v rv
      cases rv
      exact ⟨_, rfl, hq rho1 H1 e1 w1 _ _ (it_str _) trivial trivial⟩
    · exact hq.elim
theorem pi_range1M {p : Pos} (hp : plainE l = true) (hg : Gl X "range") (hm : X.mg "range" = none) (h : PE X l (tE X.K cls W m)) : PI X tg (.Call (.Name "range" p) [l] [] pos) (tIm X.K cls W (iRange1 m)) := by
  have ha : PA X [l] (tCons (tE X.K cls W m) tNil) := pa_cons h pa_nil (star_plain hp)
  refine PI.weak (pi_range1 hg hm ha (star_plain hp)) fun sg H R hq => ?_
  obtain ⟨rho, env, st, w, re, hq⟩ := hq
  refine ⟨rho, env, st, w, re, OkR.mono (OkR.bind hq) fun d st1 rho1 H1 e1 w1 h1 v rv => ?_⟩
  split at h1
  · split at h1
    · rename_i hb
      cases rv
      exact ⟨_, rfl, hb.1, hb.2, h1 rho1 H1 (Ext.refl _ _) w1 _ _ (it_range 0 _) trivial trivial⟩
    · exact h1.elim
  · exact h1.elim
theorem pi_range2M {p : Pos} {l2 : Expr} {m2 : ME} (hp : plainE l = true) (hp2 : plainE l2 = true) (hg : Gl X "range") (hm : X.mg "range" = none) (h : PE X l (tE X.K cls W m)) (h2 : PE X l2 (tE X.K cls W m2)) : PI X tg (.Call (.Name "range" p) [l, l2] [] pos) (tIm X.K cls W (iRange2 m m2)) := by
  have ha : PA X [l, l2] (tCons (tE X.K cls W m) (tCons (tE X.K cls W m2) tNil)) := pa_cons h (pa_cons h2 pa_nil (star_plain hp2)) (star_plain hp)
  refine PI.weak (pi_range2 hg hm ha (by rw [star_plain hp, star_plain hp2]; rfl) (by rw [star_plain hp2]; rfl)) fun sg H R hq => ?_
  obtain ⟨rho, env, st, w, re, hq⟩ := hq
  refine ⟨rho, env, st, w, re, OkR.mono (OkR.bind hq) fun d st1 rho1 H1 e1 w1 h1 v rv => ?_⟩
  refine ⟨rho1, env, st1, w1, re.ext e1, OkR.mono (OkR.bind h1) fun d2 st2 rho2 H2 e2 w2 h2 v2 rv2 => ?_⟩
  split at h2
  · split at h2
    · rename_i hb
      cases rv; cases rv2
      exact ⟨_, _, rfl, hb, h2 rho2 H2 (Ext.refl _ _) w2 _ _ (it_range _ _) trivial trivial⟩
    · exact h2.elim
  · exact h2.elim
theorem pi_range3M {p : Pos} {l2 l3 : Expr} {m2 m3 : ME} (hp : plainE l = true) (hp2 : plainE l2 = true) (hp3 : plainE l3 = true) (hg : Gl X "range") (hm : X.mg "range" = none) (h : PE X l (tE X.K cls W m)) (h2 : PE X l2 (tE X.K cls W m2)) (h3 : PE X l3 (tE X.K cls W m3)) : PI X tg (.Call (.Name "range" p) [l, l2, l3] [] pos) (tIm X.K cls W (iRange3 m m2 m3)) := by
  have ha : PA X [l, l2, l3] (tCons (tE X.K cls W m) (tCons (tE X.K cls W m2) (tCons (tE X.K cls W m3) tNil))) := pa_cons h (pa_cons h2 (pa_cons h3 pa_nil (star_plain hp3)) (star_plain hp2)) (star_plain hp)
  refine PI.weak (pi_range3 hg hm ha (by rw [star_plain hp]) (by rw [star_plain hp2, star_plain hp3]; rfl)) fun sg H R hq => ?_
  obtain ⟨rho, env, st, w, re, hq⟩ := hq
  refine ⟨rho, env, st, w, re, OkR.mono (OkR.bind hq) fun d st1 rho1 H1 e1 w1 h1 v rv => ?_⟩
  refine ⟨rho1, env, st1, w1, re.ext e1, OkR.mono (OkR.bind h1) fun d2 st2 rho2 H2 e2 w2 h2 v2 rv2 => ?_⟩
  refine ⟨rho2, env, st2, w2, (re.ext e1).ext e2, OkR.mono (OkR.bind h2) fun d3 st3 rho3 H3 e3 w3 h3 v3 rv3 => ?_⟩
  split at h3
  · split at h3
    · rename_i hb
      cases rv; cases rv2; cases rv3
      rename_i i j k
      refine ⟨_, _, _, (Builtin.Range.rangeSize i j k).toNat, rfl, ⟨hb.1, hb.2.1, hb.2.2, ?_⟩, h3 rho3 H3 (Ext.refl _ _) w3 _ _ (it_rangeC _ _ _) trivial trivial⟩
      refine (Int.toNat_of_nonneg ?_).symm
      unfold Builtin.Range.rangeSize
      split
      · rename_i q
        split
        · have : 0 ≤ (j - i - 1) / k := Int.ediv_nonneg (by omega) (by omega)
          omega
        · exact Int.le_refl _
      · rename_i q
        split
        · have : 0 ≤ (i - j - 1) / (-k) := Int.ediv_nonneg (by omega) (by have := hb.1; omega)
          omega
        · exact Int.le_refl _
    · exact h3.elim
  · exact h3.elim
theorem pss_stuck {ss : List Stmt} : PSs X ss (tS X.K cls W sStuck) := ⟨fun _ _ _ _ _ _ h => by
  obtain ⟨_, _, _, _, _, h⟩ := h
  exact h.elim⟩
theorem pss_nilM : PSs X [] (tS X.K cls W sSkip) := PSs.weak pss_nil fun E sg H h => by
  obtain ⟨rho, env, st, w, re, h⟩ := h
  exact h sg rho H (Ext.refl _ _) w re
theorem OkS.then {K : PySem.W.Frag} {rho : Rho} {H : Hp} {r : SR} {f : DEnv → Sto → SR} {E : Ends} (h : OkS K cls W rho H (r.then f) E) : OkS K cls W rho H r { E with nx := tS K cls W f E } := by
  cases r with
  | nx env st => exact fun sg rho1 H1 e1 w1 re1 => ⟨rho1, env, st, w1, re1, OkS.from h e1⟩
  | bk env st => exact h
  | ct env st => exact h
  | rt d st => exact h
  | exc c env st => exact h
  | stuck => exact h
theorem pss_consM {s : Stmt} {ss : List Stmt} {a b : MS} (h1 : PS X s (tS X.K cls W a)) (h2 : PSs X ss (tS X.K cls W b)) : PSs X (s :: ss) (tS X.K cls W (sSeq a b)) := by
  refine PSs.weak (pss_cons h1 h2) fun E sg H h => ?_
  obtain ⟨rho, env, st, w, re, h⟩ := h
  exact ⟨rho, env, st, w, re, OkS.then h⟩
theorem ps_passM : PS X (.Pass pos) (tS X.K cls W sSkip) := PS.weak ps_pass fun E sg H h => by
  obtain ⟨rho, env, st, w, re, h⟩ := h
  exact h sg rho H (Ext.refl _ _) w re
theorem ps_exprM (he : PE X e (tE X.K cls W m)) (hc : noComp e = true) : PS X (.Expr e pos) (tS X.K cls W (sExpr m)) := by
  refine PS.weak (ps_expr he (swaps_no hc)) fun E sg H h => ?_
  obtain ⟨rho, env, st, w, re, h⟩ := h
  refine ⟨rho, env, st, w, re, ?_⟩
  unfold sExpr at h
  cases q : m env st with
  | ok d st1 => rw [q] at h; exact fun rho1 H1 e1 w1 v rv => h sg rho1 H1 e1 w1 (re.ext e1)
  | exc c st1 => rw [q] at h; exact fun rho1 H1 e1 w1 => h sg rho1 H1 e1 w1 (re.ext e1)
  | stuck => rw [q] at h; exact h
theorem ps_retM (he : PE X e (tE X.K cls W m)) : PS X (.Return (some e) pos) (tS X.K cls W (sRet m)) := by
  refine PS.weak (ps_ret he) fun E sg H h => ?_
  obtain ⟨rho, env, st, w, re, h⟩ := h
  refine ⟨rho, env, st, w, re, ?_⟩
  unfold sRet at h
  cases q : m env st with
  | ok d st1 => rw [q] at h; exact fun rho1 H1 e1 w1 v rv => h v rho1 H1 e1 w1 rv
  | exc c st1 => rw [q] at h; exact fun rho1 H1 e1 w1 => h sg rho1 H1 e1 w1 (re.ext e1)
  | stuck => rw [q] at h; exact h
theorem tS_asg {K : PySem.W.Frag} {vs : List Nat} {g : MG} {E : Ends} {sg : L2.St} {H : Hp} (h : tS K cls W (sAsg m g) E sg H) : tAsg (tE K cls W m) (tGm K vs g) E sg H := by
  obtain ⟨rho, env, st, w, re, h⟩ := h
  refine ⟨rho, env, st, w, re, ?_⟩
  unfold sAsg at h
  cases q : m env st with
  | ok d st1 =>
    rw [q] at h
    intro rho1 H1 e1 w1 v rv
    cases q2 : g d env with
    | none => simp only [q2] at h; exact h.elim
    | some env2 =>
      simp only [q2] at h
      exact ⟨rho1, env, st1, d, env2, w1, re.ext e1, rv, q2, fun sg' re' _ _ => h sg' rho1 H1 e1 w1 re'⟩
  | exc c st1 => rw [q] at h; exact fun rho1 H1 e1 w1 => h sg rho1 H1 e1 w1 (re.ext e1)
  | stuck => rw [q] at h; exact h
theorem ps_setM {i : Nat} {x : Str} {p : Pos} (hN : X.N.Nodup) (hi : X.N[i]? = some x) (hx : Loc X.env.scope x) (hf : X.fn x = true ∨ X.env.scope.names.lookup x = some .local) (he : PE X e (tE X.K cls W m)) (hs : swapsWith e (some (.Name x p)) pos.line X.env = pure false) :
    PS X (.Assign [.Name x p] e pos) (tS X.K cls W (sAsg m (gVar i))) := by
  refine PS.weak (ps_set hN hi hx he hs hf) fun E sg H h => ?_
  have h' := tS_asg (vs := [i]) h
  obtain ⟨rho, env, st, w, re, h'⟩ := h'
  refine ⟨rho, env, st, w, re, OkR.mono h' fun d st1 rho1 H1 e1 w1 h1 v rv => ?_⟩
  obtain ⟨rho2, env2, st2, d2, env3, w2, re2, rd2, eg, h2⟩ := h1 v rv
  cases eg
  exact h2 _ (re2.set rd2 i) (by simp) fun j hj => by rw [List.getElem?_set_ne (fun z => hj (by simp [z]))]
theorem ps_tupM {es : List Expr} {is : List Nat} {k : Nat} {p : Pos} (hc : X.calm = true) (hN : X.N.Nodup) (n : NamesAt X es is) (he : PE X e (tE X.K cls W m)) (hs : noComp e = true) (ht : noTuple e = true) : PS X (.Assign [.Tuple es k p] e pos) (tS X.K cls W (sAsg m (gTupV is))) := by
  refine PS.weak (ps_asg he (pg_tupM (pos := p) (k := k) hc hN n) (by unfold swapsWithSole; exact swaps_no hs) ?_ rfl) fun E sg H h => tS_asg h
  cases e <;> first | rfl | cases ht
theorem ps_ifM {c : Expr} {mc : ME} {ss ts : List Stmt} {a b : MS} (hc : PT X c (tTm X.K cls W mc)) (ha : PSs X ss (tS X.K cls W a)) (hb : PSs X ts (tS X.K cls W b)) : PS X (.If c ss ts pos) (tS X.K cls W (sIf mc a b)) := by
  refine PS.weak (ps_if hc ha hb) fun E sg H h => ?_
  obtain ⟨rho, env, st, w, re, h⟩ := h
  refine ⟨rho, env, st, w, re, ?_⟩
  unfold sIf at h
  cases q : mT mc env st with
  | ok k st1 =>
    rw [q] at h
    intro rho1 H1 e1 w1
    cases k with
    | true => rw [if_pos rfl]; exact ⟨rho1, env, st1, w1, re.ext e1, OkS.from h e1⟩
    | false => rw [if_neg (by simp)]; exact ⟨rho1, env, st1, w1, re.ext e1, OkS.from h e1⟩
  | exc c st1 => rw [q] at h; exact fun rho1 H1 e1 w1 => h sg rho1 H1 e1 w1 (re.ext e1)
  | stuck => rw [q] at h; exact h
theorem ps_whileM {c : Expr} {mc : ME} {ss : List Stmt} {b : MS} {n : Nat} (hp : PassesOwn (model X.prog X.w) X.A X.env X.xe) (hc : PT X c (tTm X.K cls W mc)) (hb : PSs X ss (tS X.K cls W b)) : PS X (.While c ss [] pos) (tS X.K cls W (sWhile mc b n)) := by
  refine PS.weak (ps_while hp hc hb) fun E sg H h => ?_
  obtain ⟨rho, env, st, w, re, h⟩ := h
  refine ⟨fun k sg' H' => ∃ rho' env' st', Wld X.K rho' st' H' ∧ RelEnv X.K rho' H' env' sg' ∧ OkS X.K cls W rho' H' (sWhile mc b k env' st') E, ⟨n, rho, env, st, w, re, h⟩, ?_⟩
  rintro k sg1 H1 ⟨rho1, env1, st1, w1, re1, h1⟩
  cases k with
  | zero => exact h1.elim
  | succ k =>
    refine ⟨rho1, env1, st1, w1, re1, ?_⟩
    unfold sWhile at h1
    cases q : mT mc env1 st1 with
    | ok kk st2 =>
      rw [q] at h1
      intro rho2 H2 e2 w2
      cases kk with
      | true =>
        rw [if_pos rfl]
        refine ⟨fun sg' H' => ∃ rho' env' st', Wld X.K rho' st' H' ∧ RelEnv X.K rho' H' env' sg' ∧ OkS X.K cls W rho' H' (sWhile mc b k env' st') E, fun sg' H' q => ⟨k, Nat.lt_succ_self k, q⟩, rho2, env1, st2, w2, re1.ext e2, ?_⟩
        simp only at h1
        cases q2 : b env1 st2 with
        | nx env3 st3 => rw [q2] at h1; exact fun sg3 rho3 H3 e3 w3 re3 => ⟨rho3, env3, st3, w3, re3, OkS.from h1 (e2.trans e3)⟩
        | ct env3 st3 => rw [q2] at h1; exact fun sg3 rho3 H3 e3 w3 re3 => ⟨rho3, env3, st3, w3, re3, OkS.from h1 (e2.trans e3)⟩
        | bk env3 st3 => rw [q2] at h1; exact fun sg3 rho3 H3 e3 w3 re3 => h1 sg3 rho3 H3 (e2.trans e3) w3 re3
        | rt d st3 => rw [q2] at h1; exact fun v rho3 H3 e3 w3 rv => h1 v rho3 H3 (e2.trans e3) w3 rv
        | exc x env3 st3 => rw [q2] at h1; exact fun sg3 rho3 H3 e3 w3 re3 => h1 sg3 rho3 H3 (e2.trans e3) w3 re3
        | stuck => rw [q2] at h1; exact h1
      | false =>
        rw [if_neg (by simp)]
        exact h1 sg1 rho2 H2 e2 w2 (re1.ext e2)
    | exc c st2 => rw [q] at h1; exact fun rho2 H2 e2 w2 => h1 sg1 rho2 H2 e2 w2 (re1.ext e2)
    | stuck => rw [q] at h1; exact h1
theorem folded_no {iter : Expr} {env : Env} (h : noSet iter = true) : ∀ x, foldedSetIterable iter env x = pure x := by
  intro x
  cases iter <;> first | rfl | cases h
theorem ps_forM {ss : List Stmt} {mi : MIt} {g : MG} {vs : List Nat} {b : MS} (hp : PassesOwn (model X.prog X.w) X.A X.env X.xe) (hc : X.calm = true) (hs : noSet iter = true) (hi : PI X tg iter (tIm X.K cls W mi)) (hg : PG X tg (tGm X.K vs g)) (hb : PSs X ss (tS X.K cls W b)) :
    PS X (.For tg iter ss [] pos) (tS X.K cls W (sFor mi g b)) := by
  refine PS.weak (ps_for hp hc hi hg hb (folded_no hs)) fun E sg H h => ?_
  obtain ⟨rho, env, st, w, re, h⟩ := h
  refine ⟨rho, env, st, w, re, ?_⟩
  unfold sFor at h
  cases q : mi env st with
  | stuck => rw [q] at h; exact h
  | exc c st1 => rw [q] at h; exact fun rho1 H1 e1 w1 => h sg rho1 H1 e1 w1 (re.ext e1)
  | ok s st1 =>
    rw [q] at h
    intro rho1 H1 e1 w1 J P it hP hold
    refine ⟨fun i k sg' H' => ∃ rho' env' st', Wld X.K rho' st' H' ∧ RelEnv X.K rho' H' env' sg' ∧ P rho' H' ∧ s.holds st' ∧ k = s.items.length - i ∧ i ≤ s.items.length ∧ OkS X.K cls W rho' H' (forGo s g b (s.items.drop i) env' st') E,
      ⟨_, rho1, env, st1, w1, re.ext e1, hP, hold, rfl, Nat.zero_le _, by rw [List.drop_zero]; exact OkS.from h e1⟩, ?_⟩
    rintro i k sg2 H2 ⟨rho2, env2, st2, w2, re2, hP2, hold2, rfl, hle, ho⟩
    by_cases hlt : i < s.items.length
    · have hd : s.items[i]? = some s.items[i] := List.getElem?_eq_getElem hlt
      have edrop : s.items.drop i = s.items[i] :: s.items.drop (i + 1) := List.drop_eq_getElem_cons hlt
      rw [edrop] at ho
      unfold forGo at ho
      refine .inr ⟨it.go i _ rho2 st2 H2 w2 hP2 hold2 hd, fun sg' H' => ∃ rho' env' st', Wld X.K rho' st' H' ∧ RelEnv X.K rho' H' env' sg' ∧ P rho' H' ∧ s.holds st' ∧ OkS X.K cls W rho' H' (forGo s g b (s.items.drop (i + 1)) env' st') E, fun sg' H' ⟨r', v', t', a1, a2, a3, a4, a5⟩ => ⟨s.items.length - (i + 1), by omega, r', v', t', a1, a2, a3, a4, rfl, hlt, a5⟩, fun x H3 y => ?_⟩
      obtain ⟨e3, w3, rd⟩ := it.yld i _ rho2 st2 H2 x H3 w2 hP2 hold2 hd y
      have hP3 := it.stab _ _ _ _ hP2 e3
      cases q2 : g s.items[i] env2 with
      | none => rw [q2] at ho; exact ho.elim
      | some env3 =>
        rw [q2] at ho
        refine ⟨rho2, env2, st2, _, env3, w3, re2.ext e3, rd, q2, fun sg3 re3 _ _ => ⟨rho2, env3, st2, w3, re3, ?_⟩⟩
        simp only at ho
        cases q3 : b env3 st2 with
        | nx env4 st4 =>
          rw [q3] at ho
          simp only at ho
          split at ho
          · rename_i hh
            exact fun sg4 rho4 H4 e4 w4 re4 => ⟨rho4, env4, st4, w4, re4, it.stab _ _ _ _ hP3 e4, hh, OkS.from ho (e3.trans e4)⟩
          · exact ho.elim
        | ct env4 st4 =>
          rw [q3] at ho
          simp only at ho
          split at ho
          · rename_i hh
            exact fun sg4 rho4 H4 e4 w4 re4 => ⟨rho4, env4, st4, w4, re4, it.stab _ _ _ _ hP3 e4, hh, OkS.from ho (e3.trans e4)⟩
          · exact ho.elim
        | bk env4 st4 => rw [q3] at ho; exact fun sg4 rho4 H4 e4 w4 re4 => ho sg4 rho4 H4 (e3.trans e4) w4 re4
        | rt d st4 => rw [q3] at ho; exact fun v rho4 H4 e4 w4 rv => ho v rho4 H4 (e3.trans e4) w4 rv
        | exc x env4 st4 => rw [q3] at ho; exact fun sg4 rho4 H4 e4 w4 re4 => ho sg4 rho4 H4 (e3.trans e4) w4 re4
        | stuck => rw [q3] at ho; exact ho
    · have ei : i = s.items.length := by omega
      have edrop : s.items.drop i = [] := by rw [ei]; exact List.drop_length
      rw [edrop] at ho
      exact .inl ⟨it.stop i rho2 st2 H2 w2 hP2 hold2 (by omega), ho sg2 rho2 H2 (Ext.refl _ _) w2 re2⟩
abbrev WF : WX := fun _ _ _ _ => False
end
end MI
namespace MI
open PySem PySem.Spec PyProof.Rows L2
section
variable {M : Model} {A : Around} {E : Value → Shared → Prop} {s : Shared} {B : Heap} {env : Env} {outer : List Env} {a L C : Addr} {Z : Obj → Prop}
theorem rawInt_ne {i j : Nat} (h : i ≠ j) : (rawInt (i : Int) == rawInt (j : Int)) = false := by
  simp [rawInt]
  omega
theorem note_sky {Q : Unit → Shared → Prop} (hZ : HandSPX.Steady Z) (hfr : A.frames = some (env :: outer)) (hf : env.frame = some L) (hne : C ≠ L) (x : Sky B (env :: outer) a Z C s.heap)
    (q : ∀ h', HandSPX.HeldZ B (env :: outer) a Z L h' → s.heap.UpToSlots h' → Q () { s with heap := h' }) : wpAny M A (noteFrame (.ref a) env) Q E s := by
  rcases x with ⟨b1, b2, ff, oe, vs, e1, e2, e3, e4⟩ | fl | ⟨b1, b2, ff, oe, vs, T, oT, ts, e1, e2, e3, e4, t1, t2, t3, t4, t5⟩
  · exact HandSPX.look_newZ hZ hfr ff hf e1 b1 b2 e3 e4 e2 q
  · exact HandSPX.looks_onZ hZ hfr hf fl q
  · have nr : ∀ c u, s.heap.get? c = some u → (∀ ws, u.data ≠ .fields ws) → c ≠ T := fun c u h1 h2 z => by
      subst z
      rw [t3] at h1
      cases h1
      exact h2 _ t4
    have ot : ∀ c, c ≠ T → (s.heap.update T (Obj.mapFields (·.setIfInBounds 3 Value.none))).get? c = s.heap.get? c := fun c h => Heap.get?_update_other _ _ (fun z => h z.symm)
    unfold noteFrame
    simp only [hf]
    refine wpAny_bind (wpAny_field e1 e3 e4 ?_)
    rw [if_pos (show ((Value.ref T : Value) != Value.none) = true by simp)]
    refine wpAny_bind (wpAny_field t3 t4 t5 ?_)
    rw [if_neg (show ¬ (rawInt (C : Int) == rawInt (L : Int)) = true by rw [rawInt_ne hne]; simp)]
    refine wpAny_bind (wpAny_setField t3 t4 (Array.getElem?_eq_some_iff.mp t5).1 ?_)
    refine HandSPX.wpAny_entryZ hZ hfr (ff.of_keeps fun c u h1 h2 => ⟨u, (ot c (nr c u h1 h2)).trans h1, rfl⟩) hf ((ot a fun z => t2 z.symm).trans e1) (fun c u h => (ot c fun z => by rw [z, t1] at h; cases h).trans (b1 c u h)) b2 e3 (Array.getElem?_eq_some_iff.mp e4).1 e2 fun h' n => ?_
    obtain ⟨n1, n2, n3, n4⟩ := n
    exact q h' ⟨n1, b2, n2, n3⟩ fun c u h1 h2 => n4 c u ((ot c (nr c u h1 h2)).trans h1) h2
theorem held_cut {h h' : Heap} {l : List Env} {m m' : Str → Option Value} (x : HandSPX.HeldZ B l a Z L h) (hn : h.Ns C m) (hn' : h'.Ns C m') (sb : Heap.SameBut C h h') :
    ∃ B' : Heap, HandSPX.HeldZ B' l a Z L h' ∧ ∀ b, b ≠ C → B'.get? b = B.get? b := by
  obtain ⟨b1, b2, ff, oe, vs, T, oT, ts, e1, e2, e3, e4, t1, t2, t3, t4, t5⟩ := x
  obtain ⟨B', r1, r2⟩ := restrict B fun b => decide (b ≠ C)
  have sub : ∀ b, B.get? b = none → B'.get? b = none := fun b h => by
    by_cases z : b = C
    · exact r2 b (by simp [z])
    · rw [r1 b (by simp [z])]; exact h
  obtain ⟨oC, es, ep, c1, c2, _⟩ := hn
  have ne : ∀ {b : Addr} {u : Obj} {ws : Array Value}, h.get? b = some u → u.data = .fields ws → b ≠ C := fun {b u ws} h1 h2 z => by
    subst z
    rw [c1] at h1
    cases h1
    rw [c2] at h2
    cases h2
  refine ⟨B', ⟨fun b u h0 => ?_, sub _ b2, ?_, oe, vs, T, oT, ts, (sb.2 a (ne e1 e3)).trans e1, e2, e3, e4, sub _ t1, t2, (sb.2 T (ne t3 t4)).trans t3, t4, t5⟩, fun b hb => r1 b (by simp [hb])⟩
  · by_cases z : b = C
    · rw [r2 b (by simp [z])] at h0; cases h0
    · rw [r1 b (by simp [z])] at h0
      exact (sb.2 b z).trans (b1 b u h0)
  · have go : ∀ l : List Env, h'.FunFrames B l → h'.FunFrames B' l := by
      intro l
      induction l with
      | nil => intro _; trivial
      | cons v r ih =>
        rintro ⟨k1, ⟨L', o, k2, k3, k4, k5⟩, k6⟩
        exact ⟨k1, ⟨L', o, k2, sub _ k3, k4, k5⟩, ih k6⟩
    exact go _ (Heap.FunFrames.sameBut sb hn' ff)
end
def xeC (X : Cx) (ce : Env) : Value → Shared → Prop := notedBy (model X.prog X.w) X.A ce (CompFails (model X.prog X.w) X.A X.xe ce)
theorem xeC_own {X : Cx} {ce : Env} : PassesOwn (model X.prog X.w) X.A ce (xeC X ce) := PassesOwn.looking
theorem takes_blk {X : Cx} {pins : List (Addr × Obj)} {σ : L2.St} {H : Hp} {s : Shared} {W : WX} {scope : Scope} {ce : Env} {fp : List Addr} (hst : X.stack = X.env :: X.outer) (hf : X.env.frame = some X.env.locals) (tk : Takes X W) (I : Inv X pins σ H s)
    (cL : ce.locals = s.heap.objs.size) (cf : ce.frame = X.env.frame) (fo : ∀ b ∈ fp, FpOk X pins H b) : Takes ((X.blk s H scope ce fp).tr [] (xeC X ce)) (fun c d _ H => W c d σ H) := by
  rintro u t ⟨a, B, sI, pi, σ1, H1, cls, d, rfl, J, nb, up, sky, na, os, ag, w⟩
  have nC : H1 ce.locals = none := J.free
  have fC : FpOk X pins H1 ce.locals := by
    rw [cL]
    exact I.fpOk (Nat.le_refl _) (by rw [← cL]; exact nC)
  have IX : Inv X pins σ H1 sI := I.call' (ch := fp) J.os J.base J.hok J.bare fun b hb => ⟨(fo b hb).2.2.2.1, (fo b hb).2.1, (fo b hb).2.2.2.2.1, (fo b hb).2.2.2.2.2⟩
  obtain ⟨m, hn, _⟩ := J.loc
  have hn : sI.heap.Ns ce.locals m := hn
  have sky' : Sky B (X.env :: X.outer) a (Zc cls d) ce.locals t.heap := by rw [← hst]; exact sky
  show wpAny (model X.prog X.w) X.A (noteFrame (.ref a) ce) _ _ t
  rw [noteFrame_env _ cf]
  refine note_sky Zc.steady (by rw [I.ok.frames, hst]) hf fC.2.1 sky' fun h1 hd1 up1 => ?_
  have hn1 : h1.Ns ce.locals m := (hn.upToSlots up).upToSlots up1
  refine ⟨m, hn1, fun h2 m2 hn2 sb => ?_⟩
  obtain ⟨B', hd2, rB⟩ := held_cut hd1 hn1 hn2 sb
  obtain ⟨G, g1, g2⟩ := restrict sI.heap fun b => decide (b ≠ ce.locals)
  have gs : ∀ b o, G.get? b = some o → b ≠ ce.locals ∧ sI.heap.get? b = some o := fun b o e => by
    by_cases z : b = ce.locals
    · rw [g2 b (by simp [z])] at e; cases e
    · exact ⟨z, by rw [← g1 b (by simp [z])]; exact e⟩
  obtain ⟨_, _, _, oe, vs, T, oT, ts, e1, e2, e3, e4, _⟩ := id hd2
  unfold PySem.passOn
  refine wpAny_bind (wpAny_field e1 e3 e4 ?_)
  rw [if_neg (show ¬ ((Value.ref T : Value) == Value.none) = true by simp), cf, hf]
  refine wpAny_bind (HandSPX.setFlight_onZ (s := { t with heap := h2 }) hd2 fun h3 hd3 up3 => wpAny_throw ?_)
  obtain ⟨f0, f1, _, f3, f4, f5⟩ := fC
  refine tk _ _ ⟨a, B', { sI with heap := G }, pins, σ, H1, cls, d, rfl, IX.turned (t' := sI.toks) (fun b o hb e => by rw [g1 b (by simp [hb])]; exact e) f0 f1 f3 f4 f5, fun b o e hb => ?_, fun b o e hd => ?_, ?_, na, os, ag, w⟩
  · obtain ⟨z, e⟩ := gs b o e
    rw [rB b z]
    exact nb b o e hb
  · obtain ⟨z, e⟩ := gs b o e
    obtain ⟨sl, q⟩ := (up.trans up1) b o e hd
    exact up3 b { o with slots := sl } ((sb.2 b z).trans q) hd
  · rw [hst]
    exact .inr (.inr hd3)
section
variable {X : Cx} {pins : List (Addr × Obj)} {σ : L2.St} {H : Hp} {s : Shared} {elt tg iter : Expr} {ifs : List Expr} {scope : Scope} {own : List (Str × Nat)} {pos : Pos} {wi : TI} {g : TG} {tt : WX → TT} {te : WX → TE} {W : WX}
structure PartsX (X : Cx) (scope : Scope) (tg elt : Expr) (ifs : List Expr) (g : TG) (tt : WX → TT) (te : WX → TE) : Prop where
  go : ∀ (s : Shared) (H : Hp) (C : Addr) (cl : List (Str × Addr)) (fp : List Addr) (W' : WX) (xe : Value → Shared → Prop), Takes ((X.blk s H scope (compEnvC scope cl C X.env) fp).tr [] xe) W' → PassesOwn (model X.prog X.w) X.A (compEnvC scope cl C X.env) xe →
    PG ((X.blk s H scope (compEnvC scope cl C X.env) fp).tr [] xe) tg g ∧ PTs ((X.blk s H scope (compEnvC scope cl C X.env) fp).tr [] xe) ifs (tt W') ∧ PE ((X.blk s H scope (compEnvC scope cl C X.env) fp).tr [] xe) elt (te W')
theorem Inv.airs {X : Cx} {pins : List (Addr × Obj)} {σ : L2.St} {H : Hp} {s : Shared} (xe : Value → Shared → Prop) (hp : X.pn = []) (I : Inv X pins σ H s) : Inv (X.tr [] xe) pins σ H s :=
  ⟨I.ok.toTry _ _, I.os, I.bare, I.base, I.loc, I.cell, I.free, I.freeC, fun p h => I.pin p (by rw [hp]; exact h), I.hok, I.len⟩
def wIn (W : WX) (σ : L2.St) : WX := fun c d _ H => W c d σ H
theorem lcX_core {pos' : Pos} {Q : VK} {use : Option (Value → Sem Unit)} {Qf : Value → Shared → Prop} (hc : X.calm = true) (nd : X.N.Nodup) (hst : X.stack = X.env :: X.outer) (hf : X.env.frame = some X.env.locals) (tk : Takes X W)
    (I : Inv X pins σ H s) (hi : PI X tg iter wi) (ok : BlkOk X.N X.env.scope scope own) (parts : PartsX X scope tg elt ifs g tt te) (fold : ∀ x, foldedSetIterable iter X.env x = pure x)
    (h : tLc wi g (tt (wIn W σ)) (te (wIn W σ)) (own.map (·.2)) σ H Q)
    (last : ∀ D (ce : Env) t m H', Inv X pins σ H' t → Q (.ref D) H' → t.heap.Ns ce.locals m → FpOk X pins H' ce.locals → compEnds (model X.prog X.w) X.A X.xe use Qf (.ref D) ce (.ok .next) t) :
    wpAny (model X.prog X.w) X.A (comprehension (.ListComp elt [⟨tg, iter, ifs, 0⟩] scope pos) scope X.env pos' (newList []) false (eval iter X.env) use) Qf X.xe s := by
  have clo : ∀ y ∈ scope.names, y.2 = .free → ∃ c, X.env.cells.lookup y.1 = some c := fun y hy e => (ok.free y hy e).elim (fun k => I.ok.has _ (.inl k)) fun k => I.ok.has _ (.inr k)
  refine comprehension_at (use := use) rfl fold (closure_ok clo) ok.kind (fun y hy e => by rw [ok.uniq y hy, e]) ?_
  refine thn (hi.run pins s σ H _ I h) fun v sa hv => thn hv fun itv sb hb => ?_
  obtain ⟨it, fp, tn, J, Hb, rfl, Ib, T, tb, fb, walk⟩ := hb
  refine wpAny_newObj_type (newEnv_comp ?_) (by show 0 ≤ sizeLine; decide)
  generalize eD : sb.heap.objs.size = D
  obtain ⟨Wk, ⟨m0, w0⟩, turns⟩ := walk D (Ib.hok.fresh (Nat.le_of_eq eD))
  generalize esc : ({ sb with heap := sb.heap.push { cls := .type "list", data := .seq ([] : List Value).toArray } } : Shared) = sc
  have hpc : sc.heap = sb.heap.push { cls := .type "list", data := .seq ([] : List Value).toArray } := by rw [← esc]
  have Ic : Inv X pins σ (upd Hb D (.lst [])) sc := by
    rw [← esc]
    refine Ib.laid (t' := sb.toks) (fun b o e => Heap.get?_push_of_some _ e) (Nat.le_of_eq eD) ⟨Nat.zero_le _, [], 0, .nil, ?_⟩
    rw [← eD]
    exact Heap.get?_push_size _ rfl
  have low : ∀ b ∈ fp, b < sb.heap.objs.size := fun b z => let ⟨o, e, _⟩ := T.obj _ _ tb b z; Heap.lt_size e
  have fc : ∀ b ∈ fp, FpOk X pins (upd Hb D (.lst [])) b ∧ b < sc.heap.objs.size := fun b z => by
    have l := low b z
    refine ⟨⟨?_, (fb b z).2⟩, by rw [hpc, Heap.size_push]; exact Nat.lt_succ_of_lt l⟩
    rw [upd_ne (by rw [← eD]; exact Nat.ne_of_lt l)]
    exact (fb b z).1
  have tc : tn 0 sc.heap := T.keep _ _ _ tb fun b _ o e => by rw [hpc]; exact Heap.get?_push_of_some _ e
  have I0 := block_start Ic ok nd fc
  generalize eH : upd Hb D (.lst []) = Hc at *
  generalize ecl : cellsFrom (sc.heap.objs.size + 1) scope.names (cloFrom X.env.cells scope.names []) = cl at *
  show codeAny _ _ (.compStart (.ListComp elt [⟨tg, iter, ifs, 0⟩] scope pos) 0 (.ref it) (.ref D) (compEnvC scope cl sc.heap.objs.size X.env)) (compEnds (model X.prog X.w) X.A X.xe use Qf (.ref D) (compEnvC scope cl sc.heap.objs.size X.env)) { sc with heap := pushCells (sc.heap.push { cls := .type "dict", data := .dict #[] }) scope.names }
  have take := takes_blk (scope := scope) (ce := compEnvC scope cl sc.heap.objs.size X.env) (fp := fp) hst hf tk Ic rfl rfl fun b z => (fc b z).1
  obtain ⟨pg, pt, pe⟩ := parts.go sc Hc sc.heap.objs.size cl fp _ _ take xeC_own
  have I1 := Inv.airs (xeC X (compEnvC scope cl sc.heap.objs.size X.env)) rfl I0
  have cL : (compEnvC scope cl sc.heap.objs.size X.env).locals = sc.heap.objs.size := rfl
  generalize compEnvC scope cl sc.heap.objs.size X.env = ce at *
  generalize es1 : ({ sc with heap := pushCells (sc.heap.push { cls := .type "dict", data := .dict #[] }) scope.names } : Shared) = s1 at *
  have t1 : tn 0 s1.heap := T.keep _ _ _ tc fun b _ o e => by rw [← es1]; exact pushCells_keeps _ _ _ _ (Heap.get?_push_of_some _ e)
  have okb : ∀ {τ : L2.St} {H' : Hp} {t : Shared}, Inv ((X.blk sc Hc scope ce fp).tr [] (xeC X ce)) [] τ H' t → (∀ b ∈ fp, H' b = none) → ∀ b ∈ fp, FpOk ((X.blk sc Hc scope ce fp).tr [] (xeC X ce)) [] H' b := fun {τ H' t} K n b z =>
    ⟨n b z, (K.ok.exf b z).1, K.ok.exfs b z, .inl z, fun x c e => (K.ok.exf b z).2 x c e, fun p hp => by cases hp⟩
  have loop : codeAny (model X.prog X.w) X.A (.compLoop (.ListComp elt [⟨tg, iter, ifs, 0⟩] scope pos) 0 (.ref it) (.ref D) ce) (compEnds (model X.prog X.w) X.A X.xe use Qf (.ref D) ce) s1 := by
    refine compLoop_any (fun k t => ∃ i H', Inv ((X.blk sc Hc scope ce fp).tr [] (xeC X ce)) [] (wipe σ (own.map (·.2))) H' t ∧ tn i t.heap ∧ (∀ b ∈ fp, H' b = none) ∧ Wk i k H') (fun k t inv => ?_) m0 ⟨0, Hc, I1, t1, fun b z => (fc b z).1.1, w0⟩
    obtain ⟨i, H2, I2, t2, n2, w2⟩ := inv
    rcases turns i k H2 w2 with ⟨z, q⟩ | ⟨z, Nx, nx, turn⟩
    · refine thnF (T.done ((X.blk sc Hc scope ce fp).tr [] (xeC X ce)) rfl rfl rfl hc i [] t _ H2 (fun _ _ => False) I2 (okb I2 n2) t2 z) fun r t3 hr => ?_
      obtain ⟨rfl, I3⟩ := hr
      have nC : H2 ce.locals = none := I3.free
      obtain ⟨m, hn, _⟩ := I3.loc
      exact last D ce t3 m H2 (Ic.call' (ch := fp) I3.os I3.base I3.hok I3.bare fun b z => ⟨(fc b z).1.2.2.2.1, (fc b z).1.2.1, (fc b z).1.2.2.2.2.1, (fc b z).1.2.2.2.2.2⟩) q hn (by rw [cL]; exact Ic.fpOk (Nat.le_refl _) (by rw [← cL]; exact nC))
    · refine thnF (T.item ((X.blk sc Hc scope ce fp).tr [] (xeC X ce)) rfl rfl rfl hc i [] t _ H2 (fun _ _ => False) I2 (okb I2 n2) t2 z) fun r t3 hr => ?_
      obtain ⟨u, rfl, hr⟩ := hr
      refine thnF hr fun _ t4 h4 => ?_
      obtain ⟨x, H4, I4, r4, y4, s4, n4⟩ := h4
      have back : ∀ {τ : L2.St} {t' : Shared} {H' : Hp}, wipe τ (own.map (·.2)) = wipe σ (own.map (·.2)) → Inv ((X.blk sc Hc scope ce fp).tr [] (xeC X ce)) ([] ++ pinsAt fp t4.heap) τ H' t' → Nx H' →
          ∃ k', k' < k ∧ ∃ i H', Inv ((X.blk sc Hc scope ce fp).tr [] (xeC X ce)) [] (wipe σ (own.map (·.2))) H' t' ∧ tn i t'.heap ∧ (∀ b ∈ fp, H' b = none) ∧ Wk i k' H' := fun {τ t' H'} hw K hx => by
        obtain ⟨k', l, w'⟩ := nx H' hx
        have pin : ∀ b ∈ fp, ∀ o, t4.heap.get? b = some o → t'.heap.get? b = some o ∧ H' b = none := fun b z o e => by
          have p := K.pin (b, o) (List.mem_append_right _ (List.mem_append_right _ (mem_pinsAt z e)))
          exact ⟨p.1, p.2.1⟩
        refine ⟨k', l, i + 1, H', (K.unpinned (pins := [])).weak (by rw [← hw, wipe_length]) (fun j v e => (wipe_some (by rw [hw]; exact e)).1), T.keep _ _ _ s4 fun b z o e => (pin b z o e).1, fun b z => ?_, w'⟩
        obtain ⟨o, e, _⟩ := T.obj _ _ s4 b z
        exact (pin b z o e).2
      refine thn (pg.run _ t4 _ H4 x u _ (I4.pinned (okb I4 n4) (T.obj _ _ s4)) r4 (turn x H4 y4)) fun _ t5 h5 => ?_
      obtain ⟨τ, H5, I5, hw, q5⟩ := h5
      refine thn (pt.run _ t5 τ H5 _ I5 q5) fun b t6 h6 => ?_
      obtain ⟨H6, I6, q6⟩ := h6
      cases b with
      | false =>
        simp only [Bool.false_eq_true, if_false] at q6 ⊢
        exact back hw I6 q6
      | true =>
        simp only [if_true] at q6 ⊢
        refine thn (pe.run _ t6 τ H6 _ I6 q6) fun e t7 h7 => ?_
        obtain ⟨y, H7, I7, r7, acc, d7, z7, x7⟩ := h7
        exact app_ok (X := (X.blk sc Hc scope ce fp).tr [] (xeC X ce)) I7 d7 z7 r7 fun t8 I8 => back hw I8 x7
  exact codeAny_compStart_list loop (T.self X.A 0 _ _ _ t1 loop)
theorem pe_lcX (hc : X.calm = true) (nd : X.N.Nodup) (hst : X.stack = X.env :: X.outer) (hf : X.env.frame = some X.env.locals) (tk : Takes X W) (hi : PI X tg iter wi) (ok : BlkOk X.N X.env.scope scope own) (parts : PartsX X scope tg elt ifs g tt te)
    (fold : ∀ x, foldedSetIterable iter X.env x = pure x := by intro _; rfl) : PE X (.ListComp elt [⟨tg, iter, ifs, 0⟩] scope pos) (fun σ H Q => tLc wi g (tt (wIn W σ)) (te (wIn W σ)) (own.map (·.2)) σ H Q) := by
  refine ⟨fun pins s σ H Q I h => ?_⟩
  rw [eval_ListComp]
  refine lcX_core hc nd hst hf tk I hi ok parts fold h fun D ce t m H' J q hn fc => ⟨m, hn, fun h2 sb => ?_⟩
  obtain ⟨c0, c1, _, c3, c4, c5⟩ := fc
  exact ⟨.ref D, H', J.turned (t' := t.toks) (fun b o z e => (sb.2 b z).trans e) c0 c1 c3 c4 c5, rfl, q⟩
end
variable [TC : TabsC]
theorem wipe_out {vs : List Nat} {s : L2.St} {j : Nat} (hj : j ∉ vs) : (wipe s vs)[j]? = s[j]? := by
  induction vs with
  | nil => rfl
  | cons u us ih =>
    unfold L2.wipe
    rw [List.getElem?_set_ne (fun e => hj (by rw [e]; exact List.mem_cons_self))]
    exact ih fun z => hj (List.mem_cons_of_mem _ z)
theorem wipe_wipe {vs : List Nat} {s : L2.St} : wipe (wipe s vs) vs = wipe s vs := wipe_same (wipe_length s vs) fun j hj => wipe_out hj
theorem Ext.inner {r1 r2 r4 : Rho} {H1 H2 H4 : Hp} {p : Addr} (hp : H1 p = none) (hr : r2.res = p :: r1.res) (a : Ext r1 H1 (r2.show_ r1.res) H2) (b : Ext r2 H2 r4 H4) : Ext r1 H1 (r4.show_ r1.res) H4 := by
  refine ⟨?_, rfl, fun c o h n t => ?_, fun c o h n => b.kres c o (a.kres c o h n) (by rw [hr]; exact List.mem_cons_of_mem _ n), fun c xs h => b.tup c xs (a.tup c xs h), fun c o u h => b.frz c o u (a.frz c o u h), fun c o h => ?_⟩
  · obtain ⟨n1, e1, h1⟩ := a.new
    obtain ⟨n2, e2, h2⟩ := b.new
    have e1' : r2.loc = r1.loc ++ n1 := e1
    refine ⟨n1 ++ n2, by show r4.loc = _; rw [e2, e1', List.append_assoc], fun c hc => ?_⟩
    rcases List.mem_append.mp hc with hc | hc
    · exact h1 c hc
    · exact a.none_of (h2 c hc)
  · have n2 := a.notMem h n
    refine b.keep c o (a.keep c o h n t) (fun z => ?_) t
    rcases z with z | z
    · exact n2 (.inl z)
    · rw [hr] at z
      rcases List.mem_cons.mp z with z | z
      · subst z; rw [hp] at h; cases h
      · exact n2 (.inr z)
  · obtain ⟨o1, h1⟩ := a.liv c o h
    exact b.liv c o1 h1
theorem Ext.over {r1 r : Rho} {H1 H4 : Hp} {p : Addr} {o : HO} (hp : H1 p = none) (a : Ext r1 H1 r H4) : Ext r1 H1 r (upd H4 p o) := by
  have ne : ∀ {c : Addr} {u : HO}, H1 c = some u → c ≠ p := fun h z => by subst z; rw [hp] at h; cases h
  exact ⟨a.new, a.res, fun c u h n t => by rw [upd_ne (ne h)]; exact a.keep c u h n t, fun c u h n => by rw [upd_ne (ne h)]; exact a.kres c u h n, fun c xs h => by rw [upd_ne (ne h)]; exact a.tup c xs h,
    fun c x u h => by rw [upd_ne (ne h)]; exact a.frz c x u h, fun c u h => by rw [upd_ne (ne h)]; exact a.liv c u h⟩
def Rho.join (r : Rho) (p : Addr) (res : List Addr) : Rho := ⟨r.loc ++ [p], res⟩
mutual
theorem RelD.join {K : PySem.W.Frag} {rho : Rho} {H : Hp} {p : Addr} {res : List Addr} (hr : rho.res = p :: res) : ∀ {d : D} {v : V}, RelD K rho H d v → RelD K (rho.join p res) H d v
  | _, _, .non => .non
  | _, _, .bl b => .bl b
  | _, _, .int i => .int i
  | _, _, .str x => .str x
  | _, _, .fn h => .fn h
  | _, _, .tup q r k => .tup q (RelDs.join hr r) k
  | _, _, .lst q n r => .lst q (fun z => n (by
      rcases z with z | z
      · rcases List.mem_append.mp z with z | z
        · exact .inl z
        · exact .inr (by rw [hr, List.mem_singleton.mp z]; exact List.mem_cons_self)
      · exact .inr (by rw [hr]; exact List.mem_cons_of_mem _ z))) (RelDs.join hr r)
  | _, _, .fz q r => .fz q (RelDs.join hr r)
  | _, _, .dic q n r => .dic q (fun z => n (by
      rcases z with z | z
      · rcases List.mem_append.mp z with z | z
        · exact .inl z
        · exact .inr (by rw [hr, List.mem_singleton.mp z]; exact List.mem_cons_self)
      · exact .inr (by rw [hr]; exact List.mem_cons_of_mem _ z))) (RelK.join hr r)
  | _, _, .ref q => .ref (by
      obtain ⟨hl, _⟩ := List.getElem?_eq_some_iff.mp q
      show (rho.loc ++ [p])[_]? = _
      rw [List.getElem?_append_left hl]
      exact q)
theorem RelDs.join {K : PySem.W.Frag} {rho : Rho} {H : Hp} {p : Addr} {res : List Addr} (hr : rho.res = p :: res) : ∀ {ds : List D} {vs : List V}, RelDs K rho H ds vs → RelDs K (rho.join p res) H ds vs
  | _, _, .nil => .nil
  | _, _, .cons q t => .cons (RelD.join hr q) (RelDs.join hr t)
theorem RelK.join {K : PySem.W.Frag} {rho : Rho} {H : Hp} {p : Addr} {res : List Addr} (hr : rho.res = p :: res) : ∀ {ds : List (Key × D)} {vs : List (Key × V)}, RelK K rho H ds vs → RelK K (rho.join p res) H ds vs
  | _, _, .nil => .nil
  | _, _, .cons q t => .cons (RelD.join hr q) (RelK.join hr t)
end
theorem Wld.join {K : PySem.W.Frag} {rho : Rho} {st : Sto} {H : Hp} (w : Wld K rho st H) {p : Addr} {res : List Addr} (hr : rho.res = p :: res) (hp : p ∉ res) {ds : List D} {vs : List V} (h : H p = some (.lst vs)) (r : RelDs K rho H ds vs) : Wld K (rho.join p res) (st ++ [.lst ds]) H := by
  have pl : p ∉ rho.loc := fun z => w.dis p z (by rw [hr]; exact List.mem_cons_self)
  refine ⟨by simp [Rho.join, w.len], ?_, fun l a u h1 h2 => ?_, fun a ha z => ?_, fun b hb => w.rsv b (by rw [hr]; exact List.mem_cons_of_mem _ hb), w.tab⟩
  · show (rho.loc ++ [p]).Nodup
    rw [List.nodup_append]
    exact ⟨w.nd, by simp, fun a ha b hb => by rw [List.mem_singleton.mp hb]; exact fun e => pl (e ▸ ha)⟩
  · have h1' : (rho.loc ++ [p])[l]? = some a := h1
    by_cases hl : l < rho.loc.length
    · rw [List.getElem?_append_left hl] at h1'
      rw [List.getElem?_append_left (by rw [← w.len]; exact hl)] at h2
      have q := w.obj l a u h1' h2
      cases u with
      | lst ds => obtain ⟨vs, q, r⟩ := q; exact ⟨vs, q, r.join hr⟩
      | dic ds => obtain ⟨vs, q, r⟩ := q; exact ⟨vs, q, r.join hr⟩
      | ins c fs => obtain ⟨vs, C, dx, q, h2, h3, r⟩ := q; exact ⟨vs, C, dx, q, h2, h3, r.join hr⟩
      | dicT kvs => obtain ⟨vs, q, h3, r⟩ := q; exact ⟨vs, q, h3, r.join hr⟩
      | dicL kvs => obtain ⟨o, vs, q, h3, r⟩ := q; exact ⟨o, vs, q, h3, r.join hr⟩
      | dicF kvs => obtain ⟨o, vs, q, r⟩ := q; exact ⟨o, vs, q, r.join hr⟩
      | exn c => exact q
    · obtain ⟨hl2, _⟩ := List.getElem?_eq_some_iff.mp h1'
      have e : l = rho.loc.length := by simp at hl2; omega
      subst e
      rw [List.getElem?_append_right (Nat.le_refl _)] at h1'
      rw [w.len, List.getElem?_append_right (Nat.le_refl _)] at h2
      simp at h1' h2
      subst h1' h2
      exact ⟨vs, h, r.join hr⟩
  · rcases List.mem_append.mp ha with ha | ha
    · exact w.dis a ha (by rw [hr]; exact List.mem_cons_of_mem _ z)
    · rw [List.mem_singleton.mp ha] at z
      exact hp z
section
variable {X : Cx} {cls : Nat → Value} {W : WX} {pos : Pos} {tg elt iter : Expr} {me : ME}
def tCm (K : PySem.W.Frag) (cls : Nat → Value) (c : Option ME) : TT := match c with
  | none => tYes
  | some c => tTm K cls WF c
theorem lc_go {K : PySem.W.Frag} {s : Src} {g : MG} {c : Option ME} {env : DEnv} {vs : List Nat} {sg : L2.St} {rho1 : Rho} {H1 : Hp} {st1 stf : Sto} {ys : List D} {J : It} {P : Rho → Hp → Prop} {D0 : Addr} {Qd : Hp → Prop}
    (it : ItOk K J s P) (w1 : Wld K rho1 st1 H1) (re : RelEnv K rho1 H1 env sg) (hP : P rho1 H1) (hold : s.holds st1) (hD : H1 D0 = none) (hgo : compGo s g c me (wipeD env vs) s.items st1 = .ok ys stf) (hz : ys.length ≤ sizeLine)
    (fin : ∀ rho2 H2 accV, rho2.res = D0 :: rho1.res → Ext rho1 H1 (rho2.show_ rho1.res) H2 → Wld K rho2 stf H2 → H2 D0 = some (.lst accV) → RelDs K rho2 H2 ys accV → Qd H2) :
    ∃ W : Nat → Nat → Hp → Prop, (∃ m, W 0 m (upd H1 D0 (.lst []))) ∧ ∀ i m H, W i m H →
      (J.stop i H ∧ Qd H) ∨ (J.go i H ∧ ∃ Nx : Hp → Prop, (∀ H', Nx H' → ∃ m', m' < m ∧ W (i + 1) m' H') ∧ ∀ x H', J.yld i H x H' → tGm K vs g x (wipe sg vs) H' fun sg2 H2 => wipe sg2 vs = wipe sg vs ∧ tCm K cls c sg2 H2 fun b H3 =>
        if b = true then tE K cls WF me sg2 H3 fun y H4 => ∃ acc, H4 D0 = some (.lst acc) ∧ acc.length < sizeLine ∧ Nx (upd H4 D0 (.lst (acc ++ [y]))) else Nx H3) := by
  refine ⟨fun i m H2 => ∃ rho2 st2 acc accV rest, rho2.res = D0 :: rho1.res ∧ Ext rho1 H1 (rho2.show_ rho1.res) H2 ∧ Wld K rho2 st2 H2 ∧ P rho2 H2 ∧ s.holds st2 ∧ H2 D0 = some (.lst accV) ∧ RelDs K rho2 H2 acc accV ∧ RelEnv K rho2 H2 (wipeD env vs) (wipe sg vs) ∧
      compGo s g c me (wipeD env vs) (s.items.drop i) st2 = .ok rest stf ∧ acc ++ rest = ys ∧ m = s.items.length - i ∧ i ≤ s.items.length, ?_, ?_⟩
  · refine ⟨_, rho1.hide D0, st1, [], [], ys, rfl, ?_, w1.hide hD (.lst []) trivial, it.hide _ _ _ _ hP hD, hold, upd_same, .nil, ?_, by rw [List.drop_zero]; exact hgo, rfl, rfl, Nat.zero_le _⟩
    · exact w1.extTmp hD _
    · have r := re.wipe vs
      exact ⟨r.len, fun i d h => let ⟨v, h1, h2⟩ := r.at_ i d h; ⟨v, h1, h2.hide hD⟩⟩
  · rintro i m H2 ⟨rho2, st2, acc, accV, rest, hr, ex, w2, hP2, hold2, hD2, racc, renv, hg2, eys, rfl, hle⟩
    have D0r : D0 ∈ rho2.res := by rw [hr]; exact List.mem_cons_self
    by_cases hlt : i < s.items.length
    · have hd : s.items[i]? = some s.items[i] := List.getElem?_eq_getElem hlt
      have edrop : s.items.drop i = s.items[i] :: s.items.drop (i + 1) := List.drop_eq_getElem_cons hlt
      rw [edrop] at hg2
      unfold compGo at hg2
      refine .inr ⟨it.go i _ rho2 st2 H2 w2 hP2 hold2 hd, fun H' => ∃ rho2 st2 acc accV rest, rho2.res = D0 :: rho1.res ∧ Ext rho1 H1 (rho2.show_ rho1.res) H' ∧ Wld K rho2 st2 H' ∧ P rho2 H' ∧ s.holds st2 ∧ H' D0 = some (.lst accV) ∧ RelDs K rho2 H' acc accV ∧ RelEnv K rho2 H' (wipeD env vs) (wipe sg vs) ∧
        compGo s g c me (wipeD env vs) (s.items.drop (i + 1)) st2 = .ok rest stf ∧ acc ++ rest = ys, fun H' ⟨a1, a2, a3, a4, a5, b1, b2, b3, b4, b5, b6, b7, b8, b9, b10⟩ => ⟨s.items.length - (i + 1), by omega, a1, a2, a3, a4, a5, b1, b2, b3, b4, b5, b6, b7, b8, b9, b10, rfl, hlt⟩, fun x H3 y => ?_⟩
      obtain ⟨e3, w3, rd⟩ := it.yld i _ rho2 st2 H2 x H3 w2 hP2 hold2 hd y
      cases q2 : g s.items[i] (wipeD env vs) with
      | none => rw [q2] at hg2; cases hg2
      | some env3 =>
        simp only [q2] at hg2
        refine ⟨rho2, wipeD env vs, st2, _, env3, w3, renv.ext e3, rd, q2, fun sg3 re3 hl3 hk3 => ⟨?_, ?_⟩⟩
        · rw [wipe_same hl3 hk3, wipe_wipe]
        · -- the test, then the element
          have body : ∀ (st4 : Sto) (rho4 : Rho) (H4 : Hp), Ext rho2 H2 rho4 H4 → Wld K rho4 st4 H4 → RelEnv K rho4 H4 env3 sg3 →
              (match me env3 st4 with | .ok y st => if s.holds st then (match compGo s g c me (wipeD env vs) (s.items.drop (i + 1)) st with | .ok ys st => R.ok (y :: ys) st | _ => .stuck) else .stuck | _ => .stuck) = R.ok rest stf →
              tE K cls WF me sg3 H4 fun y H5 => ∃ acc, H5 D0 = some (.lst acc) ∧ acc.length < sizeLine ∧ ∃ rho2 st2 acc' accV rest, rho2.res = D0 :: rho1.res ∧ Ext rho1 H1 (rho2.show_ rho1.res) (upd H5 D0 (.lst (acc ++ [y]))) ∧ Wld K rho2 st2 (upd H5 D0 (.lst (acc ++ [y]))) ∧ P rho2 (upd H5 D0 (.lst (acc ++ [y]))) ∧ s.holds st2 ∧ (upd H5 D0 (.lst (acc ++ [y]))) D0 = some (.lst accV) ∧ RelDs K rho2 (upd H5 D0 (.lst (acc ++ [y]))) acc' accV ∧ RelEnv K rho2 (upd H5 D0 (.lst (acc ++ [y]))) (wipeD env vs) (wipe sg vs) ∧
                compGo s g c me (wipeD env vs) (s.items.drop (i + 1)) st2 = .ok rest stf ∧ acc' ++ rest = ys := by
            intro st4 rho4 H4 e4 w4 re4 hm
            refine ⟨rho4, env3, st4, w4, re4, ?_⟩
            cases q4 : me env3 st4 with
            | exc c5 st5 => rw [q4] at hm; cases hm
            | stuck => rw [q4] at hm; cases hm
            | ok yd st5 =>
              simp only [q4] at hm
              split at hm
              · rename_i hh
                cases q5 : compGo s g c me (wipeD env vs) (s.items.drop (i + 1)) st5 with
                | exc c6 st6 => rw [q5] at hm; cases hm
                | stuck => rw [q5] at hm; cases hm
                | ok rest' st6 =>
                  rw [q5] at hm
                  simp only [R.ok.injEq] at hm
                  obtain ⟨erest, rfl⟩ := hm
                  intro rho5 H5 e5 w5 v rv
                  have e25 : Ext rho2 H2 rho5 H5 := e4.trans e5
                  have hD5 : H5 D0 = some (.lst accV) := e25.kres D0 _ hD2 D0r
                  have hr5 : rho5.res = D0 :: rho1.res := by rw [e25.res]; exact hr
                  have D0r5 : D0 ∈ rho5.res := by rw [hr5]; exact List.mem_cons_self
                  have la : acc.length = accV.length := racc.length
                  refine ⟨accV, hD5, ?_, rho5, st5, acc ++ [yd], accV ++ [v], rest', hr5, (Ext.inner hD hr ex e25).over hD, w5.grow D0r5 hD5 trivial trivial, it.grow _ _ _ _ _ D0r5 hD5 (it.stab _ _ _ _ hP2 e25), hh, upd_same, ?_, ?_, q5, ?_⟩
                  · have : ys.length = acc.length + rest.length := by rw [← eys, List.length_append]
                    rw [← erest, List.length_cons] at this
                    omega
                  · exact ((racc.ext e25).append (.cons rv .nil)).grow D0r5 hD5 trivial
                  · have r5 := renv.ext e25
                    exact ⟨r5.len, fun i d h => let ⟨v, h1, h2⟩ := r5.at_ i d h; ⟨v, h1, h2.grow D0r5 hD5 trivial⟩⟩
                  · rw [← eys, ← erest, List.append_assoc]; rfl
              · cases hm
          cases c with
          | none =>
            simp only [tCm, tYes, if_true]
            exact body st2 rho2 H3 e3 w3 re3 hg2
          | some c =>
            refine ⟨rho2, env3, st2, w3, re3, ?_⟩
            simp only at hg2
            cases q4 : mT c env3 st2 with
            | exc c5 st5 => rw [q4] at hg2; cases hg2
            | stuck => rw [q4] at hg2; cases hg2
            | ok kk st4 =>
              rw [q4] at hg2
              intro rho4 H4 e4 w4
              cases kk with
              | true =>
                rw [if_pos rfl]
                exact body st4 rho4 H4 (e3.trans e4) w4 (re3.ext e4) hg2
              | false =>
                rw [if_neg (by simp)]
                simp only at hg2
                split at hg2
                · rename_i hh
                  have e24 : Ext rho2 H2 rho4 H4 := e3.trans e4
                  exact ⟨rho4, st4, acc, accV, rest, by rw [e24.res]; exact hr, Ext.inner hD hr ex e24, w4, it.stab _ _ _ _ hP2 e24, hh, e24.kres D0 _ hD2 D0r, racc.ext e24, renv.ext e24, hg2, eys⟩
                · cases hg2
    · have ei : i = s.items.length := by omega
      have edrop : s.items.drop i = [] := by rw [ei]; exact List.drop_length
      rw [edrop] at hg2
      unfold compGo at hg2
      cases hg2
      rw [List.append_nil] at eys
      subst eys
      exact .inl ⟨it.stop i rho2 _ H2 w2 hP2 hold2 (by omega), fin rho2 H2 accV hr ex w2 hD2 racc⟩
theorem tE_lc {K : PySem.W.Frag} {mi : MIt} {g : MG} {c : Option ME} {vs : List Nat} {sg : L2.St} {H : Hp} {Q : VK} (h : tE K cls W (mComp mi vs g c me) sg H Q) : tLc (tIm K cls W mi) (tGm K vs g) (tCm K cls c) (tE K cls WF me) vs sg H Q := by
  obtain ⟨rho, env, st, w, re, h⟩ := h
  refine ⟨rho, env, st, w, re, ?_⟩
  unfold mComp at h
  cases q : mi env st with
  | exc c1 st1 => rw [q] at h; exact h
  | stuck => rw [q] at h; exact h
  | ok s st1 =>
    rw [q] at h
    simp only [R.bind_ok] at h
    intro rho1 H1 e1 w1 J P it hP hold D0 hD
    cases q2 : compGo s g c me (wipeD env vs) s.items st1 with
    | exc c1 st1 => rw [q2] at h; exact h.elim
    | stuck => rw [q2] at h; exact h.elim
    | ok ys stf =>
      rw [q2] at h
      simp only at h
      split at h
      · rename_i hz
        refine lc_go it w1 (re.ext e1) hP hold hD q2 hz fun rho2 H2 accV hr ex w2 hD2 racc => ?_
        have hsub : ∀ b ∈ rho1.res, b ∈ rho2.res := fun b hb => by rw [hr]; exact List.mem_cons_of_mem _ hb
        refine h (rho2.show_ rho1.res) H2 (e1.trans ex) (w2.show_ hsub) _ (.lst hD2 (fun z => ?_) (racc.show_ hsub))
        rcases z with z | z
        · exact w2.dis D0 z (by rw [hr]; exact List.mem_cons_self)
        · exact w1.fresh hD (.inr z)
      · exact h.elim
theorem tE_lcN {K : PySem.W.Frag} {mi : MIt} {g : MG} {c : Option ME} {vs : List Nat} {sg : L2.St} {H : Hp} {Q : VK} (h : tE K cls W (mCompN mi vs g c me) sg H Q) : tLc (tIm K cls W mi) (tGm K vs g) (tCm K cls c) (tE K cls WF me) vs sg H Q := by
  obtain ⟨rho, env, st, w, re, h⟩ := h
  refine ⟨rho, env, st, w, re, ?_⟩
  unfold mCompN at h
  cases q : mi env st with
  | exc c1 st1 => rw [q] at h; exact h
  | stuck => rw [q] at h; exact h
  | ok s st1 =>
    rw [q] at h
    simp only [R.bind_ok] at h
    intro rho1 H1 e1 w1 J P it hP hold D0 hD
    cases q2 : compGo s g c me (wipeD env vs) s.items st1 with
    | exc c1 st1 => rw [q2] at h; exact h.elim
    | stuck => rw [q2] at h; exact h.elim
    | ok ys stf =>
      rw [q2] at h
      simp only at h
      split at h
      · rename_i hz
        refine lc_go it w1 (re.ext e1) hP hold hD q2 hz fun rho2 H2 accV hr ex w2 hD2 racc => ?_
        have D0n : D0 ∉ rho1.res := fun z => w1.fresh hD (.inr z)
        refine h (rho2.join D0 rho1.res) H2 (e1.trans ⟨?_, rfl, ex.keep, ex.kres, ex.tup, ex.frz, ex.liv⟩) (w2.join hr D0n hD2 racc) _ (.ref ?_)
        · obtain ⟨n, en, hn⟩ := ex.new
          have en' : rho2.loc = rho1.loc ++ n := en
          refine ⟨n ++ [D0], by show rho2.loc ++ [D0] = _; rw [en', List.append_assoc], fun b hb => ?_⟩
          rcases List.mem_append.mp hb with hb | hb
          · exact hn b hb
          · rw [List.mem_singleton.mp hb]; exact hD
        · show (rho2.loc ++ [D0])[stf.length]? = some D0
          rw [← w2.len]
          simp
      · exact h.elim
structure LcOk (X : Cx) (cls : Nat → Value) (W : WX) (elt tg iter : Expr) (ifs : List Expr) (scope : Scope) (vs : List Nat) (mi : MIt) (g : MG) (c : Option ME) (me : ME) : Prop where
  hc : X.calm = true
  hN : X.N.Nodup
  hs : noSet iter = true
  hi : PI X tg iter (tIm X.K cls W mi)
  ok : ∃ own : List (Str × Nat), own.map (·.2) = vs ∧ BlkOk X.N X.env.scope scope own
  hg : ∀ (s : Shared) (H : Hp) (C : Addr) (cl : List (Str × Addr)) (fp : List Addr), PG (X.blk s H scope (compEnvC scope cl C X.env) fp) tg (tGm X.K vs g)
  ht : ∀ (s : Shared) (H : Hp) (C : Addr) (cl : List (Str × Addr)) (fp : List Addr), PTs (X.blk s H scope (compEnvC scope cl C X.env) fp) ifs (tCm X.K cls c)
  he : ∀ (s : Shared) (H : Hp) (C : Addr) (cl : List (Str × Addr)) (fp : List Addr), PE (X.blk s H scope (compEnvC scope cl C X.env) fp) elt (tE X.K cls WF me)
theorem LcOk.pe {ifs : List Expr} {scope : Scope} {vs : List Nat} {mi : MIt} {g : MG} {c : Option ME} (L : LcOk X cls W elt tg iter ifs scope vs mi g c me) (n : Bool) : PE X (.ListComp elt [⟨tg, iter, ifs, 0⟩] scope pos) (tE X.K cls W (if n then mCompN mi vs g c me else mComp mi vs g c me)) := by
  obtain ⟨own, rfl, ok⟩ := L.ok
  refine PE.weak (pe_lc L.hc L.hN L.hi ok L.hg L.ht L.he (folded_no L.hs)) fun sg H Q h => ?_
  cases n with
  | true => exact tE_lcN h
  | false => exact tE_lc h
theorem LcOk.set {ifs : List Expr} {scope : Scope} {vs : List Nat} {mi : MIt} {g : MG} {c : Option ME} (L : LcOk X cls W elt tg iter ifs scope vs mi g c me) (n : Bool) {i : Nat} {y : Str} {py spos : Pos} (hy : X.N[i]? = some y) (hyl : X.env.scope.names.lookup y = some .local)
    (hsw : swapsWith (.ListComp elt [⟨tg, iter, ifs, 0⟩] scope pos) (some (.Name y py)) spos.line X.env = pure true) : PS X (.Assign [.Name y py] (.ListComp elt [⟨tg, iter, ifs, 0⟩] scope pos) spos) (tS X.K cls W (sAsg (if n then mCompN mi vs g c me else mComp mi vs g c me) (gVar i))) := by
  obtain ⟨own, rfl, ok⟩ := L.ok
  refine PS.weak (ps_setLc L.hc L.hN hy hyl hsw L.hi ok L.hg L.ht L.he (folded_no L.hs)) fun E sg H h => ?_
  have h' := tS_asg (vs := [i]) h
  have go : ∀ x H1, tGm X.K [i] (gVar i) x sg H1 E.nx → gName i x sg H1 E.nx := fun x H1 q => by
    obtain ⟨rho2, env2, st2, d2, env3, w2, re2, rd2, eg, h2⟩ := q
    cases eg
    exact h2 _ (re2.set rd2 i) (by simp) fun j hj => by rw [List.getElem?_set_ne (fun z => hj (by simp [z]))]
  have h2 : tE X.K cls W (if n then mCompN mi (own.map (·.2)) g c me else mComp mi (own.map (·.2)) g c me) sg H (fun x H1 => gName i x sg H1 E.nx) := by
    obtain ⟨rho, env, st, w, re, h'⟩ := h'
    exact ⟨rho, env, st, w, re, OkR.mono h' fun d st1 rho1 H1 e1 w1 q v rv => go v H1 (q v rv)⟩
  cases n with
  | true => exact tE_lcN h2
  | false => exact tE_lc h2
def tCmX (K : PySem.W.Frag) (cls : Nat → Value) (c : Option ME) (W : WX) : TT := match c with
  | none => tYes
  | some c => tTm K cls W c
def R.addTo (acc : List D) (r : R (List D)) : R (List D) := r.bind fun ys st => .ok (acc ++ ys) st
theorem R.addTo_nil {r : R (List D)} : R.addTo [] r = r := by cases r <;> rfl
theorem R.addTo_one {acc : List D} {y : D} {r : R (List D)} : R.addTo acc (r.bind fun ys st => .ok (y :: ys) st) = R.addTo (acc ++ [y]) r := by cases r <;> simp [R.addTo]
theorem lcX_go {K : PySem.W.Frag} {s : Src} {g : MG} {c : Option ME} {env : DEnv} {vs : List Nat} {sg : L2.St} {rho1 : Rho} {H1 : Hp} {st1 : Sto} {J : It} {P : Rho → Hp → Prop} {D0 : Addr} {Qd : Hp → Prop} {r : R (List D)}
    (it : ItOk K J s P) (w1 : Wld K rho1 st1 H1) (re : RelEnv K rho1 H1 env sg) (hP : P rho1 H1) (hold : s.holds st1) (hD : H1 D0 = none) (hgo : compGoX s g c me (wipeD env vs) s.items st1 = r) (hz : s.items.length ≤ sizeLine) (nst : r ≠ .stuck)
    (bad : ∀ q stf, r = .exc q stf → ∀ rho2 H2, Ext rho1 H1 rho2 H2 → Wld K rho2 stf H2 → W (cls q) none sg H2)
    (fin : ∀ ys stf, r = .ok ys stf → ∀ rho2 H2 accV, rho2.res = D0 :: rho1.res → Ext rho1 H1 (rho2.show_ rho1.res) H2 → Wld K rho2 stf H2 → H2 D0 = some (.lst accV) → RelDs K rho2 H2 ys accV → Qd H2) :
    ∃ Wk : Nat → Nat → Hp → Prop, (∃ m, Wk 0 m (upd H1 D0 (.lst []))) ∧ ∀ i m H, Wk i m H →
      (J.stop i H ∧ Qd H) ∨ (J.go i H ∧ ∃ Nx : Hp → Prop, (∀ H', Nx H' → ∃ m', m' < m ∧ Wk (i + 1) m' H') ∧ ∀ x H', J.yld i H x H' → tGm K vs g x (wipe sg vs) H' fun sg2 H2 => wipe sg2 vs = wipe sg vs ∧ tCmX K cls c (wIn W sg) sg2 H2 fun b H3 =>
        if b = true then tE K cls (wIn W sg) me sg2 H3 fun y H4 => ∃ acc, H4 D0 = some (.lst acc) ∧ acc.length < sizeLine ∧ Nx (upd H4 D0 (.lst (acc ++ [y]))) else Nx H3) := by
  refine ⟨fun i m H2 => ∃ rho2 st2 acc accV, rho2.res = D0 :: rho1.res ∧ Ext rho1 H1 (rho2.show_ rho1.res) H2 ∧ Wld K rho2 st2 H2 ∧ P rho2 H2 ∧ s.holds st2 ∧ H2 D0 = some (.lst accV) ∧ RelDs K rho2 H2 acc accV ∧ RelEnv K rho2 H2 (wipeD env vs) (wipe sg vs) ∧
      R.addTo acc (compGoX s g c me (wipeD env vs) (s.items.drop i) st2) = r ∧ acc.length ≤ i ∧ m = s.items.length - i ∧ i ≤ s.items.length, ?_, ?_⟩
  · refine ⟨_, rho1.hide D0, st1, [], [], rfl, ?_, w1.hide hD (.lst []) trivial, it.hide _ _ _ _ hP hD, hold, upd_same, .nil, ?_, by rw [List.drop_zero, R.addTo_nil]; exact hgo, Nat.le_refl _, rfl, Nat.zero_le _⟩
    · exact w1.extTmp hD _
    · have r := re.wipe vs
      exact ⟨r.len, fun i d h => let ⟨v, h1, h2⟩ := r.at_ i d h; ⟨v, h1, h2.hide hD⟩⟩
  · rintro i m H2 ⟨rho2, st2, acc, accV, hr, ex, w2, hP2, hold2, hD2, racc, renv, hg2, hai, rfl, hle⟩
    have D0r : D0 ∈ rho2.res := by rw [hr]; exact List.mem_cons_self
    have hsub : ∀ b ∈ rho1.res, b ∈ rho2.res := fun b hb => by rw [hr]; exact List.mem_cons_of_mem _ hb
    -- a raise within the block, seen from outside
    have air : ∀ {q : Nat} {st5 : Sto} {rho4 : Rho} {H4 : Hp}, r = .exc q st5 → Ext rho2 H2 rho4 H4 → ∀ rho5 H5, Ext rho4 H4 rho5 H5 → Wld K rho5 st5 H5 → W (cls q) none sg H5 := fun {q st5 rho4 H4} e e4 rho5 H5 e5 w5 => by
      have e25 : Ext rho2 H2 rho5 H5 := e4.trans e5
      exact bad q st5 e (rho5.show_ rho1.res) H5 (Ext.inner hD hr ex e25) (w5.show_ fun b hb => by rw [e25.res]; exact hsub b hb)
    by_cases hlt : i < s.items.length
    · have hd : s.items[i]? = some s.items[i] := List.getElem?_eq_getElem hlt
      have edrop : s.items.drop i = s.items[i] :: s.items.drop (i + 1) := List.drop_eq_getElem_cons hlt
      rw [edrop] at hg2
      unfold compGoX at hg2
      refine .inr ⟨it.go i _ rho2 st2 H2 w2 hP2 hold2 hd, fun H' => ∃ rho2 st2 acc accV, rho2.res = D0 :: rho1.res ∧ Ext rho1 H1 (rho2.show_ rho1.res) H' ∧ Wld K rho2 st2 H' ∧ P rho2 H' ∧ s.holds st2 ∧ H' D0 = some (.lst accV) ∧ RelDs K rho2 H' acc accV ∧ RelEnv K rho2 H' (wipeD env vs) (wipe sg vs) ∧
        R.addTo acc (compGoX s g c me (wipeD env vs) (s.items.drop (i + 1)) st2) = r ∧ acc.length ≤ i + 1, fun H' ⟨a1, a2, a3, a4, b1, b2, b3, b4, b5, b6, b7, b8, b9, b10⟩ => ⟨s.items.length - (i + 1), by omega, a1, a2, a3, a4, b1, b2, b3, b4, b5, b6, b7, b8, b9, b10, rfl, hlt⟩, fun x H3 y => ?_⟩
      obtain ⟨e3, w3, rd⟩ := it.yld i _ rho2 st2 H2 x H3 w2 hP2 hold2 hd y
      cases q2 : g s.items[i] (wipeD env vs) with
      | none => rw [q2] at hg2; exact absurd hg2.symm nst
      | some env3 =>
        simp only [q2] at hg2
        refine ⟨rho2, wipeD env vs, st2, _, env3, w3, renv.ext e3, rd, q2, fun sg3 re3 hl3 hk3 => ⟨?_, ?_⟩⟩
        · rw [wipe_same hl3 hk3, wipe_wipe]
        · have body : ∀ (st4 : Sto) (rho4 : Rho) (H4 : Hp), Ext rho2 H2 rho4 H4 → Wld K rho4 st4 H4 → RelEnv K rho4 H4 env3 sg3 →
              R.addTo acc ((me env3 st4).bind fun y st => if s.holds st then (compGoX s g c me (wipeD env vs) (s.items.drop (i + 1)) st).bind fun ys st => .ok (y :: ys) st else .stuck) = r →
              tE K cls (wIn W sg) me sg3 H4 fun y H5 => ∃ acc, H5 D0 = some (.lst acc) ∧ acc.length < sizeLine ∧ ∃ rho2 st2 acc' accV, rho2.res = D0 :: rho1.res ∧ Ext rho1 H1 (rho2.show_ rho1.res) (upd H5 D0 (.lst (acc ++ [y]))) ∧ Wld K rho2 st2 (upd H5 D0 (.lst (acc ++ [y]))) ∧ P rho2 (upd H5 D0 (.lst (acc ++ [y]))) ∧ s.holds st2 ∧ (upd H5 D0 (.lst (acc ++ [y]))) D0 = some (.lst accV) ∧ RelDs K rho2 (upd H5 D0 (.lst (acc ++ [y]))) acc' accV ∧ RelEnv K rho2 (upd H5 D0 (.lst (acc ++ [y]))) (wipeD env vs) (wipe sg vs) ∧
                R.addTo acc' (compGoX s g c me (wipeD env vs) (s.items.drop (i + 1)) st2) = r ∧ acc'.length ≤ i + 1 := by
            intro st4 rho4 H4 e4 w4 re4 hm
            refine ⟨rho4, env3, st4, w4, re4, ?_⟩
            cases q4 : me env3 st4 with
            | exc c5 st5 =>
              rw [q4] at hm
              exact air hm.symm e4
            | stuck => rw [q4] at hm; exact absurd hm.symm nst
            | ok yd st5 =>
              rw [q4] at hm
              simp only [R.bind_ok] at hm
              split at hm
              · rename_i hh
                rw [R.addTo_one] at hm
                intro rho5 H5 e5 w5 v rv
                have e25 : Ext rho2 H2 rho5 H5 := e4.trans e5
                have hD5 : H5 D0 = some (.lst accV) := e25.kres D0 _ hD2 D0r
                have hr5 : rho5.res = D0 :: rho1.res := by rw [e25.res]; exact hr
                have D0r5 : D0 ∈ rho5.res := by rw [hr5]; exact List.mem_cons_self
                have la : acc.length = accV.length := racc.length
                refine ⟨accV, hD5, by omega, rho5, st5, acc ++ [yd], accV ++ [v], hr5, (Ext.inner hD hr ex e25).over hD, w5.grow D0r5 hD5 trivial trivial, it.grow _ _ _ _ _ D0r5 hD5 (it.stab _ _ _ _ hP2 e25), hh, upd_same, ?_, ?_, hm, by simp; omega⟩
                · exact ((racc.ext e25).append (.cons rv .nil)).grow D0r5 hD5 trivial
                · have r5 := renv.ext e25
                  exact ⟨r5.len, fun i d h => let ⟨v, h1, h2⟩ := r5.at_ i d h; ⟨v, h1, h2.grow D0r5 hD5 trivial⟩⟩
              · exact absurd hm.symm nst
          cases c with
          | none =>
            simp only [tCmX, tYes, if_true]
            simp only [R.bind_ok, if_true] at hg2
            exact body st2 rho2 H3 e3 w3 re3 hg2
          | some c =>
            refine ⟨rho2, env3, st2, w3, re3, ?_⟩
            simp only at hg2
            cases q4 : mT c env3 st2 with
            | exc c5 st5 => rw [q4] at hg2; exact air hg2.symm e3
            | stuck => rw [q4] at hg2; exact absurd hg2.symm nst
            | ok kk st4 =>
              rw [q4] at hg2
              simp only [R.bind_ok] at hg2
              intro rho4 H4 e4 w4
              cases kk with
              | true =>
                rw [if_pos rfl]
                rw [if_pos rfl] at hg2
                exact body st4 rho4 H4 (e3.trans e4) w4 (re3.ext e4) hg2
              | false =>
                rw [if_neg (by simp)]
                rw [if_neg (by simp)] at hg2
                split at hg2
                · rename_i hh
                  have e24 : Ext rho2 H2 rho4 H4 := e3.trans e4
                  exact ⟨rho4, st4, acc, accV, by rw [e24.res]; exact hr, Ext.inner hD hr ex e24, w4, it.stab _ _ _ _ hP2 e24, hh, e24.kres D0 _ hD2 D0r, racc.ext e24, renv.ext e24, hg2, by omega⟩
                · exact absurd hg2.symm nst
    · have ei : i = s.items.length := by omega
      have edrop : s.items.drop i = [] := by rw [ei]; exact List.drop_length
      rw [edrop] at hg2
      unfold compGoX at hg2
      refine .inl ⟨it.stop i rho2 _ H2 w2 hP2 hold2 (by omega), fin acc st2 ?_ rho2 H2 accV hr ex w2 hD2 racc⟩
      rw [← hg2]
      simp [R.addTo]
theorem tE_lcX {K : PySem.W.Frag} {mi : MIt} {g : MG} {c : Option ME} {vs : List Nat} {sg : L2.St} {H : Hp} {Q : VK} (h : tE K cls W (mCompX mi vs g c me) sg H Q) : tLc (tIm K cls W mi) (tGm K vs g) (tCmX K cls c (wIn W sg)) (tE K cls (wIn W sg) me) vs sg H Q := by
  obtain ⟨rho, env, st, w, re, h⟩ := h
  refine ⟨rho, env, st, w, re, ?_⟩
  unfold mCompX at h
  cases q : mi env st with
  | exc c1 st1 => rw [q] at h; exact h
  | stuck => rw [q] at h; exact h
  | ok s st1 =>
    rw [q] at h
    simp only [R.bind_ok] at h
    intro rho1 H1 e1 w1 J P it hP hold D0 hD
    split at h
    · rename_i hz
      have h1 := h.from e1
      refine lcX_go it w1 (re.ext e1) hP hold hD rfl hz (fun z => ?_) (fun c1 stf z rho2 H2 e2 w2 => ?_) fun ys stf z rho2 H2 accV hr ex w2 hD2 racc => ?_
      · rw [z] at h
        exact h.elim
      · rw [z] at h1
        exact h1 rho2 H2 e2 w2
      · rw [z] at h1
        have hsub : ∀ b ∈ rho1.res, b ∈ rho2.res := fun b hb => by rw [hr]; exact List.mem_cons_of_mem _ hb
        refine h1 (rho2.show_ rho1.res) H2 ex (w2.show_ hsub) _ (.lst hD2 (fun z => ?_) (racc.show_ hsub))
        rcases z with z | z
        · exact w2.dis D0 z (by rw [hr]; exact List.mem_cons_self)
        · exact w1.fresh hD (.inr z)
    · exact h.elim
structure LcX (X : Cx) (cls : Nat → Value) (W : WX) (elt tg iter : Expr) (ifs : List Expr) (scope : Scope) (vs : List Nat) (mi : MIt) (g : MG) (c : Option ME) (me : ME) : Prop where
  hc : X.calm = true
  hN : X.N.Nodup
  stk : X.stack = X.env :: X.outer ∧ X.env.frame = some X.env.locals
  tk : Takes X W
  hs : noSet iter = true
  hi : PI X tg iter (tIm X.K cls W mi)
  ok : ∃ own : List (Str × Nat), own.map (·.2) = vs ∧ BlkOk X.N X.env.scope scope own
  parts : PartsX X scope tg elt ifs (tGm X.K vs g) (tCmX X.K cls c) (fun W' => tE X.K cls W' me)
theorem LcX.pe {ifs : List Expr} {scope : Scope} {vs : List Nat} {mi : MIt} {g : MG} {c : Option ME} (L : LcX X cls W elt tg iter ifs scope vs mi g c me) : PE X (.ListComp elt [⟨tg, iter, ifs, 0⟩] scope pos) (tE X.K cls W (mCompX mi vs g c me)) := by
  obtain ⟨own, rfl, ok⟩ := L.ok
  exact PE.weak (pe_lcX L.hc L.hN L.stk.1 L.stk.2 L.tk L.hi ok L.parts (folded_no L.hs)) fun sg H Q h => tE_lcX h
end
end MI
namespace MI
open PySem PySem.Spec PyProof.Rows L2
variable [TC : TabsC]
def mChain (f g : D → D → Sto → R D) (a b c : ME) : ME := fun env st => (a env st).bind fun x st => (b env st).bind fun y st => (f x y st).bind fun z st => match z with
  | .bl true => (c env st).bind fun w st => g y w st
  | .bl false => .ok (.bl false) st
  | _ => .stuck
def putD (kvs : List (Key × D)) (k : Key) (d : D) : List (Key × D) :=
  if (kvs.any fun kv => decide (kv.1 = k)) = true then kvs.map (fun kv => if kv.1 = k then (kv.1, d) else kv) else kvs ++ [(k, d)]
def setAt (o i d : D) (st : Sto) : R Unit := match o with
  | .ref l => match st[l]? with
    | some (.lst xs) => (match i with
      | .int k => (match ixN xs.length k with
        | some j => .ok () (st.set l (.lst (xs.set j d)))
        | none => .stuck)
      | _ => .stuck)
    | some (.dic kvs) => (match keyOf i with
      | some k => if kvs.length < sizeLine then .ok () (st.set l (.dic (putD kvs k d))) else .stuck
      | none => .stuck)
    | some (.dicT kvs) => (match keyTD i with
      | some k => if kvs.length < sizeLine then .ok () (st.set l (.dicT (putT kvs k d))) else .stuck
      | none => .stuck)
    | _ => .stuck
  | _ => .stuck
def sSet (o i e : ME) : MS := fun env st => match (e env st).bind fun d st => (o env st).bind fun x st => (i env st).bind fun y st => setAt x y d st with
  | .ok _ st => .nx env st
  | .exc c st => .exc c env st
  | .stuck => .stuck
def augF (op : Operator) : Option (D → D → Sto → R D) := match op with
  | .Add => some fun x y st => match x, y with
    | .int i, .int j => .ok (.int (i + j)) st
    | _, _ => .stuck
  | .Sub => some fun x y st => match x, y with
    | .int i, .int j => .ok (.int (i - j)) st
    | _, _ => .stuck
  | _ => none
def sAug (i : Nat) (f : D → D → Sto → R D) (e : ME) : MS := fun env st => match env[i]? with
  | some (some x) => (match (e env st).bind fun y st => f x y st with
    | .ok z st => .nx (env.set i (some z)) st
    | .exc c st => .exc c env st
    | .stuck => .stuck)
  | _ => .stuck
def sTry (sub : Nat → Nat → Bool) (b : MS) (hs : List (Nat × MS)) : MS := fun env st => match b env st with
  | .exc c env st => pick c env st hs
  | r => r
where pick (c : Nat) (env : DEnv) (st : Sto) : List (Nat × MS) → SR
  | [] => .exc c env st
  | (h, s) :: hs => if sub c h = true then s env st else pick c env st hs
section
variable {X : Cx} {cls : Nat → Value} {W : WX} {pos : Pos} {a b c e o i : Expr} {ma mb mc m mo mi : ME}
theorem tE_chain {K : PySem.W.Frag} {r r' : R2} {f g : D → D → Sto → R D} (hf : ∀ {sg : L2.St} {rho : Rho} {st : Sto} {H : Hp} {Q : VK} {x y : D} {v u : V}, Wld K rho st H → RelD K rho H x v → RelD K rho H y u → OkR K cls W sg rho H (f x y st) (VQ K Q) → r v u H Q)
    (hg : ∀ {sg : L2.St} {rho : Rho} {st : Sto} {H : Hp} {Q : VK} {x y : D} {v u : V}, Wld K rho st H → RelD K rho H x v → RelD K rho H y u → OkR K cls W sg rho H (g x y st) (VQ K Q) → r' v u H Q)
    {sg : L2.St} {H : Hp} {Q : VK} (h : tE K cls W (mChain f g ma mb mc) sg H Q) : tChain r r' (tE K cls W ma) (tE K cls W mb) (tE K cls W mc) sg H Q := by
  obtain ⟨rho, env, st, w, re, h⟩ := h
  refine ⟨rho, env, st, w, re, OkR.mono (OkR.bind h) fun d1 st1 rho1 H1 e1 w1 h1 v1 rv1 => ?_⟩
  refine ⟨rho1, env, st1, w1, re.ext e1, OkR.mono (OkR.bind h1) fun d2 st2 rho2 H2 e2 w2 h2 v2 rv2 => ?_⟩
  refine hf w2 (rv1.ext e2) rv2 (OkR.mono (OkR.bind h2) fun d3 st3 rho3 H3 e3 w3 h3 v3 rv3 => ?_)
  split at h3
  · cases rv3
    refine ⟨true, rfl, ?_⟩
    rw [if_pos rfl]
    exact ⟨rho3, env, st3, w3, ((re.ext e1).ext e2).ext e3, OkR.mono (OkR.bind h3) fun d4 st4 rho4 H4 e4 w4 h4 v4 rv4 => hg w4 ((rv2.ext e3).ext e4) rv4 h4⟩
  · cases rv3
    refine ⟨false, rfl, ?_⟩
    rw [if_neg (by simp)]
    exact ok_here w3 h3 (.bl _)
  · exact h3.elim
theorem lastMarks_no {op op' : CmpOp} (h : behindInMarks op' c = false) : lastMarks [op, op'] [b, c] = false := by
  simp only [lastMarks]
  exact h
theorem mChain_bl {f g : D → D → Sto → R D} (hg : ∀ x y st d st', g x y st = .ok d st' → ∃ k, d = .bl k) : ∀ env st d st', mChain f g ma mb mc env st = .ok d st' → ∃ k, d = .bl k := by
  intro env st d st' q
  unfold mChain at q
  cases q1 : ma env st with
  | exc c' st' => rw [q1] at q; cases q
  | stuck => rw [q1] at q; cases q
  | ok d1 st1 =>
    rw [q1] at q
    simp only [R.bind_ok] at q
    cases q2 : mb env st1 with
    | exc c' st' => rw [q2] at q; cases q
    | stuck => rw [q2] at q; cases q
    | ok d2 st2 =>
      rw [q2] at q
      simp only [R.bind_ok] at q
      cases q3 : f d1 d2 st2 with
      | exc c' st' => rw [q3] at q; cases q
      | stuck => rw [q3] at q; cases q
      | ok d3 st3 =>
        rw [q3] at q
        simp only [R.bind_ok] at q
        split at q
        · cases q4 : mc env st3 with
          | exc c' st' => rw [q4] at q; cases q
          | stuck => rw [q4] at q; cases q
          | ok d4 st4 => rw [q4] at q; exact hg _ _ _ _ _ q
        · cases q; exact ⟨_, rfl⟩
        · cases q
theorem OkU {K : PySem.W.Frag} {sg : L2.St} {rho : Rho} {H : Hp} {env : DEnv} {r : R Unit} {E : Ends} (re : RelEnv K rho H env sg) (h : OkS K cls W rho H (match r with | .ok _ st => SR.nx env st | .exc c st => .exc c env st | .stuck => .stuck) E) :
    OkR K cls W sg rho H r (fun _ _ _ H' => E.nx sg H') := by
  cases r with
  | ok u st => exact fun rho1 H1 e1 w1 => h sg rho1 H1 e1 w1 (re.ext e1)
  | exc c st => exact fun rho1 H1 e1 w1 => h sg rho1 H1 e1 w1 (re.ext e1)
  | stuck => exact h
def rSetA : TSet := fun o i v H Q => rSetL o i v H Q ∨ rSetD o i v H Q
theorem set_all (hu : X.A.units + 1 < cLine) : PSet X rSetA := fun pins s sg H o i v ov iv u Q I ro ri rv h => h.elim (set_list pins s sg H o i v ov iv u Q I ro ri rv) (set_dict hu pins s sg H o i v ov iv u Q I ro ri rv)
theorem relDs_set {K : PySem.W.Frag} {rho : Rho} {H : Hp} : ∀ {ds : List D} {vs : List V} {d : D} {v : V} (j : Nat), RelDs K rho H ds vs → RelD K rho H d v → RelDs K rho H (ds.set j d) (vs.set j v)
  | _, _, _, _, _, .nil, _ => .nil
  | _, _, _, _, 0, .cons _ t, r => .cons r t
  | _, _, _, _, j + 1, .cons h t, r => .cons h (relDs_set j t r)
theorem relK_put {K : PySem.W.Frag} {rho : Rho} {H : Hp} {ds : List (Key × D)} {vs : List (Key × V)} {k : Key} {d : D} {v : V} (r : RelK K rho H ds vs) (rd : RelD K rho H d v) : RelK K rho H (putD ds k d) (putK vs k v) := by
  have any : ∀ {ds : List (Key × D)} {vs : List (Key × V)}, RelK K rho H ds vs → (ds.any fun kv => decide (kv.1 = k)) = (vs.any fun kv => decide (kv.1 = k)) := by
    intro ds vs r
    induction vs generalizing ds with
    | nil => cases r; rfl
    | cons kv vs ih =>
      cases r with
      | cons h t => simp [ih t]
  have mp : ∀ {ds : List (Key × D)} {vs : List (Key × V)}, RelK K rho H ds vs → RelK K rho H (ds.map fun kv => if kv.1 = k then (kv.1, d) else kv) (vs.map fun kv => if kv.1 = k then (kv.1, v) else kv) := by
    intro ds vs r
    induction vs generalizing ds with
    | nil => cases r; exact .nil
    | cons kv vs ih =>
      cases r with
      | cons h t =>
        simp only [List.map_cons]
        split
        · exact .cons rd (ih t)
        · exact .cons h (ih t)
  have ap : ∀ {ds : List (Key × D)} {vs : List (Key × V)}, RelK K rho H ds vs → RelK K rho H (ds ++ [(k, d)]) (vs ++ [(k, v)]) := by
    intro ds vs r
    induction vs generalizing ds with
    | nil => cases r; exact .cons rd .nil
    | cons kv vs ih =>
      cases r with
      | cons h t => exact .cons h (ih t)
  unfold putD putK
  rw [any r]
  split
  · exact mp r
  · exact ap r
theorem relT_put {K : PySem.W.Frag} {rho : Rho} {H : Hp} {k : List Key} {d : D} {v : V} {ds : List (List Key × D)} {vs : List (List Key × V)} (e : ds.map (·.1) = vs.map (·.1)) (r : RelDs K rho H (ds.map (·.2)) (vs.map (·.2))) (rd : RelD K rho H d v) : (putT ds k d).map (·.1) = (putK vs k v).map (·.1) ∧ RelDs K rho H ((putT ds k d).map (·.2)) ((putK vs k v).map (·.2)) := by
  have any : ∀ {ds : List (List Key × D)} {vs : List (List Key × V)}, ds.map (·.1) = vs.map (·.1) → (ds.any fun kv => decide (kv.1 = k)) = (vs.any fun kv => decide (kv.1 = k)) := by
    intro ds vs e
    have h1 : (ds.any fun kv => decide (kv.1 = k)) = ((ds.map (·.1)).any fun x => decide (x = k)) := by rw [List.any_map]; rfl
    have h2 : (vs.any fun kv => decide (kv.1 = k)) = ((vs.map (·.1)).any fun x => decide (x = k)) := by rw [List.any_map]; rfl
    rw [h1, h2, e]
  have mp : ∀ {ds : List (List Key × D)} {vs : List (List Key × V)}, ds.map (·.1) = vs.map (·.1) → RelDs K rho H (ds.map (·.2)) (vs.map (·.2)) → (ds.map fun kv => if kv.1 = k then (kv.1, d) else kv).map (·.1) = (vs.map fun kv => if kv.1 = k then (kv.1, v) else kv).map (·.1) ∧ RelDs K rho H ((ds.map fun kv => if kv.1 = k then (kv.1, d) else kv).map (·.2)) ((vs.map fun kv => if kv.1 = k then (kv.1, v) else kv).map (·.2)) := by
    intro ds
    induction ds with
    | nil =>
      intro vs e r
      cases vs with
      | nil => exact ⟨rfl, .nil⟩
      | cons _ _ => simp at e
    | cons p ds ih =>
      intro vs e r
      cases vs with
      | nil => simp at e
      | cons q vs =>
        obtain ⟨k1, d1⟩ := p
        obtain ⟨k2, v2⟩ := q
        simp only [List.map_cons, List.cons.injEq] at e
        obtain ⟨rfl, e⟩ := e
        cases r with
        | cons h t =>
          obtain ⟨i1, i2⟩ := ih e t
          simp only [List.map_cons]
          by_cases z : k1 = k
          · simp only [z, if_true]
            exact ⟨congrArg _ i1, .cons rd i2⟩
          · simp only [z, if_false]
            exact ⟨congrArg _ i1, .cons h i2⟩
  unfold putT putK
  rw [any e]
  split
  · exact mp e r
  · refine ⟨by simp [e], ?_⟩
    rw [List.map_append, List.map_append]
    exact r.append (.cons rd .nil)
theorem hop_set {K : PySem.W.Frag} {sg : L2.St} {rho : Rho} {st : Sto} {H : Hp} {x y d : D} {v u z : V} {Q : Hp → Prop} (w : Wld K rho st H) (r1 : RelD K rho H x v) (r2 : RelD K rho H y u) (r3 : RelD K rho H d z) (h : OkR K cls W sg rho H (setAt x y d st) (fun _ _ _ H' => Q H')) : rSetA v u z H Q := by
  unfold setAt at h
  split at h
  · split at h
    · rename_i hl
      obtain ⟨a, ks, rfl, ha, h1, h2⟩ := ref_lst w r1 hl
      have mu : Mut (H a) := by rw [h1]; trivial
      split at h
      · split at h
        · rename_i j hj
          cases r2
          refine .inl ⟨a, ks, _, j, rfl, rfl, h1, by rw [← h2.length]; exact hj, ?_⟩
          exact h rho _ (w.extSet ha _ mu) (w.set ha mu ⟨_, upd_same, (relDs_set j h2 r3).ext (w.extSet ha _ mu)⟩)
        · exact h.elim
      · exact h.elim
    · rename_i hl
      obtain ⟨a, ks, rfl, ha, h1, h2⟩ := ref_dic w r1 hl
      have mu : Mut (H a) := by rw [h1]; trivial
      split at h
      · rename_i k hk
        split at h
        · rename_i hz
          refine .inr ⟨a, upd H a (.dK (putK ks k z)), rfl, ?_, ?_⟩
          · rw [keyOf_rel r2 hk]
            exact DPut.k h1 (by rw [← h2.length]; exact hz)
          · exact h rho _ (w.extSet ha _ mu) (w.set ha mu ⟨_, upd_same, (relK_put h2 r3).ext (w.extSet ha _ mu)⟩)
        · exact h.elim
      · exact h.elim
    · rename_i kvs hl
      obtain ⟨a, ks, rfl, ha, h1, h2, h3⟩ := ref_dicT w r1 hl
      have mu : Mut (H a) := by rw [h1]; trivial
      split at h
      · rename_i k hk
        split at h
        · rename_i hz
          obtain ⟨b, rfl, hb⟩ := keyTD_rel r2 hk
          obtain ⟨p1, p2⟩ := relT_put (k := k) h2 h3 r3
          refine .inr ⟨a, upd H a (.dT (putK ks k z)), rfl, DPut.t h1 hb ?_, ?_⟩
          · have : kvs.length = ks.length := by simpa using congrArg List.length h2
            rw [← this]; exact hz
          · exact h rho _ (w.extSet ha _ mu) (w.set ha mu ⟨_, upd_same, p1, p2.ext (w.extSet ha _ mu)⟩)
        · exact h.elim
      · exact h.elim
    · exact h.elim
  · exact h.elim
theorem ps_setIxM {p : Pos} (hu : X.A.units + 1 < cLine) (ho : PE X o (tE X.K cls W mo)) (hi : PE X i (tE X.K cls W mi)) (he : PE X e (tE X.K cls W m)) (hsl : noSlice i = true) : PS X (.Assign [.Subscript o i p] e pos) (tS X.K cls W (sSet mo mi m)) := by
  have hg : PG X (.Subscript o i p) (gSub (tE X.K cls W mo) (tE X.K cls W mi) rSetA) := pg_sub ho hi (set_all hu) (by
    intro v
    cases i <;> first | rfl | cases hsl)
  refine PS.weak (ps_asg he hg (by unfold swapsWithSole; cases e <;> rfl) rfl rfl) fun E sg H h => ?_
  obtain ⟨rho, env, st, w, re, h⟩ := h
  have h := OkU re h
  refine ⟨rho, env, st, w, re, OkR.mono (OkR.bind h) fun d1 st1 rho1 H1 e1 w1 h1 v1 rv1 => ?_⟩
  refine ⟨rho1, env, st1, w1, re.ext e1, OkR.mono (OkR.bind h1) fun d2 st2 rho2 H2 e2 w2 h2 v2 rv2 => ?_⟩
  refine ⟨rho2, env, st2, w2, (re.ext e1).ext e2, OkR.mono (OkR.bind h2) fun d3 st3 rho3 H3 e3 w3 h3 v3 rv3 => ?_⟩
  exact hop_set w3 (rv2.ext e3) rv3 ((rv1.ext e2).ext e3) h3
theorem aug_ok {op : Operator} {f : D → D → Sto → R D} (hf : augF op = some f) : ∃ t : TIp, PIp X op t ∧ ∀ {sg : L2.St} {rho : Rho} {st : Sto} {H : Hp} {Q : VK} {x y : D} {v u : V}, Wld X.K rho st H → RelD X.K rho H x v → RelD X.K rho H y u → OkR X.K cls W sg rho H (f x y st) (VQ X.K Q) → t v u H Q := by
  cases op <;> simp only [augF, Option.some.injEq, reduceCtorEq] at hf
  · subst hf
    refine ⟨_, ip_add, fun {sg rho st H Q x y v u} w r1 r2 h => ?_⟩
    dsimp only at h
    split at h
    · cases r1; cases r2
      exact ⟨_, _, rfl, rfl, ok_here w h (.int _)⟩
    · exact h.elim
  · subst hf
    refine ⟨_, ip_sub, fun {sg rho st H Q x y v u} w r1 r2 h => ?_⟩
    dsimp only at h
    split at h
    · cases r1; cases r2
      exact ⟨_, _, rfl, rfl, ok_here w h (.int _)⟩
    · exact h.elim
theorem ps_augM {op : Operator} {f : D → D → Sto → R D} {j : Nat} {x : Str} {p : Pos} (hf : augF op = some f) (hN : X.N.Nodup) (hi : X.N[j]? = some x) (hx : Loc X.env.scope x) (hl : X.fn x = true ∨ X.env.scope.names.lookup x = some .local) (he : PE X e (tE X.K cls W m)) :
    PS X (.AugAssign (.Name x p) op e pos) (tS X.K cls W (sAug j f m)) := by
  obtain ⟨t, ht, hop⟩ := aug_ok (X := X) (cls := cls) (W := W) hf
  refine PS.weak (ps_aug hN hi hx he ht hl) fun E sg H h => ?_
  obtain ⟨rho, env, st, w, re, h⟩ := h
  unfold sAug at h
  split at h
  · rename_i d hd
    obtain ⟨v, hv, rv⟩ := re.at_ j d hd
    refine ⟨v, hv, rho, env, st, w, re, ?_⟩
    have h' : OkR X.K cls W sg rho H ((m env st).bind fun y st => f d y st) (fun z _ rho' H' => ∀ u, RelD X.K rho' H' z u → E.nx (sg.set j (some u)) H') := by
      cases q : ((m env st).bind fun y st => f d y st) with
      | ok z st1 =>
        rw [q] at h
        exact fun rho1 H1 e1 w1 u ru => h _ rho1 H1 e1 w1 ((re.ext e1).set ru j)
      | exc c st1 => rw [q] at h; exact fun rho1 H1 e1 w1 => h sg rho1 H1 e1 w1 (re.ext e1)
      | stuck => rw [q] at h; exact h
    exact OkR.mono (OkR.bind h') fun d1 st1 rho1 H1 e1 w1 h1 v1 rv1 => hop w1 (rv.ext e1) rv1 h1
  · exact h.elim
theorem pmk_own0 {C : Addr} {bmB : List Value} {B newId initId : String} {x : Str} {p : Pos} (F : ExcBaseFacts B newId initId bmB) (q : PySem.W.excIn X.K C bmB newId = true) (gC : X.mg x = some (.ref C)) (kC : PySem.W.keepIn X.K (.ref C) = true) (r : Raises X (.ref C)) (hg : Gl X x)
    (hdb : (x == ("__debug__" : Str)) = false) : PMk X (.Call (.Name x p) [] [] pos) (fun _ H Q => Q (.ref C) none H) := by
  intro pins s sg H Q I h
  refine wpAny_Call_Name_kw (ld_glob I hg gC ?_ hdb)
  refine PySem.W.callWith_K0 I.kIn kC ?_
  obtain ⟨bm, N, nm, qn, bs, hdct, sn, sub, ab, col, dd, k0, k1, k2, k3, k5, mN, hC, hN, hni, T⟩ := exc_obj I.kIn q
  refine wpAny_call_exc_subT F T hC hN hni (fun h' e hm => ?_) (by show 0 ≤ sizeLine; exact Nat.zero_le _)
  exact mk_of I hm r h (I.hok.gone hm.new)
theorem ps_raiseM {C : Addr} {x : Str} {p p1 : Pos} {n : Nat} (hcls : cls n = .ref C) (hc : X.calm = true) (tk : Takes X W) (q : PySem.W.excIn X.K C [.type "ValueError", .type "Exception", .type "BaseException", .type "object"] "ValueError.__new__" = true) (gC : X.mg x = some (.ref C)) (kC : PySem.W.keepIn X.K (.ref C) = true) (r : Raises X (.ref C)) (hg : Gl X x)
    (hdb : (x == ("__debug__" : Str)) = false) : PS X (.Raise (some (.Call (.Name x p) [] [] p1)) none pos) (tS X.K cls W (sRaise n)) := by
  refine PS.weak (ps_raise hc tk (pmk_own0 PySem.F.excBase_ValueError q gC kC r hg hdb)) fun E sg H h => ?_
  obtain ⟨rho, env, st, w, re, h⟩ := h
  have := h sg rho H (Ext.refl _ _) w re
  rw [hcls] at this
  exact this
theorem try_pick {K : PySem.W.Frag} {sub : Nat → Nat → Bool} {E : Ends} (hsub : ∀ a b, PySem.W.exmOne K (cls a) (cls b) = some (sub a b)) : ∀ (hs : List (Nat × MS)) (c : Nat) (env : DEnv) (st : Sto) (rho : Rho) (H : Hp), OkS K cls W rho H (sTry.pick sub c env st hs) E →
    (∀ h ∈ hs, ∀ env st rho H, OkS K cls W rho H (h.2 env st) E → OkS K cls WF rho H (h.2 env st) E) →
    ∀ sg rho' H', Ext rho H rho' H' → Wld K rho' st H' → RelEnv K rho' H' env sg → wMany K W E (hs.map fun h => (cls h.1, fun _ _ _ => tS K cls WF h.2)) (cls c) none sg H'
  | [], c, env, st, rho, H, h, _ => fun sg rho' H' e w re => h sg rho' H' e w re
  | (n, s) :: hs, c, env, st, rho, H, h, hw => fun sg rho' H' e w re => by
    refine ⟨sub c n, hsub c n, fun hb a ha => ?_, fun hb => ?_⟩
    · unfold sTry.pick at h
      rw [if_pos hb] at h
      exact ⟨rho', env, st, w, re, OkS.from (hw (n, s) List.mem_cons_self env st rho H h) e⟩
    · unfold sTry.pick at h
      rw [if_neg (by rw [hb]; simp)] at h
      exact try_pick hsub hs c env st rho H h (fun q hq => hw q (List.mem_cons_of_mem _ hq)) sg rho' H' e w re
def Quiet (s : MS) : Prop := ∀ env st, match s env st with
  | .exc _ _ _ => False
  | _ => True
theorem Quiet.wish {K : PySem.W.Frag} {s : MS} (q : Quiet s) {env : DEnv} {st : Sto} {rho : Rho} {H : Hp} {E : Ends} (h : OkS K cls W rho H (s env st) E) : OkS K cls WF rho H (s env st) E := by
  have z := q env st
  cases r : s env st with
  | exc c env st => rw [r] at z; exact z.elim
  | nx env st => rw [r] at h; exact h
  | rt d st => rw [r] at h; exact h
  | bk env st => rw [r] at h; exact h
  | ct env st => rw [r] at h; exact h
  | stuck => rw [r] at h; exact h
theorem ps_tryM {body : List Stmt} {h0 : ExceptHandler} {hds : List ExceptHandler} {mb : MS} {hs : List (Nat × MS)} {sub : Nat → Nat → Bool} (hst : X.stack = X.env :: X.outer) (hf : X.env.frame = some X.env.locals) (tk : Takes X W)
    (hb : ∀ (W' : WX) (pn : List (Addr × Obj)) (xe : Value → Shared → Prop), Takes (X.tr pn xe) W' → PassesOwn (model X.prog X.w) X.A X.env xe → PSs (X.tr pn xe) body (tS X.K cls W' mb))
    (hh : HdsOk X (h0 :: hds) (hs.map fun h => (cls h.1, fun _ _ _ => tS X.K cls WF h.2))) (hsub : ∀ a b, PySem.W.exmOne X.K (cls a) (cls b) = some (sub a b)) (hq : ∀ h ∈ hs, Quiet h.2) :
    PS X (.Try body (h0 :: hds) [] [] pos) (tS X.K cls W (sTry sub mb hs)) := by
  refine PS.weak (ps_try_many (tb := fun W' => tS X.K cls W' mb) hst hf tk hb hh) fun E sg H h => ?_
  obtain ⟨rho, env, st, w, re, h⟩ := h
  refine ⟨rho, env, st, w, re, ?_⟩
  unfold sTry at h
  cases q : mb env st with
  | exc c env1 st1 =>
    rw [q] at h
    exact try_pick hsub hs c env1 st1 rho H h fun p hp env st rho H z => (hq p hp).wish z
  | nx env1 st1 => rw [q] at h; exact h
  | rt d st1 => rw [q] at h; exact h
  | bk env1 st1 => rw [q] at h; exact h
  | ct env1 st1 => rw [q] at h; exact h
  | stuck => rw [q] at h; exact h
theorem ps_breakM : PS X (.Break pos) (tS X.K cls W fun env st => .bk env st) := PS.weak ps_break fun E sg H h => by
  obtain ⟨rho, env, st, w, re, h⟩ := h
  exact h sg rho H (Ext.refl _ _) w re
theorem ps_contM : PS X (.Continue pos) (tS X.K cls W fun env st => .ct env st) := PS.weak ps_continue fun E sg H h => by
  obtain ⟨rho, env, st, w, re, h⟩ := h
  exact h sg rho H (Ext.refl _ _) w re
theorem ps_retNM : PS X (.Return none pos) (tS X.K cls W (sRet (mC .non))) := PS.weak ps_retN fun E sg H h => by
  obtain ⟨rho, env, st, w, re, h⟩ := h
  exact h .non rho H (Ext.refl _ _) w .non
end
end MI
namespace MI
open PySem PySem.Spec PyProof.Rows L2
variable [TC : TabsC]
def getN (x y : D) (st : Sto) : R D := match deref st x, y with
  | .lst ds, .int k => if 0 ≤ k ∧ k < ds.length then (match ds[k.toNat]? with
    | some d => .ok d st
    | none => .stuck) else .stuck
  | _, _ => .stuck
def sAugL (f : D → D → Sto → R D) (o i e : ME) : MS := fun env st => match (o env st).bind fun x st => (i env st).bind fun y st => (getN x y st).bind fun z st => (e env st).bind fun u st => (f z u st).bind fun r st => setAt x y r st with
  | .ok _ st => .nx env st
  | .exc c st => .exc c env st
  | .stuck => .stuck
section
variable {X : Cx} {cls : Nat → Value} {W : WX} {pos : Pos} {e o i : Expr} {m mo mi : ME}
def rGetN (K : PySem.W.Frag) : V → V → Hp → VK → Prop := fun x y H Q => ∃ (p : Addr) (xs : List V) (k : Int) (v : V), x = .ref p ∧ y = .int k ∧ SqL K H p xs ∧ 0 ≤ k ∧ xs[k.toNat]? = some v ∧ Q v H
theorem get_list : PGet X (rGetN X.K) := by
  intro pins s σ H x y v u Q I rx ry h
  obtain ⟨p, xs, k, z, rfl, rfl, hq, h0, he, q⟩ := h
  cases rx
  obtain ⟨t, rfl⟩ := ry
  obtain ⟨its, r, pl, hz⟩ := I.list hq
  obtain ⟨w, ew, rw'⟩ := r.get he
  have hl := r.length
  have hn := line63
  have hk : k.toNat < xs.length := (List.getElem?_eq_some_iff.mp he).1
  exact wpAny_getItem_list pl.isList h0 (by omega) (by simpa using ew) ⟨z, H, I, rw', q⟩
theorem hop_getN {sg : L2.St} {rho : Rho} {st : Sto} {H : Hp} {Q : VK} {x y : D} {v u : V} (w : Wld X.K rho st H) (r1 : RelD X.K rho H x v) (r2 : RelD X.K rho H y u) (h : OkR X.K cls W sg rho H (getN x y st) (VQ X.K Q)) : rGetN X.K v u H Q := by
  unfold getN at h
  split at h
  · rename_i ds k e1
    split at h
    · rename_i hk
      have q := deref_rel w r1
      rw [e1] at q
      obtain ⟨a, vs, rfl, g1, g2⟩ := der_lst q
      cases r2
      split at h
      · rename_i d hd
        obtain ⟨z, hz, rz⟩ := g2.get hd
        exact ⟨a, vs, k, z, rfl, rfl, SqL.of g1, hk.1, hz, ok_here w h rz⟩
      · exact h.elim
    · exact h.elim
  · exact h.elim
theorem ps_augLM {op : Operator} {f : D → D → Sto → R D} {p : Pos} (hu : X.A.units + 1 < cLine) (hf : augF op = some f) (ho : PE X o (tE X.K cls W mo)) (hi : PE X i (tE X.K cls W mi)) (he : PE X e (tE X.K cls W m)) (hsl : noSlice i = true) :
    PS X (.AugAssign (.Subscript o i p) op e pos) (tS X.K cls W (sAugL f mo mi m)) := by
  obtain ⟨t, ht, hop⟩ := aug_ok (X := X) (cls := cls) (W := W) hf
  refine PS.weak (ps_augS ho hi get_list he ht (set_all hu) (by
    intro ov iv new
    cases i <;> first | rfl | cases hsl)) fun E sg H h => ?_
  obtain ⟨rho, env, st, w, re, h⟩ := h
  have h := OkU re h
  refine ⟨rho, env, st, w, re, OkR.mono (OkR.bind h) fun d1 st1 rho1 H1 e1 w1 h1 v1 rv1 => ?_⟩
  refine ⟨rho1, env, st1, w1, re.ext e1, OkR.mono (OkR.bind h1) fun d2 st2 rho2 H2 e2 w2 h2 v2 rv2 => ?_⟩
  refine hop_getN w2 (rv1.ext e2) rv2 (OkR.mono (OkR.bind h2) fun d3 st3 rho3 H3 e3 w3 h3 v3 rv3 => ?_)
  refine ⟨rho3, env, st3, w3, ((re.ext e1).ext e2).ext e3, OkR.mono (OkR.bind h3) fun d4 st4 rho4 H4 e4 w4 h4 v4 rv4 => ?_⟩
  refine hop w4 (rv3.ext e4) rv4 (OkR.mono (OkR.bind h4) fun d5 st5 rho5 H5 e5 w5 h5 v5 rv5 => ?_)
  exact hop_set w5 ((((rv1.ext e2).ext e3).ext e4).ext e5) (((rv2.ext e3).ext e4).ext e5) rv5 h5
end
end MI
namespace MI
open PySem PySem.Spec PyProof.Rows L2
variable [TC : TabsC]
def putFD (f : Str) (d : D) : List (Str × D) → List (Str × D)
  | [] => [(f, d)]
  | (g, x) :: r => if g = f then (g, d) :: r else (g, x) :: putFD f d r
def getFld (ok : Str → Bool) (f : Str) (x : D) (st : Sto) : R D := match x with
  | .ref l => (match st[l]? with
    | some (.ins c fs) => if ok c = true then (match fs.lookup f with
      | some d => .ok d st
      | none => .stuck) else .stuck
    | _ => .stuck)
  | _ => .stuck
def mFld (ok : Str → Bool) (f : Str) (a : ME) : ME := fun env st => (a env st).bind fun x st => getFld ok f x st
def setFld (ok : Str → Bool) (f : Str) (x d : D) (st : Sto) : R Unit := match x with
  | .ref l => (match st[l]? with
    | some (.ins c fs) => if ok c = true ∧ fs.length < 1000 then .ok () (st.set l (.ins c (putFD f d fs))) else .stuck
    | _ => .stuck)
  | _ => .stuck
def sFldS (ok : Str → Bool) (f : Str) (o e : ME) : MS := fun env st => match (e env st).bind fun d st => (o env st).bind fun x st => setFld ok f x d st with
  | .ok _ st => .nx env st
  | .exc c st => .exc c env st
  | .stuck => .stuck
def isObj (c m : Str) (x : D) (st : Sto) : Bool := match x with
  | .ref l => (match st[l]? with
    | some (.ins c' fs) => decide (c' = c) && (fs.lookup m).isNone
    | _ => false)
  | _ => false
def mMethO (c m : Str) (f : List D → Sto → R D) (o : ME) (es : List ME) : ME := fun env st => (o env st).bind fun x st => if isObj c m x st = true then (mArgs es env st).bind fun ds st => f (x :: ds) st else .stuck
def made (l : Nat) : R D → R D
  | .ok .non st => .ok (.ref l) st
  | .ok _ _ => .stuck
  | .exc c st => .exc c st
  | .stuck => .stuck
def mMake (c : Str) (f : List D → Sto → R D) (es : List ME) : ME := fun env st => (mArgs es env st).bind fun ds st => made st.length (f (.ref st.length :: ds) (st ++ [.ins c []]))
def opMulN (x y : D) (st : Sto) : R D := match deref st x, y with
  | .lst a, .int k => if -(2 ^ 63) ≤ k ∧ k < 2 ^ 63 ∧ a.length * k.toNat ≤ sizeLine then .ok (.ref st.length) (st ++ [.lst (List.replicate k.toNat a).flatten]) else .stuck
  | _, _ => .stuck
section
variable {X : Cx} {cls : Nat → Value} {W : WX} {pos : Pos} {e o : Expr} {m mo : ME}
theorem hop_mulN {K : PySem.W.Frag} {sg : L2.St} {rho : Rho} {st : Sto} {H : Hp} {Q : VK} {x y : D} {v u : V} (w : Wld K rho st H) (r1 : RelD K rho H x v) (r2 : RelD K rho H y u) (h : OkR K cls W sg rho H (opMulN x y st) (VQ K Q)) : rMulA K v u H Q := by
  unfold opMulN at h
  split at h
  · rename_i a k e1
    have d1 := deref_rel w r1
    rw [e1] at d1
    obtain ⟨p, vs, rfl, h1, q1⟩ := der_lst d1
    cases r2
    split at h
    · rename_i hl
      exact .inr (.inr (.inl ⟨p, _, vs, rfl, rfl, h1, hl.1, hl.2.1, by rw [← q1.length]; exact hl.2.2, ok_new_lst w h (relDs_rep q1 _)⟩))
    · exact h.elim
  · exact h.elim
theorem ref_ins {K : PySem.W.Frag} {rho : Rho} {st : Sto} {H : Hp} {v : V} {l : Nat} {c : Str} {fs : List (Str × D)} (w : Wld K rho st H) (r : RelD K rho H (.ref l) v) (e : st[l]? = some (.ins c fs)) :
    ∃ (a C dx : Addr) (vs : List (Str × V)), v = .ref a ∧ rho.loc[l]? = some a ∧ H a = some (.ins C dx vs) ∧ PySem.W.nsIn K mainGlobals c = some (some (.ref C)) ∧ fs.map (·.1) = vs.map (·.1) ∧ RelDs K rho H (fs.map (·.2)) (vs.map (·.2)) := by
  cases r with
  | ref h =>
    obtain ⟨vs, C, dx, h1, h2, h3, h4⟩ := w.obj l _ _ h e
    exact ⟨_, C, dx, vs, rfl, h, h1, h2, h3, h4⟩
theorem lookup_rel {K : PySem.W.Frag} {rho : Rho} {H : Hp} {f : Str} : ∀ {fs : List (Str × D)} {vs : List (Str × V)}, fs.map (·.1) = vs.map (·.1) → RelDs K rho H (fs.map (·.2)) (vs.map (·.2)) → (fs.lookup f = none ∧ vs.lookup f = none) ∨ ∃ d v, fs.lookup f = some d ∧ vs.lookup f = some v ∧ RelD K rho H d v
  | [], [], _, _ => .inl ⟨rfl, rfl⟩
  | [], v :: vs, h, _ => by cases h
  | d :: fs, [], h, _ => by cases h
  | (g, d) :: fs, (g', v) :: vs, h, r => by
    simp only [List.map_cons, List.cons.injEq] at h r
    obtain ⟨h1, h2⟩ := h
    cases r with
    | cons r1 r2 =>
      have h1 : g = g' := h1
      subst h1
      simp only [List.lookup_cons]
      cases q : f == g with
      | true => exact .inr ⟨d, v, rfl, rfl, r1⟩
      | false => exact lookup_rel h2 r2
theorem putF_rel {K : PySem.W.Frag} {rho : Rho} {H : Hp} {f : Str} {d : D} {v : V} (rd : RelD K rho H d v) : ∀ {fs : List (Str × D)} {vs : List (Str × V)}, fs.map (·.1) = vs.map (·.1) → RelDs K rho H (fs.map (·.2)) (vs.map (·.2)) →
    (putFD f d fs).map (·.1) = (putF f v vs).map (·.1) ∧ RelDs K rho H ((putFD f d fs).map (·.2)) ((putF f v vs).map (·.2))
  | [], [], _, _ => ⟨rfl, .cons rd .nil⟩
  | [], v :: vs, h, _ => by cases h
  | d :: fs, [], h, _ => by cases h
  | (g, d0) :: fs, (g', v0) :: vs, h, r => by
    simp only [List.map_cons, List.cons.injEq] at h r
    obtain ⟨h1, h2⟩ := h
    cases r with
    | cons r1 r2 =>
      have h1 : g = g' := h1
      subst h1
      unfold putFD putF
      by_cases q : g = f
      · simp only [if_pos q, List.map_cons, h2]
        exact ⟨trivial, .cons rd r2⟩
      · simp only [if_neg q, List.map_cons]
        have ih := putF_rel (f := f) rd h2 r2
        exact ⟨by rw [ih.1], .cons r1 ih.2⟩
def ClsAt (K : PySem.W.Frag) (c : Str) (fl : List Str) : Prop := ∀ C, PySem.W.nsIn K mainGlobals c = some (some (.ref C)) → Cls K C ∧ ∀ f ∈ fl, NoAttr K C f
theorem pe_fldM {f : Str} {ok : Str → Bool} (hb : noCall e = true) (hok : ∀ c, ok c = true → ∃ fl, ClsAt X.K c fl ∧ f ∈ fl) (he : PE X e (tE X.K cls W m)) : PE X (.Attribute e f pos) (tE X.K cls W (mFld ok f m)) := by
  refine PE.weak (pe_fld he (base_ok hb)) fun sg H Q h => ?_
  obtain ⟨rho, env, st, w, re, h⟩ := h
  refine ⟨rho, env, st, w, re, OkR.mono (OkR.bind h) fun d st1 rho1 H1 e1 w1 h1 v rv => ?_⟩
  unfold getFld at h1
  split at h1
  · rename_i l
    split at h1
    · rename_i c fs hl
      obtain ⟨a, C, dx, vs, rfl, g1, g2, g3, g4, g5⟩ := ref_ins w1 rv hl
      split at h1
      · rename_i hc
        obtain ⟨fl, hC, hf⟩ := hok c hc
        rcases lookup_rel (f := f) g4 g5 with ⟨q1, q2⟩ | ⟨d, v, q1, q2, q3⟩
        · rw [q1] at h1; exact h1.elim
        · rw [q1] at h1
          exact ⟨a, C, dx, vs, v, rfl, g2, (hC C g3).1, (hC C g3).2 f hf, q2, ok_here w1 h1 q3⟩
      · exact h1.elim
    · exact h1.elim
  · exact h1.elim
theorem swaps_attr {f : Str} {p : Pos} {l : Nat} {env : Env} : swapsWith e (some (.Attribute o f p)) l env = pure false := by
  cases e <;> rfl
theorem ps_fldM {f : Str} {ok : Str → Bool} {p : Pos} (hok : ∀ c, ok c = true → ∃ fl, ClsAt X.K c fl ∧ f ∈ fl) (ho : PE X o (tE X.K cls W mo)) (he : PE X e (tE X.K cls W m)) : PS X (.Assign [.Attribute o f p] e pos) (tS X.K cls W (sFldS ok f mo m)) := by
  refine PS.weak (ps_fld ho he swaps_attr) fun E sg H h => ?_
  obtain ⟨rho, env, st, w, re, h⟩ := h
  have h := OkU re h
  refine ⟨rho, env, st, w, re, OkR.mono (OkR.bind h) fun d1 st1 rho1 H1 e1 w1 h1 v1 rv1 => ?_⟩
  refine ⟨rho1, env, st1, w1, re.ext e1, OkR.mono (OkR.bind h1) fun d2 st2 rho2 H2 e2 w2 h2 v2 rv2 => ?_⟩
  have rv1 := rv1.ext e2
  unfold setFld at h2
  split at h2
  · rename_i l
    split at h2
    · rename_i c fs hl
      obtain ⟨a, C, dx, vs, rfl, g1, g2, g3, g4, g5⟩ := ref_ins w2 rv2 hl
      split at h2
      · rename_i hc
        obtain ⟨fl, hC, hf⟩ := hok c hc.1
        have hlen : fs.length = vs.length := by
          have := congrArg List.length g4
          simpa using this
        refine ⟨a, C, dx, vs, rfl, g2, (hC C g3).1, (hC C g3).2 f hf, by omega, ?_⟩
        have pr := putF_rel (f := f) rv1 g4 g5
        have mu : Mut (H2 a) := by rw [g2]; trivial
        exact h2 rho2 _ (w2.extSet g1 _ mu) (w2.set g1 mu ⟨_, C, dx, upd_same, g3, pr.1, pr.2.ext (w2.extSet g1 _ mu)⟩)
      · exact h2.elim
    · exact h2.elim
  · exact h2.elim
theorem call_own {P : Program} {w : World} {A : Around} {s : Shared} {env : Env} {name : Str} {apos : Pos} {args : List Expr} {Q : Value → Shared → Prop} {E : Value → Shared → Prop} (hb : noCall o = true) (hfew : methodCallForm (args.length + ([] : List Keyword).length) (backTo pos (starEach args env)) (backToKw pos (keywordEach [] env)) = true) (hline : (apos.endLine == pos.line) = true)
    (h : wpAny (model P w) A (eval o env) (fun ov s₁ => wpAny (model P w) A (getMethod ov name (do return (← importBound o env).getD true)) (fun fx s₂ => wpAny (model P w) A (callWith pos fx.1 fx.2 (backTo pos (starEach args env)) (backToKw pos (keywordEach [] env))) Q E s₂) E s₁) E s) :
    wpAny (model P w) A (eval (.Call (.Attribute o name apos) args [] pos) env) Q E s := by
  rw [arm_eval_Call, base_ok hb]
  refine wpAny_bind (wpAny_mono h (fun ov s₁ h₁ => ?_) fun _ _ e => e)
  refine wpAny_bind (wpAny_standAt ?_)
  have hpos : methodCallPos true o env apos pos = pure pos := by unfold methodCallPos; simp [hline]
  unfold methodCall
  rw [hfew]
  refine wpAny_bind (wpAny_holding ?_)
  unfold calleeOf
  rw [if_pos rfl]
  refine wpAny_mono h₁ (fun fx s₂ h₂ => ?_) fun _ _ e => e
  exact wpAny_bind (wpAny_of_eq hpos h₂)
def tMethSS (C : Addr) (m : Str) (sp : Sp) (E : L2.St → XK) (ta : TE) (t : TA) : TE := fun sg H Q => ta sg H fun x H1 => ∃ a dx fs, x = .ref a ∧ H1 a = some (.ins C dx fs) ∧ fs.lookup m = none ∧ t sg H1 fun vs H2 => sp (x :: vs) H2 Q (E sg)
theorem pe_methSS {CX : CXT} {k : Nat} {f C : Addr} {fd : FuncData} {ps : List Str} {sp : Sp} {E : L2.St → XK} {nm : Str} {apos : Pos} {es : List Expr} {ta : TE} {t : TA} (hb : noCall o = true) (hline : (apos.endLine == pos.line) = true) (hp : (e :: es).all plainE = true) (hn : (e :: es).length < 30)
    (he : PE X o ta) (c : Cls X.K C) (hm : Meth X.K C nm f) (F : FnOk X.prog X.w X.K X.mg X.base CX k f fd ps sp) (hr : Room k X.A) (hbd : Binds X.K fd ps []) (hx : ∀ sg, PassesAt CX X sg (E sg)) (ha : PA X (e :: es) t) :
    PE X (.Call (.Attribute o nm apos) (e :: es) [] pos) (tMethSS C nm sp E ta t) := by
  refine ⟨fun pins s sg H Q I h => ?_⟩
  have hfew : methodCallForm ((e :: es).length + ([] : List Keyword).length) (backTo pos (starEach (e :: es) X.env)) (backToKw pos (keywordEach [] X.env)) = true := by
    unfold methodCallForm
    rw [star_all hp]
    have hk : backToKw pos (keywordEach [] X.env) = [] := rfl
    rw [hk]
    have hn' : decide ((e :: es).length + 0 + 0 < 30) = true := by simpa using hn
    simpa using hn'
  refine call_own hb hfew hline (thn (he.run pins s sg H _ I h) fun u s1 ⟨x, H1, I1, rx, a, dx, fs, ex, ea, l, q⟩ => ?_)
  subst ex
  obtain rfl : u = Value.ref a := rx
  refine getmeth_ok I1 ea c hm l ?_
  simp only [List.all_cons, Bool.and_eq_true] at hp
  refine PySem.W.callWith_K (first := [.ref a]) (h₀ := X.base) I.ok.mod.kin hm.kp (thn (ha.run pos pins s1 sg H1 _ I1 q) fun us s2 ⟨vs, H2, I2, r, q2⟩ => ⟨I2.kIn, ?_⟩) (star_plain hp.1) (star_any hp.2)
  exact run_fnS (us := .ref a :: us) (vs := .ref a :: vs) F hr hbd (hx sg) I2 (.cons rfl r) q2
theorem pe_methSS0 {CX : CXT} {k : Nat} {f C : Addr} {fd : FuncData} {ps : List Str} {sp : Sp} {E : L2.St → XK} {nm : Str} {apos : Pos} {ta : TE} (hb : noCall o = true) (hline : (apos.endLine == pos.line) = true)
    (he : PE X o ta) (c : Cls X.K C) (hm : Meth X.K C nm f) (F : FnOk X.prog X.w X.K X.mg X.base CX k f fd ps sp) (hr : Room k X.A) (hbd : Binds X.K fd ps []) (hx : ∀ sg, PassesAt CX X sg (E sg)) :
    PE X (.Call (.Attribute o nm apos) [] [] pos) (tMethSS C nm sp E ta tNil) := by
  refine ⟨fun pins s sg H Q I h => ?_⟩
  refine call_own hb rfl hline (thn (he.run pins s sg H _ I h) fun u s1 ⟨x, H1, I1, rx, a, dx, fs, ex, ea, l, q⟩ => ?_)
  subst ex
  obtain rfl : u = Value.ref a := rx
  refine getmeth_ok I1 ea c hm l ?_
  exact PySem.W.callWith_K0 (first := [.ref a]) I1.kIn hm.kp (run_fnS (us := [.ref a]) (vs := [.ref a]) F hr hbd (hx sg) I1 (.cons rfl .nil) q)
theorem isObj_ok {K : PySem.W.Frag} {rho : Rho} {st : Sto} {H : Hp} {d : D} {v : V} {c nm : Str} {C : Addr} (hC : PySem.W.nsIn K mainGlobals c = some (some (.ref C))) (w : Wld K rho st H) (rv : RelD K rho H d v) (h : isObj c nm d st = true) : ∃ a dx fs, v = .ref a ∧ H a = some (.ins C dx fs) ∧ fs.lookup nm = none := by
  unfold isObj at h
  split at h
  · rename_i l
    split at h
    · rename_i c' fs hl
      simp only [Bool.and_eq_true, decide_eq_true_eq] at h
      obtain ⟨rfl, h2⟩ := h
      obtain ⟨a, C', dx, vs, rfl, g1, g2, g3, g4, g5⟩ := ref_ins w rv hl
      rw [hC] at g3
      cases g3
      refine ⟨a, dx, vs, rfl, g2, ?_⟩
      rcases lookup_rel (f := nm) g4 g5 with ⟨q1, q2⟩ | ⟨d, v, q1, q2, q3⟩
      · exact q2
      · rw [q1] at h2; cases h2
    · cases h
  · cases h
theorem pe_methOM {k : Nat} {fa C : Addr} {fd : FuncData} {ps : List Str} {f : List D → Sto → R D} {c nm : Str} {apos : Pos} {es : List Expr} {ms : List ME} (hb : noCall o = true) (hline : (apos.endLine == pos.line) = true) (hp : (e :: es).all plainE = true) (hn : (e :: es).length < 30)
    (hC : PySem.W.nsIn X.K mainGlobals c = some (some (.ref C))) (cl : Cls X.K C) (hm : Meth X.K C nm fa) (F : FnOk X.prog X.w X.K X.mg X.base (L2.CX X.prog X.w) k fa fd ps (spF X.K cls f)) (hr : Room k X.A) (hbd : Binds X.K fd ps []) (tk : Takes X W) (ho : PE X o (tE X.K cls W mo)) (ha : PA X (e :: es) (tAm X.K cls W ms)) :
    PE X (.Call (.Attribute o nm apos) (e :: es) [] pos) (tE X.K cls W (mMethO c nm f mo ms)) := by
  refine PE.weak (pe_methSS (E := WE W) hb hline hp hn ho cl hm F hr hbd (fun sg => passAt tk sg) ha) fun sg H Q h => ?_
  obtain ⟨rho, env, st, w, re, h⟩ := h
  refine ⟨rho, env, st, w, re, OkR.mono (OkR.bind h) fun d st1 rho1 H1 e1 w1 h1 v rv => ?_⟩
  split at h1
  · rename_i hl1
    obtain ⟨a, dx, fs, rfl, g1, g2⟩ := isObj_ok hC w1 rv hl1
    refine ⟨a, dx, fs, rfl, g1, g2, rho1, env, st1, w1, re.ext e1, OkR.mono (OkR.bind h1) fun ds st2 rho2 H2 e2 w2 h2 vs rvs => ?_⟩
    exact ⟨rho2, st2, d :: ds, w2, .cons (rv.ext e2) rvs, OkR.wish h2 fun c H q => q⟩
  · exact h1.elim
theorem pe_methO0M {k : Nat} {fa C : Addr} {fd : FuncData} {ps : List Str} {f : List D → Sto → R D} {c nm : Str} {apos : Pos} (hb : noCall o = true) (hline : (apos.endLine == pos.line) = true)
    (hC : PySem.W.nsIn X.K mainGlobals c = some (some (.ref C))) (cl : Cls X.K C) (hm : Meth X.K C nm fa) (F : FnOk X.prog X.w X.K X.mg X.base (L2.CX X.prog X.w) k fa fd ps (spF X.K cls f)) (hr : Room k X.A) (hbd : Binds X.K fd ps []) (tk : Takes X W) (ho : PE X o (tE X.K cls W mo)) :
    PE X (.Call (.Attribute o nm apos) [] [] pos) (tE X.K cls W (mMethO c nm f mo [])) := by
  refine PE.weak (pe_methSS0 (E := WE W) hb hline ho cl hm F hr hbd (fun sg => passAt tk sg)) fun sg H Q h => ?_
  obtain ⟨rho, env, st, w, re, h⟩ := h
  refine ⟨rho, env, st, w, re, OkR.mono (OkR.bind h) fun d st1 rho1 H1 e1 w1 h1 v rv => ?_⟩
  split at h1
  · rename_i hl1
    obtain ⟨a, dx, fs, rfl, g1, g2⟩ := isObj_ok hC w1 rv hl1
    exact ⟨a, dx, fs, rfl, g1, g2, rho1, st1, [d], w1, .cons rv .nil, OkR.wish h1 fun c H q => q⟩
  · exact h1.elim
theorem run_makeS {CX : CXT} {k : Nat} {f C : Addr} {fd : FuncData} {ps : List Str} {sp : Sp} {E : L2.St → XK} {pins : List (Addr × Obj)} {sg : L2.St} {H : Hp} {s : Shared} {Q : VK} {us : List Value} {vs : List V} (M : Mk X.K C f) (F : FnOk X.prog X.w X.K X.mg X.base CX k f fd ps sp) (hr : Room (k + 1) X.A) (hb : Binds X.K fd ps [])
    (hx : PassesAt CX X sg (E sg)) (I : Inv X pins sg H s) (r : Vals vs us)
    (h : ∀ x dx, H x = none → H dx = none → dx ≠ x → sp (.ref x :: vs) (upd (upd H dx (.own x)) x (.ins C dx [])) (fun v H2 => v = .non ∧ Q (.ref x) H2) (E sg)) :
    wpAny (model X.prog X.w) X.A (call (.ref C) us) (EP X pins sg Q) X.xe s := by
  have hq := h (s.heap.objs.size + 1) s.heap.objs.size (I.hok.fresh (Nat.le_succ _)) (I.hok.fresh (Nat.le_refl _)) (Nat.ne_of_lt (Nat.lt_succ_self _))
  have I2 := Inv.made (C := C) I
  have r2 : Vals (V.ref (s.heap.objs.size + 1) :: vs) (Value.ref (s.heap.objs.size + 1) :: us) := .cons rfl r
  have hl : (Value.ref (s.heap.objs.size + 1) :: us).length = ps.length := by
    have e := r2.length
    rw [F.len _ _ _ _ hq] at e
    exact e.symm
  have b := hb { s with heap := (s.heap.push PySem.W.emptyDict).push (PySem.W.instObj C s.heap.objs.size) } (Value.ref (s.heap.objs.size + 1) :: us) I2.kIn (by rw [List.append_nil]; exact hl)
  rw [List.append_nil] at b
  refine wpAny_call (make_map (f := f) I.kIn M.makes M.init (beq_iff_eq.mp M.fn) (codeAny_mono (F.run _ X.stack _ _ ⟨Value.ref (s.heap.objs.size + 1) :: us, []⟩ (Value.ref (s.heap.objs.size + 1) :: us) _ _ (E sg) (hr.make C us [])
    (I2.env0.make C us []) b r2 hq) fun r s' hq' => ?_))
  cases r with
  | error e => exact hx pins _ _ e s' I2 hq'
  | ok fl =>
    cases fl with
    | ret u =>
      obtain ⟨v, H', I3, rv, ev, q3⟩ := I2.after hq'
      subst ev
      exact ⟨rv, ⟨V.ref (s.heap.objs.size + 1), H', I3, rfl, q3⟩⟩
    | next => exact False.elim hq'
    | brk => exact False.elim hq'
    | cont => exact False.elim hq'
def tMakeSS (C : Addr) (sp : Sp) (E : L2.St → XK) (t : TA) : TE := fun sg H Q => t sg H fun vs H1 => ∀ x dx, H1 x = none → H1 dx = none → dx ≠ x → sp (.ref x :: vs) (upd (upd H1 dx (.own x)) x (.ins C dx [])) (fun v H2 => v = .non ∧ Q (.ref x) H2) (E sg)
theorem pe_makeSS {CX : CXT} {k : Nat} {f C : Addr} {fd : FuncData} {ps : List Str} {sp : Sp} {E : L2.St → XK} {x : Str} {p : Pos} {es : List Expr} {t : TA} (M : Mk X.K C f) (F : FnOk X.prog X.w X.K X.mg X.base CX k f fd ps sp) (hr : Room (k + 1) X.A) (hg : Gl X x) (hm : X.mg x = some (.ref C)) (hb : Binds X.K fd ps []) (hx : ∀ sg, PassesAt CX X sg (E sg))
    (ha : PA X (e :: es) t) (hdb : (x == ("__debug__" : Str)) = false) (hp : (e :: es).all plainE = true) :
    PE X (.Call (.Name x p) (e :: es) [] pos) (tMakeSS C sp E t) := by
  refine ⟨fun pins s sg H Q I h => ?_⟩
  refine wpAny_Call_Name_kw (ld_glob I hg hm ?_ hdb)
  simp only [List.all_cons, Bool.and_eq_true] at hp
  refine PySem.W.callWith_K (h₀ := X.base) I.ok.mod.kin M.kp (thn (ha.run pos pins s sg H _ I h) fun us s1 ⟨vs, H1, I1, r, q⟩ => ⟨I1.kIn, ?_⟩) (star_plain hp.1) (star_any hp.2)
  exact run_makeS M F hr hb (hx sg) I1 r q
theorem pe_makeSS0 {CX : CXT} {k : Nat} {f C : Addr} {fd : FuncData} {ps : List Str} {sp : Sp} {E : L2.St → XK} {x : Str} {p : Pos} (M : Mk X.K C f) (F : FnOk X.prog X.w X.K X.mg X.base CX k f fd ps sp) (hr : Room (k + 1) X.A) (hg : Gl X x) (hm : X.mg x = some (.ref C)) (hb : Binds X.K fd ps []) (hx : ∀ sg, PassesAt CX X sg (E sg))
    (hdb : (x == ("__debug__" : Str)) = false) : PE X (.Call (.Name x p) [] [] pos) (tMakeSS C sp E tNil) := by
  refine ⟨fun pins s sg H Q I h => ?_⟩
  refine wpAny_Call_Name_kw (ld_glob I hg hm ?_ hdb)
  exact PySem.W.callWith_K0 I.kIn M.kp (run_makeS (us := []) M F hr hb (hx sg) I .nil h)
theorem make_sp {K : PySem.W.Frag} {rho : Rho} {st : Sto} {H : Hp} {sg : L2.St} {Q : VK} {c : Str} {C x dx : Addr} {f : List D → Sto → R D} {ds : List D} {vs : List V} (hC : PySem.W.nsIn K mainGlobals c = some (some (.ref C))) (w : Wld K rho st H) (rvs : RelDs K rho H ds vs)
    (h : OkR K cls W sg rho H (made st.length (f (.ref st.length :: ds) (st ++ [.ins c []]))) (VQ K Q)) (hx : H x = none) (hdx : H dx = none) (ne : dx ≠ x) : spF K cls f (.ref x :: vs) (upd (upd H dx (.own x)) x (.ins C dx [])) (fun v H2 => v = .non ∧ Q (.ref x) H2) (WE W sg) := by
  have hx2 : upd H dx (.own x) x = none := by rw [upd_ne (Ne.symm ne)]; exact hx
  have w1 := w.tmp hdx (.own x)
  have e1 := w.extTmp hdx (.own x)
  have e2 := w1.extNew hx2 (.ins C dx [])
  have w2 : Wld K (rho.add x) (st ++ [.ins c []]) (upd (upd H dx (.own x)) x (.ins C dx [])) := w1.new hx2 ⟨[], C, dx, upd_same, hC, rfl, .nil⟩
  have hl : (rho.add x).loc[st.length]? = some x := by rw [← w.len]; simp [Rho.add]
  refine ⟨rho.add x, st ++ [.ins c []], .ref st.length :: ds, w2, .cons (.ref hl) ((rvs.ext e1).ext e2), ?_⟩
  generalize f (.ref st.length :: ds) (st ++ [.ins c []]) = r at h
  cases r with
  | stuck => exact h.elim
  | exc k t => exact fun r2 H2 e3 w3 => h r2 H2 ((e1.trans e2).trans e3) w3
  | ok d t =>
    cases d with
    | non =>
      intro r2 H2 e3 w3 v rv
      cases rv
      exact ⟨rfl, h r2 H2 ((e1.trans e2).trans e3) w3 _ (.ref (e3.get hl))⟩
    | _ => exact h.elim
theorem pe_makeM {k : Nat} {fa C : Addr} {fd : FuncData} {ps : List Str} {f : List D → Sto → R D} {x : Str} {p : Pos} {es : List Expr} {ms : List ME} (hC : PySem.W.nsIn X.K mainGlobals x = some (some (.ref C))) (M : Mk X.K C fa) (F : FnOk X.prog X.w X.K X.mg X.base (L2.CX X.prog X.w) k fa fd ps (spF X.K cls f)) (hr : Room (k + 1) X.A) (hg : Gl X x) (hm : X.mg x = some (.ref C))
    (hb : Binds X.K fd ps []) (tk : Takes X W) (hdb : (x == ("__debug__" : Str)) = false) (hp : (e :: es).all plainE = true) (ha : PA X (e :: es) (tAm X.K cls W ms)) : PE X (.Call (.Name x p) (e :: es) [] pos) (tE X.K cls W (mMake x f ms)) := by
  refine PE.weak (pe_makeSS (E := WE W) M F hr hg hm hb (fun sg => passAt tk sg) ha hdb hp) fun sg H Q h => ?_
  obtain ⟨rho, env, st, w, re, h⟩ := h
  refine ⟨rho, env, st, w, re, OkR.mono (OkR.bind h) fun ds st1 rho1 H1 e1 w1 h1 vs rvs => fun y dy hy hdy ne => ?_⟩
  exact make_sp hC w1 rvs h1 hy hdy ne
theorem pe_make0M {k : Nat} {fa C : Addr} {fd : FuncData} {ps : List Str} {f : List D → Sto → R D} {x : Str} {p : Pos} (hC : PySem.W.nsIn X.K mainGlobals x = some (some (.ref C))) (M : Mk X.K C fa) (F : FnOk X.prog X.w X.K X.mg X.base (L2.CX X.prog X.w) k fa fd ps (spF X.K cls f)) (hr : Room (k + 1) X.A) (hg : Gl X x) (hm : X.mg x = some (.ref C))
    (hb : Binds X.K fd ps []) (tk : Takes X W) (hdb : (x == ("__debug__" : Str)) = false) : PE X (.Call (.Name x p) [] [] pos) (tE X.K cls W (mMake x f [])) := by
  refine PE.weak (pe_makeSS0 (E := WE W) M F hr hg hm hb (fun sg => passAt tk sg) hdb) fun sg H Q h => ?_
  obtain ⟨rho, env, st, w, re, h⟩ := h
  exact fun y dy hy hdy ne => make_sp (ds := []) hC w .nil h hy hdy ne
end
end MI
namespace MX
open PySem PySem.Spec PyProof.Rows L2 HT
section
variable {prog : Program} {w : World} {A : Around} {E : Value → Shared → Prop} {s : Shared}
theorem sliceApplied_step {sl : Addr} {vl vu : Value} {lo hi : Option Int} {k : Int} {t : Tok} {n : Nat} {Q : Int × Int × Nat → Shared → Prop} (hs : s.heap.IsSliceOf sl vl vu (.int k t)) (pl : IsPart vl lo) (pu : IsPart vu hi) (hk : k ≠ 0)
    (h : Q ((Builtin.Slice.sliceAdjust lo hi k n).1, k, Builtin.Slice.slicePlaces (Builtin.Slice.sliceAdjust lo hi k n).1 (Builtin.Slice.sliceAdjust lo hi k n).2 k) s) : wpAny (model prog w) A (Builtin.Slice.sliceApplied (.ref sl) (pure (n : Int))) Q E s := by
  obtain ⟨os, hos, hcs, hds⟩ := id hs
  unfold Builtin.Slice.sliceApplied Builtin.Slice.sliceFields
  refine wpAny_bind (wpAny_bind (wpAny_field hos hds (x := vl) rfl (wpAny_bind (wpAny_field hos hds (x := vu) rfl (wpAny_bind (wpAny_field hos hds (x := .int k t) rfl (wpAny_pure ?_)))))))
  refine wpAny_bind (slicePart_int ?_)
  show wpAny _ _ (if ((k : Int) == 0) = true then _ else _) _ _ s
  rw [if_neg (by simpa using hk)]
  refine wpAny_bind (slicePart_ pl (wpAny_bind (slicePart_ pu (wpAny_bind (wpAny_pure ?_)))))
  exact wpAny_pure h
end
def stepL {α : Type} (xs : List α) (lo hi : Option Int) (k : Int) : List α :=
  (List.range (Builtin.Slice.slicePlaces (Builtin.Slice.sliceAdjust lo hi k xs.length).1 (Builtin.Slice.sliceAdjust lo hi k xs.length).2 k)).filterMap fun (m : Nat) => xs[((Builtin.Slice.sliceAdjust lo hi k xs.length).1 + (m : Int) * k).toNat]?
section
variable {prog : Program} {w : World} {A : Around} {E : Value → Shared → Prop} {s : Shared}
theorem getItem_tuple_step {t sl : Addr} {items : Array Value} {vl vu : Value} {lo hi : Option Int} {k : Int} {tk : Tok} {Q : Value → Shared → Prop} (ht : IsTup s.heap t items) (hs : s.heap.IsSliceOf sl vl vu (.int k tk)) (pl : IsPart vl lo) (pu : IsPart vu hi) (hk : k ≠ 0) (h1 : k ≠ 1)
    (h : Q (.ref s.heap.objs.size) { s with heap := s.heap.push { cls := .type "tuple", data := .seq (stepL items.toList lo hi k).toArray } })
    (hsz : (stepL items.toList lo hi k).length ≤ sizeLine) : wpAny (model prog w) A (getItem (.ref t) (.ref sl)) Q E s := by
  have htake : sizeOk (.seq (stepL items.toList lo hi k).toArray) := by
    show (stepL items.toList lo hi k).toArray.size ≤ sizeLine
    rw [List.size_toArray]
    exact hsz
  obtain ⟨os, hos, hcs, hds⟩ := id hs
  have hTs : s.TypeIs (.ref sl) "slice" := ⟨os, hos, hcs⟩
  unfold getItem
  try with_reducible refine wpAny_holding ?_
  first | refine wpAny_bind (wpAny_pure ?_) | skip
  refine wpAny_bind (wpAny_sequenceKey ht.typeIs (by decide) ?_)
  refine wpAny_bind (wpAny_callSpecial?_slot (name := Str.ofString "__getitem__") ht.typeIs PyProof.Rows.slot_tuple_getitem
    (wpAny_call_entry PyProof.Rows.slot_tuple_getitem ht.typeIs PyProof.Rows.entry_tuple_getitem ?_ (PyProof.Rows.args_tuple_getitem _ _)))
  show wpAny _ _ (Builtin.Tuple.tupleItemsOf (.ref t) >>= _) _ _ s
  refine wpAny_bind (tupleItemsOf_ ht ?_)
  refine wpAny_bind (wpAny_typeOf hTs ?_)
  rw [if_pos (by decide)]
  refine wpAny_bind (sliceApplied_step hs pl pu hk ?_)
  generalize hlo : (Builtin.Slice.sliceAdjust lo hi k items.size).1 = a
  generalize hpl : Builtin.Slice.slicePlaces a (Builtin.Slice.sliceAdjust lo hi k items.size).2 k = b
  have hno : ¬ ((a == 0 && k == 1 && b == items.size) = true) := by
    intro q
    rw [Bool.and_eq_true, Bool.and_eq_true] at q
    exact h1 (eq_of_beq q.1.2)
  show wpAny _ _ (if (a == 0 && k == 1 && b == items.size) = true then _ else _) _ _ s
  rw [if_neg hno]
  have hpick : ((List.range b).filterMap fun (m : Nat) => items[(a + (m : Int) * k).toNat]?).toArray = (stepL items.toList lo hi k).toArray := by
    unfold stepL
    rw [show (items.toList.length : Int) = (items.size : Int) by simp, hlo, hpl]
    simp
  rw [hpick]
  first
    | exact wpAny_bind (m := Builtin.Tuple.tupleExact _) (wpAny_newObj_type (wpAny_pure ⟨_, rfl, wpAny_pure h⟩) htake)
    | exact wpAny_bind (m := Builtin.Tuple.tupleExact _) (wpAny_newObj_type (wpAny_bind (wpAny_pure (wpAny_pure ⟨_, rfl, wpAny_pure h⟩))) htake)
    | exact wpAny_bind (wpAny_bind (m := Builtin.Tuple.tupleExact _) (wpAny_newObj_type (wpAny_pure (wpAny_pure ⟨_, rfl, wpAny_pure h⟩)) htake))
    | exact wpAny_bind (wpAny_bind (m := Builtin.Tuple.tupleExact _) (wpAny_newObj_type (wpAny_pure ⟨_, rfl, wpAny_pure h⟩) htake))
end
theorem vals_filterMap {xs : List V} {us : List Value} (r : Vals xs us) (f : Nat → Nat) : ∀ ms : List Nat, Vals (ms.filterMap fun m => xs[f m]?) (ms.filterMap fun m => us[f m]?)
  | [] => .nil
  | m :: ms => by
    simp only [List.filterMap_cons]
    cases q : xs[f m]? with
    | none =>
      rw [r.none_of q]
      exact vals_filterMap r f ms
    | some x =>
      obtain ⟨u, h1, h2⟩ := r.get q
      rw [h1]
      exact .cons h2 (vals_filterMap r f ms)
theorem vals_step {xs : List V} {us : List Value} (r : Vals xs us) (lo hi : Option Int) (k : Int) : Vals (stepL xs lo hi k) (stepL us lo hi k) := by
  unfold stepL
  rw [r.length]
  exact vals_filterMap r (fun m => ((Builtin.Slice.sliceAdjust lo hi k us.length).1 + (m : Int) * k).toNat) _
section
variable {X : Cx} {e st : Expr} {lo hi : Option Expr} {te : TE} {tl th ts : TO} {p2 pos : Pos}
def tSlStep (K : PySem.W.Frag) (te : TE) (tl th ts : TO) : TE := fun sg H Q => te sg H fun x H1 => tl sg H1 fun l H2 => th sg H2 fun u H3 => ts sg H3 fun o H4 => ∃ a xs k, x = .ref a ∧ SqT K H4 a xs ∧ o = some k ∧ k ≠ 0 ∧ k ≠ 1 ∧ (stepL xs l u k).length ≤ sizeLine ∧ ∀ p, H4 p = none → Q (.ref p) (upd H4 p (.tup (stepL xs l u k)))
theorem pe_slStep (he : PE X e te) (hl : PO X lo tl) (hu : PO X hi th) (hst : PO X (some st) ts) : PE X (.Subscript e (.Slice lo hi (some st) p2) pos) (tSlStep X.K te tl th ts) := by
  refine ⟨fun pins s sg H Q I h => ?_⟩
  refine Subscript_ (thn (he.run pins s sg H _ I h) fun v s1 ⟨x, H1, I1, r1, q1⟩ => ?_)
  refine wpAny_Slice (thn (hl.run pins s1 sg H1 _ I1 q1) fun vl s2 ⟨l, H2, I2, pl, q2⟩ => thn (hu.run pins s2 sg H2 _ I2 q2) fun vu s3 ⟨u, H3, I3, pu, q3⟩ => thn (hst.run pins s3 sg H3 _ I3 q3) fun vs s4 ⟨o, H4, I4, ps, q4⟩ => ?_)
  obtain ⟨a, xs, k, rfl, hx, rfl, hk0, hk1, hz, q⟩ := q4
  cases r1
  cases ps with
  | int k tk =>
    have I5 : Inv X pins sg H4 { s4 with heap := s4.heap.push { cls := .type "slice", data := .fields #[vl, vu, .int k tk] } } := I4.kept (t' := s4.toks) fun b ob q => Heap.get?_push_of_some _ q
    obtain ⟨its, r, ht, hzz⟩ := I5.tuple hx
    have hr := vals_step r l u k
    show wpAny (model X.prog X.w) X.A (subscriptTail e (.Slice lo hi (some st) p2) (.ref a) (.ref s4.heap.objs.size)) (EP X pins sg Q) X.xe { s4 with heap := s4.heap.push { cls := .type "slice", data := .fields #[vl, vu, .int k tk] } }
    refine tail_any (ops := [.ref a, .ref s4.heap.objs.size]) ht.typeIs PyProof.Rows.slot_tuple_getitem.lookup ?_ (by with_unfolding_all rfl)
    refine getItem_tuple_step ht (Heap.IsSliceOf.new _ vl vu (.int k tk)) pl pu hk0 hk1 ?_ (by
      have := hr.length
      simpa [← this] using hz)
    refine ⟨.ref _, _, I5.laid (t' := s4.toks) (o := .tup (stepL xs l u k)) (fun b ob q => Heap.get?_push_of_some _ q) (Nat.le_refl _) ?_, rfl, q _ (I5.hok.fresh (Nat.le_refl _))⟩
    refine ⟨hz, _, hr, ?_⟩
    first
    | exact ⟨_, Heap.get?_push_size _ rfl, rfl, rfl, rfl⟩
    | exact ⟨_, Heap.get?_push_size _ rfl, rfl, rfl⟩
    | exact ⟨_, Heap.get?_push_size _ rfl, rfl, _, rfl⟩
end
end MX
namespace MI
open PySem PySem.Spec PyProof.Rows L2 RZ
variable [TC : TabsC]
structure Feed (P : Program) (w : World) (i l : Addr) (xs : Array Value) (T : Nat → Heap → Prop) (S : Heap → Prop) : Prop where
  tAt : ∀ {k : Nat} {h h' : Heap}, T k h → (∀ o, h.get? i = some o → h'.get? i = some o) → T k h'
  sAt : ∀ {h h' : Heap}, S h → (∀ o, h.get? l = some o → h'.get? l = some o) → S h'
  ob : ∀ {k : Nat} {h : Heap}, T k h → ∃ o, h.get? i = some o ∧ ∀ v, o.data ≠ .cell v
  nxt : ∀ {A : Around} {E : Value → Shared → Prop} {s : Shared} {Q : Value → Shared → Prop} {k : Nat} {x : Value}, T k s.heap → S s.heap → xs[k]? = some x →
    (∀ h', T (k + 1) h' → Heap.SameBut i s.heap h' → Q x { s with heap := h' }) → wpAny (model P w) A (Builtin.SmallTypes.nextOf (.ref i)) Q E s
  fin : ∀ {A : Around} {E : Value → Shared → Prop} {s : Shared} {Q : Value → Shared → Prop} {k : Nat}, A.handled = none → T k s.heap → S s.heap → xs[k]? = none →
    (∀ h' e, Heap.ExtBut i s.heap h' → (∃ o, h'.get? e = some o ∧ o.cls = .type "StopIteration") → E (.ref e) { s with heap := h' }) → wpAny (model P w) A (Builtin.SmallTypes.nextOf (.ref i)) Q E s
theorem feed_list {P : Program} {w : World} (i l : Addr) (xs : Array Value) : Feed P w i l xs (fun k h => h.IsListIter i l k) (fun h => h.IsList l xs) where
  tAt := fun t f => t.at f
  sAt := fun t f => t.at f
  ob := fun t => by
    obtain ⟨o, e, _, d⟩ := t
    exact ⟨o, e, fun v q => by rw [d] at q; cases q⟩
  nxt := fun t sq hx f => wpAny_nextOf_list_item t sq hx f
  fin := fun hh t sq hx f => wpAny_nextOf_list_end hh t sq hx f
theorem feed_tup {P : Program} {w : World} (i l : Addr) (xs : Array Value) : Feed P w i l xs (fun k h => h.IsTupleIter i l k) (fun h => h.IsTuple l xs) where
  tAt := fun t f => t.at f
  sAt := fun t f => t.at f
  ob := fun t => by
    obtain ⟨o, e, _, d⟩ := t
    exact ⟨o, e, fun v q => by rw [d] at q; cases q⟩
  nxt := fun t sq hx f => nextOf_tuple_item t sq hx f
  fin := fun hh t sq hx f => nextOf_tuple_end hh t sq hx f
section
variable {P : Program} {w : World} {A : Around} {E : Value → Shared → Prop} {s : Shared} {z a b i j l m : Addr} {xs ys : Array Value} {T U : Nat → Heap → Prop} {S V : Heap → Prop}
theorem Feed.tB (F : Feed P w i l xs T S) {k : Nat} {h h' : Heap} {c : Addr} (t : T k h) (e : Heap.ExtBut c h h') (n : i ≠ c) : T k h' := F.tAt t fun o q => e _ _ n q
theorem Feed.sB (F : Feed P w i l xs T S) {h h' : Heap} {c : Addr} (t : S h) (e : Heap.ExtBut c h h') (n : l ≠ c) : S h' := F.sAt t fun o q => e _ _ n q
theorem zz_item {k : Nat} {x y u v : Value} {Q : Value → Shared → Prop} (F : Feed P w i l xs T S) (G : Feed P w j m ys U V) (D : ZipApart z a b i j l m)
    (zz : IsZip s.heap z a b .none) (za : IsPair s.heap a (.ref i) (.ref j)) (zb : IsPair s.heap b u v) (t1 : T k s.heap) (t2 : U k s.heap) (s1 : S s.heap) (s2 : V s.heap) (hx : xs[k]? = some x) (hy : ys[k]? = some y)
    (fin : ∀ h', IsZip h' z a b (rawInt s.heap.objs.size) → IsPair h' b x y → T (k + 1) h' → U (k + 1) h' → IsPair h' s.heap.objs.size x y → h'.objs.size = s.heap.objs.size + 1 →
      (∀ c o, c ≠ z → c ≠ b → c ≠ i → c ≠ j → s.heap.get? c = some o → h'.get? c = some o) → Q (.ref s.heap.objs.size) { s with heap := h' }) :
    wpAny (model P w) A (Builtin.«zip.__next__» ⟨[.ref z], []⟩) (fun r s' => ∃ q, r = .done (.ret q) ∧ Q q s') E s := by
  show wpAny _ _ (field (.ref z) 2 >>= _) _ _ _
  refine wpAny_bind (wpAny_field zz rfl (x := .bool false) rfl ?_)
  show wpAny _ _ (field (.ref z) 3 >>= _) _ _ _
  refine wpAny_bind (wpAny_field zz rfl (x := .ref a) rfl ?_)
  refine wpAny_bind (wpAny_seqItems za rfl ?_)
  refine wpAny_bind (m := Builtin.SmallTypes.ownedTupleIsFree (.ref z)) ?_
  unfold Builtin.SmallTypes.ownedTupleIsFree
  refine wpAny_bind (wpAny_field zz rfl (x := .none) rfl (wpAny_pure ?_))
  simp only [if_true]
  refine wpAny_bind (wpAny_rule ?_)
  refine wpAny_bind (wpAny_field zz rfl (x := .ref b) rfl ?_)
  refine wpAny_bind (wpAny_setField_rec zz (by simp) fun g1 z1 e1 => ?_)
  replace z1 : IsZip g1 z a b .ellipsis := z1
  refine wpAny_bind ?_
  simp only [List.zipIdx_cons, List.zipIdx_nil, List.forIn_cons, List.forIn_nil]
  refine wpAny_bind (wpAny_bind (wpAny_onRaise ?_))
  refine wpAny_bind (m := Builtin.SmallTypes.nextOf (.ref i)) (F.nxt (F.tB t1 e1.extBut D.i1z) (F.sB s1 e1.extBut D.l1z) hx fun g2 t1' e2 => wpAny_pure ?_)
  have b2 : IsPair g2 b u v := e2.extBut _ _ D.TOi1 (e1.extBut _ _ D.TOz zb)
  refine wpAny_bind (wpAny_seqItems b2 rfl ?_)
  refine wpAny_bind (wpAny_updateSeq_pair b2 fun g3 b3 e3 => ?_)
  replace b3 : IsPair g3 b x v := b3
  refine wpAny_bind (wpAny_letGo (wpAny_pure ?_))
  refine wpAny_bind (wpAny_bind (wpAny_onRaise ?_))
  refine wpAny_bind (m := Builtin.SmallTypes.nextOf (.ref j)) (G.nxt (G.tB (G.tB (G.tB t2 e1.extBut D.i2z) e2.extBut D.i12.symm) e3.extBut D.TOi2.symm)
    (G.sB (G.sB (G.sB s2 e1.extBut D.l2z) e2.extBut D.l2i1) e3.extBut D.l2TO) hy fun g4 t2' e4 => wpAny_pure ?_)
  have b4 : IsPair g4 b x v := e4.extBut _ _ D.TOi2 b3
  refine wpAny_bind (wpAny_seqItems b4 rfl ?_)
  refine wpAny_bind (wpAny_updateSeq_pair b4 fun g5 b5 e5 => ?_)
  replace b5 : IsPair g5 b x y := b5
  refine wpAny_bind (wpAny_letGo (wpAny_pure (wpAny_pure ?_)))
  refine wpAny_bind (wpAny_seqItems b5 rfl ?_)
  refine wpAny_bind (wpAny_newTuple ?_)
  have sz : g5.objs.size = s.heap.objs.size := by rw [e5.1, e4.1, e3.1, e2.1, e1.1]
  have z5 : IsZip g5 z a b .ellipsis := e5.extBut _ _ D.TOz.symm (e4.extBut _ _ D.i2z.symm (e3.extBut _ _ D.TOz.symm (e2.extBut _ _ D.i1z.symm z1)))
  have k5 : ∀ c o, c ≠ z → c ≠ b → c ≠ i → c ≠ j → s.heap.get? c = some o → g5.get? c = some o := fun c o c1 c2 c3 c4 e =>
    e5.extBut _ _ c2 (e4.extBut _ _ c4 (e3.extBut _ _ c2 (e2.extBut _ _ c3 (e1.extBut _ _ c1 e))))
  have p1 : T (k + 1) g5 := F.tB (F.tB (F.tB t1' e3.extBut D.TOi1.symm) e4.extBut D.i12) e5.extBut D.TOi1.symm
  have p2 : U (k + 1) g5 := G.tB t2' e5.extBut D.TOi2.symm
  have zl : z < g5.objs.size := Heap.lt_size z5
  refine wpAny_bind (m := Builtin.SmallTypes.ownedTupleHandOut (.ref z) (.ref g5.objs.size)) ?_
  unfold Builtin.SmallTypes.ownedTupleHandOut
  have z6 : IsZip (g5.push { cls := .type "tuple", data := .seq #[x, y] }) z a b .ellipsis := Heap.get?_push_of_some _ z5
  refine wpAny_bind (wpAny_setField_rec z6 (by simp) fun g7 z7 e7 => ?_)
  replace z7 : IsZip g7 z a b (rawInt g5.objs.size) := z7
  refine wpAny_setField_rec z7 (by simp) fun g8 z8 e8 => ?_
  replace z8 : IsZip g8 z a b (rawInt g5.objs.size) := z8
  have up : ∀ c o, c ≠ z → g5.get? c = some o → g8.get? c = some o := fun c o c1 e => e8.extBut _ _ c1 (e7.extBut _ _ c1 (Heap.get?_push_of_some _ e))
  have n8 : IsPair g8 g5.objs.size x y := e8.extBut _ _ (Nat.ne_of_gt zl) (e7.extBut _ _ (Nat.ne_of_gt zl) (Heap.get?_push_size _ rfl))
  have sz8 : g8.objs.size = g5.objs.size + 1 := by rw [e8.1, e7.1, Heap.size_push]
  rw [sz] at z8 n8 sz8
  refine wpAny_pure ⟨_, rfl, ?_⟩
  show Q (.ref g5.objs.size) _
  rw [sz]
  exact fin g8 z8 (up _ _ D.TOz b5) (F.tAt p1 fun o e => up _ o D.i1z e) (G.tAt p2 fun o e => up _ o D.i2z e) n8 sz8 fun c o c1 c2 c3 c4 e => up c o c1 (k5 c o c1 c2 c3 c4 e)
theorem zz_end {k : Nat} {u v : Value} {Q : Fin → Shared → Prop} (hh : A.handled = none) (F : Feed P w i l xs T S) (G : Feed P w j m ys U V) (D : ZipApart z a b i j l m)
    (zz : IsZip s.heap z a b .none) (za : IsPair s.heap a (.ref i) (.ref j)) (zb : IsPair s.heap b u v) (t1 : T k s.heap) (t2 : U k s.heap) (s1 : S s.heap) (s2 : V s.heap) (hend : xs[k]? = none ∨ ys[k]? = none)
    (fin : ∀ h' e, (∀ c o, c ≠ z → c ≠ b → c ≠ i → c ≠ j → s.heap.get? c = some o → h'.get? c = some o) → (∃ o, h'.get? e = some o ∧ o.cls = .type "StopIteration") → E (.ref e) { s with heap := h' }) :
    wpAny (model P w) A (Builtin.«zip.__next__» ⟨[.ref z], []⟩) Q E s := by
  show wpAny _ _ (field (.ref z) 2 >>= _) _ _ _
  refine wpAny_bind (wpAny_field zz rfl (x := .bool false) rfl ?_)
  show wpAny _ _ (field (.ref z) 3 >>= _) _ _ _
  refine wpAny_bind (wpAny_field zz rfl (x := .ref a) rfl ?_)
  refine wpAny_bind (wpAny_seqItems za rfl ?_)
  refine wpAny_bind (m := Builtin.SmallTypes.ownedTupleIsFree (.ref z)) ?_
  unfold Builtin.SmallTypes.ownedTupleIsFree
  refine wpAny_bind (wpAny_field zz rfl (x := .none) rfl (wpAny_pure ?_))
  simp only [if_true]
  refine wpAny_bind (wpAny_rule ?_)
  refine wpAny_bind (wpAny_field zz rfl (x := .ref b) rfl ?_)
  refine wpAny_bind (wpAny_setField_rec zz (by simp) fun g1 z1 e1 => ?_)
  replace z1 : IsZip g1 z a b .ellipsis := z1
  refine wpAny_bind ?_
  simp only [List.zipIdx_cons, List.zipIdx_nil, List.forIn_cons, List.forIn_nil]
  refine wpAny_bind (wpAny_bind (wpAny_onRaise ?_))
  cases hx : xs[k]? with
  | none =>
    refine wpAny_bind (m := Builtin.SmallTypes.nextOf (.ref i)) (F.fin hh (F.tB t1 e1.extBut D.i1z) (F.sB s1 e1.extBut D.l1z) hx fun g2 e e2 he => ?_)
    obtain ⟨oe, q1, q2⟩ := he
    have z2 : IsZip g2 z a b .ellipsis := e2 _ _ D.i1z.symm z1
    have ne : e ≠ z := fun x => by subst x; rw [z2] at q1; cases q1; simp at q2
    refine wpAny_setField_rec z2 (by simp) fun g3 _ e3 => fin g3 e (fun c o c1 _ c3 _ x => e3.extBut _ _ c1 (e2 _ _ c3 (e1.extBut _ _ c1 x))) ⟨oe, e3.extBut _ _ ne q1, q2⟩
  | some x =>
    have hy : ys[k]? = none := by rcases hend with h | h; rw [hx] at h; cases h; exact h
    refine wpAny_bind (m := Builtin.SmallTypes.nextOf (.ref i)) (F.nxt (F.tB t1 e1.extBut D.i1z) (F.sB s1 e1.extBut D.l1z) hx fun g2 t1' e2 => wpAny_pure ?_)
    have b2 : IsPair g2 b u v := e2.extBut _ _ D.TOi1 (e1.extBut _ _ D.TOz zb)
    refine wpAny_bind (wpAny_seqItems b2 rfl ?_)
    refine wpAny_bind (wpAny_updateSeq_pair b2 fun g3 b3 e3 => ?_)
    refine wpAny_bind (wpAny_letGo (wpAny_pure ?_))
    refine wpAny_bind (wpAny_bind (wpAny_onRaise ?_))
    refine wpAny_bind (m := Builtin.SmallTypes.nextOf (.ref j)) (G.fin hh (G.tB (G.tB (G.tB t2 e1.extBut D.i2z) e2.extBut D.i12.symm) e3.extBut D.TOi2.symm)
      (G.sB (G.sB (G.sB s2 e1.extBut D.l2z) e2.extBut D.l2i1) e3.extBut D.l2TO) hy fun g4 e e4 he => ?_)
    obtain ⟨oe, q1, q2⟩ := he
    have z4 : IsZip g4 z a b .ellipsis := e4 _ _ D.i2z.symm (e3.extBut _ _ D.TOz.symm (e2.extBut _ _ D.i1z.symm z1))
    have ne : e ≠ z := fun x => by subst x; rw [z4] at q1; cases q1; simp at q2
    refine wpAny_setField_rec z4 (by simp) fun g5 _ e5 => fin g5 e (fun c o c1 c2 c3 c4 x => e5.extBut _ _ c1 (e4 _ _ c4 (e3.extBut _ _ c2 (e2.extBut _ _ c3 (e1.extBut _ _ c1 x))))) ⟨oe, e5.extBut _ _ ne q1, q2⟩
theorem zz_next {k : Nat} {x y u v : Value} {Q : Option Value → Shared → Prop} (f1 : Feed P w i l xs T S) (G : Feed P w j m ys U V) (D : ZipApart z a b i j l m)
    (zz : IsZip s.heap z a b .none) (za : IsPair s.heap a (.ref i) (.ref j)) (zb : IsPair s.heap b u v) (t1 : T k s.heap) (t2 : U k s.heap) (s1 : S s.heap) (s2 : V s.heap) (hx : xs[k]? = some x) (hy : ys[k]? = some y)
    (fin : ∀ h', IsZip h' z a b (rawInt s.heap.objs.size) → IsPair h' b x y → T (k + 1) h' → U (k + 1) h' → IsPair h' s.heap.objs.size x y → h'.objs.size = s.heap.objs.size + 1 →
      (∀ c o, c ≠ z → c ≠ b → c ≠ i → c ≠ j → s.heap.get? c = some o → h'.get? c = some o) → Q (some (.ref s.heap.objs.size)) { s with heap := h' }) :
    wpAny (model P w) A (pyNext (.ref z)) Q E s := by
  have ty : s.TypeIs (.ref z) "zip" := ⟨_, zz, rfl⟩
  unfold pyNext
  exact wpAny_bind (wpAny_attempt (wpAny_callSpecial?_slot (name := Str.ofString "__next__") ty F.slot_zip_next
    (wpAny_call_entry F.slot_zip_next ty F.entry_zip_next (zz_item f1 G D zz za zb t1 t2 s1 s2 hx hy fun h' a1 a2 a3 a4 a5 a6 a7 => wpAny_pure (fin h' a1 a2 a3 a4 a5 a6 a7)) (F.args_zip_next_1 _))))
theorem zz_stop {k : Nat} {u v : Value} {Q : Option Value → Shared → Prop} (hh : A.handled = none) (f1 : Feed P w i l xs T S) (G : Feed P w j m ys U V) (D : ZipApart z a b i j l m)
    (zz : IsZip s.heap z a b .none) (za : IsPair s.heap a (.ref i) (.ref j)) (zb : IsPair s.heap b u v) (t1 : T k s.heap) (t2 : U k s.heap) (s1 : S s.heap) (s2 : V s.heap) (hend : xs[k]? = none ∨ ys[k]? = none)
    (fin : ∀ h', (∀ c o, c ≠ z → c ≠ b → c ≠ i → c ≠ j → s.heap.get? c = some o → h'.get? c = some o) → Q none { s with heap := h' }) : wpAny (model P w) A (pyNext (.ref z)) Q E s := by
  have ty : s.TypeIs (.ref z) "zip" := ⟨_, zz, rfl⟩
  unfold pyNext
  refine wpAny_bind (wpAny_attempt (wpAny_callSpecial?_slot (name := Str.ofString "__next__") ty F.slot_zip_next
    (wpAny_call_entry F.slot_zip_next ty F.entry_zip_next (zz_end hh f1 G D zz za zb t1 t2 s1 s2 hend fun h' e kp he => ?_) (F.args_zip_next_1 _))))
  obtain ⟨o, ho, hc⟩ := he
  refine wpAny_bind (wpAny_isInstance (T := "StopIteration") (b := true) ⟨o, ho, hc⟩ isSubtype_stop ?_)
  exact wpAny_pure (fin _ kp)
abbrev zm1 (h : Heap) (l : Addr) : Heap := h.push { cls := .type "list_iterator", data := .fields #[.ref l, .int 0 0] }
abbrev zm2 (h : Heap) (l m : Addr) : Heap := (zm1 h l).push { cls := .type "tuple_iterator", data := .fields #[.ref m, .int 0 0] }
abbrev zm3 (h : Heap) (l m : Addr) : Heap := (zm2 h l m).push { cls := .type "tuple", data := .seq #[.ref h.objs.size, .ref (zm1 h l).objs.size] }
abbrev zm4 (h : Heap) (l m : Addr) : Heap := (zm3 h l m).push { cls := .type "tuple", data := .seq #[.none, .none] }
abbrev zm5 (h : Heap) (l m : Addr) : Heap := (zm4 h l m).push { cls := .type "zip", data := .fields #[.none, .bool false, .bool false, .ref (zm2 h l m).objs.size, .ref (zm3 h l m).objs.size] }
theorem zm_new (l m : Addr) (xs ys : Array Value) : Meets (Builtin.«zip.__new__» ⟨[.type "zip", .ref l, .ref m], []⟩) (fun _ R s => s.heap.IsList l xs ∧ s.heap.IsTuple m ys ∧
      R (.ok (.ret (.ref (zm4 s.heap l m).objs.size))) { s with heap := zm5 s.heap l m }) :=
  .of_wp fun prog w A R s h => by
    obtain ⟨hp, g, d, tk, os⟩ := s; obtain ⟨q1, q2, h⟩ := h
    have sb := sub_zip
    have l1 : Heap.IsList (Shared.heap ⟨hp, g, d, tk, os⟩) l xs := q1
    have l2 : Heap.IsTuple (Shared.heap ⟨hp.push { cls := .type "list_iterator", data := .fields #[.ref l, .int 0 0] }, g, d, tk, os⟩) m ys := Heap.IsTuple.push q2 _
    wp_walk using wpAny_pyIter_list l1, wpAny_pyIter_tuple l2
    exact ⟨_, rfl, h⟩
theorem zm_call {Q : Value → Shared → Prop} (q1 : s.heap.IsList l xs) (q2 : s.heap.IsTuple m ys)
    (fin : ∀ h', IsZip h' (s.heap.objs.size + 4) (s.heap.objs.size + 2) (s.heap.objs.size + 3) .none → IsPair h' (s.heap.objs.size + 2) (.ref s.heap.objs.size) (.ref (s.heap.objs.size + 1)) →
      IsPair h' (s.heap.objs.size + 3) .none .none → h'.IsListIter s.heap.objs.size l 0 → h'.IsTupleIter (s.heap.objs.size + 1) m 0 →
      (∀ c o, s.heap.get? c = some o → h'.get? c = some o) → Q (.ref (s.heap.objs.size + 4)) { s with heap := h' }) :
    wpAny (model P w) A (call (.type "zip") [.ref l, .ref m]) Q E s := by
  refine callType_new F.called_zip (by decide) (F.typeCall_zip_2 _ _) (F.newCall_zip_2 _ _) (fun ob => F.args_object_init_3 ob _ _) F.entry_zip_new (zm_new l m xs ys) ⟨q1, q2, ?_⟩
  have z1 : (zm1 s.heap l).objs.size = s.heap.objs.size + 1 := Heap.size_push ..
  have z2 : (zm2 s.heap l m).objs.size = s.heap.objs.size + 2 := by rw [Heap.size_push, z1]
  have z3 : (zm3 s.heap l m).objs.size = s.heap.objs.size + 3 := by rw [Heap.size_push, z2]
  have z4 : (zm4 s.heap l m).objs.size = s.heap.objs.size + 4 := by rw [Heap.size_push, z3]
  have g5 : (zm5 s.heap l m).get? (zm4 s.heap l m).objs.size = some _ := Heap.get?_push_size _ rfl
  have g4 : (zm5 s.heap l m).get? (zm3 s.heap l m).objs.size = some _ := Heap.get?_push_of_some _ (Heap.get?_push_size _ rfl)
  have g3 : (zm5 s.heap l m).get? (zm2 s.heap l m).objs.size = some _ := Heap.get?_push_of_some _ (Heap.get?_push_of_some _ (Heap.get?_push_size _ rfl))
  have g2 : (zm5 s.heap l m).get? (zm1 s.heap l).objs.size = some _ := Heap.get?_push_of_some _ (Heap.get?_push_of_some _ (Heap.get?_push_of_some _ (Heap.get?_push_size _ rfl)))
  have g1 : (zm5 s.heap l m).get? s.heap.objs.size = some _ := Heap.get?_push_of_some _ (Heap.get?_push_of_some _ (Heap.get?_push_of_some _ (Heap.get?_push_of_some _ (Heap.get?_push_size _ rfl))))
  show _ ∧ _
  rw [z2, z3, z4] at g5
  rw [z1, z2] at g3
  rw [z3] at g4
  rw [z1] at g2
  rw [z4]
  exact ⟨⟨_, g5, rfl⟩, fin _ g5 g3 g4 ⟨_, g1, rfl, rfl⟩ ⟨_, g2, rfl, rfl⟩ fun c o x =>
    Heap.get?_push_of_some _ (Heap.get?_push_of_some _ (Heap.get?_push_of_some _ (Heap.get?_push_of_some _ (Heap.get?_push_of_some _ x))))⟩
end
def ItzM (K : PySem.W.Frag) (l m : Addr) : It :=
  ⟨fun i H => ∃ (xs ys : List V) (x y : V), SqL K H l xs ∧ SqT K H m ys ∧ xs[i]? = some x ∧ ys[i]? = some y,
    fun i H v H' => ∃ t x y, v = .ref t ∧ H t = none ∧ H' = upd H t (.tup [x, y]) ∧ (∀ xs, SqL K H l xs → xs[i]? = some x) ∧ ∀ ys, SqT K H m ys → ys[i]? = some y,
    fun i H => ∃ xs ys : List V, SqL K H l xs ∧ SqT K H m ys ∧ (xs.length ≤ i ∨ ys.length ≤ i)⟩
theorem turn_zm {P : Program} {w : World} {K : PySem.W.Frag} {elts : List Expr} {kk : Nat} {tpos : Pos} {l m z a b i1 i2 : Addr} (D : ZipApart z a b i1 i2 l m) :
    Turn P w K (.Tuple elts kk tpos) (ItzM K l m) [z, a, b, i1, i2] z (fun i h => IsZip h z a b .none ∧ IsPair h a (.ref i1) (.ref i2) ∧ (∃ x y, IsPair h b x y) ∧ h.IsListIter i1 l i ∧ h.IsTupleIter i2 m i) where
  mem := by simp
  obj := fun i h st c hc => by
    obtain ⟨q1, q2, ⟨x, y, q3⟩, q4, q5⟩ := st
    simp only [List.mem_cons, List.not_mem_nil, or_false] at hc
    rcases hc with rfl | rfl | rfl | rfl | rfl
    · exact ⟨_, q1, fun v q => nomatch q⟩
    · exact ⟨_, q2, fun v q => nomatch q⟩
    · exact ⟨_, q3, fun v q => nomatch q⟩
    · exact (feed_list (P := P) (w := w) _ l #[]).ob q4
    · exact (feed_tup (P := P) (w := w) _ m #[]).ob q5
  keep := fun i h h' st k => by
    obtain ⟨q1, q2, ⟨x, y, q3⟩, q4, q5⟩ := st
    exact ⟨k z (by simp) _ q1, k a (by simp) _ q2, ⟨x, y, k b (by simp) _ q3⟩, q4.at fun o q => k i1 (by simp) o q, q5.at fun o q => k i2 (by simp) o q⟩
  item := by
    intro X hP hw hK hc i pins s σ H E I hf st hg
    subst hP hw hK
    obtain ⟨q1, q2, ⟨x0, y0, q3⟩, q4, q5⟩ := st
    obtain ⟨xs, ys, x, y, hqx, hqy, hx, hy⟩ := hg
    obtain ⟨us, rv, p, _⟩ := I.list hqx
    obtain ⟨vs, rv2, p2, _⟩ := I.tuple hqy
    obtain ⟨u, hu, ru⟩ := rv.get hx
    obtain ⟨v, hv, ru2⟩ := rv2.get hy
    have zl : z < s.heap.objs.size := Heap.lt_size q1
    refine zz_next (feed_list i1 l us.toArray) (feed_tup i2 m vs.toArray) D q1 q2 q3 q4 q5 p.isList p2 (x := u) (y := v) (by simpa using hu) (by simpa using hv) fun h' z' b' a1 a2 nT sz kp => ?_
    refine ⟨_, rfl, wpAny_letOwnedTupleGo_zip (s := { s with heap := h' }) z' fun h2 z2 sb => ?_⟩
    have nT2 : h2.get? s.heap.objs.size = some { cls := .type "tuple", data := .seq #[u, v] } := (sb.2 _ (Nat.ne_of_gt zl)).trans nT
    have new : ObjOk X.prog X.w (upd H s.heap.objs.size (.tup [x, y])) h2 s.heap.objs.size (.tup [x, y]) :=
      ⟨by show 2 ≤ sizeLine; decide, [u, v], .cons ru (.cons ru2 .nil), ⟨_, nT2, rfl, _, rfl⟩⟩
    have I1 : Inv X pins σ (upd H s.heap.objs.size (.tup [x, y])) { s with heap := h2 } :=
      I.turnedNew (t' := s.toks) (ch := [z, a, b, i1, i2]) (fun c o hb q => (sb.2 c (fun q' => hb (by simp [q']))).trans (kp c o (fun q' => hb (by simp [q'])) (fun q' => hb (by simp [q'])) (fun q' => hb (by simp [q'])) (fun q' => hb (by simp [q'])) q)) hf (Nat.le_refl _) new
    refine ⟨.ref s.heap.objs.size, _, I1, rfl, ⟨_, x, y, rfl, I.hok.fresh (Nat.le_refl _), rfl, fun l hl => by rw [I.list_inj hl hqx]; exact hx, fun l hl => by rw [I.tuple_inj hl hqy]; exact hy⟩, ⟨z2, ?_, ⟨u, v, ?_⟩, ?_, ?_⟩, fun c hcm => ?_⟩
    · exact (sb.2 _ D.TIz).trans (kp _ _ D.TIz D.TITO D.TIi1 D.TIi2 q2)
    · exact (sb.2 _ D.TOz).trans b'
    · exact a1.at fun o q => (sb.2 _ D.i1z).trans q
    · exact a2.at fun o q => (sb.2 _ D.i2z).trans q
    · have lt : c < s.heap.objs.size := by
        obtain ⟨o4, e4, _⟩ := q4
        obtain ⟨o5, e5, _⟩ := q5
        simp only [List.mem_cons, List.not_mem_nil, or_false] at hcm
        rcases hcm with rfl | rfl | rfl | rfl | rfl
        · exact zl
        · exact Heap.lt_size q2
        · exact Heap.lt_size q3
        · exact Heap.lt_size e4
        · exact Heap.lt_size e5
      rw [upd_ne (Nat.ne_of_lt lt)]
      exact (hf c hcm).1
  done := by
    intro X hP hw hK hc i pins s σ H E I hf st hg
    subst hP hw hK
    obtain ⟨q1, q2, ⟨x0, y0, q3⟩, q4, q5⟩ := st
    obtain ⟨xs, ys, hqx, hqy, hend⟩ := hg
    obtain ⟨us, rv, p, _⟩ := I.list hqx
    obtain ⟨vs, rv2, p2, _⟩ := I.tuple hqy
    have l1 := rv.length
    have l2 := rv2.length
    have he : us.toArray[i]? = none ∨ vs.toArray[i]? = none := by
      rcases hend with q | q
      · exact .inl (by simp; omega)
      · exact .inr (by simp; omega)
    exact zz_stop (I.ok.hd hc) (feed_list i1 l us.toArray) (feed_tup i2 m vs.toArray) D q1 q2 q3 q4 q5 p.isList p2 he fun h' kp => ⟨rfl, I.turnedL (t' := s.toks) (ch := [z, a, b, i1, i2]) (fun c o hb q =>
      kp c o (fun q' => hb (by simp [q'])) (fun q' => hb (by simp [q'])) (fun q' => hb (by simp [q'])) (fun q' => hb (by simp [q'])) q) hf⟩
  self := fun A i s Q E st h => wpAny_pyIter_zip st.1 h
def iZipM (K : PySem.W.Frag) (ta : TA) : TI := fun σ H R => ta σ H fun vs H1 => ∃ a b xs ys, vs = [.ref a, .ref b] ∧ SqL K H1 a xs ∧ SqT K H1 b ys ∧ R (ItzM K a b) H1
theorem pi_zm {X : Cx} {e e2 : Expr} {ta : TA} {p pos tpos : Pos} {elts : List Expr} {kk : Nat} (hg : Gl X "zip") (hm : X.mg "zip" = none) (ha : PA X [e, e2] ta)
    (hs : starEach [e, e2] X.env = (false, eval e X.env) :: starEach [e2] X.env) (hpl : (backTo pos (starEach [e2] X.env)).any (·.1) = false) :
    PI X (.Tuple elts kk tpos) (.Call (.Name "zip" p) [e, e2] [] pos) (iZipM X.K ta) := by
  refine ⟨fun pins s σ H R I h => ?_⟩
  refine Call_ (ld_blt I hg hm PyProof.Rows.boot_zip (PyProof.Rows.callWith_type1 (thn (ha.run pos pins s σ H _ I h) fun us s1 ⟨vs, H1, I1, r1, q1⟩ => ?_) hs hpl))
  obtain ⟨a, b, xs, ys, rfl, hqx, hqy, q⟩ := q1
  cases r1 with
  | cons r rr =>
    cases rr with
    | cons r' rr =>
      cases rr
      cases r
      cases r'
      have new5 : ∀ c, c ∈ [s1.heap.objs.size + 4, s1.heap.objs.size + 2, s1.heap.objs.size + 3, s1.heap.objs.size, s1.heap.objs.size + 1] → FpOk X pins H1 c := fun c hcm => by
        have hle : s1.heap.objs.size ≤ c := by
          simp only [List.mem_cons, List.not_mem_nil, or_false] at hcm
          rcases hcm with rfl | rfl | rfl | rfl | rfl <;> first | exact Nat.le_add_right _ _ | exact Nat.le_refl _
        exact I1.fpOk hle (I1.hok.fresh hle)
      obtain ⟨us, rv, p1, _⟩ := I1.list hqx
      obtain ⟨vs, rv2, p2, _⟩ := I1.tuple hqy
      obtain ⟨o2, ho2, _⟩ := id p2
      refine zm_call p1.isList (show s1.heap.IsTuple b vs.toArray from p2) fun h' zz za zb t1 t2 kp => wpAny_pyIter_zip zz ?_
      exact ⟨s1.heap.objs.size + 4, [s1.heap.objs.size + 4, s1.heap.objs.size + 2, s1.heap.objs.size + 3, s1.heap.objs.size, s1.heap.objs.size + 1], _, _, H1, rfl, I1.kept (t' := s1.toks) kp,
        turn_zm (PySem.W.ktu_apart s1.heap.objs.size a b p1.lt (Heap.lt_size ho2)), ⟨zz, za, ⟨_, _, zb⟩, t1, t2⟩, new5, q⟩
end MI
namespace MI
open PySem PySem.Spec PyProof.Rows L2
variable [TC : TabsC]
section
variable {P : Program} {w : World} {A : Around} {E : Value → Shared → Prop} {s : Shared}
structure SetSteps (P : Program) (w : World) (S n : Nat) (Pv : Nat → Value → Prop) (J : Nat → Heap → Prop) : Prop where
  stay : ∀ i h h', J i h → (∀ o, h.get? S = some o → h'.get? S = some o) → J i h'
  add : ∀ (i : Nat) (v : Value) (B : Around) (e : Value → Shared → Prop) (u : Shared) (q : Bool → Shared → Prop), i < n → Pv i v → J i u.heap →
    (∀ b h', Heap.SameBut S u.heap h' → J (i + 1) h' → q b { u with heap := h', toks := u.toks + 1 }) → wpAny (model P w) B (pyHash v >>= fun z => setAddHashed S v z) q e u
theorem upd_loop {I : Addr} {fp wr : List Addr} {G : Array GenState → Array GenState → Prop} {n : Nat} {Pv : Nat → Value → Prop} {St : Nat → Shared → Prop} {R : Result → Shared → Prop} {J : Nat → Heap → Prop}
    (W : WalksS P w A.in1 I fp wr G n Pv St) (S : Addr) (nS : S ∉ fp) (T : SetSteps P w S n Pv J) :
    ∀ (m i : Nat) (u : Shared), n - i = m → i ≤ n → St i u → J i u.heap → (∀ u', Moved (S :: wr) G u u' → J n u'.heap → R (.ok (.ret .none)) u') →
      codeAny (model P w) A (.builtin "set.update.loop" ⟨[.ref S, .ref I], []⟩) R u := by
  have nW : S ∉ wr := fun z => nS (W.sub _ z)
  have sub2 : ∀ b ∈ wr, b ∈ S :: wr := fun b z => List.mem_cons_of_mem _ z
  intro m
  induction m with
  | zero =>
    intro i u em hi st j fin
    obtain rfl : i = n := by omega
    refine codeAny_builtin F.entry_set_update_loop ?_
    rw [Around.under_plainId F.plain_set_update_loop _]
    show wpAny _ A.in1 (pyNext (.ref I) >>= _) _ _ u
    refine wpAny_bind (W.done u _ _ st fun u' mv => ?_)
    show wpAny _ A.in1 (ret Value.none) _ _ u'
    exact wpAny_pure (fin u' (mv.mono sub2) (T.stay i _ _ j fun o e => mv.heap S o nW e))
  | succ m ih =>
    intro i u em hi st j fin
    have lt : i < n := by omega
    refine codeAny_builtin F.entry_set_update_loop ?_
    rw [Around.under_plainId F.plain_set_update_loop _]
    show wpAny _ A.in1 (pyNext (.ref I) >>= _) _ _ u
    refine wpAny_bind (W.item i u _ _ lt st fun v u' hp st' mv => ?_)
    have j' : J i u'.heap := T.stay i _ _ j fun o e => mv.heap S o nW e
    show wpAny _ A.in1 (holding [v] (setAdd S v) >>= _) _ _ u'
    refine wpAny_bind (wpAny_holding ?_)
    unfold setAdd
    refine wpAny_holding ?_
    refine T.add i v _ _ u' _ lt hp j' fun b h' sb j2 => ?_
    refine wpAny_pure ⟨plainId_quiet F.plain_set_update_loop _, ih (i + 1) _ (by omega) lt (W.frame _ u' _ _ st' (Nat.le_succ _) fun c hc o e => ?_) j2 fun u2 mv2 jn => ?_⟩
    · rw [sb.2 c (fun z : c = S => nS (by rw [← z]; exact hc))]; exact e
    · refine fin u2 (Moved.trans W.gtrans ((mv.mono sub2).then_heap (Nat.le_succ _) fun c o hc e => ?_) mv2) jn
      rw [sb.2 c (fun z : c = S => hc (by rw [z]; exact List.mem_cons_self))]; exact e
abbrev noSetYet (w : World) : Obj := { cls := .type "set", dict := none, data := .set #[] 0 (.fresh 0 0 (!w.params.followText "set-order")) }
theorem set_of_list {l : Addr} {items : Array Value} {J : Nat → Heap → Prop} {Q : Value → Shared → Prop} (hh : A.handled = none) (hl : s.heap.IsList l items)
    (T : SetSteps P w s.heap.objs.size items.size (fun i v => items[i]? = some v) J) (J0 : ∀ h, h.get? s.heap.objs.size = some (noSetYet w) → J 0 h)
    (fin : ∀ (h2 : Heap) (tk : Nat), J items.size h2 → (∀ b o, s.heap.get? b = some o → h2.get? b = some o) → Q (.ref s.heap.objs.size) { s with heap := h2, toks := tk }) :
    wpAny (model P w) A (call (.type "set") [.ref l]) Q E s := by
  obtain ⟨_, _, mro⟩ := F.called_set.mro
  have made := F.called_set.made
  have sub0 := F.called_set.sub
  refine wpAny_call (codeAny_of_tree ?_)
  show wpAny _ _ (callAny (.type "set") _) _ _ _
  refine wpAny_pure ⟨Code.quiet_builtin _ (by decide +kernel), codeAny_builtin F.entry_type_call ?_⟩
  rw [Around.under_plain (weight_type_call_type "set" [.ref l] []) rfl]
  have nt := F.called_set.notType
  have cc := F.called_set.canCreate
  have tc := F.typeCall_set_1 (.ref l)
  repeat (any_goals (first | assumption | wp_step))
  refine codeAny_mono (code_set_led1 (.ref l) (E := E) (Q₁ := fun ob s1 => ob = .ref s.heap.objs.size ∧ s1 = { s with heap := s.heap.push (noSetYet w) }) ⟨rfl, rfl⟩) fun r s1 hr => ?_
  cases r with
  | error e => exact hr
  | ok fl =>
    cases fl with
    | ret ob =>
      obtain ⟨rfl, rfl⟩ := hr
      have at0 : (s.heap.push (noSetYet w)).get? s.heap.objs.size = some (noSetYet w) := Heap.get?_push_size _ rfl
      have ty0 : Shared.TypeIs { s with heap := s.heap.push (noSetYet w) } (.ref s.heap.objs.size) "set" := ⟨_, at0, rfl⟩
      have li := F.called_set.init.lookup
      have bi := F.called_set.init.bind (.ref s.heap.objs.size)
      repeat (any_goals (first | assumption | wp_step))
      refine codeAny_mono (codeAny_call_builtin (R := wants (fun r s2 => r = .none ∧ ∃ h2 tk, s2 = { s with heap := h2, toks := tk } ∧ J items.size h2 ∧
          (∀ b o, s.heap.get? b = some o → h2.get? b = some o)) E) F.called_set.init.plain F.entry_set_init (check_set_init_1 ty0 ?_)) fun r2 s2 hr2 => ?_
      · obtain ⟨ol, hol, hcl, nl, hdl⟩ := hl
        obtain ⟨oc, od, oda, osl⟩ := ol
        simp only at hcl hdl
        subst hcl; subst hdl
        have hol2 : (s.heap.push (noSetYet w)).get? l = some { cls := .type "list", dict := od, data := .seq items nl, slots := osl } := Heap.get?_push_of_some _ hol
        have b1 := F.sub_list_set
        have b2 := F.sub_list_frozenset
        have b3 : (Value.type "list" == Value.type "dict") = false := by decide
        have isl : (s.heap.push (noSetYet w)).IsList l items := ⟨_, hol2, rfl, nl, rfl⟩
        unfold Builtin.«set.__init__» noKeywords Builtin.Frozenset.updateFrom
        generalize epi : pyIter = pit
        wp_walk
        subst epi
        refine wpAny_pyIter_list isl ?_
        refine wpAny_bind (wpAny_runValue ?_)
        have llt : l < s.heap.objs.size := Heap.lt_size hol
        have h3 : A.in1.in1.in1.handled = none := by simp [hh]
        have sz1 : (s.heap.push (noSetYet w)).objs.size = s.heap.objs.size + 1 := Heap.size_push ..
        have ne1 : l ≠ (s.heap.push (noSetYet w)).objs.size := by rw [sz1]; exact Nat.ne_of_lt (Nat.lt_succ_of_lt llt)
        have nf : s.heap.objs.size ∉ [(s.heap.push (noSetYet w)).objs.size, l] := by
          rw [sz1]
          intro z
          simp only [List.mem_cons, List.not_mem_nil, or_false] at z
          exact z.elim (Nat.ne_of_lt (Nat.lt_succ_self _)) (Nat.ne_of_gt llt)
        refine upd_loop ((Walks.list h3 _ l ne1 items).toS) s.heap.objs.size nf T (items.size - 0) 0 _ (by omega) (Nat.zero_le _)
          ⟨⟨_, Heap.get?_push_size _ rfl, rfl, rfl⟩, (isl.push _)⟩ ?j0 ?jn
        case j0 => exact J0 _ (Heap.get?_push_of_some _ at0)
        case jn =>
          intro s' mv jn
          obtain ⟨h2, g2, d2, tk2, os2⟩ := s'
          have eg : g2 = s.gens := mv.gens
          have ed : d2 = s.drawn := mv.drawn
          have eo : os2 = s.os := mv.os
          subst eg; subst ed; subst eo
          show wpAny _ _ _ _ _ _
          refine wpAny_pure ?_
          show wpAny _ _ (ret Value.none) _ _ _
          refine wpAny_pure ⟨rfl, h2, tk2, rfl, jn, fun b o e => ?_⟩
          have blt : b < s.heap.objs.size := Heap.lt_size e
          refine mv.heap b o (fun z => ?_) (Heap.get?_push_of_some _ (Heap.get?_push_of_some _ e))
          simp only [List.mem_cons, List.not_mem_nil, or_false, sz1] at z
          exact z.elim (Nat.ne_of_lt blt) (Nat.ne_of_lt (Nat.lt_succ_of_lt blt))
      · cases r2 with
        | error e => exact hr2
        | ok fl2 =>
          cases fl2 with
          | ret r =>
            obtain ⟨rfl, h2, tk, rfl, jn, kp⟩ := hr2
            repeat (any_goals (first | assumption | wp_step))
            exact fin _ _ jn kp
          | _ => exact hr2.elim
    | _ => exact hr.elim
end
end MI
namespace MI
open PySem PySem.Spec PyProof.Rows L2
variable [TC : TabsC]
def dd {α : Type} [DecidableEq α] (xs : List α) : List α := xs.foldl (fun acc x => if x ∈ acc then acc else acc ++ [x]) []
theorem dd_snoc {α : Type} [DecidableEq α] (xs : List α) (x : α) : dd (xs ++ [x]) = if x ∈ dd xs then dd xs else dd xs ++ [x] := by
  unfold dd
  rw [List.foldl_append]
  rfl
theorem take_snoc {α : Type} {xs : List α} {i : Nat} {x : α} (h : xs[i]? = some x) : xs.take (i + 1) = xs.take i ++ [x] := by
  rw [List.take_add_one, h]; rfl
theorem snoc_rec {α : Type} {P : List α → Prop} (h0 : P []) (h1 : ∀ xs x, P xs → P (xs ++ [x])) (xs : List α) : P xs := by
  rw [← List.reverse_reverse xs]
  generalize xs.reverse = ys
  induction ys with
  | nil => exact h0
  | cons y ys ih => rw [List.reverse_cons]; exact h1 _ _ ih
theorem dd_mem {α : Type} [DecidableEq α] (xs : List α) (y : α) : y ∈ dd xs ↔ y ∈ xs := by
  refine snoc_rec (P := fun xs => y ∈ dd xs ↔ y ∈ xs) (by simp [dd]) (fun xs x ih => ?_) xs
  rw [dd_snoc]
  split
  · rename_i h
    rw [List.mem_append, ih]
    constructor
    · exact .inl
    · rintro (h2 | h2)
      · exact h2
      · rw [List.mem_singleton] at h2
        subst h2
        exact ih.mp h
  · rw [List.mem_append, List.mem_append, ih]
theorem dd_len {α : Type} [DecidableEq α] (xs : List α) : (dd xs).length ≤ xs.length := by
  refine snoc_rec (P := fun xs => (dd xs).length ≤ xs.length) (by simp [dd]) (fun xs x ih => ?_) xs
  rw [dd_snoc]
  split
  · simp; omega
  · simp; omega
section
variable {P : Program} {w : World} {α : Type} [DecidableEq α] {S : Addr}
theorem steps_knd (knd : KeyKind P w α) (ks : List α) (hb : ks.length + 1 < scanBound) {Pv : Nat → Value → Prop} (hv : ∀ i v, Pv i v → ∃ k, ks[i]? = some k ∧ knd.is k v = true ∧ v.scannable = true) :
    SetSteps P w S ks.length Pv (fun i h => h.SetOf knd S (fun k => decide (k ∈ dd (ks.take i))) (dd (ks.take i)).length) where
  stay := fun i h h' ⟨o, es, ep, t, ho, r⟩ f => ⟨o, es, ep, t, f o ho, r⟩
  add := fun i v B e u q hi hp j fin => by
    obtain ⟨k, hk, is, sc⟩ := hv i v hp
    refine wpAny_bind (knd.pyHash is ?_)
    have room : (dd (ks.take i)).length + 1 < scanBound := by
      have a := dd_len (ks.take i)
      have b := List.length_take_le i ks
      have c : (ks.take i).length ≤ ks.length := List.length_take_le' i ks
      omega
    refine wpAny_setAddHashed_of (s := { u with toks := u.toks + 1 }) is sc j room fun h' sb j2 => fin _ h' sb ?_
    have e1 : (fun k' => decide (k' ∈ dd (ks.take i)) || decide (k' = k)) = fun k' => decide (k' ∈ dd (ks.take (i + 1))) := by
      funext k'
      rw [take_snoc hk, dd_snoc]
      split
      · rename_i hm
        by_cases z : k' = k
        · subst z; simp [hm]
        · simp [z]
      · simp [List.mem_append]
    have e2 : (if decide (k ∈ dd (ks.take i)) = true then (dd (ks.take i)).length else (dd (ks.take i)).length + 1) = (dd (ks.take (i + 1))).length := by
      rw [take_snoc hk, dd_snoc]
      by_cases z : k ∈ dd (ks.take i)
      · simp [z]
      · simp [z]
    rw [e1, e2] at j2
    exact j2
theorem steps_int (ns : List Int) (hb : ns.length + 1 < scanBound) {Pv : Nat → Value → Prop} (hv : ∀ i v, Pv i v → ∃ k t, ns[i]? = some k ∧ v = .int k t) :
    SetSteps P w S ns.length Pv (fun i h => ∃ c, c ≤ i ∧ SetR w h S (fun j => decide (j ∈ ns.take i)) c) where
  stay := fun i h h' ⟨c, hc, R⟩ f => ⟨c, hc, R.at f⟩
  add := fun i v B e u q hi hp j fin => by
    obtain ⟨k, t, hk, rfl⟩ := hv i v hp
    obtain ⟨c, hc, R⟩ := j
    refine wpAny_bind ((intKind P w).pyHash (k := k) (intKind_is _ _ _ _) ?_)
    refine setR_add_hashed (s := { u with toks := u.toks + 1 }) R (by omega) fun h' sb R2 => fin _ h' sb ⟨_, ?_, R2.congr fun j => ?_⟩
    · split <;> omega
    · rw [take_snoc hk]
      simp [List.mem_append]
end
section
variable {X : Cx}
def rSetI (K : PySem.W.Frag) (w : World) : List V → Hp → VK → Prop := fun xs H Q => ∃ (l : Addr) (ns : List Int), xs = [V.ref l] ∧ SqL K H l (ns.map V.int) ∧ ns.length < 64 ∧
  ∀ p c, H p = none → c ≤ ns.length → Q (.ref p) (upd H p (SetO w p (fun j => decide (j ∈ ns)) c))
theorem cr_setI (hc : X.calm = true) : CallR X (.type "set") (rSetI X.K X.w) := by
  intro pins s σ H xs us Q I r h
  obtain ⟨l, ns, rfl, hl, h64, q⟩ := h
  rw [Vals.ref1 r]
  obtain ⟨its, rv, pl, hz⟩ := I.list hl
  have hi : IntsAre its ns := rv.ints
  have len : its.toArray.size = ns.length := by rw [List.size_toArray, ← rv.length, List.length_map]
  have hn : H s.heap.objs.size = none := I.hok.fresh (Nat.le_refl _)
  refine set_of_list (J := fun i h => ∃ c, c ≤ i ∧ SetR X.w h s.heap.objs.size (fun j => decide (j ∈ ns.take i)) c) (I.ok.hd hc) pl.isList ?_ (fun h z => ⟨0, Nat.le_refl _, setR_new_at z⟩) fun h2 tk j kp => ?_
  · rw [len]
    refine steps_int ns (by unfold scanBound; omega) fun i v hv => ?_
    have hi2 : i < ns.length := by
      have := (Array.getElem?_eq_some_iff.mp hv).1
      rw [len] at this
      exact this
    obtain ⟨t, e⟩ := PyProof.Rows.IntsAre.int_at hi i v (by simpa using hv)
    refine ⟨ns[i], t, List.getElem?_eq_getElem hi2, ?_⟩
    rw [e, List.getD_eq_getElem?_getD, List.getElem?_eq_getElem hi2]; rfl
  · obtain ⟨c, hc2, R⟩ := j
    rw [len] at hc2 R
    rw [List.take_length] at R
    exact ⟨.ref s.heap.objs.size, upd H s.heap.objs.size (SetO X.w s.heap.objs.size (fun j => decide (j ∈ ns)) c), I.laid (t' := tk) kp (Nat.le_refl _) (setO_new R), rfl, q _ c hn hc2⟩
theorem rising_eq : ∀ {xs ys : List Int}, xs.Pairwise (· < ·) → ys.Pairwise (· < ·) → (∀ k, k ∈ xs ↔ k ∈ ys) → xs = ys
  | [], [], _, _, _ => rfl
  | [], y :: ys, _, _, h => absurd ((h y).mpr (by simp)) (by simp)
  | x :: xs, [], _, _, h => absurd ((h x).mp (by simp)) (by simp)
  | x :: xs, y :: ys, h1, h2, h => by
    obtain ⟨a1, a2⟩ := List.pairwise_cons.mp h1
    obtain ⟨b1, b2⟩ := List.pairwise_cons.mp h2
    have e : x = y := by
      have p := (h x).mp (by simp)
      have q := (h y).mpr (by simp)
      rcases List.mem_cons.mp p with p | p
      · exact p
      · rcases List.mem_cons.mp q with q | q
        · exact q.symm
        · have := a1 y q
          have := b1 x p
          omega
    subst e
    congr 1
    refine rising_eq a2 b2 fun k => ⟨fun hk => ?_, fun hk => ?_⟩
    · rcases List.mem_cons.mp ((h k).mp (List.mem_cons_of_mem _ hk)) with e | e
      · subst e; exact absurd (a1 k hk) (by omega)
      · exact e
    · rcases List.mem_cons.mp ((h k).mpr (List.mem_cons_of_mem _ hk)) with e | e
      · subst e; exact absurd (b1 k hk) (by omega)
      · exact e
def sortDD (ns : List Int) : List Int := sortI (dd ns)
theorem sortI_perm (ns : List Int) : (sortI ns).Perm ns := List.mergeSort_perm ns _
theorem sortI_le (ns : List Int) : (sortI ns).Pairwise (· ≤ ·) := by
  have h1 : (sortI ns).Pairwise (fun a b => (decide (a ≤ b)) = true) := List.pairwise_mergeSort (le := fun a b => decide (a ≤ b)) (fun a b c h1 h2 => by simp at *; omega) (fun a b => by simp; omega) ns
  exact h1.imp fun h => by simpa using h
theorem dd_nodup' {α : Type} [DecidableEq α] (xs : List α) : (dd xs).Nodup := by
  refine snoc_rec (P := fun xs => (dd xs).Nodup) (by simp [dd]) (fun xs x ih => ?_) xs
  rw [dd_snoc]
  split
  · exact ih
  · rename_i hm
    rw [List.nodup_append]
    refine ⟨ih, by simp, fun a ha b hb => ?_⟩
    rw [List.mem_singleton] at hb
    subst hb
    rintro rfl
    exact hm ha
theorem sortDD_lt (ns : List Int) : (sortDD ns).Pairwise (· < ·) := lt_of_le_nodup _ (sortI_le _) ((sortI_perm _).nodup_iff.mpr (dd_nodup' ns))
theorem sortDD_mem (ns : List Int) (k : Int) : k ∈ sortDD ns ↔ k ∈ ns := by
  unfold sortDD
  rw [(sortI_perm _).mem_iff, dd_mem]
end
def bSortSet (ds : List D) (st : Sto) : R D := match ds with
  | [d] => match deref st d with
    | .lst es => match intsOf es with
      | some ns => if ns.length < 64 then .ok (.lst ((sortDD ns).map .int)) st else .stuck
      | none => .stuck
    | _ => .stuck
  | _ => .stuck
def bLenSet (ds : List D) (st : Sto) : R D := match ds with
  | [d] => match deref st d with
    | .lst es => match intsOf es with
      | some ns => if ns.length < 64 then .ok (.int (dd ns).length) st else .stuck
      | none => match strsOf es with
        | some ns => if ns.length < 64 then .ok (.int (dd ns).length) st else .stuck
        | none => .stuck
    | _ => .stuck
  | _ => .stuck
section
variable {X : Cx} {cls : Nat → Value} {W : WX} {pos : Pos} {a : Expr} {ma : ME}
theorem mCall1 (f : List D → Sto → R D) (m : ME) (env : DEnv) (st : Sto) : mCall f [m] env st = (m env st).bind fun d st => f [d] st := by
  unfold mCall mArgs
  cases m env st <;> rfl
theorem pe_sortSet {p p2 q : Pos} (hp : plainE a = true) (hg : Gl X "sorted") (hm : X.mg "sorted" = none) (hg2 : Gl X "set") (hm2 : X.mg "set" = none) (hc : X.calm = true) (ha : PE X a (tE X.K cls W ma)) :
    PE X (.Call (.Name "sorted" p) [.Call (.Name "set" p2) [a] [] q] [] pos) (tE X.K cls W (mCall bSortSet [ma])) := by
  have h1 := pe_callTy (cr_setI hc) hg2 hm2 PyProof.Rows.boot_set (pa_cons ha pa_nil (star_plain hp)) (by decide) (by decide) (star_plain hp) rfl (p := p2) (pos := q)
  refine PE.weak (pe_callB (cr_sortedSet hc) hg hm boot_sorted (pa_cons h1 pa_nil (star_plain rfl)) (by decide) (by decide) (star_plain rfl) rfl) fun sg H Q h => ?_
  obtain ⟨rho, env, st, w, re, h⟩ := h
  rw [mCall1] at h
  refine ⟨rho, env, st, w, re, OkR.mono (OkR.bind h) fun d st1 rho1 H1 e1 w1 h1 v rv => ?_⟩
  have q := deref_rel w1 rv
  unfold bSortSet at h1
  simp only at h1
  split at h1
  · rename_i es e
    rw [e] at q
    obtain ⟨l, ks, rfl, g1, g2⟩ := der_lst q
    split at h1
    · rename_i ns e2
      split at h1
      · rename_i h64
        rw [intsOf_rel g2 e2] at g1
        refine ⟨l, ns, rfl, SqL.of g1, h64, fun p c hp hc => ⟨p, _, c, rfl, upd_same, by omega, fun ns' p' pw mem hl hp' => ?_⟩⟩
        have e3 : ns' = sortDD ns := rising_eq pw (sortDD_lt ns) fun k => by rw [mem k, sortDD_mem]; simp
        subst e3
        have ex := w1.extTmp hp (SetO X.w p (fun j => decide (j ∈ ns)) c)
        have w2 := w1.tmp hp (SetO X.w p (fun j => decide (j ∈ ns)) c)
        exact h1 rho1 _ (ex.trans (w2.extTmp hp' _)) (w2.tmp hp' _) _ (.lst upd_same (w2.fresh hp') (rel_ints _))
      · exact h1.elim
    · exact h1.elim
  · exact h1.elim
theorem len_set {K : Type} [DecidableEq K] {knd : KeyKind X.prog X.w K} {A : Around} {E : Value → Shared → Prop} {s : Shared} {b : Addr} {S : K → Bool} {n : Nat} {Q : Value → Shared → Prop} (h : s.heap.SetOf knd b S n) (hn : n < 64)
    (q : Q (.int n (s.toks + 1)) { s with toks := s.toks + 1 + 1 }) : wpAny (model X.prog X.w) A (call (.builtin "len") [.ref b]) Q E s := by
  obtain ⟨o, es, ep, t, ho, hex, hd, _, _, _, hf, rfl⟩ := h
  exact call_len_set ho hex hd hf (by omega) q
def rLenSet (K : PySem.W.Frag) : V → Hp → VK → Prop := fun x H Q => (∃ (l : Addr) (ns : List Int), x = .ref l ∧ SqL K H l (ns.map V.int) ∧ ns.length < 64 ∧ Q (.int (dd ns).length) H) ∨
  ∃ (l : Addr) (ns : List Str), x = .ref l ∧ SqL K H l (ns.map V.str) ∧ ns.length < 64 ∧ Q (.int (dd ns).length) H
theorem pe_lenSet {p p2 q : Pos} (hp : plainE a = true) (hg : Gl X "len") (hm : X.mg "len" = none) (hg2 : Gl X "set") (hm2 : X.mg "set" = none) (hc : X.calm = true) {ta : TE} (ha : PE X a ta) :
    PE X (.Call (.Name "len" p) [.Call (.Name "set" p2) [a] [] q] [] pos) (fun sg H Q => ta sg H fun x H1 => rLenSet X.K x H1 Q) := by
  refine ⟨fun pins s σ H Q I h => ?_⟩
  refine Call_ (ld_blt I hg hm PySem.boot_len ?_)
  refine PyProof.Rows.callWith_builtin1 (PyProof.Rows.args_cons ?_ (star_plain rfl)) (star_plain rfl) rfl
  refine Call_ (ld_blt I hg2 hm2 PyProof.Rows.boot_set ?_)
  refine PyProof.Rows.callWith_type1 (PyProof.Rows.args_cons (thn (ha.run pins s σ H _ I h) fun v s1 ⟨x, H1, I1, r1, q1⟩ => PyProof.Rows.args_nil ?_) (star_plain hp)) (star_plain hp) rfl
  rcases q1 with ⟨l, ns, rfl, hl, h64, q1⟩ | ⟨l, ns, rfl, hl, h64, q1⟩
  · cases r1
    obtain ⟨its, rv, pl, hz⟩ := I1.list hl
    have hi : IntsAre its ns := rv.ints
    have len : its.toArray.size = ns.length := by rw [List.size_toArray, ← rv.length, List.length_map]
    refine set_of_list (J := fun i h => h.SetOf (intKind X.prog X.w) s1.heap.objs.size (fun k => decide (k ∈ dd (ns.take i))) (dd (ns.take i)).length) (I1.ok.hd hc) pl.isList ?_ (fun h z => ?_) fun h2 tk j kp => ?_
    · rw [len]
      refine steps_knd _ ns (by unfold scanBound; omega) fun i v hv => ?_
      have hi2 : i < ns.length := by
        have := (Array.getElem?_eq_some_iff.mp hv).1
        rw [len] at this
        exact this
      obtain ⟨t, e⟩ := PyProof.Rows.IntsAre.int_at hi i v (by simpa using hv)
      refine ⟨ns[i], List.getElem?_eq_getElem hi2, ?_⟩
      rw [e, List.getD_eq_getElem?_getD, List.getElem?_eq_getElem hi2]
      exact ⟨intKind_is _ _ _ _, rfl⟩
    · exact (setObjOf_fresh _).setOf z (by unfold scanBound; omega)
    · rw [len, List.take_length] at j
      refine PyProof.Rows.args_nil ?_
      have I2 : Inv X pins σ H1 { s1 with heap := h2, toks := tk } := I1.kept kp
      have := dd_len ns
      exact len_set j (by omega) ⟨.int (dd ns).length, H1, I2.tok _, ⟨_, rfl⟩, q1⟩
  · cases r1
    obtain ⟨its, rv, pl, hz⟩ := I1.list hl
    have len : its.toArray.size = ns.length := by rw [List.size_toArray, ← rv.length, List.length_map]
    refine set_of_list (J := fun i h => h.SetOf (strKind X.prog X.w) s1.heap.objs.size (fun k => decide (k ∈ dd (ns.take i))) (dd (ns.take i)).length) (I1.ok.hd hc) pl.isList ?_ (fun h z => ?_) fun h2 tk j kp => ?_
    · rw [len]
      refine steps_knd _ ns (by unfold scanBound; omega) fun i v hv => ?_
      have hi2 : i < ns.length := by
        have := (Array.getElem?_eq_some_iff.mp hv).1
        rw [len] at this
        exact this
      obtain ⟨u, hu, t, e⟩ := rv.get (i := i) (x := V.str ns[i]) (by rw [List.getElem?_map, List.getElem?_eq_getElem hi2]; rfl)
      have e2 : its[i]? = some v := by simpa using hv
      rw [hu] at e2
      cases e2
      subst e
      exact ⟨ns[i], List.getElem?_eq_getElem hi2, strKind_is _ _ _ _, rfl⟩
    · exact (setObjOf_fresh _).setOf z (by unfold scanBound; omega)
    · rw [len, List.take_length] at j
      refine PyProof.Rows.args_nil ?_
      have I2 : Inv X pins σ H1 { s1 with heap := h2, toks := tk } := I1.kept kp
      have := dd_len ns
      exact len_set j (by omega) ⟨.int (dd ns).length, H1, I2.tok _, ⟨_, rfl⟩, q1⟩
theorem pe_lenSetM {p p2 q : Pos} (hp : plainE a = true) (hg : Gl X "len") (hm : X.mg "len" = none) (hg2 : Gl X "set") (hm2 : X.mg "set" = none) (hc : X.calm = true) (ha : PE X a (tE X.K cls W ma)) :
    PE X (.Call (.Name "len" p) [.Call (.Name "set" p2) [a] [] q] [] pos) (tE X.K cls W (mCall bLenSet [ma])) := by
  refine PE.weak (pe_lenSet hp hg hm hg2 hm2 hc ha) fun sg H Q h => ?_
  obtain ⟨rho, env, st, w, re, h⟩ := h
  rw [mCall1] at h
  refine ⟨rho, env, st, w, re, OkR.mono (OkR.bind h) fun d st1 rho1 H1 e1 w1 h1 v rv => ?_⟩
  have q := deref_rel w1 rv
  unfold bLenSet at h1
  simp only at h1
  split at h1
  · rename_i es e
    rw [e] at q
    obtain ⟨l, ks, rfl, g1, g2⟩ := der_lst q
    split at h1
    · rename_i ns e2
      split at h1
      · rename_i h64
        rw [intsOf_rel g2 e2] at g1
        exact .inl ⟨l, ns, rfl, SqL.of g1, h64, ok_here w1 h1 (.int _)⟩
      · exact h1.elim
    · split at h1
      · rename_i ns e2
        split at h1
        · rename_i h64
          rw [strsOf_rel g2 e2] at g1
          exact .inr ⟨l, ns, rfl, SqL.of g1, h64, ok_here w1 h1 (.int _)⟩
        · exact h1.elim
      · exact h1.elim
  · exact h1.elim
end
end MI
namespace MI
open PySem PySem.Spec PyProof.Rows L2
variable [TC : TabsC]
section
variable {X : Cx} {a : Expr} {ta : TE} {pos p apos cpos : Pos}
theorem keys_ints {P : Program} {w : World} {vs : List (Key × Value)} {ks : List Int} (hkeys : vs.map (·.1) = ks.map Sum.inl) {acc : Array Value} (hacc : ItemsOf (fun i v => ∃ k x, vs[i]? = some (k, x) ∧ (mixKind P w).is k v = true) acc vs.length) : IntsAre acc.toList ks := by
  have hl : vs.length = ks.length := by
    have e := congrArg List.length hkeys
    rw [List.length_map, List.length_map] at e
    exact e
  have hal : acc.toList.length = ks.length := by rw [Array.length_toList, hacc.1, hl]
  refine ints_each hal fun j v e => ?_
  obtain ⟨k, x, e1, e2⟩ := hacc.2 j v (by rw [← Array.getElem?_toList]; exact e)
  have e3 : (vs.map (·.1))[j]? = some k := by rw [List.getElem?_map, e1]; rfl
  rw [hkeys, List.getElem?_map] at e3
  cases e4 : ks[j]? with
  | none => rw [e4] at e3; cases e3
  | some y =>
    rw [e4] at e3
    have e5 : Sum.inl y = k := Option.some.inj e3
    subst e5
    rcases keyIs_shape (show keyIs (Sum.inl y) v = true from e2) with ⟨i, t, ek, ev⟩ | ⟨z, t, ek, ev⟩
    · cases ek
      exact ⟨y, t, rfl, ev⟩
    · cases ek
def rSortKeys : V → Hp → VK → Prop := fun x H Q => ∃ (d : Addr) (kvs : List (Key × V)) (ks : List Int), x = .ref d ∧ Rd H d (.dK kvs) ∧ kvs.map (·.1) = ks.map Sum.inl ∧
  ∀ (ys : List Int) (p : Addr), ys.Perm ks → ys.Pairwise (· ≤ ·) → H p = none → Q (.ref p) (upd H p (.lst (ys.map V.int)))
theorem pe_sortKeys (hg : Gl X "sorted") (hm : X.mg "sorted" = none) (hc : X.calm = true) (ha : PE X a ta) (hbase : attributeBase a "keys" X.env (eval a X.env) = eval a X.env) (hline : (apos.endLine == cpos.line) = true) :
    PE X (.Call (.Name "sorted" p) [.Call (.Attribute a "keys" apos) [] [] cpos] [] pos) (fun sg H Q => ta sg H fun x H1 => rSortKeys x H1 Q) := by
  refine ⟨fun pins s σ H Q I h => ?_⟩
  refine Call_ (ld_blt I hg hm boot_sorted ?_)
  refine PyProof.Rows.callWith_builtin1 (PyProof.Rows.args_cons ?_ (star_plain rfl)) (star_plain rfl) rfl
  refine wpAny_Call_method (T := "dict") (id := "dict.keys") hbase rfl hline F.plainAttrs_dict F.slot_dict_keys F.type_dict_keys (thn (ha.run pins s σ H _ I h) fun u s1 ⟨x, H1, I1, rx, d, kvs, ks, ex, hd, hks, q⟩ => ?_)
  subst ex
  obtain rfl : u = Value.ref d := rx
  obtain ⟨z, lo, vs, rel, dd⟩ := dk_rd I1.hok hd
  obtain ⟨ep, hat⟩ := dd.dictAt
  refine ⟨dd.typeIs, dd.mapOf.noDict, ?_⟩
  have hkeys : vs.map (·.1) = ks.map Sum.inl := rel.keys.symm.trans hks
  have hl : vs.length = ks.length := by
    have e := congrArg List.length hkeys
    rw [List.length_map, List.length_map] at e
    exact e
  have hz : vs.length ≤ sizeLine := by rw [← rel.length]; exact z
  have I2 : Inv X pins σ H1 { s1 with heap := s1.heap.push { cls := .type "dict_keys", data := .fields #[.ref d] } } := I1.kept (t' := s1.toks) fun b ob q => Heap.get?_push_of_some _ q
  show wpAny _ _ (callWith cpos (.builtin "dict.keys") [.ref d] [] []) _ X.xe s1
  refine method_meetsIn F.slot_dict_keys F.entry_dict_keys rfl (PySem.evalArgs_none ⟨rfl, dd.typeIs, F.args_dict_keys_1 _, _, PySem.W.kdl_meets_keys (mixKind X.prog X.w) d lo, ⟨vs, dd⟩, ?_⟩)
  refine PyProof.Rows.args_nil ?_
  generalize hs2 : ({ s1 with heap := s1.heap.push { cls := .type "dict_keys", data := .fields #[.ref d] } } : Shared) = s2 at I2
  have hv : PySem.W.KdlKeysView s2.heap s1.heap.objs.size d ∧ s2.heap.DictAt (mixKind X.prog X.w) d vs ep := by
    subst hs2
    exact ⟨⟨_, Heap.get?_push_size _ rfl, rfl, rfl⟩, hat.push _⟩
  refine Calls.call_function_entry PyProof.Rows.kind_sorted PyProof.Rows.plain_sorted PyProof.Rows.entry_sorted (PyProof.Rows.args_sorted1 _) ?_
  unfold Builtin.«sorted»
  refine wpAny_bind (m := checkCount "sorted" 1 1 _) (wpAny_pure ?_)
  refine wpAny_bind (PySem.W.kdu_collect (A := X.A.in1) (PySem.W.kdl_keys (knd := mixKind X.prog X.w) (kvs := vs) (ep := ep)) (I2.ok.hd hc) hv hz fun h' tk acc hk hacc => ?_)
  have hS := keys_ints hkeys hacc
  have hal : acc.toList.length = ks.length := by rw [Array.length_toList, hacc.1, hl]
  have hz2 : acc.toList.length ≤ sizeLine := by rw [hal, ← hl]; exact hz
  have I3 : Inv X pins σ H1 { s2 with heap := h', toks := tk } := I2.kept hk
  refine wpAny_bind (wpAny_newList ?_ hz2)
  have hoL : (h'.push (seqObj "list" acc.toList.toArray 0)).get? h'.objs.size = some (seqObj "list" acc.toList.toArray 0) := Heap.get?_push_size _ rfl
  show wpAny _ _ _ _ _ { s2 with heap := h'.push (seqObj "list" acc.toList.toArray 0), toks := tk }
  refine wpAny_bind (wpAny_holding (wpAny_call_entry PyProof.Rows.slot_list_sort ⟨_, hoL, rfl⟩ PyProof.Rows.entry_list_sort
    (SrtO.list_sort_ord SrtO.swo_int (s := { s2 with heap := h'.push (seqObj "list" acc.toList.toArray 0), toks := tk }) hoL hz2 (fun h2 => SrtO.ints_sortable hS h2) fun out hs hb => ⟨_, rfl, ?_⟩)
    (PyProof.Rows.args_list_sort _)))
  obtain ⟨k1, k2, k3⟩ := SrtO.ints_out hS hs hb
  obtain ⟨e', he'⟩ := PyProof.Rows.sortedHeap_at (vs := acc.toList) (out := out.toArray) hoL
  have hlen : ((out.map SrtO.iv).map V.int).length ≤ sizeLine := by
    rw [List.length_map, k2.length_eq, ← hl]
    exact hz
  refine wpAny_pure ⟨_, rfl, .ref h'.objs.size, upd H1 h'.objs.size (.lst ((out.map SrtO.iv).map V.int)), I3.laid (t' := tk) (fun b u e => ?_) (Nat.le_refl _)
    (show ObjOk X.prog X.w _ _ _ (.lst ((out.map SrtO.iv).map V.int)) from ⟨hlen, out, e', vals_of_ints k1, he'⟩), rfl, q _ _ k2 k3 (I3.hok.fresh (Nat.le_refl _))⟩
  have hb : b < h'.objs.size := Heap.lt_size e
  rw [PyProof.Rows.sortedHeap_old (Nat.ne_of_lt hb) (by rw [size_push']; exact Nat.lt_succ_of_lt hb)]
  exact Heap.get?_push_of_some _ e
end
def keysI : List (Key × D) → Option (List Int)
  | [] => some []
  | (.inl i, _) :: r => (keysI r).map (i :: ·)
  | _ => none
theorem keysI_rel {K : PySem.W.Frag} {rho : Rho} {H : Hp} : ∀ {ds : List (Key × D)} {vs : List (Key × V)} {ks : List Int}, RelK K rho H ds vs → keysI ds = some ks → vs.map (·.1) = ks.map Sum.inl
  | _, _, ks, .nil, h => by cases h; rfl
  | _, _, ks, .cons (k := .inl i) h t, e => by
    simp only [keysI, Option.map_eq_some_iff] at e
    obtain ⟨r, e, rfl⟩ := e
    simp only [List.map_cons]
    rw [keysI_rel t e]
  | _, _, ks, .cons (k := .inr i) h t, e => by simp [keysI] at e
@[simp] theorem keysI_map (ks : List Int) (f : Int → D) : keysI (ks.map fun k => (Sum.inl k, f k)) = some ks := by
  induction ks with
  | nil => rfl
  | cons n ns ih => simp [keysI, ih]
def bSortKeys (ds : List D) (st : Sto) : R D := match ds with
  | [x] => (match deref st x with
    | .dic kvs => (match keysI kvs with
      | some ks => .ok (.lst ((sortI ks).map .int)) st
      | none => .stuck)
    | _ => .stuck)
  | _ => .stuck
def bDict (ds : List D) (st : Sto) : R D := match ds with
  | [x] => (match deref st x with
    | .dic kvs => .ok (.dic kvs) st
    | _ => .stuck)
  | _ => .stuck
def bDictN (ds : List D) (st : Sto) : R D := match ds with
  | [x] => (match deref st x with
    | .dic kvs => .ok (.ref st.length) (st ++ [.dic kvs])
    | _ => .stuck)
  | _ => .stuck
section
variable {X : Cx} {cls : Nat → Value} {W : WX} {pos p apos cpos : Pos} {a : Expr} {ma : ME}
theorem pe_sortKeysM (hg : Gl X "sorted") (hm : X.mg "sorted" = none) (hc : X.calm = true) (hb : noCall a = true) (hl : (apos.endLine == cpos.line) = true) (ha : PE X a (tE X.K cls W ma)) :
    PE X (.Call (.Name "sorted" p) [.Call (.Attribute a "keys" apos) [] [] cpos] [] pos) (tE X.K cls W (mCall bSortKeys [ma])) := by
  refine PE.weak (pe_sortKeys hg hm hc ha (base_ok hb) hl) fun sg H Q h => ?_
  obtain ⟨rho, env, st, w, re, h⟩ := h
  rw [mCall1] at h
  refine ⟨rho, env, st, w, re, OkR.mono (OkR.bind h) fun d st1 rho1 H1 e1 w1 h1 v rv => ?_⟩
  have q := deref_rel w1 rv
  unfold bSortKeys at h1
  simp only at h1
  split at h1
  · rename_i kvs e
    rw [e] at q
    obtain ⟨l, vs, rfl, g1, g2⟩ := der_dic q
    split at h1
    · rename_i ks e2
      refine ⟨l, vs, ks, rfl, .inl g1, keysI_rel g2 e2, fun ys p pm pw hp => ?_⟩
      have e3 : ys = sortI ks := sortI_eq pm pw
      subst e3
      exact h1 rho1 _ (w1.extTmp hp _) (w1.tmp hp _) _ (.lst upd_same (w1.fresh hp) (rel_ints _))
    · exact h1.elim
  · exact h1.elim
def rDict : List V → Hp → VK → Prop := fun xs H Q => ∃ (d : Addr) (kvs : List (Key × V)), xs = [.ref d] ∧ Rd H d (.dK kvs) ∧ ∀ p, H p = none → Q (.ref p) (upd H p (.dK kvs))
theorem cr_dict : CallR X (.type "dict") rDict := by
  intro pins s σ H xs us Q I r q
  obtain ⟨d, kvs, rfl, hd, q⟩ := q
  obtain ⟨u, rfl, rx⟩ := vals1 r
  cases rx
  exact d_copyOf I hd fun p s' hp I' => ⟨.ref p, _, I', rfl, q p hp⟩
theorem hop_dict {sg : L2.St} {rho : Rho} {st : Sto} {H : Hp} {Q : VK} {ds : List D} {vs : List V} (w : Wld X.K rho st H) (r : RelDs X.K rho H ds vs) (h : OkR X.K cls W sg rho H (bDict ds st) (VQ X.K Q)) : rDict vs H Q := by
  unfold bDict at h
  split at h
  · split at h
    · rename_i kvs e
      cases r with
      | cons rv t =>
        cases t
        have q := deref_rel w rv
        rw [e] at q
        obtain ⟨l, ks, rfl, g1, g2⟩ := der_dic q
        refine ⟨l, ks, rfl, .inl g1, fun p hp => ?_⟩
        exact h rho _ (w.extTmp hp _) (w.tmp hp _) _ (.dic upd_same (w.fresh hp) (g2.ext (w.extTmp hp _)))
    · exact h.elim
  · exact h.elim
theorem hop_dictN {sg : L2.St} {rho : Rho} {st : Sto} {H : Hp} {Q : VK} {ds : List D} {vs : List V} (w : Wld X.K rho st H) (r : RelDs X.K rho H ds vs) (h : OkR X.K cls W sg rho H (bDictN ds st) (VQ X.K Q)) : rDict vs H Q := by
  unfold bDictN at h
  split at h
  · split at h
    · rename_i kvs e
      cases r with
      | cons rv t =>
        cases t
        have q := deref_rel w rv
        rw [e] at q
        obtain ⟨l, ks, rfl, g1, g2⟩ := der_dic q
        exact ⟨l, ks, rfl, .inl g1, ok_new_dic w h g2⟩
    · exact h.elim
  · exact h.elim
end
end MI
namespace MI
open PySem PySem.Spec PyProof.Rows L2 MX RZ
variable [TC : TabsC]
def opSt (x : D) (lo hi : Option Int) (k : Option Int) (st : Sto) : R D := match x, k with
  | .tup ds, some k => if k ≠ 0 ∧ k ≠ 1 ∧ (stepL ds lo hi k).length ≤ sizeLine then .ok (.tup (stepL ds lo hi k)) st else .stuck
  | _, _ => .stuck
def mSt (a : ME) (lo hi k : Option ME) : ME := fun env st => (a env st).bind fun x st => (mOpt lo env st).bind fun i st => (mOpt hi env st).bind fun j st => (mOpt k env st).bind fun k st => opSt x i j k st
def isStrD (d : D) : Bool := match d with
  | .str _ => true
  | _ => false
def mSplit (d : D) (ds : List D) (st : Sto) : R D := match d, ds with
  | .str a, [.str b] => if (b.length == 0) = false ∧ a.length + 2 ≤ sizeLine then .ok (.lst ((Txt.split a b).map .str)) st else .stuck
  | _, _ => .stuck
def mJoin (d : D) (ds : List D) (st : Sto) : R D := match d, ds with
  | .str a, [y] => match (seqOf st y).bind strsOf with
    | some ys => if (ys.map (·.length)).sum + ys.length * a.length ≤ 16777216 then .ok (.str (Txt.join a ys)) st else .stuck
    | none => .stuck
  | _, _ => .stuck
def mIndexS (d : D) (ds : List D) (st : Sto) : R D := match d, ds with
  | .str a, [.str b] => match Txt.index0 a b with
    | some k => .ok (.int (k : Nat)) st
    | none => .stuck
  | _, _ => .stuck
def mMethS (f : D → List D → Sto → R D) (o : ME) (es : List ME) : ME := fun env st => (o env st).bind fun d st => if isStrD d = true then (mArgs es env st).bind fun ds st => f d ds st else .stuck
def strM (x : Str) : Option (D → List D → Sto → R D) :=
  if x = "split" then some mSplit else if x = "join" then some mJoin else if x = "index" then some mIndexS else none
def zipD (xs ys : List D) : List D := (xs.zip ys).map fun p => .tup [p.1, p.2]
def lsOf (st : Sto) : D → Option (List (Nat × List D) × List D)
  | .lst xs => some ([], xs)
  | .ref l => match st[l]? with
    | some (.lst xs) => some ([(l, xs)], xs)
    | _ => none
  | _ => none
def iZip (a b : ME) : MIt := fun env st => (a env st).bind fun x st => (b env st).bind fun y st => match x, y with
  | .lst xs, .lst ys => .ok (.vals (zipD xs ys)) st
  | .tup xs, .tup ys => .ok (.vals (zipD xs ys)) st
  | .lst xs, .tup ys => .ok (.vals (zipD xs ys)) st
  | x, y => match lsOf st x, lsOf st y with
    | some p, some q => .ok (.multi (p.1 ++ q.1) (zipD p.2 q.2)) st
    | _, _ => .stuck
def mDic1 (a b : ME) : ME := fun env st => match (a env st).bind fun x st => (b env st).bind fun y st => match keyOf x with
    | some k => .ok (.dic [(k, y)]) st
    | none => .stuck with
  | .ok d st => .ok d st
  | _ => .stuck
section
variable {X : Cx} {cls : Nat → Value} {W : WX} {pos : Pos} {a b c e o : Expr} {ma mb mc m mo : ME}
theorem relDs_filterMap {K : PySem.W.Frag} {rho : Rho} {H : Hp} {ds : List D} {vs : List V} (r : RelDs K rho H ds vs) (f : Nat → Nat) : ∀ ms : List Nat, RelDs K rho H (ms.filterMap fun m => ds[f m]?) (ms.filterMap fun m => vs[f m]?)
  | [] => .nil
  | m :: ms => by
    simp only [List.filterMap_cons]
    cases q : ds[f m]? with
    | none =>
      have : vs[f m]? = none := by
        rw [List.getElem?_eq_none_iff] at q ⊢
        rw [← r.length]; exact q
      rw [this]
      exact relDs_filterMap r f ms
    | some x =>
      obtain ⟨u, h1, h2⟩ := r.get q
      rw [h1]
      exact .cons h2 (relDs_filterMap r f ms)
theorem relDs_step {K : PySem.W.Frag} {rho : Rho} {H : Hp} {ds : List D} {vs : List V} (r : RelDs K rho H ds vs) (lo hi : Option Int) (k : Int) : RelDs K rho H (stepL ds lo hi k) (stepL vs lo hi k) := by
  unfold stepL
  rw [r.length]
  exact relDs_filterMap r (fun m => ((Builtin.Slice.sliceAdjust lo hi k vs.length).1 + (m : Int) * k).toNat) _
theorem pe_stM {lo hi : Option Expr} {st : Expr} {ml mh mk : Option ME} {p2 : Pos} (ha : PE X a (tE X.K cls W ma)) (hl : PO X lo (tOm X.K cls W ml)) (hh : PO X hi (tOm X.K cls W mh)) (hk : PO X (some st) (tOm X.K cls W mk)) : PE X (.Subscript a (.Slice lo hi (some st) p2) pos) (tE X.K cls W (mSt ma ml mh mk)) := by
  refine PE.weak (pe_slStep ha hl hh hk) fun sg H Q h => ?_
  obtain ⟨rho, env, st, w, re, h⟩ := h
  refine ⟨rho, env, st, w, re, OkR.mono (OkR.bind h) fun d st1 rho1 H1 e1 w1 h1 v rv => ?_⟩
  refine ⟨rho1, env, st1, w1, re.ext e1, OkR.mono (OkR.bind h1) fun i st2 rho2 H2 e2 w2 h2 => ?_⟩
  refine ⟨rho2, env, st2, w2, (re.ext e1).ext e2, OkR.mono (OkR.bind h2) fun j st3 rho3 H3 e3 w3 h3 => ?_⟩
  refine ⟨rho3, env, st3, w3, ((re.ext e1).ext e2).ext e3, OkR.mono (OkR.bind h3) fun kk st4 rho4 H4 e4 w4 h4 => ?_⟩
  have rv4 := ((rv.ext e2).ext e3).ext e4
  unfold opSt at h4
  split at h4
  · split at h4
    · rename_i k hc
      cases rv4 with
      | tup q1 q2 _ =>
        have rs := relDs_step q2 i j k
        exact ⟨_, _, k, rfl, q1, rfl, hc.1, hc.2.1, by rw [← rs.length]; exact hc.2.2, ok_tmp_tup w4 h4 rs⟩
    · exact h4.elim
  · exact h4.elim
abbrev HopM (X : Cx) (cls : Nat → Value) (W : WX) (f : D → List D → Sto → R D) (r : L2.St → V → List V → Hp → VK → Prop) : Prop := ∀ {sg : L2.St} {rho : Rho} {st : Sto} {H : Hp} {Q : VK} {d : D} {v : V} {ds : List D} {vs : List V}, Wld X.K rho st H → RelD X.K rho H d v → RelDs X.K rho H ds vs → OkR X.K cls W sg rho H (f d ds st) (VQ X.K Q) → r sg v vs H Q
theorem rel_strs {K : PySem.W.Frag} {rho : Rho} {H : Hp} (ns : List Str) : RelDs K rho H (ns.map D.str) (ns.map V.str) := by
  induction ns with
  | nil => exact .nil
  | cons n ns ih => exact .cons (.str n) ih
theorem strM_ok (hc : X.calm = true) (tk : Takes X W) {x : Str} {f : D → List D → Sto → R D} (h : strM x = some f) : ∃ id r, Slot "str" x id ∧ typeOf (.builtin id) = pure (.type "method_descriptor") ∧ MtS X id r ∧ HopM X cls W f r := by
  unfold strM at h
  split at h
  · rename_i e
    cases h
    subst e
    refine ⟨_, _, PySem.F.slot_str_split, PySem.F.type_str_split, MtR.toS mt_split, fun {sg rho st H Q d v ds vs} w r rs h => ?_⟩
    unfold mSplit at h
    split at h
    · split at h
      · rename_i hc
        cases r
        obtain ⟨u, rfl, ru⟩ := relDs1 rs
        cases ru
        exact ⟨_, _, rfl, rfl, hc.1, hc.2, ok_tmp_lst w h (rel_strs _)⟩
      · exact h.elim
    · exact h.elim
  split at h
  · rename_i e
    cases h
    subst e
    refine ⟨_, _, PySem.F.slot_str_join, PySem.F.type_str_join, MtR.toS mt_join, fun {sg rho st H Q d v ds vs} w r rs h => ?_⟩
    unfold mJoin at h
    split at h
    · cases r
      obtain ⟨u, rfl, ru⟩ := relDs1 rs
      split at h
      · rename_i ys hy
        obtain ⟨es, h1, h2⟩ := Option.bind_eq_some_iff.mp hy
        obtain ⟨ad, ks, rfl, q1, q2⟩ := seqOf_rel w ru h1
        have e2 := strsOf_rel q1 h2
        subst e2
        split at h
        · exact ⟨_, ad, ys, rfl, rfl, q2, by assumption, ok_here w h (.str _)⟩
        · exact h.elim
      · exact h.elim
    · exact h.elim
  split at h
  · rename_i e
    cases h
    subst e
    refine ⟨_, _, PySem.F.slot_str_index, PySem.F.type_str_index, mt_indexX hc tk, fun {sg rho st H Q d v ds vs} w r rs h => ?_⟩
    unfold mIndexS at h
    split at h
    · cases r
      obtain ⟨u, rfl, ru⟩ := relDs1 rs
      cases ru
      split at h
      · rename_i k hk
        exact ⟨_, _, rfl, rfl, fun k' hk' => by rw [hk] at hk'; cases hk'; exact ok_here w h (.int _), fun hn => by rw [hk] at hn; cases hn⟩
      · exact h.elim
    · exact h.elim
  · cases h
theorem pe_methS {es : List Expr} {ms : List ME} {name : Str} {apos : Pos} {id : String} {f : D → List D → Sto → R D} {r : L2.St → V → List V → Hp → VK → Prop} (slot : Slot "str" name id) (hty : typeOf (.builtin id) = pure (.type "method_descriptor")) (hm : MtS X id r)
    (hop : HopM X cls W f r) (hb : noCall o = true) (hl : (apos.endLine == pos.line) = true) (hp : (e :: es).all plainE = true) (hn : (e :: es).length < 30) (ho : PE X o (tE X.K cls W mo)) (ha : PA X (e :: es) (tAm X.K cls W ms)) :
    PE X (.Call (.Attribute o name apos) (e :: es) [] pos) (tE X.K cls W (mMethS f mo ms)) := by
  have hp' := hp
  simp only [List.all_cons, Bool.and_eq_true] at hp
  refine PE.weak (pe_bmS PySem.F.plainAttrs_str slot hty hm ho ha (base_ok hb) ?_ hl (star_plain hp.1) (star_any hp.2)) fun sg H Q h => ?_
  · rw [star_all hp']
    have hk : (backToKw pos (keywordEach [] X.env)).all (fun x => x.1.isSome) = true := rfl
    rw [hk]
    have hn' : decide ((e :: es).length + 0 + 0 < 30) = true := by simpa using hn
    simpa using hn'
  · obtain ⟨rho, env, st, w, re, h⟩ := h
    refine ⟨rho, env, st, w, re, OkR.mono (OkR.bind h) fun d st1 rho1 H1 e1 w1 h1 v rv => ?_⟩
    split at h1
    · rename_i hl1
      have ty : tyV X.K "str" v H1 := by
        unfold isStrD at hl1
        split at hl1
        · cases rv; rfl
        · cases hl1
      refine ⟨ty, rho1, env, st1, w1, re.ext e1, OkR.mono (OkR.bind h1) fun ds st2 rho2 H2 e2 w2 h2 vs rvs => ?_⟩
      exact hop w2 (rv.ext e2) rvs h2
    · exact h1.elim
theorem zipD_get {xs ys : List D} {i : Nat} {d : D} (h : (zipD xs ys)[i]? = some d) : ∃ x y, xs[i]? = some x ∧ ys[i]? = some y ∧ d = .tup [x, y] := by
  unfold zipD at h
  rw [List.getElem?_map] at h
  obtain ⟨p, hp, rfl⟩ := Option.map_eq_some_iff.mp h
  rw [List.getElem?_zip_eq_some] at hp
  exact ⟨p.1, p.2, hp.1, hp.2, rfl⟩
theorem zipD_len (xs ys : List D) : (zipD xs ys).length = min xs.length ys.length := by simp [zipD]
theorem it_zipL {K : PySem.W.Frag} (a b : Addr) (xs ys : List D) (us vs : List V) : ItOk K (Itz K a b) (.vals (zipD xs ys)) (fun rho H => ((H a = some (.lst us) ∧ a ∉ rho) ∧ RelDs K rho H xs us) ∧ ((H b = some (.lst vs) ∧ b ∉ rho) ∧ RelDs K rho H ys vs)) where
  stab := fun rho H rho' H' p e => ⟨(it_lst (K := K) a xs us).stab _ _ _ _ p.1 e, (it_lst (K := K) b ys vs).stab _ _ _ _ p.2 e⟩
  go := fun i d rho st H w p _ hd => by
    obtain ⟨x, y, h1, h2, rfl⟩ := zipD_get hd
    obtain ⟨u, hu, _⟩ := p.1.2.get h1
    obtain ⟨v, hv, _⟩ := p.2.2.get h2
    exact ⟨us, vs, u, v, SqL.of p.1.1.1, SqL.of p.2.1.1, hu, hv⟩
  yld := fun i d rho st H x H' w p _ hd y => by
    obtain ⟨x1, y1, h1, h2, rfl⟩ := zipD_get hd
    obtain ⟨u, hu, ru⟩ := p.1.2.get h1
    obtain ⟨v, hv, rv⟩ := p.2.2.get h2
    obtain ⟨T, u', v', rfl, hT, rfl, f1, f2⟩ := y
    have e1 := f1 us (SqL.of p.1.1.1)
    have e2 := f2 vs (SqL.of p.2.1.1)
    rw [hu] at e1; cases e1
    rw [hv] at e2; cases e2
    have ex := w.extTmp hT (.tup [u, v])
    exact ⟨ex, w.tmp hT _, .tup (SqT.of upd_same) (.cons (ru.ext ex) (.cons (rv.ext ex) .nil)) fun _ => upd_same⟩
  stop := fun i rho st H w p _ hi => by
    have hi' : (zipD xs ys).length ≤ i := hi
    rw [zipD_len] at hi'
    refine ⟨us, vs, SqL.of p.1.1.1, SqL.of p.2.1.1, ?_⟩
    rw [← p.1.2.length, ← p.2.2.length]
    omega
  hide := fun rho H p xs' q h => ⟨(it_lst (K := K) a xs us).hide _ _ _ _ q.1 h, (it_lst (K := K) b ys vs).hide _ _ _ _ q.2 h⟩
  grow := fun rho H p xs' ys' hp h q => ⟨(it_lst (K := K) a xs us).grow _ _ _ _ _ hp h q.1, (it_lst (K := K) b ys vs).grow _ _ _ _ _ hp h q.2⟩
theorem it_zipT {K : PySem.W.Frag} (a b : Addr) (xs ys : List D) (us vs : List V) : ItOk K (ItzT K a b) (.vals (zipD xs ys)) (fun rho H => (SqT K H a us ∧ RelDs K rho H xs us) ∧ (SqT K H b vs ∧ RelDs K rho H ys vs)) where
  stab := fun rho H rho' H' p e => ⟨(it_tup (K := K) a xs us).stab _ _ _ _ p.1 e, (it_tup (K := K) b ys vs).stab _ _ _ _ p.2 e⟩
  go := fun i d rho st H w p _ hd => by
    obtain ⟨x, y, h1, h2, rfl⟩ := zipD_get hd
    obtain ⟨u, hu, _⟩ := p.1.2.get h1
    obtain ⟨v, hv, _⟩ := p.2.2.get h2
    exact ⟨us, vs, u, v, p.1.1, p.2.1, hu, hv⟩
  yld := fun i d rho st H x H' w p _ hd y => by
    obtain ⟨x1, y1, h1, h2, rfl⟩ := zipD_get hd
    obtain ⟨u, hu, ru⟩ := p.1.2.get h1
    obtain ⟨v, hv, rv⟩ := p.2.2.get h2
    obtain ⟨T, u', v', rfl, hT, rfl, f1, f2⟩ := y
    have e1 := f1 us p.1.1
    have e2 := f2 vs p.2.1
    rw [hu] at e1; cases e1
    rw [hv] at e2; cases e2
    have ex := w.extTmp hT (.tup [u, v])
    exact ⟨ex, w.tmp hT _, .tup (SqT.of upd_same) (.cons (ru.ext ex) (.cons (rv.ext ex) .nil)) fun _ => upd_same⟩
  stop := fun i rho st H w p _ hi => by
    have hi' : (zipD xs ys).length ≤ i := hi
    rw [zipD_len] at hi'
    refine ⟨us, vs, p.1.1, p.2.1, ?_⟩
    rw [← p.1.2.length, ← p.2.2.length]
    omega
  hide := fun rho H p xs' q h => ⟨(it_tup (K := K) a xs us).hide _ _ _ _ q.1 h, (it_tup (K := K) b ys vs).hide _ _ _ _ q.2 h⟩
  grow := fun rho H p xs' ys' hp h q => ⟨(it_tup (K := K) a xs us).grow _ _ _ _ _ hp h q.1, (it_tup (K := K) b ys vs).grow _ _ _ _ _ hp h q.2⟩
theorem it_zipM {K : PySem.W.Frag} (a b : Addr) (xs ys : List D) (us vs : List V) : ItOk K (ItzM K a b) (.vals (zipD xs ys)) (fun rho H => ((H a = some (.lst us) ∧ a ∉ rho) ∧ RelDs K rho H xs us) ∧ (SqT K H b vs ∧ RelDs K rho H ys vs)) where
  stab := fun rho H rho' H' p e => ⟨(it_lst (K := K) a xs us).stab _ _ _ _ p.1 e, (it_tup (K := K) b ys vs).stab _ _ _ _ p.2 e⟩
  go := fun i d rho st H w p _ hd => by
    obtain ⟨x, y, h1, h2, rfl⟩ := zipD_get hd
    obtain ⟨u, hu, _⟩ := p.1.2.get h1
    obtain ⟨v, hv, _⟩ := p.2.2.get h2
    exact ⟨us, vs, u, v, SqL.of p.1.1.1, p.2.1, hu, hv⟩
  yld := fun i d rho st H x H' w p _ hd y => by
    obtain ⟨x1, y1, h1, h2, rfl⟩ := zipD_get hd
    obtain ⟨u, hu, ru⟩ := p.1.2.get h1
    obtain ⟨v, hv, rv⟩ := p.2.2.get h2
    obtain ⟨T, u', v', rfl, hT, rfl, f1, f2⟩ := y
    have e1 := f1 us (SqL.of p.1.1.1)
    have e2 := f2 vs p.2.1
    rw [hu] at e1; cases e1
    rw [hv] at e2; cases e2
    have ex := w.extTmp hT (.tup [u, v])
    exact ⟨ex, w.tmp hT _, .tup (SqT.of upd_same) (.cons (ru.ext ex) (.cons (rv.ext ex) .nil)) fun _ => upd_same⟩
  stop := fun i rho st H w p _ hi => by
    have hi' : (zipD xs ys).length ≤ i := hi
    rw [zipD_len] at hi'
    refine ⟨us, vs, SqL.of p.1.1.1, p.2.1, ?_⟩
    rw [← p.1.2.length, ← p.2.2.length]
    omega
  hide := fun rho H p xs' q h => ⟨(it_lst (K := K) a xs us).hide _ _ _ _ q.1 h, (it_tup (K := K) b ys vs).hide _ _ _ _ q.2 h⟩
  grow := fun rho H p xs' ys' hp h q => ⟨(it_lst (K := K) a xs us).grow _ _ _ _ _ hp h q.1, (it_tup (K := K) b ys vs).grow _ _ _ _ _ hp h q.2⟩
inductive LsD : D → List (Nat × List D) → List D → Prop where
  | val (xs : List D) : LsD (.lst xs) [] xs
  | live (l : Nat) (xs : List D) : LsD (.ref l) [(l, xs)] xs
theorem lsOf_D {st : Sto} {x : D} {p : List (Nat × List D) × List D} (h : lsOf st x = some p) : LsD x p.1 p.2 ∧ ∀ r ∈ p.1, st[r.1]? = some (.lst r.2) := by
  unfold lsOf at h
  split at h
  · cases h; exact ⟨.val _, by simp⟩
  · split at h
    · rename_i hl
      cases h
      exact ⟨.live _ _, by simpa using hl⟩
    · cases h
  · cases h
def LsP (K : PySem.W.Frag) (x : D) (a : Addr) (xs : List D) (rho : Rho) (H : Hp) : Prop := match x with
  | .lst _ => ∃ vs, (H a = some (.lst vs) ∧ a ∉ rho) ∧ RelDs K rho H xs vs
  | .ref l => rho.loc[l]? = some a
  | _ => False
theorem LsP.get {K : PySem.W.Frag} {x : D} {p : List (Nat × List D)} {a : Addr} {xs : List D} {rho : Rho} {H : Hp} {st : Sto} (d : LsD x p xs) (h : LsP K x a xs rho H) (w : Wld K rho st H) (hs : ∀ r ∈ p, st[r.1]? = some (.lst r.2)) : ∃ vs, H a = some (.lst vs) ∧ RelDs K rho H xs vs := by
  cases d with
  | val xs => obtain ⟨vs, h1, h2⟩ := h; exact ⟨vs, h1.1, h2⟩
  | live l xs => exact w.obj l a _ h (hs (l, xs) (by simp))
theorem LsP.of {K : PySem.W.Frag} {x : D} {p : List (Nat × List D)} {xs : List D} {rho : Rho} {H : Hp} {v : V} (d : LsD x p xs) (r : RelD K rho H x v) : ∃ a, v = .ref a ∧ LsP K x a xs rho H := by
  cases d with
  | val xs => cases r with | lst h n r => exact ⟨_, rfl, _, ⟨h, n⟩, r⟩
  | live l xs => cases r with | ref h => exact ⟨_, rfl, h⟩
theorem LsP.stab {K : PySem.W.Frag} {x : D} {p : List (Nat × List D)} {a : Addr} {xs : List D} {rho rho' : Rho} {H H' : Hp} (d : LsD x p xs) (h : LsP K x a xs rho H) (e : Ext rho H rho' H') : LsP K x a xs rho' H' := by
  cases d with
  | val xs => obtain ⟨vs, h⟩ := h; exact ⟨vs, (it_lst (K := K) a xs vs).stab _ _ _ _ h e⟩
  | live l xs => exact (it_live (K := K) a l xs).stab _ _ _ _ h e
theorem LsP.hide {K : PySem.W.Frag} {x : D} {p : List (Nat × List D)} {a q : Addr} {xs : List D} {rho : Rho} {H : Hp} {zs : List V} (d : LsD x p xs) (h : LsP K x a xs rho H) (hq : H q = none) : LsP K x a xs (rho.hide q) (upd H q (.lst zs)) := by
  cases d with
  | val xs => obtain ⟨vs, h⟩ := h; exact ⟨vs, (it_lst (K := K) a xs vs).hide _ _ _ _ h hq⟩
  | live l xs => exact (it_live (K := K) a l xs).hide _ _ _ zs h hq
theorem LsP.grow {K : PySem.W.Frag} {x : D} {p : List (Nat × List D)} {a q : Addr} {xs : List D} {rho : Rho} {H : Hp} {zs ys : List V} (d : LsD x p xs) (hp : q ∈ rho.res) (hq : H q = some (.lst zs)) (h : LsP K x a xs rho H) : LsP K x a xs rho (upd H q (.lst ys)) := by
  cases d with
  | val xs => obtain ⟨vs, h⟩ := h; exact ⟨vs, (it_lst (K := K) a xs vs).grow _ _ _ _ _ hp hq h⟩
  | live l xs => exact (it_live (K := K) a l xs).grow _ _ _ _ ys hp hq h
theorem it_zipX {K : PySem.W.Frag} {x y : D} {p q : List (Nat × List D)} {xs ys : List D} (a b : Addr) (dx : LsD x p xs) (dy : LsD y q ys) : ItOk K (Itz K a b) (.multi (p ++ q) (zipD xs ys)) (fun rho H => LsP K x a xs rho H ∧ LsP K y b ys rho H) where
  stab := fun rho H rho' H' h e => ⟨h.1.stab dx e, h.2.stab dy e⟩
  go := fun i d rho st H w h hs hd => by
    obtain ⟨us, g1, r1⟩ := h.1.get dx w (fun r hr => hs r (List.mem_append_left _ hr))
    obtain ⟨vs, g2, r2⟩ := h.2.get dy w (fun r hr => hs r (List.mem_append_right _ hr))
    obtain ⟨x1, y1, h1, h2, rfl⟩ := zipD_get hd
    obtain ⟨u, hu, _⟩ := r1.get h1
    obtain ⟨v, hv, _⟩ := r2.get h2
    exact ⟨us, vs, u, v, SqL.of g1, SqL.of g2, hu, hv⟩
  yld := fun i d rho st H z H' w h hs hd y' => by
    obtain ⟨us, g1, r1⟩ := h.1.get dx w (fun r hr => hs r (List.mem_append_left _ hr))
    obtain ⟨vs, g2, r2⟩ := h.2.get dy w (fun r hr => hs r (List.mem_append_right _ hr))
    obtain ⟨x1, y1, h1, h2, rfl⟩ := zipD_get hd
    obtain ⟨u, hu, ru⟩ := r1.get h1
    obtain ⟨v, hv, rv⟩ := r2.get h2
    obtain ⟨T, u', v', rfl, hT, rfl, f1, f2⟩ := y'
    have e1 := f1 us (SqL.of g1)
    have e2 := f2 vs (SqL.of g2)
    rw [hu] at e1; cases e1
    rw [hv] at e2; cases e2
    have ex := w.extTmp hT (.tup [u, v])
    exact ⟨ex, w.tmp hT _, .tup (SqT.of upd_same) (.cons (ru.ext ex) (.cons (rv.ext ex) .nil)) fun _ => upd_same⟩
  stop := fun i rho st H w h hs hi => by
    obtain ⟨us, g1, r1⟩ := h.1.get dx w (fun r hr => hs r (List.mem_append_left _ hr))
    obtain ⟨vs, g2, r2⟩ := h.2.get dy w (fun r hr => hs r (List.mem_append_right _ hr))
    have hi' : (zipD xs ys).length ≤ i := hi
    rw [zipD_len] at hi'
    refine ⟨us, vs, SqL.of g1, SqL.of g2, ?_⟩
    rw [← r1.length, ← r2.length]
    omega
  hide := fun rho H p' xs' h hp => ⟨h.1.hide dx hp, h.2.hide dy hp⟩
  grow := fun rho H p' xs' ys' hp hq h => ⟨h.1.grow dx hp hq, h.2.grow dy hp hq⟩
theorem pi_zipM {elts : List Expr} {kk : Nat} {tpos p : Pos} (hp : plainE a = true) (hp2 : plainE b = true) (hg : Gl X "zip") (hm : X.mg "zip" = none) (ha : PE X a (tE X.K cls W ma)) (hb : PE X b (tE X.K cls W mb)) : PI X (.Tuple elts kk tpos) (.Call (.Name "zip" p) [a, b] [] pos) (tIm X.K cls W (iZip ma mb)) := by
  have hA : PA X [a, b] (tCons (tE X.K cls W ma) (tCons (tE X.K cls W mb) tNil)) := pa_cons ha (pa_cons hb pa_nil (star_plain hp2)) (star_plain hp)
  refine PI.weak (PI.or (pi_zipA hg hm hA (star_plain hp) (star_any (es := [b]) (by simp [hp2]))) (pi_zm hg hm hA (star_plain hp) (star_any (es := [b]) (by simp [hp2])))) fun sg H R0 hq => ?_
  obtain ⟨rho, env, st, w, re, hq⟩ := hq
  by_cases hz : ∃ xs ys st1 st2, ma env st = .ok (.lst xs) st1 ∧ mb env st1 = .ok (.tup ys) st2
  · refine .inr ?_
    obtain ⟨xs, ys, st1, st2, e1, e2⟩ := hz
    unfold iZip at hq
    rw [e1, R.bind_ok, e2, R.bind_ok] at hq
    refine ⟨rho, env, st, w, re, ?_⟩
    rw [e1]
    intro rho1 H1 x1 w1 v1 rv1
    refine ⟨rho1, env, st1, w1, re.ext x1, ?_⟩
    rw [e2]
    intro rho2 H2 x2 w2 v2 rv2
    have rv1 := rv1.ext x2
    cases rv1 with
    | lst q1 n1 r1 =>
      cases rv2 with
      | tup q2 r2 _ => exact ⟨_, _, _, _, rfl, SqL.of q1, q2, hq rho2 H2 (x1.trans x2) w2 _ _ (it_zipM _ _ _ _ _ _) ⟨⟨⟨q1, n1⟩, r1⟩, ⟨q2, r2⟩⟩ trivial⟩
  · refine .inl ⟨rho, env, st, w, re, ?_⟩
    unfold iZip at hq
    cases e1 : ma env st with
    | stuck => rw [e1] at hq; exact hq.elim
    | exc c s1 => rw [e1] at hq; exact hq
    | ok d1 st1 =>
      rw [e1, R.bind_ok] at hq
      intro rho1 H1 x1 w1 v1 rv1
      refine ⟨rho1, env, st1, w1, re.ext x1, ?_⟩
      cases e2 : mb env st1 with
      | stuck => rw [e2] at hq; exact hq.elim
      | exc c s1 => rw [e2] at hq; exact hq.from x1
      | ok d2 st2 =>
        rw [e2, R.bind_ok] at hq
        intro rho2 H2 x2 w2 v2 rv2
        have rv1 := rv1.ext x2
        replace hq := (hq.from x1).from x2
        split at hq
        · cases rv1 with
          | lst q1 n1 r1 =>
            cases rv2 with
            | lst q2 n2 r2 => exact ⟨_, _, _, _, rfl, .inl ⟨SqL.of q1, SqL.of q2, hq rho2 H2 (Ext.refl _ _) w2 _ _ (it_zipL _ _ _ _ _ _) ⟨⟨⟨q1, n1⟩, r1⟩, ⟨⟨q2, n2⟩, r2⟩⟩ trivial⟩⟩
        · cases rv1 with
          | tup q1 r1 _ =>
            cases rv2 with
            | tup q2 r2 _ => exact ⟨_, _, _, _, rfl, .inr ⟨q1, q2, hq rho2 H2 (Ext.refl _ _) w2 _ _ (it_zipT _ _ _ _ _ _) ⟨⟨q1, r1⟩, ⟨q2, r2⟩⟩ trivial⟩⟩
        · exact absurd ⟨_, _, _, _, e1, e2⟩ hz
        · split at hq
          · rename_i p q hx hy
            obtain ⟨dx, hsx⟩ := lsOf_D hx
            obtain ⟨dy, hsy⟩ := lsOf_D hy
            obtain ⟨a', rfl, la⟩ := LsP.of dx rv1
            obtain ⟨b', rfl, lb⟩ := LsP.of dy rv2
            obtain ⟨us, g1, _⟩ := la.get dx w2 hsx
            obtain ⟨vs, g2, _⟩ := lb.get dy w2 hsy
            exact ⟨_, _, _, _, rfl, .inl ⟨SqL.of g1, SqL.of g2, hq rho2 H2 (Ext.refl _ _) w2 _ _ (it_zipX _ _ dx dy) ⟨la, lb⟩ (fun r hr => (List.mem_append.mp hr).elim (hsx r) (hsy r))⟩⟩
          · exact hq.elim
theorem pe_dic1M (ha : PE X a (tE X.K cls W ma)) (hb : PE X b (tE X.K cls W mb)) : PE X (.Dict [some a] [b] pos) (tE X.K cls W (mDic1 ma mb)) := by
  refine PE.weak (pe_disp (pps_cons ha hb pps_nil) rfl rfl (by simp) (by simp)) fun sg H Q h => ?_
  obtain ⟨rho, env, st, w, re, h⟩ := h
  intro p hp
  have np : p ∉ rho.res := fun z => w.fresh hp (.inr z)
  have w0 := w.hide hp (.dK []) trivial
  have re0 : RelEnv X.K (rho.hide p) (upd H p (.dK [])) env sg := ⟨re.len, fun i d h => let ⟨v, h1, h2⟩ := re.at_ i d h; ⟨v, h1, h2.hide hp⟩⟩
  have ex0 : Ext rho H ((rho.hide p).show_ rho.res) (upd H p (.dK [])) := w.extTmp hp _
  refine ⟨rho.hide p, env, st, w0, re0, ?_⟩
  unfold mDic1 at h
  cases q1 : ma env st with
  | stuck => rw [q1] at h; exact h.elim
  | exc c1 s1 => rw [q1] at h; exact h.elim
  | ok x st1 =>
    rw [q1] at h
    simp only [R.bind_ok] at h
    intro rho1 H1 e1 w1 vx rx
    refine ⟨rho1, env, st1, w1, re0.ext e1, ?_⟩
    cases q2 : mb env st1 with
    | stuck => rw [q2] at h; exact h.elim
    | exc c1 s1 => rw [q2] at h; exact h.elim
    | ok y st2 =>
      rw [q2] at h
      simp only [R.bind_ok] at h
      intro rho2 H2 e2 w2 vy ry
      cases hk : keyOf x with
      | none => rw [hk] at h; exact h.elim
      | some k =>
        rw [hk] at h
        simp only at h
        have e02 := e1.trans e2
        have pr0 : p ∈ (rho.hide p).res := List.mem_cons_self
        have hp2 : H2 p = some (.dK []) := e02.kres p _ upd_same pr0
        have hr2 : rho2.res = p :: rho.res := e02.res
        have pr2 : p ∈ rho2.res := by rw [hr2]; exact List.mem_cons_self
        have hsub : ∀ b ∈ rho.res, b ∈ rho2.res := fun b hb => by rw [hr2]; exact List.mem_cons_of_mem _ hb
        refine ⟨hp2, [(k, vy)], ?_, by simp, ?_⟩
        · rw [keyOf_rel (rx.ext e2) hk]; rfl
        · show Q (.ref p) (upd H2 p (.dK [(k, vy)]))
          refine h (rho2.show_ rho.res) _ ((Ext.inner hp rfl ex0 e02).over hp) ((w2.grow (o' := .dK [(k, vy)]) pr2 hp2 trivial trivial).show_ hsub) _ (.dic upd_same (fun z => ?_) (.cons ((ry.grow pr2 hp2 trivial).show_ hsub) .nil))
          rcases z with z | z
          · exact w2.dis p z pr2
          · exact np z
end
end MI
namespace MI
open PySem PySem.Spec PyProof.Rows L2
theorem enum_next_itemT {prog : Program} {w : World} {A : Around} {E : Value → Shared → Prop} {s : Shared} {e it l : Addr} {i : Nat} {items : Array Value} {x old : Value} {Q : Value → Shared → Prop} (he : IsEnum s.heap e it (↑i) old) (hit : s.heap.IsTupleIter it l i) (hl : s.heap.IsTuple l items) (hx : items[i]? = some x) (hne : e ≠ it)
    (hQ : ∀ (h' : Heap), IsEnumOut h' e it (↑i + 1) x s.heap.objs.size → h'.IsTupleIter it l (i + 1) → h'.get? s.heap.objs.size = some { cls := Value.type "tuple", data := Data.seq #[Value.int (↑i) s.toks, x] } → h'.objs.size = s.heap.objs.size + 1 →
      (∀ (b : Addr) (o : Obj), b ≠ e → b ≠ it → s.heap.get? b = some o → h'.get? b = some o) → Q (Value.ref s.heap.objs.size) { heap := h', gens := s.gens, drawn := s.drawn, toks := s.toks + 1, os := s.os }) :
    wpAny (model prog w) A (Builtin.«enumerate.__next__» { pos := [Value.ref e] }) (fun fin s' => ∃ v, fin = Fin.done (Flow.ret v) ∧ Q v s') E s := by
  obtain ⟨hp, g, d, tk, os⟩ := s
  dsimp only at he hit hl hQ
  show wpAny (model prog w) A (Bind.bind (field (Value.ref e) 2) _) _ _ _
  refine wpAny_bind (wpAny_field he rfl rfl ?_)
  refine wpAny_bind (RZ.nextOf_tuple_item hit hl hx fun h₁ hit₁ hs₁ => ?_)
  have he₁ := (hs₁.right e hne).trans he
  show wpAny (model prog w) A (Bind.bind (field (Value.ref e) 3) _) _ _ _
  refine wpAny_bind (wpAny_field he₁ rfl rfl ?_)
  show wpAny (model prog w) A (Bind.bind (field (Value.ref e) 4) _) _ _ _
  refine wpAny_bind (wpAny_field he₁ rfl rfl ?_)
  show wpAny (model prog w) A (Bind.bind (mkInt _) _) _ _ _
  refine wpAny_bind (wpAny_mkInt ?_)
  show wpAny (model prog w) A (Bind.bind (setField (Value.ref e) 3 _) _) _ _ _
  refine wpAny_bind (wpAny_setField_rec he₁ (by simp) fun h₂ he₂ hs₂ => ?_)
  show wpAny (model prog w) A (Bind.bind (setField (Value.ref e) 4 _) _) _ _ _
  refine wpAny_bind (wpAny_setField_rec he₂ (by simp) fun h₃ he₃ hs₃ => ?_)
  show wpAny (model prog w) A (Bind.bind (newTuple _) _) _ _ _
  refine wpAny_bind (wpAny_newTuple ?_)
  have he₄ := Heap.get?_push_of_some { cls := Value.type "tuple", data := Data.seq #[Value.int (↑i) tk, x] } he₃
  have hsz : h₃.objs.size = hp.objs.size := by rw [hs₃.left, hs₂.left, hs₁.left]
  have hel := Heap.lt_size he
  have ht₄ : (h₃.push { cls := Value.type "tuple", data := Data.seq #[Value.int (↑i) tk, x] }).get? hp.objs.size = some { cls := Value.type "tuple", data := Data.seq #[Value.int (↑i) tk, x] } := by rw [← hsz]; exact Heap.get?_push_size h₃ rfl
  have hz₄ : (h₃.push { cls := Value.type "tuple", data := Data.seq #[Value.int (↑i) tk, x] }).objs.size = hp.objs.size + 1 := by rw [Heap.size_push, hsz]
  have hk₄ : ∀ (b : Addr) (o : Obj), b ≠ e → b ≠ it → hp.get? b = some o → (h₃.push { cls := Value.type "tuple", data := Data.seq #[Value.int (↑i) tk, x] }).get? b = some o := fun b o hbe hbi hb => Heap.get?_push_of_some _ (Heap.SameBut.extBut hs₃ b o hbe (Heap.SameBut.extBut hs₂ b o hbe (Heap.SameBut.extBut hs₁ b o hbi hb)))
  have hit₄ : (h₃.push { cls := Value.type "tuple", data := Data.seq #[Value.int (↑i) tk, x] }).IsTupleIter it l (i + 1) := (Heap.IsTupleIter.extBut (Heap.IsTupleIter.extBut hit₁ (Heap.SameBut.extBut hs₂) (Ne.symm hne)) (Heap.SameBut.extBut hs₃) (Ne.symm hne)).at fun o q => Heap.get?_push_of_some _ q
  generalize h₃.push { cls := Value.type "tuple", data := Data.seq #[Value.int (↑i) tk, x] } = h₄ at he₄ ht₄ hz₄ hk₄ hit₄ ⊢
  rw [hsz]
  show wpAny (model prog w) A (Bind.bind (Builtin.SmallTypes.ownedTupleIsFree (Value.ref e)) _) _ _ _
  refine wpAny_bind ?_
  refine wpAny_bind (wpAny_field he₄ rfl rfl (wpAny_pure ?_))
  show wpAny (model prog w) A (Bind.bind (rule "enumerate.__next__.owned-tuple-again") _) _ _ _
  refine wpAny_bind (wpAny_rule ?_)
  refine wpAny_bind (wpAny_field he₄ rfl rfl ?_)
  refine wpAny_bind (wpAny_setField_rec he₄ (by simp) fun h₅ he₅ hs₅ => ?_)
  refine wpAny_bind ?_
  refine wpAny_bind (wpAny_setField_rec he₅ (by simp) fun h₆ he₆ hs₆ => ?_)
  refine wpAny_setField_rec he₆ (by simp) fun h₇ he₇ hs₇ => ?_
  refine wpAny_bind (wpAny_letGo (wpAny_pure ⟨_, rfl, ?_⟩))
  refine hQ h₇ he₇ (Heap.IsTupleIter.extBut (Heap.IsTupleIter.extBut (Heap.IsTupleIter.extBut hit₄ (Heap.SameBut.extBut hs₅) (Ne.symm hne)) (Heap.SameBut.extBut hs₆) (Ne.symm hne)) (Heap.SameBut.extBut hs₇) (Ne.symm hne)) ?_ ?_ ?_
  · exact Heap.SameBut.extBut hs₇ _ _ (Nat.ne_of_gt hel) (Heap.SameBut.extBut hs₆ _ _ (Nat.ne_of_gt hel) (Heap.SameBut.extBut hs₅ _ _ (Nat.ne_of_gt hel) ht₄))
  · rw [hs₇.left, hs₆.left, hs₅.left, hz₄]
  · exact fun b o hbe hbi hb => Heap.SameBut.extBut hs₇ b o hbe (Heap.SameBut.extBut hs₆ b o hbe (Heap.SameBut.extBut hs₅ b o hbe (hk₄ b o hbe hbi hb)))
theorem pyNext_enum_itemT {prog : Program} {w : World} {A : Around} {E : Value → Shared → Prop} {s : Shared} {e it l : Addr} {i : Nat} {items : Array Value} {x old : Value} {Q : Option Value → Shared → Prop} (he : IsEnum s.heap e it (↑i) old) (hit : s.heap.IsTupleIter it l i) (hl : s.heap.IsTuple l items) (hx : items[i]? = some x) (hne : e ≠ it)
    (hQ : ∀ (h' : Heap), IsEnumOut h' e it (↑i + 1) x s.heap.objs.size → h'.IsTupleIter it l (i + 1) → h'.get? s.heap.objs.size = some { cls := Value.type "tuple", data := Data.seq #[Value.int (↑i) s.toks, x] } → h'.objs.size = s.heap.objs.size + 1 →
      (∀ (b : Addr) (o : Obj), b ≠ e → b ≠ it → s.heap.get? b = some o → h'.get? b = some o) → Q (some (Value.ref s.heap.objs.size)) { heap := h', gens := s.gens, drawn := s.drawn, toks := s.toks + 1, os := s.os }) :
    wpAny (model prog w) A (pyNext (Value.ref e)) Q E s := by
  have hT : s.TypeIs (Value.ref e) "enumerate" := ⟨_, he, rfl⟩
  show wpAny (model prog w) A (Bind.bind _ _) _ _ _
  refine wpAny_bind (wpAny_attempt (wpAny_callSpecial?_slot hT F.slot_enumerate_next (wpAny_call_entry F.slot_enumerate_next hT F.entry_enumerate_next ?_ (F.args_enumerate_next_1 (Value.ref e)))))
  exact enum_next_itemT he hit hl hx hne fun h' a b c d k => wpAny_pure (hQ h' a b c d k)
theorem pyNext_enum_endT {prog : Program} {w : World} {A : Around} {E : Value → Shared → Prop} {s : Shared} {e it l : Addr} {i : Nat} {items : Array Value} {old : Value} {Q : Option Value → Shared → Prop} (hh : A.handled = none) (he : IsEnum s.heap e it (↑i) old) (hit : s.heap.IsTupleIter it l i) (hl : s.heap.IsTuple l items) (hx : items[i]? = none)
    (hQ : ∀ (h' : Heap), Heap.ExtBut it s.heap h' → Q none { heap := h', gens := s.gens, drawn := s.drawn, toks := s.toks, os := s.os }) :
    wpAny (model prog w) A (pyNext (Value.ref e)) Q E s := by
  have hT : s.TypeIs (Value.ref e) "enumerate" := ⟨_, he, rfl⟩
  show wpAny (model prog w) A (Bind.bind _ _) _ _ _
  refine wpAny_bind (wpAny_attempt (wpAny_callSpecial?_slot hT F.slot_enumerate_next (wpAny_call_entry F.slot_enumerate_next hT F.entry_enumerate_next ?_ (F.args_enumerate_next_1 (Value.ref e)))))
  show wpAny (model prog w) _ (Bind.bind (field (Value.ref e) 2) _) _ _ _
  refine wpAny_bind (wpAny_field he rfl rfl (wpAny_bind (RZ.nextOf_tuple_end hh hit hl hx fun h' x he' hx' => ?_)))
  obtain ⟨o, ho, hc⟩ := hx'
  exact wpAny_bind (wpAny_isInstance ⟨o, ho, hc⟩ isSubtype_stop (wpAny_pure (hQ h' he')))
theorem meets_enumerate_newT (l : Addr) (items : Array Value) : Meets (Builtin.«enumerate.__new__» { pos := [Value.type "enumerate", Value.ref l] }) fun _ R s => s.heap.IsTuple l items ∧
      R (Except.ok (Flow.ret (Value.ref (s.heap.push { cls := Value.type "tuple_iterator", data := Data.fields #[Value.ref l, Value.int 0 0] }).objs.size)))
        { heap := (s.heap.push { cls := Value.type "tuple_iterator", data := Data.fields #[Value.ref l, Value.int 0 0] }).push { cls := Value.type "enumerate", data := Data.fields #[Value.none, Value.bool false, Value.ref s.heap.objs.size, rawInt 0, Value.none, Value.none] }, gens := s.gens, drawn := s.drawn, toks := s.toks, os := s.os } := by
  refine Meets.of_wp fun prog w A R s h => ?_
  obtain ⟨hp, g, d, tk, os⟩ := s
  obtain ⟨hl, h⟩ := h
  have hsub := sub_enumerate
  refine wpAny_bind ?_
  refine wpAny_bind ?_
  refine wpAny_pure ?_
  refine wpAny_ite_false rfl ?_
  refine wpAny_bind ?_
  refine wpAny_of_eq hsub ?_
  refine wpAny_ite_false rfl ?_
  refine wpAny_pure ?_
  refine wpAny_ite_true rfl ?_
  refine wpAny_bind ?_
  refine wpAny_bind ?_
  refine wpAny_stack_any fun st => ?_
  refine wpAny_pure ?_
  split
  · rename_i c tail kw snd tail_1 hst
    cases (c == Value.type "enumerate") with
    | true =>
      refine wpAny_ite_true rfl ?_
      refine wpAny_bind ?_
      refine wpAny_pure ?_
      refine wpAny_bind ?_
      refine wpAny_pyIter_tuple hl ?_
      refine wpAny_bind ?_
      simp only [Builtin.SmallTypes.newRecord, newObj]
      refine wpAny_ite_false (by first | rfl | decide) ?_
      refine wpAny_bind ?_
      refine wpAny_alloc' ?_
      refine wpAny_pure ?_
      refine wpAny_pure ?_
      exact ⟨_, rfl, h⟩
    | false =>
      refine wpAny_ite_false (by decide) ?_
      refine wpAny_bind ?_
      refine wpAny_of_eq (show _ = pure (Value.ref l, none) from rfl) ?_
      refine wpAny_bind ?_
      refine wpAny_pyIter_tuple hl ?_
      refine wpAny_bind ?_
      simp only [Builtin.SmallTypes.newRecord, newObj]
      refine wpAny_ite_false (by first | rfl | decide) ?_
      refine wpAny_bind ?_
      refine wpAny_alloc' ?_
      refine wpAny_pure ?_
      refine wpAny_pure ?_
      exact ⟨_, rfl, h⟩
  · refine wpAny_ite_false (by decide) ?_
    refine wpAny_bind ?_
    refine wpAny_of_eq (show _ = pure (Value.ref l, none) from rfl) ?_
    refine wpAny_bind ?_
    refine wpAny_pyIter_tuple hl ?_
    refine wpAny_bind ?_
    simp only [Builtin.SmallTypes.newRecord, newObj]
    refine wpAny_ite_false (by first | rfl | decide) ?_
    refine wpAny_bind ?_
    refine wpAny_alloc' ?_
    refine wpAny_pure ?_
    refine wpAny_pure ?_
    exact ⟨_, rfl, h⟩
theorem call_enumT {prog : Program} {w : World} {A : Around} {E : Value → Shared → Prop} {s : Shared} {l : Addr} {items : Array Value} {Q : Value → Shared → Prop} (hl : s.heap.IsTuple l items)
    (h : ∀ (h' : Heap), IsEnum h' (s.heap.objs.size + 1) s.heap.objs.size 0 Value.none → h'.IsTupleIter s.heap.objs.size l 0 → h'.objs.size = s.heap.objs.size + 2 → (∀ (b : Addr) (o : Obj), s.heap.get? b = some o → h'.get? b = some o) → Q (Value.ref (s.heap.objs.size + 1)) { heap := h', gens := s.gens, drawn := s.drawn, toks := s.toks, os := s.os }) :
    wpAny (model prog w) A (call (Value.type "enumerate") [Value.ref l]) Q E s := by
  refine callType_new F.called_enumerate (by decide) (F.typeCall_enumerate_1 (Value.ref l)) (F.newCall_enumerate_1 (Value.ref l)) (fun obj => F.args_object_init_2 obj (Value.ref l)) F.entry_enumerate_new (meets_enumerate_newT l items) ⟨hl, ?_⟩
  have hz := Heap.size_push s.heap { cls := Value.type "tuple_iterator", data := Data.fields #[Value.ref l, Value.int 0 0] }
  have he := Heap.get?_push_size (s.heap.push { cls := Value.type "tuple_iterator", data := Data.fields #[Value.ref l, Value.int 0 0] }) (o := { cls := Value.type "enumerate", data := Data.fields #[Value.none, Value.bool false, Value.ref s.heap.objs.size, rawInt 0, Value.none, Value.none] }) rfl
  rw [hz] at he
  show _ ∧ _
  rw [hz]
  refine ⟨⟨_, he, rfl⟩, h _ he ⟨_, Heap.get?_push_of_some _ (Heap.get?_push_size s.heap rfl), rfl, rfl⟩ ?_ fun b o q => Heap.get?_push_of_some _ (Heap.get?_push_of_some _ q)⟩
  rw [Heap.size_push, hz]
def IteT (K : PySem.W.Frag) (a : Addr) : It :=
  ⟨fun i H => ∃ xs x, SqT K H a xs ∧ xs[i]? = some x, fun i H v H' => ∃ T x, v = V.ref T ∧ H T = none ∧ H' = upd H T (.tup [.int (i : Nat), x]) ∧ ∀ xs : List V, SqT K H a xs → xs[i]? = some x, fun i H => ∃ xs, SqT K H a xs ∧ xs.length ≤ i⟩
theorem turn_enumT {P : Program} {w : World} {K : PySem.W.Frag} {elts : List PySem.Expr} {kk : Nat} {tpos : Pos} (a e it : Addr) : Turn P w K (.Tuple elts kk tpos) (IteT K a) [e, it] e fun i h => (∃ old, IsEnum h e it (↑i) old) ∧ h.IsTupleIter it a i ∧ e ≠ it where
  mem := by simp
  obj := fun i h st b hb => by
    obtain ⟨⟨old, he⟩, ⟨o, ho, hc, hd⟩, hne⟩ := st
    simp only [List.mem_cons, List.not_mem_nil, or_false] at hb
    rcases hb with rfl | rfl
    · exact ⟨_, he, fun v q => nomatch q⟩
    · exact ⟨o, ho, fun v q => by rw [hd] at q; cases q⟩
  keep := fun i h h' st k => by
    obtain ⟨⟨old, he⟩, hi, hne⟩ := st
    exact ⟨⟨old, k e (by simp) _ he⟩, hi.at fun o q => k it (by simp) o q, hne⟩
  item := fun X hP hw hK hc i pins s σ H E I hf st hg => by
    subst hP hw hK
    obtain ⟨⟨old, he⟩, hit, hne⟩ := st
    obtain ⟨xs, x, hq, hx⟩ := hg
    obtain ⟨its, rv, p, hz⟩ := I.tuple hq
    obtain ⟨u, hu, ru⟩ := Vals.get rv hx
    have hel := Heap.lt_size he
    have hil : it < s.heap.objs.size := by obtain ⟨o, q, _⟩ := hit; exact Heap.lt_size q
    refine pyNext_enum_itemT he hit p (by rw [List.getElem?_toArray]; exact hu) hne fun h' ho hit' hT hsz hk => ⟨_, rfl, wpAny_letOwnedTupleGo_enum ho fun h'' he' sb => ?_⟩
    have hT2 := (sb.right s.heap.objs.size (Nat.ne_of_gt hel)).trans hT
    have new : ObjOk X.prog X.w (upd H s.heap.objs.size (HO.tup [V.int ↑i, x])) h'' s.heap.objs.size (HO.tup [V.int ↑i, x]) :=
      ⟨(show (2 : Nat) ≤ sizeLine by decide), [Value.int (↑i) s.toks, u], .cons ⟨s.toks, rfl⟩ (.cons ru .nil), ⟨_, hT2, rfl, 0, rfl⟩⟩
    have I1 := Inv.turnedNew (t' := s.toks + 1) I (fun b ob hb q => (sb.right b fun z => hb (by rw [z]; simp)).trans (hk b ob (fun z => hb (by rw [z]; simp)) (fun z => hb (by rw [z]; simp)) q)) hf (Nat.le_refl s.heap.objs.size) new
    refine ⟨V.ref s.heap.objs.size, upd H s.heap.objs.size (HO.tup [V.int ↑i, x]), I1, rfl, ⟨s.heap.objs.size, x, rfl, HOk.fresh I.hok (Nat.le_refl s.heap.objs.size), rfl, fun ys hy => by rw [I.tuple_inj hy hq]; exact hx⟩, ⟨⟨u, ?_⟩, hit'.at fun o q => (sb.right it (Ne.symm hne)).trans q, hne⟩, fun b hb => ?_⟩
    · have e1 : ((i + 1 : Nat) : Int) = ↑i + 1 := by omega
      rw [e1]
      exact he'
    · have hb' : b < s.heap.objs.size := by
        simp only [List.mem_cons, List.not_mem_nil, or_false] at hb
        rcases hb with rfl | rfl
        · exact hel
        · exact hil
      rw [upd_ne (Nat.ne_of_lt hb')]
      exact (hf b hb).left
  done := fun X hP hw hK hc i pins s σ H E I hf st hg => by
    subst hP hw hK
    obtain ⟨⟨old, he⟩, hit, hne⟩ := st
    obtain ⟨xs, hq, hx⟩ := hg
    obtain ⟨its, rv, p, hz⟩ := I.tuple hq
    obtain ⟨f0, f1, f2, f3, f4, f5⟩ := hf it (by simp)
    have hl := Vals.length rv
    exact pyNext_enum_endT (I.ok.hd hc) he hit p (by rw [List.getElem?_toArray, List.getElem?_eq_none_iff]; omega) fun h' eb => ⟨rfl, Inv.turned I (fun b o hb q => eb b o hb q) f0 f1 f3 f4 f5⟩
  self := fun A i s Q E st h => by
    obtain ⟨⟨old, he⟩, _⟩ := st
    exact wpAny_pyIter_enum he h
def iEnumT (K : PySem.W.Frag) (ta : TA) : TI := fun σ H R => ta σ H fun vs H1 => ∃ a xs, vs = [V.ref a] ∧ SqT K H1 a xs ∧ R (IteT K a) H1
theorem pi_enumT {X : Cx} {e : PySem.Expr} {ta : TA} {p pos tpos : Pos} {elts : List PySem.Expr} {kk : Nat} (hg : Gl X "enumerate") (hm : X.mg "enumerate" = none) (ha : PA X [e] ta) (hs : starEach [e] X.env = [(false, eval e X.env)]) : PI X (.Tuple elts kk tpos) (.Call (.Name "enumerate" p) [e] [] pos) (iEnumT X.K ta) := by
  refine ⟨fun pins s σ H R I h => ?_⟩
  refine Call_ (ld_blt I hg hm boot_enumerate (PyProof.Rows.callWith_type1 (thn (ha.run pos pins s σ H (fun vs H1 => ∃ a xs, vs = [V.ref a] ∧ SqT X.K H1 a xs ∧ R (IteT X.K a) H1) I h) fun us s1 x => ?_) hs rfl) (by decide) (by decide)) rfl
  obtain ⟨vs, H1, I1, r1, a, xs, rfl, hq, q⟩ := x
  cases r1 with
  | cons r rr =>
    cases rr with
    | nil =>
      cases r with
      | refl =>
        obtain ⟨its, rv, p', hz⟩ := I1.tuple hq
        refine call_enumT p' fun h' he hit hsz hk => wpAny_pyIter_enum he ?_
        have I2 := Inv.kept (t' := s1.toks) I1 hk
        refine ⟨s1.heap.objs.size + 1, [s1.heap.objs.size + 1, s1.heap.objs.size], fun i h => (∃ old, IsEnum h (s1.heap.objs.size + 1) s1.heap.objs.size (↑i) old) ∧ h.IsTupleIter s1.heap.objs.size a i ∧ s1.heap.objs.size + 1 ≠ s1.heap.objs.size, IteT X.K a, H1, rfl, I2, turn_enumT a (s1.heap.objs.size + 1) s1.heap.objs.size, ⟨⟨Value.none, he⟩, hit, Nat.succ_ne_self _⟩, fun b hb => ?_, q⟩
        have hle : s1.heap.objs.size ≤ b := by
          simp only [List.mem_cons, List.not_mem_nil, or_false] at hb
          rcases hb with rfl | rfl
          · omega
          · exact Nat.le_refl _
        exact Inv.fpOk I1 hle (HOk.fresh I1.hok hle)
end MI
namespace MI
open PySem PySem.Spec PyProof.Rows L2 RT
variable [TC : TabsC]
def enumD (xs : List D) : List D := (List.range xs.length).map fun i : Nat => .tup [.int i, xs.getD i .non]
theorem enumD_len (xs : List D) : (enumD xs).length = xs.length := by simp [enumD]
theorem enumD_get {xs : List D} {i : Nat} {d : D} (h : (enumD xs)[i]? = some d) : ∃ x, xs[i]? = some x ∧ d = .tup [.int i, x] := by
  have hl := (List.getElem?_eq_some_iff.mp h).1
  rw [enumD_len] at hl
  unfold enumD at h
  rw [List.getElem?_map, List.getElem?_range hl] at h
  cases h
  exact ⟨xs[i], List.getElem?_eq_getElem hl, by simp [List.getD, List.getElem?_eq_getElem hl]⟩
def iEnumM (a : ME) : MIt := fun env st => (a env st).bind fun x st => match x with
  | .tup ds => .ok (.vals (enumD ds)) st
  | x => match lsOf st x with
    | some p => .ok (.multi p.1 (enumD p.2)) st
    | none => .stuck
def iRevM (a : ME) : MIt := fun env st => (a env st).bind fun x st => match x with
  | .tup ds => .ok (.vals ds.reverse) st
  | x => match lsOf st x with
    | some p => .ok (.multi p.1 p.2.reverse) st
    | none => .stuck
def bRangeL (ds : List D) (st : Sto) : R D := match ds with
  | [.int n] => if 0 ≤ n ∧ n ≤ 16777216 then .ok (.lst (rangeD 0 n.toNat)) st else .stuck
  | _ => .stuck
def bRangeLN (ds : List D) (st : Sto) : R D := match ds with
  | [.int n] => if 0 ≤ n ∧ n ≤ 16777216 then .ok (.ref st.length) (st ++ [.lst (rangeD 0 n.toNat)]) else .stuck
  | _ => .stuck
section
variable {X : Cx} {cls : Nat → Value} {W : WX} {pos : Pos} {a : Expr} {ma : ME}
theorem rel_range {K : PySem.W.Frag} {rho : Rho} {H : Hp} (n : Nat) : RelDs K rho H (rangeD 0 n) (rgV 0 n) := by
  unfold rangeD rgV
  rw [show ((n : Int) - 0).toNat = n by omega]
  induction List.range n with
  | nil => exact .nil
  | cons i is ih => exact .cons (.int _) ih
theorem pe_listRgM {p q pos2 : Pos} (hp : plainE a = true) (hg : Gl X "list") (hm : X.mg "list" = none) (hg2 : Gl X "range") (hm2 : X.mg "range" = none) (hc : X.calm = true) (N : Bool) (ha : PE X a (tE X.K cls W ma)) :
    PE X (.Call (.Name "list" p) [.Call (.Name "range" q) [a] [] pos2] [] pos) (tE X.K cls W (mCall (if N = true then bRangeLN else bRangeL) [ma])) := by
  refine PE.weak (pe_listRg hc hg hm (prg_1 hg2 hm2 ha (star_plain hp)) (star_plain rfl)) fun sg H Q h => ?_
  obtain ⟨rho, env, st, w, re, h⟩ := h
  rw [mCall1] at h
  refine ⟨rho, env, st, w, re, OkR.mono (OkR.bind h) fun d st1 rho1 H1 e1 w1 h1 v rv => ?_⟩
  have key : ∃ n : Int, d = .int n ∧ 0 ≤ n ∧ n ≤ 16777216 ∧ OkR X.K cls W sg rho1 H1 (if N = true then .ok (.ref st1.length) (st1 ++ [.lst (rangeD 0 n.toNat)]) else .ok (.lst (rangeD 0 n.toNat)) st1) (VQ X.K Q) := by
    cases N with
    | true =>
      simp only [if_true] at h1
      unfold bRangeLN at h1
      split at h1
      · rename_i n e
        cases e
        split at h1
        · rename_i hn
          exact ⟨n, rfl, hn.1, hn.2, h1⟩
        · exact h1.elim
      · exact h1.elim
    | false =>
      simp only [Bool.false_eq_true, if_false] at h1
      unfold bRangeL at h1
      split at h1
      · rename_i n e
        cases e
        split at h1
        · rename_i hn
          exact ⟨n, rfl, hn.1, hn.2, h1⟩
        · exact h1.elim
      · exact h1.elim
  obtain ⟨n, rfl, n0, n1, h2⟩ := key
  cases rv
  refine ⟨n, rfl, RgOk.of_le (by omega) (by omega) (by omega) n0, ?_⟩
  have e : rgV 0 n = rgV 0 ((n.toNat : Nat) : Int) := by rw [Int.toNat_of_nonneg n0]
  rw [e]
  cases N with
  | true => exact ok_new_lst w1 h2 (rel_range _)
  | false => exact ok_tmp_lst w1 h2 (rel_range _)
theorem it_enum {K : PySem.W.Frag} {x : D} {p : List (Nat × List D)} {xs : List D} (a : Addr) (dx : LsD x p xs) : ItOk K (Ite K a) (.multi p (enumD xs)) (fun rho H => LsP K x a xs rho H) where
  stab := fun rho H rho' H' h e => h.stab dx e
  go := fun i d rho st H w h hs hd => by
    obtain ⟨us, g1, r1⟩ := h.get dx w hs
    obtain ⟨x1, h1, rfl⟩ := enumD_get hd
    obtain ⟨u, hu, _⟩ := r1.get h1
    exact ⟨us, u, SqL.of g1, hu⟩
  yld := fun i d rho st H z H' w h hs hd y' => by
    obtain ⟨us, g1, r1⟩ := h.get dx w hs
    obtain ⟨x1, h1, rfl⟩ := enumD_get hd
    obtain ⟨u, hu, ru⟩ := r1.get h1
    obtain ⟨T, u', rfl, hT, rfl, f1⟩ := y'
    have e1 := f1 us (SqL.of g1)
    rw [hu] at e1; cases e1
    have ex := w.extTmp hT (.tup [.int (i : Nat), u])
    exact ⟨ex, w.tmp hT _, .tup (SqT.of upd_same) (.cons (.int _) (.cons (ru.ext ex) .nil)) fun _ => upd_same⟩
  stop := fun i rho st H w h hs hi => by
    obtain ⟨us, g1, r1⟩ := h.get dx w hs
    have hi' : (enumD xs).length ≤ i := hi
    rw [enumD_len] at hi'
    exact ⟨us, SqL.of g1, by rw [← r1.length]; exact hi'⟩
  hide := fun rho H p' xs' h hp => h.hide dx hp
  grow := fun rho H p' xs' ys' hp hq h => h.grow dx hp hq
theorem rev_get {α : Type} {xs : List α} {i : Nat} {d : α} (h : xs.reverse[i]? = some d) : i < xs.length ∧ xs[xs.length - 1 - i]? = some d := by
  have hl := (List.getElem?_eq_some_iff.mp h).1
  rw [List.length_reverse] at hl
  rw [List.getElem?_reverse hl] at h
  exact ⟨hl, h⟩
theorem it_rev {K : PySem.W.Frag} {x : D} {p : List (Nat × List D)} {xs : List D} (a : Addr) (dx : LsD x p xs) : ItOk K (Itv K a xs.length) (.multi p xs.reverse) (fun rho H => LsP K x a xs rho H) where
  stab := fun rho H rho' H' h e => h.stab dx e
  go := fun i d rho st H w h hs hd => by
    obtain ⟨us, g1, r1⟩ := h.get dx w hs
    obtain ⟨hl, h1⟩ := rev_get hd
    obtain ⟨u, hu, _⟩ := r1.get h1
    exact ⟨hl, us, u, SqL.of g1, hu⟩
  yld := fun i d rho st H z H' w h hs hd y' => by
    obtain ⟨us, g1, r1⟩ := h.get dx w hs
    obtain ⟨hl, h1⟩ := rev_get hd
    obtain ⟨u, hu, ru⟩ := r1.get h1
    obtain ⟨rfl, f1⟩ := y'
    have e1 := f1 us (SqL.of g1)
    rw [hu] at e1; cases e1
    exact ⟨Ext.refl _ _, w, ru⟩
  stop := fun i rho st H w h hs hi => by
    have hi' : xs.reverse.length ≤ i := hi
    rw [List.length_reverse] at hi'
    exact hi'
  hide := fun rho H p' xs' h hp => h.hide dx hp
  grow := fun rho H p' xs' ys' hp hq h => h.grow dx hp hq
theorem it_revT {K : PySem.W.Frag} (a : Addr) (xs : List D) (vs : List V) : ItOk K (ItvT K a xs.length) (.vals xs.reverse) (fun rho H => SqT K H a vs ∧ RelDs K rho H xs vs) where
  stab := (it_tup a xs vs).stab
  go := fun i d rho st H w h hs hd => by
    obtain ⟨hl, h1⟩ := rev_get hd
    obtain ⟨u, hu, _⟩ := h.2.get h1
    exact ⟨hl, vs, u, h.1, hu⟩
  yld := fun i d rho st H z H' w h hs hd y' => by
    obtain ⟨hl, h1⟩ := rev_get hd
    obtain ⟨u, hu, ru⟩ := h.2.get h1
    obtain ⟨rfl, f1⟩ := y'
    have e1 := f1 vs h.1
    rw [hu] at e1; cases e1
    exact ⟨Ext.refl _ _, w, ru⟩
  stop := fun i rho st H w h hs hi => by
    have hi' : xs.reverse.length ≤ i := hi
    rw [List.length_reverse] at hi'
    exact hi'
  hide := (it_tup a xs vs).hide
  grow := (it_tup a xs vs).grow
theorem it_enumT {K : PySem.W.Frag} (a : Addr) (xs : List D) (vs : List V) : ItOk K (IteT K a) (.vals (enumD xs)) (fun rho H => SqT K H a vs ∧ RelDs K rho H xs vs) where
  stab := (it_tup a xs vs).stab
  go := fun i d rho st H w h hs hd => by
    obtain ⟨x1, h1, rfl⟩ := enumD_get hd
    obtain ⟨u, hu, _⟩ := h.2.get h1
    exact ⟨vs, u, h.1, hu⟩
  yld := fun i d rho st H z H' w h hs hd y' => by
    obtain ⟨x1, h1, rfl⟩ := enumD_get hd
    obtain ⟨u, hu, ru⟩ := h.2.get h1
    obtain ⟨T, u', rfl, hT, rfl, f1⟩ := y'
    have e1 := f1 vs h.1
    rw [hu] at e1; cases e1
    have ex := w.extTmp hT (.tup [.int (i : Nat), u])
    exact ⟨ex, w.tmp hT _, .tup (SqT.of upd_same) (.cons (.int _) (.cons (ru.ext ex) .nil)) fun _ => upd_same⟩
  stop := fun i rho st H w h hs hi => by
    have hi' : (enumD xs).length ≤ i := hi
    rw [enumD_len] at hi'
    exact ⟨vs, h.1, by rw [← h.2.length]; exact hi'⟩
  hide := (it_tup a xs vs).hide
  grow := (it_tup a xs vs).grow
theorem pi_enumM {elts : List Expr} {kk : Nat} {tpos p : Pos} (hp : plainE a = true) (hg : Gl X "enumerate") (hm : X.mg "enumerate" = none) (ha : PE X a (tE X.K cls W ma)) : PI X (.Tuple elts kk tpos) (.Call (.Name "enumerate" p) [a] [] pos) (tIm X.K cls W (iEnumM ma)) := by
  have hA : PA X [a] (tCons (tE X.K cls W ma) tNil) := pa_cons ha pa_nil (star_plain hp)
  refine PI.weak (PI.or (pi_enum hg hm hA (star_plain hp)) (pi_enumT hg hm hA (star_plain hp))) fun sg H R0 hq => ?_
  obtain ⟨rho, env, st, w, re, hq⟩ := hq
  unfold iEnumM at hq
  cases qm : ma env st with
  | exc c st1 =>
    rw [qm] at hq
    exact .inl ⟨rho, env, st, w, re, by rw [qm]; exact hq⟩
  | stuck =>
    rw [qm] at hq
    exact hq.elim
  | ok d st1 =>
    rw [qm] at hq
    simp only [MI.R.bind_ok] at hq
    split at hq
    · rename_i ds
      refine .inr ⟨rho, env, st, w, re, ?_⟩
      rw [qm]
      intro rho1 H1 e1 w1 v rv
      cases rv with
      | tup g r _ => exact ⟨_, _, rfl, g, hq rho1 H1 e1 w1 _ _ (it_enumT _ _ _) ⟨g, r⟩ trivial⟩
    · split at hq
      · rename_i p hx
        refine .inl ⟨rho, env, st, w, re, ?_⟩
        rw [qm]
        intro rho1 H1 e1 w1 v rv
        obtain ⟨dx, hsx⟩ := lsOf_D hx
        obtain ⟨a', rfl, la⟩ := LsP.of dx rv
        obtain ⟨us, g1, _⟩ := la.get dx w1 hsx
        exact ⟨_, _, rfl, SqL.of g1, hq rho1 H1 e1 w1 _ _ (it_enum _ dx) la hsx⟩
      · exact hq.elim
theorem pi_revM {tg : Expr} {p : Pos} (hp : plainE a = true) (hg : Gl X "reversed") (hm : X.mg "reversed" = none) (ha : PE X a (tE X.K cls W ma)) : PI X tg (.Call (.Name "reversed" p) [a] [] pos) (tIm X.K cls W (iRevM ma)) := by
  refine PI.weak (pi_revA hg hm ha (star_plain hp)) fun sg H R0 hq => ?_
  obtain ⟨rho, env, st, w, re, hq⟩ := hq
  refine ⟨rho, env, st, w, re, OkR.mono (OkR.bind hq) fun d st1 rho1 H1 e1 w1 h1 v rv => ?_⟩
  split at h1
  · cases rv with
    | tup g r _ =>
      exact ⟨_, _, rfl, .inr ⟨g, by rw [← r.length]; exact h1 rho1 H1 (Ext.refl _ _) w1 _ _ (it_revT _ _ _) ⟨g, r⟩ trivial⟩⟩
  · split at h1
    · rename_i p hx
      obtain ⟨dx, hsx⟩ := lsOf_D hx
      obtain ⟨a', rfl, la⟩ := LsP.of dx rv
      obtain ⟨us, g1, r1⟩ := la.get dx w1 hsx
      exact ⟨_, us, rfl, .inl ⟨SqL.of g1, by rw [← r1.length]; exact h1 rho1 H1 (Ext.refl _ _) w1 _ _ (it_rev _ dx) la hsx⟩⟩
    · exact h1.elim
end
end MI
namespace MI
open PySem PySem.Spec PyProof.Rows L2
variable [TC : TabsC]
def isDicS (st : Sto) : D → Bool
  | .ref l => (match st[l]? with
    | some (.dic _) => true
    | some (.dicT _) => true
    | _ => false)
  | _ => false
def dGet (x y d : D) (st : Sto) : R D := match x with
  | .ref l => (match st[l]? with
    | some (.dic kvs) => (match keyOf y with
      | some k => .ok ((kvGet kvs k).getD d) st
      | none => .stuck)
    | some (.dicT kvs) => (match keyTD y with
      | some k => .ok ((ktGet kvs k).getD d) st
      | none => .stuck)
    | _ => .stuck)
  | _ => .stuck
def mDGet1 (o i : ME) : ME := fun env st => (o env st).bind fun x st => if isDicS st x = true then (i env st).bind fun y st => dGet x y .non st else .stuck
def mDGet2 (o i e : ME) : ME := fun env st => (o env st).bind fun x st => if isDicS st x = true then (i env st).bind fun y st => (e env st).bind fun d st => dGet x y d st else .stuck
section
variable {X : Cx} {cls : Nat → Value} {W : WX} {pos apos : Pos} {o e f : Expr} {mo me mf : ME}
theorem isDicS_rel {K : PySem.W.Frag} {rho : Rho} {st : Sto} {H : Hp} {x : D} {v : V} (w : Wld K rho st H) (r : RelD K rho H x v) (h : isDicS st x = true) : ∃ a, v = .ref a ∧ IsD H a := by
  unfold isDicS at h
  split at h
  · split at h
    · rename_i kvs hl
      obtain ⟨a, ks, rfl, ha, h1, h2⟩ := ref_dic w r hl
      exact ⟨a, rfl, .inl ⟨ks, .inl h1⟩⟩
    · rename_i kvs hl
      obtain ⟨a, ks, rfl, ha, h1, h2, h3⟩ := ref_dicT w r hl
      exact ⟨a, rfl, .inr ⟨ks, .inl h1⟩⟩
    · cases h
  · cases h
theorem hop_dget {K : PySem.W.Frag} {sg : L2.St} {rho : Rho} {st : Sto} {H : Hp} {Q : VK} {x y d : D} {v u z : V} (w : Wld K rho st H) (r1 : RelD K rho H x v) (r2 : RelD K rho H y u) (r3 : RelD K rho H d z) (h : OkR K cls W sg rho H (dGet x y d st) (VQ K Q)) :
    ∀ a, v = .ref a → ∃ ov, DGet H a u ov ∧ Q (ov.getD z) H := by
  unfold dGet at h
  split at h
  · split at h
    · rename_i kvs hl
      obtain ⟨a, ks, rfl, ha, h1, h2⟩ := ref_dic w r1 hl
      intro a' e
      cases e
      split at h
      · rename_i k hk
        refine ⟨valV ks k, by rw [keyOf_rel r2 hk]; exact DGet.k h1, ?_⟩
        cases g : kvGet kvs k with
        | none =>
          rw [g] at h
          rw [kvGet_none h2 g]
          exact ok_here w h r3
        | some d' =>
          rw [g] at h
          obtain ⟨z', hz, rz⟩ := kvGet_rel h2 g
          rw [hz]
          exact ok_here w h rz
      · exact h.elim
    · rename_i kvs hl
      obtain ⟨a, ks, rfl, ha, h1, h2, h3⟩ := ref_dicT w r1 hl
      intro a' e
      cases e
      split at h
      · rename_i k hk
        obtain ⟨b, rfl, hb⟩ := keyTD_rel r2 hk
        refine ⟨valV ks k, DGet.t h1 hb, ?_⟩
        cases g : ktGet kvs k with
        | none =>
          rw [g] at h
          rw [(ktGet_rel h2 h3).2 g]
          exact ok_here w h r3
        | some d' =>
          rw [g] at h
          obtain ⟨z', hz, rz⟩ := (ktGet_rel h2 h3).1 d' g
          rw [hz]
          exact ok_here w h rz
      · exact h.elim
    · exact h.elim
  · exact h.elim
theorem few_ok {es : List Expr} {env : Env} (hp : es.all plainE = true) (hn : es.length < 30) : ((backTo pos (starEach es env)).all (fun x => !x.1) && (backToKw pos (keywordEach [] env)).all (fun x => x.1.isSome) && decide (es.length + ([] : List Keyword).length + (if ([] : List Keyword).isEmpty then 0 else 1) < 30)) = true := by
  rw [star_all hp]
  have hk : (backToKw pos (keywordEach [] env)).all (fun x => x.1.isSome) = true := rfl
  rw [hk]
  have hn' : decide (es.length + 0 + 0 < 30) = true := by simpa using hn
  simpa using hn'
theorem pe_dget1M (hu : X.A.units + 1 < cLine) (hb : noCall o = true) (hl : (apos.endLine == pos.line) = true) (hp : [e].all plainE = true) (ho : PE X o (tE X.K cls W mo)) (he : PE X e (tE X.K cls W me)) : PE X (.Call (.Attribute o "get" apos) [e] [] pos) (tE X.K cls W (mDGet1 mo me)) := by
  have hp' := hp
  simp only [List.all_cons, List.all_nil, Bool.and_true] at hp'
  refine PE.weak (pe_dget1 hu ho he ⟨base_ok hb, few_ok hp (by simp), hl, by unfold backTo; rw [star_plain hp'] <;> rfl⟩) fun sg H Q h => ?_
  obtain ⟨rho, env, st, w, re, h⟩ := h
  refine ⟨rho, env, st, w, re, OkR.mono (OkR.bind h) fun x st1 rho1 H1 e1 w1 h1 v rv => ?_⟩
  split at h1
  · rename_i hd
    obtain ⟨a, rfl, hD⟩ := isDicS_rel w1 rv hd
    refine ⟨a, rfl, hD, rho1, env, st1, w1, re.ext e1, OkR.mono (OkR.bind h1) fun y st2 rho2 H2 e2 w2 h2 u ru => ?_⟩
    exact hop_dget w2 (rv.ext e2) ru .non h2 a rfl
  · exact h1.elim
theorem pe_dget2M (hu : X.A.units + 1 < cLine) (hb : noCall o = true) (hl : (apos.endLine == pos.line) = true) (hp : [e, f].all plainE = true) (ho : PE X o (tE X.K cls W mo)) (he : PE X e (tE X.K cls W me)) (hf : PE X f (tE X.K cls W mf)) : PE X (.Call (.Attribute o "get" apos) [e, f] [] pos) (tE X.K cls W (mDGet2 mo me mf)) := by
  have hp' := hp
  simp only [List.all_cons, List.all_nil, Bool.and_true, Bool.and_eq_true] at hp'
  refine PE.weak (pe_dget2 hu ho he hf ⟨base_ok hb, few_ok hp (by simp), hl, by unfold backTo; rw [star_plain hp'.1, star_plain hp'.2] <;> rfl⟩) fun sg H Q h => ?_
  obtain ⟨rho, env, st, w, re, h⟩ := h
  refine ⟨rho, env, st, w, re, OkR.mono (OkR.bind h) fun x st1 rho1 H1 e1 w1 h1 v rv => ?_⟩
  split at h1
  · rename_i hd
    obtain ⟨a, rfl, hD⟩ := isDicS_rel w1 rv hd
    refine ⟨a, rfl, hD, rho1, env, st1, w1, re.ext e1, OkR.mono (OkR.bind h1) fun y st2 rho2 H2 e2 w2 h2 u ru => ?_⟩
    refine ⟨rho2, env, st2, w2, (re.ext e1).ext e2, OkR.mono (OkR.bind h2) fun d st3 rho3 H3 e3 w3 h3 z rz => ?_⟩
    exact hop_dget w3 ((rv.ext e2).ext e3) (ru.ext e3) rz h3 a rfl
  · exact h1.elim
end
end MI
namespace MI
open PySem PySem.Spec PyProof.Rows L2
def Itvt (d : Addr) (o : Obj) (kvs : List (List Key × V)) : It :=
  ⟨fun i H => H d = some (.frz o (.dT kvs)) ∧ i < kvs.length, fun i H x H' => H' = H ∧ ∃ k, kvs[i]? = some (k, x), fun i H => H d = some (.frz o (.dT kvs)) ∧ kvs.length ≤ i⟩
section
variable {X : Cx} {pins : List (Addr × Obj)} {σ : L2.St} {H : Hp} {s : Shared} {d : Addr} {o : Obj}
theorem frzTv {kvs : List (List Key × V)} (I : Inv X pins σ H s) (h : H d = some (.frz o (.dT kvs))) :
    (d == sysModules) = false ∧ s.heap.get? d = some o ∧ o.ExactDict ∧ ∃ (es : Array DictEntry) (ep : Nat), o.data = .dict es ep ∧ es.size = kvs.length ∧
      ∀ (i : Nat) (k : List Key) (v : V), kvs[i]? = some (k, v) → ∃ en : DictEntry, es[i]? = some en ∧ RelV v en.val := by
  obtain ⟨hd, z, hs, xs, pr, o', es, ep, ho, hx, hdt, he, _⟩ := I.hok d _ h
  rw [hd] at ho
  cases ho
  refine ⟨hs, hd, hx, es, ep, hdt, ?_, fun i k v e => ?_⟩
  · have l1 : es.size = xs.length := size_of_entries he
    have l2 : kvs.length = xs.length := Paired.length pr
    omega
  · obtain ⟨b, hb, e1, e2, e3⟩ := paired_get pr e
    have q := entry_at he i
    rw [hb] at q
    exact ⟨_, q, e3⟩
end
section
variable {P : Program} {w : World} {K : PySem.W.Frag} {tg : Expr} {d : Addr} {o : Obj} {es : Array DictEntry} {ep : Nat}
theorem turn_valsT {kvs : List (List Key × V)} (it : Addr) (hod : o.data = .dict es ep) : Turn P w K tg (Itvt d o kvs) [it] it (fun i h => h.IsValIter it d i kvs.length ep) where
  mem := by simp
  obj := fun i h st b hb => by
    have e : b = it := by simpa using hb
    subst e
    obtain ⟨oi, e, c, dd⟩ := st
    exact ⟨oi, e, fun v z => by rw [dd] at z; cases z⟩
  keep := fun i h h' st k => st.at fun oi e => k it (by simp) oi e
  item := by
    intro X hP hw hK hc i pins s σ H E I hf st hg
    subst hP hw hK
    obtain ⟨hd, hi⟩ := hg
    obtain ⟨f0, f1, f2, f3, f4, f5⟩ := hf it (by simp)
    obtain ⟨hs, hgd, hx, es', ep', hdt, hsz, ent⟩ := frzTv I hd
    obtain ⟨rfl, rfl⟩ := dict_ep hod hdt
    obtain ⟨⟨k, v⟩, hkv⟩ : ∃ p, kvs[i]? = some p := ⟨kvs[i], List.getElem?_eq_getElem hi⟩
    obtain ⟨en, hen, ru⟩ := ent i k v hkv
    have hlt : i < es'.size := by omega
    rw [Array.getElem?_eq_getElem hlt] at hen
    cases hen
    rw [← hsz] at st
    refine wpAny_pyNext_values_item_raw st ⟨o, hgd, hx, hdt⟩ hlt fun h' st' sb => ?_
    have I1 : Inv X pins σ H { s with heap := h' } := I.turned (t' := s.toks) (fun b ob hb e => (sb.2 b hb).trans e) f0 f1 f3 f4 f5
    obtain ⟨oi, e, c, dd⟩ := id st'
    refine ⟨_, rfl, go_of (s := { s with heap := h' }) e c dd (by decide) ⟨v, H, I1, ru, ⟨rfl, k, hkv⟩, ?_, fun b hb => (hf b hb).1⟩⟩
    show h'.IsValIter it d (i + 1) kvs.length _
    rw [← hsz]
    exact st'
  done := by
    intro X hP hw hK hc i pins s σ H E I hf st hg
    subst hP hw hK
    obtain ⟨hd, hi⟩ := hg
    obtain ⟨f0, f1, f2, f3, f4, f5⟩ := hf it (by simp)
    obtain ⟨hs, hgd, hx, es', ep', hdt, hsz, ent⟩ := frzTv I hd
    obtain ⟨rfl, rfl⟩ := dict_ep hod hdt
    rw [← hsz] at st
    exact wpAny_pyNext_values_end_raw (I.ok.hd hc) st ⟨o, hgd, hx, hdt⟩ (by omega) fun h' eb => ⟨rfl, I.turned (t' := s.toks) (fun b ob hb e => eb b ob hb e) f0 f1 f3 f4 f5⟩
  self := fun A i s Q E st h => wpAny_pyIter_valiter st h
end
section
variable {X : Cx} {tg e : Expr} {td : TE} {apos cpos : Pos}
def iKeysT (td : TE) : TI := fun σ H R => td σ H fun x H1 => ∃ d o kvs, x = .ref d ∧ H1 d = some (.frz o (.dT kvs)) ∧ R (Itkt d o kvs) H1
def iValsT (td : TE) : TI := fun σ H R => td σ H fun x H1 => ∃ d o kvs, x = .ref d ∧ H1 d = some (.frz o (.dT kvs)) ∧ R (Itvt d o kvs) H1
theorem pi_keysT (he : PE X e td) (hbase : attributeBase e "keys" X.env (eval e X.env) = eval e X.env) (hline : (apos.endLine == cpos.line) = true) : PI X tg (.Call (.Attribute e "keys" apos) [] [] cpos) (iKeysT td) := by
  refine ⟨fun pins s σ H R I h => ?_⟩
  refine wpAny_Call_method (T := "dict") (id := "dict.keys") hbase rfl hline F.plainAttrs_dict F.slot_dict_keys F.type_dict_keys (thn (he.run pins s σ H _ I h) fun u s1 ⟨x, H1, I1, rx, d, o, kvs, ex, hd, q⟩ => ?_)
  subst ex
  obtain rfl : u = Value.ref d := rx
  obtain ⟨hs, hgd, hx, es, ep, hdt, hsz, ent⟩ := I1.frzT hd
  have hm : s1.heap.DictRaw d es ep := ⟨o, hgd, hx, hdt⟩
  refine ⟨hm.typeIs, ?_, ?_⟩
  · intro a e; cases e; exact ⟨o, hgd, hx.2.1⟩
  have I2 : Inv X pins σ H1 { s1 with heap := s1.heap.push { cls := .type "dict_keys", data := .fields #[.ref d] } } := I1.kept (t' := s1.toks) fun b ob q => Heap.get?_push_of_some _ q
  have fin : wpAny (model X.prog X.w) X.A (pyIter (.ref s1.heap.objs.size)) (PIE X pins σ tg R) X.xe { s1 with heap := s1.heap.push { cls := .type "dict_keys", data := .fields #[.ref d] } } := by
    refine wpAny_pyIter_keys_raw (d := d) (es := es) (ep := ep) ⟨_, Heap.get?_push_size _ rfl, rfl, rfl⟩ (hm.at fun ob q => Heap.get?_push_of_some _ q) (pi_one (tk := s1.toks) I2 _ (turn_keysT _ hdt) ⟨_, Heap.get?_push_size _ rfl, rfl, ?_⟩ q)
    rw [hsz] <;> rfl
  show wpAny _ _ (callWith cpos (.builtin "dict.keys") [.ref d] [] []) _ X.xe s1
  exact method_meetsIn F.slot_dict_keys F.entry_dict_keys rfl (PySem.evalArgs_none ⟨rfl, hm.typeIs, F.args_dict_keys_1 _, _, meets_dict_keys_raw d hs, ⟨es, ep, hm⟩, fin⟩)
theorem pi_valsT (he : PE X e td) (hbase : attributeBase e "values" X.env (eval e X.env) = eval e X.env) (hline : (apos.endLine == cpos.line) = true) : PI X tg (.Call (.Attribute e "values" apos) [] [] cpos) (iValsT td) := by
  refine ⟨fun pins s σ H R I h => ?_⟩
  refine wpAny_Call_method (T := "dict") (id := "dict.values") hbase rfl hline F.plainAttrs_dict F.slot_dict_values F.type_dict_values (thn (he.run pins s σ H _ I h) fun u s1 ⟨x, H1, I1, rx, d, o, kvs, ex, hd, q⟩ => ?_)
  subst ex
  obtain rfl : u = Value.ref d := rx
  obtain ⟨hs, hgd, hx, es, ep, hdt, hsz, ent⟩ := frzTv I1 hd
  have hm : s1.heap.DictRaw d es ep := ⟨o, hgd, hx, hdt⟩
  refine ⟨hm.typeIs, ?_, ?_⟩
  · intro a e; cases e; exact ⟨o, hgd, hx.2.1⟩
  have I2 : Inv X pins σ H1 { s1 with heap := s1.heap.push { cls := .type "dict_values", data := .fields #[.ref d] } } := I1.kept (t' := s1.toks) fun b ob q => Heap.get?_push_of_some _ q
  have fin : wpAny (model X.prog X.w) X.A (pyIter (.ref s1.heap.objs.size)) (PIE X pins σ tg R) X.xe { s1 with heap := s1.heap.push { cls := .type "dict_values", data := .fields #[.ref d] } } := by
    refine wpAny_pyIter_values_raw (d := d) (es := es) (ep := ep) ⟨_, Heap.get?_push_size _ rfl, rfl, rfl⟩ (hm.at fun ob q => Heap.get?_push_of_some _ q) (pi_one (tk := s1.toks) I2 _ (turn_valsT _ hdt) ⟨_, Heap.get?_push_size _ rfl, rfl, ?_⟩ q)
    rw [hsz] <;> rfl
  show wpAny _ _ (callWith cpos (.builtin "dict.values") [.ref d] [] []) _ X.xe s1
  exact method_meetsIn F.slot_dict_values F.entry_dict_values rfl (PySem.evalArgs_none ⟨rfl, hm.typeIs, F.args_dict_values_1 _, _, meets_dict_values_raw d hs, ⟨es, ep, hm⟩, fin⟩)
end
variable [TC : TabsC]
def keyD : Key → D
  | .inl i => .int i
  | .inr s => .str s
def keyDs (k : List Key) : D := .tup (k.map keyD)
def iKeysL (a : ME) : MIt := fun env st => (a env st).bind fun x st => match x with
  | .ref l => (match st[l]? with
    | some (.dicL kvs) => .ok (.lock l kvs (kvs.map fun kv => keyDs kv.1)) st
    | some (.dicF kvs) => .ok (.lockF l kvs (kvs.map fun kv => keyD kv.1)) st
    | _ => .stuck)
  | _ => .stuck
def iValsL (a : ME) : MIt := fun env st => (a env st).bind fun x st => match x with
  | .ref l => (match st[l]? with
    | some (.dicL kvs) => .ok (.lock l kvs (kvs.map (·.2))) st
    | some (.dicF kvs) => .ok (.lockF l kvs (kvs.map (·.2))) st
    | _ => .stuck)
  | _ => .stuck
def iItemsL (a : ME) : MIt := fun env st => (a env st).bind fun x st => match x with
  | .ref l => (match st[l]? with
    | some (.dicF kvs) => .ok (.lockF l kvs (kvs.map fun kv => .tup [keyD kv.1, kv.2])) st
    | _ => .stuck)
  | _ => .stuck
def unlkF (l : Nat) (st : Sto) (f : Sto → α) (z : α) : α := match st[l]? with
  | some (.dicF kvs) => f (st.set l (.dic kvs))
  | _ => z
def unlk (l : Nat) (st : Sto) (f : Sto → α) (z : α) : α := match st[l]? with
  | some (.dicL kvs) => f (st.set l (.dicT kvs))
  | _ => z
def mLock (i : Nat) (m : ME) : ME := fun env st => match env[i]? with
  | some (some (.ref l)) => (match st[l]? with
    | some (.dicT kvs) => (match m env (st.set l (.dicL kvs)) with
      | .ok d st' => unlk l st' (.ok d) .stuck
      | _ => .stuck)
    | some (.dicL _) => m env st
    | some (.dic kvs) => (match m env (st.set l (.dicF kvs)) with
      | .ok d st' => unlkF l st' (.ok d) .stuck
      | _ => .stuck)
    | some (.dicF _) => m env st
    | _ => .stuck)
  | _ => .stuck
def sLock (i : Nat) (m : MS) : MS := fun env st => match env[i]? with
  | some (some (.ref l)) => (match st[l]? with
    | some (.dicT kvs) => (match m env (st.set l (.dicL kvs)) with
      | .nx e st' => unlk l st' (.nx e) .stuck
      | .rt d st' => unlk l st' (.rt d) .stuck
      | _ => .stuck)
    | some (.dicL _) => m env st
    | some (.dic kvs) => (match m env (st.set l (.dicF kvs)) with
      | .nx e st' => unlkF l st' (.nx e) .stuck
      | .rt d st' => unlkF l st' (.rt d) .stuck
      | _ => .stuck)
    | some (.dicF _) => m env st
    | _ => .stuck)
  | _ => .stuck
section
variable {K : PySem.W.Frag} {rho rho' : Rho} {H H' : Hp} {st st' : Sto}
theorem keyD_rel (k : Key) : RelD K rho H (keyD k) (kV k) := by
  cases k with
  | inl i => exact .int i
  | inr s => exact .str s
theorem keyDs_rel : ∀ k : List Key, RelDs K rho H (k.map keyD) (k.map kV)
  | [] => .nil
  | k :: ks => .cons (keyD_rel k) (keyDs_rel ks)
theorem map1_get {kvs : List (List Key × D)} {ks : List (List Key × V)} (h : kvs.map (·.1) = ks.map (·.1)) {i : Nat} {p : List Key × D} (e : kvs[i]? = some p) : ∃ v, ks[i]? = some (p.1, v) := by
  have h2 : (ks.map (·.1))[i]? = some p.1 := by rw [← h, List.getElem?_map, e]; rfl
  rw [List.getElem?_map] at h2
  obtain ⟨q, h3, h4⟩ := Option.map_eq_some_iff.mp h2
  exact ⟨q.2, by rw [h3, ← h4]⟩
theorem it_keysL {d : Addr} {o : Obj} {l : Nat} {kvs : List (List Key × D)} {ks : List (List Key × V)} (hk : kvs.map (·.1) = ks.map (·.1)) : ItOk K (Itkt d o ks) (.lock l kvs (kvs.map fun kv => keyDs kv.1)) (fun rho H => H d = some (.frz o (.dT ks))) where
  stab := fun rho H rho' H' p e => e.frz _ _ _ p
  go := fun i x rho st H w p hs hd => by
    have hl : (kvs.map fun kv => keyDs kv.1)[i]? = some x := hd
    rw [List.getElem?_map] at hl
    obtain ⟨q, h1, rfl⟩ := Option.map_eq_some_iff.mp hl
    obtain ⟨v, hv⟩ := map1_get hk h1
    exact ⟨p, (List.getElem?_eq_some_iff.mp hv).1⟩
  yld := fun i x rho st H y H' w p hs hd yl => by
    obtain ⟨rfl, k, v, q, hkv, rfl, hq⟩ := yl
    have hl : (kvs.map fun kv => keyDs kv.1)[i]? = some x := hd
    rw [List.getElem?_map] at hl
    obtain ⟨z, h1, rfl⟩ := Option.map_eq_some_iff.mp hl
    obtain ⟨v', hv⟩ := map1_get hk h1
    rw [hkv] at hv
    cases hv
    exact ⟨Ext.refl _ _, w, .tup (.inl (.inl hq)) (keyDs_rel _) fun _ => hq⟩
  stop := fun i rho st H w p hs hi => by
    refine ⟨p, ?_⟩
    have h2 : kvs.length = ks.length := by simpa using congrArg List.length hk
    have h3 : (kvs.map fun kv => keyDs kv.1).length ≤ i := hi
    rw [List.length_map] at h3
    omega
  hide := fun rho H p xs q h => by rw [upd_ne (ne_of_none q h)]; exact q
  grow := fun rho H p xs ys hp h q => by rw [upd_ne (fun z => by subst z; rw [h] at q; cases q)]; exact q
theorem relDs_at2 {kvs : List (List Key × D)} {ks : List (List Key × V)} (r : RelDs K rho H (kvs.map (·.2)) (ks.map (·.2))) {i : Nat} {d : D} {k : List Key} {x : V} (h1 : (kvs.map (·.2))[i]? = some d) (h2 : ks[i]? = some (k, x)) : RelD K rho H d x := by
  obtain ⟨v, hv, rv⟩ := r.get h1
  rw [List.getElem?_map, h2] at hv
  cases hv
  exact rv
theorem it_valsL {d : Addr} {o : Obj} {l : Nat} {kvs : List (List Key × D)} {ks : List (List Key × V)} : ItOk K (Itvt d o ks) (.lock l kvs (kvs.map (·.2))) (fun rho H => rho.loc[l]? = some d ∧ H d = some (.frz o (.dT ks))) where
  stab := fun rho H rho' H' p e => ⟨e.get p.1, e.frz _ _ _ p.2⟩
  go := fun i x rho st H w p hs hd => by
    obtain ⟨o', ks', h1, h2, h3⟩ := w.obj l d _ p.1 hs
    rw [p.2] at h1
    cases h1
    obtain ⟨v, hv, _⟩ := h3.get hd
    exact ⟨p.2, by simpa using (List.getElem?_eq_some_iff.mp hv).1⟩
  yld := fun i x rho st H y H' w p hs hd yl => by
    obtain ⟨rfl, k, hkv⟩ := yl
    obtain ⟨o', ks', h1, h2, h3⟩ := w.obj l d _ p.1 hs
    rw [p.2] at h1
    cases h1
    exact ⟨Ext.refl _ _, w, relDs_at2 h3 hd hkv⟩
  stop := fun i rho st H w p hs hi => by
    obtain ⟨o', ks', h1, h2, h3⟩ := w.obj l d _ p.1 hs
    rw [p.2] at h1
    cases h1
    refine ⟨p.2, ?_⟩
    have h4 := h3.length
    have h5 : (kvs.map (·.2)).length ≤ i := hi
    simp only [List.length_map] at h4 h5
    omega
  hide := fun rho H p xs q h => ⟨q.1, by rw [upd_ne (ne_of_none q.2 h)]; exact q.2⟩
  grow := fun rho H p xs ys hp h q => ⟨q.1, by rw [upd_ne (fun z => by subst z; rw [h] at q; cases q.2)]; exact q.2⟩
theorem keys_relK {ds : List (Key × D)} {vs : List (Key × V)} (r : RelK K rho H ds vs) {i : Nat} {p : Key × D} (h : ds[i]? = some p) : ∃ v, vs[i]? = some (p.1, v) ∧ RelD K rho H p.2 v := by
  induction i generalizing ds vs with
  | zero =>
    cases r with
    | nil => simp at h
    | cons q t => simp at h; subst h; exact ⟨_, rfl, q⟩
  | succ i ih =>
    cases r with
    | nil => simp at h
    | cons q t =>
      obtain ⟨v, h1, h2⟩ := ih t (by simpa using h)
      exact ⟨v, by simpa using h1, h2⟩
theorem it_F {d : Addr} {o : Obj} {l : Nat} {kvs : List (Key × D)} {ks : List (Key × V)} {J : It} {g : Key × D → D}
    (hgo : ∀ i H, H d = some (.frz o (.dK ks)) → i < ks.length → J.go i H) (hst : ∀ i H, H d = some (.frz o (.dK ks)) → ks.length ≤ i → J.stop i H)
    (hy : ∀ (i : Nat) (rho : Rho) (st : Sto) (H : Hp) (p : Key × D) (v : V) (y : V) (H' : Hp), Wld K rho st H → ks[i]? = some (p.1, v) → RelD K rho H p.2 v → J.yld i H y H' → Ext rho H rho H' ∧ Wld K rho st H' ∧ RelD K rho H' (g p) y) :
    ItOk K J (.lockF l kvs (kvs.map g)) (fun rho H => rho.loc[l]? = some d ∧ H d = some (.frz o (.dK ks))) where
  stab := fun rho H rho' H' p e => ⟨e.get p.1, e.frz _ _ _ p.2⟩
  go := fun i x rho st H w p hs hd => by
    obtain ⟨o', ks', h1, h2⟩ := w.obj l d _ p.1 hs
    rw [p.2] at h1
    cases h1
    have hl : (kvs.map g)[i]? = some x := hd
    rw [List.getElem?_map] at hl
    obtain ⟨q, h3, rfl⟩ := Option.map_eq_some_iff.mp hl
    obtain ⟨v, hv, _⟩ := keys_relK h2 h3
    exact hgo i H p.2 (List.getElem?_eq_some_iff.mp hv).1
  yld := fun i x rho st H y H' w p hs hd yl => by
    obtain ⟨o', ks', h1, h2⟩ := w.obj l d _ p.1 hs
    rw [p.2] at h1
    cases h1
    have hl : (kvs.map g)[i]? = some x := hd
    rw [List.getElem?_map] at hl
    obtain ⟨q, h3, rfl⟩ := Option.map_eq_some_iff.mp hl
    obtain ⟨v, hv, rv⟩ := keys_relK h2 h3
    exact hy i rho st H q v y H' w hv rv yl
  stop := fun i rho st H w p hs hi => by
    obtain ⟨o', ks', h1, h2⟩ := w.obj l d _ p.1 hs
    rw [p.2] at h1
    cases h1
    have h4 := h2.length
    have h5 : (kvs.map g).length ≤ i := hi
    rw [List.length_map] at h5
    exact hst i H p.2 (by omega)
  hide := fun rho H p xs q h => ⟨q.1, by rw [upd_ne (ne_of_none q.2 h)]; exact q.2⟩
  grow := fun rho H p xs ys hp h q => ⟨q.1, by rw [upd_ne (fun z => by subst z; rw [h] at q; cases q.2)]; exact q.2⟩
theorem it_keysF {d : Addr} {o : Obj} {l : Nat} {kvs : List (Key × D)} {ks : List (Key × V)} : ItOk K (Itk d o ks) (.lockF l kvs (kvs.map fun kv => keyD kv.1)) (fun rho H => rho.loc[l]? = some d ∧ H d = some (.frz o (.dK ks))) :=
  it_F (fun i H h hi => ⟨h, hi⟩) (fun i H h hi => ⟨h, hi⟩) fun i rho st H p v y H' w hk rv yl => by
    obtain ⟨rfl, k, v', e, rfl⟩ := yl
    rw [hk] at e
    cases e
    exact ⟨Ext.refl _ _, w, keyD_rel _⟩
theorem it_valsF {d : Addr} {o : Obj} {l : Nat} {kvs : List (Key × D)} {ks : List (Key × V)} : ItOk K (Itd d o ks) (.lockF l kvs (kvs.map (·.2))) (fun rho H => rho.loc[l]? = some d ∧ H d = some (.frz o (.dK ks))) :=
  it_F (fun i H h hi => ⟨h, hi⟩) (fun i H h hi => ⟨h, hi⟩) fun i rho st H p v y H' w hk rv yl => by
    obtain ⟨rfl, k, e⟩ := yl
    rw [hk] at e
    cases e
    exact ⟨Ext.refl _ _, w, rv⟩
theorem it_itemsF {d : Addr} {o : Obj} {l : Nat} {kvs : List (Key × D)} {ks : List (Key × V)} : ItOk K (Iti d o ks) (.lockF l kvs (kvs.map fun kv => .tup [keyD kv.1, kv.2])) (fun rho H => rho.loc[l]? = some d ∧ H d = some (.frz o (.dK ks))) :=
  it_F (fun i H h hi => ⟨h, hi⟩) (fun i H h hi => ⟨h, hi⟩) fun i rho st H p v y H' w hk rv yl => by
    obtain ⟨T, k, v', e, rfl, hT, rfl⟩ := yl
    rw [hk] at e
    cases e
    have ex := w.extTmp hT (.tup [kV p.1, v])
    exact ⟨ex, w.tmp hT _, .tup (SqT.of upd_same) (.cons (keyD_rel _) (.cons (rv.ext ex) .nil)) fun _ => upd_same⟩
def Opn (H H' : Hp) : Prop := ∀ b u, H b = some u → (∀ o ks, u ≠ .frz o (.dT ks)) → H' b = some u
mutual
theorem RelD.opn (f : Opn H H') : ∀ {d : D} {v : V}, RelD K rho H d v → RelD K rho H' d v
  | _, _, .non => .non
  | _, _, .bl b => .bl b
  | _, _, .int i => .int i
  | _, _, .str x => .str x
  | _, _, .fn h => .fn h
  | _, _, .tup q r k => .tup (by
      rcases q with (q | ⟨ob, q⟩) | q
      · exact .inl (.inl (f _ _ q (by intro _ _ z; cases z)))
      · exact .inl (.inr ⟨ob, f _ _ q (by intro _ _ z; cases z)⟩)
      · exact .inr q) (RelDs.opn f r) (fun z => f _ _ (k z) (by intro _ _ z; cases z))
  | _, _, .lst q n r => .lst (f _ _ q (by intro _ _ z; cases z)) n (RelDs.opn f r)
  | _, _, .fz q r => .fz (by
      rcases q with ⟨ob, q⟩ | q
      · exact .inl ⟨ob, f _ _ q (by intro _ _ z; cases z)⟩
      · exact .inr q) (RelDs.opn f r)
  | _, _, .dic q n r => .dic (f _ _ q (by intro _ _ z; cases z)) n (RelK.opn f r)
  | _, _, .ref q => .ref q
theorem RelDs.opn (f : Opn H H') : ∀ {ds : List D} {vs : List V}, RelDs K rho H ds vs → RelDs K rho H' ds vs
  | _, _, .nil => .nil
  | _, _, .cons q t => .cons (RelD.opn f q) (RelDs.opn f t)
theorem RelK.opn (f : Opn H H') : ∀ {ds : List (Key × D)} {vs : List (Key × V)}, RelK K rho H ds vs → RelK K rho H' ds vs
  | _, _, .nil => .nil
  | _, _, .cons q t => .cons (RelD.opn f q) (RelK.opn f t)
end
theorem RelEnv.opn (f : Opn H H') {env : DEnv} {sg : L2.St} (r : RelEnv K rho H env sg) : RelEnv K rho H' env sg := ⟨r.len, fun i d h => let ⟨v, h1, h2⟩ := r.at_ i d h; ⟨v, h1, h2.opn f⟩⟩
theorem opn_upd {a : Addr} {o : Obj} {ks : List (List Key × V)} (h : H a = some (.frz o (.dT ks))) : Opn H (upd H a (.dT ks)) := fun b u e n => by
  rw [upd_ne (fun z => by subst z; rw [h] at e; cases e; exact n _ _ rfl)]; exact e
theorem Wld.unlock (w : Wld K rho st H) {l : Nat} {a : Addr} {o : Obj} {ks : List (List Key × V)} {kvs : List (List Key × D)} (ha : rho.loc[l]? = some a) (h : H a = some (.frz o (.dT ks))) (hs : st[l]? = some (.dicL kvs)) : Wld K rho (st.set l (.dicT kvs)) (upd H a (.dT ks)) := by
  have f := opn_upd h
  refine ⟨by simp [w.len], w.nd, fun l' a' u h1 h2 => ?_, w.dis, fun b hb => ?_, tabs_upd w.tab (fun ps z => by rw [h] at z; cases z) (fun φ z => by rw [h] at z; cases z)⟩
  · by_cases e : l' = l
    · subst e
      rw [ha] at h1; cases h1
      obtain ⟨hl, _⟩ := List.getElem?_eq_some_iff.mp hs
      rw [List.getElem?_set_self hl] at h2
      cases h2
      obtain ⟨o', ks', q1, q2, q3⟩ := w.obj l' a _ ha hs
      rw [h] at q1
      cases q1
      exact ⟨ks, upd_same, q2, q3.opn f⟩
    · rw [List.getElem?_set_ne (fun z => e z.symm)] at h2
      have na : a' ≠ a := fun z => by
        subst z
        obtain ⟨hl, e1⟩ := List.getElem?_eq_some_iff.mp ha
        obtain ⟨hl', e2⟩ := List.getElem?_eq_some_iff.mp h1
        exact e ((List.getElem_inj w.nd).mp (e2.trans e1.symm))
      have q := w.obj l' a' u h1 h2
      cases u with
      | lst ds => obtain ⟨vs, q, r⟩ := q; exact ⟨vs, by rw [upd_ne na]; exact q, r.opn f⟩
      | dic ds => obtain ⟨vs, q, r⟩ := q; exact ⟨vs, by rw [upd_ne na]; exact q, r.opn f⟩
      | ins c fs => obtain ⟨vs, C, dx, q, h2, h3, r⟩ := q; exact ⟨vs, C, dx, by rw [upd_ne na]; exact q, h2, h3, r.opn f⟩
      | dicT kvs => obtain ⟨vs, q, h3, r⟩ := q; exact ⟨vs, by rw [upd_ne na]; exact q, h3, r.opn f⟩
      | dicL kvs => obtain ⟨o, vs, q, h3, r⟩ := q; exact ⟨o, vs, by rw [upd_ne na]; exact q, h3, r.opn f⟩
      | dicF kvs => obtain ⟨o, vs, q, r⟩ := q; exact ⟨o, vs, by rw [upd_ne na]; exact q, r.opn f⟩
      | exn c => obtain ⟨o, C, q, r⟩ := q; exact ⟨o, C, by rw [upd_ne na]; exact q, r⟩
  · have nb : b ≠ a := fun z => w.dis a (List.mem_of_getElem? ha) (by rw [← z]; exact hb)
    obtain ⟨ys, e, m⟩ := w.rsv b hb
    exact ⟨ys, by rw [upd_ne nb]; exact e, m⟩
theorem Ext.locked (w : Wld K rho st H) {l : Nat} {a : Addr} {o : Obj} {ks : List (List Key × V)} (ha : rho.loc[l]? = some a) (h : H a = some (.dT ks)) (e : Ext rho (upd H a (.frz o (.dT ks))) rho' H') : Ext rho H rho' (upd H' a (.dT ks)) := by
  have am : a ∈ rho.loc := List.mem_of_getElem? ha
  have ne1 : ∀ b u, H b = some u → b ≠ a → (upd H a (.frz o (.dT ks))) b = some u := fun b u e n => by rw [upd_ne n]; exact e
  refine ⟨?_, e.res, fun b u q n t => ?_, fun b u q n => ?_, fun b xs q => ?_, fun b q u z => ?_, fun b u q => ?_⟩
  · obtain ⟨n, h1, h2⟩ := e.new
    refine ⟨n, h1, fun b hb => ?_⟩
    have h3 := h2 b hb
    by_cases z : b = a
    · subst z; rw [upd_same] at h3; cases h3
    · rwa [upd_ne z] at h3
  · have nb : b ≠ a := fun z => n (by rw [z]; exact .inl am)
    rw [upd_ne nb]; exact e.keep b u (ne1 b u q nb) n t
  · have nb : b ≠ a := fun z => w.dis a am (by rw [← z]; exact n)
    rw [upd_ne nb]; exact e.kres b u (ne1 b u q nb) n
  · have nb : b ≠ a := fun z => by subst z; rw [h] at q; cases q
    rw [upd_ne nb]; exact e.tup b xs (ne1 b _ q nb)
  · have nb : b ≠ a := fun y => by subst y; rw [h] at z; cases z
    rw [upd_ne nb]; exact e.frz b q u (ne1 b _ z nb)
  · by_cases z : b = a
    · subst z; exact ⟨_, upd_same⟩
    · obtain ⟨o', h'⟩ := e.liv b u (ne1 b u q z)
      exact ⟨o', by rw [upd_ne z]; exact h'⟩
def OpnF (H H' : Hp) : Prop := ∀ b u, H b = some u → (∀ o ks, u ≠ .frz o (.dK ks)) → H' b = some u
mutual
theorem RelD.opnF (f : OpnF H H') : ∀ {d : D} {v : V}, RelD K rho H d v → RelD K rho H' d v
  | _, _, .non => .non
  | _, _, .bl b => .bl b
  | _, _, .int i => .int i
  | _, _, .str x => .str x
  | _, _, .fn h => .fn h
  | _, _, .tup q r k => .tup (by
      rcases q with (q | ⟨ob, q⟩) | q
      · exact .inl (.inl (f _ _ q (by intro _ _ z; cases z)))
      · exact .inl (.inr ⟨ob, f _ _ q (by intro _ _ z; cases z)⟩)
      · exact .inr q) (RelDs.opnF f r) (fun z => f _ _ (k z) (by intro _ _ z; cases z))
  | _, _, .lst q n r => .lst (f _ _ q (by intro _ _ z; cases z)) n (RelDs.opnF f r)
  | _, _, .fz q r => .fz (by
      rcases q with ⟨ob, q⟩ | q
      · exact .inl ⟨ob, f _ _ q (by intro _ _ z; cases z)⟩
      · exact .inr q) (RelDs.opnF f r)
  | _, _, .dic q n r => .dic (f _ _ q (by intro _ _ z; cases z)) n (RelK.opnF f r)
  | _, _, .ref q => .ref q
theorem RelDs.opnF (f : OpnF H H') : ∀ {ds : List D} {vs : List V}, RelDs K rho H ds vs → RelDs K rho H' ds vs
  | _, _, .nil => .nil
  | _, _, .cons q t => .cons (RelD.opnF f q) (RelDs.opnF f t)
theorem RelK.opnF (f : OpnF H H') : ∀ {ds : List (Key × D)} {vs : List (Key × V)}, RelK K rho H ds vs → RelK K rho H' ds vs
  | _, _, .nil => .nil
  | _, _, .cons q t => .cons (RelD.opnF f q) (RelK.opnF f t)
end
theorem RelEnv.opnF (f : OpnF H H') {env : DEnv} {sg : L2.St} (r : RelEnv K rho H env sg) : RelEnv K rho H' env sg := ⟨r.len, fun i d h => let ⟨v, h1, h2⟩ := r.at_ i d h; ⟨v, h1, h2.opnF f⟩⟩
theorem opnF_upd {a : Addr} {o : Obj} {ks : List (Key × V)} (h : H a = some (.frz o (.dK ks))) : OpnF H (upd H a (.dK ks)) := fun b u e n => by
  rw [upd_ne (fun z => by subst z; rw [h] at e; cases e; exact n _ _ rfl)]; exact e
theorem Wld.unlockF (w : Wld K rho st H) {l : Nat} {a : Addr} {o : Obj} {ks : List (Key × V)} {kvs : List (Key × D)} (ha : rho.loc[l]? = some a) (h : H a = some (.frz o (.dK ks))) (hs : st[l]? = some (.dicF kvs)) : Wld K rho (st.set l (.dic kvs)) (upd H a (.dK ks)) := by
  have f := opnF_upd h
  refine ⟨by simp [w.len], w.nd, fun l' a' u h1 h2 => ?_, w.dis, fun b hb => ?_, tabs_upd w.tab (fun ps z => by rw [h] at z; cases z) (fun φ z => by rw [h] at z; cases z)⟩
  · by_cases e : l' = l
    · subst e
      rw [ha] at h1; cases h1
      obtain ⟨hl, _⟩ := List.getElem?_eq_some_iff.mp hs
      rw [List.getElem?_set_self hl] at h2
      cases h2
      obtain ⟨o', ks', q1, q3⟩ := w.obj l' a _ ha hs
      rw [h] at q1
      cases q1
      exact ⟨ks, upd_same, q3.opnF f⟩
    · rw [List.getElem?_set_ne (fun z => e z.symm)] at h2
      have na : a' ≠ a := fun z => by
        subst z
        obtain ⟨hl, e1⟩ := List.getElem?_eq_some_iff.mp ha
        obtain ⟨hl', e2⟩ := List.getElem?_eq_some_iff.mp h1
        exact e ((List.getElem_inj w.nd).mp (e2.trans e1.symm))
      have q := w.obj l' a' u h1 h2
      cases u with
      | lst ds => obtain ⟨vs, q, r⟩ := q; exact ⟨vs, by rw [upd_ne na]; exact q, r.opnF f⟩
      | dic ds => obtain ⟨vs, q, r⟩ := q; exact ⟨vs, by rw [upd_ne na]; exact q, r.opnF f⟩
      | ins c fs => obtain ⟨vs, C, dx, q, h2, h3, r⟩ := q; exact ⟨vs, C, dx, by rw [upd_ne na]; exact q, h2, h3, r.opnF f⟩
      | dicT kvs => obtain ⟨vs, q, h3, r⟩ := q; exact ⟨vs, by rw [upd_ne na]; exact q, h3, r.opnF f⟩
      | dicL kvs => obtain ⟨o, vs, q, h3, r⟩ := q; exact ⟨o, vs, by rw [upd_ne na]; exact q, h3, r.opnF f⟩
      | dicF kvs => obtain ⟨o, vs, q, r⟩ := q; exact ⟨o, vs, by rw [upd_ne na]; exact q, r.opnF f⟩
      | exn c => obtain ⟨o, C, q, r⟩ := q; exact ⟨o, C, by rw [upd_ne na]; exact q, r⟩
  · have nb : b ≠ a := fun z => w.dis a (List.mem_of_getElem? ha) (by rw [← z]; exact hb)
    obtain ⟨ys, e, m⟩ := w.rsv b hb
    exact ⟨ys, by rw [upd_ne nb]; exact e, m⟩
theorem Ext.lockedF (w : Wld K rho st H) {l : Nat} {a : Addr} {o : Obj} {ks : List (Key × V)} (ha : rho.loc[l]? = some a) (h : H a = some (.dK ks)) (e : Ext rho (upd H a (.frz o (.dK ks))) rho' H') : Ext rho H rho' (upd H' a (.dK ks)) := by
  have am : a ∈ rho.loc := List.mem_of_getElem? ha
  have ne1 : ∀ b u, H b = some u → b ≠ a → (upd H a (.frz o (.dK ks))) b = some u := fun b u e n => by rw [upd_ne n]; exact e
  refine ⟨?_, e.res, fun b u q n t => ?_, fun b u q n => ?_, fun b xs q => ?_, fun b q u z => ?_, fun b u q => ?_⟩
  · obtain ⟨n, h1, h2⟩ := e.new
    refine ⟨n, h1, fun b hb => ?_⟩
    have h3 := h2 b hb
    by_cases z : b = a
    · subst z; rw [upd_same] at h3; cases h3
    · rwa [upd_ne z] at h3
  · have nb : b ≠ a := fun z => n (by rw [z]; exact .inl am)
    rw [upd_ne nb]; exact e.keep b u (ne1 b u q nb) n t
  · have nb : b ≠ a := fun z => w.dis a am (by rw [← z]; exact n)
    rw [upd_ne nb]; exact e.kres b u (ne1 b u q nb) n
  · have nb : b ≠ a := fun z => by subst z; rw [h] at q; cases q
    rw [upd_ne nb]; exact e.tup b xs (ne1 b _ q nb)
  · have nb : b ≠ a := fun y => by subst y; rw [h] at z; cases z
    rw [upd_ne nb]; exact e.frz b q u (ne1 b _ z nb)
  · by_cases z : b = a
    · subst z; exact ⟨_, upd_same⟩
    · obtain ⟨o', h'⟩ := e.liv b u (ne1 b u q z)
      exact ⟨o', by rw [upd_ne z]; exact h'⟩
end
section
variable {X : Cx} {cls : Nat → Value} {W : WX} {e : Expr} {m : ME}
theorem unlk_ok {α : Type} {l : Nat} {st : Sto} {f : Sto → α} {z : α} {P : α → Prop} (h : P (unlk l st f z)) (hz : ¬ P z) : ∃ kvs, st[l]? = some (.dicL kvs) ∧ P (f (st.set l (.dicT kvs))) := by
  unfold unlk at h
  split at h
  · exact ⟨_, by assumption, h⟩
  · exact (hz h).elim
theorem unlkF_ok {α : Type} {l : Nat} {st : Sto} {f : Sto → α} {z : α} {P : α → Prop} (h : P (unlkF l st f z)) (hz : ¬ P z) : ∃ kvs, st[l]? = some (.dicF kvs) ∧ P (f (st.set l (.dic kvs))) := by
  unfold unlkF at h
  split at h
  · exact ⟨_, by assumption, h⟩
  · exact (hz h).elim
theorem pe_lockM {i : Nat} (h : PE X e (tE X.K cls W m)) : PE X e (tE X.K cls W (mLock i m)) := by
  refine PE.weak (PE.or h (pe_lock h)) fun sg H Q hq => ?_
  obtain ⟨rho, env, st, w, re, hq⟩ := hq
  unfold mLock at hq
  split at hq
  · rename_i l hi
    split at hq
    · rename_i kvs hl
      obtain ⟨v, hv, rv⟩ := re.at_ i _ hi
      obtain ⟨a, ks, rfl, ha, h1, h2, h3⟩ := ref_dicT w rv hl
      have mu : Mut (H a) := by rw [h1]; trivial
      refine .inr ⟨a, .dT ks, h1, trivial, fun od => ?_⟩
      have e0 := w.extSet ha (.frz od (.dT ks)) mu
      refine ⟨rho, env, st.set l (.dicL kvs), w.set ha mu ⟨od, ks, upd_same, h2, h3.ext e0⟩, re.ext e0, ?_⟩
      cases q : m env (st.set l (.dicL kvs)) with
      | stuck => rw [q] at hq; exact hq.elim
      | exc c st1 => rw [q] at hq; exact hq.elim
      | ok d st1 =>
        rw [q] at hq
        intro rho' H' e1 w1 v rv
        have hf : H' a = some (.frz od (.dT ks)) := e1.frz _ _ _ upd_same
        obtain ⟨kvs', hl', hq⟩ := unlk_ok (P := fun r => OkR X.K cls W sg rho H r (VQ X.K Q)) hq (fun z => z)
        exact ⟨hf, hq rho' _ (Ext.locked w ha h1 e1) (w1.unlock (e1.get ha) hf hl') v (rv.opn (opn_upd hf))⟩
    · exact .inl ⟨rho, env, st, w, re, hq⟩
    · rename_i kvs hl
      obtain ⟨v, hv, rv⟩ := re.at_ i _ hi
      obtain ⟨a, ks, rfl, ha, h1, h3⟩ := ref_dic w rv hl
      have mu : Mut (H a) := by rw [h1]; trivial
      refine .inr ⟨a, .dK ks, h1, trivial, fun od => ?_⟩
      have e0 := w.extSet ha (.frz od (.dK ks)) mu
      refine ⟨rho, env, st.set l (.dicF kvs), w.set ha mu ⟨od, ks, upd_same, h3.ext e0⟩, re.ext e0, ?_⟩
      cases q : m env (st.set l (.dicF kvs)) with
      | stuck => rw [q] at hq; exact hq.elim
      | exc c st1 => rw [q] at hq; exact hq.elim
      | ok d st1 =>
        rw [q] at hq
        intro rho' H' e1 w1 v rv
        have hf : H' a = some (.frz od (.dK ks)) := e1.frz _ _ _ upd_same
        obtain ⟨kvs', hl', hq⟩ := unlkF_ok (P := fun r => OkR X.K cls W sg rho H r (VQ X.K Q)) hq (fun z => z)
        exact ⟨hf, hq rho' _ (Ext.lockedF w ha h1 e1) (w1.unlockF (e1.get ha) hf hl') v (rv.opnF (opnF_upd hf))⟩
    · exact .inl ⟨rho, env, st, w, re, hq⟩
    · exact hq.elim
  · exact hq.elim
theorem ps_orL {s : Stmt} {t t' : TS} (h : PS X s t) (h' : PS X s t') : PS X s (fun E sg H => t E sg H ∨ t' E sg H) := ⟨fun pins sh sg H E I q => q.elim (h.run pins sh sg H E I) (h'.run pins sh sg H E I)⟩
theorem ps_lockM {s : Stmt} {b : MS} {i : Nat} (h : PS X s (tS X.K cls W b)) : PS X s (tS X.K cls W (sLock i b)) := by
  refine PS.weak (ps_orL h (ps_lock h)) fun E sg H hq => ?_
  obtain ⟨rho, env, st, w, re, hq⟩ := hq
  unfold sLock at hq
  split at hq
  · rename_i l hi
    split at hq
    · rename_i kvs hl
      obtain ⟨v, hv, rv⟩ := re.at_ i _ hi
      obtain ⟨a, ks, rfl, ha, h1, h2, h3⟩ := ref_dicT w rv hl
      have mu : Mut (H a) := by rw [h1]; trivial
      refine .inr ⟨a, .dT ks, h1, trivial, fun od => ?_⟩
      have e0 := w.extSet ha (.frz od (.dT ks)) mu
      refine ⟨rho, env, st.set l (.dicL kvs), w.set ha mu ⟨od, ks, upd_same, h2, h3.ext e0⟩, re.ext e0, ?_⟩
      cases q : b env (st.set l (.dicL kvs)) with
      | stuck => rw [q] at hq; exact hq.elim
      | exc c e1 st1 => rw [q] at hq; exact hq.elim
      | bk e1 st1 => rw [q] at hq; exact hq.elim
      | ct e1 st1 => rw [q] at hq; exact hq.elim
      | nx env1 st1 =>
        rw [q] at hq
        intro sg1 rho' H' e1 w1 re1
        have hf : H' a = some (.frz od (.dT ks)) := e1.frz _ _ _ upd_same
        obtain ⟨kvs', hl', hq⟩ := unlk_ok (P := fun r => OkS X.K cls W rho H r E) hq (fun z => z)
        exact ⟨hf, hq sg1 rho' _ (Ext.locked w ha h1 e1) (w1.unlock (e1.get ha) hf hl') (re1.opn (opn_upd hf))⟩
      | rt d st1 =>
        rw [q] at hq
        intro v rho' H' e1 w1 rv
        have hf : H' a = some (.frz od (.dT ks)) := e1.frz _ _ _ upd_same
        obtain ⟨kvs', hl', hq⟩ := unlk_ok (P := fun r => OkS X.K cls W rho H r E) hq (fun z => z)
        exact ⟨hf, hq v rho' _ (Ext.locked w ha h1 e1) (w1.unlock (e1.get ha) hf hl') (rv.opn (opn_upd hf))⟩
    · exact .inl ⟨rho, env, st, w, re, hq⟩
    · rename_i kvs hl
      obtain ⟨v, hv, rv⟩ := re.at_ i _ hi
      obtain ⟨a, ks, rfl, ha, h1, h3⟩ := ref_dic w rv hl
      have mu : Mut (H a) := by rw [h1]; trivial
      refine .inr ⟨a, .dK ks, h1, trivial, fun od => ?_⟩
      have e0 := w.extSet ha (.frz od (.dK ks)) mu
      refine ⟨rho, env, st.set l (.dicF kvs), w.set ha mu ⟨od, ks, upd_same, h3.ext e0⟩, re.ext e0, ?_⟩
      cases q : b env (st.set l (.dicF kvs)) with
      | stuck => rw [q] at hq; exact hq.elim
      | exc c e1 st1 => rw [q] at hq; exact hq.elim
      | bk e1 st1 => rw [q] at hq; exact hq.elim
      | ct e1 st1 => rw [q] at hq; exact hq.elim
      | nx env1 st1 =>
        rw [q] at hq
        intro sg1 rho' H' e1 w1 re1
        have hf : H' a = some (.frz od (.dK ks)) := e1.frz _ _ _ upd_same
        obtain ⟨kvs', hl', hq⟩ := unlkF_ok (P := fun r => OkS X.K cls W rho H r E) hq (fun z => z)
        exact ⟨hf, hq sg1 rho' _ (Ext.lockedF w ha h1 e1) (w1.unlockF (e1.get ha) hf hl') (re1.opnF (opnF_upd hf))⟩
      | rt d st1 =>
        rw [q] at hq
        intro v rho' H' e1 w1 rv
        have hf : H' a = some (.frz od (.dK ks)) := e1.frz _ _ _ upd_same
        obtain ⟨kvs', hl', hq⟩ := unlkF_ok (P := fun r => OkS X.K cls W rho H r E) hq (fun z => z)
        exact ⟨hf, hq v rho' _ (Ext.lockedF w ha h1 e1) (w1.unlockF (e1.get ha) hf hl') (rv.opnF (opnF_upd hf))⟩
    · exact .inl ⟨rho, env, st, w, re, hq⟩
    · exact hq.elim
  · exact hq.elim
theorem pi_keysLM {tg : Expr} {apos cpos : Pos} (hb : noCall e = true) (hl : (apos.endLine == cpos.line) = true) (h : PE X e (tE X.K cls W m)) : PI X tg (.Call (.Attribute e "keys" apos) [] [] cpos) (tIm X.K cls W (iKeysL m)) := by
  refine PI.weak (PI.or (pi_keysT h (base_ok hb) hl) (pi_keysM h (base_ok hb) hl)) fun sg H R hq => ?_
  obtain ⟨rho, env, st, w, re, hq⟩ := hq
  cases qm : m env st with
  | exc c st1 =>
    rw [iKeysL, qm] at hq
    exact .inl ⟨rho, env, st, w, re, by rw [qm]; exact hq⟩
  | stuck =>
    rw [iKeysL, qm] at hq
    exact hq.elim
  | ok d st1 =>
    rw [iKeysL, qm] at hq
    simp only [MI.R.bind_ok] at hq
    split at hq
    · split at hq
      · rename_i kvs hl
        refine .inl ⟨rho, env, st, w, re, ?_⟩
        rw [qm]
        intro rho1 H1 e1 w1 v rv
        obtain ⟨a, o, ks, rfl, ha, q1, q2, q3⟩ := ref_dicL w1 rv hl
        exact ⟨a, o, ks, rfl, q1, hq rho1 H1 e1 w1 _ _ (it_keysL q2) q1 hl⟩
      · rename_i kvs hl
        refine .inr ⟨rho, env, st, w, re, ?_⟩
        rw [qm]
        intro rho1 H1 e1 w1 v rv
        obtain ⟨a, o, ks, rfl, ha, q1, q2⟩ := ref_dicF w1 rv hl
        exact ⟨a, o, ks, rfl, q1, hq rho1 H1 e1 w1 _ _ it_keysF ⟨ha, q1⟩ hl⟩
      · exact hq.elim
    · exact hq.elim
theorem pi_valsLM {tg : Expr} {apos cpos : Pos} (hb : noCall e = true) (hl : (apos.endLine == cpos.line) = true) (h : PE X e (tE X.K cls W m)) : PI X tg (.Call (.Attribute e "values" apos) [] [] cpos) (tIm X.K cls W (iValsL m)) := by
  refine PI.weak (PI.or (pi_valsT h (base_ok hb) hl) (pi_values h (base_ok hb) hl)) fun sg H R hq => ?_
  obtain ⟨rho, env, st, w, re, hq⟩ := hq
  cases qm : m env st with
  | exc c st1 =>
    rw [iValsL, qm] at hq
    exact .inl ⟨rho, env, st, w, re, by rw [qm]; exact hq⟩
  | stuck =>
    rw [iValsL, qm] at hq
    exact hq.elim
  | ok d st1 =>
    rw [iValsL, qm] at hq
    simp only [MI.R.bind_ok] at hq
    split at hq
    · split at hq
      · rename_i kvs hl
        refine .inl ⟨rho, env, st, w, re, ?_⟩
        rw [qm]
        intro rho1 H1 e1 w1 v rv
        obtain ⟨a, o, ks, rfl, ha, q1, q2, q3⟩ := ref_dicL w1 rv hl
        exact ⟨a, o, ks, rfl, q1, hq rho1 H1 e1 w1 _ _ it_valsL ⟨ha, q1⟩ hl⟩
      · rename_i kvs hl
        refine .inr ⟨rho, env, st, w, re, ?_⟩
        rw [qm]
        intro rho1 H1 e1 w1 v rv
        obtain ⟨a, o, ks, rfl, ha, q1, q2⟩ := ref_dicF w1 rv hl
        exact ⟨a, o, ks, rfl, q1, hq rho1 H1 e1 w1 _ _ it_valsF ⟨ha, q1⟩ hl⟩
      · exact hq.elim
    · exact hq.elim
theorem pi_itemsLM {elts : List Expr} {kk : Nat} {tpos : Pos} {apos cpos : Pos} (hb : noCall e = true) (hl : (apos.endLine == cpos.line) = true) (h : PE X e (tE X.K cls W m)) : PI X (.Tuple elts kk tpos) (.Call (.Attribute e "items" apos) [] [] cpos) (tIm X.K cls W (iItemsL m)) := by
  refine PI.weak (pi_items h (base_ok hb) hl) fun sg H R hq => ?_
  obtain ⟨rho, env, st, w, re, hq⟩ := hq
  refine ⟨rho, env, st, w, re, OkR.mono (OkR.bind hq) fun d st1 rho1 H1 e1 w1 h1 v rv => ?_⟩
  split at h1
  · split at h1
    · rename_i kvs hl
      obtain ⟨a, o, ks, rfl, ha, q1, q2⟩ := ref_dicF w1 rv hl
      exact ⟨a, o, ks, rfl, q1, h1 rho1 H1 (Ext.refl _ _) w1 _ _ it_itemsF ⟨ha, q1⟩ hl⟩
    · exact h1.elim
  · exact h1.elim
end
end MI
namespace MI
open PySem PySem.Spec PyProof.Rows L2
variable [TC : TabsC]
section
variable {prog : Program} {w : World} {A : Around} {E : Value → Shared → Prop} {s : Shared}
theorem owner_dk : Manifest.owners.lookup (String.ofList ['s', 'y', 'e', 'k', '_', 't', 'c', 'i', 'd'].reverse) = some Manifest.sig_dict_keys := by kernel_rfl
theorem slot_dk_len : Slot "dict_keys" "__len__" "dict_keys.__len__" :=
  .of (owner := "dict_keys") (n := "__len__") (by rw [typeLookup_type, builtinLookup_eq_fast]; kernel_rfl) (by decide +kernel) (by decide +kernel) (by decide +kernel)
    (by first | exact .inl (by decide +kernel) | exact .inr (by decide +kernel)) (by rw [isSubtype_type]; kernel_rfl)
theorem args_dk_len (a : Value) : argsOk "dict_keys.__len__" ⟨[a], []⟩ := by
  unfold argsOk; rw [signature?_of (id := "dict_keys.__len__") (n := ['_', '_', 'n', 'e', 'l', '_', '_']) (o := ['s', 'y', 'e', 'k', '_', 't', 'c', 'i', 'd']) (by kernel_rfl) owner_dk]; kernel_rfl
theorem entry_dk_len : entryFor table "dict_keys.__len__" = some Builtin.«dict_items.__len__» := entryFor_alias (id' := "dict_items.__len__") (by kernel_rfl) rfl (by decide +kernel) (by kernel_rfl)
theorem meets_dk_len (v d : Addr) : MeetsIn prog w (Builtin.«dict_items.__len__» ⟨[.ref v], []⟩) (fun _ R s => ∃ es ep, PySem.W.KdlKeysView s.heap v d ∧ s.heap.DictRaw d es ep ∧ R (.ok (.ret (.int es.size s.toks))) { s with toks := s.toks + 1 }) :=
  .of_wp fun A R s ⟨es, ep, hv, hm, h⟩ => by
    obtain ⟨ov, hov, hcv, hdv⟩ := id hv
    obtain ⟨o, ho, hc, hdat⟩ := id hm
    unfold Builtin.«dict_items.__len__»
    refine wpAny_bind (wpAny_pure ?_)
    refine wpAny_bind ?_
    unfold Builtin.Dict_items.dictOf
    refine wpAny_bind (wpAny_field hov hdv (x := .ref d) rfl (wpAny_pure ?_))
    refine wpAny_bind (wpAny_dictEntries ho hdat ?_)
    unfold retInt
    exact wpAny_bind (wpAny_mkInt (wpAny_pure ⟨_, rfl, h⟩))
theorem call_len_dk {v d : Addr} {es : Array DictEntry} {ep : Nat} {Q : Value → Shared → Prop} (hv : PySem.W.KdlKeysView s.heap v d) (hm : s.heap.DictRaw d es ep) (hfit : (es.size : Int) < 2 ^ 63)
    (h : Q (.int es.size (s.toks + 1)) { s with toks := s.toks + 1 + 1 }) : wpAny (model prog w) A (call (.builtin "len") [.ref v]) Q E s := by
  refine Calls.call_function_entry kind_len plain_len entry_len (args_len1 _) ?_
  have hT : s.TypeIs (.ref v) "dict_keys" := by
    obtain ⟨ov, hov, hcv, hdv⟩ := id hv
    exact ⟨ov, hov, hcv⟩
  unfold Builtin.«len»
  refine wpAny_bind (m := oneArg "len" _) (wpAny_pure ?_)
  refine wpAny_bind (m := callSpecial? (.ref v) (Str.ofString "__len__")) (wpAny_callSpecial?_slot (name := Str.ofString "__len__") hT slot_dk_len
    (call_meetsIn slot_dk_len hT entry_dk_len (args_dk_len _) (meets_dk_len v d) ⟨es, ep, hv, hm, ?_⟩))
  show wpAny _ _ _ _ _ { s with toks := s.toks + 1 }
  refine wpAny_bind (wpAny_holding (wpAny_pure ?_))
  refine wpAny_bind (wpAny_letGo ?_)
  show wpAny _ _ (if ((es.size : Nat) : Int) < 0 then _ else _) _ _ _
  rw [if_neg (by omega)]
  show wpAny _ _ (if ((es.size : Nat) : Int) ≥ 2 ^ 63 then _ else _) _ _ _
  rw [if_neg (by omega)]
  exact wpAny_bind (wpAny_mkInt (wpAny_pure ⟨_, rfl, h⟩))
end
section
variable {X : Cx} {a o e : Expr} {ta td ty : TE} {pos p apos cpos : Pos}
theorem dt_raw {pins : List (Addr × Obj)} {σ : L2.St} {H : Hp} {s : Shared} {d : Addr} {kvs : List (List Key × V)} (I : Inv X pins σ H s) (h : Rd H d (.dT kvs)) : (d == sysModules) = false ∧ kvs.length ≤ sizeLine ∧ ∃ es ep, s.heap.DictRaw d es ep ∧ es.size = kvs.length := by
  rcases h with h | ⟨ob, h⟩
  · obtain ⟨z, hs, xs, pr, o', es, ep, ho, hx, hdt, he, _⟩ := I.hok d _ h
    refine ⟨hs, z, es, ep, ⟨o', ho, hx, hdt⟩, ?_⟩
    have l1 : es.size = xs.length := size_of_entries he
    have l2 : kvs.length = xs.length := Paired.length pr
    omega
  · obtain ⟨hd, z, hs, xs, pr, o', es, ep, ho, hx, hdt, he, _⟩ := I.hok d _ h
    refine ⟨hs, z, es, ep, ⟨o', ho, hx, hdt⟩, ?_⟩
    have l1 : es.size = xs.length := size_of_entries he
    have l2 : kvs.length = xs.length := Paired.length pr
    omega
theorem pe_lenKeys (hg : Gl X "len") (hm : X.mg "len" = none) (ha : PE X a ta) (hbase : attributeBase a "keys" X.env (eval a X.env) = eval a X.env) (hline : (apos.endLine == cpos.line) = true) :
    PE X (.Call (.Name "len" p) [.Call (.Attribute a "keys" apos) [] [] cpos] [] pos) (fun sg H Q => ta sg H fun x H1 => ∃ (d : Addr) (kvs : List (List Key × V)), x = .ref d ∧ Rd H1 d (.dT kvs) ∧ Q (.int kvs.length) H1) := by
  refine ⟨fun pins s σ H Q I h => ?_⟩
  refine Call_ (ld_blt I hg hm boot_len ?_)
  refine PyProof.Rows.callWith_builtin1 (PyProof.Rows.args_cons ?_ (star_plain rfl)) (star_plain rfl) rfl
  refine wpAny_Call_method (T := "dict") (id := "dict.keys") hbase rfl hline F.plainAttrs_dict F.slot_dict_keys F.type_dict_keys (thn (ha.run pins s σ H _ I h) fun u s1 ⟨x, H1, I1, rx, d, kvs, ex, hd, q⟩ => ?_)
  subst ex
  obtain rfl : u = Value.ref d := rx
  obtain ⟨hs, z, es, ep, hraw, hsz⟩ := dt_raw I1 hd
  refine ⟨hraw.typeIs, ?_, ?_⟩
  · intro a e; cases e; obtain ⟨o, ho, hx, _⟩ := id hraw; exact ⟨o, ho, hx.2.1⟩
  have I2 : Inv X pins σ H1 { s1 with heap := s1.heap.push { cls := .type "dict_keys", data := .fields #[.ref d] } } := I1.kept (t' := s1.toks) fun b ob q => Heap.get?_push_of_some _ q
  show wpAny _ _ (callWith cpos (.builtin "dict.keys") [.ref d] [] []) _ X.xe s1
  refine method_meetsIn F.slot_dict_keys F.entry_dict_keys rfl (PySem.evalArgs_none ⟨rfl, hraw.typeIs, F.args_dict_keys_1 _, _, meets_dict_keys_raw d hs, ⟨es, ep, hraw⟩, ?_⟩)
  refine PyProof.Rows.args_nil ?_
  refine call_len_dk (d := d) (es := es) (ep := ep) ⟨_, Heap.get?_push_size _ rfl, rfl, rfl⟩ (hraw.at fun ob q => Heap.get?_push_of_some _ q) (by rw [sizeLine_eq] at z; omega) ?_
  refine ⟨.int kvs.length, H1, I2.tok _, ⟨_, by rw [hsz]⟩, q⟩
theorem pe_dpopT (hu : X.A.units + 1 < cLine) (ho : PE X o td) (he : PE X e ty) (m : M1 X o "pop" apos e cpos) : PE X (.Call (.Attribute o "pop" apos) [e] [] cpos) (fun sg H Q => td sg H fun x H1 => ∃ a, x = .ref a ∧ IsD H1 a ∧ ty sg H1 fun y H2 => ∃ (kvs : List (List Key × V)) (k : List Key) (b : Addr) (v : V), H2 a = some (.dT kvs) ∧ y = .ref b ∧ H2 b = some (.tup (k.map kV)) ∧ valV kvs k = some v ∧ Q v (upd H2 a (.dT (dropK kvs k)))) := by
  refine ⟨fun pins s σ H Q I h => ?_⟩
  refine wpAny_Call_method m.base m.few m.line PySem.F.plainAttrs_dict PySem.F.slot_dict_pop PySem.F.type_dict_pop (thn (ho.run pins s σ H _ I h) fun u s1 ⟨x, H1, I1, rx, a, ex, d, q1⟩ => ?_)
  subst ex
  obtain rfl : u = Value.ref a := rx
  obtain ⟨t1, t2, _⟩ := isD_at I1 d
  refine ⟨t1, t2, ?_⟩
  rw [m.trees]
  refine Calls.callWith_builtin rfl (Calls.evalArgs_plain (Calls.spliced_cons (thn (he.run pins s1 σ H1 _ I1 q1) fun iv s2 ⟨y, H2, I2, ry, kvs, k, b, v, ha, ey, hb, l, q2⟩ => Calls.spliced_nil ?_)))
  subst ey
  cases ry
  obtain ⟨z, hd, xs', rel, dd⟩ := dt_of I2.hok ha
  have hz : xs'.length ≤ sizeLine := by rw [← Paired.length rel]; exact z
  have r := rel.val k
  rw [l] at r
  obtain ⟨p, hp, rp⟩ : ∃ p, atKey xs' k = some p ∧ RelV v p.2 := by
    cases ev : atKey xs' k with
    | none =>
      rw [ev] at r
      exact (show False from r).elim
    | some p =>
      rw [ev] at r
      exact ⟨p, rfl, r⟩
  refine call_pop_heap (knd := tupleKind (mixKind X.prog X.w)) (k := k) (more := []) (.inl rfl) (PySem.F.args_dict_pop_2 _ _) (tupleKind_room_in1 hu) (key_of I2.hok hb) hd dd hp (fun h' dd' hs => ?_) hz
  obtain ⟨o, es, ep, hq, h2, h3, h4, _, h5⟩ := dd'
  have I3 : Inv X pins σ (upd H2 a (.dT (dropK kvs k))) { s2 with heap := h', toks := s2.toks + (tupleKind (mixKind X.prog X.w)).draws k } :=
    d_write I2 (by rw [ha]; exact True.intro) hs ⟨o, hq⟩ ⟨Nat.le_trans (dropK_le kvs k) z, hd, _, (L2.DX.KT_drop k rel).keeps (fun c ys ec => (by rw [upd_ne (ne_of ec ha (fun z => nomatch z))]; exact ec)), o, es, ep, hq, h2, h3, h4, h5⟩
  exact ⟨v, _, I3, rp, q2⟩
end
def dropT (kvs : List (List Key × D)) (k : List Key) : List (List Key × D) := kvs.filter fun kv => decide (kv.1 ≠ k)
def dPop (x y : D) (st : Sto) : R D := match x with
  | .ref l => (match st[l]? with
    | some (.dicT kvs) => (match keyTD y with
      | some k => (match ktGet kvs k with
        | some d => .ok d (st.set l (.dicT (dropT kvs k)))
        | none => .stuck)
      | none => .stuck)
    | _ => .stuck)
  | _ => .stuck
def mDPop (o i : ME) : ME := fun env st => (o env st).bind fun x st => if isDicS st x = true then (i env st).bind fun y st => dPop x y st else .stuck
def bLenKeys (ds : List D) (st : Sto) : R D := match ds with
  | [.ref l] => (match st[l]? with
    | some (.dicT kvs) => .ok (.int kvs.length) st
    | some (.dicL kvs) => .ok (.int kvs.length) st
    | _ => .stuck)
  | _ => .stuck
section
variable {X : Cx} {cls : Nat → Value} {W : WX} {pos p apos cpos : Pos} {a o e : Expr} {ma mo me : ME}
theorem pe_lenKeysM (hg : Gl X "len") (hm : X.mg "len" = none) (hb : noCall a = true) (hl : (apos.endLine == cpos.line) = true) (ha : PE X a (tE X.K cls W ma)) :
    PE X (.Call (.Name "len" p) [.Call (.Attribute a "keys" apos) [] [] cpos] [] pos) (tE X.K cls W (mCall bLenKeys [ma])) := by
  refine PE.weak (pe_lenKeys hg hm ha (base_ok hb) hl) fun sg H Q h => ?_
  obtain ⟨rho, env, st, w, re, h⟩ := h
  rw [mCall1] at h
  refine ⟨rho, env, st, w, re, OkR.mono (OkR.bind h) fun d st1 rho1 H1 e1 w1 h1 v rv => ?_⟩
  unfold bLenKeys at h1
  split at h1
  · rename_i l hd
    cases hd
    split at h1
    · rename_i kvs hl
      obtain ⟨a, ks, rfl, ha, q1, q2, q3⟩ := ref_dicT w1 rv hl
      refine ⟨a, ks, rfl, .inl q1, ?_⟩
      have : kvs.length = ks.length := by simpa using congrArg List.length q2
      rw [← this]
      exact ok_here w1 h1 (.int _)
    · rename_i kvs hl
      obtain ⟨a, o, ks, rfl, ha, q1, q2, q3⟩ := ref_dicL w1 rv hl
      refine ⟨a, ks, rfl, .inr ⟨o, q1⟩, ?_⟩
      have : kvs.length = ks.length := by simpa using congrArg List.length q2
      rw [← this]
      exact ok_here w1 h1 (.int _)
    · exact h1.elim
  · exact h1.elim
theorem drop_rel {K : PySem.W.Frag} {rho : Rho} {H : Hp} {k : List Key} : ∀ {kvs : List (List Key × D)} {ks : List (List Key × V)}, kvs.map (·.1) = ks.map (·.1) → RelDs K rho H (kvs.map (·.2)) (ks.map (·.2)) → (dropT kvs k).map (·.1) = (dropK ks k).map (·.1) ∧ RelDs K rho H ((dropT kvs k).map (·.2)) ((dropK ks k).map (·.2))
  | [], [], _, _ => ⟨rfl, .nil⟩
  | p :: kvs, [], h, _ => by simp at h
  | [], q :: ks, h, _ => by simp at h
  | p :: kvs, q :: ks, h, .cons r1 r2 => by
    simp only [List.map_cons, List.cons.injEq] at h
    obtain ⟨i1, i2⟩ := drop_rel (k := k) h.2 r2
    by_cases e : p.1 = k
    · have e2 : q.1 = k := by rw [← h.1]; exact e
      have z1 : dropT (p :: kvs) k = dropT kvs k := List.filter_cons_of_neg (by simp [e])
      have z2 : dropK (q :: ks) k = dropK ks k := List.filter_cons_of_neg (by simp [e2])
      rw [z1, z2]
      exact ⟨i1, i2⟩
    · have e2 : ¬ q.1 = k := by rw [← h.1]; exact e
      have z1 : dropT (p :: kvs) k = p :: dropT kvs k := List.filter_cons_of_pos (by simp [e])
      have z2 : dropK (q :: ks) k = q :: dropK ks k := List.filter_cons_of_pos (by simp [e2])
      rw [z1, z2]
      simp only [List.map_cons]
      exact ⟨by rw [h.1, i1], .cons r1 i2⟩
theorem pe_dpopM (hu : X.A.units + 1 < cLine) (hb : noCall o = true) (hl : (apos.endLine == pos.line) = true) (hp : [e].all plainE = true) (ho : PE X o (tE X.K cls W mo)) (he : PE X e (tE X.K cls W me)) : PE X (.Call (.Attribute o "pop" apos) [e] [] pos) (tE X.K cls W (mDPop mo me)) := by
  have hp' := hp
  simp only [List.all_cons, List.all_nil, Bool.and_true] at hp'
  refine PE.weak (pe_dpopT hu ho he ⟨base_ok hb, few_ok hp (by simp), hl, by unfold backTo; rw [star_plain hp'] <;> rfl⟩) fun sg H Q h => ?_
  obtain ⟨rho, env, st, w, re, h⟩ := h
  refine ⟨rho, env, st, w, re, OkR.mono (OkR.bind h) fun x st1 rho1 H1 e1 w1 h1 v rv => ?_⟩
  split at h1
  · rename_i hd
    obtain ⟨a, rfl, hD⟩ := isDicS_rel w1 rv hd
    refine ⟨a, rfl, hD, rho1, env, st1, w1, re.ext e1, OkR.mono (OkR.bind h1) fun y st2 rho2 H2 e2 w2 h2 u ru => ?_⟩
    unfold dPop at h2
    split at h2
    · split at h2
      · rename_i kvs hl
        obtain ⟨a', ks, ea, ha, q1, q2, q3⟩ := ref_dicT w2 (rv.ext e2) hl
        cases ea
        split at h2
        · rename_i k hk
          obtain ⟨b, rfl, hb⟩ := keyTD_rel ru hk
          split at h2
          · rename_i d hg
            obtain ⟨z, hz, rz⟩ := (ktGet_rel q2 q3).1 d hg
            have mu : Mut (H2 a) := by rw [q1]; trivial
            obtain ⟨p1, p2⟩ := drop_rel (k := k) q2 q3
            exact ⟨ks, k, b, z, q1, rfl, hb, hz, h2 rho2 _ (w2.extSet ha _ mu) (w2.set ha mu ⟨_, upd_same, p1, p2.ext (w2.extSet ha _ mu)⟩) _ (rz.ext (w2.extSet ha _ mu))⟩
          · exact h2.elim
        · exact h2.elim
      · exact h2.elim
    · exact h2.elim
  · exact h1.elim
end
end MI
namespace MI
open PySem PySem.Spec PyProof.Rows L2 PySem.W
section
variable {X : Cx} {pins : List (Addr × Obj)} {σ : L2.St} {H : Hp} {s : Shared}
theorem ints_reads {h : Heap} : ∀ {vs : List Value} {ks : List Int}, EachIs (fun v k => ∃ t, v = Value.int k t) vs ks → EachIs (fun v d => ∃ as, Reads h v d as) vs (ks.map PyData.int)
  | _, _, .nil => .nil
  | _, _, .cons ⟨t, e⟩ r => .cons ⟨[], by rw [e]; exact .int _ _⟩ (ints_reads r)
theorem alike_intz (ks : List Int) : AllAlike (ks.map PyData.int) := fun d hd d' hd' => by
  obtain ⟨_, _, rfl⟩ := List.mem_map.mp hd
  obtain ⟨_, _, rfl⟩ := List.mem_map.mp hd'
  rfl
theorem sortable_ints (ks : List Int) : Sortable (ks.map PyData.int) := .inr fun d hd => by
  obtain ⟨_, _, rfl⟩ := List.mem_map.mp hd
  exact ⟨fun z => (by cases z), fun xs z => (by cases z)⟩
theorem FpOk.fresh {H' : Hp} {b : Addr} (f : FpOk X pins H b) (h : H' b = none) : FpOk X pins H' b := ⟨h, f.2⟩
structure Two (X : Cx) (pins : List (Addr × Obj)) (H : Hp) (s : Shared) (kS a : Addr) (kA : Array Value) (e e1 : Nat) : Prop where
  fk : FpOk X pins H kS
  fa : FpOk X pins H a
  ok : s.heap.get? kS = some (seqObj "list" kA e)
  oa : s.heap.get? a = some (seqObj "list" #[] e1)
  ne : kS ≠ a
theorem seq_nocell {cl : String} {x : Array Value} {n : Nat} : ∀ v, (seqObj cl x n).data ≠ .cell v := fun v z => by cases z
theorem Two.pin {kS a : Addr} {kA : Array Value} {e e1 : Nat} (t : Two X pins H s kS a kA e e1) (I : Inv X pins σ H s) : Inv X (pins ++ pinsAt [kS, a] s.heap) σ H s := by
  refine I.pinned (fun b hb => ?_) (fun b hb => ?_)
  · rcases List.mem_cons.mp hb with z | z
    · rw [z]; exact t.fk
    · rw [List.mem_singleton.mp z]; exact t.fa
  · rcases List.mem_cons.mp hb with z | z
    · rw [z]; exact ⟨_, t.ok, seq_nocell⟩
    · rw [List.mem_singleton.mp z]; exact ⟨_, t.oa, seq_nocell⟩
theorem Two.unpin {H' : Hp} {s' : Shared} {kS a : Addr} {kA : Array Value} {e e1 : Nat} (t : Two X pins H s kS a kA e e1) (I : Inv X (pins ++ pinsAt [kS, a] s.heap) σ H' s') : Inv X pins σ H' s' ∧ Two X pins H' s' kS a kA e e1 := by
  have p1 := I.pin (kS, seqObj "list" kA e) (List.mem_append_right _ (List.mem_append_right _ (mem_pinsAt (by simp) t.ok)))
  have p2 := I.pin (a, seqObj "list" #[] e1) (List.mem_append_right _ (List.mem_append_right _ (mem_pinsAt (by simp) t.oa)))
  exact ⟨I.unpinned, FpOk.fresh t.fk p1.2.1, FpOk.fresh t.fa p2.2.1, p1.1, p2.1, t.ne⟩
variable {f : Value} {G : Hp → Prop}
def KeyTurn (X : Cx) (σ : L2.St) (A : Around) (f : Value) (G : Hp → Prop) (pl : List (Addr × Obj)) (v : Value) (k : Int) : Prop := ∀ (pins : List (Addr × Obj)) (H : Hp) (s : Shared), (∀ p ∈ pl, p ∈ pins) → Inv X pins σ H s → G H →
  wpAny (model X.prog X.w) A (call f [v]) (fun u s' => ∃ H', Inv X pins σ H' s' ∧ G H' ∧ ∃ t, u = Value.int k t) (fun _ _ => False) s
theorem keyI_rest {A : Around} {E : Value → Shared → Prop} {vs : List Value} {ks : List Int} {kS a : Addr} {e1 : Nat} {P : PySem.Fin → Shared → Prop} (I : Inv X pins σ H s) (T : Two X pins H s kS a #[] 0 e1) (g : G H) (hlen : ks.length = vs.length) (hZ : vs.length ≤ sizeLine) (hu : A.units < cLine)
    (turn : ∀ (i : Nat) (v : Value) (k : Int), vs[i]? = some v → ks[i]? = some k → KeyTurn X σ A f G pins v k)
    (h : ∀ H' h' s' tk out c, Inv X pins σ H' s' → G H' → FpOk X pins H' kS → FpOk X pins H' a → kS ≠ a → (∀ b o, b ≠ kS → b ≠ a → s'.heap.get? b = some o → h'.get? b = some o) → h'.get? a = some (seqObj "list" (List.toArray out) c) → KeyedOut false (ks.map PyData.int) vs out → P (.done (.ret .none)) { s' with heap := h', toks := tk }) :
    wpAny (model X.prog X.w) A (ksk_rest a f false vs.toArray e1 (.ref kS)) P E s := by
  unfold ksk_rest
  refine wpAny_bind (wpAny_rule ?_)
  first
    | rw [List.forIn_toArray]
    | (rw [← Array.forIn_toList]; simp only [List.toList_toArray])
    | rw [← Array.forIn_toList]
  refine wpAny_bind (ksk_fold (fun i s' => ∃ H' kA e, Inv X pins σ H' s' ∧ G H' ∧ Two X pins H' s' kS a kA e e1 ∧ EachIs (fun v k => ∃ t, v = Value.int k t) kA.toList (ks.take i)) vs 0 s
    ⟨H, #[], 0, I, g, T, by rw [List.take_zero]; exact EachIs.nil⟩ ?step ?done)
  case step =>
    rintro j x s' hx ⟨H', kA, e, I', g', T', hk⟩
    simp only [Nat.zero_add] at hk ⊢
    have hj : j < vs.length := (List.getElem?_eq_some_iff.mp hx).1
    obtain ⟨k, hkj⟩ : ∃ k, ks[j]? = some k := ⟨_, List.getElem?_eq_getElem (by omega)⟩
    have hz : kA.size ≤ vs.length := by
      have h1 := hk.length
      rw [Array.length_toList, List.length_take] at h1
      omega
    refine wpAny_bind (wpAny_attempt (wpAny_mono (turn j x k hx hkj _ H' s' (fun p hp => List.mem_append_left _ hp) (T'.pin I') g') (fun v s'' he => ?_) fun _ _ hF => hF.elim))
    obtain ⟨H2, I2, g2, t, rfl⟩ := he
    obtain ⟨I3, T3⟩ := T'.unpin I2
    try dsimp only
    have s1 := Heap.SameBut.update s''.heap kS (Obj.mapSeq (·.push (Value.int k t)))
    obtain ⟨c2, hc2⟩ : ∃ c2, (s''.heap.update kS (Obj.mapSeq (·.push (Value.int k t)))).get? kS = some (seqObj "list" (kA.push (Value.int k t)) c2) := ⟨_, get?_update_seq T3.ok (·.push (Value.int k t))⟩
    have ek : ks.take (j + 1) = ks.take j ++ [k] := by rw [List.take_add_one, hkj]; simp
    have ea : (kA.push (Value.int k t)).toList = kA.toList ++ [Value.int k t] := by simp
    refine wpAny_bind (listUpdate_at T3.ok rfl ?_ (Nat.le_trans hz hZ) (Nat.le_trans (Nat.le_of_eq (Array.size_push ..)) (Nat.succ_le_succ (Nat.le_trans hz hZ))))
    obtain ⟨f0, f1, f2, f3, f4, f5⟩ := T3.fk
    refine wpAny_pure ⟨rfl, H2, kA.push (Value.int k t), c2, I3.turned (t' := s''.toks) (fun b o hb e => (s1.2 b hb).trans e) f0 f1 f3 f4 f5, g2, ⟨T3.fk, T3.fa, hc2, (s1.2 a T3.ne.symm).trans T3.oa, T3.ne⟩, ?_⟩
    rw [ea, ek]
    exact each_snoc (R := fun (v : Value) (k : Int) => ∃ t, v = Value.int k t) ⟨t, rfl⟩ hk
  case done =>
    rintro s' ⟨H', kA, e, I', g', T', hk⟩
    have e3 : ks.take (0 + vs.length) = ks := List.take_of_length_le (by omega)
    rw [e3] at hk
    have hsz : kA.size = vs.length := by
      have h1 := hk.length
      rw [Array.length_toList] at h1
      omega
    try dsimp only
    refine wpAny_bind (listItems_at T'.ok rfl ?_)
    have hS : SortsAt X.prog X.w A s' (dataKind s'.heap (ks.map PyData.int)) kA.toList := SortsAt.data (ints_reads hk) (alike_intz ks) (sortable_ints ks) (fun d hd => by
      obtain ⟨i, _, rfl⟩ := List.mem_map.mp hd
      simpa [PyData.depth] using hu)
    refine keyH_end (κ := dataKind s'.heap (ks.map PyData.int)) (h₁ := hideAll s'.heap [kS]) (fun b o hb q => of_hideAll _ q) (hideAll_none _ (by simp)) T'.ok T'.oa T'.ne hS hsz hZ fun h3 tk3 c k3 n3 => ?_
    exact h H' h3 s' tk3 _ c I' g' T'.fk T'.fa T'.ne (fun b o h1 h2 q => k3 b o h2 (hideAll_get _ q (by simpa using h1))) n3 ⟨s'.heap, kA.toList, alike_intz ks, rfl, ints_reads hk⟩
theorem each_vals : ∀ {xs : List V} {us : List Value} (ks : List Int), Vals xs us → ks.length = xs.length → EachIs (fun (v : Value) (b : V × Int) => RelV b.1 v) us (xs.zip ks)
  | _, _, ks, .nil, _ => by simp; exact .nil
  | _, _, [], .cons _ _, h => by simp at h
  | _, _, k :: ks, .cons r t, h => .cons r (each_vals ks t (by simpa using h))
theorem vals_each : ∀ {out : List Value} {bs : List (V × Int)}, EachIs (fun (v : Value) (b : V × Int) => RelV b.1 v) out bs → Vals (bs.map (·.1)) out
  | _, _, .nil => .nil
  | _, _, .cons r t => .cons r (vals_each t)
def byKey {α : Type} (xs : List α) (ks : List Int) : List α := ((xs.zip ks).mergeSort fun a b => decide (a.2 ≤ b.2)).map (·.1)
theorem byKey_len {α : Type} (xs : List α) (ks : List Int) (h : ks.length = xs.length) : (byKey xs ks).length = xs.length := by
  unfold byKey
  rw [List.length_map, List.length_mergeSort, List.length_zip]
  omega
theorem sortKeyI {l q : Addr} {xs : List V} {ks : List Int} {Q : VK} (I : Inv X pins σ H s) (hl : SqL X.K H l xs) (g : G H) (hlen : ks.length = xs.length) (hu : X.A.units + 2 < cLine)
    (turn : ∀ (i : Nat) (x : V) (v : Value) (k : Int), xs[i]? = some x → RelV x v → ks[i]? = some k → KeyTurn X σ X.A.in1.in1 (.ref q) G pins v k)
    (h : ∀ H' p, G H' → H' p = none → Q (.ref p) (upd H' p (.lst (byKey xs ks)))) :
    wpAny (model X.prog X.w) X.A (call (.builtin "sorted") [.ref l] [(Str.ofString "key", .ref q)]) (EP X pins σ Q) X.xe s := by
  obtain ⟨its, rv, pl, hz⟩ := I.list hl
  have lv : xs.length = its.length := rv.length
  refine sorted_of_sort pl.isList (by omega) (ksk_s1 _ _) (fun _ => ksk_l1 _ _) fun E' => ?_
  rw [ksk_t1]
  have ho : (copyHeap s.heap its).get? (s.heap.objs.size + 1) = some (seqObj "list" its.toArray 0) := copyHeap_at s.heap its
  have hN : H (s.heap.objs.size + 1) = none := I.hok.fresh (Nat.le_succ _)
  have I1 : Inv X pins σ H { s with heap := copyHeap s.heap its } := I.kept (t' := s.toks) fun b o e => copyHeap_old e
  have F1 : FpOk X pins H (s.heap.objs.size + 1) := I.fpOk (Nat.le_succ _) hN
  generalize hs1 : ({ s with heap := copyHeap s.heap its } : Shared) = s1 at I1
  have ho1 : s1.heap.get? (s.heap.objs.size + 1) = some (seqObj "list" its.toArray 0) := by subst hs1; exact ho
  generalize s.heap.objs.size + 1 = a at ho1 F1 hN ⊢
  have ha : a < s1.heap.objs.size := Heap.lt_size ho1
  obtain ⟨e1, ho2⟩ : ∃ e1, (s1.heap.update a (Obj.mapSeq fun _ => (#[] : Array Value))).get? a = some (seqObj "list" #[] e1) := ⟨_, get?_update_seq ho1 fun _ => #[]⟩
  have hkS : ((s1.heap.update a (Obj.mapSeq fun _ => (#[] : Array Value))).push (seqObj "tuple" its.toArray 0)).objs.size = s1.heap.objs.size + 1 := by rw [size_push', Heap.size_update]
  unfold ksk_tree
  refine wpAny_bind (listItems_at ho1 rfl ?_)
  refine wpAny_bind (listUpdate_at ho1 rfl ?_ (by rw [List.size_toArray]; omega) (Nat.zero_le _))
  refine wpAny_bind (seqEpoch_at ho2 rfl ?_)
  refine wpAny_bind (wpAny_newTuple ?_ (by show its.length ≤ _; omega))
  refine wpAny_bind (wpAny_newList ?_ (Nat.zero_le _))
  refine wpAny_holding ?_
  obtain ⟨f0, f1, f2, f3, f4, f5⟩ := id F1
  have su := Heap.SameBut.update s1.heap a (Obj.mapSeq fun _ => (#[] : Array Value))
  have I2 : Inv X pins σ H { s1 with heap := ((s1.heap.update a (Obj.mapSeq fun _ => (#[] : Array Value))).push (seqObj "tuple" its.toArray 0)).push (seqObj "list" #[] 0) } :=
    I1.turned (t' := s1.toks) (fun b o hb e => Heap.get?_push_of_some _ (Heap.get?_push_of_some _ ((su.2 b hb).trans e))) f0 f1 f3 f4 f5
  have hkN : H ((s1.heap.update a (Obj.mapSeq fun _ => (#[] : Array Value))).push (seqObj "tuple" its.toArray 0)).objs.size = none := I1.hok.fresh (by rw [hkS]; exact Nat.le_succ _)
  have T : Two X pins H { s1 with heap := ((s1.heap.update a (Obj.mapSeq fun _ => (#[] : Array Value))).push (seqObj "tuple" its.toArray 0)).push (seqObj "list" #[] 0) } ((s1.heap.update a (Obj.mapSeq fun _ => (#[] : Array Value))).push (seqObj "tuple" its.toArray 0)).objs.size a #[] 0 e1 :=
    ⟨I1.fpOk (by rw [hkS]; exact Nat.le_succ _) hkN, F1, Heap.get?_push_size _ rfl, Heap.get?_push_of_some _ (Heap.get?_push_of_some _ ho2), by rw [hkS]; exact Nat.ne_of_gt (Nat.lt_succ_of_lt ha)⟩
  refine keyI_rest (ks := ks) (G := G) I2 T g (by omega) (by omega) hu (fun i v k hv hk => ?_) fun H' h' s' tk out c I' g' Fk Fa ne kp hD ko => ⟨rfl, ?_⟩
  · obtain ⟨x, hx, rx⟩ : ∃ x, xs[i]? = some x ∧ RelV x v := by
      have hi : i < xs.length := by have := (List.getElem?_eq_some_iff.mp hv).1; omega
      obtain ⟨u, hu, ru⟩ := rv.get (List.getElem?_eq_getElem hi)
      rw [hv] at hu
      cases hu
      exact ⟨_, List.getElem?_eq_getElem hi, ru⟩
    exact turn i x v k hx rx hk
  · have eo := keyedOut_each (R := fun (v : Value) (b : V × Int) => RelV b.1 v) (bs := xs.zip ks) (fun b => PyData.int b.2) (by
      have em : (xs.zip ks).map (fun b => PyData.int b.2) = ks.map PyData.int := by
        rw [show (fun b : V × Int => PyData.int b.2) = PyData.int ∘ Prod.snd from rfl, ← List.map_map, List.map_snd_zip (by omega)]
      rw [em]; exact ko) (each_vals ks rv hlen)
    rw [dataLe_int] at eo
    have vo : Vals (byKey xs ks) out := vals_each eo
    have hlo : (byKey xs ks).length ≤ sizeLine := by rw [byKey_len _ _ hlen]; exact hz
    have I4 : Inv X pins σ H' { s' with heap := h', toks := tk } := I'.turnedL (ch := [((s1.heap.update a (Obj.mapSeq fun _ => (#[] : Array Value))).push (seqObj "tuple" its.toArray 0)).objs.size, a]) (fun b o hb e => kp b o (fun z => hb (by simp [z])) (fun z => hb (by simp [z])) e) (fun b hb => by
      rcases List.mem_cons.mp hb with z | z
      · rw [z]; exact Fk
      · rw [List.mem_singleton.mp z]; exact Fa)
    have I5 := I4.take (t' := tk) (h' := h') (o := .lst (byKey xs ks)) (fun b o hb e => e) Fa ⟨hlo, out, c, vo, hD⟩
    exact ⟨.ref a, _, I5, rfl, h H' a g' Fa.1⟩
end
end MI
namespace MI
open PySem PySem.Spec PyProof.Rows L2 LamX
variable [TC : TabsC]
def MadeL (H : Hp) (P : Addr) (q : Str) (H1 : Hp) : Prop := H1 = H ∨ ∃ ps more c', H P = some (.tbl ps) ∧ H c' = none ∧ H1 = upd (upd H P (.tbl (ps ++ more))) c' (CodeO c' q)
section
variable {X : Cx} {pins : List (Addr × Obj)} {σ : L2.St} {H : Hp} {s : Shared}
theorem lam_make3 {c P : Addr} {params : Arguments} {body : Expr} {scope : Scope} {pos : Pos} {E : Value → Shared → Prop} {Q : Value → Shared → Prop} (I : Inv X pins σ H s) (TB : TabB X.base X.mg c P) (hcode : X.env.code = .ref c)
    (hT : TabS H P (X.env.qual ++ "<lambda>")) (hdef : defaultsOf params X.env = ([], [])) (hfree : ∀ y ∈ scope.names, y.2 = .free → ∃ c, X.env.cells.lookup y.1 = some c)
    (h : ∀ (f c' : Addr) (pm ctv : Value) (H1 : Hp) (s' : Shared), Inv X pins σ H1 s' → MadeL H P (X.env.qual ++ "<lambda>") H1 → TabS H1 P (X.env.qual ++ "<lambda>") →
      s'.heap.get? f = some (PySem.W.kla_obj "<lambda>" (X.env.qual ++ "<lambda>") params body scope (cloFrom X.env.cells scope.names []) pm c' ctv) → H1 f = none → s.heap.objs.size ≤ f → H1 c' = some (CodeO c' (X.env.qual ++ "<lambda>")) → Q (.ref f) s') :
    wpAny (model X.prog X.w) X.A (eval (.Lambda params body scope pos) X.env) Q E s := by
  obtain ⟨ps, hP, ht, ha⟩ := hT
  refine PySem.W.kla_eval hdef ?_
  have bP : s.heap.BuiltinsAt X.mg P := TB.bm.keeps I.bk
  have hP' : s.heap.get? P = some { cls := .none, data := .fields ps } := I.hok P _ hP
  cases hc : codeAmong pos ps.toList with
  | none =>
    refine PySem.W.kla_makeFunction (mg := X.mg) (c := c) (P := P) (ps := ps) (closure_ok hfree) I.ok.glob (I.mod.glob.keeps I.bk) hcode (TB.code.keeps I.bk) hP' ht hc TB.gP bP fun c' ctv h' tk hx hge hlt hrec htb => ?_
    obtain ⟨c2, oc, vs, t, e2, hoc, hd, hv⟩ := hrec
    cases e2
    have hsz : s.heap.objs.size ≤ h'.objs.size := Nat.le_trans hge (Nat.le_of_lt hlt)
    have nC : H c' = none := I.hok.fresh hge
    have I1 := inv_table (t' := tk) (more := #[rawInt pos.line, rawInt pos.col, .ref c']) (h' := h'.push (PySem.W.kla_obj "<lambda>" (X.env.qual ++ "<lambda>") params body scope (cloFrom X.env.cells scope.names []) ((X.mg "__name__").getD .none) c' ctv)) I hP
      (fun b o hb e => Heap.get?_push_of_some _ (hx b o hb e)) (Heap.get?_push_of_some _ htb) hge ⟨oc, vs, t, Heap.get?_push_of_some _ hoc, hd, hv⟩
    have eL : (ps ++ #[rawInt pos.line, rawInt pos.col, .ref c']).toList = ps.toList ++ [rawInt pos.line, rawInt pos.col, .ref c'] := by simp
    have old : ∀ b q, H b = some (CodeO b q) → upd (upd H P (.tbl (ps ++ #[rawInt pos.line, rawInt pos.col, .ref c']))) c' (CodeO c' (X.env.qual ++ "<lambda>")) b = some (CodeO b q) := fun b q e => by
      rw [upd_ne (ne_of_none e nC), upd_ne (fun z => by subst z; rw [hP] at e; cases e)]
      exact e
    refine h h'.objs.size c' ((X.mg "__name__").getD .none) ctv _ _ I1 (.inr ⟨ps, _, c', hP, nC, rfl⟩) ?_ (Heap.get?_push_size _ rfl) ?_ hsz upd_same
    · refine ⟨_, by rw [upd_ne (ne_of_none hP nC), upd_same], by rw [eL]; exact PySem.TriplesOk_snoc _ _ _ _ ht, fun p' cv hcv => ?_⟩
      rw [eL] at hcv
      rcases among_app _ ht hcv with z | z
      · obtain ⟨c0, e1, e2⟩ := ha p' cv z
        exact ⟨c0, e1, old _ _ e2⟩
      · exact ⟨c', z, upd_same⟩
    · have n1 : h'.objs.size ≠ c' := Nat.ne_of_gt hlt
      have n2 : h'.objs.size ≠ P := Nat.ne_of_gt (Nat.lt_of_lt_of_le (Heap.lt_size hP') hsz)
      rw [upd_ne n1, upd_ne n2]
      exact I.hok.fresh hsz
  | some cv =>
    obtain ⟨c', e, hco⟩ := ha pos cv hc
    subst e
    refine PySem.W.kla_makeFunctionHit (mg := X.mg) (c := c) (P := P) (ps := ps) (closure_ok hfree) I.ok.glob (I.mod.glob.keeps I.bk) hcode (TB.code.keeps I.bk) hP' ht hc bP fun ctv h' tk hx hsz => ?_
    have I1 : Inv X pins σ H { s with heap := h'.push (PySem.W.kla_obj "<lambda>" (X.env.qual ++ "<lambda>") params body scope (cloFrom X.env.cells scope.names []) ((X.mg "__name__").getD .none) c' ctv), toks := tk } := I.kept fun b o e => Heap.get?_push_of_some _ (hx b o e)
    exact h h'.objs.size c' ((X.mg "__name__").getD .none) ctv H _ I1 (.inl rfl) ⟨ps, hP, ht, ha⟩ (Heap.get?_push_size _ rfl) (I.hok.fresh hsz) hsz hco
variable {K : PySem.W.Frag} {rho rho' : Rho} {st : Sto} {H1 : Hp} {P : Addr} {q : Str}
theorem MadeL.keep (m : MadeL H P q H1) {b : Addr} {o : HO} (h : H b = some o) (n : NT o) : H1 b = some o := by
  rcases m with rfl | ⟨ps, more, c', hP, hc, rfl⟩
  · exact h
  · rw [upd_ne (ne_of_none h hc), upd_ne (fun z => by subst z; rw [hP] at h; cases h; exact n _ rfl)]
    exact h
theorem MadeL.ext (m : MadeL H P q H1) (w : Wld K rho st H) : Ext rho H rho H1 := by
  refine ⟨⟨[], by simp, fun b hb => absurd hb (by simp)⟩, rfl, fun b o h _ t => m.keep h t, fun b o h hb => ?_, fun b xs h => m.keep h (fun _ z => by cases z), fun b o u h => m.keep h (fun _ z => by cases z), fun b o h => ?_⟩
  · obtain ⟨u, hu, mu⟩ := w.rsv b hb
    rw [h] at hu
    cases hu
    exact m.keep h (fun ps z => by subst z; exact mu)
  · rcases m with rfl | ⟨ps, more, c', hP, hc, rfl⟩
    · exact ⟨o, h⟩
    · by_cases e1 : b = c'
      · subst e1; exact ⟨_, upd_same⟩
      · rw [upd_ne e1]
        by_cases e2 : b = P
        · subst e2; exact ⟨_, upd_same⟩
        · exact ⟨o, by rw [upd_ne e2]; exact h⟩
theorem MadeL.wld (m : MadeL H P q H1) (w : Wld K rho st H) (hT : TabS H1 P q) (hu : ∀ p ∈ TabsC.tabs, p.1 = P → p.2 = q) : Wld K rho st H1 := by
  have e := m.ext w
  refine ⟨w.len, w.nd, fun l a u h1 h2 => ?_, w.dis, fun b hb => ?_, fun p hp => ?_⟩
  · have ob := w.obj l a u h1 h2
    have k := ob.kind
    exact ob.ext e fun x hx => m.keep hx (fun ps z => by subst z; exact k.1 ps hx)
  · obtain ⟨o, ho, mu⟩ := w.rsv b hb
    exact ⟨o, e.kres b o ho hb, mu⟩
  · by_cases z : p.1 = P
    · rw [z, hu p hp z]; exact hT
    · obtain ⟨ps, a1, a2, a3⟩ := w.tab p hp
      refine ⟨ps, ?_, a2, fun p' cv hcv => ?_⟩
      · rcases m with rfl | ⟨ps', more, c', hP, hc, rfl⟩
        · exact a1
        · rw [upd_ne (ne_of_none a1 hc), upd_ne z]; exact a1
      · obtain ⟨c0, e1, e2⟩ := a3 p' cv hcv
        exact ⟨c0, e1, m.keep e2 (fun ps z => by unfold CodeO at z; cases z)⟩
end
theorem run_lam {CX : CXT} {P : Program} {w : World} {K : PySem.W.Frag} {mg : Str → Option Value} {base : Heap} {f c' : Addr} {qual : Str} {params : Arguments} {body : Expr} {scope : Scope} {pm ctv : Value} {N ps : List Str}
    (S : FnScope N ps scope) {A : Around} {outer : List Env} {s : Shared} {H : Hp} {us : List Value} {vs : List V} {Q : VK} {E : XK} (hf : s.heap.get? f = some (PySem.W.kla_obj "<lambda>" qual params body scope [] pm c' ctv)) (hco : H c' = some (CodeO c' qual))
    (hh : A.handled = none) (hdp : A.depth < recursionLimit) (e0 : Env0 P w K mg base A outer s H) (hb : bindArgs (PySem.W.kla_fn "<lambda>" qual params body scope [] pm (.ref c') ctv) ⟨us, []⟩ = pure (ps.zip us)) (r : Vals vs us) (hl : vs.length = ps.length)
    (hbody : ∃ t, PE (cxOf CX P w K mg base N qual scope f (.ref c') A outer s H E) body t ∧ t (L2.start N vs) H Q) :
    codeAny (model P w) A (.call (.ref f) ⟨us, []⟩) (CR CX outer P w H s Q E) s := by
  have KX : K.In s.heap := e0.mod.kin.keeps fun b o e => (e0.bs b o e).1
  have lim : s.heap.NoLimit := e0.mod.nolimit.keeps fun b o e => (e0.bs b o e).1
  have hkind : ∀ y ∈ ps.zip us, scope.names.lookup y.1 = some .local ∨ (scope.names.lookup y.1 = some .cell ∧ ((cellsFrom (s.heap.objs.size + 1) scope.names []).lookup y.1).isSome = true) := fun ⟨n, v⟩ hy => by
    rcases S.par n (List.of_mem_zip hy).1 with q | q
    · exact .inl q
    · exact .inr ⟨q, PySem.W.cellsFrom_some _ _ _ (.inl q)⟩
  obtain ⟨⟨oc, vs', t, hoc, hdc, hvc⟩, _, _⟩ := e0.hok c' _ hco
  refine PySem.W.kla_callFunE hdp hf rfl S.co S.gen rfl ⟨c', oc, vs', t, rfl, hoc, hdc, hvc⟩ ?_
  rw [hb]
  refine wpAny_pure (wpAny_newFunctionEnv_cells S.kind hkind fun env he s1 x => ?_)
  subst he
  refine ⟨lim.keeps x.toInCall.keep, ?_⟩
  obtain ⟨t, ht, hq⟩ := hbody
  have I : Inv (cxOf CX P w K mg base N qual scope f (.ref c') A outer s H E) [] (L2.start N vs) H s1 := inv_start S hh e0 hl r x
  refine PySem.W.kla_codeExpr (wpAny_mono (ht.run [] s1 (L2.start N vs) H _ I hq) (fun v s' hs => ?_) fun e s' hs => hs)
  obtain ⟨v', H', J, rv, q⟩ := hs
  exact ⟨v', H', J.os, J.bare, J.base, J.hok, rv, q⟩
end MI
namespace MI
open PySem PySem.Spec PyProof.Rows L2 LamX
variable [TC : TabsC]
abbrev lamPar (p : Str) (ap : Pos) : Arguments := ⟨[], [⟨p, none, ap⟩], none, [], [], none, []⟩
theorem bind1 {p : Str} {ap : Pos} {body : Expr} {scope : Scope} {qual : Str} {pm cd ct u : Value} : bindArgs (PySem.W.kla_fn "<lambda>" qual (lamPar p ap) body scope [] pm cd ct) ⟨[u], []⟩ = pure ([p].zip [u]) := by
  have e : List.lookup p [(p, u)] = some u := by simp [List.lookup_cons]
  unfold bindArgs
  simp [seqItems?, e, lamPar]
  rfl
theorem clo_nil {cells : List (Str × Addr)} : ∀ {names : List (Str × NameKind)}, (∀ y ∈ names, y.2 ≠ .free) → cloFrom cells names [] = []
  | [], _ => rfl
  | (n, k) :: r, h => by
    unfold cloFrom
    have : (k == .free) = false := by
      have := h (n, k) (by simp)
      cases k <;> first | rfl | exact absurd rfl this
    rw [this]
    simp only [Bool.false_eq_true, if_false]
    exact clo_nil fun y hy => h y (by simp [hy])
def LamOk (X : Cx) : Prop := ∃ ca P, X.env.code = .ref ca ∧ TabB X.base X.mg ca P ∧ (P, X.env.qual ++ "<lambda>") ∈ TabsC.tabs ∧ ∀ p ∈ TabsC.tabs, p.1 = P → p.2 = X.env.qual ++ "<lambda>"
def lsV (st : Sto) (x : D) : Option (List D) := match deref st x with
  | .lst ds => some ds
  | .fz ds => some ds
  | _ => none
open Classical in
noncomputable def keysOf (mk : ME) (st : Sto) : List D → Option (List Int)
  | [] => some []
  | d :: ds => match mk [some d] st with
    | .ok (.int k) st' => if st' = st then (keysOf mk st ds).map (k :: ·) else none
    | _ => none
noncomputable def mSortK (ma mk : ME) : ME := fun env st => (ma env st).bind fun x st => match lsV st x with
  | some ds => (match keysOf mk st ds with
    | some ks => .ok (.lst (byKey ds ks)) st
    | none => .stuck)
  | none => .stuck
theorem keysOf_len {mk : ME} {st : Sto} : ∀ {ds : List D} {ks : List Int}, keysOf mk st ds = some ks → ks.length = ds.length
  | [], ks, h => by cases h; rfl
  | d :: ds, ks, h => by
    unfold keysOf at h
    split at h
    · split at h
      · obtain ⟨r, hr, rfl⟩ := Option.map_eq_some_iff.mp h
        simp [keysOf_len hr]
      · cases h
    · cases h
theorem keysOf_at {mk : ME} {st : Sto} : ∀ {ds : List D} {ks : List Int}, keysOf mk st ds = some ks → ∀ {i : Nat} {d : D} {k : Int}, ds[i]? = some d → ks[i]? = some k → mk [some d] st = .ok (.int k) st
  | [], ks, h, i, d, k, h1, h2 => by simp at h1
  | d :: ds, ks, h, i, d', k', h1, h2 => by
    unfold keysOf at h
    split at h
    · rename_i k st' hm
      split at h
      · rename_i hs
        obtain ⟨r, hr, rfl⟩ := Option.map_eq_some_iff.mp h
        cases i with
        | zero => simp at h1 h2; subst h1 h2; rw [hm, hs]
        | succ i => exact keysOf_at hr (by simpa using h1) (by simpa using h2)
      · cases h
    · cases h
theorem relDs_of_each {K : PySem.W.Frag} {rho : Rho} {H : Hp} : ∀ {ds : List D} {vs : List V}, ds.length = vs.length → (∀ (i : Nat) (d : D) (v : V), ds[i]? = some d → vs[i]? = some v → RelD K rho H d v) → RelDs K rho H ds vs
  | [], [], _, _ => .nil
  | [], _ :: _, h, _ => by simp at h
  | _ :: _, [], h, _ => by simp at h
  | d :: ds, v :: vs, h, f => .cons (f 0 d v rfl rfl) (relDs_of_each (by simpa using h) fun i d v h1 h2 => f (i + 1) d v (by simpa using h1) (by simpa using h2))
def sortBy {κ α : Type} (le : κ → κ → Bool) (xs : List α) (ks : List κ) : List α := ((xs.zip ks).mergeSort fun a b => le a.2 b.2).map (·.1)
theorem sortBy_len {κ α : Type} (le : κ → κ → Bool) (xs : List α) (ks : List κ) (h : ks.length = xs.length) : (sortBy le xs ks).length = xs.length := by
  unfold sortBy
  rw [List.length_map, List.length_mergeSort, List.length_zip]
  omega
theorem pairs_relG {κ : Type} (le : κ → κ → Bool) {K : PySem.W.Frag} {rho : Rho} {H : Hp} {ds : List D} {vs : List V} {ks : List κ} (r : RelDs K rho H ds vs) (hl : ks.length = ds.length) : RelDs K rho H (sortBy le ds ks) (sortBy le vs ks) := by
  have lv := r.length
  -- both are picked out of the pairs of the two
  have e1 : ds.zip ks = ((ds.zip vs).zip ks).map fun q => (q.1.1, q.2) := by
    apply List.ext_getElem?
    intro i
    simp only [List.getElem?_map, List.getElem?_zip_eq_some, List.zip, List.getElem?_zipWith]
    by_cases hi : i < ds.length
    · rw [List.getElem?_eq_getElem hi, List.getElem?_eq_getElem (by omega : i < vs.length), List.getElem?_eq_getElem (by omega : i < ks.length)]; rfl
    · rw [List.getElem?_eq_none (by omega : ds.length ≤ i)]; rfl
  have e2 : vs.zip ks = ((ds.zip vs).zip ks).map fun q => (q.1.2, q.2) := by
    apply List.ext_getElem?
    intro i
    simp only [List.getElem?_map, List.zip, List.getElem?_zipWith]
    by_cases hi : i < ds.length
    · rw [List.getElem?_eq_getElem hi, List.getElem?_eq_getElem (by omega : i < vs.length), List.getElem?_eq_getElem (by omega : i < ks.length)]; rfl
    · rw [List.getElem?_eq_none (by omega : ds.length ≤ i), List.getElem?_eq_none (by omega : vs.length ≤ i)]; rfl
  have s1 : (ds.zip ks).mergeSort (fun a b => le a.2 b.2) = (((ds.zip vs).zip ks).mergeSort fun a b => le a.2 b.2).map fun q => (q.1.1, q.2) := by
    rw [e1, ← List.map_mergeSort (r := fun (a b : (D × V) × κ) => le a.2 b.2) (s := fun (a b : D × κ) => le a.2 b.2) (f := fun q => (q.1.1, q.2)) (fun a _ b _ => rfl)]
  have s2 : (vs.zip ks).mergeSort (fun a b => le a.2 b.2) = (((ds.zip vs).zip ks).mergeSort fun a b => le a.2 b.2).map fun q => (q.1.2, q.2) := by
    rw [e2, ← List.map_mergeSort (r := fun (a b : (D × V) × κ) => le a.2 b.2) (s := fun (a b : V × κ) => le a.2 b.2) (f := fun q => (q.1.2, q.2)) (fun a _ b _ => rfl)]
  unfold sortBy
  rw [s1, s2, List.map_map, List.map_map]
  have all : ∀ q ∈ (((ds.zip vs).zip ks).mergeSort fun a b => le a.2 b.2), RelD K rho H q.1.1 q.1.2 := fun q hq => by
    have hq' := (List.mergeSort_perm _ _).mem_iff.mp hq
    obtain ⟨i, hi, e⟩ := List.mem_iff_getElem.mp hq'
    have h1 : ((ds.zip vs).zip ks)[i]? = some q := by rw [List.getElem?_eq_getElem hi, e]
    rw [List.getElem?_zip_eq_some] at h1
    have h2 := h1.1
    rw [List.getElem?_zip_eq_some] at h2
    obtain ⟨v, hv, rv⟩ := r.get h2.1
    rw [h2.2] at hv
    cases hv
    exact rv
  generalize (((ds.zip vs).zip ks).mergeSort fun a b => le a.2 b.2) = L at all
  induction L with
  | nil => exact .nil
  | cons q L ih => exact .cons (all q (by simp)) (ih fun q hq => all q (by simp [hq]))
theorem pairs_rel {K : PySem.W.Frag} {rho : Rho} {H : Hp} {ds : List D} {vs : List V} {ks : List Int} (r : RelDs K rho H ds vs) (hl : ks.length = ds.length) : RelDs K rho H (byKey ds ks) (byKey vs ks) := pairs_relG (fun a b => decide (a ≤ b)) r hl
theorem lsV_rel {K : PySem.W.Frag} {rho : Rho} {st : Sto} {H : Hp} {x : D} {v : V} {ds : List D} (w : Wld K rho st H) (r : RelD K rho H x v) (h : lsV st x = some ds) : ∃ a vs, v = .ref a ∧ SqL K H a vs ∧ RelDs K rho H ds vs := by
  have q := deref_rel w r
  unfold lsV at h
  split at h
  · rename_i e
    cases h
    rw [e] at q
    obtain ⟨a, vs, rfl, h1, h2⟩ := der_lst q
    exact ⟨a, vs, rfl, SqL.of h1, h2⟩
  · rename_i e
    cases h
    rw [e] at q
    cases q with
    | fz h1 h2 => exact ⟨_, _, rfl, h1.sq, h2⟩
  · cases h
theorem cx_none {P : Program} {w : World} {outer : List Env} {H : Hp} {s : Shared} {e : Value} {s' : Shared} (h : L2.CX P w outer H s (fun _ _ _ => False) e s') : False := by
  obtain ⟨_, _, _, _, _, _, _, _, _, _, _, _, h⟩ := h
  exact h
section
variable {X : Cx} {cls : Nat → Value} {W : WX} {a body : Expr} {ma mk : ME} {pos np kpos lpos ap : Pos} {scope : Scope} {p : Str} {k : Nat}
theorem pe_sortLamM (hg : Gl X "sorted") (hm : X.mg "sorted" = none) (hp : plainE a = true) (ha : PE X a (tE X.K cls W ma)) (LO : LamOk X) (hr : Room (k + 2) X.A) (S : FnScope [p] [p] scope)
    (hbody : ∀ (A : Around) (outer : List Env) (s : Shared) (H : Hp) (f c' : Addr), Room (k + 1) (A.deeper (envOfC (X.env.qual ++ "<lambda>") scope s.heap.objs.size f (.ref c'))) →
      PE (cxOf (L2.CX X.prog X.w) X.prog X.w X.K X.mg X.base [p] (X.env.qual ++ "<lambda>") scope f (.ref c') A outer s H (fun _ _ _ => False)) body (tE X.K cls (fun _ _ _ _ => False) mk)) :
    PE X (.Call (.Name "sorted" np) [a] [⟨some "key", .Lambda (lamPar p ap) body scope lpos, kpos⟩] pos) (tE X.K cls W (mSortK ma mk)) := by
  refine ⟨fun pins s σ H Q I h => ?_⟩
  obtain ⟨ca, P, hcode, TB, hmT, hu⟩ := LO
  refine wpAny_Call_Name_kw (ld_blt I hg hm boot_sorted ?_)
  have hA : PA X [a] (tCons (tE X.K cls W ma) tNil) := pa_cons ha pa_nil (star_plain hp)
  refine PyProof.Rows.callWith_kw (thn (hA.run pos pins s σ H (fun vs H1 => ∃ v, vs = [v] ∧ ∃ rho st ds ks, Wld X.K rho st H1 ∧ (∃ d, RelD X.K rho H1 d v ∧ lsV st d = some ds) ∧ keysOf mk st ds = some ks ∧ OkR X.K cls W σ rho H1 (.ok (.lst (byKey ds ks)) st) (VQ X.K Q)) I ?_) fun us s1 ⟨vs, H1, I1, r1, q1⟩ => ?_) (by unfold backTo; rw [star_plain hp] <;> rfl) (by unfold backTo; rw [star_plain hp] <;> rfl) rfl rfl
  · obtain ⟨rho, env, st, w, re, h⟩ := h
    refine ⟨rho, env, st, w, re, OkR.mono (OkR.bind h) fun d st1 rho1 H1 e1 w1 h1 v rv => ⟨v, rfl, ?_⟩⟩
    split at h1
    · rename_i ds hd
      split at h1
      · rename_i ks hk
        exact ⟨rho1, st1, ds, ks, w1, ⟨d, rv, hd⟩, hk, h1⟩
      · exact h1.elim
    · exact h1.elim
  · obtain ⟨v, rfl, rho, st, ds, ks, w1, ⟨d, rd, hd⟩, hk, hq⟩ := q1
    obtain ⟨l, xs, rfl, hsq, rds⟩ := lsV_rel w1 rd hd
    obtain rfl := Vals.ref1 r1
    show wpAny _ _ (evalAll [(do let v ← eval (.Lambda (lamPar p ap) body scope lpos) X.env; standAt pos; pure v)]) _ _ s1
    refine wpAny_evalAll_cons (wpAny_bind (lam_make3 I1 TB hcode (w1.tab _ hmT) rfl (fun y hy e => absurd e (S.nofree y hy)) fun f c' pm ctv H2 s2 I2 mL hT2 hf hfn hge hco => ?_))
    refine wpAny_bind (wpAny_standAt (wpAny_pure (wpAny_evalAll_nil ?_)))
    rw [clo_nil S.nofree] at hf
    have e12 : Ext rho H1 rho H2 := mL.ext w1
    have w2 : Wld X.K rho st H2 := mL.wld w1 hT2 hu
    have hsq2 : SqL X.K H2 l xs := by
      rcases hsq with (hsq | ⟨o, hsq⟩) | hsq
      · exact .inl (.inl (mL.keep hsq nt_lst))
      · exact .inl (.inr ⟨o, mL.keep hsq (fun _ z => by cases z)⟩)
      · exact .inr hsq
    have hlen : ks.length = xs.length := by rw [keysOf_len hk, rds.length]
    -- what stays while the keys are asked for
    let G : Hp → Prop := fun H' => ∃ rho', Ext rho H2 rho' H' ∧ Wld X.K rho' st H' ∧ H' c' = some (CodeO c' (X.env.qual ++ "<lambda>"))
    have I3 : Inv X (pins ++ [(f, PySem.W.kla_obj "<lambda>" (X.env.qual ++ "<lambda>") (lamPar p ap) body scope [] pm c' ctv)]) σ H2 s2 := I2.pins_of fun q hq => by
      rcases List.mem_append.mp hq with z | z
      · exact I2.pin q (List.mem_append_right _ z)
      · rw [List.mem_singleton.mp z]
        exact ⟨hf, hfn, Nat.ne_of_gt (Nat.lt_of_lt_of_le I1.lt hge), I1.nofs hge, fun v z => by cases z⟩
    refine wpAny_mono (sortKeyI (G := G) (ks := ks) (q := f) (Q := Q) I3 hsq2 ⟨rho, Ext.refl _ _, w2, hco⟩ hlen (by have := hr.un; omega) (fun i x v kk hx rx hkk pins' H' s' hpl I' g' => ?_) fun H' p' g' hp' => ?_) (fun u s' hh => ?_) fun _ _ e => e
    · obtain ⟨rho', e', w', hc'⟩ := g'
      obtain ⟨dd, hdd⟩ : ∃ dd, ds[i]? = some dd := by
        have hi : i < xs.length := (List.getElem?_eq_some_iff.mp hx).1
        exact ⟨_, List.getElem?_eq_getElem (by rw [rds.length]; exact hi)⟩
      have rdd : RelD X.K rho' H' dd x := by
        obtain ⟨y, hy, ry⟩ := rds.get hdd
        rw [hx] at hy
        cases hy
        exact (ry.ext e12).ext e'
      have hmk := keysOf_at hk hdd hkk
      have pf := I'.pin _ (List.mem_append_right _ (hpl (f, PySem.W.kla_obj "<lambda>" (X.env.qual ++ "<lambda>") (lamPar p ap) body scope [] pm c' ctv) (by simp)))
      have rc : codeAny (model X.prog X.w) X.A.in1.in1 (.call (.ref f) ⟨[v], []⟩) (CR (L2.CX X.prog X.w) X.stack X.prog X.w H' s' (fun u H'' => G H'' ∧ u = .int kk) (fun _ _ _ => False)) s' := by
        refine run_lam (N := [p]) (ps := [p]) (us := [v]) (vs := [x]) S pf.1 hc' hr.hd (by have := hr.dp; show X.A.depth < _; omega) I'.env0.in1.in1 bind1 (.cons rx .nil) rfl ⟨_, hbody _ _ s' H' f c' ?_, ?_⟩
        · exact ⟨hr.hd, by have := hr.dp; show X.A.depth + 1 + 3 * (k + 1) + 5 < _; omega, by have := hr.un; show X.A.units + 1 + 1 + 3 + 16 * (k + 1) + 200 < _; omega⟩
        · refine ⟨rho', [some dd], st, w', ⟨rfl, fun j d' hj => ?_⟩, ?_⟩
          · cases j with
            | zero => cases hj; exact ⟨x, rfl, rdd⟩
            | succ j => simp at hj
          · rw [hmk]
            intro rho3 H3 e3 w3 u ru
            cases ru
            refine ⟨⟨rho3, e'.trans e3, w3, ?_⟩, rfl⟩
            by_cases hl : c' ∈ rho'
            · rcases hl with hl | hl
              · obtain ⟨l', so, h1, h2, ob⟩ := w'.at hl
                exact absurd hc' (ob.kind.2 _)
              · exact e3.kres _ _ hc' hl
            · exact e3.keep _ _ hc' hl (fun ps z => by unfold CodeO at z; cases z)
      refine wpAny_call (codeAny_mono rc fun r s'' hq => ?_)
      cases r with
      | error e => exact (cx_none hq).elim
      | ok fl =>
        cases fl with
        | ret u =>
          obtain ⟨v', H'', J, rv, g'', rfl⟩ := I'.after hq
          obtain ⟨t, rfl⟩ := rv
          exact ⟨H'', J, g'', t, rfl⟩
        | next => exact False.elim hq
        | brk => exact False.elim hq
        | cont => exact False.elim hq
    · obtain ⟨rho', e', w', hc'⟩ := g'
      exact hq rho' _ ((e12.trans e').trans (w'.extTmp hp' _)) (w'.tmp hp' _) _ (.lst upd_same (w'.fresh hp') ((pairs_rel ((rds.ext e12).ext e') (keysOf_len hk)).ext (w'.extTmp hp' _)))
    · obtain ⟨v', H', J, rv, q⟩ := hh
      exact ⟨v', H', J.unpinned, rv, q⟩
end
end MI
namespace MI
open PySem PySem.Spec PyProof.Rows L2 PySem.W
def rowP (r : List Str) : PyData := .tuple (r.map .str)
noncomputable def rowLe (a b : List Str) : Bool := dataLe false rowP a b
theorem reads_strs {h : Heap} : ∀ {r : List Str} {its : List Value}, Vals (r.map V.str) its → ReadsAll h its (r.map .str) []
  | [], _, .nil => .nil
  | x :: r, _, .cons rx t => by
    obtain ⟨tk, rfl⟩ := rx
    exact .cons (as := []) (bs := []) (.str x tk) (reads_strs t)
theorem reads_row {h : Heap} {t : Addr} {its : List Value} {r : List Str} (ht : IsTup h t its.toArray) (hv : Vals (r.map V.str) its) : Reads h (.ref t) (rowP r) [] := by
  obtain ⟨o, ho, hc, n, hd⟩ := ht
  exact .tuple ho hc hd (by simpa using reads_strs hv)
theorem alike_strs : ∀ xs ys : List Str, alikeAll (xs.map .str) (ys.map .str) = true
  | [], _ => by simp [alikeAll]
  | _ :: _, [] => by simp [alikeAll]
  | x :: xs, y :: ys => by simp only [List.map_cons, alikeAll, alike, Bool.true_and]; exact alike_strs xs ys
theorem alike_rows {β : Type} (f : β → List Str) (bs : List β) : AllAlike (bs.map fun b => rowP (f b)) := fun d hd d' hd' => by
  obtain ⟨x, _, rfl⟩ := List.mem_map.mp hd
  obtain ⟨y, _, rfl⟩ := List.mem_map.mp hd'
  show alikeAll _ _ = true
  exact alike_strs _ _
theorem sortable_rows {β : Type} (f : β → List Str) (bs : List β) (h : ∀ b ∈ bs, f b ≠ []) : Sortable (bs.map fun b => rowP (f b)) := .inl fun d hd => by
  obtain ⟨x, hx, rfl⟩ := List.mem_map.mp hd
  have := h x hx
  cases e : f x with
  | nil => exact absurd e this
  | cons a r => exact ⟨.str a, r.map .str, by simp [rowP]⟩
theorem depth_strs : ∀ xs : List Str, PyData.depthAll (xs.map .str) = 0
  | [] => by simp [PyData.depthAll]
  | x :: xs => by simp [PyData.depthAll, PyData.depth, depth_strs xs]
theorem depth_row (r : List Str) : (rowP r).depth = 1 := by
  simp [rowP, PyData.depth, depth_strs]
theorem le_pairs {α : Type} : dataLe false (fun b : α × List Str => rowP b.2) = fun a b => rowLe a.2 b.2 := rfl
theorem each_zip {κ : Type} : ∀ {xs : List V} {us : List Value} (ks : List κ), Vals xs us → ks.length = xs.length → EachIs (fun (v : Value) (b : V × κ) => RelV b.1 v) us (xs.zip ks)
  | _, _, ks, .nil, _ => by simp; exact .nil
  | _, _, [], .cons _ _, h => by simp at h
  | _, _, k :: ks, .cons r t, h => .cons r (each_zip ks t (by simpa using h))
theorem vals_zip {κ : Type} : ∀ {out : List Value} {bs : List (V × κ)}, EachIs (fun (v : Value) (b : V × κ) => RelV b.1 v) out bs → Vals (bs.map (·.1)) out
  | _, _, .nil => .nil
  | _, _, .cons r t => .cons r (vals_zip t)
theorem each_get {α β : Type} {R : α → β → Prop} : ∀ {as : List α} {bs : List β}, as.length = bs.length → (∀ (i : Nat) (a : α) (b : β), as[i]? = some a → bs[i]? = some b → R a b) → EachIs R as bs
  | [], [], _, _ => .nil
  | [], _ :: _, h, _ => by simp at h
  | _ :: _, [], h, _ => by simp at h
  | a :: as, b :: bs, h, f => .cons (f 0 a b rfl rfl) (each_get (by simpa using h) fun i a b h1 h2 => f (i + 1) a b (by simpa using h1) (by simpa using h2))
section
variable {X : Cx}
def RowsAt (K : PySem.W.Frag) (H : Hp) (xs : List V) (rows : List (List Str)) : Prop := rows.length = xs.length ∧ ∀ (i : Nat) (x : V) (r : List Str), xs[i]? = some x → rows[i]? = some r → ∃ t, x = .ref t ∧ SqT K H t (r.map V.str) ∧ r ≠ []
theorem rows_reads {pins : List (Addr × Obj)} {σ : L2.St} {H : Hp} {s : Shared} {xs : List V} {us : List Value} {rows : List (List Str)} (I : Inv X pins σ H s) (h : RowsAt X.K H xs rows) (rv : Vals xs us) (P : List Addr → Prop) (hP : P []) : EachIs (fun v (b : V × List Str) => ∃ as, Reads s.heap v (rowP b.2) as ∧ P as) us (xs.zip rows) := by
  have lx : xs.length = us.length := rv.length
  refine each_get (by rw [List.length_zip, h.1]; omega) fun i v b hv hb => ?_
  obtain ⟨x, r⟩ := b
  rw [List.getElem?_zip_eq_some] at hb
  obtain ⟨t, rfl, hs, _⟩ := h.2 i x r hb.1 hb.2
  obtain ⟨u, hu, ru⟩ := rv.get hb.1
  rw [hv] at hu
  cases hu
  cases ru
  obtain ⟨its, rt, ht, _⟩ := I.tuple hs
  exact ⟨[], reads_row ht rt, hP⟩
theorem rows_ne {K : PySem.W.Frag} {H : Hp} {xs : List V} {rows : List (List Str)} (h : RowsAt K H xs rows) : ∀ b ∈ xs.zip rows, b.2 ≠ [] := fun b hb => by
  obtain ⟨i, hi, e⟩ := List.mem_iff_getElem.mp hb
  have h1 : (xs.zip rows)[i]? = some b := by rw [List.getElem?_eq_getElem hi, e]
  rw [List.getElem?_zip_eq_some] at h1
  obtain ⟨_, _, _, h2⟩ := h.2 i _ _ h1.1 h1.2
  exact h2
def rSortRows (K : PySem.W.Frag) : List V → Hp → VK → Prop := fun vs H Q => ∃ (a : Addr) (xs : List V) (rows : List (List Str)), vs = [.ref a] ∧ SqL K H a xs ∧ RowsAt K H xs rows ∧ ∀ p, H p = none → Q (.ref p) (upd H p (.lst (sortBy rowLe xs rows)))
theorem cr_sortedR (hu : X.A.units + 3 < cLine) : CallR X (.builtin "sorted") (rSortRows X.K) := by
  intro pins s σ H vs us Q I r h
  obtain ⟨a, xs, rows, rfl, hs, hr, q⟩ := h
  obtain rfl := Vals.ref1 r
  obtain ⟨its, rv, pl, hz⟩ := I.list hs
  have lx : xs.length = its.length := rv.length
  have er := rows_reads I hr rv (fun _ => True) trivial
  refine sorted_data (enc := fun b : V × List Str => rowP b.2) pl.isList (each_zip rows rv hr.1) (er.mono fun _ _ ⟨as, h, _⟩ => ⟨as, h⟩) (alike_rows _ _) (sortable_rows _ _ (rows_ne hr)) (by rw [List.length_zip, hr.1]; omega) (fun b hb => by rw [depth_row]; omega) fun out ho eo => ?_
  rw [le_pairs] at eo
  have vo : Vals (sortBy rowLe xs rows) out := vals_zip eo
  obtain ⟨ep, he'⟩ := PyProof.Rows.sortedAll_at s.heap its out.toArray
  have hlo : (sortBy rowLe xs rows).length ≤ sizeLine := by rw [sortBy_len _ _ _ hr.1]; exact hz
  exact ⟨.ref _, upd H (s.heap.objs.size + 1) (.lst (sortBy rowLe xs rows)), I.laid (t' := s.toks) (fun _ _ => PyProof.Rows.sortedAll_old) (Nat.le_succ _) ⟨hlo, _, ep, vo, he'⟩, rfl, q _ (I.hok.fresh (Nat.le_succ _))⟩
variable {a : Expr} {ta : TE} {pos p apos cpos : Pos}
def kStrs : List Key → Option (List Str)
  | [] => some []
  | .inr x :: r => (kStrs r).map (x :: ·)
  | _ => none
theorem kStrs_map : ∀ {k : List Key} {r : List Str}, kStrs k = some r → k.map kV = r.map V.str
  | [], _, h => by cases h; rfl
  | .inr x :: k, _, h => by
    obtain ⟨r, hr, rfl⟩ := Option.map_eq_some_iff.mp h
    simp only [List.map_cons, kStrs_map hr]
    rfl
  | .inl _ :: k, _, h => by cases h
theorem pe_sortKeysT (hg : Gl X "sorted") (hm : X.mg "sorted" = none) (hc : X.calm = true) (hu : X.A.units + 3 < cLine) (ha : PE X a ta) (hbase : attributeBase a "keys" X.env (eval a X.env) = eval a X.env) (hline : (apos.endLine == cpos.line) = true) :
    PE X (.Call (.Name "sorted" p) [.Call (.Attribute a "keys" apos) [] [] cpos] [] pos) (fun sg H Q => ta sg H fun x H1 => ∃ (d : Addr) (kvs : List (List Key × V)) (rows : List (List Str)), x = .ref d ∧ H1 d = some (.dT kvs) ∧ kvs.map (fun kv => kStrs kv.1) = rows.map some ∧ (∀ r ∈ rows, r ≠ []) ∧
      ∀ (xs : List V) (p : Addr), RowsAt X.K H1 xs rows → (∀ (i : Nat) (x : V) (r : List Str), xs[i]? = some x → rows[i]? = some r → ∃ t, x = .ref t ∧ H1 t = some (.tup (r.map V.str))) → H1 p = none → Q (.ref p) (upd H1 p (.lst (sortBy rowLe xs rows)))) := by
  refine ⟨fun pins s σ H Q I h => ?_⟩
  refine Call_ (ld_blt I hg hm boot_sorted ?_)
  refine PyProof.Rows.callWith_builtin1 (PyProof.Rows.args_cons ?_ (star_plain rfl)) (star_plain rfl) rfl
  refine wpAny_Call_method (T := "dict") (id := "dict.keys") hbase rfl hline F.plainAttrs_dict F.slot_dict_keys F.type_dict_keys (thn (ha.run pins s σ H _ I h) fun u s1 ⟨x, H1, I1, rx, d, kvs, rows, ex, hd, hrows, hne, q⟩ => ?_)
  subst ex
  obtain rfl : u = Value.ref d := rx
  have hok := I1.hok d _ hd
  obtain ⟨z, hs, ys, pr, o', es, ep, ho, hx, hdt, he, _⟩ := hok
  have hraw : s1.heap.DictRaw d es ep := ⟨o', ho, hx, hdt⟩
  have l1 : es.size = ys.length := size_of_entries he
  have l2 : kvs.length = ys.length := Paired.length pr
  have l3 : kvs.length = rows.length := by simpa using congrArg List.length hrows
  refine ⟨hraw.typeIs, ?_, ?_⟩
  · intro a e; cases e; exact ⟨o', ho, hx.2.1⟩
  have I2 : Inv X pins σ H1 { s1 with heap := s1.heap.push { cls := .type "dict_keys", data := .fields #[.ref d] } } := I1.kept (t' := s1.toks) fun b ob q => Heap.get?_push_of_some _ q
  show wpAny _ _ (callWith cpos (.builtin "dict.keys") [.ref d] [] []) _ X.xe s1
  refine method_meetsIn F.slot_dict_keys F.entry_dict_keys rfl (PySem.evalArgs_none ⟨rfl, hraw.typeIs, F.args_dict_keys_1 _, _, meets_dict_keys_raw d hs, ⟨es, ep, hraw⟩, ?_⟩)
  refine PyProof.Rows.args_nil ?_
  generalize hs2 : ({ s1 with heap := s1.heap.push { cls := .type "dict_keys", data := .fields #[.ref d] } } : Shared) = s2 at I2
  have hv : PySem.W.KdlKeysView s2.heap s1.heap.objs.size d ∧ s2.heap.DictRaw d es ep := by
    subst hs2
    exact ⟨⟨_, Heap.get?_push_size _ rfl, rfl, rfl⟩, hraw.at fun ob q => Heap.get?_push_of_some _ q⟩
  refine Calls.call_function_entry PyProof.Rows.kind_sorted PyProof.Rows.plain_sorted PyProof.Rows.entry_sorted (PyProof.Rows.args_sorted1 _) ?_
  unfold Builtin.«sorted»
  refine wpAny_bind (m := checkCount "sorted" 1 1 _) (wpAny_pure ?_)
  refine wpAny_bind (PySem.W.kdu_collect (A := X.A.in1) (KdlSrc.rawKeys (es := es) (ep := ep)) (I2.ok.hd hc) hv (by omega) fun h' tk acc hk hacc => ?_)
  have hal : acc.toList.length = es.size := by rw [Array.length_toList, hacc.1]
  have I3 : Inv X pins σ H1 { s2 with heap := h', toks := tk } := I2.kept hk
  -- the keys as values of the layer
  have each : ∀ (i : Nat) (u : Value), acc.toList[i]? = some u → ∃ (b : Addr) (k : List Key) (w : V) (r : List Str), u = .ref b ∧ kvs[i]? = some (k, w) ∧ rows[i]? = some r ∧ kStrs k = some r ∧ H1 b = some (.tup (r.map V.str)) := fun i u hu => by
    obtain ⟨hi, e⟩ := hacc.2 i u (by rw [← Array.getElem?_toList]; exact hu)
    have hik : i < kvs.length := by omega
    obtain ⟨b, hb, e1, e2, _⟩ := paired_get pr (List.getElem?_eq_getElem hik)
    have q := entry_at he i
    rw [hb, Array.getElem?_eq_getElem hi] at q
    have q' := Option.some.inj q
    have hr : (rows.map some)[i]? = some (kStrs (kvs[i]).1) := by rw [← hrows, List.getElem?_map, List.getElem?_eq_getElem hik]; rfl
    rw [List.getElem?_map] at hr
    obtain ⟨r, hr1, hr2⟩ := Option.map_eq_some_iff.mp hr
    refine ⟨b.2.1, (kvs[i]).1, (kvs[i]).2, r, ?_, List.getElem?_eq_getElem hik, hr1, hr2.symm, ?_⟩
    · rw [e, q']; rfl
    · rw [← kStrs_map hr2.symm]; exact e2
  obtain ⟨xs, rvx⟩ : ∃ xs : List V, Vals xs acc.toList ∧ xs = acc.toList.map fun u => match u with | .ref b => V.ref b | _ => V.non := by
    refine ⟨_, ?_, rfl⟩
    have all : ∀ u ∈ acc.toList, ∃ b, u = Value.ref b := fun u hu => by
      obtain ⟨i, hi, e⟩ := List.mem_iff_getElem.mp hu
      obtain ⟨b, _, _, _, rfl, _⟩ := each i u (by rw [List.getElem?_eq_getElem hi, e])
      exact ⟨b, rfl⟩
    generalize acc.toList = L at all
    induction L with
    | nil => exact .nil
    | cons u L ih =>
      obtain ⟨b, rfl⟩ := all u (by simp)
      exact .cons rfl (ih fun u hu => all u (by simp [hu]))
  obtain ⟨rvx, exs⟩ := rvx
  have lxs : xs.length = acc.toList.length := rvx.length
  have at_ : ∀ (i : Nat) (x : V) (r : List Str), xs[i]? = some x → rows[i]? = some r → ∃ t, x = .ref t ∧ H1 t = some (.tup (r.map V.str)) := fun i x r hx hr => by
    have hi : i < acc.toList.length := by have := (List.getElem?_eq_some_iff.mp hx).1; omega
    obtain ⟨b, k, w, r', e1, e2, e3, e4, e5⟩ := each i _ (List.getElem?_eq_getElem hi)
    rw [hr] at e3
    cases e3
    rw [exs, List.getElem?_map, List.getElem?_eq_getElem hi, e1] at hx
    cases hx
    exact ⟨b, rfl, e5⟩
  have hrow : RowsAt X.K H1 xs rows := ⟨by omega, fun i x r hx hr => by
    obtain ⟨t, e1, e2⟩ := at_ i x r hx hr
    exact ⟨t, e1, .inl (.inl e2), hne r (List.mem_of_getElem? hr)⟩⟩
  have hz2 : acc.toList.length ≤ sizeLine := by omega
  refine wpAny_bind (wpAny_newList ?_ hz2)
  have hoL : (h'.push (seqObj "list" acc.toList.toArray 0)).get? h'.objs.size = some (seqObj "list" acc.toList.toArray 0) := Heap.get?_push_size _ rfl
  have I4 : Inv X pins σ H1 { s2 with heap := h'.push (seqObj "list" acc.toList.toArray 0), toks := tk } := I3.kept (t' := tk) fun b o e => Heap.get?_push_of_some _ e
  have er := rows_reads I4 hrow rvx (fun as => h'.objs.size ∉ as) (by simp)
  show wpAny _ _ _ _ _ { s2 with heap := h'.push (seqObj "list" acc.toList.toArray 0), toks := tk }
  refine wpAny_bind (wpAny_holding (list_sort_data (A := X.A.in1) (s := { s2 with heap := h'.push (seqObj "list" acc.toList.toArray 0), toks := tk }) (enc := fun b : V × List Str => rowP b.2) hoL (each_zip rows rvx hrow.1) er (alike_rows _ _) (sortable_rows _ _ (rows_ne hrow)) (by rw [List.length_zip]; omega) (fun b hb => by rw [depth_row]; show X.A.units + 1 + 1 + 1 < _; omega) fun out ho eo => ?_))
  rw [le_pairs] at eo
  have vo : Vals (sortBy rowLe xs rows) out := vals_zip eo
  obtain ⟨e', he'⟩ := PyProof.Rows.sortedHeap_at (vs := acc.toList) (out := out.toArray) hoL
  have hlo : (sortBy rowLe xs rows).length ≤ sizeLine := by rw [sortBy_len _ _ _ hrow.1]; omega
  refine wpAny_pure ⟨_, rfl, .ref h'.objs.size, upd H1 h'.objs.size (.lst (sortBy rowLe xs rows)), I3.laid (t' := tk) (fun b u e => ?_) (Nat.le_refl _) (show ObjOk X.prog X.w _ _ _ (.lst (sortBy rowLe xs rows)) from ⟨hlo, out, e', vo, he'⟩), rfl, q xs _ hrow at_ (I3.hok.fresh (Nat.le_refl _))⟩
  have hb : b < h'.objs.size := Heap.lt_size e
  rw [PyProof.Rows.sortedHeap_old (Nat.ne_of_lt hb) (by rw [size_push']; exact Nat.lt_succ_of_lt hb)]
  exact Heap.get?_push_of_some _ e
end
end MI
namespace MI
open PySem PySem.Spec PyProof.Rows L2
variable [TC : TabsC]
def rowsOf : List D → Option (List (List Str))
  | [] => some []
  | .tup ds :: r => (match strsOf ds with
    | some (x :: xs) => (rowsOf r).map ((x :: xs) :: ·)
    | _ => none)
  | _ => none
noncomputable def bSortedA (ds : List D) (st : Sto) : R D := match ds with
  | [x] => (match lsV st x with
    | some xs => (match intsOf xs with
      | some _ => bSorted [x] st
      | none => (match rowsOf xs with
        | some rows => .ok (.lst (sortBy rowLe xs rows)) st
        | none => .stuck))
    | none => bSorted [x] st)
  | _ => .stuck
theorem rowsOf_at {K : PySem.W.Frag} {rho : Rho} {H : Hp} : ∀ {ds : List D} {vs : List V} {rows : List (List Str)}, RelDs K rho H ds vs → rowsOf ds = some rows → RowsAt K H vs rows
  | [], _, _, .nil, h => by cases h; exact ⟨rfl, fun i x r h => by simp at h⟩
  | d :: ds, _, rows, .cons (v := v) (vs := vs) r t, h => by
    cases d <;> simp only [rowsOf, reduceCtorEq] at h
    rename_i es
    split at h
    · rename_i x xs hs
      obtain ⟨rs, hr, rfl⟩ := Option.map_eq_some_iff.mp h
      obtain ⟨l1, l2⟩ := rowsOf_at t hr
      refine ⟨by simp [l1], fun i y q h1 h2 => ?_⟩
      cases i with
      | zero =>
        simp at h1 h2
        subst h1 h2
        cases r with
        | tup h1 h2 _ =>
          rw [strsOf_rel h2 hs] at h1
          exact ⟨_, rfl, h1, by simp⟩
      | succ i => exact l2 i y q (by simpa using h1) (by simpa using h2)
    · cases h
theorem rowsOf_len : ∀ {ds : List D} {rows : List (List Str)}, rowsOf ds = some rows → rows.length = ds.length
  | [], _, h => by cases h; rfl
  | d :: ds, rows, h => by
    cases d <;> simp only [rowsOf, reduceCtorEq] at h
    split at h
    · obtain ⟨rs, hr, rfl⟩ := Option.map_eq_some_iff.mp h
      simp [rowsOf_len hr]
    · cases h
def rowsK : List (List Key × D) → Option (List (List Str))
  | [] => some []
  | kv :: r => (match kStrs kv.1 with
    | some (x :: xs) => (rowsK r).map ((x :: xs) :: ·)
    | _ => none)
noncomputable def bSortKeysA (ds : List D) (st : Sto) : R D := match ds with
  | [.ref l] => (match st[l]? with
    | some (.dicT kvs) => (match rowsK kvs with
      | some rows => .ok (.lst (sortBy rowLe (kvs.map fun kv => keyDs kv.1) rows)) st
      | none => .stuck)
    | _ => bSortKeys [.ref l] st)
  | ds => bSortKeys ds st
theorem rowsK_facts : ∀ {kvs : List (List Key × D)} {rows : List (List Str)}, rowsK kvs = some rows → kvs.map (fun kv => kStrs kv.1) = rows.map some ∧ ∀ r ∈ rows, r ≠ []
  | [], _, h => by cases h; exact ⟨rfl, fun r h => by cases h⟩
  | kv :: kvs, rows, h => by
    simp only [rowsK] at h
    split at h
    · rename_i x xs hx
      obtain ⟨rs, hr, rfl⟩ := Option.map_eq_some_iff.mp h
      obtain ⟨a, b⟩ := rowsK_facts hr
      refine ⟨by simp only [List.map_cons, hx, a], fun r hr => ?_⟩
      rcases List.mem_cons.mp hr with rfl | hr
      · simp
      · exact b r hr
    · cases h
def maxDef (d : Int) : List Int → Int
  | [] => d
  | n :: ns => ns.foldl max n
def mMaxD (ma md : ME) : ME := fun env st => (ma env st).bind fun x st => (md env st).bind fun y st => match lsV st x, y with
  | some ds, .int d => (match intsOf ds with
    | some ns => .ok (.int (maxDef d ns)) st
    | none => .stuck)
  | _, _ => .stuck
section
variable {X : Cx} {cls : Nat → Value} {W : WX}
theorem cr_sortedA (hu : X.A.units + 65 < cLine) : ∃ r, CallR X (.builtin "sorted") r ∧ ∀ {sg : L2.St} {rho : Rho} {st : Sto} {H : Hp} {Q : VK} {ds : List D} {vs : List V}, Wld X.K rho st H → RelDs X.K rho H ds vs → OkR X.K cls W sg rho H (bSortedA ds st) (VQ X.K Q) → r vs H Q := by
  refine ⟨_, CallR.or cr_sortedI (cr_sortedR (by omega)), fun {sg rho st H Q ds vs} w r h => ?_⟩
  unfold bSortedA at h
  split at h
  · rename_i x
    split at h
    · rename_i xs hx
      split at h
      · exact .inl (hop_sorted w r h)
      · split at h
        · rename_i rows hr
          obtain ⟨v, rfl, rv⟩ := relDs1 r
          obtain ⟨a, vs, rfl, hs, rs⟩ := lsV_rel w rv hx
          refine .inr ⟨a, vs, rows, rfl, hs, rowsOf_at rs hr, fun p hp => ?_⟩
          exact h rho _ (w.extTmp hp _) (w.tmp hp _) _ (.lst upd_same (w.fresh hp) ((pairs_relG rowLe rs (rowsOf_len hr)).ext (w.extTmp hp _)))
        · exact h.elim
    · exact .inl (hop_sorted w r h)
  · exact h.elim
variable {pos p apos cpos np kpos : Pos} {a b : Expr} {ma mb : ME}
theorem pe_sortKeysA (hg : Gl X "sorted") (hm : X.mg "sorted" = none) (hc : X.calm = true) (hu : X.A.units + 65 < cLine) (hb : noCall a = true) (hl : (apos.endLine == cpos.line) = true) (ha : PE X a (tE X.K cls W ma)) :
    PE X (.Call (.Name "sorted" p) [.Call (.Attribute a "keys" apos) [] [] cpos] [] pos) (tE X.K cls W (mCall bSortKeysA [ma])) := by
  refine PE.weak (PE.or (pe_sortKeysM hg hm hc hb hl ha) (pe_sortKeysT hg hm hc (by omega) ha (base_ok hb) hl)) fun sg H Q h => ?_
  obtain ⟨rho, env, st, w, re, h⟩ := h
  rw [mCall1] at h
  cases q : ma env st with
  | stuck => rw [q] at h; exact h.elim
  | exc c st1 => exact .inl ⟨rho, env, st, w, re, by rw [mCall1, q]; rw [q] at h; exact h⟩
  | ok d st1 =>
    have old : OkR X.K cls W sg rho H (bSortKeys [d] st1) (VQ X.K Q) → tE X.K cls W (mCall bSortKeys [ma]) sg H Q := fun z => ⟨rho, env, st, w, re, by rw [mCall1, q]; exact z⟩
    rw [q] at h
    simp only [MI.R.bind_ok] at h
    unfold bSortKeysA at h
    split at h
    · rename_i l hd
      cases hd
      split at h
      · rename_i kvs hl2
        split at h
        · rename_i rows hr
          refine .inr ⟨rho, env, st, w, re, ?_⟩
          rw [q]
          intro rho1 H1 e1 w1 v rv
          obtain ⟨a', ks, rfl, ha', q1, q2, q3⟩ := ref_dicT w1 rv hl2
          obtain ⟨f1, f2⟩ := rowsK_facts hr
          have f1' : ks.map (fun kv => kStrs kv.1) = rows.map some := by
            have e1 : ks.map (fun kv => kStrs kv.1) = (ks.map (·.1)).map kStrs := by rw [List.map_map]; rfl
            have e2 : kvs.map (fun kv => kStrs kv.1) = (kvs.map (·.1)).map kStrs := by rw [List.map_map]; rfl
            rw [e1, ← q2, ← e2]
            exact f1
          refine ⟨a', ks, rows, rfl, q1, f1', f2, fun xs p hrow hat hp => ?_⟩
          have hl3 : kvs.length = rows.length := by simpa using congrArg List.length f1
          have rds : RelDs X.K rho1 H1 (kvs.map fun kv => keyDs kv.1) xs := by
            refine relDs_of_each (by rw [List.length_map, hl3]; exact hrow.1) fun i d v hd hv => ?_
            rw [List.getElem?_map] at hd
            obtain ⟨kv, hkv, rfl⟩ := Option.map_eq_some_iff.mp hd
            have hi : i < rows.length := by have := (List.getElem?_eq_some_iff.mp hkv).1; omega
            obtain ⟨t, rfl, ht⟩ := hat i v _ hv (List.getElem?_eq_getElem hi)
            have hks : kStrs kv.1 = some rows[i] := by
              have z : (rows.map some)[i]? = some (kStrs kv.1) := by rw [← f1, List.getElem?_map, hkv]; rfl
              rw [List.getElem?_map, List.getElem?_eq_getElem hi] at z
              simpa using z.symm
            rw [← kStrs_map hks] at ht
            exact .tup (.inl (.inl ht)) (keyDs_rel _) (fun _ => ht)
          exact h rho1 _ (e1.trans (w1.extTmp hp _)) (w1.tmp hp _) _ (.lst upd_same (w1.fresh hp) ((pairs_relG rowLe rds (by rw [List.length_map]; omega)).ext (w1.extTmp hp _)))
        · exact h.elim
      · exact .inl (old h)
    · rename_i hne
      exact .inl (old h)
def rMaxDf (K : PySem.W.Frag) : List V → List V → Hp → VK → Prop := fun vs zs H Q => ∃ (a : Addr) (ns : List Int) (d : Int), vs = [V.ref a] ∧ zs = [.int d] ∧ SqL K H a (ns.map V.int) ∧ Q (.int (maxDef d ns)) H
theorem reads_ints {h : Heap} : ∀ {ns : List Int} {its : List Value}, Vals (ns.map V.int) its → ReadsAll h its (ns.map .int) []
  | [], _, .nil => .nil
  | x :: r, _, .cons rx t => by
    obtain ⟨tk, rfl⟩ := rx
    exact .cons (as := []) (bs := []) (.int x tk) (reads_ints t)
theorem cr_maxDf (hc : X.calm = true) (hu : X.A.units + 65 < cLine) : CallRK X (.builtin "max") [Str.ofString "default"] (rMaxDf X.K) := by
  intro pins s σ H vs zs us ws Q I r rz h
  obtain ⟨a, ns, d, rfl, rfl, hs, q⟩ := h
  obtain rfl := Vals.ref1 r
  obtain ⟨w1, rfl, e1⟩ := vals1 rz
  obtain ⟨its, rv, pl, hz⟩ := I.list hs
  have hdep : PyData.depthAll (ns.map .int) = 0 := PySem.W.depth_ints ns
  refine PySem.W.max_list_default (I.ok.hd hc) pl.isList (by simpa using reads_ints rv) ⟨fun x hx y hy => ?_, fun x hx => ?_⟩ (by rw [hdep]; omega) (fun e h' tk hk => ?_) fun y ys i v h' tk bs e hv hr hk => ?_
  · obtain ⟨_, _, rfl⟩ := List.mem_map.mp hx
    obtain ⟨_, _, rfl⟩ := List.mem_map.mp hy
    rfl
  · obtain ⟨_, _, rfl⟩ := List.mem_map.mp hx
    intro z; cases z
  · cases ns with
    | nil => exact ⟨.int d, H, I.kept hk, e1, q⟩
    | cons n ns => cases e
  · cases ns with
    | nil => cases e
    | cons n ns =>
      simp only [List.map_cons, List.cons.injEq] at e
      obtain ⟨rfl, rfl⟩ := e
      rw [PySem.W.maxD_ints] at hr
      cases hr
      exact ⟨.int _, H, I.kept hk, ⟨_, rfl⟩, q⟩
theorem pe_maxDM (hg : Gl X "max") (hm : X.mg "max" = none) (hc : X.calm = true) (hu : X.A.units + 65 < cLine) (hp : plainE a = true) (ha : PE X a (tE X.K cls W ma)) (hb : PE X b (tE X.K cls W mb)) :
    PE X (.Call (.Name "max" np) [a] [⟨some "default", b, kpos⟩] pos) (tE X.K cls W (mMaxD ma mb)) := by
  have hA : PA X [a] (tCons (tE X.K cls W ma) tNil) := pa_cons ha pa_nil (star_plain hp)
  have hK : PK X [⟨some "default", b, kpos⟩] (tCons (tE X.K cls W mb) tNil) := pk_cons hb pk_nil
  refine PE.weak (pe_callBK (ks := [Str.ofString "default"]) (cr_maxDf hc hu) hg hm boot_max hA hK (by decide) (by decide) (by unfold backTo; rw [star_plain hp] <;> rfl) (by unfold backTo; rw [star_plain hp] <;> rfl) rfl rfl rfl) fun sg H Q h => ?_
  obtain ⟨rho, env, st, w, re, h⟩ := h
  refine ⟨rho, env, st, w, re, OkR.mono (OkR.bind h) fun x st1 rho1 H1 e1 w1 h1 v rv => ?_⟩
  refine ⟨rho1, env, st1, w1, re.ext e1, OkR.mono (OkR.bind h1) fun y st2 rho2 H2 e2 w2 h2 u ru => ?_⟩
  split at h2
  · rename_i ds d hx
    split at h2
    · rename_i ns hn
      obtain ⟨a', vs, rfl, hs, rs⟩ := lsV_rel w2 (rv.ext e2) hx
      rw [intsOf_rel rs hn] at hs
      cases ru
      exact ⟨a', ns, d, rfl, rfl, hs, ok_here w2 h2 (.int _)⟩
    · exact h2.elim
  · exact h2.elim
end
end MI
namespace MI
open PySem PySem.Spec PyProof.Rows L2
def tPut (p : Addr) : List (V × V) → Hp → (Hp → Prop) → Prop
  | [], H, Q => Q H
  | (k, v) :: r, H, Q => ∃ kvs ks b, H p = some (.dT kvs) ∧ k = .ref b ∧ H b = some (.tup (ks.map kV)) ∧ kvs.length < sizeLine ∧ tPut p r (upd H p (.dT (putK kvs ks v))) Q
def tDispT (trs : List (TE × TE)) : TE := fun σ H Q => ∀ p, H p = none → tPairs trs σ (upd H p (.dT [])) fun ps H2 => tPut p ps H2 fun H3 => Q (.ref p) H3
theorem storeAll_inv {X : Cx} {pins : List (Addr × Obj)} {σ : L2.St} {d : Addr} {A : Around} {E : Value → Shared → Prop} (hu : A.units < cLine) : ∀ (vs : List (Value × Value)) (ps : List (V × V)) (s : Shared) (H : Hp) (Q : Hp → Prop), VV ps vs → Inv X pins σ H s → tPut d ps H Q →
    wpAny (model X.prog X.w) A (forIn vs PUnit.unit fun (x : Value × Value) (_ : PUnit) => (do dictSet d x.1 x.2; pure (ForInStep.yield PUnit.unit) : Sem (ForInStep PUnit))) (fun _ s' => ∃ H', Inv X pins σ H' s' ∧ Q H') E s
  | _, [], s, H, Q, r, I, q => by
    cases r
    rw [List.forIn_nil]
    exact wpAny_pure ⟨H, I, q⟩
  | _, (k, v) :: ps, s, H, Q, r, I, q => by
    cases r with
    | @cons a b as bs h t =>
      obtain ⟨kvs, ks, c, e, rfl, eb, l, q⟩ := q
      obtain ⟨b1, b2⟩ := b
      obtain ⟨r1, r2⟩ := h
      cases (show b1 = Value.ref c from r1)
      obtain ⟨z, hd, xs, rel, dd⟩ := dt_of I.hok e
      have hz : xs.length ≤ sizeLine := by rw [← Paired.length rel]; exact z
      have hl : (putK kvs ks v).length ≤ sizeLine := by have := length_putK kvs ks v; omega
      rw [List.forIn_cons]
      refine wpAny_bind (wpAny_bind (wpAny_dictSet_heap (knd := tupleKind (mixKind X.prog X.w)) (hsz := hz) hu (key_of I.hok eb) dd fun h' dd' hs => wpAny_pure ?_))
      refine storeAll_inv hu bs ps _ _ Q t ?_ q
      obtain ⟨q', es, ep, hq, h2, h3, h4, _, h5⟩ := dd'
      refine d_write I (by rw [e]; exact True.intro) hs ⟨q', hq⟩ ⟨hl, hd, _, (rel.put ks eb r2).keeps fun c ys ec => ?_, q', es, ep, hq, h2, h3, h4, h5⟩
      rw [upd_ne (ne_of ec e (fun z => nomatch z))]
      exact ec
theorem pe_dispT {X : Cx} {pos : Pos} {keys : List (Option Expr)} {values : List Expr} {trs : List (TE × TE)} (hu : X.A.units + 1 < cLine) (h : PPs X pos keys values trs) (hall : keys.all (·.isSome) = true) (hl : keys.length = values.length) (h0 : keys ≠ [])
    (h15 : keys.length ≤ 15) : PE X (.Dict keys values pos) (tDispT trs) := by
  refine ⟨fun pins s σ H Q I q => ?_⟩
  have hn := I.hok.fresh (Nat.le_refl s.heap.objs.size)
  have I1 := I.laid (a := s.heap.objs.size) (o := .dT []) (h' := s.heap.push { cls := .type "dict", data := .dict #[] }) (t' := s.toks) (fun _ _ q => Heap.get?_push_of_some _ q) (Nat.le_refl _) (dt_empty s.heap I.big)
  have hlen := pairTrees_length keys values X.env pos hall hl
  rw [arm_eval_Dict, zip_pairTrees keys values X.env pos hall hl, dictDisplay_pairs (pairTrees keys values X.env pos) (fun z => by rw [z] at hlen; exact h0 (List.length_eq_zero_iff.mp hlen.symm)) (by omega)]
  refine wpAny_bind (wpAny_standAt (wpAny_bind ?_))
  unfold subDict
  refine wpAny_bind (wpAny_alloc ?_)
  refine wpAny_bind (wpAny_holding ?_)
  rw [if_pos (by omega)]
  refine wpAny_bind (wpAny_mono (h.run pins _ σ _ _ I1 (q _ hn)) (fun ws s2 h2 => ?_) fun _ _ e => e)
  obtain ⟨ps, H2, I2, rel, q2⟩ := h2
  refine wpAny_holding ?_
  refine wpAny_bind (wpAny_mono (storeAll_inv (by omega) ws ps s2 H2 _ rel I2 q2) (fun _ s3 h3 => ?_) fun _ _ e => e)
  obtain ⟨H3, I3, q3⟩ := h3
  exact wpAny_pure (wpAny_pure (wpAny_pure ⟨.ref s.heap.objs.size, H3, I3, rfl, q3⟩))
variable [TC : TabsC]
def mPairs : List (ME × ME) → DEnv → Sto → R (List (D × D))
  | [], _, st => .ok [] st
  | (a, b) :: r, env, st => (a env st).bind fun x st => (b env st).bind fun y st => (mPairs r env st).bind fun ps st => .ok ((x, y) :: ps) st
def putAllT (l : Nat) : List (D × D) → Sto → R Unit
  | [], st => .ok () st
  | (k, d) :: r, st => match st[l]? with
    | some (.dicT kvs) => (match keyTD k with
      | some key => if kvs.length < sizeLine then putAllT l r (st.set l (.dicT (putT kvs key d))) else .stuck
      | none => .stuck)
    | _ => .stuck
def mDTs (ps : List (ME × ME)) : ME := fun env st => (mPairs ps env (st ++ [.dicT []])).bind fun kds st1 => (putAllT st.length kds st1).bind fun _ st2 => .ok (.ref st.length) st2
def RelPs (K : PySem.W.Frag) (rho : Rho) (H : Hp) : List (D × D) → List (V × V) → Prop
  | [], [] => True
  | (a, b) :: r, (v, u) :: s => RelD K rho H a v ∧ RelD K rho H b u ∧ RelPs K rho H r s
  | _, _ => False
theorem RelPs.ext {K : PySem.W.Frag} {rho rho' : Rho} {H H' : Hp} (e : Ext rho H rho' H') : ∀ {ps : List (D × D)} {vs : List (V × V)}, RelPs K rho H ps vs → RelPs K rho' H' ps vs
  | [], [], _ => trivial
  | (_, _) :: _, (_, _) :: _, h => ⟨h.1.ext e, h.2.1.ext e, RelPs.ext e h.2.2⟩
  | [], _ :: _, h => h.elim
  | _ :: _, [], h => h.elim
section
variable {X : Cx} {cls : Nat → Value} {W : WX}
theorem tPairs_of {K : PySem.W.Frag} {sg : L2.St} : ∀ (ps : List (ME × ME)) {rho : Rho} {env : DEnv} {st : Sto} {H : Hp} {Q : List (V × V) → Hp → Prop}, Wld K rho st H → RelEnv K rho H env sg → OkR K cls W sg rho H (mPairs ps env st) (fun kds _ rho' H' => ∀ vs, RelPs K rho' H' kds vs → Q vs H') →
    tPairs (ps.map fun p => (tE K cls W p.1, tE K cls W p.2)) sg H Q
  | [], rho, env, st, H, Q, w, re, h => OkR.ok h w [] trivial
  | (a, b) :: r, rho, env, st, H, Q, w, re, h => by
    refine ⟨rho, env, st, w, re, OkR.mono (OkR.bind h) fun x st1 rho1 H1 e1 w1 h1 v rv => ?_⟩
    refine ⟨rho1, env, st1, w1, re.ext e1, OkR.mono (OkR.bind h1) fun y st2 rho2 H2 e2 w2 h2 u ru => ?_⟩
    refine tPairs_of r w2 ((re.ext e1).ext e2) (OkR.mono (OkR.bind h2) fun kds st3 rho3 H3 e3 w3 h3 vs rvs => ?_)
    exact OkR.ok h3 w3 ((v, u) :: vs) ⟨(rv.ext e2).ext e3, ru.ext e3, rvs⟩
theorem tPut_of {K : PySem.W.Frag} {sg : L2.St} {l : Nat} {p : Addr} : ∀ (kds : List (D × D)) {vs : List (V × V)} {rho : Rho} {st : Sto} {H : Hp} {Q : Hp → Prop}, Wld K rho st H → rho.loc[l]? = some p → RelPs K rho H kds vs → OkR K cls W sg rho H (putAllT l kds st) (fun _ _ rho' H' => Ext rho H rho' H' → Q H') → tPut p vs H Q
  | [], [], rho, st, H, Q, w, hp, r, h => OkR.ok h w (Ext.refl _ _)
  | [], _ :: _, _, _, _, _, _, _, r, _ => r.elim
  | _ :: _, [], _, _, _, _, _, _, r, _ => r.elim
  | (k, d) :: kds, (v, u) :: vs, rho, st, H, Q, w, hp, r, h => by
    obtain ⟨r1, r2, r3⟩ := r
    unfold putAllT at h
    split at h
    · rename_i kvs hl
      obtain ⟨a, ks, ea, ha, h1, h2, h3⟩ := ref_dicT w (.ref hp) hl
      cases ea
      have mu : Mut (H p) := by rw [h1]; trivial
      split at h
      · rename_i key hk
        split at h
        · rename_i hz
          obtain ⟨b, rfl, hb⟩ := keyTD_rel r1 hk
          obtain ⟨p1, p2⟩ := relT_put (k := key) h2 h3 r2
          have ex := w.extSet hp (.dT (putK ks key u)) mu
          refine ⟨ks, key, b, h1, rfl, hb, by have : kvs.length = ks.length := by simpa using congrArg List.length h2
                                              rw [← this]; exact hz, ?_⟩
          refine tPut_of kds (w.set (so := .dicT (putT kvs key d)) hp mu ⟨_, upd_same, p1, p2.ext ex⟩) hp (r3.ext ex) (OkR.mono (h.from ex) fun _ _ _ _ _ _ q e => q (ex.trans e))
        · exact h.elim
      · exact h.elim
    · exact h.elim
theorem pe_dtsM {pos : Pos} {keys : List (Option Expr)} {values : List Expr} {ps : List (ME × ME)} (hu : X.A.units + 1 < cLine) (h : PPs X pos keys values (ps.map fun p => (tE X.K cls W p.1, tE X.K cls W p.2))) (hall : keys.all (·.isSome) = true) (hl : keys.length = values.length) (h0 : keys ≠ [])
    (h15 : keys.length ≤ 15) : PE X (.Dict keys values pos) (tE X.K cls W (mDTs ps)) := by
  refine PE.weak (pe_dispT hu h hall hl h0 h15) fun sg H Q h => ?_
  obtain ⟨rho, env, st, w, re, h⟩ := h
  intro p hp
  have ex := w.extNew hp (.dT [])
  have w0 := w.new (so := .dicT []) hp ⟨[], upd_same, rfl, .nil⟩
  have hloc : (rho.add p).loc[st.length]? = some p := by rw [← w.len]; simp [Rho.add]
  refine tPairs_of ps w0 (re.ext ex) (OkR.mono (OkR.bind (h.from ex)) fun kds st1 rho1 H1 e1 w1 h1 vs rvs => ?_)
  refine tPut_of (l := st.length) kds w1 (e1.get hloc) rvs (OkR.mono (OkR.bind h1) fun _ st2 rho2 H2 e2 w2 h2 _ => ?_)
  exact OkR.ok h2 w2 _ (.ref (e2.get (e1.get hloc)))
end
def mInsert (d : D) (ds : List D) (st : Sto) : R D := match d, ds with
  | .ref l, [.int i, y] => match st[l]? with
    | some (.lst xs) => if xs.length < sizeLine ∧ 0 ≤ i ∧ i < 2 ^ 63 then .ok .non (st.set l (.lst (xs.take i.toNat ++ [y] ++ xs.drop i.toNat))) else .stuck
    | _ => .stuck
  | _, _ => .stuck
section
variable {K : PySem.W.Frag} {cls : Nat → Value} {W : WX} {sg : L2.St} {rho : Rho} {st : Sto} {H : Hp} {Q : VK} {d : D} {v : V} {ds : List D} {vs : List V}
theorem hop_insert (w : Wld K rho st H) (r : RelD K rho H d v) (rs : RelDs K rho H ds vs) (h : OkR K cls W sg rho H (mInsert d ds st) (VQ K Q)) :
    ∃ (l : Addr) (xs : List V) (i : Int) (y : V), v = .ref l ∧ vs = [.int i, y] ∧ H l = some (.lst xs) ∧ xs.length < sizeLine ∧ 0 ≤ i ∧ i < 2 ^ 63 ∧ Q .non (upd H l (.lst (xs.take i.toNat ++ [y] ++ xs.drop i.toNat))) := by
  unfold mInsert at h
  split at h
  · cases rs with
    | cons r1 t =>
      cases t with
      | cons r2 t =>
        cases t
        cases r1
        split at h
        · rename_i e
          obtain ⟨a, ks, rfl, ha, h1, h2⟩ := ref_lst w r e
          split at h
          · rename_i hz
            obtain ⟨z1, z2, z3⟩ := hz
            exact ⟨a, ks, _, _, rfl, rfl, h1, by rw [← h2.length]; assumption, z2, z3, ok_set_lst w h ha (by rw [h1]; trivial) (((h2.take _).append (.cons r2 .nil)).append (h2.drop _)) .non⟩
          · exact h.elim
        · exact h.elim
  · exact h.elim
def bInt (ds : List D) (st : Sto) : R D := match ds with
  | [.int i] => .ok (.int i) st
  | [.bl b] => .ok (.int (if b then 1 else 0)) st
  | [.str a] => match PySem.intText? a with
    | some n => if a.length ≤ 640 then .ok (.int n) st else .stuck
    | none => .stuck
  | _ => .stuck
theorem call_intS {X : Cx} : CallR X (.type "int") (fun xs H Q => ((∃ i, xs = [.int i] ∧ Q (.int i) H) ∨ ∃ k, xs = [.bl k] ∧ Q (.int (if k then 1 else 0)) H) ∨ ∃ a n, xs = [.str a] ∧ PySem.intText? a = some n ∧ a.length ≤ 640 ∧ Q (.int n) H) := by
  intro pins s σ H xs us Q I r h
  rcases h with h | h
  · exact call_int1 pins s σ H xs us Q I r h
  · exact call_int_str pins s σ H xs us Q I r h
theorem hop_int1 (w : Wld K rho st H) (r : RelDs K rho H ds vs) (h : OkR K cls W sg rho H (bInt ds st) (VQ K Q)) : ((∃ i, vs = [.int i] ∧ Q (.int i) H) ∨ ∃ k, vs = [.bl k] ∧ Q (.int (if k then 1 else 0)) H) ∨ ∃ a n, vs = [.str a] ∧ PySem.intText? a = some n ∧ a.length ≤ 640 ∧ Q (.int n) H := by
  unfold bInt at h
  split at h
  · obtain ⟨u, rfl, ru⟩ := relDs1 r
    cases ru
    exact .inl (.inl ⟨_, rfl, ok_here w h (.int _)⟩)
  · obtain ⟨u, rfl, ru⟩ := relDs1 r
    cases ru
    exact .inl (.inr ⟨_, rfl, ok_here w h (.int _)⟩)
  · obtain ⟨u, rfl, ru⟩ := relDs1 r
    cases ru
    split at h
    · rename_i hn
      split at h
      · rename_i hl
        exact .inr ⟨_, _, rfl, hn, hl, ok_here w h (.int _)⟩
      · exact h.elim
    · exact h.elim
  · exact h.elim
end
end MI
namespace MI
open PySem PySem.Spec PyProof.Rows L2
variable [TC : TabsC]
def dropD (kvs : List (Key × D)) (k : Key) : List (Key × D) := kvs.filter fun kv => decide (kv.1 ≠ k)
def kPop (x y : D) (st : Sto) : R D := match x with
  | .ref l => (match st[l]? with
    | some (.dic kvs) => (match keyOf y with
      | some k => (match kvGet kvs k with
        | some d => .ok d (st.set l (.dic (dropD kvs k)))
        | none => .stuck)
      | none => .stuck)
    | _ => .stuck)
  | _ => .stuck
def mKPop (o i : ME) : ME := fun env st => (o env st).bind fun x st => if isDicS st x = true then (i env st).bind fun y st => kPop x y st else .stuck
def opSlN (x : D) (lo hi : Option Int) (st : Sto) : R D := match deref st x with
  | .lst ds => .ok (.ref st.length) (st ++ [.lst (cutL ds lo hi)])
  | _ => .stuck
def mSlN (a : ME) (lo hi : Option ME) : ME := fun env st => (a env st).bind fun x st => (mOpt lo env st).bind fun i st => (mOpt hi env st).bind fun j st => opSlN x i j st
def bSortKeysN (ds : List D) (st : Sto) : R D := match ds with
  | [x] => (match deref st x with
    | .dic kvs => (match keysI kvs with
      | some ks => .ok (.ref st.length) (st ++ [.lst ((sortI ks).map .int)])
      | none => .stuck)
    | _ => .stuck)
  | _ => .stuck
section
variable {X : Cx} {cls : Nat → Value} {W : WX} {pos p apos cpos : Pos} {a o e : Expr} {ma mo me : ME}
theorem relK_drop {K : PySem.W.Frag} {rho : Rho} {H : Hp} {k : Key} : ∀ {ds : List (Key × D)} {vs : List (Key × V)}, RelK K rho H ds vs → RelK K rho H (dropD ds k) (dropK vs k)
  | _, _, .nil => .nil
  | (k', d) :: ds, (_, v) :: vs, .cons h t => by
    by_cases q : k' = k
    · have z1 : dropD ((k', d) :: ds) k = dropD ds k := List.filter_cons_of_neg (by simp [q])
      have z2 : dropK ((k', v) :: vs) k = dropK vs k := List.filter_cons_of_neg (by simp [q])
      rw [z1, z2]
      exact relK_drop t
    · have z1 : dropD ((k', d) :: ds) k = (k', d) :: dropD ds k := List.filter_cons_of_pos (by simp [q])
      have z2 : dropK ((k', v) :: vs) k = (k', v) :: dropK vs k := List.filter_cons_of_pos (by simp [q])
      rw [z1, z2]
      exact .cons h (relK_drop t)
theorem pe_kpopM (hb : noCall o = true) (hl : (apos.endLine == pos.line) = true) (hp : [e].all plainE = true) (ho : PE X o (tE X.K cls W mo)) (he : PE X e (tE X.K cls W me)) : PE X (.Call (.Attribute o "pop" apos) [e] [] pos) (tE X.K cls W (mKPop mo me)) := by
  have hp' := hp
  simp only [List.all_cons, List.all_nil, Bool.and_true] at hp'
  refine PE.weak (pe_dpop1 ho he ⟨base_ok hb, few_ok hp (by simp), hl, by unfold backTo; rw [star_plain hp'] <;> rfl⟩) fun sg H Q h => ?_
  obtain ⟨rho, env, st, w, re, h⟩ := h
  refine ⟨rho, env, st, w, re, OkR.mono (OkR.bind h) fun x st1 rho1 H1 e1 w1 h1 v rv => ?_⟩
  split at h1
  · rename_i hd
    obtain ⟨a, rfl, hD⟩ := isDicS_rel w1 rv hd
    refine ⟨a, rfl, hD, rho1, env, st1, w1, re.ext e1, OkR.mono (OkR.bind h1) fun y st2 rho2 H2 e2 w2 h2 u ru => ?_⟩
    unfold kPop at h2
    split at h2
    · split at h2
      · rename_i kvs hl
        obtain ⟨a', ks, ea, ha, q1, q2⟩ := ref_dic w2 (rv.ext e2) hl
        cases ea
        split at h2
        · rename_i k hk
          split at h2
          · rename_i d hg
            obtain ⟨z, hz, rz⟩ := kvGet_rel q2 hg
            have mu : Mut (H2 a) := by rw [q1]; trivial
            exact ⟨ks, k, z, q1, keyOf_rel ru hk, hz, ok_set_dic w2 h2 ha mu (relK_drop q2) rz⟩
          · exact h2.elim
        · exact h2.elim
      · exact h2.elim
    · exact h2.elim
  · exact h1.elim
theorem pe_slNM {lo hi : Option Expr} {ml mh : Option ME} {p2 : Pos} (ha : PE X a (tE X.K cls W ma)) (hl : PO X lo (tOm X.K cls W ml)) (hh : PO X hi (tOm X.K cls W mh)) : PE X (.Subscript a (.Slice lo hi none p2) pos) (tE X.K cls W (mSlN ma ml mh)) := by
  refine PE.weak (pe_slice sl_all ha hl hh) fun sg H Q h => ?_
  obtain ⟨rho, env, st, w, re, h⟩ := h
  refine ⟨rho, env, st, w, re, OkR.mono (OkR.bind h) fun d st1 rho1 H1 e1 w1 h1 v rv => ?_⟩
  refine ⟨rho1, env, st1, w1, re.ext e1, OkR.mono (OkR.bind h1) fun i st2 rho2 H2 e2 w2 h2 => ?_⟩
  refine ⟨rho2, env, st2, w2, (re.ext e1).ext e2, OkR.mono (OkR.bind h2) fun j st3 rho3 H3 e3 w3 h3 => ?_⟩
  have q := deref_rel w3 ((rv.ext e2).ext e3)
  unfold opSlN at h3
  split at h3
  · rename_i ds e4
    rw [e4] at q
    obtain ⟨ad, ks, rfl, g1, g2⟩ := der_lst q
    refine .inr (.inl ⟨ad, ks, rfl, SqL.of g1, ok_new_lst w3 h3 ?_⟩)
    unfold cutL cutV
    rw [g2.length]
    exact (g2.drop _).take _
  · exact h3.elim
theorem pe_sortKeysNM (hg : Gl X "sorted") (hm : X.mg "sorted" = none) (hc : X.calm = true) (hb : noCall a = true) (hl : (apos.endLine == cpos.line) = true) (ha : PE X a (tE X.K cls W ma)) :
    PE X (.Call (.Name "sorted" p) [.Call (.Attribute a "keys" apos) [] [] cpos] [] pos) (tE X.K cls W (mCall bSortKeysN [ma])) := by
  refine PE.weak (pe_sortKeys hg hm hc ha (base_ok hb) hl) fun sg H Q h => ?_
  obtain ⟨rho, env, st, w, re, h⟩ := h
  rw [mCall1] at h
  refine ⟨rho, env, st, w, re, OkR.mono (OkR.bind h) fun d st1 rho1 H1 e1 w1 h1 v rv => ?_⟩
  have q := deref_rel w1 rv
  unfold bSortKeysN at h1
  simp only at h1
  split at h1
  · rename_i kvs e
    rw [e] at q
    obtain ⟨l, vs, rfl, g1, g2⟩ := der_dic q
    split at h1
    · rename_i ks e2
      refine ⟨l, vs, ks, rfl, .inl g1, keysI_rel g2 e2, fun ys p pm pw hp => ?_⟩
      have e3 : ys = sortI ks := sortI_eq pm pw
      subst e3
      exact ok_new_lst w1 h1 (rel_ints _) p hp
    · exact h1.elim
  · exact h1.elim
end
def mIndexL (d : D) (ds : List D) (st : Sto) : R D := match deref st d, ds with
  | .lst es, [.int i] => (match intsOf es with
    | some ns => (match ns.idxOf? i with
      | some j => .ok (.int (j : Nat)) st
      | none => .stuck)
    | none => .stuck)
  | _, _ => .stuck
section
variable {K : PySem.W.Frag} {cls : Nat → Value} {W : WX} {sg : L2.St} {rho : Rho} {st : Sto} {H : Hp} {Q : VK} {d : D} {v : V} {ds : List D} {vs : List V}
theorem hop_indexL (w : Wld K rho st H) (r : RelD K rho H d v) (rs : RelDs K rho H ds vs) (h : OkR K cls W sg rho H (mIndexL d ds st) (VQ K Q)) : rIndex K v vs H Q := by
  unfold mIndexL at h
  have q := deref_rel w r
  split at h
  · rename_i es i e1
    rw [e1] at q
    obtain ⟨u, rfl, ru⟩ := relDs1 rs
    cases ru
    obtain ⟨ad, ks, rfl, g1, g2⟩ := der_lst q
    split at h
    · rename_i ns hn
      split at h
      · rename_i j hj
        have e := intsOf_rel g2 hn
        subst e
        have hji : ns[j]? = some i ∧ ∀ m, m < j → ns[m]? ≠ some i := by
          rw [List.idxOf?_eq_some_iff] at hj
          obtain ⟨hl, he, hlt⟩ := hj
          refine ⟨by rw [List.getElem?_eq_getElem hl]; exact congrArg some (by simpa using he), fun m hm z => ?_⟩
          have hml : m < ns.length := by omega
          rw [List.getElem?_eq_getElem hml] at z
          have := hlt m hm
          simp only [Option.some.injEq] at z
          rw [z] at this
          simp at this
        refine ⟨ad, ns.map V.int, .int i, j, .int i, rfl, rfl, SqL.of g1, rfl, ?_, ?_, ?_, fun m z hm hz => ?_, ok_here w h (.int _)⟩
        · rw [List.all_map]; exact List.all_eq_true.mpr fun _ _ => rfl
        · rw [List.getElem?_map, hji.1]; rfl
        · simp [eqV]
        · rw [List.getElem?_map] at hz
          obtain ⟨k, hk, rfl⟩ := Option.map_eq_some_iff.mp hz
          have : k ≠ i := fun e => hji.2 m hm (by rw [hk, e])
          simp [eqV, this]
      · exact h.elim
    · exact h.elim
  · exact h.elim
end
end MI
namespace MI
open PySem PySem.Spec PyProof.Rows L2
variable [TC : TabsC]
section
variable {X : Cx} {a : Expr} {ta : TE} {pos p apos cpos : Pos}
theorem key_int {P : Program} {w : World} {vs : List (Key × Value)} {ks : List Int} (hkeys : vs.map (·.1) = ks.map Sum.inl) {i : Nat} {v : Value} (h : ∃ k x, vs[i]? = some (k, x) ∧ (mixKind P w).is k v = true) : i < ks.length ∧ ∃ t, v = Value.int (ks.getD i 0) t := by
  obtain ⟨k, x, e1, e2⟩ := h
  have e3 : (vs.map (·.1))[i]? = some k := by rw [List.getElem?_map, e1]; rfl
  rw [hkeys, List.getElem?_map] at e3
  cases e4 : ks[i]? with
  | none => rw [e4] at e3; cases e3
  | some y =>
    rw [e4] at e3
    have e5 : Sum.inl y = k := Option.some.inj e3
    subst e5
    refine ⟨(List.getElem?_eq_some_iff.mp e4).1, ?_⟩
    rw [List.getD_eq_getElem?_getD, e4]
    rcases keyIs_shape (show keyIs (Sum.inl y) v = true from e2) with ⟨i, t, ek, ev⟩ | ⟨z, t, ek, ev⟩
    · cases ek
      exact ⟨t, ev⟩
    · cases ek
def rMaxKeys : V → Hp → VK → Prop := fun x H Q => ∃ (d : Addr) (kvs : List (Key × V)) (ks : List Int), x = .ref d ∧ Rd H d (.dK kvs) ∧ kvs.map (·.1) = ks.map Sum.inl ∧ 0 < ks.length ∧
  ∀ M : Int, M ∈ ks → (∀ y ∈ ks, y ≤ M) → Q (.int M) H
theorem pe_maxKeys0 (hg : Gl X "max") (hm : X.mg "max" = none) (hc : X.calm = true) (ha : PE X a ta) (hbase : attributeBase a "keys" X.env (eval a X.env) = eval a X.env) (hline : (apos.endLine == cpos.line) = true) :
    PE X (.Call (.Name "max" p) [.Call (.Attribute a "keys" apos) [] [] cpos] [] pos) (fun sg H Q => ta sg H fun x H1 => rMaxKeys x H1 Q) := by
  refine ⟨fun pins s σ H Q I h => ?_⟩
  refine Call_ (ld_blt I hg hm boot_max ?_)
  refine PyProof.Rows.callWith_builtin1 (PyProof.Rows.args_cons ?_ (star_plain rfl)) (star_plain rfl) rfl
  refine wpAny_Call_method (T := "dict") (id := "dict.keys") hbase rfl hline F.plainAttrs_dict F.slot_dict_keys F.type_dict_keys (thn (ha.run pins s σ H _ I h) fun u s1 ⟨x, H1, I1, rx, d, kvs, ks, ex, hd, hks, hne, q⟩ => ?_)
  subst ex
  obtain rfl : u = Value.ref d := rx
  obtain ⟨z, lo, vs, rel, dd⟩ := dk_rd I1.hok hd
  obtain ⟨ep, hat⟩ := dd.dictAt
  refine ⟨dd.typeIs, dd.mapOf.noDict, ?_⟩
  have hkeys : vs.map (·.1) = ks.map Sum.inl := rel.keys.symm.trans hks
  have hl : vs.length = ks.length := by
    have e := congrArg List.length hkeys
    rw [List.length_map, List.length_map] at e
    exact e
  have hz : vs.length ≤ sizeLine := by rw [← rel.length]; exact z
  have I2 : Inv X pins σ H1 { s1 with heap := s1.heap.push { cls := .type "dict_keys", data := .fields #[.ref d] } } := I1.kept (t' := s1.toks) fun b ob q => Heap.get?_push_of_some _ q
  show wpAny _ _ (callWith cpos (.builtin "dict.keys") [.ref d] [] []) _ X.xe s1
  refine method_meetsIn F.slot_dict_keys F.entry_dict_keys rfl (PySem.evalArgs_none ⟨rfl, dd.typeIs, F.args_dict_keys_1 _, _, PySem.W.kdl_meets_keys (mixKind X.prog X.w) d lo, ⟨vs, dd⟩, ?_⟩)
  refine PyProof.Rows.args_nil ?_
  generalize hs2 : ({ s1 with heap := s1.heap.push { cls := .type "dict_keys", data := .fields #[.ref d] } } : Shared) = s2 at I2
  have hv : PySem.W.KdlKeysView s2.heap s1.heap.objs.size d ∧ s2.heap.DictAt (mixKind X.prog X.w) d vs ep := by
    subst hs2
    exact ⟨⟨_, Heap.get?_push_size _ rfl, rfl, rfl⟩, hat.push _⟩
  have hK := PySem.W.kdl_keys (prog := X.prog) (w := X.w) (knd := mixKind X.prog X.w) (r := s1.heap.objs.size) (d := d) (kvs := vs) (ep := ep)
  refine PySem.call_max_walk ?_
  obtain ⟨oI, St, hit, W, st⟩ := hK.iter X.A.in1 s2 (I2.ok.hd hc) hv
  refine hit _ _ ⟨s2.heap.objs.size, _, _, vs.length, _, _, fun i j => decide (ks.getD i 0 > ks.getD j 0), rfl, W, st, fun b hb => ?_, by omega, fun i j vi vj s' Q' E' hi hj hq => ?_, fun v h' tk hP hk => ?_⟩
  · show b < (s2.heap.push oI).objs.size
    rw [size_push']
    rcases List.mem_cons.mp hb with e | hb
    · rw [e]; exact Nat.lt_succ_self _
    · rw [List.mem_singleton.mp hb]; exact Nat.lt_succ_of_lt (hK.there _ hv).2
  · obtain ⟨_, t1, rfl⟩ := key_int hkeys hi
    obtain ⟨_, t2, rfl⟩ := key_int hkeys hj
    exact PyProof.Rows.gt_int hq
  · obtain ⟨hlt, t1, rfl⟩ := key_int hkeys hP
    obtain ⟨h1, h2⟩ := argBest_gt (fun i => ks.getD i 0) (vs.length - 1)
    have hk2 : ∀ b o, s2.heap.get? b = some o → h'.get? b = some o := fun b o e => hk b o (fun hI => absurd (Heap.lt_size e) (by rw [List.mem_singleton.mp hI]; exact Nat.lt_irrefl _)) (Heap.get?_push_of_some _ e)
    refine ⟨.int _, H1, I2.kept hk2, ⟨_, rfl⟩, q _ (getD_mem hlt) fun y hy => ?_⟩
    obtain ⟨j, hj, rfl⟩ := mem_getD hy
    exact h2 j (by omega)
end
def maxL : List Int → Int
  | [] => 0
  | k :: r => r.foldl (fun a b => if a < b then b else a) k
theorem maxL_fold : ∀ (r : List Int) (k : Int), (r.foldl (fun a b => if a < b then b else a) k) ∈ k :: r ∧ ∀ y ∈ k :: r, y ≤ r.foldl (fun a b => if a < b then b else a) k
  | [], k => ⟨List.mem_cons_self, fun y hy => by rw [List.mem_singleton.mp hy]; exact Int.le_refl _⟩
  | b :: r, k => by
    obtain ⟨h1, h2⟩ := maxL_fold r (if k < b then b else k)
    simp only [List.foldl_cons]
    refine ⟨?_, fun y hy => ?_⟩
    · rcases List.mem_cons.mp h1 with z | z
      · rw [z]
        split
        · exact List.mem_cons_of_mem _ List.mem_cons_self
        · exact List.mem_cons_self
      · exact List.mem_cons_of_mem _ (List.mem_cons_of_mem _ z)
    · have h3 := h2 _ List.mem_cons_self
      rcases List.mem_cons.mp hy with rfl | hy
      · refine Int.le_trans ?_ h3
        split <;> omega
      · rcases List.mem_cons.mp hy with rfl | hy
        · refine Int.le_trans ?_ h3
          split <;> omega
        · exact h2 y (List.mem_cons_of_mem _ hy)
theorem maxL_ok {ks : List Int} (h : 0 < ks.length) : maxL ks ∈ ks ∧ ∀ y ∈ ks, y ≤ maxL ks := by
  cases ks with
  | nil => cases h
  | cons k r => exact maxL_fold r k
def bMaxKeys (ds : List D) (st : Sto) : R D := match ds with
  | [x] => (match deref st x with
    | .dic kvs => (match keysI kvs with
      | some ks => if 0 < ks.length then .ok (.int (maxL ks)) st else .stuck
      | none => .stuck)
    | _ => .stuck)
  | _ => .stuck
section
variable {X : Cx} {cls : Nat → Value} {W : WX} {pos p apos cpos : Pos} {a : Expr} {ma : ME}
theorem pe_maxKeysM (hg : Gl X "max") (hm : X.mg "max" = none) (hc : X.calm = true) (hb : noCall a = true) (hl : (apos.endLine == cpos.line) = true) (ha : PE X a (tE X.K cls W ma)) :
    PE X (.Call (.Name "max" p) [.Call (.Attribute a "keys" apos) [] [] cpos] [] pos) (tE X.K cls W (mCall bMaxKeys [ma])) := by
  refine PE.weak (pe_maxKeys0 hg hm hc ha (base_ok hb) hl) fun sg H Q h => ?_
  obtain ⟨rho, env, st, w, re, h⟩ := h
  rw [mCall1] at h
  refine ⟨rho, env, st, w, re, OkR.mono (OkR.bind h) fun d st1 rho1 H1 e1 w1 h1 v rv => ?_⟩
  have q := deref_rel w1 rv
  unfold bMaxKeys at h1
  simp only at h1
  split at h1
  · rename_i kvs e
    rw [e] at q
    obtain ⟨l, vs, rfl, g1, g2⟩ := der_dic q
    split at h1
    · rename_i ks e2
      split at h1
      · rename_i hpos
        refine ⟨l, vs, ks, rfl, .inl g1, keysI_rel g2 e2, hpos, fun M hM hle => ?_⟩
        obtain ⟨m1, m2⟩ := maxL_ok hpos
        have : M = maxL ks := Int.le_antisymm (m2 M hM) (hle _ m1)
        rw [this]
        exact ok_here w1 h1 (.int _)
      · exact h1.elim
    · exact h1.elim
  · exact h1.elim
end
end MI
namespace MI
open PySem PySem.Spec PyProof.Rows L2
variable [TC : TabsC]
def mFmt (m : ME) : ME := fun env st => (m env st).bind fun x st => match x with
  | .str y => if y.length ≤ sizeLine then .ok (.str y) st else .stuck
  | .int i => if i.natAbs.log2 < 1920 then .ok (.str (toString i)) st else .stuck
  | _ => .stuck
def mJsGo : List ME → Str → ME
  | [], acc => fun _ st => .ok (.str acc) st
  | m :: ms, acc => fun env st => (m env st).bind fun x st => match x with
    | .str y => if (acc ++ y).length ≤ sizeLine then mJsGo ms (acc ++ y) env st else .stuck
    | _ => .stuck
def mJs (ms : List ME) : ME := mJsGo ms Str.empty
def mapO {α β : Type} (f : α → Option β) : List α → Option (List β)
  | [] => some []
  | a :: as => match f a, mapO f as with
    | some b, some bs => some (b :: bs)
    | _, _ => none
section
variable {X : Cx} {cls : Nat → Value} {W : WX} {e : Expr} {m : ME}
theorem pe_fmtM {pos : Pos} (h : PE X e (tE X.K cls W m)) : PE X (.FormattedValue e (-1) none pos) (tE X.K cls W (mFmt m)) := by
  refine PE.weak (pe_fmt h) fun sg H Q hq => ?_
  obtain ⟨rho, env, st, w, re, hq⟩ := hq
  refine ⟨rho, env, st, w, re, OkR.mono (OkR.bind hq) fun d st1 rho1 H1 e1 w1 h1 v rv => ?_⟩
  split at h1
  · cases rv
    split at h1
    · rename_i hl
      exact .inl ⟨_, rfl, hl, ok_here w1 h1 (.str _)⟩
    · exact h1.elim
  · cases rv
    split at h1
    · rename_i hl
      exact .inr ⟨_, rfl, hl, ok_here w1 h1 (.str _)⟩
    · exact h1.elim
  · exact h1.elim
theorem js_go {K : PySem.W.Frag} : ∀ (ms : List ME) (acc : Str) {sg : L2.St} {rho : Rho} {env : DEnv} {st : Sto} {H : Hp} {Q : VK}, Wld K rho st H → RelEnv K rho H env sg → OkR K cls W sg rho H (mJsGo ms acc env st) (VQ K Q) → tJs (ms.map fun m => tE K cls W m) acc sg H fun out H1 => Q (.str out) H1
  | [], acc, sg, rho, env, st, H, Q, w, re, h => ok_here w h (.str _)
  | m :: ms, acc, sg, rho, env, st, H, Q, w, re, h => by
    refine ⟨rho, env, st, w, re, OkR.mono (OkR.bind h) fun d st1 rho1 H1 e1 w1 h1 v rv => ?_⟩
    split at h1
    · cases rv
      split at h1
      · rename_i hl
        exact ⟨_, rfl, hl, js_go ms _ w1 (re.ext e1) h1⟩
      · exact h1.elim
    · exact h1.elim
theorem pj_of {f : Expr → Option ME} (hf : ∀ e m, f e = some m → PE X e (tE X.K cls W m)) : ∀ {es : List Expr} {ms : List ME}, mapO f es = some ms → PJ X es (ms.map fun m => tE X.K cls W m)
  | [], ms, h => by cases h; exact .nil
  | e :: es, ms, h => by
    unfold mapO at h
    split at h
    · rename_i b bs h1 h2
      cases h
      exact .cons (hf _ _ h1) (pj_of hf h2)
    · cases h
theorem pe_jsM {v1 v2 : Expr} {rest : List Expr} {pos : Pos} {f : Expr → Option ME} (hf : ∀ e m, f e = some m → PE X e (tE X.K cls W m)) {ms : List ME} (h : mapO f (v1 :: v2 :: rest) = some ms) : PE X (.JoinedStr (v1 :: v2 :: rest) pos) (tE X.K cls W (mJs ms)) := by
  refine PE.weak (pe_joined (pj_of hf h)) fun sg H Q hq => ?_
  obtain ⟨rho, env, st, w, re, hq⟩ := hq
  exact js_go ms _ w re hq
end
end MI
namespace MI
open PySem PySem.Spec PyProof.Rows L2
variable [TC : TabsC]
section
variable {X : Cx} {cls : Nat → Value} {W : WX} {pos : Pos} {e : Expr} {m : ME}
theorem pe_exn0 {C : Addr} {bmB : List Value} {B newId initId : String} {x : Str} {p : Pos} (F : ExcBaseFacts B newId initId bmB) (q : PySem.W.excIn X.K C bmB newId = true) (gC : X.mg x = some (.ref C)) (kC : PySem.W.keepIn X.K (.ref C) = true) (hg : Gl X x) (hdb : (x == ("__debug__" : Str)) = false) :
    PE X (.Call (.Name x p) [] [] pos) (fun σ H Q => ∀ a o, H a = none → Zc (.ref C) none o → (∃ vs, o.data = .fields vs) → Q (.ref a) (upd H a (.frz o (.own a)))) := by
  refine ⟨fun pins s σ H Q I h => ?_⟩
  refine wpAny_Call_Name_kw (ld_glob I hg gC ?_ hdb)
  refine PySem.W.callWith_K0 I.kIn kC ?_
  obtain ⟨bm, N, nm, qn, bs, hdct, sn, sub, ab, col, dd, k0, k1, k2, k3, k5, mN, hC, hN, hni, T⟩ := exc_obj I.kIn q
  refine wpAny_call_exc_subT F T hC hN hni (fun h' a hm => ?_) (by show 0 ≤ sizeLine; exact Nat.zero_le _)
  have hn : H a = none := I.hok.gone hm.new
  obtain ⟨t, ht, _, _⟩ := hm.there
  exact ⟨.ref a, upd H a (.frz _ (.own a)), I.laidN hm.keeps hm.new hn ⟨ht, _, ht⟩, rfl, h a _ hn ⟨rfl, rfl⟩ ⟨_, rfl⟩⟩
theorem pe_exnM {C : Addr} {bmB : List Value} {B newId initId : String} {x : Str} {p : Pos} (F : ExcBaseFacts B newId initId bmB) (q : PySem.W.excIn X.K C bmB newId = true) (gC : X.mg x = some (.ref C)) (kC : PySem.W.keepIn X.K (.ref C) = true) (hns : PySem.W.nsIn X.K mainGlobals x = some (some (.ref C))) (hg : Gl X x) (hdb : (x == ("__debug__" : Str)) = false) :
    PE X (.Call (.Name x p) [] [] pos) (tE X.K cls W (mExn x)) := by
  refine PE.weak (pe_exn0 F q gC kC hg hdb) fun sg H Q h => ?_
  obtain ⟨rho, env, st, w, re, h⟩ := h
  intro a o hn hz hf
  exact h (rho.add a) _ (w.extNew hn _) (w.new hn ⟨o, C, upd_same, hns, hz, hf⟩) (.ref a) (.ref (by
    show (rho.loc ++ [a])[st.length]? = some a
    rw [← w.len, List.getElem?_append_right (Nat.le_refl _), Nat.sub_self]
    rfl))
def rIsV (K : PySem.W.Frag) : List V → Hp → VK → Prop := fun xs H Q => ∃ (a : Addr) (o : Obj) (D : Addr) (c : V) (cv : Value) (b : Bool), xs = [.ref a, c] ∧ H a = some (.frz o (.own a)) ∧ Zc (.ref D) none o ∧ (∃ vs, o.data = .fields vs) ∧ ExcC K D ∧ (∀ u, RelV c u → u = cv) ∧ PySem.W.kitOne K (.ref D) cv = some b ∧ Q (.bl b) H
theorem call_isV : CallR X (.builtin "isinstance") (rIsV X.K) := by
  intro pins s σ H xs us Q I r h
  obtain ⟨a, oe, D, c, cv, b, rfl, hH, hz, hf, C, hcv, e, q⟩ := h
  cases r with
  | cons rx rr =>
    cases rr with
    | cons rt rr =>
      cases rr
      cases rx
      have ec := hcv _ rt
      subst ec
      obtain ⟨hget, _⟩ := I.hok a _ hH
      obtain ⟨vs, hv⟩ := hf
      have J : PySem.W.InstAt s.heap a oe D none := by
        obtain ⟨oc, od, oda, osl⟩ := oe
        obtain ⟨h1, h2⟩ := hz
        dsimp only at h1 h2 hv
        subst h1 h2 hv
        exact ⟨hget, rfl, rfl, trivial⟩
      exact PySem.W.kia_one (PySem.W.handS_kitx_exc C.hg C.hk C.hs C.hd C.ha C.hn C.ht C.hm) I.kIn J e (fun z => nomatch z) fun tk => ⟨.bl b, H, I.kept (t' := tk) fun _ _ z => z, rfl, q⟩
theorem pe_isvM {exv tr : List Str} {t : Str} {p p2 : Pos} {cv : V} {u : Value} (hp : plainE e = true) (he : PE X e (tE X.K cls W m)) (hg : Gl X "isinstance") (hm : X.mg "isinstance" = none) (hgt : Gl X t) (hdt : (t == ("__debug__" : Str)) = false)
    (ht : X.mg t = some u ∨ (X.mg t = none ∧ bootBuiltins t = some u ∧ t ≠ "__name__")) (r1 : RelV cv u) (r2 : ∀ w, RelV cv w → w = u) (hk : ∀ x ∈ exv, ∃ D, PySem.W.nsIn X.K mainGlobals x = some (some (.ref D)) ∧ ExcC X.K D ∧ PySem.W.kitOne X.K (.ref D) u = some (decide (x ∈ tr))) :
    PE X (.Call (.Name "isinstance" p) [e, .Name t p2] [] pos) (tE X.K cls W (mIsV exv tr m)) := by
  have h2 : PE X (.Name t p2) (tC cv) := by
    rcases ht with ht | ⟨h0, h1, h2⟩
    · exact pe_glob hgt ht r1 hdt
    · exact pe_bltn hgt h0 h1 r1 h2 hdt
  have ha : PA X [e, .Name t p2] (tCons (tE X.K cls W m) (tCons (tC cv) tNil)) := pa_cons he (pa_cons h2 pa_nil) (star_plain hp)
  refine PE.weak (pe_callB call_isV hg hm boot_isinstance ha (by decide) (by decide) (star_plain hp) rfl) fun sg H Q h => ?_
  obtain ⟨rho, env, st, w, re, h⟩ := h
  refine ⟨rho, env, st, w, re, OkR.mono (OkR.bind h) fun d st1 rho1 H1 e1 w1 h1 v rv => ?_⟩
  unfold isV at h1
  split at h1
  · split at h1
    · rename_i l _ c hl
      split at h1
      · rename_i hc
        cases rv with
        | ref hr =>
          obtain ⟨o, C, g1, g2, g3, g4⟩ := w1.obj _ _ _ hr hl
          obtain ⟨D, k1, k2, k3⟩ := hk c hc
          rw [k1] at g2
          cases g2
          exact ⟨_, o, C, cv, u, _, rfl, g1, g3, g4, k2, r2, k3, h1 rho1 H1 (Ext.refl _ _) w1 (.bl _) (.bl _)⟩
      · exact h1.elim
    · exact h1.elim
  · exact h1.elim
def isBt (v : Option (Option Value)) (t : String) : Bool := match v with
  | some (some (.builtin s)) => s == t
  | _ => false
theorem isBt_eq {v : Option (Option Value)} {t : String} (h : isBt v t = true) : v = some (some (.builtin t)) := by
  unfold isBt at h
  split at h
  · rw [beq_iff_eq] at h
    rw [h]
  · cases h
def isNn (v : Option (Option Value)) : Bool := match v with
  | some none => true
  | _ => false
theorem isNn_eq {v : Option (Option Value)} (h : isNn v = true) : v = some none := by
  unfold isNn at h
  split at h
  · rfl
  · cases h
def excB (K : PySem.W.Frag) (D : Addr) : Bool := isBt (PySem.W.findIn K (.ref D) "__getattribute__") "BaseException.__getattribute__" && (isNn (PySem.W.findIn K (.ref D) "__getattr__") && ((PySem.W.subIn K (.ref D) (.type "BaseException") == some true) && (PySem.W.hasDictIn K D && (isBt (PySem.W.findIn K (.ref D) "__class__") "object.__class__" && (isBt (PySem.W.specialIn K (.builtin "object.__class__") "__get__") "getset_descriptor.__get__" && ((PySem.W.takesIn K (.builtin "object.__class__") == some true) && (PySem.W.mroIn K D (.type "object") == some true)))))))
theorem excB_ok {K : PySem.W.Frag} {D : Addr} (h : excB K D = true) : ExcC K D := by
  unfold excB at h
  simp only [Bool.and_eq_true, beq_iff_eq] at h
  obtain ⟨h1, h2, h3, h4, h5, h6, h7, h8⟩ := h
  exact ⟨isBt_eq h1, isNn_eq h2, h3, h4, isBt_eq h5, isBt_eq h6, h7, h8⟩
def VOk (K : PySem.W.Frag) (mg : Str → Option Value) (x : Str) : Prop := ∃ C, mg x = some (.ref C) ∧ PySem.W.nsIn K mainGlobals x = some (some (.ref C)) ∧ PySem.W.excIn K C [.type "ValueError", .type "Exception", .type "BaseException", .type "object"] "ValueError.__new__" = true ∧ PySem.W.keepIn K (.ref C) = true ∧ ExcC K C
def vokB (K : PySem.W.Frag) (x : Str) : Bool := match PySem.W.nsIn K mainGlobals x with
  | some (some (.ref C)) => PySem.W.excIn K C [.type "ValueError", .type "Exception", .type "BaseException", .type "object"] "ValueError.__new__" && (PySem.W.keepIn K (.ref C) && excB K C)
  | _ => false
theorem vokB_ok {K : PySem.W.Frag} {mg : Str → Option Value} {x : Str} (hmg : ∀ y u, PySem.W.nsIn K mainGlobals y = some (some u) → mg y = some u) (h : vokB K x = true) : VOk K mg x := by
  unfold vokB at h
  split at h
  · rename_i C hC
    simp only [Bool.and_eq_true] at h
    exact ⟨C, hmg _ _ hC, hC, h.1, h.2.1, excB_ok h.2.2⟩
  · cases h
def VIs (K : PySem.W.Frag) (mg : Str → Option Value) (exv : List Str) (t : Str) (tr : List Str) : Prop := ∃ (cv : V) (u : Value), (mg t = some u ∨ (mg t = none ∧ bootBuiltins t = some u ∧ t ≠ "__name__")) ∧ RelV cv u ∧ (∀ w, RelV cv w → w = u) ∧
  ∀ x ∈ exv, ∃ D, PySem.W.nsIn K mainGlobals x = some (some (.ref D)) ∧ ExcC K D ∧ PySem.W.kitOne K (.ref D) u = some (decide (x ∈ tr))
def kitB (K : PySem.W.Frag) (u : Value) (x : Str) (b : Bool) : Bool := match PySem.W.nsIn K mainGlobals x with
  | some (some (.ref D)) => PySem.W.kitOne K (.ref D) u == some b
  | _ => false
def visB (K : PySem.W.Frag) (exv : List Str) (t : Str) (tr : List Str) : Bool := match PySem.W.nsIn K mainGlobals t with
  | some (some (.ref E)) => exv.all fun x => kitB K (.ref E) x (decide (x ∈ tr))
  | some none => (match bootBuiltins t with
    | some (.type T) => decide (t ≠ "__name__") && exv.all fun x => kitB K (.type T) x (decide (x ∈ tr))
    | _ => false)
  | _ => false
theorem visB_ok {K : PySem.W.Frag} {mg : Str → Option Value} {exv : List Str} {t : Str} {tr : List Str} (hmg : ∀ y u, PySem.W.nsIn K mainGlobals y = some (some u) → mg y = some u) (hmn : ∀ y, PySem.W.nsIn K mainGlobals y = some none → mg y = none) (hv : ∀ x ∈ exv, VOk K mg x) (h : visB K exv t tr = true) : VIs K mg exv t tr := by
  have go : ∀ u, (exv.all fun x => kitB K u x (decide (x ∈ tr))) = true → ∀ x ∈ exv, ∃ D, PySem.W.nsIn K mainGlobals x = some (some (.ref D)) ∧ ExcC K D ∧ PySem.W.kitOne K (.ref D) u = some (decide (x ∈ tr)) := fun u h x hx => by
    obtain ⟨C, _, h2, _, _, h5⟩ := hv x hx
    have := List.all_eq_true.mp h x hx
    unfold kitB at this
    rw [h2] at this
    exact ⟨C, h2, h5, by simpa using this⟩
  unfold visB at h
  split at h
  · rename_i E hE
    exact ⟨.ref E, .ref E, .inl (hmg _ _ hE), rfl, fun w r => r, go _ h⟩
  · rename_i hN
    split at h
    · rename_i T hT
      simp only [Bool.and_eq_true, decide_eq_true_eq] at h
      exact ⟨.ty T, .type T, .inr ⟨hmn _ hN, hT, h.1⟩, rfl, fun w r => r, go _ h.2⟩
    · cases h
  · cases h
def EvOk (K : PySem.W.Frag) (mg : Str → Option Value) (exv : List Str) (evi : List (Str × List Str)) : Prop := (∀ x ∈ exv, VOk K mg x) ∧ ∀ t tr, evi.lookup t = some tr → VIs K mg exv t tr
def evB (K : PySem.W.Frag) (exv : List Str) (evi : List (Str × List Str)) : Bool := exv.all (vokB K) && evi.all fun p => visB K exv p.1 p.2
theorem lookup_mem {t : Str} {tr : List Str} : ∀ {l : List (Str × List Str)}, l.lookup t = some tr → (t, tr) ∈ l
  | [], h => by cases h
  | (a, b) :: l, h => by
    rw [List.lookup_cons] at h
    by_cases e : t = a
    · subst e
      simp only [beq_self_eq_true] at h
      cases h
      exact List.mem_cons_self
    · have : (t == a) = false := by simpa using e
      rw [this] at h
      exact List.mem_cons_of_mem _ (lookup_mem h)
theorem evB_ok {K : PySem.W.Frag} {mg : Str → Option Value} {exv : List Str} {evi : List (Str × List Str)} (hmg : ∀ y u, PySem.W.nsIn K mainGlobals y = some (some u) → mg y = some u) (hmn : ∀ y, PySem.W.nsIn K mainGlobals y = some none → mg y = none) (h : evB K exv evi = true) : EvOk K mg exv evi := by
  unfold evB at h
  simp only [Bool.and_eq_true] at h
  have h1 : ∀ x ∈ exv, VOk K mg x := fun x hx => vokB_ok hmg (List.all_eq_true.mp h.1 x hx)
  exact ⟨h1, fun t tr ht => visB_ok hmg hmn h1 (List.all_eq_true.mp h.2 _ (lookup_mem ht))⟩
end
end MI
namespace MI
open PySem PySem.Spec PyProof.Rows L2
variable [TC : TabsC]
structure CC where
  N : List Str
  sc : Scope
  dfn : Bool
  cok : Str → Bool
  fns : List Str
  gl : List (Str × D)
  kd : List (Str × List (Str × D))
  xcs : List Str
  sub : Nat → Nat → Bool
  blt : List Str
  mt : Nat → Nat → Bool
  fuel : Nat
  ocl : List (Str × List Str × List (Str × Nat)) := []
  dt : Nat → Nat → Bool := fun _ _ => false
  lt : Bool := false
  isi : List (Str × (Nat → Bool)) := []
  cx : Nat → Nat → Bool := fun _ _ => false
  exv : List Str := []
  evi : List (Str × List Str) := []
def ixOf : List Str → Str → Option Nat
  | [], _ => none
  | y :: ys, x => if y = x then some 0 else (ixOf ys x).map (· + 1)
theorem ixOf_get : ∀ {N : List Str} {x : Str} {i : Nat}, ixOf N x = some i → N[i]? = some x
  | [], _, _, h => by cases h
  | y :: ys, x, i, h => by
    unfold ixOf at h
    split at h
    · rename_i e
      cases h
      subst e
      rfl
    · obtain ⟨j, hj, rfl⟩ := Option.map_eq_some_iff.mp h
      simpa using ixOf_get hj
def mCallF (i : Nat) (names : List Str) (Ph : Nat → List D → Sto → R D) (es : List ME) : ME := fun env st => match env[i]? with
  | some (some (.fn x)) => (match ixOf names x with
    | some j => mCall (Ph j) es env st
    | none => .stuck)
  | _ => .stuck
def CC.fldOk (c : CC) (f : Str) : Str → Bool := fun k => match c.ocl.lookup k with
  | some p => p.1.contains f
  | none => false
def CC.methOf (c : CC) (m : Str) : Option (Str × Nat) := (c.ocl.map (·.1)).findSome? fun k => match c.ocl.lookup k with
  | some p => (p.2.lookup m).map fun i => (k, i)
  | none => none
def CC.initOf (c : CC) (x : Str) : Option Nat := match c.ocl.lookup x with
  | some p => p.2.lookup ("__init__" : Str)
  | none => none
def CC.kind (c : CC) (x : Str) : Option NameKind := c.sc.names.lookup x
def CC.vis (c : CC) (x : Str) : Bool := match c.kind x with
  | some .local => true
  | some .cell => true
  | some .free => true
  | _ => false
def CC.glb (c : CC) (x : Str) : Bool := match c.kind x with
  | some .globalImplicit => true
  | _ => false
def CC.tgt (c : CC) (x : Str) : Bool := match c.kind x with
  | some .local => true
  | some .cell => c.cok x
  | _ => false
def okName (x : Str) : Bool := !(x == ("__debug__" : Str)) && !(x == ("__classdict__" : Str)) && !(decide (x = ("__name__" : Str)))
def CC.slot (c : CC) (x : Str) : Option Nat := if (c.vis x && okName x) = true then ixOf c.N x else none
def CC.tslot (c : CC) (x : Str) : Option Nat := if c.tgt x = true then ixOf c.N x else none
def CC.tslots (c : CC) : List Expr → Option (List Nat)
  | [] => some []
  | .Name x _ :: es => match c.tslot x, c.tslots es with
    | some i, some is => some (i :: is)
    | _, _ => none
  | _ => none
def CC.tg (c : CC) : Expr → Option (List Nat × MG)
  | .Name x _ => (c.tslot x).map fun i => ([i], gVar i)
  | .Tuple es _ _ => (c.tslots es).map fun is => (is, gTupV is)
  | _ => none
def CC.ownOf (c : CC) : Expr → List (Str × Nat)
  | .Name x _ => match ixOf c.N x with
    | some i => [(x, i)]
    | none => []
  | .Tuple es _ _ => es.filterMap fun e => match e with
    | .Name x _ => (ixOf c.N x).map fun i => (x, i)
    | _ => none
  | _ => []
def CC.kdOf (c : CC) : Expr → Option (List (Str × D))
  | .Name x _ => if (c.glb x && okName x) = true then c.kd.lookup x else none
  | _ => none
def kdCmp (op : CmpOp) (tab : List (Str × D)) : Option (ME → ME) := match op with
  | .In => some (mKIn tab false)
  | .NotIn => some (mKIn tab true)
  | _ => none
def CC.inner (c : CC) (scope : Scope) : CC := { c with sc := relS scope c.sc, dfn := false, cok := fun x => scope.names.lookup x == some .cell, lt := false }
def CC.lamC (c : CC) (p : Str) (scope : Scope) : CC := { c with N := [p], sc := scope, dfn := true, cok := fun _ => true, lt := false }
def lamB (p : Str) (scope : Scope) : Bool := (match scope.kind with | .function => true | _ => false) && !scope.isCoroutine && !scope.isGenerator && (match scope.names.lookup p with | some .local => true | _ => false) && scope.names.all fun y => match y.2 with | .free => false | _ => true
theorem lamB_ok {p : Str} {scope : Scope} (h : lamB p scope = true) : FnScope [p] [p] scope := by
  unfold lamB at h
  simp only [Bool.and_eq_true, Bool.not_eq_true'] at h
  obtain ⟨⟨⟨⟨h1, h2⟩, h3⟩, h4⟩, h5⟩ := h
  refine ⟨?_, h2, h3, by simp, rfl, fun x hx => ?_, fun y hy e => ?_⟩
  · split at h1
    · assumption
    · cases h1
  · rw [List.mem_singleton.mp hx]
    split at h4
    · exact .inl (by assumption)
    · cases h4
  · have := List.all_eq_true.mp h5 y hy
    rw [e] at this
    cases this
def CC.lockOf (c : CC) : Expr → Option Nat
  | .Call (.Attribute (.Name x _) m _) [] [] _ => if m = "keys" ∨ m = "values" ∨ m = "items" then c.slot x else none
  | _ => none
def lkE : Option Nat → ME → ME
  | none, m => m
  | some i, m => mLock i m
def lkS : Option Nat → MS → MS
  | none, m => m
  | some i, m => sLock i m
def testable : Expr → Bool
  | .IfExp .. => false
  | _ => true
def isBoolOp : Expr → Bool
  | .BoolOp .. => true
  | _ => false
def binF : Operator → Option (D → D → Sto → R D)
  | .Add => some opAdd
  | .Sub => some opSub
  | .Mult => some opMul
  | .Mod => some opMod
  | .FloorDiv => some opDiv
  | .Pow => some opPow
  | _ => none
def CC.binP (c : CC) (op : Operator) (p : Pos) : Option (D → D → Sto → R D) := match op with
  | .Add => if c.mt p.line p.col = true then some opAddN else some opAdd
  | .Mult => if c.mt p.line p.col = true then some opMulN else some opMul
  | op => binF op
def cmpF : CmpOp → Option (D → D → Sto → R D)
  | .Lt => some opLt
  | .LtE => some opLe
  | .Gt => some opGt
  | .GtE => some opGe
  | .Eq => some opEq
  | .NotEq => some opNe
  | .Is => some opIs
  | .IsNot => some opIsNot
  | .In => some opIn
  | .NotIn => some opNotIn
noncomputable def bltB (x : Str) : Option (List D → Sto → R D) :=
  if x = "len" then some bLen else if x = "abs" then some bAbs else if x = "min" then some bMin else if x = "max" then some bMax else if x = "all" then some bAll
  else if x = "any" then some bAny else if x = "sum" then some bSum else if x = "ord" then some bOrd else if x = "sorted" then some bSortedA else none
def bltT (x : Str) (n : Bool) : Option (List D → Sto → R D) :=
  if x = "tuple" then some bTuple else if x = "list" then (if n then some bListN else some bList) else if x = "str" then some bStr else if x = "dict" then (if n then some bDictN else some bDict) else if x = "int" then some bInt else none
noncomputable def CC.setArg (c : CC) (x : Str) (a : Expr) (as : List Expr) (n : Bool) : Option (Expr × (List D → Sto → R D)) := match a, as with
  | .Call (.Name y _) [b] [] _, [] => if y = "set" ∧ c.glb y = true ∧ y ∈ c.blt then (if x = "sorted" then some (b, bSortSet) else if x = "len" then some (b, bLenSet) else none) else none
  | .Call (.Attribute b m ap) [] [] q, [] => if m = "keys" ∧ (noCall b && (ap.endLine == q.line)) = true ∧ x = "sorted" then some (b, if n = true then bSortKeysN else bSortKeysA) else if m = "keys" ∧ (noCall b && (ap.endLine == q.line)) = true ∧ x = "len" then some (b, bLenKeys) else if m = "keys" ∧ (noCall b && (ap.endLine == q.line)) = true ∧ x = "max" then some (b, bMaxKeys) else none
  | _, _ => none
def CC.rngArg (c : CC) (x : Str) (a : Expr) (as : List Expr) (n : Bool) : Option (Expr × (List D → Sto → R D)) := match a, as with
  | .Call (.Name y _) [b] [] _, [] => if x = "list" ∧ y = "range" ∧ c.glb y = true ∧ y ∈ c.blt then some (b, if n = true then bRangeLN else bRangeL) else none
  | _, _ => none
def tyOf (x : Str) : Option String :=
  if x = "int" then some "int" else if x = "bool" then some "bool" else if x = "str" then some "str" else if x = "tuple" then some "tuple" else if x = "list" then some "list" else if x = "dict" then some "dict" else none
def lstM (x : Str) : Option (D → List D → Sto → R D) :=
  if x = "append" then some mAppend else if x = "pop" then some mPop else if x = "extend" then some mExtend else if x = "reverse" then some mReverse else if x = "insert" then some mInsert else none
mutual
noncomputable def ofE (Ph : Nat → List D → Sto → R D) : Nat → CC → Expr → Option ME
  | 0, _, _ => none
  | n + 1, c, e => match e with
    | .Name x _ => (match c.slot x with
      | some i => some (mVar i)
      | none => if (c.glb x && okName x) = true then (c.gl.lookup x).map mC else none)
    | .Constant k _ _ => (match k with
      | .int i => some (mC (.int i))
      | .bool b => some (mC (.bl b))
      | .none => some (mC .non)
      | .str s => some (mC (.str s))
      | _ => none)
    | .BinOp a op b p => (match c.binP op p, ofE Ph n c a, ofE Ph n c b with
      | some f, some ma, some mb => some (mBin f ma mb)
      | _, _, _ => none)
    | .UnaryOp .USub a _ => (ofE Ph n c a).map mNeg
    | .UnaryOp .Not a _ => if testable a = true then (ofE Ph n c a).map mNot else none
    | .BoolOp _ [a] _ => if testable a = true then ofE Ph n c a else none
    | .BoolOp .And (a :: b :: r) p => (match ofE Ph n c a, ofE Ph n c (.BoolOp .And (b :: r) p) with
      | some ma, some mb => if testable a = true then some (mAnd ma mb) else none
      | _, _ => none)
    | .BoolOp .Or (a :: b :: r) p => (match ofE Ph n c a, ofE Ph n c (.BoolOp .Or (b :: r) p) with
      | some ma, some mb => if testable a = true then some (mOr ma mb) else none
      | _, _ => none)
    | .Compare a [op] [b] _ => (match cmpF op, ofE Ph n c a, ofE Ph n c b with
      | some f, some ma, some mb => if behindInMarks op b = false then some (mBin f ma mb) else none
      | some _, some ma, none => (match c.kdOf b with
        | some tab => (kdCmp op tab).map fun g => g ma
        | none => none)
      | _, _, _ => none)
    | .Compare a [op, op'] [b, d] _ => (match cmpF op, cmpF op', ofE Ph n c a, ofE Ph n c b, ofE Ph n c d with
      | some f, some g, some ma, some mb, some md => if behindInMarks op' d = false then some (mChain f g ma mb md) else none
      | _, _, _, _, _ => none)
    | .IfExp t a b _ => (match ofE Ph n c t, ofE Ph n c a, ofE Ph n c b with
      | some mt, some ma, some mb => if testable t = true then some (mIfE mt ma mb) else none
      | _, _, _ => none)
    | .Tuple es _ _ => (ofEs Ph n c es).map mTup
    | .List es p => (ofEs Ph n c es).map (if c.mt p.line p.col = true then mNew else mLst)
    | .Dict [] [] p => some (if c.dt p.line p.col = true then mNewDT else if c.mt p.line p.col = true then mNewD else mC (.dic []))
    | .Dict (ok :: ks) vs p => if c.dt p.line p.col = true then (if ks.length < 15 then (ofPs Ph n c (ok :: ks) vs).map mDTs else none) else (match ok, ks, vs with
      | some a, [], [b] => (match ofE Ph n c a, ofE Ph n c b with
        | some ma, some mb => some (mDic1 ma mb)
        | _, _ => none)
      | _, _, _ => none)
    | .Subscript a (.Slice lo hi none _) p => (match ofE Ph n c a, ofO Ph n c lo, ofO Ph n c hi with
      | some ma, some ml, some mh => some (if c.mt p.line p.col = true then mSlN ma ml mh else mSl ma ml mh)
      | _, _, _ => none)
    | .Subscript a (.Slice lo hi (some s) _) _ => (match ofE Ph n c a, ofO Ph n c lo, ofO Ph n c hi, ofE Ph n c s with
      | some ma, some ml, some mh, some ms => some (mSt ma ml mh (some ms))
      | _, _, _, _ => none)
    | .Subscript a b _ => (match ofE Ph n c a, ofE Ph n c b with
      | some ma, some mb => if noSlice b = true then some (mBin opIx ma mb) else none
      | none, some mb => if noSlice b = true then (c.kdOf a).map fun tab => mKIx tab mb else none
      | _, _ => none)
    | .Call (.Name x _) [] [] _ => if (c.glb x && okName x) = true then (match ixOf c.fns x with
        | some i => some (mCall (Ph i) [])
        | none => if x ∈ c.exv then some (mExn x) else (c.initOf x).map fun i => mMake x (Ph i) []) else none
    | .Call (.Name x _) (a :: as) [] p => if (c.glb x && okName x) = true then (match ixOf c.fns x with
        | some i => (ofEs Ph n c (a :: as)).map (mCall (Ph i))
        | none => (match c.initOf x with
        | some i => (ofEs Ph n c (a :: as)).map (mMake x (Ph i))
        | none => if x ∈ c.blt then (match bltB x with
          | some f => (match c.setArg x a as (c.mt p.line p.col) with
            | some (b, g) => (ofE Ph n c b).map fun m => mCall g [m]
            | none => (ofEs Ph n c (a :: as)).map (mCall f))
          | none => (match bltT x (c.mt p.line p.col) with
            | some f => (match c.rngArg x a as (c.mt p.line p.col) with
              | some (b, g) => (ofE Ph n c b).map fun m => mCall g [m]
              | none => (ofEs Ph n c (a :: as)).map (mCall f))
            | none => (match as with
              | [.Name t _] => (match c.evi.lookup t with
                | some tr => if x = "isinstance" ∧ (c.glb t && okName t) = true then (ofE Ph n c a).map (mIsV c.exv tr) else none
                | none => if x = "isinstance" ∧ (c.glb t && okName t) = true ∧ t ∈ c.blt then (match tyOf t, ofE Ph n c a with
                | some T, some ma => some (mIsI T ma)
                | _, _ => none) else none)
              | _ => none))) else none))
      else (match c.slot x with
        | some i => (ofEs Ph n c (a :: as)).map (mCallF i c.fns Ph)
        | none => none)
    | .Attribute e f _ => if noCall e = true then (ofE Ph n c e).map (mFld (c.fldOk f) f) else none
    | .Call (.Attribute o m ap) [] [] p => if (noCall o && (ap.endLine == p.line)) = true then (match c.methOf m, ofE Ph n c o with
      | some (k, i), some mo => some (mMethO k m (Ph i) mo [])
      | none, some mo => (lstM m).map fun f => mMethL f mo []
      | _, _ => none) else none
    | .Call (.Attribute o m ap) (a :: as) [] p => if (noCall o && (ap.endLine == p.line) && decide ((a :: as).length < 30)) = true then (match c.methOf m, lstM m, ofE Ph n c o, ofEs Ph n c (a :: as) with
      | some (k, i), _, some mo, some ms => some (mMethO k m (Ph i) mo ms)
      | none, some f, some mo, some ms => if m = "pop" ∧ c.dt p.line p.col = true then (match as with
        | [] => (ofE Ph n c a).map (mDPop mo)
        | _ => none) else if m = "pop" ∧ c.mt p.line p.col = true then (match as with
        | [] => (ofE Ph n c a).map (mKPop mo)
        | _ => none) else some (mMethL f mo ms)
      | none, none, some mo, some ms => if m = "get" then (match as with
        | [] => (ofE Ph n c a).map (mDGet1 mo)
        | [b] => (match ofE Ph n c a, ofE Ph n c b with
          | some m1, some m2 => some (mDGet2 mo m1 m2)
          | _, _ => none)
        | _ => none) else if m = "index" ∧ c.dt p.line p.col = true then some (mMethL mIndexL mo ms) else (strM m).map fun f => mMethS f mo ms
      | _, _, _, _ => none) else none
    | .ListComp elt [⟨tg, it, ifs, 0⟩] scope p => (match ofLc Ph n c elt tg it ifs scope with
      | some (mi, vs, g, k, me) => some (if (c.cx p.line p.col && c.dfn) = true then mCompX mi vs g k me else lkE (c.lockOf it) (if c.mt p.line p.col then mCompN mi vs g k me else mComp mi vs g k me))
      | none => none)
    | .Call (.Name x _) [a] [⟨some kn, .Lambda ⟨[], [⟨p, none, _⟩], none, [], [], none, []⟩ body scope _, _⟩] _ => if (x = "sorted" ∧ kn = "key" ∧ c.lt = true) ∧ c.glb x = true ∧ x ∈ c.blt ∧ lamB p scope = true then (match ofE Ph n c a, ofE Ph n (c.lamC p scope) body with
      | some ma, some mk => some (mSortK ma mk)
      | _, _ => none) else none
    | .Call (.Name x _) [a] [⟨some kn, .Constant k kd kp, _⟩] _ => if (x = "max" ∧ kn = "default") ∧ c.glb x = true ∧ x ∈ c.blt then (match ofE Ph n c a, ofE Ph n c (.Constant k kd kp) with
      | some ma, some mb => some (mMaxD ma mb)
      | _, _ => none) else none
    | .JoinedStr (v1 :: v2 :: vs) _ => (mapO (ofE Ph n c) (v1 :: v2 :: vs)).map mJs
    | .JoinedStr [v1] _ => ofE Ph n c v1
    | .FormattedValue a k none _ => if k = -1 then (ofE Ph n c a).map mFmt else none
    | _ => none
noncomputable def ofEs (Ph : Nat → List D → Sto → R D) : Nat → CC → List Expr → Option (List ME)
  | 0, _, _ => none
  | _ + 1, _, [] => some []
  | n + 1, c, e :: es => match ofE Ph n c e, ofEs Ph n c es with
    | some m, some ms => some (m :: ms)
    | _, _ => none
noncomputable def ofPs (Ph : Nat → List D → Sto → R D) : Nat → CC → List (Option Expr) → List Expr → Option (List (ME × ME))
  | 0, _, _, _ => none
  | _ + 1, _, [], [] => some []
  | n + 1, c, some a :: ks, b :: vs => match ofE Ph n c a, ofE Ph n c b, ofPs Ph n c ks vs with
    | some ma, some mb, some r => some ((ma, mb) :: r)
    | _, _, _ => none
  | _ + 1, _, _, _ => none
noncomputable def ofO (Ph : Nat → List D → Sto → R D) : Nat → CC → Option Expr → Option (Option ME)
  | 0, _, _ => none
  | _ + 1, _, none => some none
  | n + 1, c, some e => (ofE Ph n c e).map some
noncomputable def ofI (Ph : Nat → List D → Sto → R D) : Nat → CC → Expr → Expr → Option MIt
  | 0, _, _, _ => none
  | n + 1, c, tg, e => match e with
    | .Call (.Name x _) [a] [] _ => if x = "range" ∧ c.glb x = true ∧ x ∈ c.blt then (ofE Ph n c a).map iRange1 else if x = "reversed" ∧ c.glb x = true ∧ x ∈ c.blt then (ofE Ph n c a).map iRevM
      else if x = "enumerate" ∧ c.glb x = true ∧ x ∈ c.blt then (match tg, ofE Ph n c a with
      | .Tuple _ _ _, some ma => some (iEnumM ma)
      | _, _ => none) else (ofE Ph n c e).map iSeq
    | .Call (.Name x _) [a, b] [] _ => if x = "range" ∧ c.glb x = true ∧ x ∈ c.blt then (match ofE Ph n c a, ofE Ph n c b with
      | some ma, some mb => some (iRange2 ma mb)
      | _, _ => none) else if x = "zip" ∧ c.glb x = true ∧ x ∈ c.blt then (match tg, ofE Ph n c a, ofE Ph n c b with
      | .Tuple _ _ _, some ma, some mb => some (iZip ma mb)
      | _, _, _ => none) else (ofE Ph n c e).map iSeq
    | .Call (.Name x _) [a, b, d] [] _ => if x = "range" ∧ c.glb x = true ∧ x ∈ c.blt then (match ofE Ph n c a, ofE Ph n c b, ofE Ph n c d with
      | some ma, some mb, some md => some (iRange3 ma mb md)
      | _, _, _ => none) else (ofE Ph n c e).map iSeq
    | .Call (.Attribute o m ap) [] [] p => if m = "keys" ∧ (noCall o && (ap.endLine == p.line)) = true then (ofE Ph n c o).map iKeysL else if m = "values" ∧ (noCall o && (ap.endLine == p.line)) = true then (ofE Ph n c o).map iValsL else if m = "items" ∧ (noCall o && (ap.endLine == p.line)) = true then (match tg with
      | .Tuple _ _ _ => (ofE Ph n c o).map iItemsL
      | _ => none) else (ofE Ph n c e).map iSeq
    | e => (ofE Ph n c e).map iSeq
noncomputable def ofLc (Ph : Nat → List D → Sto → R D) : Nat → CC → Expr → Expr → Expr → List Expr → Scope → Option (MIt × List Nat × MG × Option ME × ME)
  | 0, _, _, _, _, _, _ => none
  | n + 1, c, elt, tg, it, ifs, scope => match ofI Ph n c tg it, (c.inner scope).tg tg, ofE Ph n (c.inner scope) elt with
    | some mi, some (vs, g), some me => if (noSet it && blkC c.N c.sc scope (c.ownOf tg)) = true ∧ (c.ownOf tg).map (·.2) = vs then (match ifs with
      | [] => some (mi, vs, g, none, me)
      | [t] => (match ofE Ph n (c.inner scope) t with
        | some mt => if testable t = true then some (mi, vs, g, some mt, me) else none
        | none => none)
      | _ => none) else none
    | _, _, _ => none
end
def XOk (K : PySem.W.Frag) (mg : Str → Option Value) (v : Value) (x : Str) : Prop := ∃ C, v = .ref C ∧ mg x = some (.ref C) ∧ PySem.W.excIn K C [.type "ValueError", .type "Exception", .type "BaseException", .type "object"] "ValueError.__new__" = true ∧ PySem.W.keepIn K (.ref C) = true ∧
  PySem.W.subIn K (.ref C) (.type "BaseException") = some true ∧ PySem.W.typeIn K (.ref C) = some (.type "type")
def FOk (P : Program) (w : World) (K : PySem.W.Frag) (mg : Str → Option Value) (base : Heap) (cls : Nat → Value) (k : Nat) (x : Str) (f : List D → Sto → R D) : Prop := ∃ fa fd ps, mg x = some (.ref fa) ∧ PySem.W.keepIn K (.ref fa) = true ∧ Binds K fd ps [] ∧ FnOk P w K mg base (L2.CX P w) k fa fd ps (spF K cls f) ∧ PySem.W.nsIn K mainGlobals x = some (some (.ref fa))
def GOk (K : PySem.W.Frag) (mg : Str → Option Value) (x : Str) (d : D) : Prop := ∃ u v, mg x = some u ∧ RelV v u ∧ ∀ rho H, RelD K rho H d v
def KOk (K : PySem.W.Frag) (w : World) (mg : Str → Option Value) (x : Str) (tab : List (Str × D)) : Prop := ∃ d es n, mg x = some (.ref d) ∧ KDict K w d es n ∧
  ∀ z : Str, (tab.lookup z = none ∧ PySem.W.nsIn K d z = some none) ∨ ∃ t u v, tab.lookup z = some t ∧ PySem.W.nsIn K d z = some (some u) ∧ RelV v u ∧ ∀ rho H, RelD K rho H t v
def COk (P : Program) (w : World) (K : PySem.W.Frag) (mg : Str → Option Value) (base : Heap) (cls : Nat → Value) (k : Nat) (x : Str) (fl : List Str) (ms : List (Str × Nat)) (Ph : Nat → List D → Sto → R D) : Prop := ∃ C, PySem.W.nsIn K mainGlobals x = some (some (.ref C)) ∧ mg x = some (.ref C) ∧ Cls K C ∧ (∀ f ∈ fl, NoAttr K C f) ∧
  (∀ (m : Str) (i : Nat), ms.lookup m = some i → ∃ fa fd ps, Meth K C m fa ∧ Binds K fd ps [] ∧ FnOk P w K mg base (L2.CX P w) k fa fd ps (spF K cls (Ph i))) ∧ PySem.W.makesIn K C = true ∧ PySem.W.keepIn K (.ref C) = true
def IsiOk (K : PySem.W.Frag) (mg : Str → Option Value) (cls : Nat → Value) (t : Str) (g : Nat → Bool) : Prop := ∃ (cv : V) (u : Value), (mg t = some u ∨ (mg t = none ∧ bootBuiltins t = some u ∧ t ≠ "__name__")) ∧ RelV cv u ∧ (∀ w, RelV cv w → w = u) ∧
  ∀ k, ∃ D, cls k = .ref D ∧ ExcC K D ∧ PySem.W.kitOne K (.ref D) u = some (g k)
structure Good (X : Cx) (cls : Nat → Value) (W : WX) (c : CC) (Ph : Nat → List D → Sto → R D) (k : Nat) : Prop where
  calm : X.calm = true
  nd : X.N.Nodup
  hN : X.N = c.N
  sc : X.env.scope = c.sc
  cok : ∀ x, c.cok x = true → X.fn x = true
  room : Room (k + 1) X.A
  own : PassesOwn (model X.prog X.w) X.A X.env X.xe
  tk : Takes X W
  stk : c.dfn = true → X.stack = X.env :: X.outer ∧ X.env.frame = some X.env.locals
  blt : ∀ x ∈ c.blt, X.mg x = none
  fns : ∀ (i : Nat) (x : Str), c.fns[i]? = some x → FOk X.prog X.w X.K X.mg X.base cls k x (Ph i)
  gl : ∀ (x : Str) (d : D), c.gl.lookup x = some d → GOk X.K X.mg x d
  kd : ∀ (x : Str) (t : List (Str × D)), c.kd.lookup x = some t → KOk X.K X.w X.mg x t
  xcs : ∀ (i : Nat) (x : Str), c.xcs[i]? = some x → XOk X.K X.mg (cls i) x
  sub : c.xcs ≠ [] → ∀ a b, PySem.W.exmOne X.K (cls a) (cls b) = some (c.sub a b)
  ocl : ∀ (x : Str) (p : List Str × List (Str × Nat)), c.ocl.lookup x = some p → COk X.prog X.w X.K X.mg X.base cls k x p.1 p.2 Ph
  isi : ∀ (t : Str) (g : Nat → Bool), c.isi.lookup t = some g → IsiOk X.K X.mg cls t g
  evs : EvOk X.K X.mg c.exv c.evi
  lam : c.lt = true → LamOk X
  lroom : c.lt = true → Room (k + 2) X.A
section
variable {X : Cx} {cls : Nat → Value} {W : WX} {c : CC} {Ph : Nat → List D → Sto → R D} {k : Nat}
theorem Good.un (G : Good X cls W c Ph k) : X.A.units + 65 < cLine := by have := G.room.un; omega
theorem Good.un2 (G : Good X cls W c Ph k) : X.A.units + 66 < cLine := by have := G.room.un; omega
theorem Good.visOk (G : Good X cls W c Ph k) {x : Str} {i : Nat} (h : c.slot x = some i) : X.N[i]? = some x ∧ Vis X.env.scope x ∧ (x == ("__debug__" : Str)) = false ∧ (x == ("__classdict__" : Str)) = false := by
  unfold CC.slot at h
  split at h
  · rename_i hc
    simp only [Bool.and_eq_true, okName, Bool.not_eq_true'] at hc
    refine ⟨by rw [G.hN]; exact ixOf_get h, ?_, hc.2.1.1, hc.2.1.2⟩
    rw [G.sc]
    have hv := hc.1
    unfold CC.vis CC.kind at hv
    unfold Vis
    split at hv
    · exact .inl (by assumption)
    · exact .inr (.inl (by assumption))
    · exact .inr (.inr (by assumption))
    · cases hv
  · cases h
theorem Good.roomK (G : Good X cls W c Ph k) : Room k X.A := G.room.mono (Nat.le_succ k)
theorem Good.fld (G : Good X cls W c Ph k) {f : Str} : ∀ x, c.fldOk f x = true → ∃ fl, ClsAt X.K x fl ∧ f ∈ fl := fun x h => by
  unfold CC.fldOk at h
  split at h
  · rename_i p hp
    obtain ⟨C, h1, h2, h3, h4, _⟩ := G.ocl x p hp
    refine ⟨p.1, fun C' hC => ?_, by simpa using h⟩
    rw [h1] at hC
    cases hC
    exact ⟨h3, h4⟩
  · cases h
theorem Good.meth (G : Good X cls W c Ph k) {m x : Str} {i : Nat} (h : c.methOf m = some (x, i)) : ∃ C fa fd ps, PySem.W.nsIn X.K mainGlobals x = some (some (.ref C)) ∧ Cls X.K C ∧ Meth X.K C m fa ∧ Binds X.K fd ps [] ∧ FnOk X.prog X.w X.K X.mg X.base (L2.CX X.prog X.w) k fa fd ps (spF X.K cls (Ph i)) := by
  unfold CC.methOf at h
  obtain ⟨y, _, hy⟩ := List.exists_of_findSome?_eq_some h
  split at hy
  · rename_i p hp
    obtain ⟨j, hj, e⟩ := Option.map_eq_some_iff.mp hy
    cases e
    obtain ⟨C, h1, h2, h3, h4, h5, _⟩ := G.ocl _ p hp
    obtain ⟨fa, fd, ps, a1, a2, a3⟩ := h5 m i hj
    exact ⟨C, fa, fd, ps, h1, h3, a1, a2, a3⟩
  · cases hy
theorem Good.mkO (G : Good X cls W c Ph k) {x : Str} {i : Nat} (h : c.initOf x = some i) : ∃ C fa fd ps, PySem.W.nsIn X.K mainGlobals x = some (some (.ref C)) ∧ X.mg x = some (.ref C) ∧ Mk X.K C fa ∧ Binds X.K fd ps [] ∧ FnOk X.prog X.w X.K X.mg X.base (L2.CX X.prog X.w) k fa fd ps (spF X.K cls (Ph i)) := by
  unfold CC.initOf at h
  split at h
  · rename_i p hp
    obtain ⟨C, h1, h2, h3, h4, h5, h6, h7⟩ := G.ocl _ p hp
    obtain ⟨fa, fd, ps, a1, a2, a3⟩ := h5 _ i h
    exact ⟨C, fa, fd, ps, h1, h2, ⟨h6, a1.at_, a1.fn, h7⟩, a2, a3⟩
  · cases h
theorem Good.glOk (G : Good X cls W c Ph k) {x : Str} (h : c.glb x = true) : Gl X x := by
  unfold CC.glb CC.kind at h
  show X.env.scope.names.lookup x = some .globalImplicit
  rw [G.sc]
  split at h
  · assumption
  · cases h
theorem okName_ok {x : Str} (h : okName x = true) : (x == ("__debug__" : Str)) = false ∧ (x == ("__classdict__" : Str)) = false ∧ x ≠ "__name__" := by
  simp only [okName, Bool.and_eq_true, Bool.not_eq_true', decide_eq_false_iff_not] at h
  exact ⟨h.1.1, h.1.2, h.2⟩
theorem Good.tgtOk (G : Good X cls W c Ph k) {x : Str} {i : Nat} (h : c.tslot x = some i) : X.N[i]? = some x ∧ Loc X.env.scope x ∧ (X.fn x = true ∨ X.env.scope.names.lookup x = some .local) := by
  unfold CC.tslot at h
  split at h
  · rename_i hc
    refine ⟨by rw [G.hN]; exact ixOf_get h, ?_⟩
    rw [G.sc]
    unfold CC.tgt CC.kind at hc
    split at hc
    · rename_i e
      exact ⟨.inl e, .inr e⟩
    · rename_i e
      exact ⟨.inr e, .inl (G.cok x hc)⟩
    · cases hc
  · cases h
theorem Good.names (G : Good X cls W c Ph k) : ∀ {es : List Expr} {is : List Nat}, c.tslots es = some is → NamesAt X es is
  | [], is, h => by cases h; exact .nil
  | e :: es, is, h => by
    cases e <;> simp only [CC.tslots, reduceCtorEq] at h
    split at h
    · rename_i i is' h1 h2
      cases h
      obtain ⟨a1, a2, a3⟩ := G.tgtOk h1
      exact .cons a1 a2 a3 (G.names h2)
    · cases h
theorem Good.tgPG (G : Good X cls W c Ph k) {tg : Expr} {vs : List Nat} {g : MG} (h : c.tg tg = some (vs, g)) : PG X tg (tGm X.K vs g) := by
  cases tg <;> simp only [CC.tg, Option.map_eq_some_iff, Prod.mk.injEq, reduceCtorEq] at h
  · obtain ⟨i, h1, rfl, rfl⟩ := h
    obtain ⟨a1, a2, a3⟩ := G.tgtOk h1
    exact pg_varM G.nd a1 a2 a3
  · obtain ⟨is, h1, rfl, rfl⟩ := h
    exact pg_tupM G.calm G.nd (G.names h1)
theorem Good.blk (G : Good X cls W c Ph k) {scope : Scope} (s : Shared) (H : Hp) (C : Addr) (cl : List (Str × Addr)) (fp : List Addr) : Good (X.blk s H scope (compEnvC scope cl C X.env) fp) cls WF (c.inner scope) Ph k where
  calm := G.calm
  nd := G.nd
  hN := G.hN
  sc := by
    show relabel scope X.env = relS scope c.sc
    rw [← G.sc]
    rfl
  cok := fun x h => h
  room := G.room
  own := PassesOwn.never
  tk := takes_none5
  stk := fun h => by cases h
  blt := G.blt
  fns := G.fns
  isi := G.isi
  evs := G.evs
  gl := G.gl
  kd := G.kd
  xcs := G.xcs
  sub := G.sub
  ocl := G.ocl
  lam := fun h => by cases h
  lroom := fun h => by cases h
theorem Good.tr (G : Good X cls W c Ph k) {W' : WX} (pn : List (Addr × Obj)) (xe : Value → Shared → Prop) (tk : Takes (X.tr pn xe) W') (own : PassesOwn (model X.prog X.w) X.A X.env xe) : Good (X.tr pn xe) cls W' c Ph k where
  calm := G.calm
  nd := G.nd
  hN := G.hN
  sc := G.sc
  cok := G.cok
  room := G.room
  own := own
  tk := tk
  stk := G.stk
  blt := G.blt
  fns := G.fns
  isi := G.isi
  evs := G.evs
  gl := G.gl
  kd := G.kd
  xcs := G.xcs
  sub := G.sub
  ocl := G.ocl
  lam := G.lam
  lroom := G.lroom
theorem Good.blkX (G : Good X cls W c Ph k) {scope : Scope} (s : Shared) (H : Hp) (C : Addr) (cl : List (Str × Addr)) (fp : List Addr) {W' : WX} {xe : Value → Shared → Prop} (tk : Takes ((X.blk s H scope (compEnvC scope cl C X.env) fp).tr [] xe) W') (own : PassesOwn (model X.prog X.w) X.A (compEnvC scope cl C X.env) xe) :
    Good ((X.blk s H scope (compEnvC scope cl C X.env) fp).tr [] xe) cls W' (c.inner scope) Ph k := (G.blk s H C cl fp).tr [] xe tk own
abbrev Hop (X : Cx) (cls : Nat → Value) (W : WX) (f : D → D → Sto → R D) (r : R2) : Prop := ∀ {sg : L2.St} {rho : Rho} {st : Sto} {H : Hp} {Q : VK} {x y : D} {v u : V}, Wld X.K rho st H → RelD X.K rho H x v → RelD X.K rho H y u → OkR X.K cls W sg rho H (f x y st) (VQ X.K Q) → r v u H Q
theorem binF_ok {op : Operator} {f : D → D → Sto → R D} (h : binF op = some f) : ∃ r, OpR X (binaryOp op) r ∧ Hop X cls W f r := by
  cases op <;> simp only [binF, Option.some.injEq, reduceCtorEq] at h <;> subst h
  · exact ⟨_, op_addA, hop_add⟩
  · exact ⟨_, op_sub, hop_sub⟩
  · exact ⟨_, op_mulA, hop_mul⟩
  · exact ⟨_, op_mod, hop_mod⟩
  · exact ⟨_, op_pow, hop_pow⟩
  · exact ⟨_, op_fdivW, hop_div⟩
theorem binP_ok {op : Operator} {p : Pos} {f : D → D → Sto → R D} (h : c.binP op p = some f) : ∃ r, OpR X (binaryOp op) r ∧ Hop X cls W f r := by
  unfold CC.binP at h
  split at h
  · split at h
    · cases h; exact ⟨_, op_addA, hop_addN⟩
    · cases h; exact ⟨_, op_addA, hop_add⟩
  · split at h
    · cases h; exact ⟨_, op_mulA, hop_mulN⟩
    · cases h; exact ⟨_, op_mulA, hop_mul⟩
  · exact binF_ok h
theorem cmpF_ok (hu : X.A.units + 66 < cLine) {op : CmpOp} {f : D → D → Sto → R D} (h : cmpF op = some f) : ∃ r, OpR X (compareOp op) r ∧ Hop X cls W f r := by
  cases op <;> simp only [cmpF, Option.some.injEq, reduceCtorEq] at h <;> subst h
  · exact ⟨_, op_eqA (by omega), hop_eq⟩
  · exact ⟨_, op_neA (by omega), hop_ne⟩
  · exact ⟨_, op_lt, hop_cmp⟩
  · exact ⟨_, op_le, hop_cmp⟩
  · exact ⟨_, op_gt, hop_cmp⟩
  · exact ⟨_, op_ge, hop_cmp⟩
  · exact ⟨_, op_isA, hop_is⟩
  · exact ⟨_, op_isNotA, hop_isNot⟩
  · exact ⟨_, op_inA (by omega), hop_in⟩
  · exact ⟨_, op_notInA (by omega), hop_notIn⟩
theorem cmpF_bl {op : CmpOp} {f : D → D → Sto → R D} (h : cmpF op = some f) : ∀ x y st d st', f x y st = .ok d st' → ∃ b, d = .bl b := by
  intro x y st d st' q
  cases op <;> simp only [cmpF, Option.some.injEq, reduceCtorEq] at h <;> subst h
  · unfold opEq at q
    split at q
    · cases q; exact ⟨_, rfl⟩
    · split at q
      · cases q; exact ⟨_, rfl⟩
      · split at q
        · cases q; exact ⟨_, rfl⟩
        · split at q
          · cases q; exact ⟨_, rfl⟩
          · split at q
            · cases q; exact ⟨_, rfl⟩
            · cases q
  · unfold opNe at q
    split at q
    · cases q; exact ⟨_, rfl⟩
    · split at q
      · cases q; exact ⟨_, rfl⟩
      · split at q
        · cases q; exact ⟨_, rfl⟩
        · split at q
          · cases q; exact ⟨_, rfl⟩
          · cases q
  · unfold opLt opCmp at q; split at q <;> first | (cases q; exact ⟨_, rfl⟩) | cases q
  · unfold opLe opCmp at q; split at q <;> first | (cases q; exact ⟨_, rfl⟩) | cases q
  · unfold opGt opCmp at q; split at q <;> first | (cases q; exact ⟨_, rfl⟩) | cases q
  · unfold opGe opCmp at q; split at q <;> first | (cases q; exact ⟨_, rfl⟩) | cases q
  · unfold opIs at q; split at q <;> first | (cases q; exact ⟨_, rfl⟩) | cases q
  · unfold opIsNot at q; split at q <;> first | (cases q; exact ⟨_, rfl⟩) | cases q
  · unfold opIn at q; split at q <;> first | (cases q; exact ⟨_, rfl⟩) | cases q
  · unfold opNotIn at q; split at q <;> first | (cases q; exact ⟨_, rfl⟩) | cases q
abbrev HopC (X : Cx) (cls : Nat → Value) (W : WX) (f : List D → Sto → R D) (r : List V → Hp → VK → Prop) : Prop := ∀ {sg : L2.St} {rho : Rho} {st : Sto} {H : Hp} {Q : VK} {ds : List D} {vs : List V}, Wld X.K rho st H → RelDs X.K rho H ds vs → OkR X.K cls W sg rho H (f ds st) (VQ X.K Q) → r vs H Q
theorem bltB_ok (hc : X.calm = true) (hu : X.A.units + 65 < cLine) {x : Str} {f : List D → Sto → R D} (h : bltB x = some f) : ∃ id r, bootBuiltins x = some (.builtin id) ∧ CallR X (.builtin id) r ∧ HopC X cls W f r := by
  unfold bltB at h
  split at h
  · rename_i e; cases h; subst e; exact ⟨_, _, boot_len, call_lenA, hop_len⟩
  split at h
  · rename_i e; cases h; subst e; exact ⟨_, _, boot_abs, call_abs, hop_abs⟩
  split at h
  · rename_i e; cases h; subst e; exact ⟨_, _, boot_min, cr_minA hc, hop_min⟩
  split at h
  · rename_i e; cases h; subst e; exact ⟨_, _, boot_max, cr_maxA hc, hop_max⟩
  split at h
  · rename_i e; cases h; subst e; exact ⟨_, _, boot_all, cr_all hc, hop_all⟩
  split at h
  · rename_i e; cases h; subst e; exact ⟨_, _, boot_any, cr_any hc, hop_any⟩
  split at h
  · rename_i e; cases h; subst e; exact ⟨_, _, boot_sum, cr_sum hc, hop_sum⟩
  split at h
  · rename_i e; cases h; subst e; exact ⟨_, _, boot_ord, call_ord, hop_ord⟩
  split at h
  · rename_i e; cases h; subst e
    obtain ⟨r, h1, h2⟩ := cr_sortedA (X := X) (cls := cls) (W := W) hu
    exact ⟨_, r, boot_sorted, h1, h2⟩
  · cases h
theorem bltT_ok {x : Str} {n : Bool} {f : List D → Sto → R D} (h : bltT x n = some f) : ∃ T r, bootBuiltins x = some (.type T) ∧ CallR X (.type T) r ∧ HopC X cls W f r := by
  unfold bltT at h
  split at h
  · rename_i e; cases h; subst e; exact ⟨_, _, boot_tuple, call_tuple_of, hop_tuple⟩
  split at h
  · rename_i e
    subst e
    split at h
    · cases h; exact ⟨_, _, boot_list, call_list_of, hop_listN⟩
    · cases h; exact ⟨_, _, boot_list, call_list_of, hop_list⟩
  split at h
  · rename_i e; cases h; subst e; exact ⟨_, _, boot_str, call_str_int, hop_str⟩
  split at h
  · rename_i e
    subst e
    split at h
    · cases h; exact ⟨_, _, boot_dict, cr_dict, hop_dictN⟩
    · cases h; exact ⟨_, _, boot_dict, cr_dict, hop_dict⟩
  split at h
  · rename_i e; cases h; subst e; exact ⟨_, _, boot_int, call_intS, hop_int1⟩
  · cases h
theorem tyOf_ok {t : Str} {T : String} (h : tyOf t = some T) : bootBuiltins t = some (.type T) := by
  unfold tyOf at h
  split at h
  · rename_i e; cases h; subst e; exact boot_int
  split at h
  · rename_i e; cases h; subst e; exact boot_bool
  split at h
  · rename_i e; cases h; subst e; exact boot_str
  split at h
  · rename_i e; cases h; subst e; exact boot_tuple
  split at h
  · rename_i e; cases h; subst e; exact boot_list
  split at h
  · rename_i e; cases h; subst e; exact boot_dict
  · cases h
theorem lstM_ok {x : Str} {f : D → List D → Sto → R D} (h : lstM x = some f) : ∃ id r, Slot "list" x id ∧ typeOf (.builtin id) = pure (.type "method_descriptor") ∧ MtR X id r ∧
    ∀ {sg : L2.St} {rho : Rho} {st : Sto} {H : Hp} {Q : VK} {d : D} {v : V} {ds : List D} {vs : List V}, Wld X.K rho st H → RelD X.K rho H d v → RelDs X.K rho H ds vs → OkR X.K cls W sg rho H (f d ds st) (VQ X.K Q) → r v vs H Q := by
  unfold lstM at h
  split at h
  · rename_i e; cases h; subst e; exact ⟨_, _, PySem.F.slot_list_append, PySem.F.type_list_append, mt_append, hop_append⟩
  split at h
  · rename_i e; cases h; subst e; exact ⟨_, _, PySem.F.slot_list_pop, PySem.F.type_list_pop, mt_popA, hop_pop⟩
  split at h
  · rename_i e; cases h; subst e; exact ⟨_, _, PySem.F.slot_list_extend, PySem.F.type_list_extend, mt_extendA, hop_extend⟩
  split at h
  · rename_i e; cases h; subst e; exact ⟨_, _, PySem.F.slot_list_reverse, PySem.F.type_list_reverse, mt_reverse, hop_reverse⟩
  split at h
  · rename_i e; cases h; subst e; exact ⟨_, _, PySem.F.slot_list_insert, PySem.F.type_list_insert, mt_insert, hop_insert⟩
  · cases h
end
end MI
namespace MI
open PySem PySem.Spec PyProof.Rows L2
variable [TC : TabsC]
theorem pe_lkE {X : Cx} {cls : Nat → Value} {W : WX} {e : Expr} {m : ME} {o : Option Nat} (h : PE X e (tE X.K cls W m)) : PE X e (tE X.K cls W (lkE o m)) := by
  cases o with
  | none => exact h
  | some i => exact pe_lockM h
theorem ps_lkS {X : Cx} {cls : Nat → Value} {W : WX} {e : Stmt} {m : MS} {o : Option Nat} (h : PS X e (tS X.K cls W m)) : PS X e (tS X.K cls W (lkS o m)) := by
  cases o with
  | none => exact h
  | some i => exact ps_lockM h
theorem Good.lamG {X : Cx} {cls : Nat → Value} {W : WX} {c : CC} {Ph : Nat → List D → Sto → R D} {k : Nat} (G : Good X cls W c Ph k) {p : Str} {scope : Scope} (hl : lamB p scope = true) {A : Around} {outer : List Env} {s : Shared} {H : Hp} {f c' : Addr} (hr : Room (k + 1) (A.deeper (envOfC (X.env.qual ++ "<lambda>") scope s.heap.objs.size f (.ref c')))) :
    Good (cxOf (L2.CX X.prog X.w) X.prog X.w X.K X.mg X.base [p] (X.env.qual ++ "<lambda>") scope f (.ref c') A outer s H (fun _ _ _ => False)) cls (fun _ _ _ _ => False) (c.lamC p scope) Ph k :=
  { calm := rfl, nd := (lamB_ok hl).nd, hN := rfl, sc := rfl, cok := fun _ _ => rfl, room := hr, own := passes_of rfl, tk := takes_none5, stk := fun _ => ⟨rfl, rfl⟩,
    blt := G.blt, fns := G.fns, isi := G.isi, evs := G.evs, gl := G.gl, kd := G.kd, xcs := G.xcs, sub := G.sub, ocl := G.ocl, lam := fun h => (by cases h), lroom := fun h => (by cases h) }
structure SndE (X : Cx) (cls : Nat → Value) (W : WX) (e : Expr) (m : ME) : Prop where
  plain : plainE e = true
  pe : PE X e (tE X.K cls W m)
  pt : testable e = true → PT X e (tTm X.K cls W m)
  pw : isBoolOp e = true → PW X e (tTm X.K cls W m)
structure SndAll (cls : Nat → Value) (Ph : Nat → List D → Sto → R D) (k n : Nat) : Prop where
  e : ∀ {X W c}, Good X cls W c Ph k → ∀ {e m}, ofE Ph n c e = some m → SndE X cls W e m
  es : ∀ {X W c}, Good X cls W c Ph k → ∀ {es ms}, ofEs Ph n c es = some ms → es.all plainE = true ∧ PA X es (tAm X.K cls W ms)
  ps : ∀ {X W c}, Good X cls W c Ph k → ∀ {keys values qs}, ofPs Ph n c keys values = some qs → keys.all (·.isSome) = true ∧ keys.length = values.length ∧ ∀ pos, PPs X pos keys values (qs.map fun q => (tE X.K cls W q.1, tE X.K cls W q.2))
  o : ∀ {X W c}, Good X cls W c Ph k → ∀ {e m}, ofO Ph n c e = some m → PO X e (tOm X.K cls W m)
  i : ∀ {X W c}, Good X cls W c Ph k → ∀ {tg e m}, ofI Ph n c tg e = some m → PI X tg e (tIm X.K cls W m)
  lc : ∀ {X W c}, Good X cls W c Ph k → ∀ {elt tg it ifs scope mi vs g kk me}, ofLc Ph n c elt tg it ifs scope = some (mi, vs, g, kk, me) → LcOk X cls W elt tg it ifs scope vs mi g kk me
  lcx : ∀ {X W c}, Good X cls W c Ph k → ∀ {elt tg it ifs scope mi vs g kk me}, ofLc Ph n c elt tg it ifs scope = some (mi, vs, g, kk, me) → c.dfn = true → LcX X cls W elt tg it ifs scope vs mi g kk me
section
variable {cls : Nat → Value} {Ph : Nat → List D → Sto → R D} {k : Nat}
theorem sndE_plain {X : Cx} {W : WX} {e : Expr} {m : ME} (hp : plainE e = true) (hb : isBoolOp e = false) (pe : PE X e (tE X.K cls W m)) (he : ∀ whole, isTrue e X.env whole = (do let v ← whole; standAt e.pos; holding [v] (truthy v))) : SndE X cls W e m :=
  ⟨hp, pe, fun _ => pt_any pe he, fun h => by rw [hb] at h; cases h⟩
theorem snd_es {n : Nat} (ih : SndAll cls Ph k n) {X : Cx} {W : WX} {c : CC} (G : Good X cls W c Ph k) {es : List Expr} {ms : List ME} (h : ofEs Ph (n + 1) c es = some ms) : es.all plainE = true ∧ PA X es (tAm X.K cls W ms) := by
  cases es with
  | nil =>
    unfold ofEs at h
    cases h
    exact ⟨rfl, pa_nilM⟩
  | cons e es =>
    unfold ofEs at h
    split at h
    · rename_i m ms' h1 h2
      cases h
      have a := ih.e G h1
      have b := ih.es G h2
      exact ⟨by simp [a.plain, b.1], pa_consM a.plain a.pe b.2⟩
    · cases h
theorem snd_ps {n : Nat} (ih : SndAll cls Ph k n) {X : Cx} {W : WX} {c : CC} (G : Good X cls W c Ph k) {keys : List (Option Expr)} {values : List Expr} {qs : List (ME × ME)} (h : ofPs Ph (n + 1) c keys values = some qs) : keys.all (·.isSome) = true ∧ keys.length = values.length ∧ ∀ pos, PPs X pos keys values (qs.map fun q => (tE X.K cls W q.1, tE X.K cls W q.2)) := by
  unfold ofPs at h
  split at h
  · rename_i e; cases e
  · cases h; exact ⟨rfl, rfl, fun _ => pps_nil⟩
  · rename_i e
    cases e
    split at h
    · rename_i ma mb r h1 h2 h3
      cases h
      obtain ⟨a1, a2, a3⟩ := ih.ps G h3
      exact ⟨by simpa using a1, by simpa using a2, fun pos => pps_cons (ih.e G h1).pe (ih.e G h2).pe (a3 pos)⟩
    · cases h
  · cases h
theorem snd_o {n : Nat} (ih : SndAll cls Ph k n) {X : Cx} {W : WX} {c : CC} (G : Good X cls W c Ph k) {e : Option Expr} {m : Option ME} (h : ofO Ph (n + 1) c e = some m) : PO X e (tOm X.K cls W m) := by
  cases e with
  | none =>
    unfold ofO at h
    cases h
    exact po_noneM
  | some e =>
    unfold ofO at h
    obtain ⟨m', h1, rfl⟩ := Option.map_eq_some_iff.mp h
    exact po_someM (ih.e G h1).pe
theorem snd_i {n : Nat} (ih : SndAll cls Ph k n) {X : Cx} {W : WX} {c : CC} (G : Good X cls W c Ph k) {tg e : Expr} {m : MIt} (h : ofI Ph (n + 1) c tg e = some m) : PI X tg e (tIm X.K cls W m) := by
  unfold ofI at h
  split at h
  · split at h
    · rename_i hc
      obtain ⟨rfl, hg, hb⟩ := hc
      obtain ⟨m', h1, rfl⟩ := Option.map_eq_some_iff.mp h
      exact pi_range1M (ih.e G h1).plain (G.glOk hg) (G.blt _ hb) (ih.e G h1).pe
    · split at h
      · rename_i hc
        obtain ⟨rfl, hg, hb⟩ := hc
        obtain ⟨m', h1, rfl⟩ := Option.map_eq_some_iff.mp h
        exact pi_revM (ih.e G h1).plain (G.glOk hg) (G.blt _ hb) (ih.e G h1).pe
      · split at h
        · rename_i hc
          obtain ⟨rfl, hg, hb⟩ := hc
          split at h
          · rename_i ma h1
            cases h
            exact pi_enumM (ih.e G h1).plain (G.glOk hg) (G.blt _ hb) (ih.e G h1).pe
          · cases h
        · obtain ⟨m', h1, rfl⟩ := Option.map_eq_some_iff.mp h
          exact pi_seqM (ih.e G h1).pe
  · split at h
    · rename_i hc
      obtain ⟨rfl, hg, hb⟩ := hc
      split at h
      · rename_i ma mb h1 h2
        cases h
        exact pi_range2M (ih.e G h1).plain (ih.e G h2).plain (G.glOk hg) (G.blt _ hb) (ih.e G h1).pe (ih.e G h2).pe
      · cases h
    · split at h
      · rename_i hc
        obtain ⟨rfl, hg, hb⟩ := hc
        split at h
        · rename_i ma mb h1 h2
          cases h
          exact pi_zipM (ih.e G h1).plain (ih.e G h2).plain (G.glOk hg) (G.blt _ hb) (ih.e G h1).pe (ih.e G h2).pe
        · cases h
      · obtain ⟨m', h1, rfl⟩ := Option.map_eq_some_iff.mp h
        exact pi_seqM (ih.e G h1).pe
  · split at h
    · rename_i hc
      obtain ⟨rfl, hg, hb⟩ := hc
      split at h
      · rename_i ma mb md h1 h2 h3
        cases h
        exact pi_range3M (ih.e G h1).plain (ih.e G h2).plain (ih.e G h3).plain (G.glOk hg) (G.blt _ hb) (ih.e G h1).pe (ih.e G h2).pe (ih.e G h3).pe
      · cases h
    · obtain ⟨m', h1, rfl⟩ := Option.map_eq_some_iff.mp h
      exact pi_seqM (ih.e G h1).pe
  · split at h
    · rename_i hc
      obtain ⟨rfl, hc⟩ := hc
      simp only [Bool.and_eq_true] at hc
      obtain ⟨m', h1, rfl⟩ := Option.map_eq_some_iff.mp h
      exact pi_keysLM hc.1 hc.2 (ih.e G h1).pe
    · split at h
      · rename_i hc
        obtain ⟨rfl, hc⟩ := hc
        simp only [Bool.and_eq_true] at hc
        obtain ⟨m', h1, rfl⟩ := Option.map_eq_some_iff.mp h
        exact pi_valsLM hc.1 hc.2 (ih.e G h1).pe
      · split at h
        · rename_i hc
          obtain ⟨rfl, hc⟩ := hc
          simp only [Bool.and_eq_true] at hc
          split at h
          · obtain ⟨m', h1, rfl⟩ := Option.map_eq_some_iff.mp h
            exact pi_itemsLM hc.1 hc.2 (ih.e G h1).pe
          · cases h
        · obtain ⟨m', h1, rfl⟩ := Option.map_eq_some_iff.mp h
          exact pi_seqM (ih.e G h1).pe
  · obtain ⟨m', h1, rfl⟩ := Option.map_eq_some_iff.mp h
    exact pi_seqM (ih.e G h1).pe
theorem snd_lc {n : Nat} (ih : SndAll cls Ph k n) {X : Cx} {W : WX} {c : CC} (G : Good X cls W c Ph k) {elt tg it : Expr} {ifs : List Expr} {scope : Scope} {mi : MIt} {vs : List Nat} {g : MG} {kk : Option ME} {me : ME} (h : ofLc Ph (n + 1) c elt tg it ifs scope = some (mi, vs, g, kk, me)) :
    LcOk X cls W elt tg it ifs scope vs mi g kk me := by
  unfold ofLc at h
  split at h
  · rename_i mi' vs' g' me' h1 h2 h3
    split at h
    · rename_i hc
      obtain ⟨hc, hv⟩ := hc
      simp only [Bool.and_eq_true] at hc
      have own : ∃ own : List (Str × Nat), own.map (·.2) = vs' ∧ BlkOk X.N X.env.scope scope own := ⟨c.ownOf tg, hv, by rw [G.hN, G.sc]; exact blkOk_by hc.2⟩
      split at h
      · cases h
        exact ⟨G.calm, G.nd, hc.1, ih.i G h1, own, fun s H C cl fp => (G.blk s H C cl fp).tgPG h2, fun s H C cl fp => pts_nil, fun s H C cl fp => (ih.e (G.blk s H C cl fp) h3).pe⟩
      · split at h
        · rename_i mt h4
          split at h
          · rename_i ht
            cases h
            exact ⟨G.calm, G.nd, hc.1, ih.i G h1, own, fun s H C cl fp => (G.blk s H C cl fp).tgPG h2, fun s H C cl fp => pts_one ((ih.e (G.blk s H C cl fp) h4).pt ht), fun s H C cl fp => (ih.e (G.blk s H C cl fp) h3).pe⟩
          · cases h
        · cases h
      · cases h
    · cases h
  · cases h
theorem snd_lcx {n : Nat} (ih : SndAll cls Ph k n) {X : Cx} {W : WX} {c : CC} (G : Good X cls W c Ph k) {elt tg it : Expr} {ifs : List Expr} {scope : Scope} {mi : MIt} {vs : List Nat} {g : MG} {kk : Option ME} {me : ME} (h : ofLc Ph (n + 1) c elt tg it ifs scope = some (mi, vs, g, kk, me)) (hd : c.dfn = true) :
    LcX X cls W elt tg it ifs scope vs mi g kk me := by
  unfold ofLc at h
  split at h
  · rename_i mi' vs' g' me' h1 h2 h3
    split at h
    · rename_i hc
      obtain ⟨hc, hv⟩ := hc
      simp only [Bool.and_eq_true] at hc
      have own : ∃ own : List (Str × Nat), own.map (·.2) = vs' ∧ BlkOk X.N X.env.scope scope own := ⟨c.ownOf tg, hv, by rw [G.hN, G.sc]; exact blkOk_by hc.2⟩
      split at h
      · cases h
        exact ⟨G.calm, G.nd, G.stk hd, G.tk, hc.1, ih.i G h1, own, ⟨fun s H C cl fp W' xe tk o => ⟨(G.blkX s H C cl fp tk o).tgPG h2, pts_nil, (ih.e (G.blkX s H C cl fp tk o) h3).pe⟩⟩⟩
      · split at h
        · rename_i mt h4
          split at h
          · rename_i ht
            cases h
            exact ⟨G.calm, G.nd, G.stk hd, G.tk, hc.1, ih.i G h1, own, ⟨fun s H C cl fp W' xe tk o => ⟨(G.blkX s H C cl fp tk o).tgPG h2, pts_one ((ih.e (G.blkX s H C cl fp tk o) h4).pt ht), (ih.e (G.blkX s H C cl fp tk o) h3).pe⟩⟩⟩
          · cases h
        · cases h
      · cases h
    · cases h
  · cases h
theorem kd_glb {X : Cx} {W : WX} {c : CC} (G : Good X cls W c Ph k) {b : Expr} {tab : List (Str × D)} (h : c.kdOf b = some tab) : ∃ x p, b = .Name x p ∧ Gl X x ∧ (x == ("__debug__" : Str)) = false ∧ KOk X.K X.w X.mg x tab := by
  unfold CC.kdOf at h
  split at h
  · split at h
    · rename_i hc
      simp only [Bool.and_eq_true] at hc
      exact ⟨_, _, rfl, G.glOk hc.1, (okName_ok hc.2).1, G.kd _ _ h⟩
    · cases h
  · cases h
theorem mKIn_bl {tab : List (Str × D)} {neg : Bool} {ma : ME} : ∀ env st d st', mKIn tab neg ma env st = .ok d st' → ∃ b, d = .bl b := by
  intro env st d st' q
  unfold mKIn at q
  cases q1 : ma env st with
  | ok d1 st1 =>
    rw [q1] at q
    cases d1 <;> first | (cases q; exact ⟨_, rfl⟩) | cases q
  | exc c st1 => rw [q1] at q; cases q
  | stuck => rw [q1] at q; cases q
theorem snd_kin {X : Cx} {W : WX} {c : CC} (G : Good X cls W c Ph k) {a b : Expr} {op : CmpOp} {p : Pos} {tab : List (Str × D)} {ma : ME} {g : ME → ME} (h1 : c.kdOf b = some tab) (h2 : kdCmp op tab = some g) (ha : PE X a (tE X.K cls W ma)) : SndE X cls W (.Compare a [op] [b] p) (g ma) := by
  obtain ⟨x, q, rfl, hg, hd, d, es, n, hm, D, hz⟩ := kd_glb G h1
  have hb : PE X (.Name x q) (tC (.ref d)) := pe_glob hg hm rfl hd
  cases op <;> simp only [kdCmp, Option.some.injEq, reduceCtorEq] at h2 <;> subst h2
  · have f : ∀ {sg : L2.St} {H : Hp} {Q : VK}, tE X.K cls W (mKIn tab false ma) sg H Q → tOp (fun x y H Q => ∃ (z : Str) (r : Option Value), x = .str z ∧ y = .ref d ∧ PySem.W.nsIn X.K d z = some r ∧ Q (.bl r.isSome) H) (tE X.K cls W ma) (tC (.ref d)) sg H Q := by
      intro sg H Q h
      obtain ⟨rho, env, st, w, re, h⟩ := h
      refine ⟨rho, env, st, w, re, OkR.mono (OkR.bind h) fun d1 st1 rho1 H1 e1 w1 h1 v1 rv1 => ?_⟩
      split at h1
      · rename_i z
        cases rv1
        rcases hz z with ⟨e, en⟩ | ⟨t, u, v, e, en, _, _⟩
        · rw [e] at h1
          exact ⟨z, none, rfl, rfl, en, ok_here w1 h1 (.bl _)⟩
        · rw [e] at h1
          exact ⟨z, some u, rfl, rfl, en, ok_here w1 h1 (.bl _)⟩
      · exact h1.elim
    exact ⟨rfl, PE.weak (pe_cmpR (op_in_kd D) ha hb rfl) fun _ _ _ h => f h, fun _ => PT.weak (pt_cmpR (op_in_kd D) ha hb rfl) fun sg H Q h => tT_of mKIn_bl (fun h => f h) h, fun q => by cases q⟩
  · have f : ∀ {sg : L2.St} {H : Hp} {Q : VK}, tE X.K cls W (mKIn tab true ma) sg H Q → tOp (fun x y H Q => ∃ (z : Str) (r : Option Value), x = .str z ∧ y = .ref d ∧ PySem.W.nsIn X.K d z = some r ∧ Q (.bl (!r.isSome)) H) (tE X.K cls W ma) (tC (.ref d)) sg H Q := by
      intro sg H Q h
      obtain ⟨rho, env, st, w, re, h⟩ := h
      refine ⟨rho, env, st, w, re, OkR.mono (OkR.bind h) fun d1 st1 rho1 H1 e1 w1 h1 v1 rv1 => ?_⟩
      split at h1
      · rename_i z
        cases rv1
        rcases hz z with ⟨e, en⟩ | ⟨t, u, v, e, en, _, _⟩
        · rw [e] at h1
          exact ⟨z, none, rfl, rfl, en, ok_here w1 h1 (.bl _)⟩
        · rw [e] at h1
          exact ⟨z, some u, rfl, rfl, en, ok_here w1 h1 (.bl _)⟩
      · exact h1.elim
    exact ⟨rfl, PE.weak (pe_cmpR (op_notIn_kd D) ha hb rfl) fun _ _ _ h => f h, fun _ => PT.weak (pt_cmpR (op_notIn_kd D) ha hb rfl) fun sg H Q h => tT_of mKIn_bl (fun h => f h) h, fun q => by cases q⟩
theorem snd_kix {X : Cx} {W : WX} {c : CC} (G : Good X cls W c Ph k) {a b : Expr} {p : Pos} {tab : List (Str × D)} {mb : ME} (h1 : c.kdOf a = some tab) (hs : noSlice b = true) (hb : PE X b (tE X.K cls W mb)) : PE X (.Subscript a b p) (tE X.K cls W (mKIx tab mb)) := by
  obtain ⟨x, q, rfl, hg, hd, d, es, n, hm, D, hz⟩ := kd_glb G h1
  have ha : PE X (.Name x q) (tC (.ref d)) := pe_glob hg hm rfl hd
  refine ⟨fun pins s sg H Q I h => ?_⟩
  have h' : tOp (rIxD X.K X.w) (tC (.ref d)) (tE X.K cls W mb) sg H Q := by
    obtain ⟨rho, env, st, w, re, h⟩ := h
    refine ⟨rho, env, st, w, re, OkR.mono (OkR.bind h) fun d1 st1 rho1 H1 e1 w1 h1 v1 rv1 => ?_⟩
    split at h1
    · rename_i z
      cases rv1
      rcases hz z with ⟨e, en⟩ | ⟨t, u, v, e, en, rv, r⟩
      · rw [e] at h1
        exact h1.elim
      · rw [e] at h1
        exact ⟨d, z, v, rfl, rfl, ⟨es, n, u, D.at_, D.lit, en, rv⟩, ok_here w1 h1 (r _ _)⟩
    · exact h1.elim
  refine Subscript_ (binT ha hb I h' fun v u s2 x y H2 I2 rx ry q => ?_)
  exact ix_kdict _ b pins s2 sg H2 x y v u Q I2 rx ry q (plainIx hs v u)
theorem snd_set {X : Cx} {W : WX} {c : CC} (G : Good X cls W c Ph k) {x : Str} {p pos : Pos} {a b : Expr} {as : List Expr} {g : List D → Sto → R D} {m : ME} (hg : Gl X x) (hm : X.mg x = none) {N : Bool} (h : c.setArg x a as N = some (b, g)) (hp : plainE b = true) (hb : PE X b (tE X.K cls W m)) :
    PE X (.Call (.Name x p) (a :: as) [] pos) (tE X.K cls W (mCall g [m])) := by
  unfold CC.setArg at h
  split at h
  · split at h
    · rename_i hy
      obtain ⟨rfl, g1, g2⟩ := hy
      split at h
      · rename_i e
        subst e
        cases h
        exact pe_sortSet hp hg hm (G.glOk g1) (G.blt _ g2) G.calm hb
      · split at h
        · rename_i e
          subst e
          cases h
          exact pe_lenSetM hp hg hm (G.glOk g1) (G.blt _ g2) G.calm hb
        · cases h
    · cases h
  · split at h
    · rename_i hy
      obtain ⟨rfl, g1, rfl⟩ := hy
      simp only [Bool.and_eq_true] at g1
      cases h
      split
      · exact pe_sortKeysNM hg hm G.calm g1.1 g1.2 hb
      · exact pe_sortKeysA hg hm G.calm G.un g1.1 g1.2 hb
    · split at h
      · rename_i hy
        obtain ⟨rfl, g1, rfl⟩ := hy
        simp only [Bool.and_eq_true] at g1
        cases h
        exact pe_lenKeysM hg hm g1.1 g1.2 hb
      · split at h
        · rename_i hy
          obtain ⟨rfl, g1, rfl⟩ := hy
          simp only [Bool.and_eq_true] at g1
          cases h
          exact pe_maxKeysM hg hm G.calm g1.1 g1.2 hb
        · cases h
  · cases h
theorem snd_rng {X : Cx} {W : WX} {c : CC} (G : Good X cls W c Ph k) {x : Str} {p pos : Pos} {a b : Expr} {as : List Expr} {g : List D → Sto → R D} {m : ME} {N : Bool} (hg : Gl X x) (hm : X.mg x = none) (h : c.rngArg x a as N = some (b, g)) (hp : plainE b = true) (hb : PE X b (tE X.K cls W m)) :
    PE X (.Call (.Name x p) (a :: as) [] pos) (tE X.K cls W (mCall g [m])) := by
  unfold CC.rngArg at h
  split at h
  · split at h
    · rename_i hy
      obtain ⟨rfl, rfl, g1, g2⟩ := hy
      cases h
      exact pe_listRgM hp hg hm (G.glOk g1) (G.blt _ g2) G.calm N hb
    · cases h
  · cases h
theorem pe_callSV {X : Cx} {CX : CXT} {k i : Nat} {f : Addr} {fd : FuncData} {ps : List Str} {sp : Sp} {E : L2.St → XK} {x : Str} {e : Expr} {es : List Expr} {t : TA} {p pos : Pos} (F : FnOk X.prog X.w X.K X.mg X.base CX k f fd ps sp) (hr : Room k X.A) (hk : PySem.W.keepIn X.K (.ref f) = true) (hb : Binds X.K fd ps []) (hx : ∀ sg, PassesAt CX X sg (E sg)) (hN : X.N[i]? = some x) (hv : Vis X.env.scope x) (ha : PA X (e :: es) t)
    (hd : (x == ("__debug__" : Str)) = false) (hcd : (x == ("__classdict__" : Str)) = false) (he : starEach (e :: es) X.env = (false, eval e X.env) :: starEach es X.env) (hpl : (backTo pos (starEach es X.env)).any (·.1) = false) : PE X (.Call (.Name x p) (e :: es) [] pos) (fun σ H Q => σ[i]? = some (some (V.ref f)) ∧ tCallS sp E t σ H Q) := by
  refine ⟨fun pins s σ H Q I h => ?_⟩
  obtain ⟨hs, h⟩ := h
  refine wpAny_Call_Name_kw (thn ((pe_var (pos := p) (i := i) hN hv hd hcd).run pins s σ H (fun v H1 => v = .ref f ∧ H1 = H) I ⟨.ref f, hs, rfl, rfl⟩) fun u s1 ⟨v, H1, I1, r1, ev, eH⟩ => ?_)
  subst ev
  rw [eH] at I1
  cases r1
  refine PySem.W.callWith_K (h₀ := X.base) I.ok.mod.kin hk (thn (ha.run pos pins s1 σ H _ I1 h) fun us s2 ⟨vs, H2, I2, r, q⟩ => ⟨I2.kIn, ?_⟩) he hpl
  exact run_fnS F hr hb (hx σ) I2 r q
theorem pe_callFM {X : Cx} {W : WX} {c : CC} (G : Good X cls W c Ph k) {x : Str} {i : Nat} {e : Expr} {es : List Expr} {ms : List ME} {p pos : Pos} (hi : c.slot x = some i) (hp : (e :: es).all plainE = true) (ha : PA X (e :: es) (tAm X.K cls W ms)) : PE X (.Call (.Name x p) (e :: es) [] pos) (tE X.K cls W (mCallF i c.fns Ph ms)) := by
  obtain ⟨a1, a2, a3, a4⟩ := G.visOk hi
  refine ⟨fun pins s σ H Q I h => ?_⟩
  obtain ⟨rho, env, st, w, re, h⟩ := h
  unfold mCallF at h
  split at h
  · rename_i y hy
    split at h
    · rename_i j hj
      obtain ⟨fa, fd, ps, hm, hk, hb, F, hn⟩ := G.fns j _ (ixOf_get hj)
      obtain ⟨v, h1, h2⟩ := re.at_ i _ hy
      cases h2 with
      | fn hf =>
        rw [hn] at hf
        cases hf
        simp only [List.all_cons, Bool.and_eq_true] at hp
        refine (pe_callSV (p := p) (pos := pos) F G.roomK hk hb (fun sg => passAt G.tk sg) a1 a2 ha a3 a4 (star_plain hp.1) (star_any hp.2)).run pins s σ H Q I ⟨h1, ?_⟩
        refine ⟨rho, env, st, w, re, OkR.mono (OkR.bind h) fun ds st1 rho1 H1 e1 w1 h1 vs rvs => ?_⟩
        exact ⟨rho1, st1, ds, w1, rvs, OkR.wish h1 fun c H q => q⟩
    · exact h.elim
  · exact h.elim
theorem snd_e {n : Nat} (ih : SndAll cls Ph k n) {X : Cx} {W : WX} {c : CC} (G : Good X cls W c Ph k) {e : Expr} {m : ME} (h : ofE Ph (n + 1) c e = some m) : SndE X cls W e m := by
  unfold ofE at h
  split at h
  · -- a name
    split at h
    · rename_i i hi
      cases h
      obtain ⟨a1, a2, a3, a4⟩ := G.visOk hi
      exact sndE_plain rfl rfl (pe_varM a1 a2 a3 a4) fun _ => rfl
    · split at h
      · rename_i hc
        simp only [Bool.and_eq_true] at hc
        obtain ⟨d, hd, rfl⟩ := Option.map_eq_some_iff.mp h
        obtain ⟨u, v, hm, rv, r⟩ := G.gl _ _ hd
        exact sndE_plain rfl rfl (pe_globM (G.glOk hc.1) hm rv r (okName_ok hc.2).1) fun _ => rfl
      · cases h
  · -- a constant
    split at h
    · cases h; exact sndE_plain rfl rfl (PE.weak pe_int fun _ _ _ q => tE_const (fun _ _ => .int _) q) fun _ => rfl
    · cases h; exact sndE_plain rfl rfl (PE.weak pe_bl fun _ _ _ q => tE_const (fun _ _ => .bl _) q) fun _ => rfl
    · cases h; exact sndE_plain rfl rfl (PE.weak pe_non fun _ _ _ q => tE_const (fun _ _ => .non) q) fun _ => rfl
    · cases h; exact sndE_plain rfl rfl (PE.weak pe_str fun _ _ _ q => tE_const (fun _ _ => .str _) q) fun _ => rfl
    · cases h
  · -- BinOp
    split at h
    · rename_i f ma mb h1 h2 h3
      cases h
      obtain ⟨r, ho, hop⟩ := binP_ok (X := X) (cls := cls) (W := W) h1
      exact sndE_plain rfl rfl (pe_binM ho hop (ih.e G h2).pe (ih.e G h3).pe) fun _ => rfl
    · cases h
  · -- -a
    obtain ⟨ma, h1, rfl⟩ := Option.map_eq_some_iff.mp h
    exact sndE_plain rfl rfl (pe_negM (ih.e G h1).pe) fun _ => rfl
  · -- not a
    split at h
    · rename_i ht
      obtain ⟨ma, h1, rfl⟩ := Option.map_eq_some_iff.mp h
      exact ⟨rfl, pe_notM (ih.e G h1).pe, fun _ => pt_notM ((ih.e G h1).pt ht), fun q => by cases q⟩
    · cases h
  · -- one
    rename_i op a p
    split at h
    · rename_i ht
      have s := ih.e G h
      have pw : PW X (.BoolOp op [a] p) (tTm X.K cls W m) := by
        cases op with
        | And => exact pw_and1 (s.pt ht)
        | Or => exact pw_or1 (s.pt ht)
      exact ⟨rfl, pe_one s.pe, fun _ => pw.pt, fun _ => pw⟩
    · cases h
  · -- and
    split at h
    · rename_i ma mb h1 h2
      split at h
      · rename_i ht
        cases h
        have a := ih.e G h1
        have b := ih.e G h2
        have pw := pw_andM (a.pt ht) (b.pw rfl)
        exact ⟨rfl, pe_andM a.pe b.pe, fun _ => pw.pt, fun _ => pw⟩
      · cases h
    · cases h
  · -- or
    split at h
    · rename_i ma mb h1 h2
      split at h
      · rename_i ht
        cases h
        have a := ih.e G h1
        have b := ih.e G h2
        have pw := pw_orM (a.pt ht) (b.pw rfl)
        exact ⟨rfl, pe_orM a.pe b.pe, fun _ => pw.pt, fun _ => pw⟩
      · cases h
    · cases h
  · -- a comparison
    split at h
    · rename_i f ma mb h1 h2 h3
      split at h
      · rename_i hm
        cases h
        obtain ⟨r, ho, hop⟩ := cmpF_ok (X := X) (cls := cls) (W := W) G.un2 h1
        exact ⟨rfl, pe_cmpM ho hop hm (ih.e G h2).pe (ih.e G h3).pe, fun _ => pt_cmpM ho hop (cmpF_bl h1) hm (ih.e G h2).pe (ih.e G h3).pe, fun q => by cases q⟩
      · cases h
    · rename_i f ma h1 h2 h3
      split at h
      · rename_i tab h4
        obtain ⟨g, h5, rfl⟩ := Option.map_eq_some_iff.mp h
        exact snd_kin G h4 h5 (ih.e G h2).pe
      · cases h
    · cases h
  · -- a chain
    split at h
    · rename_i f g ma mb md h1 h2 h3 h4 h5
      split at h
      · rename_i hm
        cases h
        obtain ⟨r, ho, hop⟩ := cmpF_ok (X := X) (cls := cls) (W := W) G.un2 h1
        obtain ⟨r', ho', hop'⟩ := cmpF_ok (X := X) (cls := cls) (W := W) G.un2 h2
        have a := (ih.e G h3).pe
        have b := (ih.e G h4).pe
        have d := (ih.e G h5).pe
        exact ⟨rfl, PE.weak (pe_chain ho ho' a b d (lastMarks_no hm)) fun _ _ _ q => tE_chain hop hop' q, fun _ => PT.weak (pt_chain ho ho' a b d (lastMarks_no hm)) fun sg H Q q => tT_of (mChain_bl (cmpF_bl h2)) (fun q => tE_chain hop hop' q) q, fun q => by cases q⟩
      · cases h
    · cases h
  · -- a if t else b
    split at h
    · rename_i mt ma mb h1 h2 h3
      split at h
      · rename_i ht
        cases h
        exact ⟨rfl, pe_ifM ((ih.e G h1).pt ht) (ih.e G h2).pe (ih.e G h3).pe, fun q => (by cases q), fun q => (by cases q)⟩
      · cases h
    · cases h
  · -- a tuple
    obtain ⟨ms, h1, rfl⟩ := Option.map_eq_some_iff.mp h
    exact sndE_plain rfl rfl (pe_tupM (ih.es G h1).2) fun _ => rfl
  · -- a list
    obtain ⟨ms, h1, rfl⟩ := Option.map_eq_some_iff.mp h
    split
    · exact sndE_plain rfl rfl (pe_newM (ih.es G h1).2) fun _ => rfl
    · exact sndE_plain rfl rfl (pe_lstM (ih.es G h1).2) fun _ => rfl
  · -- {}
    cases h
    split
    · exact sndE_plain rfl rfl pe_newDTM fun _ => rfl
    · split
      · exact sndE_plain rfl rfl pe_newDM fun _ => rfl
      · exact sndE_plain rfl rfl pe_dic0M fun _ => rfl
  · -- {a: b}
    split at h
    · split at h
      · rename_i hk
        obtain ⟨qs, h1, rfl⟩ := Option.map_eq_some_iff.mp h
        obtain ⟨a1, a2, a3⟩ := ih.ps G h1
        exact sndE_plain rfl rfl (pe_dtsM (by have := G.un; omega) (a3 _) a1 a2 (by simp) (by simp; omega)) fun _ => rfl
      · cases h
    · split at h
      · split at h
        · rename_i ma mb h1 h2
          cases h
          exact sndE_plain rfl rfl (pe_dic1M (ih.e G h1).pe (ih.e G h2).pe) fun _ => rfl
        · cases h
      · cases h
  · -- a slice
    split at h
    · rename_i ma ml mh h1 h2 h3
      cases h
      split
      · exact sndE_plain rfl rfl (pe_slNM (ih.e G h1).pe (ih.o G h2) (ih.o G h3)) fun _ => rfl
      · exact sndE_plain rfl rfl (pe_slM (ih.e G h1).pe (ih.o G h2) (ih.o G h3)) fun _ => rfl
    · cases h
  · -- a slice with a step
    split at h
    · rename_i ma ml mh ms h1 h2 h3 h4
      cases h
      exact sndE_plain rfl rfl (pe_stM (ih.e G h1).pe (ih.o G h2) (ih.o G h3) (po_someM (ih.e G h4).pe)) fun _ => rfl
    · cases h
  · -- an item
    split at h
    · rename_i ma mb h1 h2
      split at h
      · rename_i hs
        cases h
        exact sndE_plain rfl rfl (pe_ixM (by have := G.un; omega) hs (ih.e G h1).pe (ih.e G h2).pe) fun _ => rfl
      · cases h
    · rename_i mb h1 h2
      split at h
      · rename_i hs
        obtain ⟨tab, h3, rfl⟩ := Option.map_eq_some_iff.mp h
        exact sndE_plain rfl rfl (snd_kix G h3 hs (ih.e G h2).pe) fun _ => rfl
      · cases h
    · cases h
  · -- f()
    split at h
    · rename_i hc
      simp only [Bool.and_eq_true] at hc
      split at h
      · rename_i i hi
        cases h
        obtain ⟨fa, fd, ps, hm, hk, hb, F, _⟩ := G.fns i _ (ixOf_get hi)
        exact sndE_plain rfl rfl (pe_call0M F G.roomK (G.glOk hc.1) hm hk hb G.tk (okName_ok hc.2).1) fun _ => rfl
      · split at h
        · rename_i hx
          cases h
          obtain ⟨C, h1, h2, h3, h4, _⟩ := G.evs.1 _ hx
          exact sndE_plain rfl rfl (pe_exnM PySem.F.excBase_ValueError h3 h1 h4 h2 (G.glOk hc.1) (okName_ok hc.2).1) fun _ => rfl
        obtain ⟨i, hi, rfl⟩ := Option.map_eq_some_iff.mp h
        obtain ⟨C, fa, fd, ps, hC, hm, M, hb, F⟩ := G.mkO hi
        exact sndE_plain rfl rfl (pe_make0M hC M F G.room (G.glOk hc.1) hm hb G.tk (okName_ok hc.2).1) fun _ => rfl
    · cases h
  · -- f(..)
    split at h
    · rename_i hc
      simp only [Bool.and_eq_true] at hc
      split at h
      · rename_i i hi
        obtain ⟨ms, h1, rfl⟩ := Option.map_eq_some_iff.mp h
        obtain ⟨fa, fd, ps, hm, hk, hb, F, _⟩ := G.fns i _ (ixOf_get hi)
        have a := ih.es G h1
        exact sndE_plain rfl rfl (pe_callM F G.roomK (G.glOk hc.1) hm hk hb G.tk (okName_ok hc.2).1 a.1 a.2) fun _ => rfl
      · split at h
        · rename_i i hi
          obtain ⟨ms, h1, rfl⟩ := Option.map_eq_some_iff.mp h
          obtain ⟨C, fa, fd, ps, hC, hm, M, hb, F⟩ := G.mkO hi
          have a := ih.es G h1
          exact sndE_plain rfl rfl (pe_makeM hC M F G.room (G.glOk hc.1) hm hb G.tk (okName_ok hc.2).1 a.1 a.2) fun _ => rfl
        · split at h
          · rename_i hbl
            have ok := okName_ok hc.2
            split at h
            · rename_i f hf
              split at h
              · rename_i b g hb
                obtain ⟨m, h1, rfl⟩ := Option.map_eq_some_iff.mp h
                exact sndE_plain rfl rfl (snd_set G (G.glOk hc.1) (G.blt _ hbl) hb (ih.e G h1).plain (ih.e G h1).pe) fun _ => rfl
              obtain ⟨ms, h1, rfl⟩ := Option.map_eq_some_iff.mp h
              obtain ⟨id, r, hv, hcr, hop⟩ := bltB_ok (X := X) (cls := cls) (W := W) G.calm G.un hf
              have a := ih.es G h1
              exact sndE_plain rfl rfl (pe_callBM hcr hop (G.glOk hc.1) (G.blt _ hbl) hv ok.2.2 ok.1 a.1 a.2) fun _ => rfl
            · split at h
              · rename_i f hf
                split at h
                · rename_i b g hb
                  obtain ⟨m, h1, rfl⟩ := Option.map_eq_some_iff.mp h
                  exact sndE_plain rfl rfl (snd_rng G (G.glOk hc.1) (G.blt _ hbl) hb (ih.e G h1).plain (ih.e G h1).pe) fun _ => rfl
                obtain ⟨ms, h1, rfl⟩ := Option.map_eq_some_iff.mp h
                obtain ⟨T, r, hv, hcr, hop⟩ := bltT_ok (X := X) (cls := cls) (W := W) hf
                have a := ih.es G h1
                exact sndE_plain rfl rfl (pe_callTyM hcr hop (G.glOk hc.1) (G.blt _ hbl) hv ok.2.2 ok.1 a.1 a.2) fun _ => rfl
              · split at h
                · split at h
                  · rename_i tr htr
                    split at h
                    · rename_i hi
                      obtain ⟨rfl, hg2⟩ := hi
                      simp only [Bool.and_eq_true] at hg2
                      have ok2 := okName_ok hg2.2
                      obtain ⟨ma, h2, rfl⟩ := Option.map_eq_some_iff.mp h
                      obtain ⟨cv, u, k1, k2, k3, k4⟩ := G.evs.2 _ _ htr
                      exact sndE_plain rfl rfl (pe_isvM (ih.e G h2).plain (ih.e G h2).pe (G.glOk hc.1) (G.blt _ hbl) (G.glOk hg2.1) ok2.1 k1 k2 k3 k4) fun _ => rfl
                    · cases h
                  split at h
                  · rename_i hi
                    obtain ⟨rfl, hg2, hb2⟩ := hi
                    simp only [Bool.and_eq_true] at hg2
                    have ok2 := okName_ok hg2.2
                    split at h
                    · rename_i T ma h1 h2
                      cases h
                      exact sndE_plain rfl rfl (pe_isiM (ih.e G h2).plain (ih.e G h2).pe (G.glOk hc.1) (G.blt _ hbl) (G.glOk hg2.1) (G.blt _ hb2) (tyOf_ok h1) ok2.2.2 ok2.1) fun _ => rfl
                    · cases h
                  · cases h
                · cases h
          · cases h
    · split at h
      · rename_i i hi
        obtain ⟨ms, h1, rfl⟩ := Option.map_eq_some_iff.mp h
        have a := ih.es G h1
        exact sndE_plain rfl rfl (pe_callFM G hi a.1 a.2) fun _ => rfl
      · cases h
  · -- e.f
    split at h
    · rename_i hc
      obtain ⟨ma, h1, rfl⟩ := Option.map_eq_some_iff.mp h
      exact sndE_plain rfl rfl (pe_fldM hc G.fld (ih.e G h1).pe) fun _ => rfl
    · cases h
  · -- o.m()
    split at h
    · rename_i hc
      simp only [Bool.and_eq_true] at hc
      split at h
      · rename_i kk i mo h1 h2
        cases h
        obtain ⟨C, fa, fd, ps, hC, cl, hm, hb, F⟩ := G.meth h1
        exact sndE_plain rfl rfl (pe_methO0M hc.1 hc.2 hC cl hm F G.roomK hb G.tk (ih.e G h2).pe) fun _ => rfl
      · rename_i mo h0 h2
        obtain ⟨f, h1, rfl⟩ := Option.map_eq_some_iff.mp h
        obtain ⟨id, r, slot, hty, hm, hop⟩ := lstM_ok (X := X) (cls := cls) (W := W) h1
        exact sndE_plain rfl rfl (pe_methL0 slot hty hm hop hc.1 hc.2 (ih.e G h2).pe) fun _ => rfl
      · cases h
    · cases h
  · -- o.m(..)
    split at h
    · rename_i hc
      simp only [Bool.and_eq_true, decide_eq_true_eq] at hc
      split at h
      · rename_i kk i mo ms h1 h2 h3
        cases h
        obtain ⟨C, fa, fd, ps, hC, cl, hm, hb, F⟩ := G.meth h1
        have a := ih.es G h3
        exact sndE_plain rfl rfl (pe_methOM hc.1.1 hc.1.2 a.1 hc.2 hC cl hm F G.roomK hb G.tk (ih.e G h2).pe a.2) fun _ => rfl
      · rename_i f mo ms h0 h1 h2 h3
        split at h
        · rename_i hpop
          obtain ⟨rfl, _⟩ := hpop
          split at h
          · obtain ⟨m1, g1, rfl⟩ := Option.map_eq_some_iff.mp h
            exact sndE_plain rfl rfl (pe_dpopM (by have := G.un; omega) hc.1.1 hc.1.2 (ih.es G h3).1 (ih.e G h2).pe (ih.e G g1).pe) fun _ => rfl
          · cases h
        split at h
        · rename_i hpop
          obtain ⟨rfl, _⟩ := hpop
          split at h
          · obtain ⟨m1, g1, rfl⟩ := Option.map_eq_some_iff.mp h
            exact sndE_plain rfl rfl (pe_kpopM hc.1.1 hc.1.2 (ih.es G h3).1 (ih.e G h2).pe (ih.e G g1).pe) fun _ => rfl
          · cases h
        cases h
        obtain ⟨id, r, slot, hty, hm, hop⟩ := lstM_ok (X := X) (cls := cls) (W := W) h1
        have a := ih.es G h3
        exact sndE_plain rfl rfl (pe_methL slot hty hm hop hc.1.1 hc.1.2 a.1 hc.2 (ih.e G h2).pe a.2) fun _ => rfl
      · rename_i mo ms h0 h1 h2 h3
        have a := ih.es G h3
        split at h
        · rename_i hget
          subst hget
          split at h
          · obtain ⟨m1, g1, rfl⟩ := Option.map_eq_some_iff.mp h
            exact sndE_plain rfl rfl (pe_dget1M (by have := G.un; omega) hc.1.1 hc.1.2 a.1 (ih.e G h2).pe (ih.e G g1).pe) fun _ => rfl
          · split at h
            · rename_i m1 m2 g1 g2
              cases h
              exact sndE_plain rfl rfl (pe_dget2M (by have := G.un; omega) hc.1.1 hc.1.2 a.1 (ih.e G h2).pe (ih.e G g1).pe (ih.e G g2).pe) fun _ => rfl
            · cases h
          · cases h
        split at h
        · rename_i hix
          obtain ⟨rfl, _⟩ := hix
          cases h
          exact sndE_plain rfl rfl (pe_methL PySem.F.slot_list_index PySem.F.type_list_index mt_index hop_indexL hc.1.1 hc.1.2 a.1 hc.2 (ih.e G h2).pe a.2) fun _ => rfl
        obtain ⟨f, hf, rfl⟩ := Option.map_eq_some_iff.mp h
        obtain ⟨id, r, slot, hty, hm, hop⟩ := strM_ok (X := X) (cls := cls) (W := W) G.calm G.tk hf
        have a := ih.es G h3
        exact sndE_plain rfl rfl (pe_methS slot hty hm hop hc.1.1 hc.1.2 a.1 hc.2 (ih.e G h2).pe a.2) fun _ => rfl
      · cases h
    · cases h
  · -- a comprehension
    split at h
    · rename_i mi vs g kk me h1
      cases h
      split
      · rename_i hx
        simp only [Bool.and_eq_true] at hx
        exact sndE_plain rfl rfl (ih.lcx G h1 hx.2).pe fun _ => rfl
      · exact sndE_plain rfl rfl (pe_lkE ((ih.lc G h1).pe _)) fun _ => rfl
    · cases h
  · -- sorted(.., key=lambda)
    split at h
    · rename_i hc
      obtain ⟨⟨rfl, rfl, hlt⟩, hg, hb, hl⟩ := hc
      split at h
      · rename_i ma mk h1 h2
        cases h
        exact sndE_plain rfl rfl (pe_sortLamM (k := k) (G.glOk hg) (G.blt _ hb) (ih.e G h1).plain (ih.e G h1).pe (G.lam hlt) (G.lroom hlt) (lamB_ok hl) fun A outer s H f c' hr => (ih.e (G.lamG hl hr) h2).pe) fun _ => rfl
      · cases h
    · cases h
  · -- max(.., default=..)
    split at h
    · rename_i hc
      obtain ⟨⟨rfl, rfl⟩, hg, hb⟩ := hc
      split at h
      · rename_i ma mb h1 h2
        cases h
        exact sndE_plain rfl rfl (pe_maxDM (G.glOk hg) (G.blt _ hb) G.calm G.un (ih.e G h1).plain (ih.e G h1).pe (ih.e G h2).pe) fun _ => rfl
      · cases h
    · cases h
  · -- a text with values in it
    obtain ⟨ms, h1, rfl⟩ := Option.map_eq_some_iff.mp h
    exact sndE_plain rfl rfl (pe_jsM (fun e m q => (ih.e G q).pe) h1) fun _ => rfl
  · -- one value alone
    exact sndE_plain rfl rfl (pe_joined1 (ih.e G h).pe) fun _ => rfl
  · split at h
    · rename_i hk
      subst hk
      obtain ⟨m1, h1, rfl⟩ := Option.map_eq_some_iff.mp h
      exact sndE_plain rfl rfl (pe_fmtM (ih.e G h1).pe) fun _ => rfl
    · cases h
  · cases h
theorem snd_all : ∀ n : Nat, SndAll cls Ph k n
  | 0 => ⟨fun _ _ _ h => (by unfold ofE at h; cases h), fun _ _ _ h => (by unfold ofEs at h; cases h), fun _ _ _ _ h => (by unfold ofPs at h; cases h), fun _ _ _ h => (by unfold ofO at h; cases h), fun _ _ _ _ h => (by unfold ofI at h; cases h), fun _ _ _ _ _ _ _ _ _ _ _ h => (by unfold ofLc at h; cases h), fun _ _ _ _ _ _ _ _ _ _ _ h => (by unfold ofLc at h; cases h)⟩
  | n + 1 => ⟨fun G _ _ h => snd_e (snd_all n) G h, fun G _ _ h => snd_es (snd_all n) G h, fun G _ _ _ h => snd_ps (snd_all n) G h, fun G _ _ h => snd_o (snd_all n) G h, fun G _ _ _ h => snd_i (snd_all n) G h, fun G _ _ _ _ _ _ _ _ _ _ h => snd_lc (snd_all n) G h, fun G _ _ _ _ _ _ _ _ _ _ h => snd_lcx (snd_all n) G h⟩
end
end MI
namespace MI
open PySem PySem.Spec PyProof.Rows L2
variable [TC : TabsC]
def sTryA (sub : Nat → Nat → Bool) (b : MS) (h i : Nat) (su : Nat → MS) : MS := fun env st => match b env st with
  | .exc c env st => if sub c h = true then (if i < env.length then (match su c (env.set i none) st with
    | .nx env st => .nx (env.set i none) st
    | .bk env st => .bk (env.set i none) st
    | .ct env st => .ct (env.set i none) st
    | .rt d st => .rt d st
    | _ => .stuck) else .stuck) else .exc c env st
  | r => r
section
variable {cls : Nat → Value}
def tXe (K : PySem.W.Frag) (cls : Nat → Value) (i : Nat) (a : Addr) (m : ME) : TE := fun σ H Q => σ[i]? = some (some (V.ref a)) ∧ tE K cls WF m σ H Q
def tXa (K : PySem.W.Frag) (cls : Nat → Value) (i : Nat) (a : Addr) (ms : List ME) : TA := fun σ H Q => σ[i]? = some (some (V.ref a)) ∧ tAm K cls WF ms σ H Q
def endX (i : Nat) (a : Addr) (D : Ends) : Ends := { D with nx := fun σ H => σ[i]? = some (some (V.ref a)) → D.nx σ H }
def tXs (K : PySem.W.Frag) (cls : Nat → Value) (i : Nat) (a : Addr) (m : MS) : TS := fun D σ H => σ[i]? = some (some (V.ref a)) ∧ tS K cls WF m (endX i a D) σ H
def tXc (i : Nat) (a : Addr) (b : Bool) : TE := fun σ H Q => σ[i]? = some (some (V.ref a)) ∧ Q (.bl b) H
def tXt (i : Nat) (a : Addr) (b : Bool) : TT := fun σ H Q => σ[i]? = some (some (V.ref a)) ∧ Q b H
theorem PSs.with {X : Cx} {ss : List Stmt} {t : TS} {P : Prop} (h : P → PSs X ss t) : PSs X ss (fun D σ H => P ∧ t D σ H) := ⟨fun pins s σ H D I q => (h q.1).run pins s σ H D I q.2⟩
theorem PSs.ex {X : Cx} {ss : List Stmt} {α : Type} {t : α → TS} (h : ∀ a, PSs X ss (t a)) : PSs X ss (fun D σ H => ∃ a, t a D σ H) := ⟨fun pins s σ H D I ⟨a, q⟩ => (h a).run pins s σ H D I q⟩
section
variable {X : Cx} {i : Nat} {a : Addr} {e : Expr} {pos : Pos}
theorem xc_not {b : Bool} (h : PE X e (tXc i a b)) : PE X (.UnaryOp .Not e pos) (tXc i a (!b)) := PE.weak (pe_not h) fun σ H Q h => ⟨h.1, b, rfl, h.2⟩
theorem xt_not {b : Bool} (h : PT X e (tXt i a b)) : PT X (.UnaryOp .Not e pos) (tXt i a (!b)) := PT.weak (pt_not h) fun σ H Q h => ⟨h.1, h.2⟩
theorem xc_and {e2 : Expr} {r : List Expr} {b c : Bool} (h1 : PE X e (tXc i a b)) (h2 : PE X (.BoolOp .And (e2 :: r) pos) (tXc i a c)) : PE X (.BoolOp .And (e :: e2 :: r) pos) (tXc i a (b && c)) := PE.weak (pe_and h1 h2) fun σ H Q h => ⟨h.1, b, rfl, by
  cases b with
  | true => rw [if_pos rfl]; exact h
  | false => rw [if_neg (by simp)]; exact h.2⟩
theorem xc_or {e2 : Expr} {r : List Expr} {b c : Bool} (h1 : PE X e (tXc i a b)) (h2 : PE X (.BoolOp .Or (e2 :: r) pos) (tXc i a c)) : PE X (.BoolOp .Or (e :: e2 :: r) pos) (tXc i a (b || c)) := PE.weak (pe_or h1 h2) fun σ H Q h => ⟨h.1, b, rfl, by
  cases b with
  | true => rw [if_pos rfl]; exact h.2
  | false => rw [if_neg (by simp)]; exact h⟩
theorem xw_and {e2 : Expr} {r : List Expr} {b c : Bool} (h1 : PT X e (tXt i a b)) (h2 : PW X (.BoolOp .And (e2 :: r) pos) (tXt i a c)) : PW X (.BoolOp .And (e :: e2 :: r) pos) (tXt i a (b && c)) := PW.weak (pw_and h1 h2) fun σ H Q h => ⟨h.1, by
  cases b with
  | true => rw [if_pos rfl]; exact h
  | false => rw [if_neg (by simp)]; exact h.2⟩
theorem xw_or {e2 : Expr} {r : List Expr} {b c : Bool} (h1 : PT X e (tXt i a b)) (h2 : PW X (.BoolOp .Or (e2 :: r) pos) (tXt i a c)) : PW X (.BoolOp .Or (e :: e2 :: r) pos) (tXt i a (b || c)) := PW.weak (pw_or h1 h2) fun σ H Q h => ⟨h.1, by
  cases b with
  | true => rw [if_pos rfl]; exact h.2
  | false => rw [if_neg (by simp)]; exact h⟩
theorem xc_isi {oe : Obj} {pn : List (Addr × Obj)} {D : Addr} {t z : Str} {b : Bool} {cv : V} {u : Value} {p1 p2 p3 : Pos} (C : ExcC X.K D) (hz : Zc (.ref D) none oe) (hf : ∃ vs, oe.data = .fields vs) (hg : Gl X "isinstance") (hm : X.mg "isinstance" = none)
    (hN : X.N[i]? = some z) (hv : Vis X.env.scope z) (hd : (z == ("__debug__" : Str)) = false) (hcd : (z == ("__classdict__" : Str)) = false) (hgt : Gl X t) (hdt : (t == ("__debug__" : Str)) = false)
    (ht : X.mg t = some u ∨ (X.mg t = none ∧ bootBuiltins t = some u ∧ t ≠ "__name__")) (r1 : RelV cv u) (r2 : ∀ w, RelV cv w → w = u) (hk : PySem.W.kitOne X.K (.ref D) u = some b) :
    PE (X.suite a ((a, oe) :: pn)) (.Call (.Name "isinstance" p1) [.Name z p2, .Name t p3] [] pos) (tXc i a b) := by
  have h2 : PE (X.suite a ((a, oe) :: pn)) (.Name t p3) (tC cv) := by
    rcases ht with ht | ⟨h0, h1, h2⟩
    · exact pe_glob (X := X.suite a ((a, oe) :: pn)) hgt ht r1 hdt
    · exact pe_bltn (X := X.suite a ((a, oe) :: pn)) hgt h0 h1 r1 h2 hdt
  have h1 := pe_var (X := X.suite a ((a, oe) :: pn)) (pos := p2) hN hv hd hcd
  have ha := pa_cons h1 (pa_cons h2 pa_nil (star_plain rfl)) (star_plain rfl)
  refine PE.weak (pe_callB (X := X.suite a ((a, oe) :: pn)) (call_isE C hz hf) hg hm boot_isinstance ha (by decide) (by decide) (star_plain rfl) rfl) fun σ H Q h => ?_
  exact ⟨V.ref a, h.1, cv, u, b, rfl, r2, hk, h.2⟩
end
def rIsT (K : PySem.W.Frag) (D a : Addr) : List V → Hp → VK → Prop := fun xs H Q => ∃ (p : Addr) (cs : List V) (us : List Value) (b : Bool), xs = [.ref a, .ref p] ∧ H p = some (.tup cs) ∧ (∀ ws, Vals cs ws → ws = us) ∧ PySem.W.kitAny K (.ref D) us = some b ∧ Q (.bl b) H
theorem call_isT {X : Cx} {a D : Addr} {oe : Obj} {pn : List (Addr × Obj)} (C : ExcC X.K D) (hz : Zc (.ref D) none oe) (hf : ∃ vs, oe.data = .fields vs) : CallR (X.suite a ((a, oe) :: pn)) (.builtin "isinstance") (rIsT X.K D a) := by
  intro pins s σ H xs us Q I r h
  obtain ⟨p, cs, ws, b, rfl, hp, hu, e, q⟩ := h
  cases r with
  | cons rx rr =>
    cases rr with
    | cons rt rr =>
      cases rr
      cases rx
      cases rt
      obtain ⟨_, its, rv, ob, g1, g2⟩ := I.hok p _ hp
      obtain rfl := hu its rv
      obtain ⟨hget, _⟩ := I.pin (a, oe) (List.mem_append.mpr (.inl List.mem_cons_self))
      obtain ⟨vs, hv⟩ := hf
      have J : PySem.W.InstAt s.heap a oe D none := by
        obtain ⟨oc, od, oda, osl⟩ := oe
        obtain ⟨h1, h2⟩ := hz
        dsimp only at h1 h2 hv
        subst h1 h2 hv
        exact ⟨hget, rfl, rfl, trivial⟩
      obtain ⟨oc, od, oda, osl⟩ := ob
      obtain ⟨g3, n, g4⟩ := g2
      dsimp only at g3 g4
      subst g3 g4
      exact PySem.W.kia_tup (PySem.W.handS_kitx_exc C.hg C.hk C.hs C.hd C.ha C.hn C.ht C.hm) I.kIn J g1 e (fun z => nomatch z) fun tk => ⟨.bl b, H, I.kept (t' := tk) fun _ _ z => z, rfl, q⟩
structure ClsArgs (X : Cx) (D : Addr) (es : List Expr) (b : Bool) : Prop where
  go : ∃ (cs : List V) (us : List Value), PA X es (fun _ H Q => Q cs H) ∧ cs.length = es.length ∧ (∀ ws, Vals cs ws → ws = us) ∧ PySem.W.kitAny X.K (.ref D) us = some b
theorem clsArgs_nil {X : Cx} {D : Addr} : ClsArgs X D [] false := ⟨[], [], pa_nil, rfl, fun ws h => by cases h; rfl, rfl⟩
theorem clsArgs_cons {X : Cx} {D : Addr} {t : Str} {p : Pos} {es : List Expr} {cv : V} {u : Value} {b c : Bool} (h : PE X (.Name t p) (tC cv)) (r2 : ∀ w, RelV cv w → w = u) (hk : PySem.W.kitOne X.K (.ref D) u = some b) (r : ClsArgs X D es c) : ClsArgs X D (.Name t p :: es) (b || c) := by
  obtain ⟨cs, us, pa, hl, hu, e⟩ := r.go
  refine ⟨cv :: cs, u :: us, pa_cons h pa (star_plain rfl), by simp [hl], fun ws hw => ?_, ?_⟩
  · cases hw with
    | cons a b => rw [r2 _ a, hu _ b]
  · unfold PySem.W.kitAny
    rw [hk]
    cases b with
    | true => rfl
    | false => exact e
theorem xc_isT {X : Cx} {i : Nat} {a : Addr} {pos : Pos} {oe : Obj} {pn : List (Addr × Obj)} {D : Addr} {z : Str} {b : Bool} {es : List Expr} {p1 p2 p3 : Pos} {k} (C : ExcC X.K D) (hz : Zc (.ref D) none oe) (hf : ∃ vs, oe.data = .fields vs) (hg : Gl X "isinstance") (hm : X.mg "isinstance" = none)
    (hN : X.N[i]? = some z) (hv : Vis X.env.scope z) (hd : (z == ("__debug__" : Str)) = false) (hcd : (z == ("__classdict__" : Str)) = false) (hl : es.length ≤ 1000) (A : ClsArgs (X.suite a ((a, oe) :: pn)) D es b) :
    PE (X.suite a ((a, oe) :: pn)) (.Call (.Name "isinstance" p1) [.Name z p2, .Tuple es k p3] [] pos) (tXe X.K cls i a (mC (.bl b))) := by
  obtain ⟨cs, us, pa, el, hu, e⟩ := A.go
  have h1 := pe_var (X := X.suite a ((a, oe) :: pn)) (pos := p2) hN hv hd hcd
  have ha := pa_cons h1 (pa_cons (pe_tup (x1 := k) (pos := p3) pa) pa_nil (star_plain rfl)) (star_plain rfl)
  refine PE.weak (pe_callB (X := X.suite a ((a, oe) :: pn)) (call_isT C hz hf) hg hm boot_isinstance ha (by decide) (by decide) (star_plain rfl) rfl) fun σ H Q h => ?_
  obtain ⟨hs, rho, env, st, w, re, h⟩ := h
  refine ⟨V.ref a, hs, by rw [el]; exact Nat.le_trans hl (by rw [sizeLine_eq]; omega), fun p hp => ⟨p, cs, us, b, rfl, upd_same, hu, e, ?_⟩⟩
  exact h rho _ (w.extTmp hp _) (w.tmp hp _) _ (.bl b)
end
end MI
namespace MI
open PySem PySem.Spec PyProof.Rows L2
variable [TC : TabsC]
def ofQ0 (c : CC) (e : Expr) : Option ME := match e with
    | .Name x _ => (match c.slot x with
      | some i => some (mVar i)
      | none => none)
    | .Constant k _ _ => (match k with
      | .int i => some (mC (.int i))
      | .bool b => some (mC (.bl b))
      | .none => some (mC .non)
      | .str s => some (mC (.str s))
      | _ => none)
    | _ => none
def ofQ0s (c : CC) : List Expr → Option (List ME)
  | [] => some []
  | e :: es => match ofQ0 c e, ofQ0s c es with
    | some m, some ms => some (m :: ms)
    | _, _ => none
def ofQ (c : CC) (e : Expr) : Option ME := match e with
  | .Tuple es _ _ => (ofQ0s c es).map mTup
  | .List es p => if c.mt p.line p.col = true then none else (ofQ0s c es).map mLst
  | e => ofQ0 c e
def ofQS (c : CC) (s : Stmt) : Option MS := match s with
  | .Return (some e) _ => (ofQ c e).map sRet
  | .Pass _ => some sSkip
  | .Continue _ => some fun env st => .ct env st
  | .Assign [.Name x _] e _ => (match c.tslot x, ofQ c e with
    | some i, some m => some (sAsg m (gVar i))
    | _, _ => none)
  | _ => none
def ofQSs (c : CC) : List Stmt → Option MS
  | [] => some sSkip
  | s :: ss => match ofQS c s, ofQSs c ss with
    | some a, some b => some (sSeq a b)
    | _, _ => none
def cndQ (c : CC) (z : Str) : Nat → Expr → Option (Nat → Bool)
  | 0, _ => none
  | n + 1, e => match e with
    | .Call (.Name y _) [.Name x _, .Name t _] [] _ => if y = "isinstance" ∧ x = z ∧ (c.glb y && c.glb t && okName t && okName x) = true ∧ y ∈ c.blt then c.isi.lookup t else none
    | .UnaryOp .Not a _ => (cndQ c z n a).map fun g k => !(g k)
    | .BoolOp _ [a] _ => cndQ c z n a
    | .BoolOp .And (a :: b :: r) p => (match cndQ c z n a, cndQ c z n (.BoolOp .And (b :: r) p) with
      | some g, some h => some fun k => g k && h k
      | _, _ => none)
    | .BoolOp .Or (a :: b :: r) p => (match cndQ c z n a, cndQ c z n (.BoolOp .Or (b :: r) p) with
      | some g, some h => some fun k => g k || h k
      | _, _ => none)
    | _ => none
def tupQ (c : CC) : List Expr → Option (Nat → Bool)
  | [] => some fun _ => false
  | .Name t _ :: es => if (c.glb t && okName t) = true then (match c.isi.lookup t, tupQ c es with
    | some g, some h => some fun k => g k || h k
    | _, _ => none) else none
  | _ => none
def isTQ (c : CC) (z : Str) : Expr → Option (Nat → Bool)
  | .Call (.Name y _) [.Name x _, .Tuple es _ _] [] _ => if y = "isinstance" ∧ x = z ∧ (c.glb y && okName x) = true ∧ y ∈ c.blt ∧ es.length ≤ 1000 ∧ es ≠ [] then tupQ c es else none
  | _ => none
def valQ (c : CC) (z : Str) (e : Expr) : Option (Nat → ME) := match isTQ c z e with
  | some g => some fun k => mC (.bl (g k))
  | none => (match cndQ c z 20 e with
    | some g => some fun k => mC (.bl (g k))
    | none => (ofQ0 c e).map fun m _ => m)
def valsQ (c : CC) (z : Str) : List Expr → Option (Nat → List ME)
  | [] => some fun _ => []
  | e :: es => match valQ c z e, valsQ c z es with
    | some m, some ms => some fun k => m k :: ms k
    | _, _ => none
def expQ (c : CC) (z : Str) (e : Expr) : Option (Nat → ME) := match e with
  | .Tuple es _ _ => (valsQ c z es).map fun ms k => mTup (ms k)
  | .List es p => if c.mt p.line p.col = true then none else (valsQ c z es).map fun ms k => mLst (ms k)
  | e => valQ c z e
def stm0Q (c : CC) (z : Str) (s : Stmt) : Option (Nat → MS) := match s with
  | .Return (some e) _ => (expQ c z e).map fun m k => sRet (m k)
  | .Pass _ => some fun _ => sSkip
  | .Assign [.Name x _] e _ => if x = z ∨ noComp e = false then none else (match c.tslot x, expQ c z e with
    | some j, some m => some fun k => sAsg (m k) (gVar j)
    | _, _ => none)
  | _ => none
def stms0Q (c : CC) (z : Str) : List Stmt → Option (Nat → MS)
  | [] => some fun _ => sSkip
  | s :: ss => match stm0Q c z s, stms0Q c z ss with
    | some a, some b => some fun k => sSeq (a k) (b k)
    | _, _ => none
def stmQ (c : CC) (z : Str) (s : Stmt) : Option (Nat → MS) := match s with
  | .If t ss [] _ => if testable t = true then (match cndQ c z 20 t, stms0Q c z ss with
    | some g, some m => some fun k => if g k = true then m k else sSkip
    | _, _ => none) else none
  | s => stm0Q c z s
def stmsQ (c : CC) (z : Str) : List Stmt → Option (Nat → MS)
  | [] => some fun _ => sSkip
  | s :: ss => match stmQ c z s, stmsQ c z ss with
    | some a, some b => some fun k => sSeq (a k) (b k)
    | _, _ => none
def ofHA (c : CC) : List ExceptHandler → Option (Nat × Nat × (Nat → MS))
  | [.ExceptHandler (some (.Name x _)) (some z) (b :: bs) _] => if (c.glb x && okName x && okName z) = true ∧ c.kind z = some .local then (match ixOf c.xcs x, c.slot z, stmsQ c z (b :: bs) with
    | some h, some i, some m => some (h, i, m)
    | _, _, _ => none) else none
  | _ => none
def suiteQ (c : CC) (ss : List Stmt) : MS := (ofQSs c ss).getD sStuck
def ofH (c : CC) : List ExceptHandler → Option (List (Nat × MS))
  | [] => some []
  | .ExceptHandler (some (.Name x _)) none (b :: bs) _ :: hs => if (c.glb x && okName x) = true then (match ixOf c.xcs x, ofH c hs with
    | some i, some r => some ((i, suiteQ c (b :: bs)) :: r)
    | _, _ => none) else none
  | _ => none
def swB (c : CC) (e : Expr) (x : Str) (p : Pos) : Bool := match e with
  | .ListComp _ _ scope q => (match c.sc.kind with | .function => true | _ => false) && (match c.kind x with | some .local => true | _ => false) && (p.line == q.line) && !(scope.names.any fun (n, k) => n == x && (k == .local || k == .cell))
  | _ => false
def cellB (c : CC) (x : Str) : Bool := match c.kind x with
  | some .cell => true
  | _ => false
mutual
noncomputable def ofS (Ph : Nat → List D → Sto → R D) : Nat → CC → Stmt → Option MS
  | 0, _, _ => none
  | n + 1, c, s => match s with
    | .Return (some e) _ => (ofE Ph n c e).map sRet
    | .Return none _ => some (sRet (mC .non))
    | .Pass _ => some sSkip
    | .Break _ => some fun env st => .bk env st
    | .Continue _ => some fun env st => .ct env st
    | .Expr e _ => if noComp e = true then (ofE Ph n c e).map sExpr else none
    | .Assign [.Name x p] (.ListComp elt [⟨tg, it, ifs, 0⟩] scope q) _ => if swB c (.ListComp elt [⟨tg, it, ifs, 0⟩] scope q) x p = true then (match c.tslot x, ofLc Ph n c elt tg it ifs scope with
      | some i, some (mi, vs, g, kk, me) => some (lkS (c.lockOf it) (sAsg (if c.mt q.line q.col then mCompN mi vs g kk me else mComp mi vs g kk me) (gVar i)))
      | _, _ => none) else if cellB c x = true then (match c.tslot x, ofE Ph n c (.ListComp elt [⟨tg, it, ifs, 0⟩] scope q) with
      | some i, some m => some (sAsg m (gVar i))
      | _, _ => none) else none
    | .Assign [.Name x _] e _ => if noComp e = true then (match c.tslot x, ofE Ph n c e with
      | some i, some m => some (sAsg m (gVar i))
      | _, _ => none) else none
    | .Assign [.Tuple es _ _] e _ => if (noComp e && noTuple e) = true then (match c.tslots es, ofE Ph n c e with
      | some is, some m => some (sAsg m (gTupV is))
      | _, _ => none) else none
    | .Assign [.Attribute o f _] e _ => (match ofE Ph n c o, ofE Ph n c e with
      | some mo, some m => some (sFldS (c.fldOk f) f mo m)
      | _, _ => none)
    | .Assign [.Subscript o i _] e _ => if noSlice i = true then (match ofE Ph n c o, ofE Ph n c i, ofE Ph n c e with
      | some mo, some mi, some m => some (sSet mo mi m)
      | _, _, _ => none) else none
    | .AugAssign (.Name x _) op e _ => (match c.tslot x, augF op, ofE Ph n c e with
      | some i, some f, some m => some (sAug i f m)
      | _, _, _ => none)
    | .AugAssign (.Subscript o i _) op e _ => if noSlice i = true then (match augF op, ofE Ph n c o, ofE Ph n c i, ofE Ph n c e with
      | some f, some mo, some mi, some m => some (sAugL f mo mi m)
      | _, _, _, _ => none) else none
    | .If t a b _ => if testable t = true then (match ofE Ph n c t, ofSs Ph n c a, ofSs Ph n c b with
      | some mt, some ma, some mb => some (sIf mt ma mb)
      | _, _, _ => none) else none
    | .While t a [] _ => if testable t = true then (match ofE Ph n c t, ofSs Ph n c a with
      | some mt, some ma => some (sWhile mt ma c.fuel)
      | _, _ => none) else none
    | .For tg it a [] _ => if noSet it = true then (match c.tg tg, ofI Ph n c tg it, ofSs Ph n c a with
      | some (_, g), some mi, some ma => some (lkS (c.lockOf it) (sFor mi g ma))
      | _, _, _ => none) else none
    | .Raise (some (.Call (.Name x _) [] [] _)) none _ => if (c.glb x && okName x) = true then (ixOf c.xcs x).map sRaise else none
    | .Try body (h0 :: hs) [] [] _ => if c.dfn = true then (match ofSs Ph n c body, ofH c (h0 :: hs) with
      | some mb, some l => some (sTry c.sub mb l)
      | some mb, none => (ofHA c (h0 :: hs)).map fun q => sTryA c.sub mb q.1 q.2.1 q.2.2
      | _, _ => none) else none
    | _ => none
noncomputable def ofSs (Ph : Nat → List D → Sto → R D) : Nat → CC → List Stmt → Option MS
  | 0, _, _ => none
  | _ + 1, _, [] => some sSkip
  | n + 1, c, s :: ss => match ofS Ph n c s, ofSs Ph n c ss with
    | some a, some b => some (sSeq a b)
    | _, _ => some sStuck
end
section
variable {cls : Nat → Value} {Ph : Nat → List D → Sto → R D} {k : Nat}
theorem ofQ0_ok {X : Cx} {W : WX} {c : CC} (G : Good X cls W c Ph k) {e : Expr} {m : ME} (h : ofQ0 c e = some m) (a : Addr) (pn : List (Addr × Obj)) : noComp e = true ∧ PE (X.suite a pn) e (tE X.K cls WF m) ∧ ∀ env st c st', m env st ≠ .exc c st' := by
  unfold ofQ0 at h
  split at h
  · split at h
    · rename_i i hi
      cases h
      obtain ⟨a1, a2, a3, a4⟩ := G.visOk hi
      refine ⟨rfl, pe_varM (X := X.suite a pn) a1 a2 a3 a4, fun env st c st' q => ?_⟩
      unfold mVar at q
      split at q <;> cases q
    · cases h
  · split at h
    · cases h; exact ⟨rfl, PE.weak (pe_int (X := X.suite a pn)) fun _ _ _ q => tE_const (fun _ _ => .int _) q, fun env st c st' q => by cases q⟩
    · cases h; exact ⟨rfl, PE.weak (pe_bl (X := X.suite a pn)) fun _ _ _ q => tE_const (fun _ _ => .bl _) q, fun env st c st' q => by cases q⟩
    · cases h; exact ⟨rfl, PE.weak (pe_non (X := X.suite a pn)) fun _ _ _ q => tE_const (fun _ _ => .non) q, fun env st c st' q => by cases q⟩
    · cases h; exact ⟨rfl, PE.weak (pe_str (X := X.suite a pn)) fun _ _ _ q => tE_const (fun _ _ => .str _) q, fun env st c st' q => by cases q⟩
    · cases h
  · cases h
theorem ofQ0_plain {c : CC} {e : Expr} {m : ME} (h : ofQ0 c e = some m) : plainE e = true := by
  unfold ofQ0 at h
  split at h
  · rfl
  · rfl
  · cases h
theorem ofQ0s_ok {X : Cx} {W : WX} {c : CC} (G : Good X cls W c Ph k) (a : Addr) (pn : List (Addr × Obj)) : ∀ {es : List Expr} {ms : List ME}, ofQ0s c es = some ms → PA (X.suite a pn) es (tAm X.K cls WF ms) ∧ ∀ env st c st', mArgs ms env st ≠ .exc c st'
  | [], ms, h => by cases h; exact ⟨pa_nilM (X := X.suite a pn), fun env st c st' q => by cases q⟩
  | e :: es, ms, h => by
    unfold ofQ0s at h
    split at h
    · rename_i m ms' h1 h2
      cases h
      obtain ⟨p1, p2, p3⟩ := ofQ0_ok G h1 a pn
      obtain ⟨q1, q2⟩ := ofQ0s_ok G a pn h2
      refine ⟨pa_consM (X := X.suite a pn) (ofQ0_plain h1) p2 q1, fun env st c st' q => ?_⟩
      unfold mArgs at q
      cases r : m env st with
      | stuck => rw [r] at q; cases q
      | exc c st1 => exact absurd r (p3 env st c st1)
      | ok d st1 =>
        rw [r] at q
        simp only [MI.R.bind_ok] at q
        cases r2 : mArgs ms' env st1 with
        | stuck => rw [r2] at q; cases q
        | exc c st2 => exact absurd r2 (q2 env st1 c st2)
        | ok ds st2 => rw [r2] at q; cases q
    · cases h
theorem ofQ_ok {X : Cx} {W : WX} {c : CC} (G : Good X cls W c Ph k) {e : Expr} {m : ME} (h : ofQ c e = some m) (a : Addr) (pn : List (Addr × Obj)) : noComp e = true ∧ PE (X.suite a pn) e (tE X.K cls WF m) ∧ ∀ env st c st', m env st ≠ .exc c st' := by
  unfold ofQ at h
  split at h
  · obtain ⟨ms, h1, rfl⟩ := Option.map_eq_some_iff.mp h
    obtain ⟨p1, p2⟩ := ofQ0s_ok G a pn h1
    refine ⟨rfl, pe_tupM (X := X.suite a pn) p1, fun env st c st' q => ?_⟩
    unfold mTup at q
    cases r : mArgs ms env st with
    | stuck => rw [r] at q; cases q
    | exc c st1 => exact absurd r (p2 env st c st1)
    | ok ds st1 =>
      rw [r] at q
      simp only [MI.R.bind_ok] at q
      split at q <;> cases q
  · split at h
    · cases h
    · obtain ⟨ms, h1, rfl⟩ := Option.map_eq_some_iff.mp h
      obtain ⟨p1, p2⟩ := ofQ0s_ok G a pn h1
      refine ⟨rfl, pe_lstM (X := X.suite a pn) p1, fun env st c st' q => ?_⟩
      unfold mLst at q
      cases r : mArgs ms env st with
      | stuck => rw [r] at q; cases q
      | exc c st1 => exact absurd r (p2 env st c st1)
      | ok ds st1 =>
        rw [r] at q
        simp only [MI.R.bind_ok] at q
        split at q <;> cases q
  · exact ofQ0_ok G h a pn
theorem ofQS_ok {X : Cx} {W : WX} {c : CC} (G : Good X cls W c Ph k) {s : Stmt} {m : MS} (h : ofQS c s = some m) (a : Addr) (pn : List (Addr × Obj)) : PS (X.suite a pn) s (tS X.K cls WF m) ∧ Quiet m := by
  unfold ofQS at h
  split at h
  · obtain ⟨me, h1, rfl⟩ := Option.map_eq_some_iff.mp h
    obtain ⟨hc, pe, q⟩ := ofQ_ok G h1 a pn
    refine ⟨ps_retM (X := X.suite a pn) pe, fun env st => ?_⟩
    unfold sRet
    cases r : me env st with
    | exc c st' => exact absurd r (q env st c st')
    | ok d st' => trivial
    | stuck => trivial
  · cases h
    exact ⟨ps_passM (X := X.suite a pn), fun env st => trivial⟩
  · cases h
    exact ⟨ps_contM (X := X.suite a pn), fun env st => trivial⟩
  · split at h
    · rename_i i me h1 h2
      cases h
      obtain ⟨hc, pe, q⟩ := ofQ_ok G h2 a pn
      obtain ⟨a1, a2, a3⟩ := G.tgtOk h1
      refine ⟨ps_setM (X := X.suite a pn) G.nd a1 a2 a3 pe (swaps_no hc), fun env st => ?_⟩
      unfold sAsg
      cases r : me env st with
      | exc c st' => exact absurd r (q env st c st')
      | ok d st' => trivial
      | stuck => trivial
    · cases h
  · cases h
theorem ofQSs_ok {X : Cx} {W : WX} {c : CC} (G : Good X cls W c Ph k) (a : Addr) (pn : List (Addr × Obj)) : ∀ {ss : List Stmt} {m : MS}, ofQSs c ss = some m → PSs (X.suite a pn) ss (tS X.K cls WF m) ∧ Quiet m
  | [], m, h => by
    cases h
    exact ⟨pss_nilM (X := X.suite a pn), fun env st => trivial⟩
  | s :: ss, m, h => by
    unfold ofQSs at h
    split at h
    · rename_i m1 m2 h1 h2
      cases h
      obtain ⟨p1, q1⟩ := ofQS_ok G h1 a pn
      obtain ⟨p2, q2⟩ := ofQSs_ok G a pn h2
      refine ⟨pss_consM (X := X.suite a pn) p1 p2, fun env st => ?_⟩
      have z := q1 env st
      unfold sSeq
      cases r : m1 env st with
      | exc c env' st' => rw [r] at z; exact z.elim
      | nx env' st' => exact q2 env' st'
      | rt d st' => trivial
      | bk env' st' => trivial
      | ct env' st' => trivial
      | stuck => trivial
    · cases h
theorem suiteQ_ok {X : Cx} {W : WX} {c : CC} (G : Good X cls W c Ph k) (a : Addr) (pn : List (Addr × Obj)) (ss : List Stmt) : PSs (X.suite a pn) ss (tS X.K cls WF (suiteQ c ss)) ∧ Quiet (suiteQ c ss) := by
  unfold suiteQ
  cases h : ofQSs c ss with
  | some m => exact ofQSs_ok G a pn h
  | none => exact ⟨pss_stuck, fun env st => trivial⟩
theorem ofH_ok {X : Cx} {W : WX} {c : CC} (G : Good X cls W c Ph k) : ∀ {hs : List ExceptHandler} {l : List (Nat × MS)}, ofH c hs = some l → HdsOk X hs (l.map fun h => (cls h.1, fun _ _ _ => tS X.K cls WF h.2)) ∧ ∀ h ∈ l, Quiet h.2
  | [], l, h => by
    cases h
    exact ⟨.nil, fun h hh => by cases hh⟩
  | hd :: hs, l, h => by
    unfold ofH at h
    split at h
    · rename_i e; cases e
    · rename_i hs' x np b bs pos' e1
      cases e1
      split at h
      · rename_i hc
        simp only [Bool.and_eq_true] at hc
        split at h
        · rename_i i r h1 h3
          cases h
          obtain ⟨p, q⟩ := ofH_ok G h3
          obtain ⟨C, hC, hm, _⟩ := G.xcs i _ (ixOf_get h1)
          refine ⟨.cons ⟨G.glOk hc.1, (okName_ok hc.2).1, .inl (by rw [hm]; exact congrArg some hC.symm)⟩ (fun a oe cls' d pn _ _ => (suiteQ_ok G a ((a, oe) :: pn) _).1) p, fun h hh => ?_⟩
          rcases List.mem_cons.mp hh with rfl | hh
          · exact (suiteQ_ok G 0 [] _).2
          · exact q h hh
        · cases h
      · cases h
    · cases h
section
variable {X : Cx} {W : WX} {c : CC} {a : Addr} {oe : Obj} {pn : List (Addr × Obj)} {D0 : Addr} {z : Str} {i q : Nat}
structure Hot (X : Cx) (cls : Nat → Value) (oe : Obj) (z : Str) (i q : Nat) : Prop where
  hz : Zc (cls q) none oe
  hf : ∃ vs, oe.data = .fields vs
  hN : X.N[i]? = some z
  hv : Vis X.env.scope z
theorem cndQ_ok (G : Good X cls W c Ph k) (T : Hot X cls oe z i q) : ∀ {n : Nat} {e : Expr} {g : Nat → Bool}, cndQ c z n e = some g → plainE e = true ∧ noComp e = true ∧ PE (X.suite a ((a, oe) :: pn)) e (tXc i a (g q)) ∧ PT (X.suite a ((a, oe) :: pn)) e (tXt i a (g q)) ∧ (isBoolOp e = true → PW (X.suite a ((a, oe) :: pn)) e (tXt i a (g q)))
  | 0, _, _, h => by unfold cndQ at h; cases h
  | n + 1, e, g, h => by
    unfold cndQ at h
    split at h
    · rename_i y p1 x p2 t p3 p4
      split at h
      · rename_i hc
        obtain ⟨rfl, rfl, hg, hb⟩ := hc
        simp only [Bool.and_eq_true] at hg
        obtain ⟨cv, u, ht, r1, r2, hk⟩ := G.isi _ _ h
        obtain ⟨D, e1, e2, e3⟩ := hk q
        have hz := T.hz
        rw [e1] at hz
        have pe := xc_isi (a := a) (pn := pn) (i := i) (p1 := p1) (p2 := p2) (p3 := p3) (pos := p4) e2 hz T.hf (G.glOk hg.1.1.1) (G.blt _ hb) T.hN T.hv (okName_ok hg.2).1 (okName_ok hg.2).2.1 (G.glOk hg.1.1.2) (okName_ok hg.1.2).1 ht r1 r2 e3
        refine ⟨rfl, rfl, pe, PT.weak (pt_truth pe fun _ => rfl) fun σ H Q h => ⟨h.1, _, rfl, h.2⟩, fun z => by cases z⟩
      · cases h
    · rename_i b p
      obtain ⟨g', h1, rfl⟩ := Option.map_eq_some_iff.mp h
      obtain ⟨s1, s2, s3, s4, s5⟩ := cndQ_ok G T h1
      exact ⟨rfl, rfl, xc_not s3, xt_not s4, fun z => by cases z⟩
    · rename_i op b p
      obtain ⟨s1, s2, s3, s4, s5⟩ := cndQ_ok G T h
      have pw : PW (X.suite a ((a, oe) :: pn)) (.BoolOp op [b] p) (tXt i a (g q)) := by
        cases op with
        | And => exact pw_and1 s4
        | Or => exact pw_or1 s4
      exact ⟨rfl, rfl, pe_one s3, pw.pt, fun _ => pw⟩
    · split at h
      · rename_i g1 g2 h1 h2
        cases h
        obtain ⟨s1, s2, s3, s4, s5⟩ := cndQ_ok G T h1
        obtain ⟨t1, t2, t3, t4, t5⟩ := cndQ_ok G T h2
        have pw := xw_and s4 (t5 rfl)
        exact ⟨rfl, rfl, xc_and s3 t3, pw.pt, fun _ => pw⟩
      · cases h
    · split at h
      · rename_i g1 g2 h1 h2
        cases h
        obtain ⟨s1, s2, s3, s4, s5⟩ := cndQ_ok G T h1
        obtain ⟨t1, t2, t3, t4, t5⟩ := cndQ_ok G T h2
        have pw := xw_or s4 (t5 rfl)
        exact ⟨rfl, rfl, xc_or s3 t3, pw.pt, fun _ => pw⟩
      · cases h
    · cases h
theorem tXe_const {K : PySem.W.Frag} {b : Bool} {σ : L2.St} {H : Hp} {Q : VK} (h : tXe K cls i a (mC (.bl b)) σ H Q) : tXc i a b σ H Q := ⟨h.1, tE_const (fun _ _ => .bl b) h.2⟩
theorem tupQ_ok (G : Good X cls W c Ph k) {D : Addr} (hD : cls q = .ref D) : ∀ {es : List Expr} {g : Nat → Bool}, tupQ c es = some g → ClsArgs (X.suite a ((a, oe) :: pn)) D es (g q)
  | [], g, h => by cases h; exact clsArgs_nil
  | e :: es, g, h => by
    unfold tupQ at h
    split at h
    · rename_i z; cases z
    · rename_i t p es' e1
      cases e1
      split at h
      · rename_i hg
        simp only [Bool.and_eq_true] at hg
        split at h
        · rename_i g1 g2 h1 h2
          cases h
          obtain ⟨cv, u, ht, r1, r2, hk⟩ := G.isi _ _ h1
          obtain ⟨D', e1, e2, e3⟩ := hk q
          rw [hD] at e1
          cases e1
          refine clsArgs_cons (X := X.suite a ((a, oe) :: pn)) ?_ r2 e3 (tupQ_ok G hD h2)
          rcases ht with ht | ⟨k0, k1, k2⟩
          · exact pe_glob (X := X.suite a ((a, oe) :: pn)) (G.glOk hg.1) ht r1 (okName_ok hg.2).1
          · exact pe_bltn (X := X.suite a ((a, oe) :: pn)) (G.glOk hg.1) k0 k1 r1 k2 (okName_ok hg.2).1
        · cases h
      · cases h
    · cases h
theorem isTQ_ok (G : Good X cls W c Ph k) (T : Hot X cls oe z i q) {e : Expr} {g : Nat → Bool} (h : isTQ c z e = some g) : plainE e = true ∧ PE (X.suite a ((a, oe) :: pn)) e (tXe X.K cls i a (mC (.bl (g q)))) := by
  unfold isTQ at h
  split at h
  · rename_i y p1 x p2 es k3 p3 p4
    split at h
    · rename_i hc
      obtain ⟨rfl, rfl, hg, hb, hl, hne⟩ := hc
      simp only [Bool.and_eq_true] at hg
      have hx : ∃ D, cls q = .ref D ∧ ExcC X.K D := by
        cases es with
        | nil => exact absurd rfl hne
        | cons e0 r =>
          have h' := h
          unfold tupQ at h'
          split at h'
          · rename_i z; cases z
          · split at h'
            · split at h'
              · rename_i g1 g2 h1 h2
                obtain ⟨cv, u, ht, r1, r2, hk⟩ := G.isi _ _ h1
                obtain ⟨D', e1, e2, e3⟩ := hk q
                exact ⟨D', e1, e2⟩
              · cases h'
            · cases h'
          · cases h'
      obtain ⟨D, e1, e2⟩ := hx
      have hz := T.hz
      rw [e1] at hz
      exact ⟨rfl, xc_isT (cls := cls) e2 hz T.hf (G.glOk hg.1) (G.blt _ hb) T.hN T.hv (okName_ok hg.2).1 (okName_ok hg.2).2.1 hl (tupQ_ok G e1 h)⟩
    · cases h
  · cases h
theorem valQ_ok (G : Good X cls W c Ph k) (T : Hot X cls oe z i q) {e : Expr} {m : Nat → ME} (h : valQ c z e = some m) : plainE e = true ∧ PE (X.suite a ((a, oe) :: pn)) e (tXe X.K cls i a (m q)) := by
  unfold valQ at h
  split at h
  · rename_i g hg
    cases h
    exact isTQ_ok (a := a) (pn := pn) G T hg
  · split at h
    · rename_i g hg
      cases h
      obtain ⟨s1, s2, s3, _⟩ := cndQ_ok (a := a) (pn := pn) G T hg
      exact ⟨s1, PE.weak s3 fun σ H Q h => tXe_const h⟩
    · obtain ⟨m', h1, rfl⟩ := Option.map_eq_some_iff.mp h
      exact ⟨ofQ0_plain h1, PE.weak (ofQ0_ok G h1 a _).2.1 fun σ H Q h => h.2⟩
theorem valsQ_ok (G : Good X cls W c Ph k) (T : Hot X cls oe z i q) : ∀ {es : List Expr} {ms : Nat → List ME}, valsQ c z es = some ms → PA (X.suite a ((a, oe) :: pn)) es (tXa X.K cls i a (ms q))
  | [], ms, h => by
    cases h
    exact PA.weak (pa_nilM (X := X.suite a ((a, oe) :: pn))) fun σ H Q h => h.2
  | e :: es, ms, h => by
    unfold valsQ at h
    split at h
    · rename_i m ms' h1 h2
      cases h
      obtain ⟨p1, p2⟩ := valQ_ok (a := a) (pn := pn) G T h1
      have p3 := valsQ_ok G T h2
      refine PA.weak (pa_cons p2 p3 (star_plain p1)) fun σ H Q h => ?_
      obtain ⟨hs, rho, env, st, w, re, h⟩ := h
      refine ⟨hs, rho, env, st, w, re, OkR.mono (OkR.bind h) fun d st1 rho1 H1 e1 w1 h1 v rv => ?_⟩
      refine ⟨hs, rho1, env, st1, w1, re.ext e1, OkR.mono (OkR.bind h1) fun ds st2 rho2 H2 e2 w2 h2 vs rvs => ?_⟩
      exact OkR.ok h2 w2 (v :: vs) (.cons (rv.ext e2) rvs)
    · cases h
theorem expQ_ok (G : Good X cls W c Ph k) (T : Hot X cls oe z i q) {e : Expr} {m : Nat → ME} (h : expQ c z e = some m) : PE (X.suite a ((a, oe) :: pn)) e (tXe X.K cls i a (m q)) := by
  unfold expQ at h
  split at h
  · obtain ⟨ms, h1, rfl⟩ := Option.map_eq_some_iff.mp h
    refine PE.weak (pe_tup (valsQ_ok (a := a) (pn := pn) G T h1)) fun sg H Q h => ?_
    obtain ⟨hs, rho, env, st, w, re, h⟩ := h
    refine ⟨hs, rho, env, st, w, re, OkR.mono (OkR.bind h) fun ds st1 rho1 H1 e1 w1 h1 vs rvs => ?_⟩
    split at h1
    · exact ⟨by rw [← rvs.length]; assumption, ok_tmp_tup w1 h1 rvs⟩
    · exact h1.elim
  · split at h
    · cases h
    · obtain ⟨ms, h1, rfl⟩ := Option.map_eq_some_iff.mp h
      refine PE.weak (pe_lst (valsQ_ok (a := a) (pn := pn) G T h1)) fun sg H Q h => ?_
      obtain ⟨hs, rho, env, st, w, re, h⟩ := h
      refine ⟨hs, rho, env, st, w, re, OkR.mono (OkR.bind h) fun ds st1 rho1 H1 e1 w1 h1 vs rvs => ?_⟩
      split at h1
      · exact ⟨by rw [← rvs.length]; assumption, ok_tmp_lst w1 h1 rvs⟩
      · exact h1.elim
  · exact (valQ_ok (a := a) (pn := pn) G T h).2
theorem xss_ret {e : Expr} {m : ME} {pos : Pos} {ss : List Stmt} {b : MS} (h : PE X e (tXe X.K cls i a m)) (hb : PSs X ss (tXs X.K cls i a b)) : PSs X (.Return (some e) pos :: ss) (tXs X.K cls i a (sSeq (sRet m) b)) := by
  refine PSs.weak (pss_cons (ps_ret h) hb) fun E sg H h => ?_
  obtain ⟨hs, rho, env, st, w, re, h⟩ := h
  refine ⟨hs, rho, env, st, w, re, ?_⟩
  unfold sSeq sRet at h
  cases q : m env st with
  | ok d st1 => rw [q] at h; exact fun rho1 H1 e1 w1 v rv => h v rho1 H1 e1 w1 rv
  | exc c st1 => rw [q] at h; exact fun rho1 H1 e1 w1 => h sg rho1 H1 e1 w1 (re.ext e1)
  | stuck => rw [q] at h; exact h
theorem xss_asg {e : Expr} {m : ME} {pos p : Pos} {x : Str} {j : Nat} {ss : List Stmt} {b : MS} (hN : X.N.Nodup) (hi : X.N[j]? = some x) (hx : Loc X.env.scope x) (hf : X.fn x = true ∨ X.env.scope.names.lookup x = some .local) (hji : j ≠ i) (hs : swapsWith e (some (.Name x p)) pos.line X.env = pure false) (h : PE X e (tXe X.K cls i a m)) (hb : PSs X ss (tXs X.K cls i a b)) : PSs X (.Assign [.Name x p] e pos :: ss) (tXs X.K cls i a (sSeq (sAsg m (gVar j)) b)) := by
  refine PSs.weak (pss_cons (ps_set hN hi hx h hs hf) hb) fun E sg H h => ?_
  obtain ⟨hs, rho, env, st, w, re, h⟩ := h
  refine ⟨hs, rho, env, st, w, re, ?_⟩
  unfold sSeq sAsg at h
  cases q : m env st with
  | ok d st1 =>
    rw [q] at h
    intro rho1 H1 e1 w1 v rv
    refine ⟨by rw [List.getElem?_set_ne hji]; exact hs, rho1, env.set j (some d), st1, w1, (re.ext e1).set rv j, ?_⟩
    exact OkS.from h e1
  | exc c st1 => rw [q] at h; exact fun rho1 H1 e1 w1 => h sg rho1 H1 e1 w1 (re.ext e1)
  | stuck => rw [q] at h; exact h
theorem xss_nil : PSs X [] (tXs X.K cls i a sSkip) := PSs.weak pss_nil fun E sg H h => by
  obtain ⟨hs, rho, env, st, w, re, h⟩ := h
  exact h sg rho H (Ext.refl _ _) w re hs
theorem xss_pass {pos : Pos} {ss : List Stmt} {b : MS} (hb : PSs X ss (tXs X.K cls i a b)) : PSs X (.Pass pos :: ss) (tXs X.K cls i a (sSeq sSkip b)) := by
  refine PSs.weak (pss_cons ps_pass hb) fun E sg H h => ?_
  exact h
theorem stm0_cons (G : Good X cls W c Ph k) (T : Hot X cls oe z i q) {s : Stmt} {ss : List Stmt} {m : Nat → MS} {b : MS} (h : stm0Q c z s = some m) (hb : PSs (X.suite a ((a, oe) :: pn)) ss (tXs X.K cls i a b)) : PSs (X.suite a ((a, oe) :: pn)) (s :: ss) (tXs X.K cls i a (sSeq (m q) b)) := by
  unfold stm0Q at h
  split at h
  · obtain ⟨m', h1, rfl⟩ := Option.map_eq_some_iff.mp h
    exact xss_ret (X := X.suite a ((a, oe) :: pn)) (expQ_ok (a := a) (pn := pn) G T h1) hb
  · cases h
    exact xss_pass (X := X.suite a ((a, oe) :: pn)) hb
  · split at h
    · cases h
    · rename_i hne
      split at h
      · rename_i j m' h1 h2
        cases h
        obtain ⟨a1, a2, a3⟩ := G.tgtOk h1
        have hji : j ≠ i := fun e => by
          subst e
          have := T.hN
          rw [a1] at this
          exact hne (.inl (Option.some.inj this))
        refine xss_asg (X := X.suite a ((a, oe) :: pn)) G.nd a1 a2 a3 hji (swaps_no ?_) (expQ_ok (a := a) (pn := pn) G T h2) hb
        exact Classical.byContradiction fun hh => hne (.inr (by simpa using hh))
      · cases h
  · cases h
theorem stms0Q_ok (G : Good X cls W c Ph k) (T : Hot X cls oe z i q) : ∀ {ss : List Stmt} {m : Nat → MS}, stms0Q c z ss = some m → PSs (X.suite a ((a, oe) :: pn)) ss (tXs X.K cls i a (m q))
  | [], m, h => by cases h; exact xss_nil (X := X.suite a ((a, oe) :: pn))
  | s :: ss, m, h => by
    unfold stms0Q at h
    split at h
    · rename_i m1 m2 h1 h2
      cases h
      exact stm0_cons G T h1 (stms0Q_ok G T h2)
    · cases h
theorem okS_if {K : PySem.W.Frag} {rho : Rho} {H : Hp} {m b : MS} {env : DEnv} {st : Sto} {E : Ends} (h : OkS K cls WF rho H (sSeq m b env st) (endX i a E)) : OkS K cls WF rho H (m env st) (endX i a { E with nx := fun σ H => tXs K cls i a b E σ H }) := by
  unfold sSeq at h
  cases q : m env st with
  | nx env1 st1 => rw [q] at h; exact fun sg rho1 H1 e1 w1 re1 hs => ⟨hs, rho1, env1, st1, w1, re1, OkS.from h e1⟩
  | rt d st1 => rw [q] at h; exact h
  | bk env1 st1 => rw [q] at h; exact h
  | ct env1 st1 => rw [q] at h; exact h
  | exc c env1 st1 => rw [q] at h; exact h
  | stuck => rw [q] at h; exact h
theorem xss_if {t : Expr} {ss rest : List Stmt} {v : Bool} {m b : MS} {pos : Pos} (ht : PT X t (tXt i a v)) (hm : PSs X ss (tXs X.K cls i a m)) (hb : PSs X rest (tXs X.K cls i a b)) : PSs X (.If t ss [] pos :: rest) (tXs X.K cls i a (sSeq (if v = true then m else sSkip) b)) := by
  refine PSs.weak (pss_cons (ps_if ht hm (xss_nil (cls := cls) (i := i) (a := a))) hb) fun E sg H h => ?_
  obtain ⟨hs, rho, env, st, w, re, h⟩ := h
  refine ⟨hs, ?_⟩
  cases v with
  | true =>
    rw [if_pos rfl] at h ⊢
    exact ⟨hs, rho, env, st, w, re, okS_if h⟩
  | false =>
    rw [if_neg (by simp)] at h ⊢
    exact ⟨hs, rho, env, st, w, re, okS_if h⟩
theorem stmsQ_ok (G : Good X cls W c Ph k) (T : Hot X cls oe z i q) : ∀ {ss : List Stmt} {m : Nat → MS}, stmsQ c z ss = some m → PSs (X.suite a ((a, oe) :: pn)) ss (tXs X.K cls i a (m q))
  | [], m, h => by cases h; exact xss_nil (X := X.suite a ((a, oe) :: pn))
  | s :: ss, m, h => by
    unfold stmsQ at h
    split at h
    · rename_i m1 m2 h1 h2
      cases h
      have hb := stmsQ_ok G T h2
      unfold stmQ at h1
      split at h1
      · split at h1
        · split at h1
          · rename_i g m' g1 g2
            cases h1
            exact xss_if (X := X.suite a ((a, oe) :: pn)) (cndQ_ok G T g1).2.2.2.1 (stms0Q_ok G T g2) hb
          · cases h1
        · cases h1
      · exact stm0_cons G T h1 hb
    · cases h
theorem ps_tryA {body : List Stmt} {x : Str} {np pos pos' : Pos} {b0 : Stmt} {bs : List Stmt} {mb : MS} {h : Nat} {su : Nat → MS} {sub : Nat → Nat → Bool} (hst : X.stack = X.env :: X.outer) (hf : X.env.frame = some X.env.locals) (nd : X.N.Nodup) (hN : X.N[i]? = some z) (hl : X.env.kindOf z = some .local) (hv : Vis X.env.scope z) (hc : Names X x (cls h)) (tk : Takes X W)
    (hb : ∀ (W' : WX) (pn : List (Addr × Obj)) (xe : Value → Shared → Prop), Takes (X.tr pn xe) W' → PassesOwn (model X.prog X.w) X.A X.env xe → PSs (X.tr pn xe) body (tS X.K cls W' mb))
    (hs : ∀ (a : Addr) (oe : Obj) (pn : List (Addr × Obj)) (q : Nat), Hot X cls oe z i q → PSs (X.suite a ((a, oe) :: pn)) (b0 :: bs) (tXs X.K cls i a (su q))) (hsub : ∀ a b, PySem.W.exmOne X.K (cls a) (cls b) = some (sub a b)) :
    PS X (.Try body [.ExceptHandler (some (.Name x np)) (some z) (b0 :: bs) pos'] [] [] pos) (tS X.K cls W (sTryA sub mb h i su)) := by
  refine PS.weak (ps_try_as (tb := fun W' => tS X.K cls W' mb) (ts := fun a clv d D σ H => ∃ q, (clv = cls q ∧ d = none) ∧ tXs X.K cls i a (su q) D σ H) hst hf nd hN hl hc tk hb ?_) fun E sg H h => ?_
  · intro a oe clv d pn hz hf
    refine PSs.ex fun q => PSs.with fun hq => ?_
    obtain ⟨rfl, rfl⟩ := hq
    exact hs a oe pn q ⟨hz, hf, hN, hv⟩
  · obtain ⟨rho, env, st, w, re, h⟩ := h
    refine ⟨rho, env, st, w, re, ?_⟩
    unfold sTryA at h
    cases q : mb env st with
    | exc c env1 st1 =>
      rw [q] at h
      intro sg1 rho1 H1 e1 w1 re1
      refine ⟨sub c _, hsub c _, fun hT a ha => ?_, fun hF => ?_⟩
      · simp only [if_pos hT] at h
        by_cases hi : i < env1.length
        · simp only [if_pos hi] at h
          have hlen := re1.len
          refine ⟨c, ⟨rfl, rfl⟩, by rw [List.getElem?_set_self (by omega)], rho1, env1.set i none, st1, w1, ⟨by simp [re1.len], fun j d hj => ?_⟩, ?_⟩
          · by_cases e : i = j
            · subst e
              rw [List.getElem?_set_self hi] at hj
              cases hj
            · rw [List.getElem?_set_ne e] at hj ⊢
              exact re1.at_ j d hj
          · have unset : ∀ {sg2 : L2.St} {rho2 : Rho} {H2 : Hp} {env2 : DEnv}, RelEnv X.K rho2 H2 env2 sg2 → RelEnv X.K rho2 H2 (env2.set i none) (sg2.set i none) := fun {sg2 rho2 H2 env2} r2 => by
              refine ⟨by simp [r2.len], fun j d hj => ?_⟩
              by_cases e : i = j
              · subst e
                rw [List.getElem?_set] at hj
                split at hj
                · split at hj <;> cases hj
                · rename_i z; exact absurd rfl z
              · rw [List.getElem?_set_ne e] at hj ⊢
                exact r2.at_ j d hj
            cases r : su c (env1.set i none) st1 with
            | nx env2 st2 => simp only [r] at h; exact fun sg2 rho2 H2 e2 w2 re2 _ => h _ rho2 H2 (e1.trans e2) w2 (unset re2)
            | bk env2 st2 => simp only [r] at h; exact fun sg2 rho2 H2 e2 w2 re2 => h _ rho2 H2 (e1.trans e2) w2 (unset re2)
            | ct env2 st2 => simp only [r] at h; exact fun sg2 rho2 H2 e2 w2 re2 => h _ rho2 H2 (e1.trans e2) w2 (unset re2)
            | rt d st2 => simp only [r] at h; exact fun v rho2 H2 e2 w2 rv => h v rho2 H2 (e1.trans e2) w2 rv
            | exc c2 env2 st2 => simp only [r] at h; exact h.elim
            | stuck => simp only [r] at h; exact h.elim
        · simp only [if_neg hi] at h
          exact h.elim
      · simp only [if_neg (show ¬ sub c _ = true by rw [hF]; simp)] at h
        exact h sg1 rho1 H1 e1 w1 re1
    | nx env1 st1 => rw [q] at h; exact h
    | rt d st1 => rw [q] at h; exact h
    | bk env1 st1 => rw [q] at h; exact h
    | ct env1 st1 => rw [q] at h; exact h
    | stuck => rw [q] at h; exact h
theorem ofHA_ok (G : Good X cls W c Ph k) {hs : List ExceptHandler} {r : Nat × Nat × (Nat → MS)} (h : ofHA c hs = some r) : ∃ x np z b0 bs pos', hs = [.ExceptHandler (some (.Name x np)) (some z) (b0 :: bs) pos'] ∧ X.N[r.2.1]? = some z ∧ X.env.kindOf z = some .local ∧ Vis X.env.scope z ∧ Names X x (cls r.1) ∧ c.xcs ≠ [] ∧
    ∀ (a : Addr) (oe : Obj) (pn : List (Addr × Obj)) (q : Nat), Hot X cls oe z r.2.1 q → PSs (X.suite a ((a, oe) :: pn)) (b0 :: bs) (tXs X.K cls r.2.1 a (r.2.2 q)) := by
  unfold ofHA at h
  split at h
  · rename_i x np z b0 bs pos'
    split at h
    · rename_i hc
      obtain ⟨hc, hk⟩ := hc
      simp only [Bool.and_eq_true] at hc
      split at h
      · rename_i hh i m h1 h2 h3
        cases h
        obtain ⟨a1, a2, _, _⟩ := G.visOk h2
        obtain ⟨C, hC, hm, _⟩ := G.xcs hh _ (ixOf_get h1)
        refine ⟨x, np, z, b0, bs, pos', rfl, a1, ?_, a2, ⟨G.glOk hc.1.1, (okName_ok hc.1.2).1, .inl (by rw [hC]; exact hm)⟩, ?_, fun a oe pn q T => stmsQ_ok G T h3⟩
        · show X.env.scope.names.lookup z = some .local
          rw [G.sc]
          exact hk
        · intro e
          rw [e] at h1
          cases h1
      · cases h
    · cases h
  · cases h
end
theorem ofH_ne {c : CC} {h0 : ExceptHandler} {hs : List ExceptHandler} {l : List (Nat × MS)} (h : ofH c (h0 :: hs) = some l) : c.xcs ≠ [] := fun e => by
  unfold ofH at h
  split at h
  · rename_i z; cases z
  · split at h
    · split at h
      · rename_i i r h1 h3
        rw [e] at h1
        cases h1
      · cases h
    · cases h
  · cases h
theorem swB_ok {X : Cx} {W : WX} {c : CC} (G : Good X cls W c Ph k) {elt : Expr} {gs : List Comprehension} {scope : Scope} {q p : Pos} {x : Str} {l : Nat} (h : swB c (.ListComp elt gs scope q) x p = true) : swapsWith (.ListComp elt gs scope q) (some (.Name x p)) l X.env = pure true ∧ X.env.scope.names.lookup x = some .local := by
  unfold swB CC.kind at h
  simp only [Bool.and_eq_true, Bool.not_eq_true'] at h
  obtain ⟨⟨⟨h1, h2⟩, h3⟩, h4⟩ := h
  have k1 : X.env.scope.kind = .function := by
    rw [G.sc]
    split at h1
    · assumption
    · cases h1
  have k2 : X.env.scope.names.lookup x = some .local := by
    rw [G.sc]
    split at h2
    · assumption
    · cases h2
  exact ⟨sw_true k1 k2 h3 h4, k2⟩
theorem cellB_ok {X : Cx} {W : WX} {c : CC} (G : Good X cls W c Ph k) {elt : Expr} {gs : List Comprehension} {scope : Scope} {q p : Pos} {x : Str} {l : Nat} (h : cellB c x = true) : swapsWith (.ListComp elt gs scope q) (some (.Name x p)) l X.env = pure false := by
  unfold cellB CC.kind at h
  have k2 : X.env.scope.names.lookup x = some .cell := by
    rw [G.sc]
    split at h
    · assumption
    · cases h
  have k3 : X.env.kindOf x = some .cell := k2
  show (pure (X.env.blockKind == .function && X.env.kindOf x == some .local && p.line == q.line && !(scope.names.any fun (n, k) => n == x && (k == .local || k == .cell))) : Sem Bool) = pure false
  rw [k3]
  congr 1
  have : ((some NameKind.cell : Option NameKind) == some .local) = false := rfl
  rw [this]
  simp
structure SndS (cls : Nat → Value) (Ph : Nat → List D → Sto → R D) (k n : Nat) : Prop where
  s : ∀ {X W c}, Good X cls W c Ph k → ∀ {s m}, ofS Ph n c s = some m → PS X s (tS X.K cls W m)
  ss : ∀ {X W c}, Good X cls W c Ph k → ∀ {ss m}, ofSs Ph n c ss = some m → PSs X ss (tS X.K cls W m)
theorem snd_ss {n : Nat} (ih : SndS cls Ph k n) {X : Cx} {W : WX} {c : CC} (G : Good X cls W c Ph k) {ss : List Stmt} {m : MS} (h : ofSs Ph (n + 1) c ss = some m) : PSs X ss (tS X.K cls W m) := by
  cases ss with
  | nil =>
    unfold ofSs at h
    cases h
    exact pss_nilM
  | cons s ss =>
    unfold ofSs at h
    split at h
    · rename_i a b h1 h2
      cases h
      exact pss_consM (ih.s G h1) (ih.ss G h2)
    · cases h
      exact pss_stuck
theorem snd_s {n : Nat} (ih : SndS cls Ph k n) {X : Cx} {W : WX} {c : CC} (G : Good X cls W c Ph k) {s : Stmt} {m : MS} (h : ofS Ph (n + 1) c s = some m) : PS X s (tS X.K cls W m) := by
  have ie := snd_all (cls := cls) (Ph := Ph) (k := k) n
  unfold ofS at h
  split at h
  · obtain ⟨me, h1, rfl⟩ := Option.map_eq_some_iff.mp h
    exact ps_retM (ie.e G h1).pe
  · cases h; exact ps_retNM
  · cases h; exact ps_passM
  · cases h; exact ps_breakM
  · cases h; exact ps_contM
  · split at h
    · rename_i hc
      obtain ⟨me, h1, rfl⟩ := Option.map_eq_some_iff.mp h
      exact ps_exprM (ie.e G h1).pe hc
    · cases h
  · split at h
    · rename_i hsw
      split at h
      · rename_i i mi vs g kk me h1 h2
        cases h
        obtain ⟨sw, loc⟩ := swB_ok G hsw
        exact ps_lkS ((ie.lc G h2).set _ (G.tgtOk h1).1 loc sw)
      · cases h
    · split at h
      · rename_i hc
        split at h
        · rename_i i me h1 h2
          cases h
          obtain ⟨a1, a2, a3⟩ := G.tgtOk h1
          exact ps_setM G.nd a1 a2 a3 (ie.e G h2).pe (cellB_ok G hc)
        · cases h
      · cases h
  · split at h
    · rename_i hc
      split at h
      · rename_i i me h1 h2
        cases h
        obtain ⟨a1, a2, a3⟩ := G.tgtOk h1
        exact ps_setM G.nd a1 a2 a3 (ie.e G h2).pe (swaps_no hc)
      · cases h
    · cases h
  · split at h
    · rename_i hc
      simp only [Bool.and_eq_true] at hc
      split at h
      · rename_i is me h1 h2
        cases h
        exact ps_tupM G.calm G.nd (G.names h1) (ie.e G h2).pe hc.1 hc.2
      · cases h
    · cases h
  · split at h
    · rename_i mo me h1 h2
      cases h
      exact ps_fldM G.fld (ie.e G h1).pe (ie.e G h2).pe
    · cases h
  · split at h
    · rename_i hc
      split at h
      · rename_i mo mi me h1 h2 h3
        cases h
        exact ps_setIxM (by have := G.un; omega) (ie.e G h1).pe (ie.e G h2).pe (ie.e G h3).pe hc
      · cases h
    · cases h
  · split at h
    · rename_i i f me h1 h2 h3
      cases h
      obtain ⟨a1, a2, a3⟩ := G.tgtOk h1
      exact ps_augM h2 G.nd a1 a2 a3 (ie.e G h3).pe
    · cases h
  · split at h
    · rename_i hc
      split at h
      · rename_i f mo mi me h1 h2 h3 h4
        cases h
        exact ps_augLM (by have := G.un; omega) h1 (ie.e G h2).pe (ie.e G h3).pe (ie.e G h4).pe hc
      · cases h
    · cases h
  · split at h
    · rename_i ht
      split at h
      · rename_i mt ma mb h1 h2 h3
        cases h
        exact ps_ifM ((ie.e G h1).pt ht) (ih.ss G h2) (ih.ss G h3)
      · cases h
    · cases h
  · split at h
    · rename_i ht
      split at h
      · rename_i mt ma h1 h2
        cases h
        exact ps_whileM G.own ((ie.e G h1).pt ht) (ih.ss G h2)
      · cases h
    · cases h
  · split at h
    · rename_i hs
      split at h
      · rename_i vs g mi ma h1 h2 h3
        cases h
        exact ps_lkS (ps_forM G.own G.calm hs (ie.i G h2) (G.tgPG h1) (ih.ss G h3))
      · cases h
    · cases h
  · split at h
    · rename_i hc
      simp only [Bool.and_eq_true] at hc
      obtain ⟨i, hi, rfl⟩ := Option.map_eq_some_iff.mp h
      obtain ⟨C, hC, hm, he, hk, hb, ht⟩ := G.xcs i _ (ixOf_get hi)
      exact ps_raiseM hC G.calm G.tk he hm hk (raises_own hb ht) (G.glOk hc.1) (okName_ok hc.2).1
    · cases h
  · split at h
    · rename_i hd
      split at h
      · rename_i mb l h1 h2
        cases h
        obtain ⟨s1, s2⟩ := G.stk hd
        obtain ⟨p, q⟩ := ofH_ok G h2
        exact ps_tryM s1 s2 G.tk (fun W' pn xe tk own => ih.ss (G.tr pn xe tk own) h1) p (G.sub (ofH_ne h2)) q
      · rename_i mb h1 h2
        obtain ⟨r, h3, rfl⟩ := Option.map_eq_some_iff.mp h
        obtain ⟨s1, s2⟩ := G.stk hd
        obtain ⟨x, np, z, b0, bs, pos', e, p1, p2, p3, p4, p5, p6⟩ := ofHA_ok G h3
        rw [e]
        exact ps_tryA s1 s2 G.nd p1 p2 p3 p4 G.tk (fun W' pn xe tk own => ih.ss (G.tr pn xe tk own) h1) p6 (G.sub p5)
      · cases h
    · cases h
  · cases h
theorem sndS_all : ∀ n : Nat, SndS cls Ph k n
  | 0 => ⟨fun _ _ _ h => (by unfold ofS at h; cases h), fun _ _ _ h => (by unfold ofSs at h; cases h)⟩
  | n + 1 => ⟨fun G _ _ h => snd_s (sndS_all n) G h, fun G _ _ h => snd_ss (sndS_all n) G h⟩
end
end MI
namespace MI
open PySem PySem.Spec PyProof.Rows L2
variable [TC : TabsC]
structure DefR where
  arity : Nat
  slots : Nat
  frz : Bool
  body : (Nat → List D → Sto → R D) → MS
def startD (n : Nat) (ds : List D) : DEnv := ds.map some ++ List.replicate (n - ds.length) none
def belowO (n : Nat) : SO → Bool
  | .lst ds => belows n ds
  | .dic kvs => belowk n kvs
  | .ins _ fs => belows n (fs.map (·.2))
  | .dicT kvs => belows n (kvs.map (·.2))
  | .dicL kvs => belows n (kvs.map (·.2))
  | .dicF kvs => belowk n kvs
  | .exn _ => true
def Same (st st' : Sto) : Prop := ∀ (i : Nat) (o : SO), i < st.length → st'[i]? = some o → st[i]? = some o ∨ belowO st.length o = true
open Classical in
noncomputable def freeze (st : Sto) (d : D) (st' : Sto) : R D :=
  if st'.length = st.length then .ok d st'
  else if Same st st' then (match d with
    | .ref l => if l < st.length then .ok d (st'.take st.length) else (match st'[l]? with
      | some (.lst ds) => if belows st.length ds = true then .ok (.lst ds) (st'.take st.length) else .ok d st'
      | some (.dic kvs) => if belowk st.length kvs = true then .ok (.dic kvs) (st'.take st.length) else .ok d st'
      | _ => .ok d st')
    | d => if below st.length d = true then .ok d (st'.take st.length) else .ok d st')
  else .ok d st'
open Classical in
noncomputable def cutSt (st st' : Sto) : Sto := if st'.length = st.length then st' else if Same st st' then st'.take st.length else st'
noncomputable def runDef (d : DefR) (Ph : Nat → List D → Sto → R D) (ds : List D) (st : Sto) : R D :=
  if ds.length = d.arity then (match d.body Ph (startD d.slots ds) st with
    | .rt v st' => if d.frz = true then freeze st v st' else .ok v st'
    | .nx _ st' => if d.frz = true then .ok .non (cutSt st st') else .ok .non st'
    | .exc c _ st' => if d.frz = true then .exc c (cutSt st st') else .exc c st'
    | _ => .stuck) else .stuck
noncomputable def Phi (tbl : List DefR) : Nat → Nat → List D → Sto → R D
  | 0, _, _, _ => .stuck
  | n + 1, i, ds, st => match tbl[i]? with
    | some d => runDef d (Phi tbl n) ds st
    | none => .stuck
section
variable {K : PySem.W.Frag} {cls : Nat → Value} {W : WX} {sg : L2.St} {rho rho' : Rho} {H H' : Hp} {st st' : Sto}
mutual
theorem below_rel : ∀ {d : D} {v : V}, RelD K rho H d v → below rho.loc.length d = true
  | _, _, .non => by simp [below]
  | _, _, .bl b => by simp [below]
  | _, _, .int i => by simp [below]
  | _, _, .str x => by simp [below]
  | _, _, .fn _ => by simp [below]
  | _, _, .tup h r _ => by simp only [below]; exact belows_rel r
  | _, _, .lst h n r => by simp only [below]; exact belows_rel r
  | _, _, .fz h r => by simp only [below]; exact belows_rel r
  | _, _, .dic h n r => by simp only [below]; exact belowk_rel r
  | _, _, .ref h => by
    simp only [below, decide_eq_true_eq]
    exact (List.getElem?_eq_some_iff.mp h).1
theorem belows_rel : ∀ {ds : List D} {vs : List V}, RelDs K rho H ds vs → belows rho.loc.length ds = true
  | _, _, .nil => by simp [belows]
  | _, _, .cons h t => by simp [belows, below_rel h, belows_rel t]
theorem belowk_rel : ∀ {ds : List (Key × D)} {vs : List (Key × V)}, RelK K rho H ds vs → belowk rho.loc.length ds = true
  | _, _, .nil => by simp [belowk]
  | _, _, .cons h t => by simp [belowk, below_rel h, belowk_rel t]
end
structure Narrow (rho rho' : Rho) : Prop where
  loc : ∃ n, rho'.loc = rho.loc ++ n
  res : rho'.res = rho.res
theorem Narrow.notMem (n : Narrow rho rho') {a : Addr} (h : a ∉ rho') : a ∉ rho := fun z => h (by
  obtain ⟨m, e⟩ := n.loc
  rcases z with z | z
  · exact .inl (by rw [e]; exact List.mem_append_left _ z)
  · exact .inr (by rw [n.res]; exact z))
mutual
theorem RelD.narrow (n : Narrow rho rho') : ∀ {d : D} {v : V}, RelD K rho' H d v → below rho.loc.length d = true → RelD K rho H d v
  | _, _, .non, _ => .non
  | _, _, .bl b, _ => .bl b
  | _, _, .int i, _ => .int i
  | _, _, .str x, _ => .str x
  | _, _, .fn h, _ => .fn h
  | _, _, .tup h r k, b => .tup h (RelDs.narrow n r (by simpa only [below] using b)) k
  | _, _, .lst h m r, b => .lst h (n.notMem m) (RelDs.narrow n r (by simpa only [below] using b))
  | _, _, .fz h r, b => .fz h (RelDs.narrow n r (by simpa only [below] using b))
  | _, _, .dic h m r, b => .dic h (n.notMem m) (RelK.narrow n r (by simpa only [below] using b))
  | _, _, .ref h, b => .ref (by
      obtain ⟨m, e⟩ := n.loc
      have hl := by simpa only [below, decide_eq_true_eq] using b
      rw [e, List.getElem?_append_left hl] at h
      exact h)
theorem RelDs.narrow (n : Narrow rho rho') : ∀ {ds : List D} {vs : List V}, RelDs K rho' H ds vs → belows rho.loc.length ds = true → RelDs K rho H ds vs
  | _, _, .nil, _ => .nil
  | _, _, .cons h t, b => by
    simp only [belows, Bool.and_eq_true] at b
    exact .cons (RelD.narrow n h b.1) (RelDs.narrow n t b.2)
theorem RelK.narrow (n : Narrow rho rho') : ∀ {ds : List (Key × D)} {vs : List (Key × V)}, RelK K rho' H ds vs → belowk rho.loc.length ds = true → RelK K rho H ds vs
  | _, _, .nil, _ => .nil
  | _, _, .cons h t, b => by
    simp only [belowk, Bool.and_eq_true] at b
    exact .cons (RelD.narrow n h b.1) (RelK.narrow n t b.2)
end
theorem Ext.narrow (e : Ext rho H rho' H') : Narrow rho rho' := ⟨let ⟨n, h, _⟩ := e.new; ⟨n, h⟩, e.res⟩
theorem Ext.back (e : Ext rho H rho' H') : Ext rho H rho H' := ⟨⟨[], by simp, fun b hb => absurd hb (by simp)⟩, rfl, e.keep, e.kres, e.tup, e.frz, e.liv⟩
theorem Wld.back (w : Wld K rho st H) (e : Ext rho H rho' H') (w' : Wld K rho' st' H') (s : Same st st') : Wld K rho (st'.take st.length) H' := by
  have hle : st.length ≤ st'.length := by
    obtain ⟨n, en, _⟩ := e.new
    rw [← w.len, ← w'.len, en, List.length_append]
    omega
  refine ⟨by rw [List.length_take, w.len]; omega, w.nd, fun l a o h1 h2 => ?_, w.dis, fun b hb => w'.rsv b (by rw [e.res]; exact hb), w'.tab⟩
  have hl : l < st.length := by rw [← w.len]; exact (List.getElem?_eq_some_iff.mp h1).1
  rw [List.getElem?_take_of_lt hl] at h2
  have q := w'.obj l a o (e.get h1) h2
  have hb : belowO rho.loc.length o = true := by
    rcases s l o hl h2 with q0 | q0
    · have q1 := w.obj l a o h1 q0
      cases o with
      | lst ds =>
        obtain ⟨vs0, h0, r0⟩ := q1
        exact belows_rel r0
      | dic ds =>
        obtain ⟨vs0, h0, r0⟩ := q1
        exact belowk_rel r0
      | ins c fs =>
        obtain ⟨vs0, C0, dx0, h0, h2, h3, r0⟩ := q1
        exact belows_rel r0
      | dicT fs =>
        obtain ⟨vs0, h0, h3, r0⟩ := q1
        exact belows_rel r0
      | dicL fs =>
        obtain ⟨o0, vs0, h0, h3, r0⟩ := q1
        exact belows_rel r0
      | dicF fs =>
        obtain ⟨o0, vs0, h0, r0⟩ := q1
        exact belowk_rel r0
      | exn c => rfl
    · rw [w.len]; exact q0
  cases o with
  | lst ds =>
    obtain ⟨vs, h, r⟩ := q
    exact ⟨vs, h, r.narrow e.narrow hb⟩
  | dic ds =>
    obtain ⟨vs, h, r⟩ := q
    exact ⟨vs, h, r.narrow e.narrow hb⟩
  | ins c fs =>
    obtain ⟨vs, C, dx, h, h2, h3, r⟩ := q
    exact ⟨vs, C, dx, h, h2, h3, r.narrow e.narrow hb⟩
  | dicT fs =>
    obtain ⟨vs, h, h3, r⟩ := q
    exact ⟨vs, h, h3, r.narrow e.narrow hb⟩
  | dicL fs =>
    obtain ⟨o0, vs, h, h3, r⟩ := q
    exact ⟨o0, vs, h, h3, r.narrow e.narrow hb⟩
  | dicF fs =>
    obtain ⟨o0, vs, h, r⟩ := q
    exact ⟨o0, vs, h, r.narrow e.narrow hb⟩
  | exn c => exact q
theorem out_of_old (w : Wld K rho st H) (e : Ext rho H rho' H') (w' : Wld K rho' st' H') {l : Nat} {a : Addr} (h : rho'.loc[l]? = some a) (hl : ¬ l < st.length) : a ∉ rho := fun z => by
  rcases z with z | z
  · obtain ⟨i, hi, ei⟩ := List.mem_iff_getElem.mp z
    have h1 : rho.loc[i]? = some a := by rw [List.getElem?_eq_getElem hi, ei]
    have h2 := e.get h1
    obtain ⟨b1, e1⟩ := List.getElem?_eq_some_iff.mp h
    obtain ⟨b2, e2⟩ := List.getElem?_eq_some_iff.mp h2
    have : l = i := (List.getElem_inj w'.nd).mp (e1.trans e2.symm)
    rw [← w.len] at hl
    omega
  · exact w'.dis a (List.mem_of_getElem? h) (by rw [e.res]; exact z)
theorem freeze_ok {d : D} {Q : VK} (w : Wld K rho st H) (h : OkR K cls W sg rho H (freeze st d st') (VQ K Q)) : OkR K cls W sg rho H (.ok d st') (VQ K Q) := by
  intro rho' H' e w' v rv
  unfold freeze at h
  split at h
  · exact h rho' H' e w' v rv
  · split at h
    · rename_i hs
      have wb := w.back e w' hs
      split at h
      · rename_i l
        split at h
        · rename_i hl
          exact h rho H' e.back wb v (rv.narrow e.narrow (by simp only [below, decide_eq_true_eq]; rw [w.len]; exact hl))
        · rename_i hl
          split at h
          · rename_i ds hd
            split at h
            · rename_i hb
              obtain ⟨a, vs, rfl, ha, h1, h2⟩ := ref_lst w' rv hd
              exact h rho H' e.back wb _ (.lst h1 (out_of_old w e w' ha hl) (h2.narrow e.narrow (by rw [w.len]; exact hb)))
            · exact h rho' H' e w' v rv
          · rename_i ds hd
            split at h
            · rename_i hb
              obtain ⟨a, vs, rfl, ha, h1, h2⟩ := ref_dic w' rv hd
              exact h rho H' e.back wb _ (.dic h1 (out_of_old w e w' ha hl) (h2.narrow e.narrow (by rw [w.len]; exact hb)))
            · exact h rho' H' e w' v rv
          · exact h rho' H' e w' v rv
      · split at h
        · rename_i hb
          exact h rho H' e.back wb v (rv.narrow e.narrow (by rw [w.len]; exact hb))
        · exact h rho' H' e w' v rv
    · exact h rho' H' e w' v rv
theorem cut_ok {d : D} {Q : VK} (hd : below 0 d = true) (w : Wld K rho st H) (h : OkR K cls W sg rho H (.ok d (cutSt st st')) (VQ K Q)) (hn : ∀ rho' H' v, RelD K rho' H' d v → RelD K rho H' d v) : OkR K cls W sg rho H (.ok d st') (VQ K Q) := by
  intro rho' H' e w' v rv
  unfold cutSt at h
  split at h
  · exact h rho' H' e w' v rv
  split at h
  · rename_i hs
    exact h rho H' e.back (w.back e w' hs) v (hn rho' H' v rv)
  · exact h rho' H' e w' v rv
theorem cut_exc {c : Nat} {P : D → Sto → Rho → Hp → Prop} (w : Wld K rho st H) (h : OkR K cls W sg rho H (.exc c (cutSt st st')) P) : OkR K cls W sg rho H (.exc c st') P := by
  intro rho' H' e w'
  unfold cutSt at h
  split at h
  · exact h rho' H' e w'
  split at h
  · rename_i hs
    exact h rho H' e.back (w.back e w' hs)
  · exact h rho' H' e w'
theorem relDs_map_start {N : List Str} {ds : List D} {vs : List V} (r : RelDs K rho H ds vs) : RelEnv K rho H (startD N.length ds) (L2.start N vs) := by
  have hl := r.length
  refine ⟨by simp [startD, L2.start, hl], fun i d h => ?_⟩
  unfold startD at h
  by_cases hi : i < ds.length
  · rw [List.getElem?_append_left (by simpa using hi), List.getElem?_map] at h
    obtain ⟨d', hd', e⟩ := Option.map_eq_some_iff.mp h
    cases e
    obtain ⟨v, hv, rv⟩ := r.get hd'
    refine ⟨v, ?_, rv⟩
    unfold L2.start
    rw [List.getElem?_append_left (by simpa [hl] using hi), List.getElem?_map, hv]
    rfl
  · rw [List.getElem?_append_right (by simpa using hi), List.getElem?_replicate] at h
    split at h <;> cases h
end
structure ModF (P : Program) (w : World) (K : PySem.W.Frag) (mg : Str → Option Value) (base : Heap) (cls : Nat → Value) (c : CC) (Ph : Nat → List D → Sto → R D) (k : Nat) : Prop where
  blt : ∀ x ∈ c.blt, mg x = none
  fns : ∀ (i : Nat) (x : Str), c.fns[i]? = some x → FOk P w K mg base cls k x (Ph i)
  gl : ∀ (x : Str) (d : D), c.gl.lookup x = some d → GOk K mg x d
  kd : ∀ (x : Str) (t : List (Str × D)), c.kd.lookup x = some t → KOk K w mg x t
  xcs : ∀ (i : Nat) (x : Str), c.xcs[i]? = some x → XOk K mg (cls i) x
  sub : c.xcs ≠ [] → ∀ a b, PySem.W.exmOne K (cls a) (cls b) = some (c.sub a b)
  isi : ∀ (t : Str) (g : Nat → Bool), c.isi.lookup t = some g → IsiOk K mg cls t g
  evs : EvOk K mg c.exv c.evi
  ocl : ∀ (x : Str) (p : List Str × List (Str × Nat)), c.ocl.lookup x = some p → COk P w K mg base cls k x p.1 p.2 Ph
def CC.at (c : CC) (N : List Str) (sc : Scope) (lt : Bool := false) : CC := { c with N := N, sc := sc, dfn := true, cok := fun _ => true, lt := lt }
def LamFd (fd : FuncData) (qn : Str) : Prop := ∃ ca P, fd.code = .ref ca ∧ (ca, P) ∈ TabsC.codes ∧ (P, qn ++ ".<locals>." ++ "<lambda>") ∈ TabsC.tabs ∧ ∀ p ∈ TabsC.tabs, p.1 = P → p.2 = qn ++ ".<locals>." ++ "<lambda>"
theorem def_ok {P : Program} {w : World} {K : PySem.W.Frag} {mg : Str → Option Value} {base : Heap} {cls : Nat → Value} {c : CC} {Ph : Nat → List D → Sto → R D} {k n : Nat} {x qn : Str} {s : Stmt} {f : Addr} {fd : FuncData} {N ps : List Str} {d : DefR} {lt : Bool} (hTB : ∀ p ∈ TabsC.codes, LamX.TabB base mg p.1 p.2)
    (M : ModF P w K mg base cls c Ph k) (F : Fun K x qn s f fd) (S : FnScope N ps (defScope s)) (ha : d.arity = ps.length) (hs : d.slots = N.length) (hb : ofSs Ph n (c.at N (defScope s) lt) (defBody s) = some (d.body Ph)) (hlt : lt = true → LamFd fd qn) :
    FnOk P w K mg base (L2.CX P w) (k + 3) f fd ps (spF K cls (runDef d Ph)) := by
  obtain ⟨oc, od, kV, doc, pm, an, cdv, ct, osl, rfl, lk, hcd⟩ := F.ex
  refine fn_of lk hcd S (fun vs H Q E h => ?_) (fun A outer s0 H vs Q E hr h => ?_)
  · obtain ⟨rho, st, ds, w0, r, h⟩ := h
    unfold runDef at h
    split at h
    · rename_i hl
      rw [← r.length, hl, ha]
    · exact h.elim
  · obtain ⟨rho, st, ds, w0, r, h⟩ := h
    have G : Good (cxOf (L2.CX P w) P w K mg base N qn (defScope s) f cdv A outer s0 H E) cls (fun cl d _ H => E cl d H) (c.at N (defScope s) lt) Ph k :=
      { calm := rfl, nd := S.nd, hN := rfl, sc := rfl, cok := fun _ _ => rfl, room := hr.mono (by omega), own := passes_of rfl, tk := takes_of rfl rfl rfl rfl, stk := fun _ => ⟨rfl, rfl⟩,
        blt := M.blt, fns := M.fns, isi := M.isi, evs := M.evs, gl := M.gl, kd := M.kd, xcs := M.xcs, sub := M.sub, ocl := M.ocl, lroom := fun _ => hr,
        lam := fun h => let ⟨ca, P, h1, h2, h3, h4⟩ := hlt h; ⟨ca, P, h1, hTB _ h2, h3, h4⟩ }
    refine ⟨_, (sndS_all n).ss G hb, rho, startD N.length ds, st, w0, relDs_map_start r, ?_⟩
    unfold runDef at h
    split at h
    · rw [hs] at h
      cases q : d.body Ph (startD N.length ds) st with
      | rt v st' =>
        rw [q] at h
        have h' : OkR K cls (fun cl d _ H => E cl d H) [] rho H (.ok v st') (VQ K Q) := by
          simp only at h
          split at h
          · exact freeze_ok w0 h
          · exact h
        exact fun v rho' H' e w' rv => h' rho' H' e w' v rv
      | nx env st' =>
        rw [q] at h
        have h' : OkR K cls (fun cl d _ H => E cl d H) [] rho H (.ok .non st') (VQ K Q) := by
          simp only at h
          split at h
          · exact cut_ok rfl w0 h fun rho' H' v rv => by cases rv; exact .non
          · exact h
        exact fun sg rho' H' e w' re => h' rho' H' e w' .non .non
      | exc cl env st' =>
        rw [q] at h
        have h' : OkR K cls (fun cl d _ H => E cl d H) [] rho H (.exc cl st') (VQ K Q) := by
          simp only at h
          split at h
          · exact cut_exc w0 h
          · exact h
        exact fun sg rho' H' e w' re => h' rho' H' e w'
      | bk env st' => rw [q] at h; exact h.elim
      | ct env st' => rw [q] at h; exact h.elim
      | stuck => rw [q] at h; exact h.elim
    · exact h.elim
structure DefOk (K : PySem.W.Frag) (mg : Str → Option Value) (c : CC) (x : Str) (d : DefR) : Prop where
  ex : ∃ (s : Stmt) (f : Addr) (fd : FuncData) (N ps : List Str) (n : Nat) (lt : Bool), (mg x = some (.ref f) ∧ PySem.W.nsIn K mainGlobals x = some (some (.ref f))) ∧ Fun K x x s f fd ∧ Binds K fd ps [] ∧ FnScope N ps (defScope s) ∧ d.arity = ps.length ∧ d.slots = N.length ∧ (∀ Ph, ofSs Ph n (c.at N (defScope s) lt) (defBody s) = some (d.body Ph)) ∧ (lt = true → LamFd fd x)
structure MthOk (K : PySem.W.Frag) (C : Addr) (c : CC) (m : Str) (d : DefR) : Prop where
  ex : ∃ (qn : Str) (s : Stmt) (f : Addr) (fd : FuncData) (N ps : List Str) (n : Nat), Meth K C m f ∧ Fun K m qn s f fd ∧ Binds K fd ps [] ∧ FnScope N ps (defScope s) ∧ d.arity = ps.length ∧ d.slots = N.length ∧ ∀ Ph, ofSs Ph n (c.at N (defScope s)) (defBody s) = some (d.body Ph)
def ClOk (K : PySem.W.Frag) (mg : Str → Option Value) (c : CC) (tbl : List DefR) (x : Str) (fl : List Str) (ms : List (Str × Nat)) : Prop := ∃ C, PySem.W.nsIn K mainGlobals x = some (some (.ref C)) ∧ mg x = some (.ref C) ∧ Cls K C ∧ (∀ f ∈ fl, NoAttr K C f) ∧
  (∀ (m : Str) (i : Nat), ms.lookup m = some i → ∃ d, tbl[i]? = some d ∧ MthOk K C c m d) ∧ PySem.W.makesIn K C = true ∧ PySem.W.keepIn K (.ref C) = true
theorem phi_ok {P : Program} {w : World} {K : PySem.W.Frag} {mg : Str → Option Value} {base : Heap} {cls : Nat → Value} {c : CC} {tbl : List DefR}
    (hTB : ∀ p ∈ TabsC.codes, LamX.TabB base mg p.1 p.2) (blt : ∀ x ∈ c.blt, mg x = none) (gl : ∀ (x : Str) (d : D), c.gl.lookup x = some d → GOk K mg x d) (kd : ∀ (x : Str) (t : List (Str × D)), c.kd.lookup x = some t → KOk K w mg x t) (xcs : ∀ (i : Nat) (x : Str), c.xcs[i]? = some x → XOk K mg (cls i) x) (sub : c.xcs ≠ [] → ∀ a b, PySem.W.exmOne K (cls a) (cls b) = some (c.sub a b))
    (isi : ∀ (t : Str) (g : Nat → Bool), c.isi.lookup t = some g → IsiOk K mg cls t g) (evs : EvOk K mg c.exv c.evi)
    (ocl : ∀ (x : Str) (p : List Str × List (Str × Nat)), c.ocl.lookup x = some p → ClOk K mg c tbl x p.1 p.2)
    (defs : ∀ (i : Nat) (x : Str), c.fns[i]? = some x → ∃ d, tbl[i]? = some d ∧ DefOk K mg c x d) : ∀ (n : Nat), ModF P w K mg base cls c (Phi tbl n) (3 * n)
  | 0 => ⟨blt, fun i x hx => by
      obtain ⟨d, hd, ⟨s, f, fd, N, ps, m, lt, h1, h2, h3, _⟩⟩ := defs i x hx
      exact ⟨f, fd, ps, h1.1, h2.kp, h3, ⟨fun vs H Q E ⟨_, _, _, _, _, h⟩ => h.elim, fun _ _ _ _ _ _ _ _ _ _ _ _ _ ⟨_, _, _, _, _, h⟩ => h.elim⟩, h1.2⟩, gl, kd, xcs, sub, isi, evs, fun x p hx => by
      obtain ⟨C, h1, h2, h3, h4, h5, h6⟩ := ocl x p hx
      refine ⟨C, h1, h2, h3, h4, fun m i hm => ?_, h6⟩
      obtain ⟨d, hd, ⟨qn, s, f, fd, N, ps, m, g1, g2, g3, _⟩⟩ := h5 m i hm
      exact ⟨f, fd, ps, g1, g3, ⟨fun vs H Q E ⟨_, _, _, _, _, h⟩ => h.elim, fun _ _ _ _ _ _ _ _ _ _ _ _ _ ⟨_, _, _, _, _, h⟩ => h.elim⟩⟩⟩
  | n + 1 => by
    have M := phi_ok (P := P) (w := w) (base := base) (cls := cls) hTB blt gl kd xcs sub isi evs ocl defs n
    have step : ∀ {i : Nat} {d : DefR}, tbl[i]? = some d → Phi tbl (n + 1) i = runDef d (Phi tbl n) := fun {i d} hd => by
      funext ds st
      show (match tbl[i]? with | some d => runDef d (Phi tbl n) ds st | none => .stuck) = _
      rw [hd]
    refine ⟨blt, fun i x hx => ?_, gl, kd, xcs, sub, isi, evs, fun x p hx => ?_⟩
    · obtain ⟨d, hd, ⟨s, f, fd, N, ps, m, lt, h1, h2, h3, h4, h5, h6, h7, h8⟩⟩ := defs i x hx
      refine ⟨f, fd, ps, h1.1, h2.kp, h3, ?_, h1.2⟩
      rw [step hd]
      exact def_ok hTB M h2 h4 h5 h6 (h7 (Phi tbl n)) h8
    · obtain ⟨C, h1, h2, h3, h4, h5, h6⟩ := ocl x p hx
      refine ⟨C, h1, h2, h3, h4, fun m i hm => ?_, h6⟩
      obtain ⟨d, hd, ⟨qn, s, f, fd, N, ps, k, g1, g2, g3, g4, g5, g6, g7⟩⟩ := h5 m i hm
      refine ⟨f, fd, ps, g1, g3, ?_⟩
      rw [step hd]
      exact def_ok hTB M g2 g4 g5 g6 (g7 (Phi tbl n)) (fun z => by cases z)
structure KRow where
  key : Str
  hash : Int
  tok : Tok
  val : Value
  d : D
def KRow.ent (r : KRow) : DictEntry := ⟨r.hash, .str r.key r.tok, r.val⟩
theorem exm_mk {K : PySem.W.Frag} {A B : Addr} {r : Bool} (h1 : PySem.W.subIn K (.ref B) (.type "BaseException") = some true) (h2 : PySem.W.isClsIn K B = true) (h3 : PySem.W.typeIn K (.ref B) = some (.type "type")) (h4 : PySem.W.subIn K (.ref A) (.ref B) = some r) :
    PySem.W.exmOne K (.ref A) (.ref B) = some r := by
  unfold PySem.W.exmOne PySem.W.kitCls
  rw [h1, if_pos (by decide)]
  unfold PySem.W.isClsIn at h2
  simp only [h2, h3, Bool.true_and]
  rw [if_pos (by decide)]
  exact h4
theorem law_sp {K : PySem.W.Frag} {cls : Nat → Value} {f : List D → Sto → R D} {H : Hp} {a : Addr} {ns : List Int} (hT : LamX.Tabs TabsC.tabs H) (hO : Only H) (hS : SqL K H a (ns.map V.int)) (h : ∃ st, f [.fz (ns.map .int)] [] = .ok (.bl true) st) : spF K cls f [.ref a] H (fun v _ => v = .bl true) fun _ _ _ => False := by
  obtain ⟨st, h⟩ := h
  have hz : FzL K H a (ns.map V.int) := by
    rcases hS with (hS | hS) | hS
    · rcases hO a with z | ⟨o, xs, z⟩
      · rw [hS] at z; cases z
      · rw [hS] at z; cases z
    · exact .inl hS
    · exact .inr hS
  refine ⟨⟨[], []⟩, [], [.fz (ns.map .int)], ⟨rfl, List.nodup_nil, fun l a o h => by simp at h, fun a ha => (by cases ha), fun b hb => (by cases hb), hT⟩, .cons (.fz hz (rel_ints ns)) .nil, ?_⟩
  rw [h]
  intro rho' H' e w v rv
  cases rv
  rfl
theorem walk_ofX {l : PySem.W.OpenLaw} {n k : Nat} {q : Program} {loose : List Str} {XP : (Str → Option Value) → Heap → Prop} {YP : World → Heap → Prop} {d : DefRec} {K : Params → PySem.W.Frag} {f : List D → Sto → R D} {x : Str}
    (h0 : TabsC.tabs = []) (hn : l.most = some n) (hn2 : n ≤ sizeLine) (hdf : d.params.defaults = []) (hr : Room k callerA)
    (hY : ∀ (w : World) (h : Heap), YP w h → (K w.params).In h)
    (F : ∀ (w : World) (mg : Str → Option Value) (fa : Addr) (h : Heap), (K w.params).In h → h.Ns mainGlobals mg → mg d.name = some (.ref fa) →
      ∃ (cls : Nat → Value) (fd : FuncData), (∀ (s : Shared) (u : Value), BindsTo s fd ⟨[u], []⟩ [(x, u)]) ∧
        ∀ base : Heap, (K w.params).In base → base.Ns mainGlobals mg → FnOk l.prog w (K w.params) mg base (L2.CX l.prog w) k fa fd [x] (spF (K w.params) cls f))
    (hf : ∀ ns : List Int, ns.length ≤ n → ∃ st, f [.fz (ns.map .int)] [] = .ok (.bl true) st) :
    PySem.W.WalkO q loose XP YP l.row.toRowW d [] (fun f vs => PySem.call f vs) := by
  refine Att.attach_call hn hdf fun w s₀ s₁ mg mb fa o pm cd doc a vs ns G Y ho hd hcd hmg hobj hints hlen hg => ?_
  have KX := hY w _ Y
  obtain ⟨cls, fd, hb, hF⟩ := F w mg fa _ KX G.T.g hmg
  exact law_call KX G.T.g G.T.b G.T.builtins G.T.nolimit hg hobj hints (Nat.le_trans hlen hn2) hr hF hb (fun H hO hS => law_sp (by rw [h0]; intro p hp; cases hp) hO hS (hf ns hlen)) fun H e s' h => by
    obtain ⟨_, _, _, _, _, _, _, _, _, _, _, _, h⟩ := h
    exact h
end MI
namespace MI
open PySem PySem.Spec PyProof.Rows L2 MX
def onB (x : D) (t f : R D) : R D := match x with
  | .bl true => t
  | .bl false => f
  | _ => .stuck
@[simp] theorem onB_bl (b : Bool) (t f : R D) : onB (.bl b) t f = if b = true then t else f := by cases b <;> rfl
def onT (r : R Bool) (t f : Sto → SR) (env : DEnv) : SR := match r with
  | .ok true st => t st
  | .ok false st => f st
  | .exc x st => .exc x env st
  | .stuck => .stuck
@[simp] theorem onT_ok (b : Bool) (st : Sto) (t f : Sto → SR) (env : DEnv) : onT (.ok b st) t f env = if b = true then t st else f st := by cases b <;> rfl
@[simp] theorem onT_exc (c : Nat) (st : Sto) (t f : Sto → SR) (env : DEnv) : onT (.exc c st) t f env = .exc c env st := rfl
def onTR {α : Type} (r : R Bool) (t f : Sto → R α) : R α := match r with
  | .ok true st => t st
  | .ok false st => f st
  | _ => .stuck
@[simp] theorem onTR_ok {α : Type} (b : Bool) (st : Sto) (t f : Sto → R α) : onTR (.ok b st) t f = if b = true then t st else f st := by cases b <;> rfl
section
variable {env : DEnv} {st : Sto}
@[simp] theorem sSeq_app (a b : MS) : sSeq a b env st = (a env st).then b := rfl
@[simp] theorem then_nx (f : DEnv → Sto → SR) : (SR.nx env st).then f = f env st := rfl
@[simp] theorem then_rt (d : D) (f : DEnv → Sto → SR) : (SR.rt d st).then f = .rt d st := rfl
@[simp] theorem then_bk (f : DEnv → Sto → SR) : (SR.bk env st).then f = .bk env st := rfl
@[simp] theorem then_ct (f : DEnv → Sto → SR) : (SR.ct env st).then f = .ct env st := rfl
@[simp] theorem then_exc (c : Nat) (f : DEnv → Sto → SR) : (SR.exc c env st).then f = .exc c env st := rfl
@[simp] theorem then_stuck (f : DEnv → Sto → SR) : (SR.stuck).then f = .stuck := rfl
@[simp] theorem sSkip_app : sSkip env st = .nx env st := rfl
@[simp] theorem sAsg_app (e : ME) (g : MG) : sAsg e g env st = (match e env st with | .ok d st => (match g d env with | some env => SR.nx env st | none => .stuck) | .exc c st => .exc c env st | .stuck => .stuck) := rfl
@[simp] theorem sExpr_app (e : ME) : sExpr e env st = (match e env st with | .ok _ st => SR.nx env st | .exc c st => .exc c env st | .stuck => .stuck) := rfl
@[simp] theorem sRet_app (e : ME) : sRet e env st = (match e env st with | .ok d st => SR.rt d st | .exc c st => .exc c env st | .stuck => .stuck) := rfl
@[simp] theorem sIf_app (c : ME) (a b : MS) : sIf c a b env st = onT (mT c env st) (a env) (b env) env := rfl
theorem sWhile_succ (c : ME) (b : MS) (n : Nat) : sWhile c b (n + 1) env st = onT (mT c env st) (fun st => (match b env st with
      | .nx env st => sWhile c b n env st
      | .ct env st => sWhile c b n env st
      | .bk env st => .nx env st
      | .rt d st => .rt d st
      | .exc x env st => .exc x env st
      | .stuck => .stuck)) (fun st => .nx env st) env := rfl
@[simp] theorem sFor_app (it : MIt) (g : MG) (b : MS) : sFor it g b env st = (match it env st with | .ok s st => forGo s g b s.items env st | .exc c st => .exc c env st | .stuck => .stuck) := rfl
@[simp] theorem sRaise_app (c : Nat) : sRaise c env st = .exc c env st := rfl
@[simp] theorem gVar_app (i : Nat) (d : D) : gVar i d env = some (env.set i (some d)) := rfl
@[simp] theorem gTupV_app (is : List Nat) (ds : List D) : gTupV is (.tup ds) env = gVars is ds env := rfl
@[simp] theorem gVars_nil : gVars [] [] env = some env := rfl
@[simp] theorem gVars_cons (i : Nat) (is : List Nat) (d : D) (ds : List D) : gVars (i :: is) (d :: ds) env = gVars is ds (env.set i (some d)) := rfl
@[simp] theorem mVar_app (i : Nat) : mVar i env st = (match env[i]? with | some (some d) => R.ok d st | _ => .stuck) := rfl
@[simp] theorem mC_app (d : D) : mC d env st = .ok d st := rfl
@[simp] theorem mBin_app (f : D → D → Sto → R D) (a b : ME) : mBin f a b env st = (a env st).bind fun x st => (b env st).bind fun y st => f x y st := rfl
@[simp] theorem mNeg_app (a : ME) : mNeg a env st = (a env st).bind fun x st => (match x with | .int i => R.ok (.int (-i)) st | _ => .stuck) := rfl
@[simp] theorem mAnd_app (a b : ME) : mAnd a b env st = (a env st).bind fun x st => onB x (b env st) (.ok (.bl false) st) := rfl
@[simp] theorem mOr_app (a b : ME) : mOr a b env st = (a env st).bind fun x st => onB x (.ok (.bl true) st) (b env st) := rfl
@[simp] theorem mNot_app (a : ME) : mNot a env st = (a env st).bind fun x st => (match x with | .bl b => R.ok (.bl (!b)) st | _ => .stuck) := rfl
@[simp] theorem mT_app (a : ME) : mT a env st = (a env st).bind fun x st => (match truth st x with | some b => R.ok b st | none => .stuck) := rfl
@[simp] theorem truth_bl (b : Bool) : truth st (.bl b) = some b := rfl
@[simp] theorem mIfE_app (c a b : ME) : mIfE c a b env st = (mT c env st).bind fun k st => if k = true then a env st else b env st := rfl
@[simp] theorem mArgs_nil : mArgs [] env st = .ok [] st := rfl
@[simp] theorem mArgs_cons (e : ME) (es : List ME) : mArgs (e :: es) env st = (e env st).bind fun d st => (mArgs es env st).bind fun ds st => .ok (d :: ds) st := rfl
@[simp] theorem mTup_app (es : List ME) : mTup es env st = (mArgs es env st).bind fun ds st => if ds.length ≤ sizeLine then .ok (.tup ds) st else .stuck := rfl
@[simp] theorem mLst_app (es : List ME) : mLst es env st = (mArgs es env st).bind fun ds st => if ds.length ≤ sizeLine then .ok (.lst ds) st else .stuck := rfl
@[simp] theorem mNew_app (es : List ME) : mNew es env st = (mArgs es env st).bind fun ds st => if ds.length ≤ sizeLine then .ok (.ref st.length) (st ++ [.lst ds]) else .stuck := rfl
@[simp] theorem mNewD_app : mNewD env st = .ok (.ref st.length) (st ++ [.dic []]) := rfl
@[simp] theorem mDic1_app (a b : ME) : mDic1 a b env st = (match (a env st).bind fun x st => (b env st).bind fun y st => (match keyOf x with | some k => R.ok (.dic [(k, y)]) st | none => .stuck) with | .ok d st => R.ok d st | _ => .stuck) := rfl
@[simp] theorem mCall_app (f : List D → Sto → R D) (es : List ME) : mCall f es env st = (mArgs es env st).bind fun ds st => f ds st := rfl
@[simp] theorem mIsI_app (T : String) (a : ME) : mIsI T a env st = (a env st).bind fun x st => isInst T x st := rfl
@[simp] theorem mOpt_none : mOpt none env st = .ok none st := rfl
@[simp] theorem mOpt_some (a : ME) : mOpt (some a) env st = (a env st).bind fun x st => (match x with | .int i => R.ok (some i) st | _ => .stuck) := rfl
@[simp] theorem mSl_app (a : ME) (lo hi : Option ME) : mSl a lo hi env st = (a env st).bind fun x st => (mOpt lo env st).bind fun i st => (mOpt hi env st).bind fun j st => opSl x i j st := rfl
@[simp] theorem mSt_app (a : ME) (lo hi k : Option ME) : mSt a lo hi k env st = (a env st).bind fun x st => (mOpt lo env st).bind fun i st => (mOpt hi env st).bind fun j st => (mOpt k env st).bind fun k st => opSt x i j k st := rfl
@[simp] theorem mMethL_app (f : D → List D → Sto → R D) (o : ME) (es : List ME) : mMethL f o es env st = (o env st).bind fun d st => if isLst st d = true then (mArgs es env st).bind fun ds st => f d ds st else .stuck := rfl
@[simp] theorem mMethS_app (f : D → List D → Sto → R D) (o : ME) (es : List ME) : mMethS f o es env st = (o env st).bind fun d st => if isStrD d = true then (mArgs es env st).bind fun ds st => f d ds st else .stuck := rfl
@[simp] theorem iSeq_app (a : ME) : iSeq a env st = (a env st).bind fun x st => (match x with
  | .ref l => (match st[l]? with | some (.lst ds) => R.ok (.live l ds) st | _ => .stuck)
  | .tup ds => .ok (.vals ds) st
  | .lst ds => .ok (.vals ds) st
  | .fz ds => .ok (.vals ds) st
  | .str z => .ok (.vals (z.cps.toList.map fun c => .str ⟨#[c]⟩)) st
  | _ => .stuck) := rfl
@[simp] theorem iRange1_app (a : ME) : iRange1 a env st = (a env st).bind fun x st => (match x with | .int j => if -(2 ^ 62) ≤ j ∧ j < 2 ^ 62 then R.ok (.vals (rangeD 0 j.toNat)) st else .stuck | _ => .stuck) := rfl
@[simp] theorem iRange2_app (a b : ME) : iRange2 a b env st = (a env st).bind fun x st => (b env st).bind fun y st => (match x, y with | .int i, .int j => if -(2 ^ 62) ≤ i ∧ i < 2 ^ 62 ∧ -(2 ^ 62) ≤ j ∧ j < 2 ^ 62 then R.ok (.vals (rangeD i (j - i).toNat)) st else .stuck | _, _ => .stuck) := rfl
@[simp] theorem iZip_app (a b : ME) : iZip a b env st = (a env st).bind fun x st => (b env st).bind fun y st => (match x, y with | .lst xs, .lst ys => R.ok (.vals (zipD xs ys)) st | .tup xs, .tup ys => .ok (.vals (zipD xs ys)) st | .lst xs, .tup ys => .ok (.vals (zipD xs ys)) st | x, y => (match lsOf st x, lsOf st y with | some p, some q => .ok (.multi (p.1 ++ q.1) (zipD p.2 q.2)) st | _, _ => .stuck)) := rfl
@[simp] theorem items_multi (ls : List (Nat × List D)) (ds : List D) : (Src.multi ls ds).items = ds := rfl
@[simp] theorem items_vals (ds : List D) : (Src.vals ds).items = ds := rfl
@[simp] theorem items_live (l : Nat) (ds : List D) : (Src.live l ds).items = ds := rfl
@[simp] theorem holds_vals (ds : List D) : (Src.vals ds).holds st = True := rfl
@[simp] theorem forGo_nil (s : Src) (g : MG) (b : MS) : forGo s g b [] env st = .nx env st := rfl
theorem forGo_cons (s : Src) (g : MG) (b : MS) (d : D) (ds : List D) : forGo s g b (d :: ds) env st = (match g d env with
    | none => SR.stuck
    | some env => match b env st with
      | .nx env st => if s.holds st then forGo s g b ds env st else .stuck
      | .ct env st => if s.holds st then forGo s g b ds env st else .stuck
      | .bk env st => .nx env st
      | .rt d st => .rt d st
      | .exc x env st => .exc x env st
      | .stuck => .stuck) := rfl
theorem mComp_app (it : MIt) (vs : List Nat) (g : MG) (c : Option ME) (e : ME) : mComp it vs g c e env st = (it env st).bind fun s st => (match compGo s g c e (wipeD env vs) s.items st with | .ok ys st => if ys.length ≤ sizeLine then R.ok (.lst ys) st else .stuck | _ => .stuck) := rfl
@[simp] theorem compGo_nil (s : Src) (g : MG) (c : Option ME) (e : ME) : compGo s g c e env [] st = .ok [] st := rfl
theorem compGo_cons (s : Src) (g : MG) (c : Option ME) (e : ME) (d : D) (ds : List D) : compGo s g c e env (d :: ds) st = (match g d env with
    | none => R.stuck
    | some env' => onTR (match c with | none => R.ok true st | some c => mT c env' st) (fun st => (match e env' st with
        | .ok y st => if s.holds st then (match compGo s g c e env ds st with
          | .ok ys st => R.ok (y :: ys) st
          | _ => .stuck) else .stuck
        | _ => .stuck)) (fun st => if s.holds st then compGo s g c e env ds st else .stuck)) := rfl
@[simp] theorem wipeD_nil : wipeD env [] = env := rfl
@[simp] theorem wipeD_cons (v : Nat) (vs : List Nat) : wipeD env (v :: vs) = (wipeD env vs).set v none := rfl
@[simp] theorem opAdd_ii (i j : Int) : opAdd (.int i) (.int j) st = .ok (.int (i + j)) st := rfl
@[simp] theorem opAdd_ib (i : Int) (k : Bool) : opAdd (.int i) (.bl k) st = .ok (.int (i + b2i k)) st := rfl
@[simp] theorem opAdd_tt (a b : List D) : opAdd (.tup a) (.tup b) st = if a.length + b.length ≤ sizeLine then .ok (.tup (a ++ b)) st else .stuck := rfl
@[simp] theorem opAdd_ss (a b : Str) : opAdd (.str a) (.str b) st = if a.length + b.length ≤ sizeLine then .ok (.str (a ++ b)) st else .stuck := rfl
@[simp] theorem opAdd_ll (a b : List D) : opAdd (.lst a) (.lst b) st = if a.length + b.length ≤ sizeLine then .ok (.lst (a ++ b)) st else .stuck := rfl
@[simp] theorem opSub_ii (i j : Int) : opSub (.int i) (.int j) st = .ok (.int (i - j)) st := rfl
@[simp] theorem opMul_ii (i j : Int) : opMul (.int i) (.int j) st = if mulOk i j then .ok (.int (i * j)) st else .stuck := rfl
@[simp] theorem opMod_ii (i j : Int) : opMod (.int i) (.int j) st = if 0 < j then .ok (.int (i % j)) st else .stuck := rfl
@[simp] theorem opDiv_ii (i j : Int) : opDiv (.int i) (.int j) st = if CDivW i j then .ok (.int (i / j)) st else .stuck := rfl
@[simp] theorem opPow_ii (i j : Int) : opPow (.int i) (.int j) st = if CPow i j then .ok (.int (i ^ j.toNat)) st else .stuck := rfl
@[simp] theorem opLt_ii (i j : Int) : opLt (.int i) (.int j) st = .ok (.bl (decide (i < j))) st := rfl
@[simp] theorem opLe_ii (i j : Int) : opLe (.int i) (.int j) st = .ok (.bl (decide (i ≤ j))) st := rfl
@[simp] theorem opGt_ii (i j : Int) : opGt (.int i) (.int j) st = .ok (.bl (decide (j < i))) st := rfl
@[simp] theorem opGe_ii (i j : Int) : opGe (.int i) (.int j) st = .ok (.bl (decide (j ≤ i))) st := rfl
@[simp] theorem deref_non : deref st .non = .non := rfl
@[simp] theorem deref_bl (b : Bool) : deref st (.bl b) = .bl b := rfl
@[simp] theorem deref_int (i : Int) : deref st (.int i) = .int i := rfl
@[simp] theorem deref_str (x : Str) : deref st (.str x) = .str x := rfl
@[simp] theorem deref_tup (x : List D) : deref st (.tup x) = .tup x := rfl
@[simp] theorem deref_lst (x : List D) : deref st (.lst x) = .lst x := rfl
@[simp] theorem deref_fz (x : List D) : deref st (.fz x) = .fz x := rfl
@[simp] theorem deref_dic (x : List (Key × D)) : deref st (.dic x) = .dic x := rfl
theorem deref_ref_lst {l : Nat} {xs : List D} (h : st[l]? = some (.lst xs)) : deref st (.ref l) = .lst xs := by simp [deref, h]
theorem mulOk_r {i j : Int} (h1 : -(2 ^ 64) < j) (h2 : j < 2 ^ 64) : mulOk i j := .inl (.inr ⟨h1, h2⟩)
theorem mulOk_l {i j : Int} (h1 : -(2 ^ 64) < i) (h2 : i < 2 ^ 64) : mulOk i j := .inl (.inl ⟨h1, h2⟩)
theorem sizeLine_ge {n : Nat} (h : n ≤ 16777216) : n ≤ sizeLine := by rw [sizeLine_eq]; exact h
end
theorem eqD_int (st : Sto) (i j : Int) : eqD st (.int i) (.int j) = some (decide (i = j)) := by
  simp [eqD, noRef, toPy, SeqAt.shaped, PyData.canLay0, PyData.depth, PyData.eqv]
  by_cases h : i = j <;> simp [h]
theorem eqD_bl (st : Sto) (i j : Bool) : eqD st (.bl i) (.bl j) = some (decide (i = j)) := by
  simp [eqD, noRef, toPy, SeqAt.shaped, PyData.canLay0, PyData.depth, PyData.eqv]
  cases i <;> cases j <;> rfl
@[simp] theorem opEq_ii {st : Sto} (i j : Int) : opEq (.int i) (.int j) st = .ok (.bl (decide (i = j))) st := by simp [opEq, eqD_int]
@[simp] theorem opNe_ii {st : Sto} (i j : Int) : opNe (.int i) (.int j) st = .ok (.bl (!decide (i = j))) st := by simp [opNe, eqD_int]
@[simp] theorem opEq_bb {st : Sto} (i j : Bool) : opEq (.bl i) (.bl j) st = .ok (.bl (decide (i = j))) st := by simp [opEq, eqD_bl]
def D.isI : D → Bool
  | .int _ => true
  | .bl _ => true
  | _ => false
def D.isB : D → Bool
  | .bl _ => true
  | _ => false
def D.isS : D → Bool
  | .str _ => true
  | _ => false
def D.isT : D → Bool
  | .tup _ => true
  | _ => false
def D.isL : D → Bool
  | .lst _ => true
  | _ => false
def D.isD : D → Bool
  | .dic _ => true
  | _ => false
def D.pl : D → Bool
  | .ref _ => false
  | .fz _ => false
  | .fn _ => false
  | _ => true
@[simp] theorem pl_non  : D.pl (D.non) = true := rfl
@[simp] theorem pl_bl (b : Bool) : D.pl (D.bl b) = true := rfl
@[simp] theorem pl_int (i : Int) : D.pl (D.int i) = true := rfl
@[simp] theorem pl_str (x : Str) : D.pl (D.str x) = true := rfl
@[simp] theorem pl_tup (x : List D) : D.pl (D.tup x) = true := rfl
@[simp] theorem pl_lst (x : List D) : D.pl (D.lst x) = true := rfl
@[simp] theorem pl_dic (x : List (Key × D)) : D.pl (D.dic x) = true := rfl
@[simp] theorem pl_fz (x : List D) : D.pl (D.fz x) = false := rfl
@[simp] theorem pl_ref (l : Nat) : D.pl (D.ref l) = false := rfl
@[simp] theorem pl_fn (x : Str) : D.pl (D.fn x) = false := rfl
@[simp] theorem isI_non  : D.isI (D.non) = false := rfl
@[simp] theorem isI_bl (b : Bool) : D.isI (D.bl b) = true := rfl
@[simp] theorem isI_int (i : Int) : D.isI (D.int i) = true := rfl
@[simp] theorem isI_str (x : Str) : D.isI (D.str x) = false := rfl
@[simp] theorem isI_tup (x : List D) : D.isI (D.tup x) = false := rfl
@[simp] theorem isI_lst (x : List D) : D.isI (D.lst x) = false := rfl
@[simp] theorem isI_dic (x : List (Key × D)) : D.isI (D.dic x) = false := rfl
@[simp] theorem isI_fz (x : List D) : D.isI (D.fz x) = false := rfl
@[simp] theorem isI_ref (l : Nat) : D.isI (D.ref l) = false := rfl
@[simp] theorem isI_fn (x : Str) : D.isI (D.fn x) = false := rfl
@[simp] theorem isB_non  : D.isB (D.non) = false := rfl
@[simp] theorem isB_bl (b : Bool) : D.isB (D.bl b) = true := rfl
@[simp] theorem isB_int (i : Int) : D.isB (D.int i) = false := rfl
@[simp] theorem isB_str (x : Str) : D.isB (D.str x) = false := rfl
@[simp] theorem isB_tup (x : List D) : D.isB (D.tup x) = false := rfl
@[simp] theorem isB_lst (x : List D) : D.isB (D.lst x) = false := rfl
@[simp] theorem isB_dic (x : List (Key × D)) : D.isB (D.dic x) = false := rfl
@[simp] theorem isB_fz (x : List D) : D.isB (D.fz x) = false := rfl
@[simp] theorem isB_ref (l : Nat) : D.isB (D.ref l) = false := rfl
@[simp] theorem isB_fn (x : Str) : D.isB (D.fn x) = false := rfl
@[simp] theorem isS_non  : D.isS (D.non) = false := rfl
@[simp] theorem isS_bl (b : Bool) : D.isS (D.bl b) = false := rfl
@[simp] theorem isS_int (i : Int) : D.isS (D.int i) = false := rfl
@[simp] theorem isS_str (x : Str) : D.isS (D.str x) = true := rfl
@[simp] theorem isS_tup (x : List D) : D.isS (D.tup x) = false := rfl
@[simp] theorem isS_lst (x : List D) : D.isS (D.lst x) = false := rfl
@[simp] theorem isS_dic (x : List (Key × D)) : D.isS (D.dic x) = false := rfl
@[simp] theorem isS_fz (x : List D) : D.isS (D.fz x) = false := rfl
@[simp] theorem isS_ref (l : Nat) : D.isS (D.ref l) = false := rfl
@[simp] theorem isS_fn (x : Str) : D.isS (D.fn x) = false := rfl
@[simp] theorem isT_non  : D.isT (D.non) = false := rfl
@[simp] theorem isT_bl (b : Bool) : D.isT (D.bl b) = false := rfl
@[simp] theorem isT_int (i : Int) : D.isT (D.int i) = false := rfl
@[simp] theorem isT_str (x : Str) : D.isT (D.str x) = false := rfl
@[simp] theorem isT_tup (x : List D) : D.isT (D.tup x) = true := rfl
@[simp] theorem isT_lst (x : List D) : D.isT (D.lst x) = false := rfl
@[simp] theorem isT_dic (x : List (Key × D)) : D.isT (D.dic x) = false := rfl
@[simp] theorem isT_fz (x : List D) : D.isT (D.fz x) = false := rfl
@[simp] theorem isT_ref (l : Nat) : D.isT (D.ref l) = false := rfl
@[simp] theorem isT_fn (x : Str) : D.isT (D.fn x) = false := rfl
@[simp] theorem isL_non  : D.isL (D.non) = false := rfl
@[simp] theorem isL_bl (b : Bool) : D.isL (D.bl b) = false := rfl
@[simp] theorem isL_int (i : Int) : D.isL (D.int i) = false := rfl
@[simp] theorem isL_str (x : Str) : D.isL (D.str x) = false := rfl
@[simp] theorem isL_tup (x : List D) : D.isL (D.tup x) = false := rfl
@[simp] theorem isL_lst (x : List D) : D.isL (D.lst x) = true := rfl
@[simp] theorem isL_dic (x : List (Key × D)) : D.isL (D.dic x) = false := rfl
@[simp] theorem isL_fz (x : List D) : D.isL (D.fz x) = false := rfl
@[simp] theorem isL_ref (l : Nat) : D.isL (D.ref l) = false := rfl
@[simp] theorem isL_fn (x : Str) : D.isL (D.fn x) = false := rfl
@[simp] theorem isD_non  : D.isD (D.non) = false := rfl
@[simp] theorem isD_bl (b : Bool) : D.isD (D.bl b) = false := rfl
@[simp] theorem isD_int (i : Int) : D.isD (D.int i) = false := rfl
@[simp] theorem isD_str (x : Str) : D.isD (D.str x) = false := rfl
@[simp] theorem isD_tup (x : List D) : D.isD (D.tup x) = false := rfl
@[simp] theorem isD_lst (x : List D) : D.isD (D.lst x) = false := rfl
@[simp] theorem isD_dic (x : List (Key × D)) : D.isD (D.dic x) = true := rfl
@[simp] theorem isD_fz (x : List D) : D.isD (D.fz x) = false := rfl
@[simp] theorem isD_ref (l : Nat) : D.isD (D.ref l) = false := rfl
@[simp] theorem isD_fn (x : Str) : D.isD (D.fn x) = false := rfl
theorem isInst_int {st : Sto} {d : D} (h : d.pl = true) : isInst "int" d st = .ok (.bl d.isI) st := by
  cases d <;> first | (unfold isInst tyName; simp only [deref_non, deref_bl, deref_int, deref_str, deref_tup, deref_lst, deref_dic]; rfl) | exact Bool.noConfusion h
theorem isInst_bool {st : Sto} {d : D} (h : d.pl = true) : isInst "bool" d st = .ok (.bl d.isB) st := by
  cases d <;> first | (unfold isInst tyName; simp only [deref_non, deref_bl, deref_int, deref_str, deref_tup, deref_lst, deref_dic]; rfl) | exact Bool.noConfusion h
theorem isInst_str {st : Sto} {d : D} (h : d.pl = true) : isInst "str" d st = .ok (.bl d.isS) st := by
  cases d <;> first | (unfold isInst tyName; simp only [deref_non, deref_bl, deref_int, deref_str, deref_tup, deref_lst, deref_dic]; rfl) | exact Bool.noConfusion h
theorem isInst_tuple {st : Sto} {d : D} (h : d.pl = true) : isInst "tuple" d st = .ok (.bl d.isT) st := by
  cases d <;> first | (unfold isInst tyName; simp only [deref_non, deref_bl, deref_int, deref_str, deref_tup, deref_lst, deref_dic]; rfl) | exact Bool.noConfusion h
theorem isInst_list {st : Sto} {d : D} (h : d.pl = true) : isInst "list" d st = .ok (.bl d.isL) st := by
  cases d <;> first | (unfold isInst tyName; simp only [deref_non, deref_bl, deref_int, deref_str, deref_tup, deref_lst, deref_dic]; rfl) | exact Bool.noConfusion h
theorem isInst_dict {st : Sto} {d : D} (h : d.pl = true) : isInst "dict" d st = .ok (.bl d.isD) st := by
  cases d <;> first | (unfold isInst tyName; simp only [deref_non, deref_bl, deref_int, deref_str, deref_tup, deref_lst, deref_dic]; rfl) | exact Bool.noConfusion h
@[simp] theorem ii_int_non {st : Sto}  : isInst "int" (D.non) st = .ok (.bl false) st := isInst_int rfl
@[simp] theorem ii_int_bl {st : Sto} (b : Bool) : isInst "int" (D.bl b) st = .ok (.bl true) st := isInst_int rfl
@[simp] theorem ii_int_int {st : Sto} (i : Int) : isInst "int" (D.int i) st = .ok (.bl true) st := isInst_int rfl
@[simp] theorem ii_int_str {st : Sto} (x : Str) : isInst "int" (D.str x) st = .ok (.bl false) st := isInst_int rfl
@[simp] theorem ii_int_tup {st : Sto} (x : List D) : isInst "int" (D.tup x) st = .ok (.bl false) st := isInst_int rfl
@[simp] theorem ii_int_lst {st : Sto} (x : List D) : isInst "int" (D.lst x) st = .ok (.bl false) st := isInst_int rfl
@[simp] theorem ii_int_dic {st : Sto} (x : List (Key × D)) : isInst "int" (D.dic x) st = .ok (.bl false) st := isInst_int rfl
@[simp] theorem ii_bool_non {st : Sto}  : isInst "bool" (D.non) st = .ok (.bl false) st := isInst_bool rfl
@[simp] theorem ii_bool_bl {st : Sto} (b : Bool) : isInst "bool" (D.bl b) st = .ok (.bl true) st := isInst_bool rfl
@[simp] theorem ii_bool_int {st : Sto} (i : Int) : isInst "bool" (D.int i) st = .ok (.bl false) st := isInst_bool rfl
@[simp] theorem ii_bool_str {st : Sto} (x : Str) : isInst "bool" (D.str x) st = .ok (.bl false) st := isInst_bool rfl
@[simp] theorem ii_bool_tup {st : Sto} (x : List D) : isInst "bool" (D.tup x) st = .ok (.bl false) st := isInst_bool rfl
@[simp] theorem ii_bool_lst {st : Sto} (x : List D) : isInst "bool" (D.lst x) st = .ok (.bl false) st := isInst_bool rfl
@[simp] theorem ii_bool_dic {st : Sto} (x : List (Key × D)) : isInst "bool" (D.dic x) st = .ok (.bl false) st := isInst_bool rfl
@[simp] theorem ii_str_non {st : Sto}  : isInst "str" (D.non) st = .ok (.bl false) st := isInst_str rfl
@[simp] theorem ii_str_bl {st : Sto} (b : Bool) : isInst "str" (D.bl b) st = .ok (.bl false) st := isInst_str rfl
@[simp] theorem ii_str_int {st : Sto} (i : Int) : isInst "str" (D.int i) st = .ok (.bl false) st := isInst_str rfl
@[simp] theorem ii_str_str {st : Sto} (x : Str) : isInst "str" (D.str x) st = .ok (.bl true) st := isInst_str rfl
@[simp] theorem ii_str_tup {st : Sto} (x : List D) : isInst "str" (D.tup x) st = .ok (.bl false) st := isInst_str rfl
@[simp] theorem ii_str_lst {st : Sto} (x : List D) : isInst "str" (D.lst x) st = .ok (.bl false) st := isInst_str rfl
@[simp] theorem ii_str_dic {st : Sto} (x : List (Key × D)) : isInst "str" (D.dic x) st = .ok (.bl false) st := isInst_str rfl
@[simp] theorem ii_tuple_non {st : Sto}  : isInst "tuple" (D.non) st = .ok (.bl false) st := isInst_tuple rfl
@[simp] theorem ii_tuple_bl {st : Sto} (b : Bool) : isInst "tuple" (D.bl b) st = .ok (.bl false) st := isInst_tuple rfl
@[simp] theorem ii_tuple_int {st : Sto} (i : Int) : isInst "tuple" (D.int i) st = .ok (.bl false) st := isInst_tuple rfl
@[simp] theorem ii_tuple_str {st : Sto} (x : Str) : isInst "tuple" (D.str x) st = .ok (.bl false) st := isInst_tuple rfl
@[simp] theorem ii_tuple_tup {st : Sto} (x : List D) : isInst "tuple" (D.tup x) st = .ok (.bl true) st := isInst_tuple rfl
@[simp] theorem ii_tuple_lst {st : Sto} (x : List D) : isInst "tuple" (D.lst x) st = .ok (.bl false) st := isInst_tuple rfl
@[simp] theorem ii_tuple_dic {st : Sto} (x : List (Key × D)) : isInst "tuple" (D.dic x) st = .ok (.bl false) st := isInst_tuple rfl
@[simp] theorem ii_list_non {st : Sto}  : isInst "list" (D.non) st = .ok (.bl false) st := isInst_list rfl
@[simp] theorem ii_list_bl {st : Sto} (b : Bool) : isInst "list" (D.bl b) st = .ok (.bl false) st := isInst_list rfl
@[simp] theorem ii_list_int {st : Sto} (i : Int) : isInst "list" (D.int i) st = .ok (.bl false) st := isInst_list rfl
@[simp] theorem ii_list_str {st : Sto} (x : Str) : isInst "list" (D.str x) st = .ok (.bl false) st := isInst_list rfl
@[simp] theorem ii_list_tup {st : Sto} (x : List D) : isInst "list" (D.tup x) st = .ok (.bl false) st := isInst_list rfl
@[simp] theorem ii_list_lst {st : Sto} (x : List D) : isInst "list" (D.lst x) st = .ok (.bl true) st := isInst_list rfl
@[simp] theorem ii_list_dic {st : Sto} (x : List (Key × D)) : isInst "list" (D.dic x) st = .ok (.bl false) st := isInst_list rfl
@[simp] theorem ii_dict_non {st : Sto}  : isInst "dict" (D.non) st = .ok (.bl false) st := isInst_dict rfl
@[simp] theorem ii_dict_bl {st : Sto} (b : Bool) : isInst "dict" (D.bl b) st = .ok (.bl false) st := isInst_dict rfl
@[simp] theorem ii_dict_int {st : Sto} (i : Int) : isInst "dict" (D.int i) st = .ok (.bl false) st := isInst_dict rfl
@[simp] theorem ii_dict_str {st : Sto} (x : Str) : isInst "dict" (D.str x) st = .ok (.bl false) st := isInst_dict rfl
@[simp] theorem ii_dict_tup {st : Sto} (x : List D) : isInst "dict" (D.tup x) st = .ok (.bl false) st := isInst_dict rfl
@[simp] theorem ii_dict_lst {st : Sto} (x : List D) : isInst "dict" (D.lst x) st = .ok (.bl false) st := isInst_dict rfl
@[simp] theorem ii_dict_dic {st : Sto} (x : List (Key × D)) : isInst "dict" (D.dic x) st = .ok (.bl true) st := isInst_dict rfl
@[simp] theorem bind_ok {α β : Type} (a : α) (st : Sto) (f : α → Sto → R β) : (R.ok a st).bind f = f a st := rfl
@[simp] theorem bind_exc {α β : Type} (c : Nat) (st : Sto) (f : α → Sto → R β) : (R.exc c st : R α).bind f = .exc c st := rfl
@[simp] theorem bind_stuck {α β : Type} (f : α → Sto → R β) : (R.stuck : R α).bind f = .stuck := rfl
theorem freeze_same {st st' : Sto} {d : D} (h : st'.length = st.length) : freeze st d st' = .ok d st' := by simp [freeze, h]
@[simp] theorem freeze_refl {st : Sto} {d : D} : freeze st d st = .ok d st := freeze_same rfl
@[simp] theorem cutSt_refl {st : Sto} : cutSt st st = st := by simp [cutSt]
theorem runDef_rt {d : DefR} {Ph : Nat → List D → Sto → R D} {ds : List D} {st st' : Sto} {v : D} (ha : ds.length = d.arity)
    (h : d.body Ph (startD d.slots ds) st = .rt v st') (hl : st'.length = st.length) : runDef d Ph ds st = .ok v st' := by
  simp [runDef, ha, h, freeze_same hl]
theorem runDef_raw {d : DefR} {Ph : Nat → List D → Sto → R D} {ds : List D} {st st' : Sto} {v : D} (ha : ds.length = d.arity) (hf : d.frz = false)
    (h : d.body Ph (startD d.slots ds) st = .rt v st') : runDef d Ph ds st = .ok v st' := by
  simp [runDef, ha, h, hf]
theorem forGo_ind {g : MG} {b : MS} {xs : List D} (I : Nat → DEnv → Sto → Prop) (ds : List D)
    (step : ∀ (i : Nat) (d : D) (env : DEnv) (st : Sto), ds[i]? = some d → I i env st → ∃ env', g d env = some env' ∧ ∃ e2 s2, b env' st = .nx e2 s2 ∧ I (i + 1) e2 s2)
    {env : DEnv} {st : Sto} (h : I 0 env st) : ∃ e2 s2, forGo (.vals xs) g b ds env st = .nx e2 s2 ∧ I ds.length e2 s2 := by
  induction ds generalizing I env st with
  | nil => exact ⟨env, st, rfl, h⟩
  | cons d ds ih =>
    obtain ⟨env', hg, e2, s2, hb, hI⟩ := step 0 d env st rfl h
    obtain ⟨e3, s3, h3, hI3⟩ := ih (fun i => I (i + 1)) (fun i d env st hd hi => step (i + 1) d env st (by simpa using hd) hi) hI
    refine ⟨e3, s3, ?_, hI3⟩
    rw [forGo_cons]
    simp [hg, hb, h3]
@[simp] theorem rangeD_len (lo : Int) (n : Nat) : (rangeD lo n).length = n := by simp [rangeD]
theorem rangeD_at {lo : Int} {n i : Nat} {d : D} (h : (rangeD lo n)[i]? = some d) : i < n ∧ d = .int (lo + i) := by
  have hl := (List.getElem?_eq_some_iff.mp h).1
  rw [rangeD_len] at hl
  unfold rangeD at h
  rw [List.getElem?_map, List.getElem?_range hl] at h
  exact ⟨hl, (Option.some.inj h).symm⟩
theorem range_ok {i : Int} (h0 : 0 ≤ i) (h1 : i < 100000000) : -(2 ^ 62) ≤ i ∧ i < 2 ^ 62 := ⟨by omega, by omega⟩
theorem iRange1_int {a : ME} {env : DEnv} {st st' : Sto} {i : Int} (h : a env st = .ok (.int i) st') (h0 : 0 ≤ i) (hn : i < 100000000) : iRange1 a env st = .ok (.vals (rangeD 0 i.toNat)) st' := by
  rw [iRange1_app, h, bind_ok]
  simp only [if_pos (range_ok h0 hn)]
theorem iRange1_nat {a : ME} {env : DEnv} {st st' : Sto} {n : Nat} (h : a env st = .ok (.int n) st') (hn : n < 100000000) : iRange1 a env st = .ok (.vals (rangeD 0 n)) st' := by
  have := iRange1_int h (by omega) (by omega)
  rwa [Int.toNat_natCast] at this
noncomputable def gMixed (Ph : Nat → List D → Sto → R D) : MS := (sSeq (sAsg (mBin opMod (mBin opAdd (mBin opAdd (mBin opMul (mBin opMod (mVar 0) (mC (.int 2147483647))) (mC (.int 48271))) (mBin opMul (mBin opMul (mC (.int 7919)) (mVar 1)) (mVar 1))) (mC (.int 104729))) (mC (.int 2147483647))) (gVar 2))
  (sSeq (sRet (mBin opMod (mBin opMul (mVar 2) (mVar 2)) (mC (.int 2147483629))))
  sSkip))
def mixZ (c k : Int) : Int := (c % 2147483647 * 48271 + 7919 * k * k + 104729) % 2147483647
def mixedZ (c k : Int) : Int := mixZ c k * mixZ c k % 2147483629
theorem mixedZ_ge (c k : Int) : 0 ≤ mixedZ c k := Int.emod_nonneg _ (by decide)
theorem mixedZ_lt (c k : Int) : mixedZ c k < 2147483629 := Int.emod_lt_of_pos _ (by decide)
theorem mixed_ok {Ph : Nat → List D → Sto → R D} {c k : Int} {st : Sto} (h0 : 0 ≤ k) (h1 : k < 1000) :
    runDef ⟨2, 3, true, gMixed⟩ Ph [.int c, .int k] st = .ok (.int (mixedZ c k)) st := by
  refine runDef_rt rfl ?_ rfl
  have a : mulOk (c % 2147483647) 48271 := mulOk_r (by decide) (by decide)
  have b : mulOk 7919 k := mulOk_l (by decide) (by decide)
  have d : mulOk (7919 * k) k := mulOk_r (by omega) (by omega)
  have l := Int.emod_nonneg (c % 2147483647 * 48271 + 7919 * k * k + 104729) (b := 2147483647) (by decide)
  have u := Int.emod_lt_of_pos (c % 2147483647 * 48271 + 7919 * k * k + 104729) (b := 2147483647) (by decide)
  have e : mulOk (mixZ c k) (mixZ c k) := mulOk_r (by unfold mixZ; omega) (by unfold mixZ; omega)
  unfold mixZ at e
  simp [gMixed, startD, a, b, d, e]
  rfl
noncomputable def gDraws (im F : Nat) (Ph : Nat → List D → Sto → R D) : MS := (sSeq (sAsg (mNew []) (gVar 1))
  (sSeq (sFor (iRange1 (mCall bMin [(mCall bLen [(mVar 0)]), (mC (.int 63))])) (gVar 2)
    (sSeq (sAsg (mCall bAbs [(mBin opIx (mVar 0) (mVar 2))]) (gVar 3))
  (sSeq (sIf (mBin opLt (mVar 3) (mBin opPow (mC (.int 10)) (mC (.int 18))))
    (sSeq (sFor (iRange1 (mC (.int 12))) (gVar 4)
    (sSeq (sExpr (mMethL mAppend (mVar 1) [(mCall (Ph im) [(mCall (Ph im) [(mVar 3), (mBin opAdd (mBin opMul (mC (.int 3)) (mVar 4)) (mC (.int 1)))]), (mBin opAdd (mBin opAdd (mVar 4) (mVar 2)) (mC (.int 2)))])]))
  sSkip))
  sSkip)
    sSkip)
  (sSeq (sWhile (mAnd (mBin opGe (mVar 3) (mBin opPow (mC (.int 10)) (mC (.int 18)))) (mBin opLt (mCall bLen [(mVar 1)]) (mC (.int 900))))
    (sSeq (sExpr (mMethL mAppend (mVar 1) [(mBin opMod (mVar 3) (mC (.int 2147483629)))]))
  (sSeq (sAsg (mBin opDiv (mVar 3) (mC (.int 2147483629))) (gVar 3))
  sSkip)) F)
  (sSeq (sIf (mBin opGe (mVar 3) (mC (.int 2147483629)))
    (sSeq (sExpr (mMethL mAppend (mVar 1) [(mBin opMod (mVar 3) (mC (.int 2147483629)))]))
  sSkip)
    sSkip)
  sSkip)))))
  (sSeq (sRet (mVar 1))
  sSkip)))
def InD (ds : List Int) : Prop := ∀ d ∈ ds, 0 ≤ d ∧ d < 2147483629
theorem InD.app {ds : List Int} {x : Int} (h : InD ds) (h0 : 0 ≤ x) (h1 : x < 2147483629) : InD (ds ++ [x]) := by
  intro d hd
  rcases List.mem_append.mp hd with hd | hd
  · exact h d hd
  · simp at hd; subst hd; exact ⟨h0, h1⟩
theorem append_at {st : Sto} {ds : List Int} {x : Int} (h : ds.length < 16777216) : mAppend (.ref st.length) [.int x] (st ++ [.lst (ds.map .int)]) = .ok .non (st ++ [.lst ((ds ++ [x]).map .int)]) := by
  have hs : ds.length < sizeLine := by rw [sizeLine_eq]; exact h
  simp [mAppend, hs]
theorem isLst_at {st : Sto} {ds : List D} : isLst (st ++ [.lst ds]) (.ref st.length) = true := by simp [isLst, deref]
theorem len_at {st : Sto} {ds : List D} : bLen [.ref st.length] (st ++ [.lst ds]) = .ok (.int ds.length) (st ++ [.lst ds]) := by
  simp [bLen, lenD, deref]
theorem atN {α : Type} {xs : List α} {n : Nat} {x : α} (h : xs[n]? = some x) : atI xs (n : Int) = some x := by
  have hl := (List.getElem?_eq_some_iff.mp h).1
  have : ixN xs.length (n : Int) = some n := by
    unfold ixN
    rw [if_pos (by omega), if_pos (by omega)]
    rfl
  simp [atI, this, h]
theorem atI_int {α : Type} {xs : List α} {i : Int} (h0 : 0 ≤ i) (h1 : i < xs.length) : ∃ x, atI xs i = some x ∧ xs[i.toNat]? = some x := by
  obtain ⟨n, rfl⟩ := Int.eq_ofNat_of_zero_le h0
  have hl : n < xs.length := by omega
  exact ⟨xs[n], atN (List.getElem?_eq_getElem hl), by simp [hl]⟩
@[simp] theorem bMin_app (i j : Int) (st : Sto) : bMin [.int i, .int j] st = .ok (.int (if j < i then j else i)) st := rfl
@[simp] theorem bAbs_app (i : Int) (st : Sto) : bAbs [.int i] st = .ok (.int (if i < 0 then -i else i)) st := rfl
@[simp] theorem bLen_fz (ds : List D) (st : Sto) : bLen [.fz ds] st = .ok (.int ds.length) st := rfl
@[simp] theorem bLen_tup (ds : List D) (st : Sto) : bLen [.tup ds] st = .ok (.int ds.length) st := rfl
@[simp] theorem bLen_lst (ds : List D) (st : Sto) : bLen [.lst ds] st = .ok (.int ds.length) st := rfl
theorem opIx_fz {ds : List D} {n : Nat} {d : D} {st : Sto} (h : ds[n]? = some d) : opIx (.fz ds) (.int n) st = .ok d st := by simp [opIx, atN h]
theorem draws_for {im : Nat} {Ph : Nat → List D → Sto → R D} {st : Sto} {S : D} {x k : Int} {e4 : Option D}
    (hm : ∀ (c k : Int) (st : Sto), 0 ≤ k → k < 1000 → Ph im [.int c, .int k] st = .ok (.int (mixedZ c k)) st)
    (hk0 : 0 ≤ k) (hk1 : k < 63) {ds : List Int} (hd : InD ds) (hl : ds.length < 10000) :
    ∃ a ds', InD ds' ∧ ds'.length ≤ ds.length + 12 ∧
      forGo (.vals (rangeD 0 12)) (gVar 4) (sSeq (sExpr (mMethL mAppend (mVar 1) [(mCall (Ph im) [(mCall (Ph im) [(mVar 3), (mBin opAdd (mBin opMul (mC (.int 3)) (mVar 4)) (mC (.int 1)))]), (mBin opAdd (mBin opAdd (mVar 4) (mVar 2)) (mC (.int 2)))])])) sSkip) (rangeD 0 12)
        [some S, some (.ref st.length), some (.int k), some (.int x), e4] (st ++ [.lst (ds.map .int)]) = .nx [some S, some (.ref st.length), some (.int k), some (.int x), a] (st ++ [.lst (ds'.map .int)]) := by
  obtain ⟨e2, s2, h2, a, ds', he, hs, hi, hn⟩ := forGo_ind (g := gVar 4) (b := (sSeq (sExpr (mMethL mAppend (mVar 1) [(mCall (Ph im) [(mCall (Ph im) [(mVar 3), (mBin opAdd (mBin opMul (mC (.int 3)) (mVar 4)) (mC (.int 1)))]), (mBin opAdd (mBin opAdd (mVar 4) (mVar 2)) (mC (.int 2)))])])) sSkip)) (xs := rangeD 0 12)
    (fun i env s => ∃ a ds', env = [some S, some (.ref st.length), some (.int k), some (.int x), a] ∧ s = st ++ [.lst (ds'.map .int)] ∧ InD ds' ∧ ds'.length = ds.length + i) (rangeD 0 12)
    (fun i d env s hd hi => by
      obtain ⟨hlt, rfl⟩ := rangeD_at hd
      obtain ⟨a, ds', rfl, rfl, hi, hn⟩ := hi
      refine ⟨_, rfl, _, _, ?_, some (.int (0 + i)), ds' ++ [mixedZ (mixedZ x (3 * i + 1)) (i + k + 2)], rfl, rfl, hi.app (mixedZ_ge _ _) (mixedZ_lt _ _), by simp; omega⟩
      have b : mulOk 3 (i : Int) := mulOk_l (by decide) (by decide)
      have m1 := fun st => hm x (3 * i + 1) st (by omega) (by omega)
      have m2 := fun st => hm (mixedZ x (3 * i + 1)) (i + k + 2) st (by omega) (by omega)
      have ap := append_at (st := st) (ds := ds') (x := mixedZ (mixedZ x (3 * i + 1)) (i + k + 2)) (by omega)
      simp [b, m1, m2, isLst_at, ap]) ⟨e4, ds, rfl, rfl, hd, rfl⟩
  subst he hs
  exact ⟨a, ds', hi, by simpa using Nat.le_of_eq hn, h2⟩
theorem draws_while {im : Nat} {st : Sto} {S : D} {k : Int} {e4 : Option D} : ∀ (f : Nat) {x : Int} {ds : List Int}, InD ds → 1000 ≤ f + ds.length → 0 < f → 
    ∃ y ds', InD ds' ∧ ds'.length ≤ max ds.length 900 ∧
      sWhile (mAnd (mBin opGe (mVar 3) (mBin opPow (mC (.int 10)) (mC (.int 18)))) (mBin opLt (mCall bLen [(mVar 1)]) (mC (.int 900))))
    (sSeq (sExpr (mMethL mAppend (mVar 1) [(mBin opMod (mVar 3) (mC (.int 2147483629)))]))
  (sSeq (sAsg (mBin opDiv (mVar 3) (mC (.int 2147483629))) (gVar 3))
  sSkip)) f
        [some S, some (.ref st.length), some (.int k), some (.int x), e4] (st ++ [.lst (ds.map .int)]) = .nx [some S, some (.ref st.length), some (.int k), some (.int y), e4] (st ++ [.lst (ds'.map .int)])
  | 0, _, _, _, _, h => absurd h (by decide)
  | f + 1, x, ds, hd, hf, _ => by
    have p : CPow 10 18 := by decide
    have q : CDivW x 2147483629 := by unfold CDivW; decide
    by_cases hx : (1000000000000000000 : Int) ≤ x
    · by_cases hl : ds.length < 900
      · have ap := append_at (st := st) (ds := ds) (x := x % 2147483629) (by omega)
        obtain ⟨y, ds', hi, hn, h⟩ := draws_while (im := im) (st := st) (S := S) (k := k) (e4 := e4) f (x := x / 2147483629) (ds := ds ++ [x % 2147483629]) (hd.app (Int.emod_nonneg _ (by decide)) (Int.emod_lt_of_pos _ (by decide))) (by simp; omega) (by omega)
        refine ⟨y, ds', hi, by simp at hn; omega, ?_⟩
        have hl' : (ds.length : Int) < 900 := by omega
        rw [sWhile_succ]
        simp [p, q, hx, hl', len_at, isLst_at, ap]
        simpa using h
      · refine ⟨x, ds, hd, by omega, ?_⟩
        have hl' : ¬ (ds.length : Int) < 900 := by omega
        rw [sWhile_succ]
        simp [p, q, hx, hl', len_at]
    · refine ⟨x, ds, hd, by omega, ?_⟩
      rw [sWhile_succ]
      simp [p, hx]
theorem draws_body {im F : Nat} (hF : 1000 ≤ F) {Ph : Nat → List D → Sto → R D} {st : Sto} {ns : List Int}
    (hm : ∀ (c k : Int) (st : Sto), 0 ≤ k → k < 1000 → Ph im [.int c, .int k] st = .ok (.int (mixedZ c k)) st) :
    ∃ ds, InD ds ∧ gDraws im F Ph (startD 5 [.fz (ns.map .int)]) st = .rt (.ref st.length) (st ++ [.lst (ds.map .int)]) := by
  have hb := forGo_ind (g := gVar 2) (b := (sSeq (sAsg (mCall bAbs [(mBin opIx (mVar 0) (mVar 2))]) (gVar 3))
  (sSeq (sIf (mBin opLt (mVar 3) (mBin opPow (mC (.int 10)) (mC (.int 18))))
    (sSeq (sFor (iRange1 (mC (.int 12))) (gVar 4)
    (sSeq (sExpr (mMethL mAppend (mVar 1) [(mCall (Ph im) [(mCall (Ph im) [(mVar 3), (mBin opAdd (mBin opMul (mC (.int 3)) (mVar 4)) (mC (.int 1)))]), (mBin opAdd (mBin opAdd (mVar 4) (mVar 2)) (mC (.int 2)))])]))
  sSkip))
  sSkip)
    sSkip)
  (sSeq (sWhile (mAnd (mBin opGe (mVar 3) (mBin opPow (mC (.int 10)) (mC (.int 18)))) (mBin opLt (mCall bLen [(mVar 1)]) (mC (.int 900))))
    (sSeq (sExpr (mMethL mAppend (mVar 1) [(mBin opMod (mVar 3) (mC (.int 2147483629)))]))
  (sSeq (sAsg (mBin opDiv (mVar 3) (mC (.int 2147483629))) (gVar 3))
  sSkip)) F)
  (sSeq (sIf (mBin opGe (mVar 3) (mC (.int 2147483629)))
    (sSeq (sExpr (mMethL mAppend (mVar 1) [(mBin opMod (mVar 3) (mC (.int 2147483629)))]))
  sSkip)
    sSkip)
  sSkip))))) (xs := rangeD 0 (min ns.length 63))
    (fun i env s => ∃ a b c ds', env = [some (.fz (ns.map .int)), some (.ref st.length), a, b, c] ∧ s = st ++ [.lst (ds'.map .int)] ∧ InD ds' ∧ ds'.length ≤ 901 + 20 * i) (rangeD 0 (min ns.length 63))
    (fun i d env s hd hi => by
      obtain ⟨hlt, rfl⟩ := rangeD_at hd
      obtain ⟨a, b, c, ds', rfl, rfl, hi, hn⟩ := hi
      have hin : i < ns.length := by omega
      have ix := fun st => opIx_fz (ds := ns.map .int) (n := i) (d := .int ns[i]) (st := st) (by simp [hin])
      have p : CPow 10 18 := by decide
      have last : ∀ (x : Int) (e4 : Option D) (ds1 : List Int), InD ds1 → ds1.length ≤ 913 + 20 * i → ∃ e2 s2, ((sSeq (sWhile (mAnd (mBin opGe (mVar 3) (mBin opPow (mC (.int 10)) (mC (.int 18)))) (mBin opLt (mCall bLen [(mVar 1)]) (mC (.int 900))))
    (sSeq (sExpr (mMethL mAppend (mVar 1) [(mBin opMod (mVar 3) (mC (.int 2147483629)))]))
  (sSeq (sAsg (mBin opDiv (mVar 3) (mC (.int 2147483629))) (gVar 3))
  sSkip)) F)
  (sSeq (sIf (mBin opGe (mVar 3) (mC (.int 2147483629)))
    (sSeq (sExpr (mMethL mAppend (mVar 1) [(mBin opMod (mVar 3) (mC (.int 2147483629)))]))
  sSkip)
    sSkip)
  sSkip)) [some (.fz (ns.map .int)), some (.ref st.length), some (.int (0 + i)), some (.int x), e4] (st ++ [.lst (ds1.map .int)])) = .nx e2 s2 ∧ ∃ a b c ds', e2 = [some (.fz (ns.map .int)), some (.ref st.length), a, b, c] ∧ s2 = st ++ [.lst (ds'.map .int)] ∧ InD ds' ∧ ds'.length ≤ 901 + 20 * (i + 1) := by
        intro x e4 ds1 h1 n1
        obtain ⟨y, ds2, h2, n2, e⟩ := draws_while (im := im) (st := st) (S := .fz (ns.map .int)) (k := 0 + i) (e4 := e4) F (x := x) (ds := ds1) h1 (by omega) (by omega)
        rw [sSeq_app, e, then_nx]
        by_cases hy : 2147483629 ≤ y
        · have ap := append_at (st := st) (ds := ds2) (x := y % 2147483629) (by omega)
          refine ⟨_, _, ?_, some (.int (0 + i)), some (.int y), e4, ds2 ++ [y % 2147483629], rfl, rfl, h2.app (Int.emod_nonneg _ (by decide)) (Int.emod_lt_of_pos _ (by decide)), by simp; omega⟩
          simp [hy, isLst_at, ap]
        · refine ⟨_, _, ?_, some (.int (0 + i)), some (.int y), e4, ds2, rfl, rfl, h2, by omega⟩
          simp [hy]
      refine ⟨_, rfl, ?_⟩
      by_cases hx : (if ns[i] < 0 then -ns[i] else ns[i]) < (1000000000000000000 : Int)
      · obtain ⟨a4, ds1, h1, n1, e⟩ := draws_for (st := st) (S := .fz (ns.map .int)) (x := (if ns[i] < 0 then -ns[i] else ns[i])) (k := 0 + i) (e4 := c) hm (by omega) (by omega) hi (by omega)
        obtain ⟨e2, s2, e3, h3⟩ := last (if ns[i] < 0 then -ns[i] else ns[i]) a4 ds1 h1 (by omega)
        refine ⟨e2, s2, ?_, h3⟩
        rw [← e3]
        simp only [Int.zero_add] at e ⊢
        have hx' : (if ns[i] < 0 then -ns[i] else ns[i]) < 1000000000000000000 := hx
        simp [ix, p, hx', e]
      · obtain ⟨e2, s2, e3, h3⟩ := last (if ns[i] < 0 then -ns[i] else ns[i]) c ds' hi (by omega)
        refine ⟨e2, s2, ?_, h3⟩
        rw [← e3]
        simp only [Int.zero_add]
        have hx' : ¬ (if ns[i] < 0 then -ns[i] else ns[i]) < 1000000000000000000 := hx
        simp [ix, p, hx']) ⟨none, none, none, [], rfl, rfl, fun _ h => absurd h (by simp), by simp⟩
  obtain ⟨e2, s2, h2, a, b, c, ds', rfl, rfl, hi, hn⟩ := hb
  refine ⟨ds', hi, ?_⟩
  unfold gDraws
  have hmin : (if (63 : Int) < (ns.length : Int) then (63 : Int) else (ns.length : Int)) = ((min ns.length 63 : Nat) : Int) := by split <;> omega
  have hmin' : (((min ns.length 63 : Nat) : Int)).toNat = min ns.length 63 := by simp
  have h0 : (0 : Nat) ≤ sizeLine := Nat.zero_le _
  have hit : ∀ s, iRange1 (mCall bMin [(mCall bLen [(mVar 0)]), (mC (.int 63))]) [some (.fz (ns.map .int)), some (.ref st.length), none, none, none] s = .ok (.vals (rangeD 0 (min ns.length 63))) s := by
    intro s
    refine iRange1_nat ?_ (by omega)
    simp only [mCall_app, mArgs_cons, mArgs_nil, bind_ok, mC_app, mVar_app, List.getElem?_cons_zero, bLen_fz, bMin_app, List.length_map, hmin]
  have hs : startD 5 [.fz (ns.map .int)] = [some (.fz (ns.map .int)), none, none, none, none] := rfl
  simp only [sSeq_app, sAsg_app, mNew_app, mArgs_nil, bind_ok, List.length_nil, if_pos h0, gVar_app, then_nx, sFor_app, hs, List.set_cons_succ, List.set_cons_zero, hit, items_vals]
  simp only [List.map_nil] at h2
  rw [h2]
  simp
def Pln (k : Nat) (d : D) : Prop := noRef d = true ∧ PyData.canLay0 (toPy d) = true ∧ PyData.depth (toPy d) ≤ k
def Plns (k : Nat) (ds : List D) : Prop := noRefs ds = true ∧ PyData.canLayAll0 (toPys ds) = true ∧ PyData.depthAll (toPys ds) ≤ k
theorem Plns.nil {k : Nat} : Plns k [] := ⟨by simp [noRefs], by simp [toPys, PyData.canLayAll0], by simp [toPys, PyData.depthAll]⟩
theorem Plns.cons {k : Nat} {d : D} {ds : List D} (h : Pln k d) (t : Plns k ds) : Plns k (d :: ds) :=
  ⟨by simp [noRefs, h.1, t.1], by simp [toPys, PyData.canLayAll0, h.2.1, t.2.1], by simp only [toPys, PyData.depthAll]; exact Nat.max_le.mpr ⟨h.2.2, t.2.2⟩⟩
theorem Plns.of {k : Nat} : ∀ {ds : List D}, (∀ d ∈ ds, Pln k d) → Plns k ds
  | [], _ => .nil
  | d :: ds, h => .cons (h d (by simp)) (Plns.of fun x hx => h x (by simp [hx]))
theorem Pln.int {k : Nat} {i : Int} : Pln k (.int i) := ⟨by simp [noRef], by simp [toPy, PyData.canLay0], by simp [toPy, PyData.depth]⟩
theorem Pln.bl {k : Nat} {i : Bool} : Pln k (.bl i) := ⟨by simp [noRef], by simp [toPy, PyData.canLay0], by simp [toPy, PyData.depth]⟩
theorem Pln.non {k : Nat} : Pln k .non := ⟨by simp [noRef], by simp [toPy, PyData.canLay0], by simp [toPy, PyData.depth]⟩
theorem Pln.str {k : Nat} {x : Str} (h : PyData.canLay0 (.str x) = true) : Pln k (.str x) := ⟨by simp [noRef], by simpa [toPy] using h, by simp [toPy, PyData.depth]⟩
theorem Pln.tup {k : Nat} {ds : List D} (h : Plns k ds) : Pln (k + 1) (.tup ds) := ⟨by simp [noRef, h.1], by simp [toPy, PyData.canLay0, h.2.1], by simp [toPy, PyData.depth]; exact h.2.2⟩
theorem Pln.lst {k : Nat} {ds : List D} (h : Plns k ds) : Pln (k + 1) (.lst ds) := ⟨by simp [noRef, h.1], by simp [toPy, PyData.canLay0, h.2.1], by simp [toPy, PyData.depth]; exact h.2.2⟩
theorem Plns.ints {k : Nat} {ns : List Int} : Plns k (ns.map .int) := Plns.of fun d hd => by
  obtain ⟨i, _, rfl⟩ := List.mem_map.mp hd
  exact .int
def beqD (x y : D) : Bool := PyData.eqv (toPy x) (toPy y)
theorem Pln.shaped {k : Nat} {d : D} (h : Pln k d) (hk : k ≤ 64) : SeqAt.shaped (toPy d) = true := by
  simp [SeqAt.shaped, h.2.1]
  exact Nat.le_trans h.2.2 hk
theorem eqD_pl {st : Sto} {k j : Nat} {x y : D} (h1 : Pln k (deref st x)) (h2 : Pln j (deref st y)) (hk : k ≤ 64) (hj : j ≤ 64) : eqD st x y = some (beqD (deref st x) (deref st y)) := by
  simp [eqD, h1.1, h2.1, h1.shaped hk, h2.shaped hj, beqD]
theorem opEq_pl {st : Sto} {k j : Nat} {x y : D} (h1 : Pln k (deref st x)) (h2 : Pln j (deref st y)) (hk : k ≤ 64) (hj : j ≤ 64) : opEq x y st = .ok (.bl (beqD (deref st x) (deref st y))) st := by
  simp [opEq, eqD_pl h1 h2 hk hj]
theorem opNe_pl {st : Sto} {k j : Nat} {x y : D} (h1 : Pln k (deref st x)) (h2 : Pln j (deref st y)) (hk : k ≤ 64) (hj : j ≤ 64) : opNe x y st = .ok (.bl (!beqD (deref st x) (deref st y))) st := by
  simp [opNe, eqD_pl h1 h2 hk hj]
mutual
theorem eqv_refl : ∀ {d : PyData}, PyData.canLay0 d = true → PyData.eqv d d = true
  | .none, _ => by simp [PyData.eqv]
  | .bool _, _ => by simp [PyData.eqv]
  | .int _, _ => by simp [PyData.eqv]
  | .str _, _ => by simp [PyData.eqv]
  | .list xs, h => by simp only [PyData.eqv]; exact eqvAll_refl (by simpa [PyData.canLay0] using h)
  | .tuple xs, h => by simp only [PyData.eqv]; exact eqvAll_refl (by simpa [PyData.canLay0] using h)
  | .dict _, h => by simp [PyData.canLay0] at h
theorem eqvAll_refl : ∀ {ds : List PyData}, PyData.canLayAll0 ds = true → PyData.eqvAll ds ds = true
  | [], _ => by simp [PyData.eqvAll]
  | d :: ds, h => by
    simp [PyData.canLayAll0] at h
    simp [PyData.eqvAll, eqv_refl h.1, eqvAll_refl h.2]
end
theorem beqD_refl {k : Nat} {d : D} (h : Pln k d) : beqD d d = true := eqv_refl h.2.1
@[simp] theorem beqD_int (i j : Int) : beqD (.int i) (.int j) = decide (i = j) := by
  simp [beqD, toPy, PyData.eqv]
  by_cases h : i = j <;> simp [h]
@[simp] theorem beqD_bl (i j : Bool) : beqD (.bl i) (.bl j) = decide (i = j) := by
  cases i <;> cases j <;> rfl
@[simp] theorem beqD_str (x y : Str) : beqD (.str x) (.str y) = (x == y) := by
  simp [beqD, toPy, PyData.eqv]
@[simp] theorem beqD_lst_nil (ds : List D) : beqD (.lst ds) (.lst []) = ds.isEmpty := by
  cases ds <;> simp [beqD, toPy, toPys, PyData.eqv, PyData.eqvAll]
theorem compGo_map {g : MG} {e : ME} {env : DEnv} {xs : List D} {st : Sto} (F : D → D) : ∀ (ds : List D), (∀ d ∈ ds, ∃ env', g d env = some env' ∧ e env' st = .ok (F d) st) → compGo (.vals xs) g none e env ds st = .ok (ds.map F) st
  | [], _ => rfl
  | d :: ds, h => by
    obtain ⟨env', h1, h2⟩ := h d (by simp)
    have ih := compGo_map (g := g) (e := e) (env := env) (xs := xs) (st := st) F ds fun x hx => h x (by simp [hx])
    rw [compGo_cons]
    simp [h1, h2, ih]
theorem mComp_map {it : MIt} {vs : List Nat} {g : MG} {e : ME} {env : DEnv} {st st' : Sto} {ds : List D} (F : D → D) (hi : it env st = .ok (.vals ds) st')
    (h : ∀ d ∈ ds, ∃ env', g d (wipeD env vs) = some env' ∧ e env' st' = .ok (F d) st') (hl : ds.length ≤ 10000000) : mComp it vs g none e env st = .ok (.lst (ds.map F)) st' := by
  have h1 := compGo_map (xs := ds) F ds h
  have h2 : (ds.map F).length ≤ sizeLine := sizeLine_ge (by simp; omega)
  rw [mComp_app, hi, bind_ok, items_vals, h1]
  simp only [if_pos h2]
theorem bAll_map (p : D → Bool) (ds : List D) (st : Sto) : bAll [.lst (ds.map fun d => .bl (p d))] st = .ok (.bl (ds.all p)) st := by
  have : (ds.map fun d => D.bl (p d)) = (ds.map p).map .bl := by simp
  simp only [this, bAll, deref_lst, boolsOf_map]
  simp [List.all_map]
theorem law_done {d : DefR} {Ph : Nat → List D → Sto → R D} {ds : List D} {st : Sto} {b : Bool} (ha : ds.length = d.arity) (hf : d.frz = true) (h : d.body Ph (startD d.slots ds) [] = .rt (.bl b) st) :
    ∃ s, runDef d Ph ds [] = .ok (.bl b) s := by
  unfold runDef
  rw [if_pos ha, h]
  show ∃ s, (if d.frz = true then freeze [] (.bl b) st else .ok (.bl b) st) = .ok (.bl b) s
  rw [if_pos hf]
  unfold freeze
  split
  · exact ⟨_, rfl⟩
  · split
    · exact ⟨_, rfl⟩
    · exact ⟨_, rfl⟩
noncomputable def gNext (Ph : Nat → List D → Sto → R D) : MS := (sSeq (sIf (mBin opEq (mVar 0) (mLst []))
    (sSeq (sRet (mC (.int 0)))
  sSkip)
    sSkip)
  (sSeq (sRet (mMethL mPop (mVar 0) [(mC (.int 0))]))
  sSkip))
theorem next_ok {Ph : Nat → List D → Sto → R D} {l : Nat} {st : Sto} {ds : List Int} (hs : st[l]? = some (.lst (ds.map .int))) (hd : InD ds) :
    ∃ x ds', 0 ≤ x ∧ x < 2147483629 ∧ InD ds' ∧ runDef ⟨1, 1, true, gNext⟩ Ph [.ref l] st = .ok (.int x) (st.set l (.lst (ds'.map .int))) := by
  have hde : deref st (.ref l) = .lst (ds.map .int) := deref_ref_lst hs
  have hl : l < st.length := (List.getElem?_eq_some_iff.mp hs).1
  have heq : opEq (.ref l) (.lst []) st = .ok (.bl (ds.map D.int).isEmpty) st := by
    rw [opEq_pl (k := 64) (j := 64) (by rw [hde]; exact .lst .ints) (.lst .nil) (by omega) (by omega), hde, deref_lst, beqD_lst_nil]
  cases ds with
  | nil =>
    refine ⟨0, [], by decide, by decide, hd, ?_⟩
    have : st.set l (.lst (List.map D.int [])) = st := by
      apply List.ext_getElem? ; intro i
      by_cases h : l = i
      · subst h; rw [hs]; simp [hl]
      · simp [h]
    rw [this]
    refine runDef_rt rfl ?_ rfl
    simp [gNext, startD, heq]
  | cons x ds =>
    refine ⟨x, ds, (hd x (by simp)).1, (hd x (by simp)).2, fun d h => hd d (by simp [h]), ?_⟩
    refine runDef_rt rfl ?_ (by simp)
    have hil : isLst st (.ref l) = true := by simp [isLst, hde]
    have hpop : mPop (.ref l) [.int 0] st = .ok (.int x) (st.set l (.lst (ds.map .int))) := by
      have e : seqIndex? 0 ((ds.length : Nat) + 1) = some 0 := by
        have := seqIndex_of (k := 0) (n := ds.length + 1) (by omega) (by omega)
        simpa using this
      simp [mPop, hs, e]
    simp [gNext, startD, heq, hil, hpop]
def R.wq {α : Type} (r : R α) (Q : α → Sto → Prop) (X : Nat → Sto → Prop) : Prop := match r with
  | .ok a st => Q a st
  | .exc c st => X c st
  | .stuck => False
def SR.wq (r : SR) (N : DEnv → Sto → Prop) (T : D → Sto → Prop) (X : Nat → DEnv → Sto → Prop) : Prop := match r with
  | .nx env st => N env st
  | .rt d st => T d st
  | .exc c env st => X c env st
  | _ => False
abbrev nX : Nat → Sto → Prop := fun _ _ => False
abbrev nXS : Nat → DEnv → Sto → Prop := fun _ _ _ => False
section
variable {α β : Type} {Q : α → Sto → Prop} {X : Nat → Sto → Prop} {P : D → Sto → Prop} {env : DEnv} {st : Sto} {N : DEnv → Sto → Prop} {T : D → Sto → Prop} {Y : Nat → DEnv → Sto → Prop}
theorem R.wq.mono {r : R α} {Q' : α → Sto → Prop} {X' : Nat → Sto → Prop} (h : r.wq Q X) (f : ∀ a st, Q a st → Q' a st) (g : ∀ c st, X c st → X' c st) : r.wq Q' X' := by
  cases r with
  | ok a st => exact f _ _ h
  | exc c st => exact g _ _ h
  | stuck => exact h
theorem SR.wq.mono {r : SR} {N' : DEnv → Sto → Prop} {T' : D → Sto → Prop} {Y' : Nat → DEnv → Sto → Prop} (h : r.wq N T Y) (f : ∀ e st, N e st → N' e st) (g : ∀ d st, T d st → T' d st) (k : ∀ c e st, Y c e st → Y' c e st) : r.wq N' T' Y' := by
  cases r with
  | nx e st => exact f _ _ h
  | rt d st => exact g _ _ h
  | exc c e st => exact k _ _ _ h
  | bk e st => exact h
  | ct e st => exact h
  | stuck => exact h
theorem R.wq.get {r : R α} (h : r.wq Q nX) : ∃ a st, r = .ok a st ∧ Q a st := by
  cases r with
  | ok a st => exact ⟨a, st, rfl, h⟩
  | exc c st => exact h.elim
  | stuck => exact h.elim
theorem R.wq.eq {r : R α} {a : α} {s : Sto} (h : r.wq (fun b t => b = a ∧ t = s) nX) : r = .ok a s := by
  obtain ⟨b, t, e, rfl, rfl⟩ := h.get
  exact e
theorem R.wq.exq {r : R α} {c : Nat} {s : Sto} (h : r.wq (fun _ _ => False) (fun b t => b = c ∧ t = s)) : r = .exc c s := by
  cases r with
  | ok a st => exact h.elim
  | exc b t => obtain ⟨rfl, rfl⟩ := h; rfl
  | stuck => exact h.elim
theorem q_ok {a : α} : (R.ok a st).wq Q X ↔ Q a st := Iff.rfl
theorem q_exc {c : Nat} : (R.exc c st : R α).wq Q X ↔ X c st := Iff.rfl
theorem q_bind {r : R β} {f : β → Sto → R α} : (r.bind f).wq Q X ↔ r.wq (fun a st => (f a st).wq Q X) X := by cases r <;> rfl
theorem q_C {d : D} : (mC d env st).wq P X ↔ P d st := Iff.rfl
theorem q_bin {f : D → D → Sto → R D} {a b : ME} : (mBin f a b env st).wq P X ↔ (a env st).wq (fun x st => (b env st).wq (fun y st => (f x y st).wq P X) X) X := by
  unfold mBin
  rw [q_bind]
  simp only [q_bind]
theorem q_neg {a : ME} : (mNeg a env st).wq P X ↔ (a env st).wq (fun x st => match x with | .int i => P (.int (-i)) st | _ => False) X := by
  unfold mNeg
  cases a env st with
  | ok x s => cases x <;> first | rfl | (rename_i k; cases k <;> rfl)
  | exc c s => rfl
  | stuck => rfl
def onBool (x : D) (t f : Prop) : Prop := match x with
  | .bl true => t
  | .bl false => f
  | _ => False
theorem on_bl {b : Bool} {t f : Prop} : onBool (.bl b) t f ↔ (b = true → t) ∧ (b = false → f) := by cases b <;> simp [onBool]
theorem q_and {a b : ME} : (mAnd a b env st).wq P X ↔ (a env st).wq (fun x st => onBool x ((b env st).wq P X) (P (.bl false) st)) X := by
  unfold mAnd
  cases a env st with
  | ok x s => cases x <;> first | rfl | (rename_i k; cases k <;> rfl)
  | exc c s => rfl
  | stuck => rfl
theorem q_or {a b : ME} : (mOr a b env st).wq P X ↔ (a env st).wq (fun x st => onBool x (P (.bl true) st) ((b env st).wq P X)) X := by
  unfold mOr
  cases a env st with
  | ok x s => cases x <;> first | rfl | (rename_i k; cases k <;> rfl)
  | exc c s => rfl
  | stuck => rfl
theorem q_not {a : ME} : (mNot a env st).wq P X ↔ (a env st).wq (fun x st => onBool x (P (.bl false) st) (P (.bl true) st)) X := by
  unfold mNot
  cases a env st with
  | ok x s => cases x <;> first | rfl | (rename_i k; cases k <;> rfl)
  | exc c s => rfl
  | stuck => rfl
def onTruth (st : Sto) (x : D) (t f : Prop) : Prop := match truth st x with
  | some true => t
  | some false => f
  | none => False
theorem ot_bl {b : Bool} {t f : Prop} : onTruth st (.bl b) t f ↔ (b = true → t) ∧ (b = false → f) := by cases b <;> simp [onTruth, truth, deref]
theorem q_ifE {c a b : ME} : (mIfE c a b env st).wq P X ↔ (c env st).wq (fun x st => onTruth st x ((a env st).wq P X) ((b env st).wq P X)) X := by
  unfold mIfE mT
  cases c env st with
  | ok x s =>
    rw [R.bind_ok]
    show _ ↔ onTruth s x _ _
    unfold onTruth
    cases truth s x with
    | none => rfl
    | some k => cases k <;> rfl
  | exc c s => rfl
  | stuck => rfl
theorem q_args0 {L : List D → Sto → Prop} : (mArgs [] env st).wq L X ↔ L [] st := Iff.rfl
theorem q_args {e : ME} {es : List ME} {L : List D → Sto → Prop} : (mArgs (e :: es) env st).wq L X ↔ (e env st).wq (fun d st => (mArgs es env st).wq (fun ds st => L (d :: ds) st) X) X := by
  rw [mArgs_cons, q_bind]
  simp only [q_bind]
  rfl
theorem args_len : ∀ {es : List ME} {env : DEnv} {st st' : Sto} {ds : List D}, mArgs es env st = .ok ds st' → ds.length = es.length
  | [], _, _, _, _, h => by cases h; rfl
  | e :: es, env, st, st', ds, h => by
    unfold mArgs at h
    cases q : e env st with
    | ok d s1 =>
      rw [q, R.bind_ok] at h
      cases q2 : mArgs es env s1 with
      | ok ds2 s2 =>
        rw [q2, R.bind_ok] at h
        cases h
        simp [args_len q2]
      | exc c s => rw [q2] at h; cases h
      | stuck => rw [q2] at h; cases h
    | exc c s => rw [q] at h; cases h
    | stuck => rw [q] at h; cases h
theorem q_tup {es : List ME} (h : es.length ≤ 16777216) : (mTup es env st).wq P X ↔ (mArgs es env st).wq (fun ds st => P (.tup ds) st) X := by
  unfold mTup
  rw [q_bind]
  cases q : mArgs es env st with
  | ok ds s => simp [R.wq, if_pos (show ds.length ≤ sizeLine by rw [args_len q]; exact sizeLine_ge h)]
  | exc c s => rfl
  | stuck => rfl
theorem q_lst {es : List ME} (h : es.length ≤ 16777216) : (mLst es env st).wq P X ↔ (mArgs es env st).wq (fun ds st => P (.lst ds) st) X := by
  unfold mLst
  rw [q_bind]
  cases q : mArgs es env st with
  | ok ds s => simp [R.wq, if_pos (show ds.length ≤ sizeLine by rw [args_len q]; exact sizeLine_ge h)]
  | exc c s => rfl
  | stuck => rfl
theorem q_new {es : List ME} (h : es.length ≤ 16777216) : (mNew es env st).wq P X ↔ (mArgs es env st).wq (fun ds st => P (.ref st.length) (st ++ [.lst ds])) X := by
  unfold mNew
  rw [q_bind]
  cases q : mArgs es env st with
  | ok ds s => simp [R.wq, if_pos (show ds.length ≤ sizeLine by rw [args_len q]; exact sizeLine_ge h)]
  | exc c s => rfl
  | stuck => rfl
theorem q_call {f : List D → Sto → R D} {es : List ME} : (mCall f es env st).wq P X ↔ (mArgs es env st).wq (fun ds st => (f ds st).wq P X) X := by
  unfold mCall
  rw [q_bind]
theorem q_isI {t : String} {a : ME} : (mIsI t a env st).wq P X ↔ (a env st).wq (fun x st => (isInst t x st).wq P X) X := by
  unfold mIsI
  rw [q_bind]
theorem q_chain {f g : D → D → Sto → R D} {a b c : ME} : (mChain f g a b c env st).wq P X ↔ (a env st).wq (fun x st => (b env st).wq (fun y st => (f x y st).wq (fun z st => onBool z ((c env st).wq (fun w st => (g y w st).wq P X) X) (P (.bl false) st)) X) X) X := by
  unfold mChain
  rw [q_bind]
  have h2 : ∀ (x : D) (s : Sto), ((b env s).bind fun y st => (f x y st).bind fun z st => match z with | .bl true => (c env st).bind fun w st => g y w st | .bl false => .ok (.bl false) st | _ => .stuck).wq P X ↔ (b env s).wq (fun y st => (f x y st).wq (fun z st => onBool z ((c env st).wq (fun w st => (g y w st).wq P X) X) (P (.bl false) st)) X) X := fun x s => by
    cases b env s with
    | ok y s2 =>
      rw [R.bind_ok]
      show _ ↔ (f x y s2).wq _ X
      cases f x y s2 with
      | ok z s3 =>
        rw [R.bind_ok]
        show _ ↔ onBool z _ _
        cases z <;> first | rfl | (rename_i k; cases k <;> first | rfl | exact q_bind)
      | exc k s3 => rfl
      | stuck => rfl
    | exc k s2 => rfl
    | stuck => rfl
  cases a env st with
  | ok x s => exact h2 x s
  | exc k s => rfl
  | stuck => rfl
theorem q_opt0 {L : Option Int → Sto → Prop} : (mOpt none env st).wq L X ↔ L none st := Iff.rfl
theorem q_opt {a : ME} {L : Option Int → Sto → Prop} : (mOpt (some a) env st).wq L X ↔ (a env st).wq (fun x st => match x with | .int i => L (some i) st | _ => False) X := by
  unfold mOpt
  cases q : a env st with
  | ok x s => cases x <;> (simp only [q]; rfl)
  | exc c s => simp only [q]; rfl
  | stuck => simp only [q]; rfl
theorem q_sl {a : ME} {lo hi : Option ME} : (mSl a lo hi env st).wq P X ↔ (a env st).wq (fun x st => (mOpt lo env st).wq (fun i st => (mOpt hi env st).wq (fun j st => (opSl x i j st).wq P X) X) X) X := by
  unfold mSl
  simp only [q_bind]
theorem q_st {a : ME} {lo hi k : Option ME} : (mSt a lo hi k env st).wq P X ↔ (a env st).wq (fun x st => (mOpt lo env st).wq (fun i st => (mOpt hi env st).wq (fun j st => (mOpt k env st).wq (fun k st => (opSt x i j k st).wq P X) X) X) X) X := by
  unfold mSt
  simp only [q_bind]
theorem q_methL {f : D → List D → Sto → R D} {o : ME} {es : List ME} : (mMethL f o es env st).wq P X ↔ (o env st).wq (fun d st => isLst st d = true ∧ (mArgs es env st).wq (fun ds st => (f d ds st).wq P X) X) X := by
  unfold mMethL
  cases o env st with
  | ok d s =>
    rw [R.bind_ok]
    show _ ↔ isLst s d = true ∧ _
    by_cases h : isLst s d = true
    · simp only [h, if_true, q_bind, true_and]
    · simp only [h, if_false]
      exact ⟨fun z => z.elim, fun z => absurd z.1 (by simp)⟩
  | exc k s => rfl
  | stuck => rfl
theorem q_methS {f : D → List D → Sto → R D} {o : ME} {es : List ME} : (mMethS f o es env st).wq P X ↔ (o env st).wq (fun d st => isStrD d = true ∧ (mArgs es env st).wq (fun ds st => (f d ds st).wq P X) X) X := by
  unfold mMethS
  cases o env st with
  | ok d s =>
    rw [R.bind_ok]
    show _ ↔ isStrD d = true ∧ _
    by_cases h : isStrD d = true
    · simp only [h, if_true, q_bind, true_and]
    · simp only [h, if_false]
      exact ⟨fun z => z.elim, fun z => absurd z.1 (by simp)⟩
  | exc k s => rfl
  | stuck => rfl
theorem q_if {c : Prop} [Decidable c] {r : R α} : (if c then r else .stuck).wq Q X ↔ c ∧ r.wq Q X := by
  by_cases h : c <;> simp [h, R.wq]
theorem q_add {i j : Int} : (opAdd (.int i) (.int j) st).wq P X ↔ P (.int (i + j)) st := Iff.rfl
theorem q_addT {a b : List D} : (opAdd (.tup a) (.tup b) st).wq P X ↔ a.length + b.length ≤ sizeLine ∧ P (.tup (a ++ b)) st := by rw [opAdd_tt, q_if]; rfl
theorem q_addL {a b : List D} : (opAdd (.lst a) (.lst b) st).wq P X ↔ a.length + b.length ≤ sizeLine ∧ P (.lst (a ++ b)) st := by rw [opAdd_ll, q_if]; rfl
theorem q_addS {a b : Str} : (opAdd (.str a) (.str b) st).wq P X ↔ a.length + b.length ≤ sizeLine ∧ P (.str (a ++ b)) st := by rw [opAdd_ss, q_if]; rfl
theorem q_sub {i j : Int} : (opSub (.int i) (.int j) st).wq P X ↔ P (.int (i - j)) st := Iff.rfl
theorem q_mul {i j : Int} : (opMul (.int i) (.int j) st).wq P X ↔ mulOk i j ∧ P (.int (i * j)) st := by rw [opMul_ii, q_if]; rfl
theorem q_mod {i j : Int} : (opMod (.int i) (.int j) st).wq P X ↔ 0 < j ∧ P (.int (i % j)) st := by rw [opMod_ii, q_if]; rfl
theorem q_div {i j : Int} : (opDiv (.int i) (.int j) st).wq P X ↔ CDivW i j ∧ P (.int (i / j)) st := by rw [opDiv_ii, q_if]; rfl
theorem q_pow {i j : Int} : (opPow (.int i) (.int j) st).wq P X ↔ CPow i j ∧ P (.int (i ^ j.toNat)) st := by rw [opPow_ii, q_if]; rfl
theorem q_lt {i j : Int} : (opLt (.int i) (.int j) st).wq P X ↔ P (.bl (decide (i < j))) st := Iff.rfl
theorem q_le {i j : Int} : (opLe (.int i) (.int j) st).wq P X ↔ P (.bl (decide (i ≤ j))) st := Iff.rfl
theorem q_gt {i j : Int} : (opGt (.int i) (.int j) st).wq P X ↔ P (.bl (decide (j < i))) st := Iff.rfl
theorem q_ge {i j : Int} : (opGe (.int i) (.int j) st).wq P X ↔ P (.bl (decide (j ≤ i))) st := Iff.rfl
theorem q_eq {i j : Int} : (opEq (.int i) (.int j) st).wq P X ↔ P (.bl (decide (i = j))) st := by rw [opEq_ii]; rfl
theorem q_ne {i j : Int} : (opNe (.int i) (.int j) st).wq P X ↔ P (.bl (!decide (i = j))) st := by rw [opNe_ii]; rfl
theorem q_eqB {i j : Bool} : (opEq (.bl i) (.bl j) st).wq P X ↔ P (.bl (decide (i = j))) st := by rw [opEq_bb]; rfl
theorem q_neB {i j : Bool} : (opNe (.bl i) (.bl j) st).wq P X ↔ P (.bl (!decide (i = j))) st := by simp [opNe, eqD_bl]; rfl
theorem q_isB {i j : Bool} : (opIs (.bl i) (.bl j) st).wq P X ↔ P (.bl (decide (i = j))) st := Iff.rfl
theorem q_isNB {i j : Bool} : (opIsNot (.bl i) (.bl j) st).wq P X ↔ P (.bl (!decide (i = j))) st := Iff.rfl
theorem q_lenT {ds : List D} : (bLen [.tup ds] st).wq P X ↔ P (.int ds.length) st := Iff.rfl
theorem q_lenL {ds : List D} : (bLen [.lst ds] st).wq P X ↔ P (.int ds.length) st := Iff.rfl
theorem q_tupL {ds : List D} : (bTuple [.lst ds] st).wq P X ↔ P (.tup ds) st := Iff.rfl
theorem q_tupT {ds : List D} : (bTuple [.tup ds] st).wq P X ↔ P (.tup ds) st := Iff.rfl
theorem q_listT {ds : List D} : (bList [.tup ds] st).wq P X ↔ P (.lst ds) st := Iff.rfl
theorem q_listL {ds : List D} : (bList [.lst ds] st).wq P X ↔ P (.lst ds) st := Iff.rfl
theorem ix_at {α : Type} {ds : List α} {i : Int} {d : α} (h0 : 0 ≤ i) (h : ds[i.toNat]? = some d) : atI ds i = some d := by
  obtain ⟨n, rfl⟩ := Int.eq_ofNat_of_zero_le h0
  exact atN (by simpa using h)
theorem q_ixT {ds : List D} {i : Int} : (opIx (.tup ds) (.int i) st).wq P X ↔ ∃ d, atI ds i = some d ∧ P d st := by
  unfold opIx
  simp only [deref_tup]
  cases atI ds i <;> simp [R.wq]
theorem q_ixL {ds : List D} {i : Int} : (opIx (.lst ds) (.int i) st).wq P X ↔ ∃ d, atI ds i = some d ∧ P d st := by
  unfold opIx
  simp only [deref_lst]
  cases atI ds i <;> simp [R.wq]
theorem q_slT {ds : List D} {lo hi : Option Int} : (opSl (.tup ds) lo hi st).wq P X ↔ P (.tup (cutL ds lo hi)) st := Iff.rfl
theorem q_slL {ds : List D} {lo hi : Option Int} : (opSl (.lst ds) lo hi st).wq P X ↔ P (.lst (cutL ds lo hi)) st := Iff.rfl
theorem q_stT {ds : List D} {lo hi : Option Int} {k : Int} : (opSt (.tup ds) lo hi (some k) st).wq P X ↔ (k ≠ 0 ∧ k ≠ 1 ∧ (stepL ds lo hi k).length ≤ sizeLine) ∧ P (.tup (stepL ds lo hi k)) st := by
  unfold opSt
  rw [q_if]
  rfl
theorem q_seq {a b : MS} : (sSeq a b env st).wq N T Y ↔ (a env st).wq (fun e s => (b e s).wq N T Y) T Y := by
  unfold sSeq
  cases a env st <;> rfl
theorem q_skip : (sSkip env st).wq N T Y ↔ N env st := Iff.rfl
theorem q_asg {e : ME} {i : Nat} : (sAsg e (gVar i) env st).wq N T Y ↔ (e env st).wq (fun d s => N (env.set i (some d)) s) (fun c s => Y c env s) := by
  unfold sAsg
  cases e env st <;> rfl
theorem q_asgT {e : ME} {is : List Nat} : (sAsg e (gTupV is) env st).wq N T Y ↔ (e env st).wq (fun d s => ∃ env', gTupV is d env = some env' ∧ N env' s) (fun c s => Y c env s) := by
  unfold sAsg
  cases e env st with
  | ok d s =>
    show SR.wq (match gTupV is d env with | some env => .nx env s | none => .stuck) N T Y ↔ ∃ env', gTupV is d env = some env' ∧ N env' s
    cases gTupV is d env <;> simp [SR.wq]
  | exc c s => rfl
  | stuck => rfl
theorem q_expr {e : ME} : (sExpr e env st).wq N T Y ↔ (e env st).wq (fun _ s => N env s) (fun c s => Y c env s) := by
  unfold sExpr
  cases e env st <;> rfl
theorem q_ret {e : ME} : (sRet e env st).wq N T Y ↔ (e env st).wq T (fun c s => Y c env s) := by
  unfold sRet
  cases e env st <;> rfl
theorem q_sIf {c : ME} {a b : MS} : (sIf c a b env st).wq N T Y ↔ (c env st).wq (fun x s => onTruth s x ((a env s).wq N T Y) ((b env s).wq N T Y)) (fun k s => Y k env s) := by
  unfold sIf mT
  cases c env st with
  | ok x s =>
    rw [R.bind_ok]
    show _ ↔ onTruth s x _ _
    unfold onTruth
    cases truth s x with
    | none => rfl
    | some k => cases k <;> rfl
  | exc c s => rfl
  | stuck => rfl
theorem q_raise {c : Nat} : (sRaise c env st).wq N T Y ↔ Y c env st := Iff.rfl
theorem q_for {it : MIt} {g : MG} {b : MS} : (sFor it g b env st).wq N T Y ↔ (it env st).wq (fun s t => (forGo s g b s.items env t).wq N T Y) (fun c s => Y c env s) := by
  unfold sFor
  cases it env st <;> rfl
theorem q_set {o i e : ME} : (sSet o i e env st).wq N T Y ↔ (e env st).wq (fun d st => (o env st).wq (fun x st => (i env st).wq (fun y st => (setAt x y d st).wq (fun _ s => N env s) (fun c s => Y c env s)) (fun c s => Y c env s)) (fun c s => Y c env s)) (fun c s => Y c env s) := by
  unfold sSet
  have : ∀ r : R Unit, SR.wq (match r with | .ok _ st => .nx env st | .exc c st => .exc c env st | .stuck => .stuck) N T Y ↔ r.wq (fun _ s => N env s) (fun c s => Y c env s) := fun r => by cases r <;> rfl
  have h2 := this ((e env st).bind fun d st => (o env st).bind fun x st => (i env st).bind fun y st => setAt x y d st)
  simp only [q_bind] at h2
  exact h2
theorem q_try {sub : Nat → Nat → Bool} {b : MS} {hs : List (Nat × MS)} : (sTry sub b hs env st).wq N T Y ↔ (b env st).wq N T (fun c e s => (sTry.pick sub c e s hs).wq N T Y) := by
  unfold sTry
  cases b env st <;> rfl
theorem q_pick0 {sub : Nat → Nat → Bool} {c : Nat} : (sTry.pick sub c env st []).wq N T Y ↔ Y c env st := Iff.rfl
theorem q_pick {sub : Nat → Nat → Bool} {c h : Nat} {s : MS} {hs : List (Nat × MS)} : (sTry.pick sub c env st ((h, s) :: hs)).wq N T Y ↔ (sub c h = true → (s env st).wq N T Y) ∧ (sub c h = false → (sTry.pick sub c env st hs).wq N T Y) := by
  have e : sTry.pick sub c env st ((h, s) :: hs) = if sub c h = true then s env st else sTry.pick sub c env st hs := rfl
  rw [e]
  cases sub c h <;> simp
theorem for_wq {s : Src} {g : MG} {b : MS} (I : Nat → DEnv → Sto → Prop) : ∀ (ds : List D) {env : DEnv} {st : Sto}, I 0 env st →
    (∀ i d env st, ds[i]? = some d → I i env st → ∃ env', g d env = some env' ∧ (b env' st).wq (fun e t => s.holds t ∧ I (i + 1) e t) T Y) → (∀ env st, I ds.length env st → N env st) → (forGo s g b ds env st).wq N T Y
  | [], env, st, h0, _, fin => fin env st h0
  | d :: ds, env, st, h0, step, fin => by
    obtain ⟨env', hg, hb⟩ := step 0 d env st rfl h0
    unfold forGo
    simp only [hg]
    cases q : b env' st with
    | nx e t =>
      rw [q] at hb
      obtain ⟨h1, h2⟩ := hb
      simp only [if_pos h1]
      exact for_wq (fun i => I (i + 1)) ds h2 (fun i d env st hd hi => step (i + 1) d env st (by simpa using hd) hi) fin
    | rt v t => rw [q] at hb; exact hb
    | exc c e t => rw [q] at hb; exact hb
    | bk e t => rw [q] at hb; exact hb.elim
    | ct e t => rw [q] at hb; exact hb.elim
    | stuck => rw [q] at hb; exact hb.elim
theorem while_wq {c : ME} {b : MS} (I : Nat → DEnv → Sto → Prop)
    (step : ∀ k env st, I k env st → (c env st).wq (fun x s => onTruth s x ((b env s).wq (fun e t => ∃ k', k' < k ∧ I k' e t) T Y) (N env s)) (fun k s => Y k env s)) :
    ∀ (f k : Nat) (env : DEnv) (st : Sto), k < f → I k env st → (sWhile c b f env st).wq N T Y
  | 0, _, _, _, h, _ => absurd h (Nat.not_lt_zero _)
  | f + 1, k, env, st, h, hi => by
    have hs := step k env st hi
    rw [sWhile_succ]
    unfold mT
    cases q : c env st with
    | stuck => rw [q] at hs; exact hs.elim
    | exc x s => rw [q] at hs; exact hs
    | ok x s =>
      rw [q] at hs
      rw [R.bind_ok]
      have hs : onTruth s x _ _ := hs
      unfold onTruth at hs
      cases q2 : truth s x with
      | none => rw [q2] at hs; exact hs.elim
      | some t =>
        rw [q2] at hs
        cases t with
        | false => exact hs
        | true =>
          simp only [onT_ok, if_true]
          have hs : (b env s).wq _ T Y := hs
          cases q3 : b env s with
          | nx e t =>
            rw [q3] at hs
            obtain ⟨k', h1, h2⟩ := hs
            exact while_wq I step f k' e t (by omega) h2
          | rt v t => rw [q3] at hs; exact hs
          | exc c e t => rw [q3] at hs; exact hs
          | bk e t => rw [q3] at hs; exact hs.elim
          | ct e t => rw [q3] at hs; exact hs.elim
          | stuck => rw [q3] at hs; exact hs.elim
theorem def_wq {d : DefR} {Ph : Nat → List D → Sto → R D} {ds : List D} (ha : ds.length = d.arity) (hf : d.frz = true)
    (h : (d.body Ph (startD d.slots ds) st).wq (fun _ t => P .non (cutSt st t)) (fun v t => (freeze st v t).wq P X) (fun c _ t => X c (cutSt st t))) : (runDef d Ph ds st).wq P X := by
  unfold runDef
  rw [if_pos ha]
  cases q : d.body Ph (startD d.slots ds) st with
  | nx e t => rw [q] at h; simp only [hf, if_true]; exact h
  | rt v t => rw [q] at h; simp only [hf, if_true]; exact h
  | exc c e t => rw [q] at h; simp only [hf, if_true]; exact h
  | bk e t => rw [q] at h; exact h.elim
  | ct e t => rw [q] at h; exact h.elim
  | stuck => rw [q] at h; exact h.elim
theorem fz_sameq {v : D} {s : Sto} (h : s.length = st.length) : (freeze st v s).wq P X ↔ P v s := by rw [freeze_same h]; rfl
theorem def_pureq {d : DefR} {Ph : Nat → List D → Sto → R D} {ds : List D} {v : D} (ha : ds.length = d.arity) (hf : d.frz = true)
    (h : (d.body Ph (startD d.slots ds) st).wq (fun _ _ => False) (fun u t => u = v ∧ t = st) nXS) : runDef d Ph ds st = .ok v st := by
  refine (def_wq (P := fun u t => u = v ∧ t = st) (X := nX) ha hf (h.mono (fun _ _ z => z.elim) (fun u t z => ?_) (fun _ _ _ z => z))).eq
  obtain ⟨rfl, rfl⟩ := z
  rw [fz_sameq rfl]
  exact ⟨rfl, rfl⟩
theorem def_raiseq {d : DefR} {Ph : Nat → List D → Sto → R D} {ds : List D} {c : Nat} (ha : ds.length = d.arity) (hf : d.frz = true)
    (h : (d.body Ph (startD d.slots ds) st).wq (fun _ _ => False) (fun _ _ => False) (fun k _ t => k = c ∧ t = st)) : runDef d Ph ds st = .exc c st := by
  refine (def_wq (P := fun _ _ => False) (X := fun k t => k = c ∧ t = st) ha hf (h.mono (fun _ _ z => z.elim) (fun u t z => z.elim) (fun k _ t z => ?_))).exq
  obtain ⟨rfl, rfl⟩ := z
  exact ⟨rfl, cutSt_refl⟩
end
@[irreducible] def R.wp {α : Type} (r : R α) (Q : α → Sto → Prop) (X : Nat → Sto → Prop) : Prop := r.wq Q X
@[irreducible] def SR.wp (r : SR) (N : DEnv → Sto → Prop) (T : D → Sto → Prop) (X : Nat → DEnv → Sto → Prop) : Prop := r.wq N T X
theorem wp_eq {α : Type} {r : R α} {Q : α → Sto → Prop} {X : Nat → Sto → Prop} : r.wp Q X = r.wq Q X := by unfold R.wp; rfl
theorem swp_eq {r : SR} {N : DEnv → Sto → Prop} {T : D → Sto → Prop} {X : Nat → DEnv → Sto → Prop} : r.wp N T X = r.wq N T X := by unfold SR.wp; rfl
section
variable {α β : Type} {Q : α → Sto → Prop} {X : Nat → Sto → Prop} {P : D → Sto → Prop} {env : DEnv} {st : Sto} {N : DEnv → Sto → Prop} {T : D → Sto → Prop} {Y : Nat → DEnv → Sto → Prop}
theorem R.wp.mono {r : R α} {Q' : α → Sto → Prop} {X' : Nat → Sto → Prop} (h : r.wp Q X) (f : ∀ a st, Q a st → Q' a st) (g : ∀ c st, X c st → X' c st) : r.wp Q' X' := by
  rw [wp_eq] at h ⊢
  exact R.wq.mono h f g
theorem SR.wp.mono {r : SR} {N' : DEnv → Sto → Prop} {T' : D → Sto → Prop} {Y' : Nat → DEnv → Sto → Prop} (h : r.wp N T Y) (f : ∀ e st, N e st → N' e st) (g : ∀ d st, T d st → T' d st) (k : ∀ c e st, Y c e st → Y' c e st) : r.wp N' T' Y' := by
  rw [swp_eq] at h ⊢
  exact SR.wq.mono h f g k
theorem R.wp.get {r : R α} (h : r.wp Q nX) : ∃ a st, r = .ok a st ∧ Q a st := by
  rw [wp_eq] at h
  exact R.wq.get h
theorem R.wp.eq {r : R α} {a : α} {s : Sto} (h : r.wp (fun b t => b = a ∧ t = s) nX) : r = .ok a s := by
  rw [wp_eq] at h
  exact R.wq.eq h
theorem R.wp.exq {r : R α} {c : Nat} {s : Sto} (h : r.wp (fun _ _ => False) (fun b t => b = c ∧ t = s)) : r = .exc c s := by
  rw [wp_eq] at h
  exact R.wq.exq h
theorem SR.wp.rt {r : SR} {P : D → Prop} (h : r.wp (fun _ _ => False) (fun v _ => P v) nXS) : ∃ v st, r = .rt v st ∧ P v := by
  rw [swp_eq] at h
  cases r with
  | rt v st => exact ⟨v, st, rfl, h⟩
  | nx e st => exact h.elim
  | exc c e st => exact h.elim
  | bk e st => exact h.elim
  | ct e st => exact h.elim
  | stuck => exact h.elim
theorem w_ok {a : α} : (R.ok a st).wp Q X ↔ Q a st := by
  simp only [wp_eq, swp_eq]
  exact q_ok
theorem w_exc {c : Nat} : (R.exc c st : R α).wp Q X ↔ X c st := by
  simp only [wp_eq, swp_eq]
  exact q_exc
theorem w_C {d : D} : (mC d env st).wp P X ↔ P d st := by
  simp only [wp_eq, swp_eq]
  exact q_C
theorem w_bin {f : D → D → Sto → R D} {a b : ME} : (mBin f a b env st).wp P X ↔ (a env st).wp (fun x st => (b env st).wp (fun y st => (f x y st).wp P X) X) X := by
  simp only [wp_eq, swp_eq]
  exact q_bin
theorem w_neg {a : ME} : (mNeg a env st).wp P X ↔ (a env st).wp (fun x st => match x with | .int i => P (.int (-i)) st | _ => False) X := by
  simp only [wp_eq, swp_eq]
  exact q_neg
theorem w_and {a b : ME} : (mAnd a b env st).wp P X ↔ (a env st).wp (fun x st => onBool x ((b env st).wp P X) (P (.bl false) st)) X := by
  simp only [wp_eq, swp_eq]
  exact q_and
theorem w_or {a b : ME} : (mOr a b env st).wp P X ↔ (a env st).wp (fun x st => onBool x (P (.bl true) st) ((b env st).wp P X)) X := by
  simp only [wp_eq, swp_eq]
  exact q_or
theorem w_not {a : ME} : (mNot a env st).wp P X ↔ (a env st).wp (fun x st => onBool x (P (.bl false) st) (P (.bl true) st)) X := by
  simp only [wp_eq, swp_eq]
  exact q_not
theorem w_ifE {c a b : ME} : (mIfE c a b env st).wp P X ↔ (c env st).wp (fun x st => onTruth st x ((a env st).wp P X) ((b env st).wp P X)) X := by
  simp only [wp_eq, swp_eq]
  exact q_ifE
theorem w_args0 {L : List D → Sto → Prop} : (mArgs [] env st).wp L X ↔ L [] st := by
  simp only [wp_eq, swp_eq]
  exact q_args0
theorem w_args {e : ME} {es : List ME} {L : List D → Sto → Prop} : (mArgs (e :: es) env st).wp L X ↔ (e env st).wp (fun d st => (mArgs es env st).wp (fun ds st => L (d :: ds) st) X) X := by
  simp only [wp_eq, swp_eq]
  exact q_args
theorem w_tup {es : List ME} (h : es.length ≤ 16777216) : (mTup es env st).wp P X ↔ (mArgs es env st).wp (fun ds st => P (.tup ds) st) X := by
  simp only [wp_eq, swp_eq]
  exact q_tup h
theorem w_lst {es : List ME} (h : es.length ≤ 16777216) : (mLst es env st).wp P X ↔ (mArgs es env st).wp (fun ds st => P (.lst ds) st) X := by
  simp only [wp_eq, swp_eq]
  exact q_lst h
theorem w_new {es : List ME} (h : es.length ≤ 16777216) : (mNew es env st).wp P X ↔ (mArgs es env st).wp (fun ds st => P (.ref st.length) (st ++ [.lst ds])) X := by
  simp only [wp_eq, swp_eq]
  exact q_new h
theorem w_call {f : List D → Sto → R D} {es : List ME} : (mCall f es env st).wp P X ↔ (mArgs es env st).wp (fun ds st => (f ds st).wp P X) X := by
  simp only [wp_eq, swp_eq]
  exact q_call
theorem w_isI {t : String} {a : ME} : (mIsI t a env st).wp P X ↔ (a env st).wp (fun x st => (isInst t x st).wp P X) X := by
  simp only [wp_eq, swp_eq]
  exact q_isI
theorem w_chain {f g : D → D → Sto → R D} {a b c : ME} : (mChain f g a b c env st).wp P X ↔ (a env st).wp (fun x st => (b env st).wp (fun y st => (f x y st).wp (fun z st => onBool z ((c env st).wp (fun w st => (g y w st).wp P X) X) (P (.bl false) st)) X) X) X := by
  simp only [wp_eq, swp_eq]
  exact q_chain
theorem w_opt0 {L : Option Int → Sto → Prop} : (mOpt none env st).wp L X ↔ L none st := by
  simp only [wp_eq, swp_eq]
  exact q_opt0
theorem w_opt {a : ME} {L : Option Int → Sto → Prop} : (mOpt (some a) env st).wp L X ↔ (a env st).wp (fun x st => match x with | .int i => L (some i) st | _ => False) X := by
  simp only [wp_eq, swp_eq]
  exact q_opt
theorem w_sl {a : ME} {lo hi : Option ME} : (mSl a lo hi env st).wp P X ↔ (a env st).wp (fun x st => (mOpt lo env st).wp (fun i st => (mOpt hi env st).wp (fun j st => (opSl x i j st).wp P X) X) X) X := by
  simp only [wp_eq, swp_eq]
  exact q_sl
theorem w_st {a : ME} {lo hi k : Option ME} : (mSt a lo hi k env st).wp P X ↔ (a env st).wp (fun x st => (mOpt lo env st).wp (fun i st => (mOpt hi env st).wp (fun j st => (mOpt k env st).wp (fun k st => (opSt x i j k st).wp P X) X) X) X) X := by
  simp only [wp_eq, swp_eq]
  exact q_st
theorem w_methL {f : D → List D → Sto → R D} {o : ME} {es : List ME} : (mMethL f o es env st).wp P X ↔ (o env st).wp (fun d st => isLst st d = true ∧ (mArgs es env st).wp (fun ds st => (f d ds st).wp P X) X) X := by
  simp only [wp_eq, swp_eq]
  exact q_methL
theorem w_methS {f : D → List D → Sto → R D} {o : ME} {es : List ME} : (mMethS f o es env st).wp P X ↔ (o env st).wp (fun d st => isStrD d = true ∧ (mArgs es env st).wp (fun ds st => (f d ds st).wp P X) X) X := by
  simp only [wp_eq, swp_eq]
  exact q_methS
theorem w_if {c : Prop} [Decidable c] {r : R α} : (if c then r else .stuck).wp Q X ↔ c ∧ r.wp Q X := by
  simp only [wp_eq, swp_eq]
  exact q_if
theorem w_add {i j : Int} : (opAdd (.int i) (.int j) st).wp P X ↔ P (.int (i + j)) st := by
  simp only [wp_eq, swp_eq]
  exact q_add
theorem w_addT {a b : List D} : (opAdd (.tup a) (.tup b) st).wp P X ↔ a.length + b.length ≤ sizeLine ∧ P (.tup (a ++ b)) st := by
  simp only [wp_eq, swp_eq]
  exact q_addT
theorem w_addL {a b : List D} : (opAdd (.lst a) (.lst b) st).wp P X ↔ a.length + b.length ≤ sizeLine ∧ P (.lst (a ++ b)) st := by
  simp only [wp_eq, swp_eq]
  exact q_addL
theorem w_addS {a b : Str} : (opAdd (.str a) (.str b) st).wp P X ↔ a.length + b.length ≤ sizeLine ∧ P (.str (a ++ b)) st := by
  simp only [wp_eq, swp_eq]
  exact q_addS
theorem w_sub {i j : Int} : (opSub (.int i) (.int j) st).wp P X ↔ P (.int (i - j)) st := by
  simp only [wp_eq, swp_eq]
  exact q_sub
theorem w_mul {i j : Int} : (opMul (.int i) (.int j) st).wp P X ↔ mulOk i j ∧ P (.int (i * j)) st := by
  simp only [wp_eq, swp_eq]
  exact q_mul
theorem w_mod {i j : Int} : (opMod (.int i) (.int j) st).wp P X ↔ 0 < j ∧ P (.int (i % j)) st := by
  simp only [wp_eq, swp_eq]
  exact q_mod
theorem w_div {i j : Int} : (opDiv (.int i) (.int j) st).wp P X ↔ CDivW i j ∧ P (.int (i / j)) st := by
  simp only [wp_eq, swp_eq]
  exact q_div
theorem w_pow {i j : Int} : (opPow (.int i) (.int j) st).wp P X ↔ CPow i j ∧ P (.int (i ^ j.toNat)) st := by
  simp only [wp_eq, swp_eq]
  exact q_pow
theorem w_lt {i j : Int} : (opLt (.int i) (.int j) st).wp P X ↔ P (.bl (decide (i < j))) st := by
  simp only [wp_eq, swp_eq]
  exact q_lt
theorem w_le {i j : Int} : (opLe (.int i) (.int j) st).wp P X ↔ P (.bl (decide (i ≤ j))) st := by
  simp only [wp_eq, swp_eq]
  exact q_le
theorem w_gt {i j : Int} : (opGt (.int i) (.int j) st).wp P X ↔ P (.bl (decide (j < i))) st := by
  simp only [wp_eq, swp_eq]
  exact q_gt
theorem w_ge {i j : Int} : (opGe (.int i) (.int j) st).wp P X ↔ P (.bl (decide (j ≤ i))) st := by
  simp only [wp_eq, swp_eq]
  exact q_ge
theorem w_eq {i j : Int} : (opEq (.int i) (.int j) st).wp P X ↔ P (.bl (decide (i = j))) st := by
  simp only [wp_eq, swp_eq]
  exact q_eq
theorem w_ne {i j : Int} : (opNe (.int i) (.int j) st).wp P X ↔ P (.bl (!decide (i = j))) st := by
  simp only [wp_eq, swp_eq]
  exact q_ne
theorem w_eqB {i j : Bool} : (opEq (.bl i) (.bl j) st).wp P X ↔ P (.bl (decide (i = j))) st := by
  simp only [wp_eq, swp_eq]
  exact q_eqB
theorem w_neB {i j : Bool} : (opNe (.bl i) (.bl j) st).wp P X ↔ P (.bl (!decide (i = j))) st := by
  simp only [wp_eq, swp_eq]
  exact q_neB
theorem w_isB {i j : Bool} : (opIs (.bl i) (.bl j) st).wp P X ↔ P (.bl (decide (i = j))) st := by
  simp only [wp_eq, swp_eq]
  exact q_isB
theorem w_isNB {i j : Bool} : (opIsNot (.bl i) (.bl j) st).wp P X ↔ P (.bl (!decide (i = j))) st := by
  simp only [wp_eq, swp_eq]
  exact q_isNB
theorem w_lenT {ds : List D} : (bLen [.tup ds] st).wp P X ↔ P (.int ds.length) st := by
  simp only [wp_eq, swp_eq]
  exact q_lenT
theorem w_lenL {ds : List D} : (bLen [.lst ds] st).wp P X ↔ P (.int ds.length) st := by
  simp only [wp_eq, swp_eq]
  exact q_lenL
theorem w_tupL {ds : List D} : (bTuple [.lst ds] st).wp P X ↔ P (.tup ds) st := by
  simp only [wp_eq, swp_eq]
  exact q_tupL
theorem w_tupT {ds : List D} : (bTuple [.tup ds] st).wp P X ↔ P (.tup ds) st := by
  simp only [wp_eq, swp_eq]
  exact q_tupT
theorem w_listT {ds : List D} : (bList [.tup ds] st).wp P X ↔ P (.lst ds) st := by
  simp only [wp_eq, swp_eq]
  exact q_listT
theorem w_listL {ds : List D} : (bList [.lst ds] st).wp P X ↔ P (.lst ds) st := by
  simp only [wp_eq, swp_eq]
  exact q_listL
theorem w_ixT {ds : List D} {i : Int} : (opIx (.tup ds) (.int i) st).wp P X ↔ ∃ d, atI ds i = some d ∧ P d st := by
  simp only [wp_eq, swp_eq]
  exact q_ixT
theorem w_ixL {ds : List D} {i : Int} : (opIx (.lst ds) (.int i) st).wp P X ↔ ∃ d, atI ds i = some d ∧ P d st := by
  simp only [wp_eq, swp_eq]
  exact q_ixL
theorem w_slT {ds : List D} {lo hi : Option Int} : (opSl (.tup ds) lo hi st).wp P X ↔ P (.tup (cutL ds lo hi)) st := by
  simp only [wp_eq, swp_eq]
  exact q_slT
theorem w_slL {ds : List D} {lo hi : Option Int} : (opSl (.lst ds) lo hi st).wp P X ↔ P (.lst (cutL ds lo hi)) st := by
  simp only [wp_eq, swp_eq]
  exact q_slL
theorem w_stT {ds : List D} {lo hi : Option Int} {k : Int} : (opSt (.tup ds) lo hi (some k) st).wp P X ↔ (k ≠ 0 ∧ k ≠ 1 ∧ (stepL ds lo hi k).length ≤ sizeLine) ∧ P (.tup (stepL ds lo hi k)) st := by
  simp only [wp_eq, swp_eq]
  exact q_stT
theorem w_seq {a b : MS} : (sSeq a b env st).wp N T Y ↔ (a env st).wp (fun e s => (b e s).wp N T Y) T Y := by
  simp only [wp_eq, swp_eq]
  exact q_seq
theorem w_skip : (sSkip env st).wp N T Y ↔ N env st := by
  simp only [wp_eq, swp_eq]
  exact q_skip
theorem w_asg {e : ME} {i : Nat} : (sAsg e (gVar i) env st).wp N T Y ↔ (e env st).wp (fun d s => N (env.set i (some d)) s) (fun c s => Y c env s) := by
  simp only [wp_eq, swp_eq]
  exact q_asg
theorem w_asgT {e : ME} {is : List Nat} : (sAsg e (gTupV is) env st).wp N T Y ↔ (e env st).wp (fun d s => ∃ env', gTupV is d env = some env' ∧ N env' s) (fun c s => Y c env s) := by
  simp only [wp_eq, swp_eq]
  exact q_asgT
theorem w_expr {e : ME} : (sExpr e env st).wp N T Y ↔ (e env st).wp (fun _ s => N env s) (fun c s => Y c env s) := by
  simp only [wp_eq, swp_eq]
  exact q_expr
theorem w_ret {e : ME} : (sRet e env st).wp N T Y ↔ (e env st).wp T (fun c s => Y c env s) := by
  simp only [wp_eq, swp_eq]
  exact q_ret
theorem w_sIf {c : ME} {a b : MS} : (sIf c a b env st).wp N T Y ↔ (c env st).wp (fun x s => onTruth s x ((a env s).wp N T Y) ((b env s).wp N T Y)) (fun k s => Y k env s) := by
  simp only [wp_eq, swp_eq]
  exact q_sIf
theorem w_raise {c : Nat} : (sRaise c env st).wp N T Y ↔ Y c env st := by
  simp only [wp_eq, swp_eq]
  exact q_raise
theorem w_for {it : MIt} {g : MG} {b : MS} : (sFor it g b env st).wp N T Y ↔ (it env st).wp (fun s t => (forGo s g b s.items env t).wp N T Y) (fun c s => Y c env s) := by
  simp only [wp_eq, swp_eq]
  exact q_for
theorem w_set {o i e : ME} : (sSet o i e env st).wp N T Y ↔ (e env st).wp (fun d st => (o env st).wp (fun x st => (i env st).wp (fun y st => (setAt x y d st).wp (fun _ s => N env s) (fun c s => Y c env s)) (fun c s => Y c env s)) (fun c s => Y c env s)) (fun c s => Y c env s) := by
  simp only [wp_eq, swp_eq]
  exact q_set
theorem w_try {sub : Nat → Nat → Bool} {b : MS} {hs : List (Nat × MS)} : (sTry sub b hs env st).wp N T Y ↔ (b env st).wp N T (fun c e s => (sTry.pick sub c e s hs).wp N T Y) := by
  simp only [wp_eq, swp_eq]
  exact q_try
theorem w_pick0 {sub : Nat → Nat → Bool} {c : Nat} : (sTry.pick sub c env st []).wp N T Y ↔ Y c env st := by
  simp only [wp_eq, swp_eq]
  exact q_pick0
theorem w_pick {sub : Nat → Nat → Bool} {c h : Nat} {s : MS} {hs : List (Nat × MS)} : (sTry.pick sub c env st ((h, s) :: hs)).wp N T Y ↔ (sub c h = true → (s env st).wp N T Y) ∧ (sub c h = false → (sTry.pick sub c env st hs).wp N T Y) := by
  simp only [wp_eq, swp_eq]
  exact q_pick
theorem fz_same {v : D} {s : Sto} (h : s.length = st.length) : (freeze st v s).wp P X ↔ P v s := by
  simp only [wp_eq, swp_eq]
  exact fz_sameq h
theorem for_wp {s : Src} {g : MG} {b : MS} (I : Nat → DEnv → Sto → Prop) (ds : List D) {env : DEnv} {st : Sto} (h0 : I 0 env st)
    (step : ∀ i d env st, ds[i]? = some d → I i env st → ∃ env', g d env = some env' ∧ (b env' st).wp (fun e t => s.holds t ∧ I (i + 1) e t) T Y) (fin : ∀ env st, I ds.length env st → N env st) : (forGo s g b ds env st).wp N T Y := by
  rw [swp_eq]
  refine for_wq I ds h0 (fun i d env st a b => ?_) fin
  obtain ⟨env', h1, h2⟩ := step i d env st a b
  rw [swp_eq] at h2
  exact ⟨env', h1, h2⟩
theorem while_wp {c : ME} {b : MS} (I : Nat → DEnv → Sto → Prop)
    (step : ∀ k env st, I k env st → (c env st).wp (fun x s => onTruth s x ((b env s).wp (fun e t => ∃ k', k' < k ∧ I k' e t) T Y) (N env s)) (fun k s => Y k env s)) (f k : Nat) (env : DEnv) (st : Sto) (hk : k < f) (hi : I k env st) : (sWhile c b f env st).wp N T Y := by
  rw [swp_eq]
  refine while_wq I (fun k env st h => ?_) f k env st hk hi
  have h2 := step k env st h
  simp only [wp_eq, swp_eq] at h2
  exact h2
theorem def_wp {d : DefR} {Ph : Nat → List D → Sto → R D} {ds : List D} (ha : ds.length = d.arity) (hf : d.frz = true)
    (h : (d.body Ph (startD d.slots ds) st).wp (fun _ t => P .non (cutSt st t)) (fun v t => (freeze st v t).wp P X) (fun c _ t => X c (cutSt st t))) : (runDef d Ph ds st).wp P X := by
  simp only [wp_eq, swp_eq] at h ⊢
  exact def_wq ha hf h
theorem def_pure {d : DefR} {Ph : Nat → List D → Sto → R D} {ds : List D} {v : D} (ha : ds.length = d.arity) (hf : d.frz = true)
    (h : (d.body Ph (startD d.slots ds) st).wp (fun _ _ => False) (fun u t => u = v ∧ t = st) nXS) : runDef d Ph ds st = .ok v st := by
  rw [swp_eq] at h
  exact def_pureq ha hf h
theorem def_raise {d : DefR} {Ph : Nat → List D → Sto → R D} {ds : List D} {c : Nat} (ha : ds.length = d.arity) (hf : d.frz = true)
    (h : (d.body Ph (startD d.slots ds) st).wp (fun _ _ => False) (fun _ _ => False) (fun k _ t => k = c ∧ t = st)) : runDef d Ph ds st = .exc c st := by
  rw [swp_eq] at h
  exact def_raiseq ha hf h
end
def alt {α : Type} : List α → List α
  | [] => []
  | [x] => [x]
  | x :: _ :: r => x :: alt r
theorem atI0 {α : Type} (x : α) (r : List α) : atI (x :: r) 0 = some x := atN (n := 0) rfl
theorem atI1 {α : Type} (x y : α) (r : List α) : atI (x :: y :: r) 1 = some y := atN (n := 1) rfl
theorem atI2 {α : Type} (x y z : α) (r : List α) : atI (x :: y :: z :: r) 2 = some z := atN (n := 2) rfl
theorem small_le {n : Nat} (h : n ≤ 1000000) : n ≤ sizeLine := sizeLine_ge (by omega)
theorem divOk {i : Int} {j : Int} (h : CDivW 0 j) : CDivW i j := h
theorem mul_small {i j : Int} (h0 : 0 ≤ j) (h1 : j < 10000000000) : mulOk i j := mulOk_r (by omega) (by omega)
theorem comp_all {it : MIt} {vs : List Nat} {g : MG} {e : ME} {env : DEnv} {st : Sto} {P : D → Sto → Prop} {X Y : Nat → Sto → Prop} (ds : List D) (p : D → Bool) (hi : it env st = .ok (.vals ds) st) (hl : ds.length ≤ 1000000)
    (h : ∀ d ∈ ds, ∃ env', g d (wipeD env vs) = some env' ∧ (e env' st).wp (fun x t => x = .bl (p d) ∧ t = st) nX) (q : P (.bl (ds.all p)) st) : (mComp it vs g none e env st).wp (fun d st => (bAll [d] st).wp P X) Y := by
  have h1 := mComp_map (vs := vs) (g := g) (e := e) (fun d => .bl (p d)) hi (fun d hd => let ⟨env', a, b⟩ := h d hd; ⟨env', a, b.eq⟩) (by omega)
  rw [h1, w_ok, bAll_map]
  exact w_ok.mpr q
def NextOk (f : List D → Sto → R D) : Prop := ∀ (l : Nat) (st : Sto) (ds : List Int), st[l]? = some (.lst (ds.map .int)) → InD ds → ∃ x ds', 0 ≤ x ∧ x < 2147483629 ∧ InD ds' ∧ f [.ref l] st = .ok (.int x) (st.set l (.lst (ds'.map .int)))
theorem next_at {f : List D → Sto → R D} (h : NextOk f) {ds : List Int} {tl : Sto} (hd : InD ds) : ∃ x ds', 0 ≤ x ∧ x < 2147483629 ∧ InD ds' ∧ f [.ref 0] (.lst (ds.map .int) :: tl) = .ok (.int x) (.lst (ds'.map .int) :: tl) := by
  obtain ⟨x, ds', h0, h1, h2, h3⟩ := h 0 (.lst (ds.map .int) :: tl) ds rfl hd
  exact ⟨x, ds', h0, h1, h2, h3⟩
theorem next_wp {f : List D → Sto → R D} (h : NextOk f) {ds : List Int} {tl : Sto} {P : D → Sto → Prop} {X : Nat → Sto → Prop} (hd : InD ds) (q : ∀ x ds', 0 ≤ x → x < 2147483629 → InD ds' → P (.int x) (.lst (ds'.map .int) :: tl)) : (f [.ref 0] (.lst (ds.map .int) :: tl)).wp P X := by
  obtain ⟨x, ds', h0, h1, h2, h3⟩ := next_at h (tl := tl) hd
  rw [h3]
  exact w_ok.mpr (q x ds' h0 h1 h2)
theorem next_def {Ph : Nat → List D → Sto → R D} : NextOk (runDef ⟨1, 1, true, gNext⟩ Ph) := fun l st ds hs hd => next_ok hs hd
theorem draws_def {Ph : Nat → List D → Sto → R D} {im F : Nat} (hF : 1000 ≤ F) {ns : List Int} (hm : ∀ (c k : Int) (st : Sto), 0 ≤ k → k < 1000 → Ph im [.int c, .int k] st = .ok (.int (mixedZ c k)) st) :
    ∃ ds, InD ds ∧ runDef ⟨1, 5, false, gDraws im F⟩ Ph [.fz (ns.map .int)] [] = .ok (.ref 0) [.lst (ds.map .int)] := by
  obtain ⟨ds, h1, h2⟩ := draws_body (F := F) (im := im) (st := []) (ns := ns) hF hm
  exact ⟨ds, h1, runDef_raw rfl rfl h2⟩
theorem max_le {a b : Int} {r : List Int} : r.foldl max a ≤ b ↔ ∀ i ∈ a :: r, i ≤ b := by
  constructor
  · intro h i hi
    rcases List.mem_cons.mp hi with rfl | hi
    · exact Int.le_trans (foldl_max_ge r i).1 h
    · exact Int.le_trans ((foldl_max_ge r a).2 i hi) h
  · intro h
    exact h _ (foldl_max_mem r a)
end MI
namespace LK01
open PySem PySem.Spec PyProof.Rows L2 MI
def topS (i : Nat) : Stmt := PySem.Challenge.pw_snapshelf_k01_codes.main.body.getD i (.Pass ⟨0, 0, 0, 0⟩)
def ocl0 : List (Str × List Str × List (Str × Nat)) := []
def G_LETTERS : D := .str (⟨#[97, 98, 99, 100, 101, 102, 103, 104, 105, 106, 107, 108, 109, 110, 111, 112, 113, 114, 115, 116, 117, 118, 119, 120, 121, 122]⟩ : Str)
def G_MOST_SIGNS : D := .int 8
def Sub (a b : Nat) : Bool := match min a 0, min b 0 with
  | 0, 0 => true
  | _, _ => true
def EXV : List Str := ["NoName", "NoView", "NoDeed", "NoThing", "Taken", "TooMany", "TooDeep", "Within", "NoLeaf", "NoRoom", "NoHouse", "NoSnap", "NoEntry", "Full", "Lost", "NoDisk", "NoSent", "Other", "NotOpen", "NoWord"]
def TR_NoName : List Str := ["NoName"]
def TR_NoView : List Str := ["NoView"]
def TR_NoDeed : List Str := ["NoDeed"]
def TR_NoThing : List Str := ["NoThing"]
def TR_Taken : List Str := ["Taken"]
def TR_TooMany : List Str := ["TooMany"]
def TR_TooDeep : List Str := ["TooDeep"]
def TR_Within : List Str := ["Within"]
def TR_NoLeaf : List Str := ["NoLeaf"]
def TR_NoRoom : List Str := ["NoRoom"]
def TR_NoHouse : List Str := ["NoHouse"]
def TR_NoSnap : List Str := ["NoSnap"]
def TR_NoEntry : List Str := ["NoEntry"]
def TR_Full : List Str := ["Full"]
def TR_Lost : List Str := ["Lost"]
def TR_NoDisk : List Str := ["NoDisk"]
def TR_NoSent : List Str := ["NoSent"]
def TR_Other : List Str := ["Other"]
def TR_NotOpen : List Str := ["NotOpen"]
def TR_NoWord : List Str := ["NoWord"]
def TR_ShelfError : List Str := ["NoName", "NoView", "NoDeed", "NoThing", "Taken", "TooMany", "TooDeep", "Within", "NoLeaf", "NoRoom", "NoHouse", "NoSnap", "NoEntry", "Full", "Lost", "NoDisk", "NoSent", "Other", "NotOpen", "NoWord"]
def TR_ValueError : List Str := ["NoName", "NoView", "NoDeed", "NoThing", "Taken", "TooMany", "TooDeep", "Within", "NoLeaf", "NoRoom", "NoHouse", "NoSnap", "NoEntry", "Full", "Lost", "NoDisk", "NoSent", "Other", "NotOpen", "NoWord"]
noncomputable def b_is_name (Ph : Nat → List D → Sto → R D) : MS := (sSeq (sIf (mOr (mNot (mIsI "str" (mVar 0))) (mOr (mBin opEq (mVar 0) (mC (.str (⟨#[]⟩ : Str)))) (mBin opGt (mCall bLen [(mVar 0)]) (mC G_MOST_SIGNS))))
    (sSeq (sRet (mC (.bl false)))
  sSkip)
    sSkip)
  (sSeq (sRet (mCall bAll [(mComp (iSeq (mVar 0)) [1] (gVar 1) none (mBin opIn (mVar 1) (mC G_LETTERS)))]))
  sSkip))
noncomputable def d_is_name : DefR := ⟨1, 2, true, b_is_name⟩
noncomputable def b_code_of (Ph : Nat → List D → Sto → R D) : MS := (sSeq (sIf (mNot (mCall (Ph 0) [(mVar 0)]))
    (sSeq (sRaise 0)
  sSkip)
    sSkip)
  (sSeq (sAsg (mC (.int 0)) (gVar 1))
  (sSeq (sFor (iSeq (mVar 0)) (gVar 2)
    (sSeq (sAsg (mBin opAdd (mBin opAdd (mBin opMul (mVar 1) (mC (.int 27))) (mMethS mIndexS (mC G_LETTERS) [(mVar 2)])) (mC (.int 1))) (gVar 1))
  sSkip))
  (sSeq (sRet (mVar 1))
  sSkip))))
noncomputable def d_code_of : DefR := ⟨1, 3, true, b_code_of⟩
noncomputable def b_name_of (Ph : Nat → List D → Sto → R D) : MS := (sSeq (sIf (mOr (mNot (mIsI "int" (mVar 0))) (mOr (mIsI "bool" (mVar 0)) (mOr (mBin opLt (mVar 0) (mC (.int 1))) (mBin opGe (mVar 0) (mBin opPow (mC (.int 27)) (mC (.int 8)))))))
    (sSeq (sRaise 0)
  sSkip)
    sSkip)
  (sSeq (sAsg (mC (.str (⟨#[]⟩ : Str))) (gVar 1))
  (sSeq (sWhile (mBin opGt (mVar 0) (mC (.int 0)))
    (sSeq (sIf (mBin opEq (mBin opMod (mVar 0) (mC (.int 27))) (mC (.int 0)))
    (sSeq (sRaise 0)
  sSkip)
    sSkip)
  (sSeq (sAsg (mBin opAdd (mBin opIx (mC G_LETTERS) (mBin opSub (mBin opMod (mVar 0) (mC (.int 27))) (mC (.int 1)))) (mVar 1)) (gVar 1))
  (sSeq (sAsg (mBin opDiv (mVar 0) (mC (.int 27))) (gVar 0))
  sSkip))) 1000)
  (sSeq (sRet (mVar 1))
  sSkip))))
noncomputable def d_name_of : DefR := ⟨1, 2, true, b_name_of⟩
noncomputable def b__law_mixed (Ph : Nat → List D → Sto → R D) : MS := (sSeq (sAsg (mBin opMod (mBin opAdd (mBin opAdd (mBin opMul (mBin opMod (mVar 0) (mC (.int 2147483647))) (mC (.int 48271))) (mBin opMul (mBin opMul (mC (.int 7919)) (mVar 1)) (mVar 1))) (mC (.int 104729))) (mC (.int 2147483647))) (gVar 2))
  (sSeq (sRet (mBin opMod (mBin opMul (mVar 2) (mVar 2)) (mC (.int 2147483629))))
  sSkip))
noncomputable def d__law_mixed : DefR := ⟨2, 3, true, b__law_mixed⟩
noncomputable def b__law_draws (Ph : Nat → List D → Sto → R D) : MS := (sSeq (sAsg (mNew []) (gVar 1))
  (sSeq (sFor (iRange1 (mCall bMin [(mCall bLen [(mVar 0)]), (mC (.int 63))])) (gVar 2)
    (sSeq (sAsg (mCall bAbs [(mBin opIx (mVar 0) (mVar 2))]) (gVar 3))
  (sSeq (sIf (mBin opLt (mVar 3) (mBin opPow (mC (.int 10)) (mC (.int 18))))
    (sSeq (sFor (iRange1 (mC (.int 12))) (gVar 4)
    (sSeq (sExpr (mMethL mAppend (mVar 1) [(mCall (Ph 3) [(mCall (Ph 3) [(mVar 3), (mBin opAdd (mBin opMul (mC (.int 3)) (mVar 4)) (mC (.int 1)))]), (mBin opAdd (mBin opAdd (mVar 4) (mVar 2)) (mC (.int 2)))])]))
  sSkip))
  sSkip)
    sSkip)
  (sSeq (sWhile (mAnd (mBin opGe (mVar 3) (mBin opPow (mC (.int 10)) (mC (.int 18)))) (mBin opLt (mCall bLen [(mVar 1)]) (mC (.int 900))))
    (sSeq (sExpr (mMethL mAppend (mVar 1) [(mBin opMod (mVar 3) (mC (.int 2147483629)))]))
  (sSeq (sAsg (mBin opDiv (mVar 3) (mC (.int 2147483629))) (gVar 3))
  sSkip)) 1000)
  (sSeq (sIf (mBin opGe (mVar 3) (mC (.int 2147483629)))
    (sSeq (sExpr (mMethL mAppend (mVar 1) [(mBin opMod (mVar 3) (mC (.int 2147483629)))]))
  sSkip)
    sSkip)
  sSkip)))))
  (sSeq (sRet (mVar 1))
  sSkip)))
noncomputable def d__law_draws : DefR := ⟨1, 5, false, b__law_draws⟩
noncomputable def b__law_next (Ph : Nat → List D → Sto → R D) : MS := (sSeq (sIf (mBin opEq (mVar 0) (mLst []))
    (sSeq (sRet (mC (.int 0)))
  sSkip)
    sSkip)
  (sSeq (sRet (mMethL mPop (mVar 0) [(mC (.int 0))]))
  sSkip))
noncomputable def d__law_next : DefR := ⟨1, 1, true, b__law_next⟩
noncomputable def b__law_code (Ph : Nat → List D → Sto → R D) : MS := (sSeq (sAsg (mC (.int 0)) (gVar 1))
  (sSeq (sFor (iSeq (mVar 0)) (gVar 2)
    (sSeq (sAsg (mBin opSub (mBin opAdd (mBin opMul (mVar 1) (mC (.int 27))) (mCall bOrd [(mVar 2)])) (mC (.int 96))) (gVar 1))
  sSkip))
  (sSeq (sRet (mVar 1))
  sSkip)))
noncomputable def d__law_code : DefR := ⟨1, 3, true, b__law_code⟩
noncomputable def b__law_word (Ph : Nat → List D → Sto → R D) : MS := (sSeq (sAsg (mC (.str (⟨#[97, 98, 99, 100, 101, 102, 103, 104, 105, 106, 107, 108, 109, 110, 111, 112, 113, 114, 115, 116, 117, 118, 119, 120, 121, 122]⟩ : Str))) (gVar 1))
  (sSeq (sAsg (mC (.str (⟨#[]⟩ : Str))) (gVar 2))
  (sSeq (sFor (iRange1 (mBin opAdd (mC (.int 1)) (mBin opMod (mVar 0) (mC (.int 8))))) (gVar 3)
    (sSeq (sAsg (mBin opDiv (mVar 0) (mC (.int 8))) (gVar 0))
  (sSeq (sAsg (mBin opAdd (mVar 2) (mBin opIx (mVar 1) (mBin opMod (mBin opMul (mVar 0) (mBin opAdd (mVar 3) (mC (.int 1)))) (mC (.int 26))))) (gVar 2))
  (sSeq (sAsg (mBin opDiv (mVar 0) (mC (.int 3))) (gVar 0))
  sSkip))))
  (sSeq (sRet (mVar 2))
  sSkip))))
noncomputable def d__law_word : DefR := ⟨1, 4, true, b__law_word⟩
noncomputable def b__law_is_code (Ph : Nat → List D → Sto → R D) : MS := (sSeq (sIf (mOr (mBin opLt (mVar 0) (mC (.int 1))) (mBin opGe (mVar 0) (mBin opPow (mC (.int 27)) (mC (.int 8)))))
    (sSeq (sRet (mC (.bl false)))
  sSkip)
    sSkip)
  (sSeq (sWhile (mBin opGt (mVar 0) (mC (.int 0)))
    (sSeq (sIf (mBin opEq (mBin opMod (mVar 0) (mC (.int 27))) (mC (.int 0)))
    (sSeq (sRet (mC (.bl false)))
  sSkip)
    sSkip)
  (sSeq (sAsg (mBin opDiv (mVar 0) (mC (.int 27))) (gVar 0))
  sSkip)) 1000)
  (sSeq (sRet (mC (.bl true)))
  sSkip)))
noncomputable def d__law_is_code : DefR := ⟨1, 1, true, b__law_is_code⟩
noncomputable def b__law_refuses_name (Ph : Nat → List D → Sto → R D) : MS := (sSeq (sTry Sub (sSeq (sExpr (mCall (Ph 1) [(mVar 0)]))
  sSkip) [(0, (sSeq (sRet (mC (.bl true)))
  sSkip))])
  (sSeq (sRet (mC (.bl false)))
  sSkip))
noncomputable def d__law_refuses_name : DefR := ⟨1, 1, true, b__law_refuses_name⟩
noncomputable def b__law_refuses_code (Ph : Nat → List D → Sto → R D) : MS := (sSeq (sTry Sub (sSeq (sExpr (mCall (Ph 2) [(mVar 0)]))
  sSkip) [(0, (sSeq (sRet (mC (.bl true)))
  sSkip))])
  (sSeq (sRet (mC (.bl false)))
  sSkip))
noncomputable def d__law_refuses_code : DefR := ⟨1, 1, true, b__law_refuses_code⟩
noncomputable def b__law_number (Ph : Nat → List D → Sto → R D) : MS := (sSeq (sRet (mAnd (mIsI "int" (mVar 0)) (mNot (mIsI "bool" (mVar 0)))))
  sSkip)
noncomputable def d__law_number : DefR := ⟨1, 1, true, b__law_number⟩
noncomputable def b__law_fits_name (Ph : Nat → List D → Sto → R D) : MS := (sSeq (sAsg (mCall (Ph 1) [(mVar 0)]) (gVar 1))
  (sSeq (sIf (mOr (mNot (mCall (Ph 11) [(mVar 1)])) (mBin opNe (mVar 1) (mCall (Ph 6) [(mVar 0)])))
    (sSeq (sRet (mC (.bl false)))
  sSkip)
    sSkip)
  (sSeq (sAsg (mCall (Ph 2) [(mVar 1)]) (gVar 2))
  (sSeq (sRet (mAnd (mIsI "str" (mVar 2)) (mBin opEq (mVar 2) (mVar 0))))
  sSkip))))
noncomputable def d__law_fits_name : DefR := ⟨1, 3, true, b__law_fits_name⟩
noncomputable def b__law_fits_code (Ph : Nat → List D → Sto → R D) : MS := (sSeq (sIf (mNot (mCall (Ph 8) [(mVar 0)]))
    (sSeq (sRet (mCall (Ph 10) [(mVar 0)]))
  sSkip)
    sSkip)
  (sSeq (sAsg (mCall (Ph 2) [(mVar 0)]) (gVar 1))
  (sSeq (sRet (mAnd (mIsI "str" (mVar 1)) (mAnd (mBin opEq (mCall (Ph 6) [(mVar 1)]) (mVar 0)) (mBin opLe (mCall bLen [(mVar 1)]) (mC (.int 8))))))
  sSkip)))
noncomputable def d__law_fits_code : DefR := ⟨1, 2, true, b__law_fits_code⟩
noncomputable def b__law_kinds (Ph : Nat → List D → Sto → R D) : MS := (sSeq (sAsg (mLst [(mIsV EXV TR_NoName (mVar 0)), (mIsV EXV TR_NoView (mVar 0)), (mIsV EXV TR_NoDeed (mVar 0)), (mIsV EXV TR_NoThing (mVar 0))]) (gVar 1))
  (sSeq (sAsg (mBin opAdd (mVar 1) (mLst [(mIsV EXV TR_Taken (mVar 0)), (mIsV EXV TR_TooMany (mVar 0)), (mIsV EXV TR_TooDeep (mVar 0))])) (gVar 1))
  (sSeq (sAsg (mBin opAdd (mVar 1) (mLst [(mIsV EXV TR_Within (mVar 0)), (mIsV EXV TR_NoLeaf (mVar 0)), (mIsV EXV TR_NoRoom (mVar 0))])) (gVar 1))
  (sSeq (sAsg (mBin opAdd (mVar 1) (mLst [(mIsV EXV TR_NoHouse (mVar 0)), (mIsV EXV TR_NoSnap (mVar 0)), (mIsV EXV TR_NoEntry (mVar 0))])) (gVar 1))
  (sSeq (sAsg (mBin opAdd (mVar 1) (mLst [(mIsV EXV TR_Full (mVar 0)), (mIsV EXV TR_Lost (mVar 0)), (mIsV EXV TR_NoDisk (mVar 0)), (mIsV EXV TR_NoSent (mVar 0))])) (gVar 1))
  (sSeq (sRet (mBin opAdd (mVar 1) (mLst [(mIsV EXV TR_Other (mVar 0)), (mIsV EXV TR_NotOpen (mVar 0)), (mIsV EXV TR_NoWord (mVar 0))])))
  sSkip))))))
noncomputable def d__law_kinds : DefR := ⟨1, 2, true, b__law_kinds⟩
noncomputable def b__law_refusals_right (Ph : Nat → List D → Sto → R D) : MS := (sSeq (sAsg (mLst [(mExn "NoName"), (mExn "NoView"), (mExn "NoDeed"), (mExn "NoThing"), (mExn "Taken"), (mExn "TooMany"), (mExn "TooDeep"), (mExn "Within"), (mExn "NoLeaf"), (mExn "NoRoom")]) (gVar 0))
  (sSeq (sAsg (mBin opAdd (mVar 0) (mLst [(mExn "NoHouse"), (mExn "NoSnap"), (mExn "NoEntry"), (mExn "Full"), (mExn "Lost"), (mExn "NoDisk"), (mExn "NoSent"), (mExn "Other"), (mExn "NotOpen")])) (gVar 0))
  (sSeq (sFor (iEnumM (mBin opAdd (mVar 0) (mLst [(mExn "NoWord")]))) (gTupV [1, 2])
    (sSeq (sIf (mOr (mNot (mIsV EXV TR_ShelfError (mVar 2))) (mNot (mIsV EXV TR_ValueError (mVar 2))))
    (sSeq (sRet (mC (.bl false)))
  sSkip)
    sSkip)
  (sSeq (sIf (mBin opNe (mCall (Ph 14) [(mVar 2)]) (mComp (iRange1 (mC (.int 20))) [3] (gVar 3) none (mBin opEq (mVar 3) (mVar 1))))
    (sSeq (sRet (mC (.bl false)))
  sSkip)
    sSkip)
  sSkip)))
  (sSeq (sRet (mC (.bl true)))
  sSkip))))
noncomputable def d__law_refusals_right : DefR := ⟨0, 4, true, b__law_refusals_right⟩
noncomputable def b_law (Ph : Nat → List D → Sto → R D) : MS := (sSeq (sAsg (mCall (Ph 4) [(mVar 0)]) (gVar 1))
  (sSeq (sAsg (mCall (Ph 7) [(mBin opAdd (mBin opMul (mCall (Ph 5) [(mVar 1)]) (mC (.int 2147483629))) (mCall (Ph 5) [(mVar 1)]))]) (gVar 2))
  (sSeq (sAsg (mBin opIx (mLst [(mC (.str (⟨#[97]⟩ : Str))), (mC (.str (⟨#[122]⟩ : Str))), (mC (.str (⟨#[122, 122, 122, 122, 122, 122, 122, 122]⟩ : Str))), (mC (.str (⟨#[97, 97, 97, 97, 97, 97, 97, 97]⟩ : Str))), (mC (.str (⟨#[97, 122]⟩ : Str))), (mC (.str (⟨#[98, 97]⟩ : Str)))]) (mBin opMod (mCall (Ph 5) [(mVar 1)]) (mC (.int 6)))) (gVar 3))
  (sSeq (sIf (mOr (mNot (mCall (Ph 12) [(mVar 2)])) (mOr (mNot (mCall (Ph 12) [(mVar 3)])) (mNot (mCall (Ph 15) []))))
    (sSeq (sRet (mC (.bl false)))
  sSkip)
    sSkip)
  (sSeq (sAsg (mCall (Ph 5) [(mVar 1)]) (gVar 4))
  (sSeq (sAsg (mBin opAdd (mBin opMul (mVar 4) (mC (.int 2147483629))) (mCall (Ph 5) [(mVar 1)])) (gVar 5))
  (sSeq (sFor (iSeq (mLst [(mVar 4), (mBin opMod (mVar 4) (mC (.int 1000))), (mVar 5), (mBin opMod (mVar 5) (mBin opPow (mC (.int 27)) (mC (.int 8)))), (mC (.int 0)), (mBin opSub (mBin opPow (mC (.int 27)) (mC (.int 8))) (mC (.int 1))), (mBin opPow (mC (.int 27)) (mC (.int 8))), (mC (.int 27)), (mC (.int 26)), (mC (.int 28)), (mBin opSub (mNeg (mC (.int 1))) (mVar 4))])) (gVar 6)
    (sSeq (sIf (mNot (mCall (Ph 13) [(mVar 6)]))
    (sSeq (sRet (mC (.bl false)))
  sSkip)
    sSkip)
  sSkip))
  (sSeq (sAsg (mLst [(mC (.non)), (mC (.bl true)), (mC (.bl false)), (mVar 4), (mC (.str (⟨#[]⟩ : Str))), (mC (.str (⟨#[65]⟩ : Str))), (mC (.str (⟨#[97, 49]⟩ : Str))), (mBin opAdd (mVar 2) (mC (.str (⟨#[97, 98, 99, 100, 101, 102, 103, 104]⟩ : Str)))), (mBin opAdd (mSl (mVar 2) none (some (mC (.int 7)))) (mC (.str (⟨#[32]⟩ : Str)))), (mBin opAdd (mSl (mVar 2) none (some (mC (.int 7)))) (mC (.str (⟨#[10]⟩ : Str)))), (mTup [(mVar 2)]), (mLst [(mVar 2)]), (mC (.str (⟨#[97, 47, 98]⟩ : Str))), (mC (.dic []))]) (gVar 7))
  (sSeq (sAsg (mBin opIx (mVar 7) (mBin opMod (mCall (Ph 5) [(mVar 1)]) (mC (.int 14)))) (gVar 6))
  (sSeq (sIf (mOr (mNot (mCall (Ph 9) [(mVar 6)])) (mNot (mCall bAll [(mComp (iSeq (mVar 7)) [8] (gVar 8) none (mCall (Ph 9) [(mVar 8)]))])))
    (sSeq (sRet (mC (.bl false)))
  sSkip)
    sSkip)
  (sSeq (sRet (mCall bAll [(mComp (iSeq (mLst [(mC (.non)), (mC (.bl true)), (mC (.bl false)), (mVar 2), (mC (.str (⟨#[]⟩ : Str))), (mTup [(mC (.int 1))]), (mLst [(mVar 4)]), (mC (.dic []))])) [8] (gVar 8) none (mCall (Ph 10) [(mVar 8)]))]))
  sSkip)))))))))))
noncomputable def d_law : DefR := ⟨1, 9, true, b_law⟩
noncomputable def tbl : List DefR := [d_is_name, d_code_of, d_name_of, d__law_mixed, d__law_draws, d__law_next, d__law_code, d__law_word, d__law_is_code, d__law_refuses_name, d__law_refuses_code, d__law_number, d__law_fits_name, d__law_fits_code, d__law_kinds, d__law_refusals_right, d_law]
def cc : CC := { N := [], sc := { kind := .function, names := [], isGenerator := false, isCoroutine := false }, dfn := true, cok := fun _ => true, fns := [("is_name" : Str), ("code_of" : Str), ("name_of" : Str), ("_law_mixed" : Str), ("_law_draws" : Str), ("_law_next" : Str), ("_law_code" : Str), ("_law_word" : Str), ("_law_is_code" : Str), ("_law_refuses_name" : Str), ("_law_refuses_code" : Str), ("_law_number" : Str), ("_law_fits_name" : Str), ("_law_fits_code" : Str), ("_law_kinds" : Str), ("_law_refusals_right" : Str), ("law" : Str)], gl := [("LETTERS", G_LETTERS), ("MOST_SIGNS", G_MOST_SIGNS)], kd := [], xcs := ["NoName"], sub := Sub, blt := ["len", "abs", "min", "all", "ord", "str", "isinstance", "int", "bool", "range", "enumerate"], mt := fun l c => [(73, 17)].contains (l, c), fuel := 1000, ocl := ocl0, dt := fun l c => [].contains (l, c), isi := [], cx := fun l c => [].contains (l, c), exv := EXV, evi := [("NoName", TR_NoName), ("NoView", TR_NoView), ("NoDeed", TR_NoDeed), ("NoThing", TR_NoThing), ("Taken", TR_Taken), ("TooMany", TR_TooMany), ("TooDeep", TR_TooDeep), ("Within", TR_Within), ("NoLeaf", TR_NoLeaf), ("NoRoom", TR_NoRoom), ("NoHouse", TR_NoHouse), ("NoSnap", TR_NoSnap), ("NoEntry", TR_NoEntry), ("Full", TR_Full), ("Lost", TR_Lost), ("NoDisk", TR_NoDisk), ("NoSent", TR_NoSent), ("Other", TR_Other), ("NotOpen", TR_NotOpen), ("NoWord", TR_NoWord), ("ShelfError", TR_ShelfError), ("ValueError", TR_ValueError)] }
theorem phi_is_name (n : Nat) (ds : List D) (st : Sto) : Phi tbl (n + 1) 0 ds st = runDef d_is_name (Phi tbl n) ds st := rfl
theorem phi_code_of (n : Nat) (ds : List D) (st : Sto) : Phi tbl (n + 1) 1 ds st = runDef d_code_of (Phi tbl n) ds st := rfl
theorem phi_name_of (n : Nat) (ds : List D) (st : Sto) : Phi tbl (n + 1) 2 ds st = runDef d_name_of (Phi tbl n) ds st := rfl
theorem phi__law_mixed (n : Nat) (ds : List D) (st : Sto) : Phi tbl (n + 1) 3 ds st = runDef d__law_mixed (Phi tbl n) ds st := rfl
theorem phi__law_draws (n : Nat) (ds : List D) (st : Sto) : Phi tbl (n + 1) 4 ds st = runDef d__law_draws (Phi tbl n) ds st := rfl
theorem phi__law_next (n : Nat) (ds : List D) (st : Sto) : Phi tbl (n + 1) 5 ds st = runDef d__law_next (Phi tbl n) ds st := rfl
theorem phi__law_code (n : Nat) (ds : List D) (st : Sto) : Phi tbl (n + 1) 6 ds st = runDef d__law_code (Phi tbl n) ds st := rfl
theorem phi__law_word (n : Nat) (ds : List D) (st : Sto) : Phi tbl (n + 1) 7 ds st = runDef d__law_word (Phi tbl n) ds st := rfl
theorem phi__law_is_code (n : Nat) (ds : List D) (st : Sto) : Phi tbl (n + 1) 8 ds st = runDef d__law_is_code (Phi tbl n) ds st := rfl
theorem phi__law_refuses_name (n : Nat) (ds : List D) (st : Sto) : Phi tbl (n + 1) 9 ds st = runDef d__law_refuses_name (Phi tbl n) ds st := rfl
theorem phi__law_refuses_code (n : Nat) (ds : List D) (st : Sto) : Phi tbl (n + 1) 10 ds st = runDef d__law_refuses_code (Phi tbl n) ds st := rfl
theorem phi__law_number (n : Nat) (ds : List D) (st : Sto) : Phi tbl (n + 1) 11 ds st = runDef d__law_number (Phi tbl n) ds st := rfl
theorem phi__law_fits_name (n : Nat) (ds : List D) (st : Sto) : Phi tbl (n + 1) 12 ds st = runDef d__law_fits_name (Phi tbl n) ds st := rfl
theorem phi__law_fits_code (n : Nat) (ds : List D) (st : Sto) : Phi tbl (n + 1) 13 ds st = runDef d__law_fits_code (Phi tbl n) ds st := rfl
theorem phi__law_kinds (n : Nat) (ds : List D) (st : Sto) : Phi tbl (n + 1) 14 ds st = runDef d__law_kinds (Phi tbl n) ds st := rfl
theorem phi__law_refusals_right (n : Nat) (ds : List D) (st : Sto) : Phi tbl (n + 1) 15 ds st = runDef d__law_refusals_right (Phi tbl n) ds st := rfl
theorem phi_law (n : Nat) (ds : List D) (st : Sto) : Phi tbl (n + 1) 16 ds st = runDef d_law (Phi tbl n) ds st := rfl
end LK01
namespace MI
open PySem PySem.Spec PyProof.Rows L2 MX
local macro_rules | `(tactic| trivial) => `(tactic| simp only [w_ok, w_exc, w_C, w_bin, w_neg, w_and, w_or, w_not, w_ifE, w_args0, w_args, w_tup, w_lst, w_new, w_call, w_isI, w_chain, w_opt0, w_opt, w_sl, w_st, w_methL, w_methS, on_bl, ot_bl, w_add, w_addT, w_addL, w_addS, w_sub, w_mul, w_mod, w_div, w_pow, w_lt, w_le, w_gt, w_ge, w_eq, w_ne, w_eqB, w_neB, w_isB, w_isNB, w_lenT, w_lenL, w_tupL, w_tupT, w_listT, w_listL, w_ixT, w_ixL, w_slT, w_slL, w_stT, w_seq, w_skip, w_asg, w_asgT, w_expr, w_ret, w_sIf, w_raise, w_for, w_set, w_try, w_pick0, w_pick,
  mVar_app, List.getElem?_cons_zero, List.getElem?_cons_succ, List.set_cons_zero, List.set_cons_succ, startD, List.map_cons, List.map_nil, List.length_cons, List.length_nil, List.length_map, Nat.zero_add, Nat.reduceAdd, Nat.reduceSub, List.replicate, List.cons_append, List.nil_append, gTupV_app, gVars_nil, gVars_cons, gVar_app, Option.some.injEq, exists_eq_left', wipeD_nil, wipeD_cons, atI0, atI1, atI2,
  decide_eq_true_eq, decide_eq_false_iff_not, Bool.not_eq_true', Bool.not_eq_false', Int.reduceLT, Int.reduceLE, Int.reduceAdd, Int.reduceMul, Int.reduceSub, Int.reduceNeg, true_and, and_true, Bool.true_eq_false, Bool.false_eq_true, false_implies, implies_true, true_implies, Nat.reduceLeDiff, fz_same, ii_int_int, ii_bool_int, ii_int_bl, ii_bool_bl, ii_tuple_tup, ii_str_str, ii_list_lst, ii_list_tup, ii_tuple_lst, ii_tuple_int, ii_list_int, ii_str_int, ii_str_tup, ii_int_str, ii_int_tup, ii_int_lst, ii_int_non, ii_bool_str, ii_tuple_str, ii_tuple_non, ii_list_non, ii_str_non, not_true_eq_false, not_false_eq_true, holds_vals, items_vals, eq_self])
noncomputable def g_name_of (x_NoName : Nat) (Ph : Nat → List D → Sto → R D) : MS := (sSeq (sIf (mOr (mNot (mIsI "int" (mVar 0))) (mOr (mIsI "bool" (mVar 0)) (mOr (mBin opLt (mVar 0) (mC (.int 1))) (mBin opGe (mVar 0) (mBin opPow (mC (.int 27)) (mC (.int 8)))))))
    (sSeq (sRaise x_NoName)
  sSkip)
    sSkip)
  (sSeq (sAsg (mC (.str (⟨#[]⟩ : Str))) (gVar 1))
  (sSeq (sWhile (mBin opGt (mVar 0) (mC (.int 0)))
    (sSeq (sIf (mBin opEq (mBin opMod (mVar 0) (mC (.int 27))) (mC (.int 0)))
    (sSeq (sRaise x_NoName)
  sSkip)
    sSkip)
  (sSeq (sAsg (mBin opAdd (mBin opIx (mC (.str (⟨#[97, 98, 99, 100, 101, 102, 103, 104, 105, 106, 107, 108, 109, 110, 111, 112, 113, 114, 115, 116, 117, 118, 119, 120, 121, 122]⟩ : Str))) (mBin opSub (mBin opMod (mVar 0) (mC (.int 27))) (mC (.int 1)))) (mVar 1)) (gVar 1))
  (sSeq (sAsg (mBin opDiv (mVar 0) (mC (.int 27))) (gVar 0))
  sSkip))) 1000)
  (sSeq (sRet (mVar 1))
  sSkip))))
def topN (n : Int) : Int := if n ≤ 4 then n else if n ≤ 16 then (n + 3) / 4 else (n + 15) / 16
def noZ : Nat → Int → Bool
  | 0, _ => true
  | f + 1, n => decide (n = 0) || (!decide (n % 27 = 0) && noZ f (n / 27))
def nmF : Nat → Int → List Nat
  | 0, _ => []
  | f + 1, n => if n = 0 then [] else nmF f (n / 27) ++ [96 + (n % 27).toNat]
def codeB (n : Int) : Bool := decide (1 ≤ n) && decide (n < 282429536481) && noZ 8 n
def nmS (n : Int) : Str := ⟨(nmF 8 n).toArray⟩
abbrev letters : Str := ⟨#[97, 98, 99, 100, 101, 102, 103, 104, 105, 106, 107, 108, 109, 110, 111, 112, 113, 114, 115, 116, 117, 118, 119, 120, 121, 122]⟩
theorem letters_at : ∀ n : Nat, n < 26 → letters.cps.toList[n]? = some (97 + n) := by decide
theorem letter_ix {i : Int} (h0 : 0 ≤ i) (h1 : i < 26) : atI letters.cps.toList i = some (97 + i.toNat) := ix_at h0 (letters_at _ (by omega))
theorem w_ixS {z : Str} {i : Int} {st : Sto} {P : D → Sto → Prop} {X : Nat → Sto → Prop} : (opIx (.str z) (.int i) st).wp P X ↔ z.length ≤ sizeLine ∧ ∃ c, atI z.cps.toList i = some c ∧ P (.str ⟨#[c]⟩) st := by
  unfold opIx
  simp only [deref_str]
  rw [w_if]
  cases atI z.cps.toList i <;> simp [wp_eq, R.wq]
theorem str_app_cps (a b : Str) : (a ++ b).cps.toList = a.cps.toList ++ b.cps.toList := by
  show (a.cps ++ b.cps).toList = _
  simp
theorem str_len (s : Str) : s.length = s.cps.toList.length := by simp [Str.length]
theorem str_eq {a b : Str} (h : a.cps.toList = b.cps.toList) : a = b := Str.ext' (Array.toList_inj.mp h)
theorem nmF_len : ∀ (f : Nat) (n : Int), (nmF f n).length ≤ f
  | 0, _ => Nat.le_refl _
  | f + 1, n => by
    unfold nmF
    split
    · simp
    · simp only [List.length_append, List.length_singleton]
      have := nmF_len f (n / 27)
      omega
theorem pow27 (k : Nat) : (27 : Int) ^ (k + 1) = 27 ^ k * 27 := Int.pow_succ ..
def NameOfOk (f : List D → Sto → R D) (x : Nat) : Prop := ∀ (c : Int) (st : Sto), f [.int c] st = if codeB c = true then .ok (.str (nmS c)) st else .exc x st
theorem nameof_ok {Ph : Nat → List D → Sto → R D} {x : Nat} : NameOfOk (runDef ⟨1, 2, true, g_name_of x⟩ Ph) x := fun c st => by
  have c27 : CDivW 0 27 := by decide
  have p8 : CPow 27 8 := by decide
  have lz : letters.length ≤ sizeLine := small_le (by decide)
  have key : (runDef ⟨1, 2, true, g_name_of x⟩ Ph [.int c] st).wp (fun v t => codeB c = true ∧ v = .str (nmS c) ∧ t = st) (fun k t => codeB c = false ∧ k = x ∧ t = st) := by
    refine def_wp rfl rfl ?_
    unfold g_name_of
    trivial
    have e8 : (27 : Int) ^ (8 : Int).toNat = 282429536481 := by decide
    refine ⟨fun h1 => ?_, fun h1 => ⟨p8, ?_⟩⟩
    · refine ⟨?_, cutSt_refl⟩
      unfold codeB
      rw [decide_eq_false (by omega)]
      rfl
    rw [e8]
    refine ⟨fun h2 => ?_, fun h2 => ?_⟩
    · refine ⟨?_, cutSt_refl⟩
      unfold codeB
      rw [decide_eq_false (by omega : ¬ c < 282429536481)]
      simp
    have hc : codeB c = noZ 8 c := by
      unfold codeB
      rw [decide_eq_true (by omega : 1 ≤ c), decide_eq_true (by omega : c < 282429536481)]
      rfl
    rw [hc]
    refine while_wp (fun k env t => ∃ (d : Int) (s : Str), env = [some (.int d), some (.str s)] ∧ t = st ∧ 0 ≤ d ∧ d < 27 ^ k ∧ k ≤ 8 ∧ noZ k d = noZ 8 c ∧ nmF k d ++ s.cps.toList = nmF 8 c ∧ s.cps.toList.length + k ≤ 8) ?_ 1000 8 _ _ (by decide) ⟨c, ⟨#[]⟩, rfl, rfl, by omega, by omega, by omega, rfl, by simp, by simp⟩
    rintro k env t ⟨d, s, rfl, rfl, d0, d1, k8, e1, e2, e3⟩
    trivial
    refine ⟨fun hd => ?_, fun hd => ?_⟩
    · cases k with
      | zero => simp at d1; omega
      | succ k =>
        have hd0 : ¬ d = 0 := by omega
        rw [pow27] at d1
        refine ⟨fun hm => ?_, fun hm => ?_⟩
        · refine ⟨?_, cutSt_refl⟩
          rw [← e1]
          unfold noZ
          rw [decide_eq_false hd0, decide_eq_true hm]
          rfl
        · rw [w_ixS]
          refine ⟨lz, _, letter_ix (by omega) (by omega), ?_⟩
          trivial
          have ln : (⟨#[97 + (d % 27 - 1).toNat]⟩ : Str).length = 1 := rfl
          refine ⟨small_le (by rw [ln, str_len]; omega), divOk c27, k, Nat.lt_succ_self k, d / 27, _, rfl, by omega, by omega, by omega, ?_, ?_, ?_⟩
          · rw [← e1]
            conv => rhs; unfold noZ
            rw [decide_eq_false hd0, decide_eq_false hm]
            simp
          · rw [← e2, str_app_cps]
            conv => rhs; unfold nmF
            rw [if_neg hd0, List.append_assoc]
            congr 2
            simp
            omega
          · rw [str_app_cps, List.length_append]
            have : (⟨#[97 + (d % 27 - 1).toNat]⟩ : Str).cps.toList.length = 1 := rfl
            omega
    · have hd0 : d = 0 := by omega
      subst hd0
      have e4 : noZ 8 c = true := by
        rw [← e1]
        cases k <;> simp [noZ]
      have e5 : nmF k 0 = [] := by cases k <;> simp [nmF]
      rw [e5, List.nil_append] at e2
      refine ⟨e4, ?_⟩
      congr 1
      exact str_eq (by rw [e2]; rfl)
  by_cases h : codeB c = true
  · rw [if_pos h]
    refine (key.mono (fun v t z => z.2) (fun k t z => ?_)).eq
    rw [h] at z
    exact Bool.noConfusion z.1
  · rw [if_neg h]
    refine (key.mono (fun v t z => absurd z.1 h) (fun k t z => z.2)).exq
def risingB : List Int → Bool
  | [] => true
  | [_] => true
  | x :: y :: r => decide (x < y) && risingB (y :: r)
def leafN (ns : List Int) : Bool := decide (ns.length ≤ 9) && ns.all fun i => decide (i ≤ 255)
def branchN (ns : List Int) : Bool := decide (2 ≤ ns.length) && decide (ns.length ≤ 5) && ns.all fun i => decide (0 < i)
def fileN (ns : List Int) : Bool := match ns with
  | _ :: m :: r => decide (m ≤ 64) && decide ((r.length : Int) = topN m) && r.all fun i => decide (0 < i)
  | _ => false
def folderN (ns : List Int) : Bool := decide (ns.length % 2 = 1) && decide ((alt (ns.drop 1)).length ≤ 8) && risingB (alt (ns.drop 1)) && (alt (ns.drop 1)).all codeB && (alt (ns.drop 2)).all fun i => decide (0 < i)
def blockN (ns : List Int) : Bool := match ns with
  | [] => false
  | h :: r => if h > 3 then false else if h = 0 then leafN ns else if h = 1 then branchN ns else if h = 2 then fileN ns else folderN ns
theorem noZ_succ (f : Nat) (n : Int) : noZ (f + 1) n = (decide (n = 0) || (!decide (n % 27 = 0) && noZ f (n / 27))) := rfl
theorem noZ_mono : ∀ (f g : Nat) (n : Int), 0 ≤ n → n < 27 ^ f → f ≤ g → noZ g n = noZ f n
  | 0, 0, _, _, _, _ => rfl
  | 0, g + 1, n, h0, h1, _ => by
    have : n = 0 := by simp at h1; omega
    rw [noZ_succ, decide_eq_true this]
    rfl
  | f + 1, 0, _, _, _, h => absurd h (by omega)
  | f + 1, g + 1, n, h0, h1, h => by
    rw [pow27] at h1
    rw [noZ_succ, noZ_succ, noZ_mono f g (n / 27) (by omega) (by omega) (by omega)]
theorem codeB_step {f : Nat} {c d : Int} (hf : f < 8) (h0 : 0 ≤ c) (h1 : c < 27 ^ f) (hz : noZ f c = true) (d1 : 1 ≤ d) (d2 : d ≤ 26) : 0 < c * 27 + d ∧ c * 27 + d < 27 ^ (f + 1) ∧ noZ (f + 1) (c * 27 + d) = true := by
  rw [pow27]
  refine ⟨by omega, by omega, ?_⟩
  rw [noZ_succ, decide_eq_false (by omega), decide_eq_false (by omega), show (c * 27 + d) / 27 = c by omega, hz]
  rfl
theorem atI_mem {ds : List D} {i : Int} (h0 : 0 ≤ i) (h1 : i < ds.length) : ∃ d, atI ds i = some d ∧ d ∈ ds := by
  obtain ⟨x, hx, h2⟩ := atI_int h0 h1
  exact ⟨x, hx, List.mem_of_getElem? h2⟩
structure GoodBlk (way : Int) (ns : List Int) : Prop where
  pos : ∀ i ∈ ns, 0 ≤ i
  blk : blockN ns = true
  hd : ∃ r, ns = way :: r
  len : ns.length ≤ 17
def BlkOk (f : List D → Sto → R D) : Prop := ∀ (way : Int) (ds : List Int) (tl : Sto), 0 ≤ way → way < 4 → InD ds → ∃ (ns ds' : List Int), GoodBlk way ns ∧ InD ds' ∧ f [.ref 0, .int way] (.lst (ds.map .int) :: tl) = .ok (.tup (ns.map .int)) (.lst (ds'.map .int) :: tl)
noncomputable def g_is_name (Ph : Nat → List D → Sto → R D) : MS := (sSeq (sIf (mOr (mNot (mIsI "str" (mVar 0))) (mOr (mBin opEq (mVar 0) (mC (.str (⟨#[]⟩ : Str)))) (mBin opGt (mCall bLen [(mVar 0)]) (mC (.int 8)))))
    (sSeq (sRet (mC (.bl false)))
  sSkip)
    sSkip)
  (sSeq (sRet (mCall bAll [(mComp (iSeq (mVar 0)) [1] (gVar 1) none (mBin opIn (mVar 1) (mC (.str (⟨#[97, 98, 99, 100, 101, 102, 103, 104, 105, 106, 107, 108, 109, 110, 111, 112, 113, 114, 115, 116, 117, 118, 119, 120, 121, 122]⟩ : Str)))))]))
  sSkip))
noncomputable def g_code_of (i_is_name x_NoName : Nat) (Ph : Nat → List D → Sto → R D) : MS := (sSeq (sIf (mNot (mCall (Ph i_is_name) [(mVar 0)]))
    (sSeq (sRaise x_NoName)
  sSkip)
    sSkip)
  (sSeq (sAsg (mC (.int 0)) (gVar 1))
  (sSeq (sFor (iSeq (mVar 0)) (gVar 2)
    (sSeq (sAsg (mBin opAdd (mBin opAdd (mBin opMul (mVar 1) (mC (.int 27))) (mMethS mIndexS (mC (.str (⟨#[97, 98, 99, 100, 101, 102, 103, 104, 105, 106, 107, 108, 109, 110, 111, 112, 113, 114, 115, 116, 117, 118, 119, 120, 121, 122]⟩ : Str))) [(mVar 2)])) (mC (.int 1))) (gVar 1))
  sSkip))
  (sSeq (sRet (mVar 1))
  sSkip))))
noncomputable def g__law_codeN (Ph : Nat → List D → Sto → R D) : MS := (sSeq (sAsg (mC (.int 0)) (gVar 1))
  (sSeq (sFor (iSeq (mVar 0)) (gVar 2)
    (sSeq (sAsg (mBin opSub (mBin opAdd (mBin opMul (mVar 1) (mC (.int 27))) (mCall bOrd [(mVar 2)])) (mC (.int 96))) (gVar 1))
  sSkip))
  (sSeq (sRet (mVar 1))
  sSkip)))
def letB (c : Nat) : Bool := decide (97 ≤ c) && decide (c ≤ 122)
def nameS (s : Str) : Bool := decide (1 ≤ s.cps.toList.length) && decide (s.cps.toList.length ≤ 8) && s.cps.toList.all letB
def nameD : D → Bool
  | .str s => nameS s
  | _ => false
def okS (s : Str) : Prop := PyData.canLay0 (.str s) = true ∧ s.length ≤ 1000000
theorem canLay_iff {s : Str} : PyData.canLay0 (.str s) = true ↔ ∀ c ∈ s.cps.toList, c < 0x110000 := by
  simp only [PyData.canLay0, PyData.strOk, Array.all_eq_true_iff_forall_mem, decide_eq_true_eq, Array.mem_toList_iff]
theorem nameS_ok {s : Str} (h : nameS s = true) : okS s := by
  unfold nameS at h
  simp only [Bool.and_eq_true, decide_eq_true_eq] at h
  refine ⟨canLay_iff.mpr fun c hc => ?_, by rw [str_len]; omega⟩
  have := List.all_eq_true.mp h.2 c hc
  unfold letB at this
  simp only [Bool.and_eq_true, decide_eq_true_eq] at this
  omega
theorem in_letters (c : Nat) : decide (c ∈ letters.cps.toList) = letB c := by
  unfold letB
  by_cases h : 97 ≤ c ∧ c ≤ 122
  · rw [decide_eq_true h.1, decide_eq_true h.2]
    have := letters_at (c - 97) (by omega)
    rw [show 97 + (c - 97) = c by omega] at this
    simp only [Bool.and_self, decide_eq_true_eq]
    exact List.mem_of_getElem? this
  · have e : (decide (97 ≤ c) && decide (c ≤ 122)) = false := by
      by_cases h1 : 97 ≤ c
      · rw [decide_eq_false (by omega : ¬ c ≤ 122)]; simp
      · rw [decide_eq_false h1]; rfl
    rw [e, decide_eq_false_iff_not]
    intro hm
    obtain ⟨k, hk⟩ := List.getElem?_of_mem hm
    have hl : k < 26 := (List.getElem?_eq_some_iff.mp hk).1
    rw [letters_at k hl] at hk
    cases hk
    omega
theorem w_lenS {s : Str} {st : Sto} {P : D → Sto → Prop} {X : Nat → Sto → Prop} (h : s.length ≤ 1000000) : (bLen [.str s] st).wp P X ↔ P (.int s.length) st := by
  have e : bLen [.str s] st = .ok (.int s.length) st := by
    simp only [bLen, lenD, deref_str, if_pos (small_le h)]
  rw [e, w_ok]
theorem w_eqS {a b : Str} {st : Sto} {P : D → Sto → Prop} {X : Nat → Sto → Prop} (ha : PyData.canLay0 (.str a) = true) (hb : PyData.canLay0 (.str b) = true) : (opEq (.str a) (.str b) st).wp P X ↔ P (.bl (a == b)) st := by
  rw [opEq_pl (k := 0) (j := 0) (Pln.str ha) (Pln.str hb) (by decide) (by decide), deref_str, deref_str, beqD_str, w_ok]
theorem em_lay : PyData.canLay0 (.str (⟨#[]⟩ : Str)) = true := by simp [PyData.canLay0, PyData.strOk]
theorem str_em {s : Str} : (s == (⟨#[]⟩ : Str)) = decide (s.cps.toList.length = 0) := by
  by_cases h : s.cps.toList.length = 0
  · rw [decide_eq_true h]
    have : s = ⟨#[]⟩ := str_eq (by rw [List.length_eq_zero_iff.mp h])
    rw [this]
    rfl
  · rw [decide_eq_false h]
    refine beq_eq_false_iff_ne.mpr fun e => h ?_
    rw [e]
    rfl
def NameOk (f : List D → Sto → R D) : Prop := ∀ (d : D) (st : Sto), d.pl = true → (∀ s, d = .str s → okS s) → f [d] st = .ok (.bl (nameD d)) st
theorem isname_ok {Ph : Nat → List D → Sto → R D} : NameOk (runDef ⟨1, 2, true, g_is_name⟩ Ph) := fun d st h hs => by
  refine def_pure rfl rfl ?_
  unfold g_is_name
  trivial
  rw [isInst_str h, w_ok]
  cases d with
  | str s =>
    obtain ⟨h1, h2⟩ := hs s rfl
    simp only [isS_str]
    trivial
    rw [w_eqS h1 em_lay, str_em]
    trivial
    have sl := str_len s
    refine ⟨fun z => ?_, fun z => ?_⟩
    · show D.bl false = D.bl (nameS s)
      unfold nameS
      rw [decide_eq_false (by omega : ¬ 1 ≤ s.cps.toList.length)]
      rfl
    · rw [w_lenS h2]
      trivial
      refine ⟨fun z1 => ?_, fun z1 => ?_⟩
      · show D.bl false = D.bl (nameS s)
        unfold nameS
        rw [decide_eq_false (by omega : ¬ s.cps.toList.length ≤ 8)]
        simp
      · refine comp_all (s.cps.toList.map fun c => .str ⟨#[c]⟩) (fun d => match d with | .str z => (match z.cps.toList with | [c] => letB c | _ => false) | _ => false) rfl (by rw [List.length_map]; omega) (fun d hd => ?_) ⟨?_, rfl⟩
        · obtain ⟨c, _, rfl⟩ := List.mem_map.mp hd
          refine ⟨_, rfl, ?_⟩
          trivial
          have e : opIn (.str ⟨#[c]⟩) (.str letters) st = .ok (.bl (letB c)) st := by
            rw [← in_letters]
            rfl
          rw [show (D.str { cps := #[97, 98, 99, 100, 101, 102, 103, 104, 105, 106, 107, 108, 109, 110, 111, 112, 113, 114, 115, 116, 117, 118, 119, 120, 121, 122] }) = D.str letters from rfl, e, w_ok]
          exact ⟨rfl, rfl⟩
        · show _ = D.bl (nameS s)
          rw [List.all_map]
          unfold nameS
          rw [decide_eq_true (by omega : 1 ≤ s.cps.toList.length), decide_eq_true (by omega : s.cps.toList.length ≤ 8)]
          rfl
  | _ => simp [onBool, nameD]
def codeL (l : List Nat) : Int := l.foldl (fun (a : Int) (c : Nat) => a * 27 + ((c : Int) - 96)) 0
theorem codeL_snoc (l : List Nat) (c : Nat) : codeL (l ++ [c]) = codeL l * 27 + ((c : Int) - 96) := by simp [codeL]
theorem nmF_succ (f : Nat) (n : Int) : nmF (f + 1) n = if n = 0 then [] else nmF f (n / 27) ++ [96 + (n % 27).toNat] := rfl
theorem nmF_mono : ∀ (f g : Nat) (n : Int), 0 ≤ n → n < 27 ^ f → f ≤ g → nmF g n = nmF f n
  | 0, 0, _, _, _, _ => rfl
  | 0, g + 1, n, h0, h1, _ => by
    have : n = 0 := by simp at h1; omega
    rw [nmF_succ, if_pos this]
    rfl
  | f + 1, 0, _, _, _, h => absurd h (by omega)
  | f + 1, g + 1, n, h0, h1, h => by
    rw [pow27] at h1
    rw [nmF_succ, nmF_succ, nmF_mono f g (n / 27) (by omega) (by omega) (by omega)]
theorem codeL_facts (l : List Nat) : (∀ c ∈ l, letB c = true) → l.length ≤ 8 → 0 ≤ codeL l ∧ codeL l < 27 ^ l.length ∧ noZ l.length (codeL l) = true ∧ nmF l.length (codeL l) = l ∧ (l ≠ [] → 0 < codeL l) := by
  refine snoc_rec (P := fun l => (∀ c ∈ l, letB c = true) → l.length ≤ 8 → 0 ≤ codeL l ∧ codeL l < 27 ^ l.length ∧ noZ l.length (codeL l) = true ∧ nmF l.length (codeL l) = l ∧ (l ≠ [] → 0 < codeL l)) (fun _ _ => ⟨by decide, by decide, rfl, rfl, fun h => absurd rfl h⟩) (fun l c ih h hl => ?_) l
  rw [List.length_append, List.length_singleton] at hl ⊢
  obtain ⟨a1, a2, a3, a4, _⟩ := ih (fun x hx => h x (by simp [hx])) (by omega)
  have hc := h c (by simp)
  unfold letB at hc
  simp only [Bool.and_eq_true, decide_eq_true_eq] at hc
  obtain ⟨b1, b2, b3⟩ := codeB_step (d := (c : Int) - 96) (by omega) a1 a2 a3 (by omega) (by omega)
  rw [codeL_snoc]
  refine ⟨by omega, b2, b3, ?_, fun _ => b1⟩
  rw [nmF_succ, if_neg (by omega), show (codeL l * 27 + ((c : Int) - 96)) / 27 = codeL l by omega, a4]
  congr 2
  omega
theorem name_code {s : Str} (h : nameS s = true) : codeB (codeL s.cps.toList) = true ∧ nmS (codeL s.cps.toList) = s := by
  unfold nameS at h
  simp only [Bool.and_eq_true, decide_eq_true_eq] at h
  obtain ⟨⟨h1, h2⟩, h3⟩ := h
  obtain ⟨a1, a2, a3, a4, a5⟩ := codeL_facts _ (List.all_eq_true.mp h3) h2
  have a5 := a5 (fun e => by rw [e] at h1; simp at h1)
  have p1 : (27 : Int) ^ s.cps.toList.length ≤ 27 ^ 8 := by
    have : ∀ m : Nat, m ≤ 8 → (27 : Int) ^ m ≤ 27 ^ 8 := by decide
    exact this _ h2
  constructor
  · unfold codeB
    rw [decide_eq_true (by omega : 1 ≤ codeL s.cps.toList), decide_eq_true (by omega), noZ_mono _ 8 _ a1 a2 h2, a3]
    rfl
  · unfold nmS
    rw [nmF_mono _ 8 _ a1 a2 h2, a4]
def CodeOfOk (f : List D → Sto → R D) (x : Nat) : Prop := ∀ (d : D) (st : Sto), d.pl = true → (∀ s, d = .str s → okS s) → f [d] st = match d with | .str s => if nameS s = true then .ok (.int (codeL s.cps.toList)) st else .exc x st | _ => .exc x st
theorem index_letter : ∀ n : Nat, n < 26 → Txt.index0 letters ⟨#[97 + n]⟩ = some n := by decide +kernel
theorem mIndex_letter {c : Nat} {st : Sto} (h : letB c = true) : mIndexS (.str letters) [.str ⟨#[c]⟩] st = .ok (.int ((c : Int) - 97)) st := by
  unfold letB at h
  simp only [Bool.and_eq_true, decide_eq_true_eq] at h
  have := index_letter (c - 97) (by omega)
  rw [show 97 + (c - 97) = c by omega] at this
  unfold mIndexS
  simp only [this]
  congr 2
  omega
theorem codeof_ok {Ph : Nat → List D → Sto → R D} {i x : Nat} (hn : NameOk (Ph i)) : CodeOfOk (runDef ⟨1, 3, true, g_code_of i x⟩ Ph) x := fun d st h hs => by
  have key : (runDef ⟨1, 3, true, g_code_of i x⟩ Ph [d] st).wp (fun v t => ∃ s, d = .str s ∧ nameS s = true ∧ v = .int (codeL s.cps.toList) ∧ t = st) (fun k t => nameD d = false ∧ k = x ∧ t = st) := by
    refine def_wp rfl rfl ?_
    unfold g_code_of
    trivial
    rw [hn d st h hs]
    trivial
    cases hd : nameD d with
    | false =>
      simp only [Bool.false_eq_true, false_implies, true_implies, true_and]
      exact cutSt_refl
    | true =>
      simp only [Bool.true_eq_false, false_implies, true_implies, and_true]
      cases d with
      | str s =>
        have hd : nameS s = true := hd
        have hal : ∀ c ∈ s.cps.toList, letB c = true := by
          unfold nameS at hd
          simp only [Bool.and_eq_true] at hd
          exact List.all_eq_true.mp hd.2
        have hz : iSeq (mVar 0) [some (.str s), some (.int 0), none] st = .ok (.vals (s.cps.toList.map fun c => .str ⟨#[c]⟩)) st := rfl
        rw [hz, w_ok]
        refine for_wp (fun k env t => t = st ∧ ∃ e, env = [some (.str s), some (.int (codeL (s.cps.toList.take k))), e]) _ ⟨rfl, none, rfl⟩ ?_ ?_
        · rintro k d env t hk ⟨rfl, e, rfl⟩
          simp only [items_vals, List.getElem?_map] at hk
          obtain ⟨c, hc, rfl⟩ := Option.map_eq_some_iff.mp hk
          refine ⟨_, rfl, ?_⟩
          trivial
          refine ⟨mul_small (by decide) (by decide), rfl, ?_⟩
          rw [show (D.str { cps := #[97, 98, 99, 100, 101, 102, 103, 104, 105, 106, 107, 108, 109, 110, 111, 112, 113, 114, 115, 116, 117, 118, 119, 120, 121, 122] }) = D.str letters from rfl, mIndex_letter (hal c (List.mem_of_getElem? hc))]
          trivial
          refine ⟨some (.str ⟨#[c]⟩), ?_⟩
          rw [take_snoc hc, codeL_snoc]
          congr 4
          omega
        · rintro env t ⟨rfl, e, rfl⟩
          trivial
          rw [List.take_length]
          exact ⟨s, rfl, hd, rfl⟩
      | _ => cases hd
  cases d with
  | str s =>
    by_cases hb : nameS s = true
    · simp only [if_pos hb]
      refine (key.mono (fun v t z => ?_) (fun k t z => ?_)).eq
      · obtain ⟨s', e1, e2, e3⟩ := z
        cases e1
        exact e3
      · have : nameS s = false := z.1
        rw [hb] at this
        cases this
    · simp only [if_neg hb]
      refine (key.mono (fun v t z => ?_) (fun k t z => z.2)).exq
      obtain ⟨s', e1, e2, e3⟩ := z
      cases e1
      exact hb e2
  | _ =>
    refine (key.mono (fun v t z => ?_) (fun k t z => z.2)).exq
    obtain ⟨s', e1, e2, e3⟩ := z
    cases e1
theorem lcodeN_ok {Ph : Nat → List D → Sto → R D} {s : Str} {st : Sto} (h : nameS s = true) : runDef ⟨1, 3, true, g__law_codeN⟩ Ph [.str s] st = .ok (.int (codeL s.cps.toList)) st := by
  refine def_pure rfl rfl ?_
  unfold g__law_codeN
  trivial
  have hz : iSeq (mVar 0) [some (.str s), some (.int 0), none] st = .ok (.vals (s.cps.toList.map fun c => .str ⟨#[c]⟩)) st := rfl
  rw [hz, w_ok]
  refine for_wp (fun k env t => t = st ∧ ∃ e, env = [some (.str s), some (.int (codeL (s.cps.toList.take k))), e]) _ ⟨rfl, none, rfl⟩ ?_ ?_
  · rintro k d env t hk ⟨rfl, e, rfl⟩
    simp only [items_vals, List.getElem?_map] at hk
    obtain ⟨c, hc, rfl⟩ := Option.map_eq_some_iff.mp hk
    refine ⟨_, rfl, ?_⟩
    trivial
    have e1 : bOrd [.str ⟨#[c]⟩] t = .ok (.int (c : Int)) t := rfl
    rw [e1]
    trivial
    refine ⟨mul_small (by decide) (by decide), some (.str ⟨#[c]⟩), ?_⟩
    rw [take_snoc hc, codeL_snoc]
    congr 4
    omega
  · rintro env t ⟨rfl, e, rfl⟩
    trivial
    rw [List.take_length]
end MI
namespace LK01
open PySem PySem.Spec PyProof.Rows L2 MX MI
local macro_rules | `(tactic| trivial) => `(tactic| simp only [w_ok, w_exc, w_C, w_bin, w_neg, w_and, w_or, w_not, w_ifE, w_args0, w_args, w_tup, w_lst, w_new, w_call, w_isI, w_chain, w_opt0, w_opt, w_sl, w_st, w_methL, w_methS, on_bl, ot_bl, w_add, w_addT, w_addL, w_addS, w_sub, w_mul, w_mod, w_div, w_pow, w_lt, w_le, w_gt, w_ge, w_eq, w_ne, w_eqB, w_neB, w_isB, w_isNB, w_lenT, w_lenL, w_tupL, w_tupT, w_listT, w_listL, w_ixT, w_ixL, w_slT, w_slL, w_stT, w_seq, w_skip, w_asg, w_asgT, w_expr, w_ret, w_sIf, w_raise, w_for, w_set, w_try, w_pick0, w_pick,
  mVar_app, List.getElem?_cons_zero, List.getElem?_cons_succ, List.set_cons_zero, List.set_cons_succ, startD, List.map_cons, List.map_nil, List.length_cons, List.length_nil, List.length_map, Nat.zero_add, Nat.reduceAdd, Nat.reduceSub, List.replicate, List.cons_append, List.nil_append, gTupV_app, gVars_nil, gVars_cons, gVar_app, Option.some.injEq, exists_eq_left', wipeD_nil, wipeD_cons, atI0, atI1, atI2,
  decide_eq_true_eq, decide_eq_false_iff_not, Bool.not_eq_true', Bool.not_eq_false', Int.reduceLT, Int.reduceLE, Int.reduceAdd, Int.reduceMul, Int.reduceSub, Int.reduceNeg, true_and, and_true, Bool.true_eq_false, Bool.false_eq_true, false_implies, implies_true, true_implies, Nat.reduceLeDiff, fz_same, ii_int_int, ii_bool_int, ii_int_bl, ii_bool_bl, ii_tuple_tup, ii_str_str, ii_list_lst, ii_list_tup, ii_tuple_lst, ii_tuple_int, ii_list_int, ii_str_int, ii_str_tup, ii_int_str, ii_int_tup, ii_int_lst, ii_int_non, ii_bool_str, ii_tuple_str, ii_tuple_non, ii_list_non, ii_str_non, not_true_eq_false, not_false_eq_true, holds_vals, items_vals, eq_self])
theorem nm_code : ∀ (f : Nat) (n : Int), 0 ≤ n → n < 27 ^ f → codeL (nmF f n) = n
  | 0, n, h0, h1 => by simp at h1; show (0 : Int) = n; omega
  | f + 1, n, h0, h1 => by
    rw [pow27] at h1
    rw [nmF_succ]
    by_cases h : n = 0
    · rw [if_pos h, h]; rfl
    · rw [if_neg h, codeL_snoc, nm_code f (n / 27) (by omega) (by omega)]
      omega
theorem nm_let : ∀ (f : Nat) (n : Int), 0 ≤ n → noZ f n = true → ∀ c ∈ nmF f n, letB c = true
  | 0, _, _, _, c, hc => by cases hc
  | f + 1, n, h0, hz, c, hc => by
    rw [nmF_succ] at hc
    unfold noZ at hz
    by_cases h : n = 0
    · rw [if_pos h] at hc; cases hc
    · rw [if_neg h, List.mem_append] at hc
      simp only [decide_eq_false h, Bool.false_or, Bool.and_eq_true, Bool.not_eq_true', decide_eq_false_iff_not] at hz
      rcases hc with hc | hc
      · exact nm_let f (n / 27) (by omega) hz.2 c hc
      · rw [List.mem_singleton.mp hc]
        unfold letB
        simp only [Bool.and_eq_true, decide_eq_true_eq]
        omega
theorem code_nm {c : Int} (h : codeB c = true) : nameS (nmS c) = true ∧ codeL (nmS c).cps.toList = c ∧ (nmS c).length ≤ 8 := by
  unfold codeB at h
  simp only [Bool.and_eq_true, decide_eq_true_eq] at h
  obtain ⟨⟨h1, h2⟩, h3⟩ := h
  have e : (nmS c).cps.toList = nmF 8 c := rfl
  have hl := nmF_len 8 c
  have hc := nm_code 8 c (by omega) (by omega)
  refine ⟨?_, by rw [e]; exact hc, by rw [str_len, e]; exact hl⟩
  unfold nameS
  rw [e]
  simp only [Bool.and_eq_true, decide_eq_true_eq, List.all_eq_true]
  refine ⟨⟨?_, hl⟩, nm_let 8 c (by omega) h3⟩
  cases hn : nmF 8 c with
  | nil => rw [hn] at hc; have : (0 : Int) = c := hc; omega
  | cons a b => simp
section
variable {Ph : Nat → List D → Sto → R D}
def IsCodeP (f : List D → Sto → R D) : Prop := ∀ (c : Int) (st : Sto), f [.int c] st = .ok (.bl (codeB c)) st
theorem iscode_okL : IsCodeP (runDef d__law_is_code Ph) := fun c st => by
  have c27 : CDivW 0 27 := by decide
  have p8 : CPow 27 8 := by decide
  refine def_pure rfl rfl ?_
  show (b__law_is_code Ph [some (.int c)] st).wp _ _ _
  unfold b__law_is_code
  trivial
  have e8 : (27 : Int) ^ (8 : Int).toNat = 282429536481 := by decide
  refine ⟨fun h1 => ?_, fun h1 => ⟨p8, ?_⟩⟩
  · unfold codeB
    rw [decide_eq_false (by omega : ¬ 1 ≤ c)]
    rfl
  rw [e8]
  refine ⟨fun h2 => ?_, fun h2 => ?_⟩
  · unfold codeB
    rw [decide_eq_false (by omega : ¬ c < 282429536481)]
    simp
  have hc : codeB c = noZ 8 c := by
    unfold codeB
    rw [decide_eq_true (by omega : 1 ≤ c), decide_eq_true (by omega : c < 282429536481)]
    rfl
  rw [hc]
  refine while_wp (fun k env t => ∃ (d : Int), env = [some (.int d)] ∧ t = st ∧ 0 ≤ d ∧ d < 27 ^ k ∧ k ≤ 8 ∧ noZ k d = noZ 8 c) ?_ 1000 8 _ _ (by omega) ⟨c, rfl, rfl, by omega, by omega, by omega, rfl⟩
  rintro k env t ⟨d, rfl, rfl, d0, d1, k8, e1⟩
  trivial
  refine ⟨fun hd => ?_, fun hd => ?_⟩
  · cases k with
    | zero => simp at d1; omega
    | succ k =>
      have hd0 : ¬ d = 0 := by omega
      rw [pow27] at d1
      refine ⟨fun hm => ?_, fun hm => ?_⟩
      · rw [← e1]
        unfold noZ
        rw [decide_eq_false hd0, decide_eq_true hm]
        rfl
      · refine ⟨divOk c27, k, Nat.lt_succ_self k, d / 27, rfl, by omega, by omega, by omega, ?_⟩
        rw [← e1]
        conv => rhs; unfold noZ
        rw [decide_eq_false hd0, decide_eq_false hm]
        simp
  · have hd0 : d = 0 := by omega
    subst hd0
    rw [← e1]
    cases k <;> simp [noZ]
def WordP (f : List D → Sto → R D) : Prop := ∀ (n : Int) (st : Sto), 0 ≤ n → ∃ s, nameS s = true ∧ f [.int n] st = .ok (.str s) st
theorem word_ok : WordP (runDef d__law_word Ph) := fun n st h0 => by
  have c8 : CDivW 0 8 := by decide
  have c3 : CDivW 0 3 := by decide
  have lz : letters.length ≤ sizeLine := small_le (by decide)
  have key : (runDef d__law_word Ph [.int n] st).wp (fun v t => (∃ s, nameS s = true ∧ v = .str s) ∧ t = st) nX := by
    refine def_wp rfl rfl ?_
    show (b__law_word Ph [some (.int n), none, none, none] st).wp _ _ _
    unfold b__law_word
    have hrg : iRange1 (mBin opAdd (mC (.int 1)) (mBin opMod (mVar 0) (mC (.int 8)))) [some (.int n), some (.str letters), some (.str (⟨#[]⟩ : Str)), none] st = .ok (.vals (rangeD 0 (1 + n % 8).toNat)) st := by
      refine iRange1_nat (R.wp.eq ?_) (by omega)
      rw [w_bin, w_C, w_bin]
      simp only [mVar_app, List.getElem?_cons_zero, List.getElem?_cons_succ, w_ok, w_C]
      rw [w_mod]
      refine ⟨by decide, ?_⟩
      rw [w_add]
      refine ⟨?_, rfl⟩
      congr 1
      omega
    rw [w_seq, w_asg, w_C]
    simp only [List.set_cons_zero, List.set_cons_succ]
    rw [w_seq, w_asg, w_C]
    simp only [List.set_cons_zero, List.set_cons_succ]
    rw [w_seq, w_for]
    rw [show (D.str (⟨#[97, 98, 99, 100, 101, 102, 103, 104, 105, 106, 107, 108, 109, 110, 111, 112, 113, 114, 115, 116, 117, 118, 119, 120, 121, 122]⟩ : Str)) = D.str letters from rfl, hrg, w_ok, items_vals]
    refine for_wp (fun i env t => t = st ∧ i ≤ 8 ∧ ∃ (m : Int) (s : Str) (e : Option D), env = [some (.int m), some (.str letters), some (.str s), e] ∧ 0 ≤ m ∧ s.cps.toList.length = i ∧ ∀ c ∈ s.cps.toList, letB c = true) _ ⟨rfl, by omega, n, _, none, rfl, h0, rfl, by simp⟩ ?_ ?_
    · rintro i d env t hdi ⟨rfl, hi8, m, s, e, rfl, m0, sl, sc⟩
      obtain ⟨hi, rfl⟩ := rangeD_at hdi
      refine ⟨_, rfl, ?_⟩
      simp only [List.set_cons_zero, List.set_cons_succ]
      rw [w_seq, w_asg, w_bin]
      simp only [mVar_app, List.getElem?_cons_zero, List.getElem?_cons_succ, w_ok, w_C]
      rw [w_div]
      refine ⟨divOk c8, ?_⟩
      simp only [List.set_cons_zero, List.set_cons_succ]
      rw [w_seq, w_asg, w_bin]
      simp only [mVar_app, List.getElem?_cons_zero, List.getElem?_cons_succ, w_ok]
      rw [w_bin]
      simp only [mVar_app, List.getElem?_cons_zero, List.getElem?_cons_succ, w_ok]
      rw [w_bin, w_bin]
      simp only [mVar_app, List.getElem?_cons_zero, List.getElem?_cons_succ, w_ok]
      rw [w_bin]
      simp only [mVar_app, List.getElem?_cons_zero, List.getElem?_cons_succ, w_ok, w_C]
      rw [w_add, w_mul]
      refine ⟨mul_small (by omega) (by omega), ?_⟩
      rw [w_mod]
      refine ⟨by decide, ?_⟩
      rw [w_ixS]
      refine ⟨lz, _, letter_ix (by omega) (by omega), ?_⟩
      rw [w_addS]
      generalize hx : m / 8 * (0 + (i : Int) + 1) % 26 = q
      have ln : (⟨#[97 + q.toNat]⟩ : Str).length = 1 := rfl
      refine ⟨small_le (by rw [ln, str_len]; omega), ?_⟩
      simp only [List.set_cons_zero, List.set_cons_succ]
      rw [w_seq, w_asg, w_bin]
      simp only [mVar_app, List.getElem?_cons_zero, List.getElem?_cons_succ, w_ok, w_C]
      rw [w_div]
      refine ⟨divOk c3, ?_⟩
      simp only [List.set_cons_zero, List.set_cons_succ]
      rw [w_skip]
      refine ⟨True.intro, rfl, by omega, _, _, _, rfl, by omega, ?_, fun c hc => ?_⟩
      · rw [str_app_cps, List.length_append, sl]
        rfl
      · rw [str_app_cps, List.mem_append] at hc
        rcases hc with hc | hc
        · exact sc c hc
        · have hc : c = 97 + q.toNat := by simpa using hc
          rw [hc]
          unfold letB
          simp only [Bool.and_eq_true, decide_eq_true_eq]
          omega
    · rintro env t ⟨rfl, hi8, m, s, e, rfl, m0, sl, sc⟩
      rw [w_seq, w_ret]
      simp only [mVar_app, List.getElem?_cons_zero, List.getElem?_cons_succ, w_ok]
      rw [freeze_refl, w_ok]
      refine ⟨⟨s, ?_, rfl⟩, rfl⟩
      have hlen : (rangeD 0 (1 + n % 8).toNat).length = (1 + n % 8).toNat := by simp [rangeD]
      unfold nameS
      simp only [Bool.and_eq_true, decide_eq_true_eq, List.all_eq_true]
      rw [sl]
      exact ⟨⟨by omega, by omega⟩, sc⟩
  cases e : runDef d__law_word Ph [.int n] st with
  | ok v t =>
    rw [e] at key
    obtain ⟨⟨s, a, rfl⟩, rfl⟩ := w_ok.mp key
    exact ⟨s, a, rfl⟩
  | exc c t => rw [e] at key; exact (w_exc.mp key).elim
  | stuck => rw [e] at key; rw [wp_eq] at key; exact key.elim
end
section
variable {Ph : Nat → List D → Sto → R D}
def RefsP (g f : List D → Sto → R D) : Prop := ∀ (d : D) (st : Sto), g [d] st = .exc 0 st → f [d] st = .ok (.bl true) st
theorem refname_ok : RefsP (Ph 1) (runDef d__law_refuses_name Ph) := fun d st h => by
  refine runDef_rt rfl ?_ rfl
  show b__law_refuses_name Ph [some d] st = _
  have g4 : Sub 0 0 = true := rfl
  simp [b__law_refuses_name, sSeq, sTry, sTry.pick, sExpr, sRet, h, SR.then, g4]
theorem refcode_ok : RefsP (Ph 2) (runDef d__law_refuses_code Ph) := fun d st h => by
  refine runDef_rt rfl ?_ rfl
  show b__law_refuses_code Ph [some d] st = _
  have g4 : Sub 0 0 = true := rfl
  simp [b__law_refuses_code, sSeq, sTry, sTry.pick, sExpr, sRet, h, SR.then, g4]
def LNumP (f : List D → Sto → R D) : Prop := ∀ (c : Int) (st : Sto), f [.int c] st = .ok (.bl true) st
theorem lnum_ok : LNumP (runDef d__law_number Ph) := fun c st => by
  refine runDef_rt rfl ?_ rfl
  show b__law_number Ph [some (.int c)] st = _
  simp [b__law_number, sSeq, sRet]
def LCodeP (f : List D → Sto → R D) : Prop := ∀ (s : Str) (st : Sto), nameS s = true → f [.str s] st = .ok (.int (codeL s.cps.toList)) st
theorem lcodeP_ok : LCodeP (runDef d__law_code Ph) := fun s st h => lcodeN_ok h
def NoCodeP (f : List D → Sto → R D) : Prop := ∀ (d : D) (st : Sto), (isInst "int" d st = .ok (.bl false) st ∨ ∃ b, d = .bl b) → f [d] st = .exc 0 st
theorem nocode_ok : NoCodeP (runDef d_name_of Ph) := fun d st h => by
  refine def_raise rfl rfl ?_
  show (b_name_of Ph [some d, none] st).wp _ _ _
  unfold b_name_of
  rw [w_seq, w_sIf, w_or, w_not, w_isI]
  simp only [mVar_app, List.getElem?_cons_zero, List.getElem?_cons_succ, w_ok]
  rcases h with h | ⟨b, rfl⟩
  · rw [h, w_ok, on_bl]
    refine ⟨fun z => (by cases z), fun _ => on_bl.mpr ⟨fun _ => ot_bl.mpr ⟨fun _ => ?_, fun z => (by cases z)⟩, fun z => (by cases z)⟩⟩
    rw [w_seq, w_raise]
    exact ⟨rfl, rfl⟩
  · have e1 : isInst "int" (.bl b) st = .ok (.bl true) st := rfl
    have e2 : isInst "bool" (.bl b) st = .ok (.bl true) st := rfl
    rw [e1, w_ok, on_bl]
    refine ⟨fun _ => on_bl.mpr ⟨fun z => (by cases z), fun _ => ?_⟩, fun z => (by cases z)⟩
    rw [w_or, w_isI]
    simp only [mVar_app, List.getElem?_cons_zero, List.getElem?_cons_succ, w_ok]
    rw [e2, w_ok, on_bl]
    refine ⟨fun _ => ot_bl.mpr ⟨fun _ => ?_, fun z => (by cases z)⟩, fun z => (by cases z)⟩
    rw [w_seq, w_raise]
    exact ⟨rfl, rfl⟩
def FitsN (f : List D → Sto → R D) : Prop := ∀ (s : Str) (st : Sto), nameS s = true → f [.str s] st = .ok (.bl true) st
theorem fitsn_ok (hc : CodeOfOk (Ph 1) 0) (hn : NameOfOk (Ph 2) 0) (hl : LCodeP (Ph 6)) (hu : LNumP (Ph 11)) : FitsN (runDef d__law_fits_name Ph) := fun s st h => by
  obtain ⟨k1, k2⟩ := name_code h
  have hok := nameS_ok h
  have e1 := hc (.str s) st rfl fun z e => by cases e; exact hok
  simp only [if_pos h] at e1
  have e2 := hn (codeL s.cps.toList) st
  rw [if_pos k1, k2] at e2
  have e3 := hl s st h
  have e4 := hu (codeL s.cps.toList) st
  have hS : isInst "str" (.str s) st = .ok (.bl true) st := rfl
  generalize codeL s.cps.toList = c at *
  refine def_pure rfl rfl ?_
  show (b__law_fits_name Ph [some (.str s), none, none] st).wp _ _ _
  unfold b__law_fits_name
  rw [w_seq, w_asg, w_call, w_args]
  simp only [mVar_app, List.getElem?_cons_zero, List.getElem?_cons_succ, w_ok, w_args0]
  rw [e1, w_ok]
  simp only [List.set_cons_zero, List.set_cons_succ]
  rw [w_seq, w_sIf, w_or, w_not, w_call, w_args]
  simp only [mVar_app, List.getElem?_cons_zero, List.getElem?_cons_succ, w_ok, w_args0]
  rw [e4, w_ok, on_bl]
  refine ⟨fun _ => on_bl.mpr ⟨fun z => (by cases z), fun _ => ?_⟩, fun z => (by cases z)⟩
  rw [w_bin]
  simp only [mVar_app, List.getElem?_cons_zero, List.getElem?_cons_succ, w_ok]
  rw [w_call, w_args]
  simp only [mVar_app, List.getElem?_cons_zero, List.getElem?_cons_succ, w_ok, w_args0]
  rw [e3, w_ok, w_ne, ot_bl]
  refine ⟨fun z => (by simp at z), fun _ => ?_⟩
  rw [w_skip, w_seq, w_asg, w_call, w_args]
  simp only [mVar_app, List.getElem?_cons_zero, List.getElem?_cons_succ, w_ok, w_args0]
  rw [e2, w_ok]
  simp only [List.set_cons_zero, List.set_cons_succ]
  rw [w_seq, w_ret, w_and, w_isI]
  simp only [mVar_app, List.getElem?_cons_zero, List.getElem?_cons_succ, w_ok]
  rw [hS, w_ok, on_bl]
  refine ⟨fun _ => ?_, fun z => (by cases z)⟩
  rw [w_bin]
  simp only [mVar_app, List.getElem?_cons_zero, List.getElem?_cons_succ, w_ok]
  rw [w_eqS hok.1 hok.1]
  simp
def FitsC (f : List D → Sto → R D) : Prop := ∀ (c : Int) (st : Sto), f [.int c] st = .ok (.bl true) st
theorem fitsc_ok {g : List D → Sto → R D} (hn : NameOfOk (Ph 2) 0) (hg : NameOfOk g 0) (hl : LCodeP (Ph 6)) (hi : IsCodeP (Ph 8)) (hr : RefsP g (Ph 10)) : FitsC (runDef d__law_fits_code Ph) := fun c st => by
  have e1 := hi c st
  have e2 := hn c st
  have e2' := hg c st
  refine def_pure rfl rfl ?_
  show (b__law_fits_code Ph [some (.int c), none] st).wp _ _ _
  unfold b__law_fits_code
  rw [w_seq, w_sIf, w_not, w_call, w_args]
  simp only [mVar_app, List.getElem?_cons_zero, List.getElem?_cons_succ, w_ok, w_args0]
  rw [e1, w_ok]
  cases hb : codeB c with
  | false =>
    rw [if_neg (by rw [hb]; simp)] at e2'
    have e3 := hr (.int c) st e2'
    rw [on_bl]
    refine ⟨fun z => (by cases z), fun _ => ot_bl.mpr ⟨fun _ => ?_, fun z => (by cases z)⟩⟩
    rw [w_seq, w_ret, w_call, w_args]
    simp only [mVar_app, List.getElem?_cons_zero, List.getElem?_cons_succ, w_ok, w_args0]
    rw [e3, w_ok]
    first | exact ⟨rfl, rfl⟩ | exact ⟨True.intro, rfl⟩
  | true =>
    obtain ⟨k1, k2, k3⟩ := code_nm hb
    rw [if_pos hb] at e2
    have e3 := hl (nmS c) st k1
    rw [k2] at e3
    have hS : isInst "str" (.str (nmS c)) st = .ok (.bl true) st := rfl
    have hL : bLen [.str (nmS c)] st = .ok (.int (nmS c).length) st := by
      have : (nmS c).length ≤ sizeLine := small_le (by omega)
      simp [bLen, lenD, this]
    generalize nmS c = s at *
    rw [on_bl]
    refine ⟨fun _ => ot_bl.mpr ⟨fun z => (by cases z), fun _ => ?_⟩, fun z => (by cases z)⟩
    rw [w_skip, w_seq, w_asg, w_call, w_args]
    simp only [mVar_app, List.getElem?_cons_zero, List.getElem?_cons_succ, w_ok, w_args0]
    rw [e2, w_ok]
    simp only [List.set_cons_zero, List.set_cons_succ]
    rw [w_seq, w_ret, w_and, w_isI]
    simp only [mVar_app, List.getElem?_cons_zero, List.getElem?_cons_succ, w_ok]
    rw [hS, w_ok, on_bl]
    refine ⟨fun _ => ?_, fun z => (by cases z)⟩
    rw [w_and, w_bin, w_call, w_args]
    simp only [mVar_app, List.getElem?_cons_zero, List.getElem?_cons_succ, w_ok, w_args0]
    rw [e3, w_ok, w_eq, on_bl]
    refine ⟨fun _ => ?_, fun z => (by simp at z)⟩
    rw [w_bin, w_call, w_args]
    simp only [mVar_app, List.getElem?_cons_zero, List.getElem?_cons_succ, w_ok, w_args0]
    rw [hL, w_ok, w_C, w_le]
    refine ⟨?_, rfl⟩
    rw [decide_eq_true (by omega)]
def trs : List (List Str) := [TR_NoName, TR_NoView, TR_NoDeed, TR_NoThing, TR_Taken, TR_TooMany, TR_TooDeep, TR_Within, TR_NoLeaf, TR_NoRoom, TR_NoHouse, TR_NoSnap, TR_NoEntry, TR_Full, TR_Lost, TR_NoDisk, TR_NoSent, TR_Other, TR_NotOpen, TR_NoWord]
def nms : List Str := ["NoName", "NoView", "NoDeed", "NoThing", "Taken", "TooMany", "TooDeep", "Within", "NoLeaf", "NoRoom", "NoHouse", "NoSnap", "NoEntry", "Full", "Lost", "NoDisk", "NoSent", "Other", "NotOpen", "NoWord"]
theorem isv_run {tr : List Str} {a : ME} {env : DEnv} {st : Sto} {l : Nat} {c : Str} (ha : a env st = .ok (.ref l) st) (hl : st[l]? = some (.exn c)) (hc : c ∈ EXV) : mIsV EXV tr a env st = .ok (.bl (decide (c ∈ tr))) st := by
  unfold mIsV
  rw [ha, bind_ok]
  unfold isV
  simp only [hl, if_pos hc]
theorem lst_V {env : DEnv} {st : Sto} {l : Nat} {c : Str} {a : ME} (ha : a env st = .ok (.ref l) st) (hl : st[l]? = some (.exn c)) (hc : c ∈ EXV) (ts : List (List Str)) (h : ts.length ≤ 1000) : mLst (ts.map fun tr => mIsV EXV tr a) env st = .ok (.lst (ts.map fun tr => .bl (decide (c ∈ tr)))) st := by
  have e : ∀ us : List (List Str), mArgs (us.map fun tr => mIsV EXV tr a) env st = .ok (us.map fun tr => D.bl (decide (c ∈ tr))) st := by
    intro us
    induction us with
    | nil => rfl
    | cons y r ih => rw [List.map_cons, mArgs_cons, isv_run ha hl hc, bind_ok, ih, bind_ok]; rfl
  rw [mLst_app, e, bind_ok, if_pos (small_le (by simp; omega))]
theorem add_lls {a b : List D} {st : Sto} (h : a.length + b.length ≤ 1000) : opAdd (.lst a) (.lst b) st = .ok (.lst (a ++ b)) st := by
  rw [opAdd_ll, if_pos (small_le (by omega))]
def KindsP (f : List D → Sto → R D) : Prop := ∀ (l : Nat) (c : Str) (st : Sto), st[l]? = some (.exn c) → c ∈ EXV → f [.ref l] st = .ok (.lst (trs.map fun tr => .bl (decide (c ∈ tr)))) st
theorem kinds_ok : KindsP (runDef d__law_kinds Ph) := fun l c st hl hc => by
  have ev : ∀ (ts : List (List Str)) (b : Option D), ts.length ≤ 1000 → mLst (ts.map fun tr => mIsV EXV tr (mVar 0)) [some (.ref l), b] st = .ok (.lst (ts.map fun tr => .bl (decide (c ∈ tr)))) st := fun ts b h => lst_V (by simp) hl hc ts h
  have e1 := fun b => ev [TR_NoName, TR_NoView, TR_NoDeed, TR_NoThing] b (by simp)
  have e2 := fun b => ev [TR_Taken, TR_TooMany, TR_TooDeep] b (by simp)
  have e3 := fun b => ev [TR_Within, TR_NoLeaf, TR_NoRoom] b (by simp)
  have e4 := fun b => ev [TR_NoHouse, TR_NoSnap, TR_NoEntry] b (by simp)
  have e5 := fun b => ev [TR_Full, TR_Lost, TR_NoDisk, TR_NoSent] b (by simp)
  have e6 := fun b => ev [TR_Other, TR_NotOpen, TR_NoWord] b (by simp)
  refine def_pure rfl rfl ?_
  show ((sSeq (sAsg (mLst ([TR_NoName, TR_NoView, TR_NoDeed, TR_NoThing].map fun tr => mIsV EXV tr (mVar 0))) (gVar 1))
    (sSeq (sAsg (mBin opAdd (mVar 1) (mLst ([TR_Taken, TR_TooMany, TR_TooDeep].map fun tr => mIsV EXV tr (mVar 0)))) (gVar 1))
    (sSeq (sAsg (mBin opAdd (mVar 1) (mLst ([TR_Within, TR_NoLeaf, TR_NoRoom].map fun tr => mIsV EXV tr (mVar 0)))) (gVar 1))
    (sSeq (sAsg (mBin opAdd (mVar 1) (mLst ([TR_NoHouse, TR_NoSnap, TR_NoEntry].map fun tr => mIsV EXV tr (mVar 0)))) (gVar 1))
    (sSeq (sAsg (mBin opAdd (mVar 1) (mLst ([TR_Full, TR_Lost, TR_NoDisk, TR_NoSent].map fun tr => mIsV EXV tr (mVar 0)))) (gVar 1))
    (sSeq (sRet (mBin opAdd (mVar 1) (mLst ([TR_Other, TR_NotOpen, TR_NoWord].map fun tr => mIsV EXV tr (mVar 0)))))
    sSkip)))))) [some (.ref l), none] st).wp _ _ _
  rw [w_seq, w_asg, e1, w_ok]
  simp only [List.set_cons_zero, List.set_cons_succ]
  rw [w_seq, w_asg, w_bin]
  simp only [mVar_app, List.getElem?_cons_zero, List.getElem?_cons_succ, w_ok]
  rw [e2, w_ok, add_lls (by simp), w_ok]
  simp only [List.set_cons_zero, List.set_cons_succ]
  rw [w_seq, w_asg, w_bin]
  simp only [mVar_app, List.getElem?_cons_zero, List.getElem?_cons_succ, w_ok]
  rw [e3, w_ok, add_lls (by simp), w_ok]
  simp only [List.set_cons_zero, List.set_cons_succ]
  rw [w_seq, w_asg, w_bin]
  simp only [mVar_app, List.getElem?_cons_zero, List.getElem?_cons_succ, w_ok]
  rw [e4, w_ok, add_lls (by simp), w_ok]
  simp only [List.set_cons_zero, List.set_cons_succ]
  rw [w_seq, w_asg, w_bin]
  simp only [mVar_app, List.getElem?_cons_zero, List.getElem?_cons_succ, w_ok]
  rw [e5, w_ok, add_lls (by simp), w_ok]
  simp only [List.set_cons_zero, List.set_cons_succ]
  rw [w_seq, w_ret, w_bin]
  simp only [mVar_app, List.getElem?_cons_zero, List.getElem?_cons_succ, w_ok]
  rw [e6, w_ok, add_lls (by simp), w_ok]
  exact ⟨rfl, rfl⟩
theorem args_X {env : DEnv} : ∀ (ns : List Str) (st : Sto), mArgs (ns.map mExn) env st = .ok ((List.range ns.length).map fun i => .ref (st.length + i)) (st ++ ns.map .exn)
  | [], st => by simp
  | n :: ns, st => by
    rw [List.map_cons, mArgs_cons]
    show (R.ok (D.ref st.length) (st ++ [.exn n])).bind _ = _
    have ih := args_X (env := env) ns (st ++ [SO.exn n])
    rw [bind_ok, ih, bind_ok, List.length_cons, List.range_succ_eq_map]
    simp [Nat.add_assoc, Nat.add_comm 1]
theorem lst_X {env : DEnv} {ns : List Str} {st : Sto} (h : ns.length ≤ 1000) : mLst (ns.map mExn) env st = .ok (.lst ((List.range ns.length).map fun i => .ref (st.length + i))) (st ++ ns.map .exn) := by
  rw [mLst_app, args_X, bind_ok, if_pos (small_le (by simp; omega))]
theorem row_ok : ∀ i < 20, (trs.map fun tr => decide ((nms.getD i "") ∈ tr)) = (List.range 20).map fun j => decide (j = i) := by decide +kernel
theorem nms_ok : ∀ i < 20, nms.getD i "" ∈ EXV ∧ nms.getD i "" ∈ TR_ShelfError ∧ nms.getD i "" ∈ TR_ValueError := by decide +kernel
end
theorem cut_appN (st new : Sto) : cutSt st (st ++ new) = st := by
  cases new with
  | nil => simp
  | cons o new =>
    unfold cutSt
    rw [if_neg (by simp), if_pos (show Same st (st ++ o :: new) from fun i o' hi ho => Or.inl (by rw [List.getElem?_append_left hi] at ho; exact ho))]
    simp
def nmsA : List Str := ["NoName", "NoView", "NoDeed", "NoThing", "Taken", "TooMany", "TooDeep", "Within", "NoLeaf", "NoRoom"]
def nmsB : List Str := ["NoHouse", "NoSnap", "NoEntry", "Full", "Lost", "NoDisk", "NoSent", "Other", "NotOpen"]
def nmsC : List Str := ["NoWord"]
theorem eA : [mExn "NoName", mExn "NoView", mExn "NoDeed", mExn "NoThing", mExn "Taken", mExn "TooMany", mExn "TooDeep", mExn "Within", mExn "NoLeaf", mExn "NoRoom"] = nmsA.map mExn := rfl
theorem eB : [mExn "NoHouse", mExn "NoSnap", mExn "NoEntry", mExn "Full", mExn "Lost", mExn "NoDisk", mExn "NoSent", mExn "Other", mExn "NotOpen"] = nmsB.map mExn := rfl
theorem eC : [mExn "NoWord"] = nmsC.map mExn := rfl
theorem body_eq {Ph : Nat → List D → Sto → R D} : b__law_refusals_right Ph = (sSeq (sAsg (mLst (nmsA.map mExn)) (gVar 0))
    (sSeq (sAsg (mBin opAdd (mVar 0) (mLst (nmsB.map mExn))) (gVar 0))
    (sSeq (sFor (iEnumM (mBin opAdd (mVar 0) (mLst (nmsC.map mExn)))) (gTupV [1, 2])
      (sSeq (sIf (mOr (mNot (mIsV EXV TR_ShelfError (mVar 2))) (mNot (mIsV EXV TR_ValueError (mVar 2))))
        (sSeq (sRet (mC (.bl false))) sSkip) sSkip)
      (sSeq (sIf (mBin opNe (mCall (Ph 14) [(mVar 2)]) (mComp (iRange1 (mC (.int 20))) [3] (gVar 3) none (mBin opEq (mVar 3) (mVar 1))))
        (sSeq (sRet (mC (.bl false))) sSkip) sSkip)
      sSkip)))
    (sSeq (sRet (mC (.bl true))) sSkip)))) := by
  unfold b__law_refusals_right
  rw [eA, eB, eC]
theorem nms_cut : nms = nmsA ++ nmsB ++ nmsC := rfl
theorem refs_cut (n : Nat) : (List.range 10).map (fun i => D.ref (n + i)) ++ (List.range 9).map (fun i => D.ref (n + 10 + i)) ++ (List.range 1).map (fun i => D.ref (n + 19 + i)) = (List.range 20).map fun i => D.ref (n + i) := by
  simp only [Nat.add_assoc]
  rfl
section
variable {Ph : Nat → List D → Sto → R D}
theorem def_pure_app {d : DefR} {Ph : Nat → List D → Sto → R D} {ds : List D} {st new : Sto} {v : D} (ha : ds.length = d.arity) (hf : d.frz = true) (hv : below st.length v = true) (hr : ∀ l, v ≠ .ref l) (h : (d.body Ph (startD d.slots ds) st).wp (fun _ _ => False) (fun u t => u = v ∧ t = st ++ new) nXS) : runDef d Ph ds st = .ok v st := by
  have key : (runDef d Ph ds st).wp (fun u t => u = v ∧ t = st) nX := by
    refine def_wp ha hf (SR.wp.mono h (fun _ _ z => z.elim) (fun u t z => ?_) fun _ _ _ z => z.elim)
    obtain ⟨rfl, rfl⟩ := z
    have : freeze st u (st ++ new) = .ok u st := by
      unfold freeze
      by_cases hl : (st ++ new).length = st.length
      · have : new = [] := List.length_eq_zero_iff.mp (by simp at hl; simpa using hl)
        rw [this, List.append_nil]
        simp
      · rw [if_neg hl, if_pos (show Same st (st ++ new) from fun i o hi ho => Or.inl (by rw [List.getElem?_append_left hi] at ho; exact ho))]
        have e := cut_appN st new
        cases u with
        | ref l => exact absurd rfl (hr l)
        | _ => simp [hv, e]
    rw [this, w_ok]
    exact ⟨rfl, rfl⟩
  exact key.eq
def RightP (f : List D → Sto → R D) : Prop := ∀ st : Sto, f [] st = .ok (.bl true) st
theorem right_ok (hk : KindsP (Ph 14)) : RightP (runDef d__law_refusals_right Ph) := fun st => by
  have x1 : ∀ env (S : Sto), mLst (nmsA.map mExn) env S = .ok (.lst ((List.range 10).map fun i => .ref (S.length + i))) (S ++ nmsA.map .exn) := fun env S => lst_X (ns := nmsA) (by simp [nmsA])
  have x2 : ∀ env (S : Sto), mLst (nmsB.map mExn) env S = .ok (.lst ((List.range 9).map fun i => .ref (S.length + i))) (S ++ nmsB.map .exn) := fun env S => lst_X (ns := nmsB) (by simp [nmsB])
  have x3 : ∀ env (S : Sto), mLst (nmsC.map mExn) env S = .ok (.lst ((List.range 1).map fun i => .ref (S.length + i))) (S ++ nmsC.map .exn) := fun env S => lst_X (ns := nmsC) (by simp [nmsC])
  obtain ⟨S, hS⟩ : ∃ S, S = st ++ nmsA.map SO.exn ++ nmsB.map SO.exn ++ nmsC.map SO.exn := ⟨_, rfl⟩
  have hS2 : S = st ++ nms.map SO.exn := by
    rw [hS, nms_cut, List.map_append, List.map_append, List.append_assoc, List.append_assoc, List.append_assoc]
  have hL : (List.range 10).map (fun i => D.ref (st.length + i)) ++ (List.range 9).map (fun i => D.ref ((st ++ nmsA.map SO.exn).length + i)) ++ (List.range 1).map (fun i => D.ref ((st ++ nmsA.map SO.exn ++ nmsB.map SO.exn).length + i)) = (List.range 20).map fun i => D.ref (st.length + i) := by
    have l1 : (st ++ nmsA.map SO.exn).length = st.length + 10 := by
      rw [List.length_append, List.length_map, show nmsA.length = 10 from rfl]
    have l2 : (st ++ nmsA.map SO.exn ++ nmsB.map SO.exn).length = st.length + 19 := by
      rw [List.length_append, l1, List.length_map, show nmsB.length = 9 from rfl]
    rw [l1, l2]
    exact refs_cut _
  have hat : ∀ i, i < 20 → S[st.length + i]? = some (.exn (nms.getD i "")) := fun i hi => by
    rw [hS2, List.getElem?_append_right (by omega), Nat.add_sub_cancel_left, List.getElem?_map]
    have : nms.length = 20 := rfl
    rw [List.getElem?_eq_getElem (by omega), List.getD_eq_getElem?_getD, List.getElem?_eq_getElem (by omega)]
    rfl
  refine def_pure_app (new := nms.map SO.exn) rfl rfl rfl (fun l z => by cases z) ?_
  have e0 : startD d__law_refusals_right.slots [] = [none, none, none, none] := rfl
  rw [e0]
  have e2 : d__law_refusals_right.body = b__law_refusals_right := rfl
  rw [e2, body_eq]
  rw [w_seq, w_asg, x1, w_ok]
  simp only [List.set_cons_zero, List.set_cons_succ]
  rw [w_seq, w_asg, w_bin]
  simp only [mVar_app, List.getElem?_cons_zero, List.getElem?_cons_succ, w_ok]
  rw [x2, w_ok, add_lls (by simp), w_ok]
  simp only [List.set_cons_zero, List.set_cons_succ]
  have hen : ∀ a b c d env, env = [some a, b, c, d] → a = .lst ((List.range 10).map (fun i => D.ref (st.length + i)) ++ (List.range 9).map (fun i => D.ref ((st ++ nmsA.map SO.exn).length + i))) → iEnumM (mBin opAdd (mVar 0) (mLst (nmsC.map mExn))) env (st ++ nmsA.map SO.exn ++ nmsB.map SO.exn) = .ok (.multi [] (enumD ((List.range 20).map fun i => D.ref (st.length + i)))) S := by
    rintro a b c d env rfl rfl
    have hm : mBin opAdd (mVar 0) (mLst (nmsC.map mExn)) [some (.lst ((List.range 10).map (fun i => D.ref (st.length + i)) ++ (List.range 9).map (fun i => D.ref ((st ++ nmsA.map SO.exn).length + i)))), b, c, d] (st ++ nmsA.map SO.exn ++ nmsB.map SO.exn) = .ok (.lst ((List.range 20).map fun i => D.ref (st.length + i))) S := by
      apply R.wp.eq
      rw [w_bin]
      simp only [mVar_app, List.getElem?_cons_zero, List.getElem?_cons_succ, w_ok]
      rw [x3, w_ok, add_lls (by simp), w_ok, hL]
      exact ⟨rfl, hS.symm⟩
    unfold iEnumM
    rw [hm, bind_ok]
    rfl
  rw [w_seq, w_for, hen _ _ _ _ _ rfl rfl, w_ok]
  refine for_wp (fun i env t => t = S ∧ ∃ a b c, env = [some (.lst ((List.range 10).map (fun i => D.ref (st.length + i)) ++ (List.range 9).map (fun i => D.ref ((st ++ nmsA.map SO.exn).length + i)))), a, b, c]) _ ⟨rfl, _, _, _, rfl⟩ ?_ ?_
  · rintro i d env t hdi ⟨rfl, a, b, c, rfl⟩
    generalize ((List.range 10).map (fun i => D.ref (st.length + i)) ++ (List.range 9).map (fun i => D.ref ((st ++ nmsA.map SO.exn).length + i))) = L0
    have hdi : (enumD ((List.range 20).map fun i => D.ref (st.length + i)))[i]? = some d := hdi
    obtain ⟨x, hx, rfl⟩ := enumD_get hdi
    rw [List.getElem?_map] at hx
    have hi : i < 20 := by
      cases h : (List.range 20)[i]? with
      | none => rw [h] at hx; cases hx
      | some z => have := (List.getElem?_eq_some_iff.mp h).1; simpa using this
    rw [List.getElem?_range hi] at hx
    cases hx
    have ha := hat i hi
    obtain ⟨n1, n2, n3⟩ := nms_ok i hi
    have hrow := row_ok i hi
    generalize nms.getD i "" = nm at *
    have ek := hk (st.length + i) nm t ha n1
    have hrw : (trs.map fun tr => D.bl (decide (nm ∈ tr))) = (List.range 20).map fun j => D.bl (decide (j = i)) := by
      have := congrArg (List.map D.bl) hrow
      rw [List.map_map, List.map_map] at this
      exact this
    rw [hrw] at ek
    refine ⟨_, rfl, ?_⟩
    simp only [List.set_cons_zero, List.set_cons_succ]
    have v1 := isv_run (tr := TR_ShelfError) (a := mVar 2) (env := [some (.lst L0), some (.int (i : Int)), some (.ref (st.length + i)), c]) (st := t) rfl ha n1
    have v2 := isv_run (tr := TR_ValueError) (a := mVar 2) (env := [some (.lst L0), some (.int (i : Int)), some (.ref (st.length + i)), c]) (st := t) rfl ha n1
    rw [decide_eq_true n2] at v1
    rw [decide_eq_true n3] at v2
    have hc : mComp (iRange1 (mC (.int 20))) [3] (gVar 3) none (mBin opEq (mVar 3) (mVar 1)) [some (.lst L0), some (.int (i : Int)), some (.ref (st.length + i)), c] t = .ok (.lst ((List.range 20).map fun j => D.bl (decide (j = i)))) t := by
      have hrg : iRange1 (mC (.int 20)) [some (.lst L0), some (.int (i : Int)), some (.ref (st.length + i)), c] t = .ok (.vals (rangeD 0 20)) t := iRange1_nat rfl (by decide)
      have hm := mComp_map (vs := [3]) (g := gVar 3) (e := mBin opEq (mVar 3) (mVar 1)) (fun d => match d with | .int j => D.bl (decide (j = (i : Int))) | _ => .non) hrg (fun d hd => by
        obtain ⟨j, hj, rfl⟩ := List.mem_map.mp hd
        refine ⟨_, rfl, R.wp.eq ?_⟩
        simp only [wipeD_cons, wipeD_nil, List.set_cons_zero, List.set_cons_succ]
        rw [w_bin]
        simp only [mVar_app, List.getElem?_cons_zero, List.getElem?_cons_succ, w_ok]
        rw [w_eq]
        exact ⟨rfl, rfl⟩) (by simp [rangeD])
      rw [hm]
      unfold rangeD
      rw [List.map_map]
      congr 2
      refine List.map_congr_left fun j _ => ?_
      show D.bl (decide ((0 : Int) + (j : Int) = (i : Int))) = D.bl (decide (j = i))
      congr 1
      rw [Bool.eq_iff_iff]
      simp only [decide_eq_true_eq]
      omega
    have hne : opNe (.lst ((List.range 20).map fun j => D.bl (decide (j = i)))) (.lst ((List.range 20).map fun j => D.bl (decide (j = i)))) t = .ok (.bl false) t := by
      have hp : Pln 1 (.lst ((List.range 20).map fun j => D.bl (decide (j = i)))) := Pln.lst (Plns.of fun z hz => by
        obtain ⟨j, _, rfl⟩ := List.mem_map.mp hz
        exact Pln.bl)
      have hd : deref t (.lst ((List.range 20).map fun j => D.bl (decide (j = i)))) = .lst ((List.range 20).map fun j => D.bl (decide (j = i))) := rfl
      rw [opNe_pl (k := 1) (j := 1) (by rw [hd]; exact hp) (by rw [hd]; exact hp) (by decide) (by decide), hd, beqD_refl hp]
      rfl
    rw [w_seq, w_sIf, w_or, w_not, v1, w_ok, on_bl]
    refine ⟨fun _ => on_bl.mpr ⟨fun z => (by cases z), fun _ => ?_⟩, fun z => (by cases z)⟩
    rw [w_not, v2, w_ok, on_bl]
    refine ⟨fun _ => ot_bl.mpr ⟨fun z => (by cases z), fun _ => ?_⟩, fun z => (by cases z)⟩
    rw [w_skip, w_seq, w_sIf, w_bin, w_call, w_args]
    simp only [mVar_app, List.getElem?_cons_zero, List.getElem?_cons_succ, w_ok, w_args0]
    rw [ek, w_ok, hc, w_ok, hne, w_ok, ot_bl]
    refine ⟨fun z => (by cases z), fun _ => ?_⟩
    rw [w_skip, w_skip]
    exact ⟨fun p hp => (by cases hp), rfl, _, _, _, rfl⟩
  · rintro env t ⟨rfl, a, b, c, rfl⟩
    rw [w_seq, w_ret, w_C]
    exact ⟨rfl, hS2⟩
theorem all_true {it : MIt} {ds : List D} {f : List D → Sto → R D} {v : Nat} {env : DEnv} {st : Sto} (hi : it env st = .ok (.vals ds) st) (hl : ds.length ≤ 1000) (hv : v < env.length) (h : ∀ d ∈ ds, f [d] st = .ok (.bl true) st) : mCall bAll [mComp it [v] (gVar v) none (mCall f [mVar v])] env st = .ok (.bl true) st := by
  have hm := mComp_map (vs := [v]) (g := gVar v) (e := mCall f [mVar v]) (fun _ => D.bl true) hi (fun d hd => by
    refine ⟨_, rfl, ?_⟩
    have e : ((wipeD env [v]).set v (some d))[v]? = some (some d) := List.getElem?_set_self (by simp [wipeD_cons, wipeD_nil]; exact hv)
    unfold mCall
    rw [mArgs_cons, mVar_app]
    show (R.bind (match ((wipeD env [v]).set v (some d))[v]? with | some (some d) => _ | _ => _) _).bind _ = _
    rw [e]
    exact h d hd) (by omega)
  have ha : bAll [.lst (ds.map fun _ => D.bl true)] st = .ok (.bl true) st := by
    have := bAll_map (fun _ => true) ds st
    rw [this]
    simp
  unfold mCall at hm ⊢
  rw [mArgs_cons, hm, bind_ok, mArgs_nil, bind_ok, bind_ok]
  exact ha
def CodeRef (f : List D → Sto → R D) : Prop := ∀ (d : D) (st : Sto), (isInst "int" d st = .ok (.bl false) st ∨ ∃ b, d = .bl b) → f [d] st = .ok (.bl true) st
def NameRef (f : List D → Sto → R D) : Prop := ∀ (d : D) (st : Sto), d.pl = true → (∀ s, d = .str s → okS s ∧ nameS s = false) → f [d] st = .ok (.bl true) st
theorem coderef_ok {g f : List D → Sto → R D} (h : NoCodeP g) (hr : RefsP g f) : CodeRef f := fun d st hd => hr d st (h d st hd)
theorem nameref_ok {g f : List D → Sto → R D} (h : CodeOfOk g 0) (hr : RefsP g f) : NameRef f := fun d st hp hs => by
  refine hr d st ?_
  have := h d st hp fun s e => (hs s e).1
  rw [this]
  cases d with
  | str s => simp only [(hs s rfl).2]; rfl
  | _ => rfl
theorem cutN {s : Str} : (cutS s none (some 7)).cps.toList = s.cps.toList.take 7 := by
  unfold cutS
  rw [show (7 : Int) = ((7 : Nat) : Int) from rfl, HT.sIx_nat]
  have hl : s.cps.toList.length = s.length := Array.length_toList
  show ((s.cps.toList.drop 0).take (min 7 s.length - 0)) = _
  rw [List.drop_zero, Nat.sub_zero, ← hl]
  by_cases h : 7 ≤ s.cps.toList.length
  · rw [Nat.min_eq_left h]
  · rw [Nat.min_eq_right (by omega), List.take_length, List.take_of_length_le (by omega)]
theorem bad_add {s : Str} {c : Nat} (h : nameS s = true) (hc : c < 97) : okS (cutS s none (some 7) ++ ⟨#[c]⟩) ∧ nameS (cutS s none (some 7) ++ ⟨#[c]⟩) = false := by
  have e : (cutS s none (some 7) ++ ⟨#[c]⟩ : Str).cps.toList = s.cps.toList.take 7 ++ [c] := by rw [str_app_cps, cutN]
  have hal : ∀ x ∈ s.cps.toList, letB x = true := by
    unfold nameS at h
    simp only [Bool.and_eq_true] at h
    exact List.all_eq_true.mp h.2
  refine ⟨⟨canLay_iff.mpr fun x hx => ?_, ?_⟩, ?_⟩
  · rw [e, List.mem_append] at hx
    rcases hx with hx | hx
    · have := hal x (List.mem_of_mem_take hx)
      unfold letB at this
      simp at this
      omega
    · rw [List.mem_singleton.mp hx]; omega
  · rw [str_len, e, List.length_append, List.length_take]
    simp
    omega
  · unfold nameS
    rw [e]
    have : (s.cps.toList.take 7 ++ [c]).all letB = false := by
      rw [List.all_append]
      have : letB c = false := by unfold letB; simp; omega
      simp [this]
    rw [this, Bool.and_false]
theorem bad_long {s : Str} (h : nameS s = true) : okS (s ++ ⟨#[97, 98, 99, 100, 101, 102, 103, 104]⟩) ∧ nameS (s ++ ⟨#[97, 98, 99, 100, 101, 102, 103, 104]⟩) = false := by
  have hok := nameS_ok h
  have e : (s ++ ⟨#[97, 98, 99, 100, 101, 102, 103, 104]⟩ : Str).cps.toList = s.cps.toList ++ [97, 98, 99, 100, 101, 102, 103, 104] := str_app_cps _ _
  unfold nameS at h
  simp only [Bool.and_eq_true, decide_eq_true_eq] at h
  refine ⟨⟨canLay_iff.mpr fun x hx => ?_, ?_⟩, ?_⟩
  · rw [e, List.mem_append] at hx
    rcases hx with hx | hx
    · exact canLay_iff.mp hok.1 x hx
    · have : ∀ x ∈ [97, 98, 99, 100, 101, 102, 103, 104], x < 0x110000 := by decide
      exact this x hx
  · rw [str_len, e, List.length_append]
    have : [97, 98, 99, 100, 101, 102, 103, 104].length = 8 := rfl
    omega
  · unfold nameS
    rw [e, List.length_append]
    have : ¬ (s.cps.toList.length + [97, 98, 99, 100, 101, 102, 103, 104].length ≤ 8) := by
      have : [97, 98, 99, 100, 101, 102, 103, 104].length = 8 := rfl
      omega
    rw [decide_eq_false this, Bool.and_false, Bool.false_and]
theorem law_body {ns : List Int} (hd : ∃ ds, InD ds ∧ Ph 4 [.fz (ns.map .int)] [] = .ok (.ref 0) [.lst (ds.map .int)]) (hn : NextOk (Ph 5)) (hw : WordP (Ph 7)) (hfn : FitsN (Ph 12)) (hfc : FitsC (Ph 13)) (hri : RightP (Ph 15)) (hnr : NameRef (Ph 9)) (hcr : CodeRef (Ph 10)) :
    (b_law Ph (startD 9 [.fz (ns.map .int)]) []).wp (fun _ _ => False) (fun v _ => v = .bl true) nXS := by
  obtain ⟨ds, hI, ed⟩ := hd
  have p8 : CPow 27 8 := by decide
  have e8 : (27 : Int) ^ (8 : Int).toNat = 282429536481 := by decide
  unfold b_law
  simp only [startD, List.map_cons, List.map_nil, List.length_cons, List.length_nil, Nat.zero_add, Nat.reduceAdd, Nat.reduceSub, List.replicate, List.cons_append, List.nil_append]
  rw [w_seq, w_asg, w_call, w_args]
  simp only [mVar_app, List.getElem?_cons_zero, List.getElem?_cons_succ, w_ok, w_args0]
  rw [ed, w_ok]
  simp only [List.set_cons_zero, List.set_cons_succ]
  rw [w_seq, w_asg, w_call, w_args, w_bin, w_bin, w_call, w_args]
  simp only [mVar_app, List.getElem?_cons_zero, List.getElem?_cons_succ, w_ok, w_args0]
  refine next_wp hn hI fun x1 d1 x10 x11 hI1 => ?_
  rw [w_C, w_mul]
  refine ⟨mul_small (by decide) (by decide), ?_⟩
  rw [w_call, w_args]
  simp only [mVar_app, List.getElem?_cons_zero, List.getElem?_cons_succ, w_ok, w_args0]
  refine next_wp hn hI1 fun x2 d2 x20 x21 hI2 => ?_
  rw [w_add]
  obtain ⟨wd, hwd, ewd⟩ := hw (x1 * 2147483629 + x2) [.lst (d2.map .int)] (by omega)
  rw [ewd, w_ok]
  simp only [List.set_cons_zero, List.set_cons_succ]
  have hoth : ∀ env S, mLst [(mC (.str (⟨#[97]⟩ : Str))), (mC (.str (⟨#[122]⟩ : Str))), (mC (.str (⟨#[122, 122, 122, 122, 122, 122, 122, 122]⟩ : Str))), (mC (.str (⟨#[97, 97, 97, 97, 97, 97, 97, 97]⟩ : Str))), (mC (.str (⟨#[97, 122]⟩ : Str))), (mC (.str (⟨#[98, 97]⟩ : Str)))] env S = .ok (.lst ([(⟨#[97]⟩ : Str), ⟨#[122]⟩, ⟨#[122, 122, 122, 122, 122, 122, 122, 122]⟩, ⟨#[97, 97, 97, 97, 97, 97, 97, 97]⟩, ⟨#[97, 122]⟩, ⟨#[98, 97]⟩].map .str)) S := fun env S => by
    have s0 : ∀ k, k ≤ 1000 → k ≤ sizeLine := fun k h => small_le (by omega)
    simp [s0]
  have hothn : ∀ s ∈ [(⟨#[97]⟩ : Str), ⟨#[122]⟩, ⟨#[122, 122, 122, 122, 122, 122, 122, 122]⟩, ⟨#[97, 97, 97, 97, 97, 97, 97, 97]⟩, ⟨#[97, 122]⟩, ⟨#[98, 97]⟩], nameS s = true := by decide
  have hotl : [(⟨#[97]⟩ : Str), ⟨#[122]⟩, ⟨#[122, 122, 122, 122, 122, 122, 122, 122]⟩, ⟨#[97, 97, 97, 97, 97, 97, 97, 97]⟩, ⟨#[97, 122]⟩, ⟨#[98, 97]⟩].length = 6 := rfl
  generalize [(⟨#[97]⟩ : Str), ⟨#[122]⟩, ⟨#[122, 122, 122, 122, 122, 122, 122, 122]⟩, ⟨#[97, 97, 97, 97, 97, 97, 97, 97]⟩, ⟨#[97, 122]⟩, ⟨#[98, 97]⟩] = OT at hoth hothn hotl
  rw [w_seq, w_asg, w_bin, hoth, w_ok, w_bin, w_call, w_args]
  simp only [mVar_app, List.getElem?_cons_zero, List.getElem?_cons_succ, w_ok, w_args0]
  refine next_wp hn hI2 fun x3 d3 x30 x31 hI3 => ?_
  rw [w_C, w_mod]
  refine ⟨by decide, ?_⟩
  obtain ⟨od, hod, hodm⟩ := atI_mem (ds := OT.map .str) (i := x3 % 6) (by omega) (by rw [List.length_map, hotl]; omega)
  obtain ⟨os, hos, rfl⟩ := List.mem_map.mp hodm
  have hosn := hothn os hos
  rw [w_ixL]
  refine ⟨_, hod, ?_⟩
  simp only [List.set_cons_zero, List.set_cons_succ]
  rw [w_seq, w_sIf, w_or, w_not, w_call, w_args]
  simp only [mVar_app, List.getElem?_cons_zero, List.getElem?_cons_succ, w_ok, w_args0]
  rw [hfn wd _ hwd, w_ok, on_bl]
  refine ⟨fun _ => on_bl.mpr ⟨fun z => (by cases z), fun _ => ?_⟩, fun z => (by cases z)⟩
  rw [w_or, w_not, w_call, w_args]
  simp only [mVar_app, List.getElem?_cons_zero, List.getElem?_cons_succ, w_ok, w_args0]
  rw [hfn os _ hosn, w_ok, on_bl]
  refine ⟨fun _ => on_bl.mpr ⟨fun z => (by cases z), fun _ => ?_⟩, fun z => (by cases z)⟩
  rw [w_not, w_call, w_args0, hri, w_ok, on_bl]
  refine ⟨fun _ => ot_bl.mpr ⟨fun z => (by cases z), fun _ => ?_⟩, fun z => (by cases z)⟩
  rw [w_skip, w_seq, w_asg, w_call, w_args]
  simp only [mVar_app, List.getElem?_cons_zero, List.getElem?_cons_succ, w_ok, w_args0]
  refine next_wp hn hI3 fun x4 d4 x40 x41 hI4 => ?_
  simp only [List.set_cons_zero, List.set_cons_succ]
  rw [w_seq, w_asg, w_bin, w_bin]
  simp only [mVar_app, List.getElem?_cons_zero, List.getElem?_cons_succ, w_ok]
  rw [w_C, w_mul]
  refine ⟨mul_small (by decide) (by decide), ?_⟩
  rw [w_call, w_args]
  simp only [mVar_app, List.getElem?_cons_zero, List.getElem?_cons_succ, w_ok, w_args0]
  refine next_wp hn hI4 fun x5 d5 x50 x51 hI5 => ?_
  rw [w_add]
  generalize x4 * 2147483629 + x5 = gr
  simp only [List.set_cons_zero, List.set_cons_succ]
  have hL : ∀ a b c S, mLst [(mVar 4), (mBin opMod (mVar 4) (mC (.int 1000))), (mVar 5), (mBin opMod (mVar 5) (mBin opPow (mC (.int 27)) (mC (.int 8)))), (mC (.int 0)), (mBin opSub (mBin opPow (mC (.int 27)) (mC (.int 8))) (mC (.int 1))), (mBin opPow (mC (.int 27)) (mC (.int 8))), (mC (.int 27)), (mC (.int 26)), (mC (.int 28)), (mBin opSub (mNeg (mC (.int 1))) (mVar 4))] [some (.fz (ns.map .int)), some (.ref 0), some (.str wd), some (.str os), some (.int x4), some (.int gr), a, b, c] S = .ok (.lst ([x4, x4 % 1000, gr, gr % 282429536481, 0, 282429536481 - 1, 282429536481, 27, 26, 28, -1 - x4].map .int)) S := fun a b c S => by
    have s0 : ∀ k, k ≤ 1000 → k ≤ sizeLine := fun k h => small_le (by omega)
    have ep : ∀ S, opPow (.int 27) (.int 8) S = .ok (.int 282429536481) S := fun S => by
      show (if CPow 27 8 then R.ok (D.int ((27 : Int) ^ (8 : Int).toNat)) S else .stuck) = _
      rw [if_pos p8, e8]
    simp [s0, ep]
  generalize [x4, x4 % 1000, gr, gr % 282429536481, 0, 282429536481 - 1, 282429536481, 27, 26, 28, -1 - x4] = IL at hL
  have hiL : iSeq (mLst [(mVar 4), (mBin opMod (mVar 4) (mC (.int 1000))), (mVar 5), (mBin opMod (mVar 5) (mBin opPow (mC (.int 27)) (mC (.int 8)))), (mC (.int 0)), (mBin opSub (mBin opPow (mC (.int 27)) (mC (.int 8))) (mC (.int 1))), (mBin opPow (mC (.int 27)) (mC (.int 8))), (mC (.int 27)), (mC (.int 26)), (mC (.int 28)), (mBin opSub (mNeg (mC (.int 1))) (mVar 4))]) [some (.fz (ns.map .int)), some (.ref 0), some (.str wd), some (.str os), some (.int x4), some (.int gr), none, none, none] [.lst (d5.map .int)] = .ok (.vals (IL.map .int)) [.lst (d5.map .int)] := by
    show (R.bind (mLst _ _ _) _) = _
    rw [hL, bind_ok]
  rw [w_seq, w_for, hiL, w_ok, items_vals]
  refine for_wp (fun i env t => t = [.lst (d5.map .int)] ∧ ∃ a, env = [some (.fz (ns.map .int)), some (.ref 0), some (.str wd), some (.str os), some (.int x4), some (.int gr), a, none, none]) _ ⟨rfl, none, rfl⟩ ?_ ?_
  · rintro i d env t hdi ⟨rfl, a, rfl⟩
    obtain ⟨q, _, rfl⟩ := List.mem_map.mp (List.mem_of_getElem? hdi)
    refine ⟨_, rfl, ?_⟩
    simp only [List.set_cons_zero, List.set_cons_succ]
    rw [w_seq, w_sIf, w_not, w_call, w_args]
    simp only [mVar_app, List.getElem?_cons_zero, List.getElem?_cons_succ, w_ok, w_args0]
    rw [hfc, w_ok, on_bl]
    refine ⟨fun _ => ot_bl.mpr ⟨fun z => (by cases z), fun _ => ?_⟩, fun z => (by cases z)⟩
    rw [w_skip, w_skip]
    exact ⟨True.intro, rfl, _, rfl⟩
  rintro env t ⟨rfl, a, rfl⟩
  obtain ⟨k1, k2⟩ := bad_add (c := 32) hwd (by decide)
  obtain ⟨k3, k4⟩ := bad_add (c := 10) hwd (by decide)
  obtain ⟨k5, k6⟩ := bad_long hwd
  have hwok := nameS_ok hwd
  have hwl : wd.length ≤ 8 := by
    unfold nameS at hwd
    simp only [Bool.and_eq_true, decide_eq_true_eq] at hwd
    rw [str_len]
    exact hwd.1.2
  have lc : (cutS wd none (some 7)).length ≤ 7 := by rw [str_len, cutN, List.length_take]; omega
  have c7 : ∀ S, opSl (.str wd) none (some 7) S = .ok (.str (cutS wd none (some 7))) S := fun S => by
    have h2 : wd.length ≤ sizeLine := small_le (by omega)
    unfold opSl
    simp only [deref_str]
    rw [if_pos h2]
  have hB : mLst [(mC (.non)), (mC (.bl true)), (mC (.bl false)), (mVar 4), (mC (.str (⟨#[]⟩ : Str))), (mC (.str (⟨#[65]⟩ : Str))), (mC (.str (⟨#[97, 49]⟩ : Str))), (mBin opAdd (mVar 2) (mC (.str (⟨#[97, 98, 99, 100, 101, 102, 103, 104]⟩ : Str)))), (mBin opAdd (mSl (mVar 2) none (some (mC (.int 7)))) (mC (.str (⟨#[32]⟩ : Str)))), (mBin opAdd (mSl (mVar 2) none (some (mC (.int 7)))) (mC (.str (⟨#[10]⟩ : Str)))), (mTup [(mVar 2)]), (mLst [(mVar 2)]), (mC (.str (⟨#[97, 47, 98]⟩ : Str))), (mC (.dic []))] [some (.fz (ns.map .int)), some (.ref 0), some (.str wd), some (.str os), some (.int x4), some (.int gr), a, none, none] [.lst (d5.map .int)] = .ok (.lst [.non, .bl true, .bl false, .int x4, .str ⟨#[]⟩, .str ⟨#[65]⟩, .str ⟨#[97, 49]⟩, .str (wd ++ ⟨#[97, 98, 99, 100, 101, 102, 103, 104]⟩), .str (cutS wd none (some 7) ++ ⟨#[32]⟩), .str (cutS wd none (some 7) ++ ⟨#[10]⟩), .tup [.str wd], .lst [.str wd], .str ⟨#[97, 47, 98]⟩, .dic []]) [.lst (d5.map .int)] := by
    have s0 : ∀ k, k ≤ 1000 → k ≤ sizeLine := fun k h => small_le (by omega)
    have q1 : (⟨#[97, 98, 99, 100, 101, 102, 103, 104]⟩ : Str).length = 8 := rfl
    have q2 : (⟨#[32]⟩ : Str).length = 1 := rfl
    have q3 : (⟨#[10]⟩ : Str).length = 1 := rfl
    apply R.wp.eq
    rw [w_lst (by simp), w_args, w_C, w_args, w_C, w_args, w_C, w_args]
    simp only [mVar_app, List.getElem?_cons_zero, List.getElem?_cons_succ, w_ok]
    rw [w_args, w_C, w_args, w_C, w_args, w_C, w_args, w_bin]
    simp only [mVar_app, List.getElem?_cons_zero, List.getElem?_cons_succ, w_ok, w_C]
    rw [w_addS]
    refine ⟨s0 _ (by omega), ?_⟩
    rw [w_args, w_bin, w_sl]
    simp only [mVar_app, List.getElem?_cons_zero, List.getElem?_cons_succ, w_ok, w_opt0, w_opt, w_C]
    rw [c7, w_ok, w_addS]
    refine ⟨s0 _ (by omega), ?_⟩
    rw [w_args, w_bin, w_sl]
    simp only [mVar_app, List.getElem?_cons_zero, List.getElem?_cons_succ, w_ok, w_opt0, w_opt, w_C]
    rw [c7, w_ok, w_addS]
    refine ⟨s0 _ (by omega), ?_⟩
    rw [w_args, w_tup (by simp), w_args]
    simp only [mVar_app, List.getElem?_cons_zero, List.getElem?_cons_succ, w_ok, w_args0]
    rw [w_args, w_lst (by simp), w_args]
    simp only [mVar_app, List.getElem?_cons_zero, List.getElem?_cons_succ, w_ok, w_args0]
    rw [w_args, w_C, w_args, w_C, w_args0]
    exact ⟨rfl, rfl⟩
  have hbad : ∀ d ∈ [D.non, .bl true, .bl false, .int x4, .str ⟨#[]⟩, .str ⟨#[65]⟩, .str ⟨#[97, 49]⟩, .str (wd ++ ⟨#[97, 98, 99, 100, 101, 102, 103, 104]⟩), .str (cutS wd none (some 7) ++ ⟨#[32]⟩), .str (cutS wd none (some 7) ++ ⟨#[10]⟩), .tup [.str wd], .lst [.str wd], .str ⟨#[97, 47, 98]⟩, .dic []], d.pl = true ∧ ∀ s, d = .str s → okS s ∧ nameS s = false := fun d hd => by
    have sm : ∀ s : Str, (s.cps.toList.all fun c => decide (c < 1000)) = true → s.length ≤ 1000 → okS s := fun s h1 h2 => ⟨canLay_iff.mpr fun c hc => by have := List.all_eq_true.mp h1 c hc; simp at this; omega, by omega⟩
    simp only [List.mem_cons, List.not_mem_nil, or_false] at hd
    rcases hd with rfl | rfl | rfl | rfl | rfl | rfl | rfl | rfl | rfl | rfl | rfl | rfl | rfl | rfl
    · exact ⟨rfl, fun s e => by cases e⟩
    · exact ⟨rfl, fun s e => by cases e⟩
    · exact ⟨rfl, fun s e => by cases e⟩
    · exact ⟨rfl, fun s e => by cases e⟩
    · exact ⟨rfl, fun s e => by cases e; exact ⟨sm _ (by decide) (by decide), by decide⟩⟩
    · exact ⟨rfl, fun s e => by cases e; exact ⟨sm _ (by decide) (by decide), by decide⟩⟩
    · exact ⟨rfl, fun s e => by cases e; exact ⟨sm _ (by decide) (by decide), by decide⟩⟩
    · exact ⟨rfl, fun s e => by cases e; exact ⟨k5, k6⟩⟩
    · exact ⟨rfl, fun s e => by cases e; exact ⟨k1, k2⟩⟩
    · exact ⟨rfl, fun s e => by cases e; exact ⟨k3, k4⟩⟩
    · exact ⟨rfl, fun s e => by cases e⟩
    · exact ⟨rfl, fun s e => by cases e⟩
    · exact ⟨rfl, fun s e => by cases e; exact ⟨sm _ (by decide) (by decide), by decide⟩⟩
    · exact ⟨rfl, fun s e => by cases e⟩
  have hbl : [D.non, .bl true, .bl false, .int x4, .str ⟨#[]⟩, .str ⟨#[65]⟩, .str ⟨#[97, 49]⟩, .str (wd ++ ⟨#[97, 98, 99, 100, 101, 102, 103, 104]⟩), .str (cutS wd none (some 7) ++ ⟨#[32]⟩), .str (cutS wd none (some 7) ++ ⟨#[10]⟩), .tup [.str wd], .lst [.str wd], .str ⟨#[97, 47, 98]⟩, .dic []].length = 14 := rfl
  generalize [D.non, .bl true, .bl false, .int x4, .str ⟨#[]⟩, .str ⟨#[65]⟩, .str ⟨#[97, 49]⟩, .str (wd ++ ⟨#[97, 98, 99, 100, 101, 102, 103, 104]⟩), .str (cutS wd none (some 7) ++ ⟨#[32]⟩), .str (cutS wd none (some 7) ++ ⟨#[10]⟩), .tup [.str wd], .lst [.str wd], .str ⟨#[97, 47, 98]⟩, .dic []] = BL at hB hbad hbl
  rw [w_seq, w_asg, hB, w_ok]
  simp only [List.set_cons_zero, List.set_cons_succ]
  rw [w_seq, w_asg, w_bin]
  simp only [mVar_app, List.getElem?_cons_zero, List.getElem?_cons_succ, w_ok]
  rw [w_bin, w_call, w_args]
  simp only [mVar_app, List.getElem?_cons_zero, List.getElem?_cons_succ, w_ok, w_args0]
  refine next_wp hn hI5 fun x6 d6 x60 x61 hI6 => ?_
  rw [w_C, w_mod]
  refine ⟨by decide, ?_⟩
  obtain ⟨bd, hbd, hbdm⟩ := atI_mem (ds := BL) (i := x6 % 14) (by omega) (by rw [hbl]; omega)
  rw [w_ixL]
  refine ⟨_, hbd, ?_⟩
  simp only [List.set_cons_zero, List.set_cons_succ]
  have e9 := hnr bd [.lst (d6.map .int)] (hbad bd hbdm).1 (hbad bd hbdm).2
  rw [w_seq, w_sIf, w_or, w_not, w_call, w_args]
  simp only [mVar_app, List.getElem?_cons_zero, List.getElem?_cons_succ, w_ok, w_args0]
  rw [e9, w_ok, on_bl]
  refine ⟨fun _ => on_bl.mpr ⟨fun z => (by cases z), fun _ => ?_⟩, fun z => (by cases z)⟩
  have hA := all_true (it := iSeq (mVar 7)) (ds := BL) (f := Ph 9) (v := 8) (env := [some (.fz (ns.map .int)), some (.ref 0), some (.str wd), some (.str os), some (.int x4), some (.int gr), some bd, some (.lst BL), none]) (st := [.lst (d6.map .int)]) rfl (by rw [hbl]; decide) (by simp) fun d hd => hnr d _ (hbad d hd).1 (hbad d hd).2
  rw [w_not, hA, w_ok, on_bl]
  refine ⟨fun _ => ot_bl.mpr ⟨fun z => (by cases z), fun _ => ?_⟩, fun z => (by cases z)⟩
  have hC : ∀ env S, env = [some (.fz (ns.map .int)), some (.ref 0), some (.str wd), some (.str os), some (.int x4), some (.int gr), some bd, some (.lst BL), none] → mLst [(mC (.non)), (mC (.bl true)), (mC (.bl false)), (mVar 2), (mC (.str (⟨#[]⟩ : Str))), (mTup [(mC (.int 1))]), (mLst [(mVar 4)]), (mC (.dic []))] env S = .ok (.lst [.non, .bl true, .bl false, .str wd, .str ⟨#[]⟩, .tup [.int 1], .lst [.int x4], .dic []]) S := fun env S e => by
    subst e
    have s0 : ∀ k, k ≤ 1000 → k ≤ sizeLine := fun k h => small_le (by omega)
    simp [s0]
  have hcd : ∀ d ∈ [D.non, .bl true, .bl false, .str wd, .str ⟨#[]⟩, .tup [.int 1], .lst [.int x4], .dic []], ∀ S, isInst "int" d S = .ok (.bl false) S ∨ ∃ b, d = .bl b := fun d hd S => by
    simp only [List.mem_cons, List.not_mem_nil, or_false] at hd
    rcases hd with rfl | rfl | rfl | rfl | rfl | rfl | rfl | rfl
    · exact .inl rfl
    · exact .inr ⟨_, rfl⟩
    · exact .inr ⟨_, rfl⟩
    · exact .inl rfl
    · exact .inl rfl
    · exact .inl rfl
    · exact .inl rfl
    · exact .inl rfl
  have hcl : [D.non, .bl true, .bl false, .str wd, .str ⟨#[]⟩, .tup [.int 1], .lst [.int x4], .dic []].length = 8 := rfl
  generalize [D.non, .bl true, .bl false, .str wd, .str ⟨#[]⟩, .tup [.int 1], .lst [.int x4], .dic []] = CL at hC hcd hcl
  have hiC : iSeq (mLst [(mC (.non)), (mC (.bl true)), (mC (.bl false)), (mVar 2), (mC (.str (⟨#[]⟩ : Str))), (mTup [(mC (.int 1))]), (mLst [(mVar 4)]), (mC (.dic []))]) [some (.fz (ns.map .int)), some (.ref 0), some (.str wd), some (.str os), some (.int x4), some (.int gr), some bd, some (.lst BL), none] [.lst (d6.map .int)] = .ok (.vals CL) [.lst (d6.map .int)] := by
    show (R.bind (mLst _ _ _) _) = _
    rw [hC _ _ rfl, bind_ok]
  have hD := all_true (f := Ph 10) (v := 8) hiC (by rw [hcl]; decide) (by simp) fun d hd => hcr d _ (hcd d hd _)
  rw [w_skip, w_seq, w_ret, hD, w_ok]
end
theorem E_is_name (n : Nat) : Phi tbl (n + 1) 0 = runDef d_is_name (Phi tbl n) := funext fun ds => funext fun st => phi_is_name n ds st
theorem E_code_of (n : Nat) : Phi tbl (n + 1) 1 = runDef d_code_of (Phi tbl n) := funext fun ds => funext fun st => phi_code_of n ds st
theorem E_name_of (n : Nat) : Phi tbl (n + 1) 2 = runDef d_name_of (Phi tbl n) := funext fun ds => funext fun st => phi_name_of n ds st
theorem E__law_mixed (n : Nat) : Phi tbl (n + 1) 3 = runDef d__law_mixed (Phi tbl n) := funext fun ds => funext fun st => phi__law_mixed n ds st
theorem E__law_draws (n : Nat) : Phi tbl (n + 1) 4 = runDef d__law_draws (Phi tbl n) := funext fun ds => funext fun st => phi__law_draws n ds st
theorem E__law_next (n : Nat) : Phi tbl (n + 1) 5 = runDef d__law_next (Phi tbl n) := funext fun ds => funext fun st => phi__law_next n ds st
theorem E__law_code (n : Nat) : Phi tbl (n + 1) 6 = runDef d__law_code (Phi tbl n) := funext fun ds => funext fun st => phi__law_code n ds st
theorem E__law_word (n : Nat) : Phi tbl (n + 1) 7 = runDef d__law_word (Phi tbl n) := funext fun ds => funext fun st => phi__law_word n ds st
theorem E__law_is_code (n : Nat) : Phi tbl (n + 1) 8 = runDef d__law_is_code (Phi tbl n) := funext fun ds => funext fun st => phi__law_is_code n ds st
theorem E__law_refuses_name (n : Nat) : Phi tbl (n + 1) 9 = runDef d__law_refuses_name (Phi tbl n) := funext fun ds => funext fun st => phi__law_refuses_name n ds st
theorem E__law_refuses_code (n : Nat) : Phi tbl (n + 1) 10 = runDef d__law_refuses_code (Phi tbl n) := funext fun ds => funext fun st => phi__law_refuses_code n ds st
theorem E__law_number (n : Nat) : Phi tbl (n + 1) 11 = runDef d__law_number (Phi tbl n) := funext fun ds => funext fun st => phi__law_number n ds st
theorem E__law_fits_name (n : Nat) : Phi tbl (n + 1) 12 = runDef d__law_fits_name (Phi tbl n) := funext fun ds => funext fun st => phi__law_fits_name n ds st
theorem E__law_fits_code (n : Nat) : Phi tbl (n + 1) 13 = runDef d__law_fits_code (Phi tbl n) := funext fun ds => funext fun st => phi__law_fits_code n ds st
theorem E__law_kinds (n : Nat) : Phi tbl (n + 1) 14 = runDef d__law_kinds (Phi tbl n) := funext fun ds => funext fun st => phi__law_kinds n ds st
theorem E__law_refusals_right (n : Nat) : Phi tbl (n + 1) 15 = runDef d__law_refusals_right (Phi tbl n) := funext fun ds => funext fun st => phi__law_refusals_right n ds st
section
variable (n : Nat)
theorem P_mixed (c k : Int) (st : Sto) (h0 : 0 ≤ k) (h1 : k < 1000) : Phi tbl (n + 1) 3 [.int c, .int k] st = .ok (.int (mixedZ c k)) st := by rw [E__law_mixed]; exact mixed_ok h0 h1
theorem P_draws (ns : List Int) : ∃ ds, InD ds ∧ Phi tbl (n + 2) 4 [.fz (ns.map .int)] [] = .ok (.ref 0) [.lst (ds.map .int)] := by rw [E__law_draws]; exact draws_def (im := 3) (F := 1000) (Nat.le_refl _) (P_mixed n)
theorem P_next : NextOk (Phi tbl (n + 1) 5) := by rw [E__law_next]; exact next_def
theorem P_isname : NameOk (Phi tbl (n + 1) 0) := by rw [E_is_name]; exact isname_ok
theorem P_codeof : CodeOfOk (Phi tbl (n + 2) 1) 0 := by rw [E_code_of]; exact codeof_ok (i := 0) (x := 0) (P_isname n)
theorem P_nameof : NameOfOk (Phi tbl (n + 1) 2) 0 := by rw [E_name_of]; exact nameof_ok (x := 0)
theorem P_nocode : NoCodeP (Phi tbl (n + 1) 2) := by rw [E_name_of]; exact nocode_ok
theorem P_lcode : LCodeP (Phi tbl (n + 1) 6) := by rw [E__law_code]; exact lcodeP_ok
theorem P_word : WordP (Phi tbl (n + 1) 7) := by rw [E__law_word]; exact word_ok
theorem P_iscode : IsCodeP (Phi tbl (n + 1) 8) := by rw [E__law_is_code]; exact iscode_okL
theorem P_refname : RefsP (Phi tbl n 1) (Phi tbl (n + 1) 9) := by rw [E__law_refuses_name]; exact refname_ok
theorem P_refcode : RefsP (Phi tbl n 2) (Phi tbl (n + 1) 10) := by rw [E__law_refuses_code]; exact refcode_ok
theorem P_lnum : LNumP (Phi tbl (n + 1) 11) := by rw [E__law_number]; exact lnum_ok
theorem P_fitsn : FitsN (Phi tbl (n + 3) 12) := by rw [E__law_fits_name]; exact fitsn_ok (P_codeof n) (P_nameof (n + 1)) (P_lcode (n + 1)) (P_lnum (n + 1))
theorem P_fitsc : FitsC (Phi tbl (n + 3) 13) := by rw [E__law_fits_code]; exact fitsc_ok (P_nameof (n + 1)) (P_nameof n) (P_lcode (n + 1)) (P_iscode (n + 1)) (P_refcode (n + 1))
theorem P_kinds : KindsP (Phi tbl (n + 1) 14) := by rw [E__law_kinds]; exact kinds_ok
theorem P_right : RightP (Phi tbl (n + 2) 15) := by rw [E__law_refusals_right]; exact right_ok (P_kinds n)
end
theorem law_pure (ns : List Int) (h : ns.length ≤ 63) : ∃ st, Phi tbl 8 16 [.fz (ns.map .int)] [] = .ok (.bl true) st := by
  obtain ⟨v, st, q, rfl⟩ := (law_body (Ph := Phi tbl 7) (P_draws 5 ns) (P_next 6) (P_word 6) (P_fitsn 4) (P_fitsc 4) (P_right 5) (nameref_ok (P_codeof 4) (P_refname 6)) (coderef_ok (P_nocode 5) (P_refcode 6))).rt
  rw [phi_law]
  exact law_done rfl rfl q
end LK01
namespace LK01
open PySem PySem.Spec PyProof.Rows L2 MI
theorem sc_is_name : FnScope ["one", "sign"] ["one"] (defScope (topS 25)) := ⟨rfl, rfl, rfl, by decide +kernel, rfl, by decide +kernel, by decide +kernel⟩
theorem rd_is_name (Ph : Nat → List D → Sto → R D) : ofSs Ph 300 (cc.at ["one", "sign"] (defScope (topS 25))) (defBody (topS 25)) = some (b_is_name Ph) := by kernel_rfl
theorem sc_code_of : FnScope ["name", "code", "sign"] ["name"] (defScope (topS 26)) := ⟨rfl, rfl, rfl, by decide +kernel, rfl, by decide +kernel, by decide +kernel⟩
theorem rd_code_of (Ph : Nat → List D → Sto → R D) : ofSs Ph 300 (cc.at ["name", "code", "sign"] (defScope (topS 26))) (defBody (topS 26)) = some (b_code_of Ph) := by kernel_rfl
theorem sc_name_of : FnScope ["code", "name"] ["code"] (defScope (topS 27)) := ⟨rfl, rfl, rfl, by decide +kernel, rfl, by decide +kernel, by decide +kernel⟩
theorem rd_name_of (Ph : Nat → List D → Sto → R D) : ofSs Ph 300 (cc.at ["code", "name"] (defScope (topS 27))) (defBody (topS 27)) = some (b_name_of Ph) := by kernel_rfl
theorem sc__law_mixed : FnScope ["_law_cell", "_law_k", "_law_number_here"] ["_law_cell", "_law_k"] (defScope (topS 29)) := ⟨rfl, rfl, rfl, by decide +kernel, rfl, by decide +kernel, by decide +kernel⟩
theorem rd__law_mixed (Ph : Nat → List D → Sto → R D) : ofSs Ph 300 (cc.at ["_law_cell", "_law_k", "_law_number_here"] (defScope (topS 29))) (defBody (topS 29)) = some (b__law_mixed Ph) := by kernel_rfl
theorem sc__law_draws : FnScope ["_law_script", "_law_drawn", "_law_k", "_law_cell", "_law_j"] ["_law_script"] (defScope (topS 30)) := ⟨rfl, rfl, rfl, by decide +kernel, rfl, by decide +kernel, by decide +kernel⟩
theorem rd__law_draws (Ph : Nat → List D → Sto → R D) : ofSs Ph 300 (cc.at ["_law_script", "_law_drawn", "_law_k", "_law_cell", "_law_j"] (defScope (topS 30))) (defBody (topS 30)) = some (b__law_draws Ph) := by kernel_rfl
theorem sc__law_next : FnScope ["_law_drawn"] ["_law_drawn"] (defScope (topS 31)) := ⟨rfl, rfl, rfl, by decide +kernel, rfl, by decide +kernel, by decide +kernel⟩
theorem rd__law_next (Ph : Nat → List D → Sto → R D) : ofSs Ph 300 (cc.at ["_law_drawn"] (defScope (topS 31))) (defBody (topS 31)) = some (b__law_next Ph) := by kernel_rfl
theorem sc__law_code : FnScope ["_law_name", "_law_number_here", "_law_sign"] ["_law_name"] (defScope (topS 32)) := ⟨rfl, rfl, rfl, by decide +kernel, rfl, by decide +kernel, by decide +kernel⟩
theorem rd__law_code (Ph : Nat → List D → Sto → R D) : ofSs Ph 300 (cc.at ["_law_name", "_law_number_here", "_law_sign"] (defScope (topS 32))) (defBody (topS 32)) = some (b__law_code Ph) := by kernel_rfl
theorem sc__law_word : FnScope ["_law_number_here", "_law_letters", "_law_word_here", "_law_k"] ["_law_number_here"] (defScope (topS 33)) := ⟨rfl, rfl, rfl, by decide +kernel, rfl, by decide +kernel, by decide +kernel⟩
theorem rd__law_word (Ph : Nat → List D → Sto → R D) : ofSs Ph 300 (cc.at ["_law_number_here", "_law_letters", "_law_word_here", "_law_k"] (defScope (topS 33))) (defBody (topS 33)) = some (b__law_word Ph) := by kernel_rfl
theorem sc__law_is_code : FnScope ["_law_number_here"] ["_law_number_here"] (defScope (topS 34)) := ⟨rfl, rfl, rfl, by decide +kernel, rfl, by decide +kernel, by decide +kernel⟩
theorem rd__law_is_code (Ph : Nat → List D → Sto → R D) : ofSs Ph 300 (cc.at ["_law_number_here"] (defScope (topS 34))) (defBody (topS 34)) = some (b__law_is_code Ph) := by kernel_rfl
theorem sc__law_refuses_name : FnScope ["_law_one"] ["_law_one"] (defScope (topS 35)) := ⟨rfl, rfl, rfl, by decide +kernel, rfl, by decide +kernel, by decide +kernel⟩
theorem rd__law_refuses_name (Ph : Nat → List D → Sto → R D) : ofSs Ph 300 (cc.at ["_law_one"] (defScope (topS 35))) (defBody (topS 35)) = some (b__law_refuses_name Ph) := by kernel_rfl
theorem sc__law_refuses_code : FnScope ["_law_one"] ["_law_one"] (defScope (topS 36)) := ⟨rfl, rfl, rfl, by decide +kernel, rfl, by decide +kernel, by decide +kernel⟩
theorem rd__law_refuses_code (Ph : Nat → List D → Sto → R D) : ofSs Ph 300 (cc.at ["_law_one"] (defScope (topS 36))) (defBody (topS 36)) = some (b__law_refuses_code Ph) := by kernel_rfl
theorem sc__law_number : FnScope ["_law_found"] ["_law_found"] (defScope (topS 37)) := ⟨rfl, rfl, rfl, by decide +kernel, rfl, by decide +kernel, by decide +kernel⟩
theorem rd__law_number (Ph : Nat → List D → Sto → R D) : ofSs Ph 300 (cc.at ["_law_found"] (defScope (topS 37))) (defBody (topS 37)) = some (b__law_number Ph) := by kernel_rfl
theorem sc__law_fits_name : FnScope ["_law_word_here", "_law_found", "_law_back"] ["_law_word_here"] (defScope (topS 38)) := ⟨rfl, rfl, rfl, by decide +kernel, rfl, by decide +kernel, by decide +kernel⟩
theorem rd__law_fits_name (Ph : Nat → List D → Sto → R D) : ofSs Ph 300 (cc.at ["_law_word_here", "_law_found", "_law_back"] (defScope (topS 38))) (defBody (topS 38)) = some (b__law_fits_name Ph) := by kernel_rfl
theorem sc__law_fits_code : FnScope ["_law_number_here", "_law_found"] ["_law_number_here"] (defScope (topS 39)) := ⟨rfl, rfl, rfl, by decide +kernel, rfl, by decide +kernel, by decide +kernel⟩
theorem rd__law_fits_code (Ph : Nat → List D → Sto → R D) : ofSs Ph 300 (cc.at ["_law_number_here", "_law_found"] (defScope (topS 39))) (defBody (topS 39)) = some (b__law_fits_code Ph) := by kernel_rfl
theorem sc__law_kinds : FnScope ["_law_one", "_law_found"] ["_law_one"] (defScope (topS 40)) := ⟨rfl, rfl, rfl, by decide +kernel, rfl, by decide +kernel, by decide +kernel⟩
theorem rd__law_kinds (Ph : Nat → List D → Sto → R D) : ofSs Ph 300 (cc.at ["_law_one", "_law_found"] (defScope (topS 40))) (defBody (topS 40)) = some (b__law_kinds Ph) := by kernel_rfl
theorem sc__law_refusals_right : FnScope ["_law_all_of", "_law_k", "_law_one", "_law_place"] [] (defScope (topS 41)) := ⟨rfl, rfl, rfl, by decide +kernel, rfl, by decide +kernel, by decide +kernel⟩
theorem rd__law_refusals_right (Ph : Nat → List D → Sto → R D) : ofSs Ph 300 (cc.at ["_law_all_of", "_law_k", "_law_one", "_law_place"] (defScope (topS 41))) (defBody (topS 41)) = some (b__law_refusals_right Ph) := by kernel_rfl
theorem sc_law : FnScope ["_law_script", "_law_drawn", "_law_word_here", "_law_other", "_law_number_here", "_law_great", "_law_one", "_law_bad", "_law_each"] ["_law_script"] (defScope (topS 42)) := ⟨rfl, rfl, rfl, by decide +kernel, rfl, by decide +kernel, by decide +kernel⟩
theorem rd_law (Ph : Nat → List D → Sto → R D) : ofSs Ph 300 (cc.at ["_law_script", "_law_drawn", "_law_word_here", "_law_other", "_law_number_here", "_law_great", "_law_one", "_law_bad", "_law_each"] (defScope (topS 42))) (defBody (topS 42)) = some (b_law Ph) := by kernel_rfl
theorem defOk_mk [TC : TabsC] {lt : Bool} {K : PySem.W.Frag} {h : Heap} {mg : Str → Option Value} (X : K.In h) (G : h.Ns mainGlobals mg) {x : Str} {s : Stmt} {N ps : List Str} {d : DefR} {n : Nat} {f : Addr} {oc : Value} {od an : Option Addr} {osl : Array (Option Value)} {kV doc pm cdv ct : Value}
    (S : FnScope N ps (defScope s)) (ha : d.arity = ps.length) (hs : d.slots = N.length) (rd : ∀ Ph, ofSs Ph n (cc.at N (defScope s) lt) (defBody s) = some (d.body Ph))
    (bi : ∀ (kV doc pm : Value) (an : Option Addr) (cdv ct : Value) (us : List Value), us.length = ps.length → bindArgs (PySem.W.fnOf x x (defArgs s) (defBody s) (defScope s) .none kV doc pm an cdv ct) ⟨us, []⟩ = pure (ps.zip us))
    (a : PySem.W.nsIn K mainGlobals x = some (some (.ref f))) (l : K.lookup f = some ⟨oc, od, .func (PySem.W.fnOf x x (defArgs s) (defBody s) (defScope s) .none kV doc pm an cdv ct), osl⟩) (c : PySem.W.codeIn K cdv x = true) (k : PySem.W.keepIn K (.ref f) = true) (hlt : lt = true → LamFd (PySem.W.fnOf x x (defArgs s) (defBody s) (defScope s) .none kV doc pm an cdv ct) x) : DefOk K mg cc x d :=
  have F := fun_mk (st := s) l c k
  ⟨s, f, _, N, ps, n, lt, ⟨PySem.W.mg_of X G a, a⟩, F, F.binds bi, S, ha, hs, rd, hlt⟩
theorem all_mk {l : PySem.W.OpenLaw} {w : World} {K : PySem.W.Frag} {h : Heap} {mg : Str → Option Value} {fa : Addr} (X : K.In h) (G : h.Ns mainGlobals mg) (hfa : mg "law" = some (.ref fa))
    {f0 : Addr} {oc0 kV0 dc0 pm0 cd0 ct0 : Value} {od0 an0 : Option Addr} {sl0 : Array (Option Value)}
    {f1 : Addr} {oc1 kV1 dc1 pm1 cd1 ct1 : Value} {od1 an1 : Option Addr} {sl1 : Array (Option Value)}
    {f2 : Addr} {oc2 kV2 dc2 pm2 cd2 ct2 : Value} {od2 an2 : Option Addr} {sl2 : Array (Option Value)}
    {f3 : Addr} {oc3 kV3 dc3 pm3 cd3 ct3 : Value} {od3 an3 : Option Addr} {sl3 : Array (Option Value)}
    {f4 : Addr} {oc4 kV4 dc4 pm4 cd4 ct4 : Value} {od4 an4 : Option Addr} {sl4 : Array (Option Value)}
    {f5 : Addr} {oc5 kV5 dc5 pm5 cd5 ct5 : Value} {od5 an5 : Option Addr} {sl5 : Array (Option Value)}
    {f6 : Addr} {oc6 kV6 dc6 pm6 cd6 ct6 : Value} {od6 an6 : Option Addr} {sl6 : Array (Option Value)}
    {f7 : Addr} {oc7 kV7 dc7 pm7 cd7 ct7 : Value} {od7 an7 : Option Addr} {sl7 : Array (Option Value)}
    {f8 : Addr} {oc8 kV8 dc8 pm8 cd8 ct8 : Value} {od8 an8 : Option Addr} {sl8 : Array (Option Value)}
    {f9 : Addr} {oc9 kV9 dc9 pm9 cd9 ct9 : Value} {od9 an9 : Option Addr} {sl9 : Array (Option Value)}
    {f10 : Addr} {oc10 kV10 dc10 pm10 cd10 ct10 : Value} {od10 an10 : Option Addr} {sl10 : Array (Option Value)}
    {f11 : Addr} {oc11 kV11 dc11 pm11 cd11 ct11 : Value} {od11 an11 : Option Addr} {sl11 : Array (Option Value)}
    {f12 : Addr} {oc12 kV12 dc12 pm12 cd12 ct12 : Value} {od12 an12 : Option Addr} {sl12 : Array (Option Value)}
    {f13 : Addr} {oc13 kV13 dc13 pm13 cd13 ct13 : Value} {od13 an13 : Option Addr} {sl13 : Array (Option Value)}
    {f14 : Addr} {oc14 kV14 dc14 pm14 cd14 ct14 : Value} {od14 an14 : Option Addr} {sl14 : Array (Option Value)}
    {f15 : Addr} {oc15 kV15 dc15 pm15 cd15 ct15 : Value} {od15 an15 : Option Addr} {sl15 : Array (Option Value)}
    {f16 : Addr} {oc16 kV16 dc16 pm16 cd16 ct16 : Value} {od16 an16 : Option Addr} {sl16 : Array (Option Value)}
    {gt0 : Tok}
    {gt1 : Tok}
    {C0 : Addr}
    (a0 : PySem.W.nsIn K mainGlobals "is_name" = some (some (.ref f0))) (l0 : K.lookup f0 = some ⟨oc0, od0, .func (PySem.W.fnOf "is_name" "is_name" (defArgs (topS 25)) (defBody (topS 25)) (defScope (topS 25)) .none kV0 dc0 pm0 an0 cd0 ct0), sl0⟩) (c0 : PySem.W.codeIn K cd0 "is_name" = true) (k0 : PySem.W.keepIn K (.ref f0) = true)
    (a1 : PySem.W.nsIn K mainGlobals "code_of" = some (some (.ref f1))) (l1 : K.lookup f1 = some ⟨oc1, od1, .func (PySem.W.fnOf "code_of" "code_of" (defArgs (topS 26)) (defBody (topS 26)) (defScope (topS 26)) .none kV1 dc1 pm1 an1 cd1 ct1), sl1⟩) (c1 : PySem.W.codeIn K cd1 "code_of" = true) (k1 : PySem.W.keepIn K (.ref f1) = true)
    (a2 : PySem.W.nsIn K mainGlobals "name_of" = some (some (.ref f2))) (l2 : K.lookup f2 = some ⟨oc2, od2, .func (PySem.W.fnOf "name_of" "name_of" (defArgs (topS 27)) (defBody (topS 27)) (defScope (topS 27)) .none kV2 dc2 pm2 an2 cd2 ct2), sl2⟩) (c2 : PySem.W.codeIn K cd2 "name_of" = true) (k2 : PySem.W.keepIn K (.ref f2) = true)
    (a3 : PySem.W.nsIn K mainGlobals "_law_mixed" = some (some (.ref f3))) (l3 : K.lookup f3 = some ⟨oc3, od3, .func (PySem.W.fnOf "_law_mixed" "_law_mixed" (defArgs (topS 29)) (defBody (topS 29)) (defScope (topS 29)) .none kV3 dc3 pm3 an3 cd3 ct3), sl3⟩) (c3 : PySem.W.codeIn K cd3 "_law_mixed" = true) (k3 : PySem.W.keepIn K (.ref f3) = true)
    (a4 : PySem.W.nsIn K mainGlobals "_law_draws" = some (some (.ref f4))) (l4 : K.lookup f4 = some ⟨oc4, od4, .func (PySem.W.fnOf "_law_draws" "_law_draws" (defArgs (topS 30)) (defBody (topS 30)) (defScope (topS 30)) .none kV4 dc4 pm4 an4 cd4 ct4), sl4⟩) (c4 : PySem.W.codeIn K cd4 "_law_draws" = true) (k4 : PySem.W.keepIn K (.ref f4) = true)
    (a5 : PySem.W.nsIn K mainGlobals "_law_next" = some (some (.ref f5))) (l5 : K.lookup f5 = some ⟨oc5, od5, .func (PySem.W.fnOf "_law_next" "_law_next" (defArgs (topS 31)) (defBody (topS 31)) (defScope (topS 31)) .none kV5 dc5 pm5 an5 cd5 ct5), sl5⟩) (c5 : PySem.W.codeIn K cd5 "_law_next" = true) (k5 : PySem.W.keepIn K (.ref f5) = true)
    (a6 : PySem.W.nsIn K mainGlobals "_law_code" = some (some (.ref f6))) (l6 : K.lookup f6 = some ⟨oc6, od6, .func (PySem.W.fnOf "_law_code" "_law_code" (defArgs (topS 32)) (defBody (topS 32)) (defScope (topS 32)) .none kV6 dc6 pm6 an6 cd6 ct6), sl6⟩) (c6 : PySem.W.codeIn K cd6 "_law_code" = true) (k6 : PySem.W.keepIn K (.ref f6) = true)
    (a7 : PySem.W.nsIn K mainGlobals "_law_word" = some (some (.ref f7))) (l7 : K.lookup f7 = some ⟨oc7, od7, .func (PySem.W.fnOf "_law_word" "_law_word" (defArgs (topS 33)) (defBody (topS 33)) (defScope (topS 33)) .none kV7 dc7 pm7 an7 cd7 ct7), sl7⟩) (c7 : PySem.W.codeIn K cd7 "_law_word" = true) (k7 : PySem.W.keepIn K (.ref f7) = true)
    (a8 : PySem.W.nsIn K mainGlobals "_law_is_code" = some (some (.ref f8))) (l8 : K.lookup f8 = some ⟨oc8, od8, .func (PySem.W.fnOf "_law_is_code" "_law_is_code" (defArgs (topS 34)) (defBody (topS 34)) (defScope (topS 34)) .none kV8 dc8 pm8 an8 cd8 ct8), sl8⟩) (c8 : PySem.W.codeIn K cd8 "_law_is_code" = true) (k8 : PySem.W.keepIn K (.ref f8) = true)
    (a9 : PySem.W.nsIn K mainGlobals "_law_refuses_name" = some (some (.ref f9))) (l9 : K.lookup f9 = some ⟨oc9, od9, .func (PySem.W.fnOf "_law_refuses_name" "_law_refuses_name" (defArgs (topS 35)) (defBody (topS 35)) (defScope (topS 35)) .none kV9 dc9 pm9 an9 cd9 ct9), sl9⟩) (c9 : PySem.W.codeIn K cd9 "_law_refuses_name" = true) (k9 : PySem.W.keepIn K (.ref f9) = true)
    (a10 : PySem.W.nsIn K mainGlobals "_law_refuses_code" = some (some (.ref f10))) (l10 : K.lookup f10 = some ⟨oc10, od10, .func (PySem.W.fnOf "_law_refuses_code" "_law_refuses_code" (defArgs (topS 36)) (defBody (topS 36)) (defScope (topS 36)) .none kV10 dc10 pm10 an10 cd10 ct10), sl10⟩) (c10 : PySem.W.codeIn K cd10 "_law_refuses_code" = true) (k10 : PySem.W.keepIn K (.ref f10) = true)
    (a11 : PySem.W.nsIn K mainGlobals "_law_number" = some (some (.ref f11))) (l11 : K.lookup f11 = some ⟨oc11, od11, .func (PySem.W.fnOf "_law_number" "_law_number" (defArgs (topS 37)) (defBody (topS 37)) (defScope (topS 37)) .none kV11 dc11 pm11 an11 cd11 ct11), sl11⟩) (c11 : PySem.W.codeIn K cd11 "_law_number" = true) (k11 : PySem.W.keepIn K (.ref f11) = true)
    (a12 : PySem.W.nsIn K mainGlobals "_law_fits_name" = some (some (.ref f12))) (l12 : K.lookup f12 = some ⟨oc12, od12, .func (PySem.W.fnOf "_law_fits_name" "_law_fits_name" (defArgs (topS 38)) (defBody (topS 38)) (defScope (topS 38)) .none kV12 dc12 pm12 an12 cd12 ct12), sl12⟩) (c12 : PySem.W.codeIn K cd12 "_law_fits_name" = true) (k12 : PySem.W.keepIn K (.ref f12) = true)
    (a13 : PySem.W.nsIn K mainGlobals "_law_fits_code" = some (some (.ref f13))) (l13 : K.lookup f13 = some ⟨oc13, od13, .func (PySem.W.fnOf "_law_fits_code" "_law_fits_code" (defArgs (topS 39)) (defBody (topS 39)) (defScope (topS 39)) .none kV13 dc13 pm13 an13 cd13 ct13), sl13⟩) (c13 : PySem.W.codeIn K cd13 "_law_fits_code" = true) (k13 : PySem.W.keepIn K (.ref f13) = true)
    (a14 : PySem.W.nsIn K mainGlobals "_law_kinds" = some (some (.ref f14))) (l14 : K.lookup f14 = some ⟨oc14, od14, .func (PySem.W.fnOf "_law_kinds" "_law_kinds" (defArgs (topS 40)) (defBody (topS 40)) (defScope (topS 40)) .none kV14 dc14 pm14 an14 cd14 ct14), sl14⟩) (c14 : PySem.W.codeIn K cd14 "_law_kinds" = true) (k14 : PySem.W.keepIn K (.ref f14) = true)
    (a15 : PySem.W.nsIn K mainGlobals "_law_refusals_right" = some (some (.ref f15))) (l15 : K.lookup f15 = some ⟨oc15, od15, .func (PySem.W.fnOf "_law_refusals_right" "_law_refusals_right" (defArgs (topS 41)) (defBody (topS 41)) (defScope (topS 41)) .none kV15 dc15 pm15 an15 cd15 ct15), sl15⟩) (c15 : PySem.W.codeIn K cd15 "_law_refusals_right" = true) (k15 : PySem.W.keepIn K (.ref f15) = true)
    (a16 : PySem.W.nsIn K mainGlobals "law" = some (some (.ref f16))) (l16 : K.lookup f16 = some ⟨oc16, od16, .func (PySem.W.fnOf "law" "law" (defArgs (topS 42)) (defBody (topS 42)) (defScope (topS 42)) .none kV16 dc16 pm16 an16 cd16 ct16), sl16⟩) (c16 : PySem.W.codeIn K cd16 "law" = true) (k16 : PySem.W.keepIn K (.ref f16) = true)
    (z0 : PySem.W.nsIn K mainGlobals "len" = some none)
    (z1 : PySem.W.nsIn K mainGlobals "abs" = some none)
    (z2 : PySem.W.nsIn K mainGlobals "min" = some none)
    (z3 : PySem.W.nsIn K mainGlobals "all" = some none)
    (z4 : PySem.W.nsIn K mainGlobals "ord" = some none)
    (z5 : PySem.W.nsIn K mainGlobals "str" = some none)
    (z6 : PySem.W.nsIn K mainGlobals "isinstance" = some none)
    (z7 : PySem.W.nsIn K mainGlobals "int" = some none)
    (z8 : PySem.W.nsIn K mainGlobals "bool" = some none)
    (z9 : PySem.W.nsIn K mainGlobals "range" = some none)
    (z10 : PySem.W.nsIn K mainGlobals "enumerate" = some none)
    (gg0 : PySem.W.nsIn K mainGlobals "LETTERS" = some (some (.str "abcdefghijklmnopqrstuvwxyz" gt0)))
    (gg1 : PySem.W.nsIn K mainGlobals "MOST_SIGNS" = some (some (.int 8 gt1)))
    (x0 : PySem.W.nsIn K mainGlobals "NoName" = some (some (.ref C0))) (y0 : PySem.W.excIn K C0 [.type "ValueError", .type "Exception", .type "BaseException", .type "object"] "ValueError.__new__" = true) (u0 : PySem.W.keepIn K (.ref C0) = true) (v0 : PySem.W.subIn K (.ref C0) (.type "BaseException") = some true) (w0 : PySem.W.typeIn K (.ref C0) = some (.type "type")) (ic0 : PySem.W.isClsIn K C0 = true)
    (e0_0 : PySem.W.subIn K (.ref C0) (.ref C0) = some true)
    (qkev : evB K EXV cc.evi = true)
    : ∃ (cls : Nat → Value) (fd : FuncData), (∀ (s : Shared) (v : Value), BindsTo s fd ⟨[v], []⟩ [("_law_script", v)]) ∧ ∀ base : Heap, K.In base → base.Ns mainGlobals mg → FnOk l.prog w K mg base (L2.CX l.prog w) 24 fa fd ["_law_script"] (spF K cls (Phi tbl 8 16)) := by
  have e := hfa.symm.trans (PySem.W.mg_of X G a16)
  cases e
  have D0 : DefOk K mg cc "is_name" d_is_name := defOk_mk X G sc_is_name rfl rfl rd_is_name (fun _ _ _ _ _ _ us hl => match us, hl with | [_], _ => rfl) a0 l0 c0 k0 (fun z => by cases z)
  have D1 : DefOk K mg cc "code_of" d_code_of := defOk_mk X G sc_code_of rfl rfl rd_code_of (fun _ _ _ _ _ _ us hl => match us, hl with | [_], _ => rfl) a1 l1 c1 k1 (fun z => by cases z)
  have D2 : DefOk K mg cc "name_of" d_name_of := defOk_mk X G sc_name_of rfl rfl rd_name_of (fun _ _ _ _ _ _ us hl => match us, hl with | [_], _ => rfl) a2 l2 c2 k2 (fun z => by cases z)
  have D3 : DefOk K mg cc "_law_mixed" d__law_mixed := defOk_mk X G sc__law_mixed rfl rfl rd__law_mixed (fun _ _ _ _ _ _ us hl => match us, hl with | [_, _], _ => rfl) a3 l3 c3 k3 (fun z => by cases z)
  have D4 : DefOk K mg cc "_law_draws" d__law_draws := defOk_mk X G sc__law_draws rfl rfl rd__law_draws (fun _ _ _ _ _ _ us hl => match us, hl with | [_], _ => rfl) a4 l4 c4 k4 (fun z => by cases z)
  have D5 : DefOk K mg cc "_law_next" d__law_next := defOk_mk X G sc__law_next rfl rfl rd__law_next (fun _ _ _ _ _ _ us hl => match us, hl with | [_], _ => rfl) a5 l5 c5 k5 (fun z => by cases z)
  have D6 : DefOk K mg cc "_law_code" d__law_code := defOk_mk X G sc__law_code rfl rfl rd__law_code (fun _ _ _ _ _ _ us hl => match us, hl with | [_], _ => rfl) a6 l6 c6 k6 (fun z => by cases z)
  have D7 : DefOk K mg cc "_law_word" d__law_word := defOk_mk X G sc__law_word rfl rfl rd__law_word (fun _ _ _ _ _ _ us hl => match us, hl with | [_], _ => rfl) a7 l7 c7 k7 (fun z => by cases z)
  have D8 : DefOk K mg cc "_law_is_code" d__law_is_code := defOk_mk X G sc__law_is_code rfl rfl rd__law_is_code (fun _ _ _ _ _ _ us hl => match us, hl with | [_], _ => rfl) a8 l8 c8 k8 (fun z => by cases z)
  have D9 : DefOk K mg cc "_law_refuses_name" d__law_refuses_name := defOk_mk X G sc__law_refuses_name rfl rfl rd__law_refuses_name (fun _ _ _ _ _ _ us hl => match us, hl with | [_], _ => rfl) a9 l9 c9 k9 (fun z => by cases z)
  have D10 : DefOk K mg cc "_law_refuses_code" d__law_refuses_code := defOk_mk X G sc__law_refuses_code rfl rfl rd__law_refuses_code (fun _ _ _ _ _ _ us hl => match us, hl with | [_], _ => rfl) a10 l10 c10 k10 (fun z => by cases z)
  have D11 : DefOk K mg cc "_law_number" d__law_number := defOk_mk X G sc__law_number rfl rfl rd__law_number (fun _ _ _ _ _ _ us hl => match us, hl with | [_], _ => rfl) a11 l11 c11 k11 (fun z => by cases z)
  have D12 : DefOk K mg cc "_law_fits_name" d__law_fits_name := defOk_mk X G sc__law_fits_name rfl rfl rd__law_fits_name (fun _ _ _ _ _ _ us hl => match us, hl with | [_], _ => rfl) a12 l12 c12 k12 (fun z => by cases z)
  have D13 : DefOk K mg cc "_law_fits_code" d__law_fits_code := defOk_mk X G sc__law_fits_code rfl rfl rd__law_fits_code (fun _ _ _ _ _ _ us hl => match us, hl with | [_], _ => rfl) a13 l13 c13 k13 (fun z => by cases z)
  have D14 : DefOk K mg cc "_law_kinds" d__law_kinds := defOk_mk X G sc__law_kinds rfl rfl rd__law_kinds (fun _ _ _ _ _ _ us hl => match us, hl with | [_], _ => rfl) a14 l14 c14 k14 (fun z => by cases z)
  have D15 : DefOk K mg cc "_law_refusals_right" d__law_refusals_right := defOk_mk X G sc__law_refusals_right rfl rfl rd__law_refusals_right (fun _ _ _ _ _ _ us hl => match us, hl with | [], _ => rfl) a15 l15 c15 k15 (fun z => by cases z)
  have D16 : DefOk K mg cc "law" d_law := defOk_mk X G sc_law rfl rfl rd_law (fun _ _ _ _ _ _ us hl => match us, hl with | [_], _ => rfl) a16 l16 c16 k16 (fun z => by cases z)
  have defs : ∀ (i : Nat) (x : Str), cc.fns[i]? = some x → ∃ d, tbl[i]? = some d ∧ DefOk K mg cc x d := fun i x hx => by
    match i, hx with
    | 0, hx => cases hx; exact ⟨_, rfl, D0⟩
    | 1, hx => cases hx; exact ⟨_, rfl, D1⟩
    | 2, hx => cases hx; exact ⟨_, rfl, D2⟩
    | 3, hx => cases hx; exact ⟨_, rfl, D3⟩
    | 4, hx => cases hx; exact ⟨_, rfl, D4⟩
    | 5, hx => cases hx; exact ⟨_, rfl, D5⟩
    | 6, hx => cases hx; exact ⟨_, rfl, D6⟩
    | 7, hx => cases hx; exact ⟨_, rfl, D7⟩
    | 8, hx => cases hx; exact ⟨_, rfl, D8⟩
    | 9, hx => cases hx; exact ⟨_, rfl, D9⟩
    | 10, hx => cases hx; exact ⟨_, rfl, D10⟩
    | 11, hx => cases hx; exact ⟨_, rfl, D11⟩
    | 12, hx => cases hx; exact ⟨_, rfl, D12⟩
    | 13, hx => cases hx; exact ⟨_, rfl, D13⟩
    | 14, hx => cases hx; exact ⟨_, rfl, D14⟩
    | 15, hx => cases hx; exact ⟨_, rfl, D15⟩
    | 16, hx => cases hx; exact ⟨_, rfl, D16⟩
    | n + 17, hx => cases hx
  have blt : ∀ x ∈ cc.blt, mg x = none := fun x hx => by
    simp only [cc, List.mem_cons, List.not_mem_nil, or_false] at hx
    rcases hx with rfl | rfl | rfl | rfl | rfl | rfl | rfl | rfl | rfl | rfl | rfl
    · exact PySem.W.mg_none_of X G z0
    · exact PySem.W.mg_none_of X G z1
    · exact PySem.W.mg_none_of X G z2
    · exact PySem.W.mg_none_of X G z3
    · exact PySem.W.mg_none_of X G z4
    · exact PySem.W.mg_none_of X G z5
    · exact PySem.W.mg_none_of X G z6
    · exact PySem.W.mg_none_of X G z7
    · exact PySem.W.mg_none_of X G z8
    · exact PySem.W.mg_none_of X G z9
    · exact PySem.W.mg_none_of X G z10
  have gl : ∀ (x : Str) (d : D), cc.gl.lookup x = some d → GOk K mg x d := fun x d hx => by
    simp only [cc, List.lookup_cons, List.lookup_nil] at hx
    split at hx
    · rename_i ee
      have ee := eq_of_beq ee
      subst ee
      cases hx
      exact ⟨_, .str (⟨#[97, 98, 99, 100, 101, 102, 103, 104, 105, 106, 107, 108, 109, 110, 111, 112, 113, 114, 115, 116, 117, 118, 119, 120, 121, 122]⟩ : Str), PySem.W.mg_of X G gg0, ⟨_, rfl⟩, fun _ _ => .str _⟩
    split at hx
    · rename_i ee
      have ee := eq_of_beq ee
      subst ee
      cases hx
      exact ⟨_, .int 8, PySem.W.mg_of X G gg1, ⟨_, rfl⟩, fun _ _ => .int _⟩
    cases hx
  have kd : ∀ (x : Str) (t : List (Str × D)), cc.kd.lookup x = some t → KOk K w mg x t := fun x t hx => by
    cases hx
  have xcs : ∀ (i : Nat) (x : Str), cc.xcs[i]? = some x → XOk K mg ((fun n : Nat => match min n 0 with | 0 => Value.ref C0 | _ => Value.ref C0) i) x := fun i x hx => by
    match i, hx with
    | 0, hx => cases hx; exact ⟨C0, rfl, PySem.W.mg_of X G x0, y0, u0, v0, w0⟩
    | n + 1, hx => cases hx
  have sub : cc.xcs ≠ [] → ∀ a b, PySem.W.exmOne K ((fun n : Nat => match min n 0 with | 0 => Value.ref C0 | _ => Value.ref C0) a) ((fun n : Nat => match min n 0 with | 0 => Value.ref C0 | _ => Value.ref C0) b) = some (cc.sub a b) := fun hne a b => by
    show _ = some (Sub a b)
    unfold Sub
    dsimp only
    have ha : min a 0 < 1 := by omega
    have hb : min b 0 < 1 := by omega
    revert ha hb
    generalize min a 0 = a' 
    generalize min b 0 = b' 
    intro ha hb
    match a', b', ha, hb with
    | 0, 0, _, _ => exact exm_mk v0 ic0 w0 e0_0
    | 0, n + 1, _, hb => omega
    | n + 1, _, ha, _ => omega
  have isi : ∀ (t : Str) (g : Nat → Bool), cc.isi.lookup t = some g → IsiOk K mg (fun n : Nat => match min n 0 with | 0 => Value.ref C0 | _ => Value.ref C0) t g := fun t g hx => by
    cases hx
  have ocl : ∀ (x : Str) (p : List Str × List (Str × Nat)), cc.ocl.lookup x = some p → ClOk K mg cc tbl x p.1 p.2 := fun x p hx => by
    cases hx
  obtain ⟨s, f, fd, N, ps, m, lt, h1, h2, h3, _⟩ := D16.ex
  refine ⟨(fun n : Nat => match min n 0 with | 0 => Value.ref C0 | _ => Value.ref C0), PySem.W.fnOf "law" "law" (defArgs (topS 42)) (defBody (topS 42)) (defScope (topS 42)) .none kV16 dc16 pm16 an16 cd16 ct16, fun s v => .of_eq rfl, fun base _ _ => ?_⟩
  have hTB : ∀ p ∈ TabsC.codes, LamX.TabB base mg p.1 p.2 := fun p hp => by cases hp
  have F := fun_mk (st := topS 42) l16 c16 k16
  have ee : Phi tbl 8 16 = runDef d_law (Phi tbl 7) := by funext ds st; exact phi_law 7 ds st
  rw [ee]
  have evs : EvOk K mg cc.exv cc.evi := evB_ok (fun y u h => PySem.W.mg_of X G h) (fun y h => PySem.W.mg_none_of X G h) qkev
  exact def_ok hTB (phi_ok hTB blt gl kd xcs sub isi evs ocl defs 7) F sc_law rfl rfl (rd_law _) (fun z => by cases z)
end LK01
open PySem PySem.W PyProof.Rows
theorem PySem.Challenge.cw_snapshelf_k01_codes_holds : PySem.Challenge.rw_snapshelf_k01_codes.Holds := by
  w_on; o_law; k_head; (case hw => w_witness2)
  k_fill
  refine MI.walk_ofX (l := PySem.Challenge.rw_snapshelf_k01_codes) (n := 63) (k := 24) (x := "_law_script") (f := MI.Phi LK01.tbl 8 16) rfl rfl (by decide) rfl ⟨rfl, by decide, by decide⟩ (fun w h Y => PySem.W.kIn_of Y) ?F (fun ns hl => LK01.law_pure ns hl)
  case F =>
    intro w mg fa h KX G hmg
    refine' LK01.all_mk KX G hmg ?a0 ?l0 ?c0 ?k0 ?a1 ?l1 ?c1 ?k1 ?a2 ?l2 ?c2 ?k2 ?a3 ?l3 ?c3 ?k3 ?a4 ?l4 ?c4 ?k4 ?a5 ?l5 ?c5 ?k5 ?a6 ?l6 ?c6 ?k6 ?a7 ?l7 ?c7 ?k7 ?a8 ?l8 ?c8 ?k8 ?a9 ?l9 ?c9 ?k9 ?a10 ?l10 ?c10 ?k10 ?a11 ?l11 ?c11 ?k11 ?a12 ?l12 ?c12 ?k12 ?a13 ?l13 ?c13 ?k13 ?a14 ?l14 ?c14 ?k14 ?a15 ?l15 ?c15 ?k15 ?a16 ?l16 ?c16 ?k16 ?z0 ?z1 ?z2 ?z3 ?z4 ?z5 ?z6 ?z7 ?z8 ?z9 ?z10 ?gg0 ?gg1 ?x0 ?y0 ?u0 ?v0 ?w0 ?ic0 ?e0_0 ?qkev
    (case a0 => k_is); (case l0 => k_is); (case c0 => k_is); (case k0 => k_is); (case a1 => k_is); (case l1 => k_is); (case c1 => k_is); (case k1 => k_is); (case a2 => k_is); (case l2 => k_is); (case c2 => k_is); (case k2 => k_is); (case a3 => k_is); (case l3 => k_is); (case c3 => k_is); (case k3 => k_is); (case a4 => k_is); (case l4 => k_is); (case c4 => k_is); (case k4 => k_is); (case a5 => k_is); (case l5 => k_is); (case c5 => k_is); (case k5 => k_is); (case a6 => k_is); (case l6 => k_is); (case c6 => k_is); (case k6 => k_is); (case a7 => k_is); (case l7 => k_is); (case c7 => k_is); (case k7 => k_is); (case a8 => k_is); (case l8 => k_is); (case c8 => k_is); (case k8 => k_is); (case a9 => k_is); (case l9 => k_is); (case c9 => k_is); (case k9 => k_is); (case a10 => k_is); (case l10 => k_is); (case c10 => k_is); (case k10 => k_is); (case a11 => k_is); (case l11 => k_is); (case c11 => k_is); (case k11 => k_is); (case a12 => k_is); (case l12 => k_is); (case c12 => k_is); (case k12 => k_is); (case a13 => k_is); (case l13 => k_is); (case c13 => k_is); (case k13 => k_is); (case a14 => k_is); (case l14 => k_is); (case c14 => k_is); (case k14 => k_is); (case a15 => k_is); (case l15 => k_is); (case c15 => k_is); (case k15 => k_is); (case a16 => k_is); (case l16 => k_is); (case c16 => k_is); (case k16 => k_is); (case z0 => k_is); (case z1 => k_is); (case z2 => k_is); (case z3 => k_is); (case z4 => k_is); (case z5 => k_is); (case z6 => k_is); (case z7 => k_is); (case z8 => k_is); (case z9 => k_is); (case z10 => k_is); (case gg0 => k_is); (case gg1 => k_is); (case x0 => k_is); (case y0 => k_exc); (case u0 => k_is); (case v0 => k_is); (case w0 => k_is); (case ic0 => k_is); (case e0_0 => k_is); (case qkev => kernel_rfl)
