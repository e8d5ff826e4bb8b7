import PyProof.Rows.All
import Wide.All
import OpenK.AllK
import Wide.FinOn
import HandS.ForMost
import HandS.ForExc
import HandS.CallSlots
import HandS.More
import HandS.SortInts
import HandS.Property
import HandS.OwnEq
import HandS.NoneIn
import HandS.IsInst
import HandS.Wide
import HandS.TupAny
import PyProof.Rows.RuleB_pow
import KE.KDictPairs
import PyProof.ReprRoads
import HandS.RaiseMore
import PySem.Challenge.RW_nearadds_k93_whole_sums_pass_steps
set_option Elab.async false
set_option linter.all false
set_option maxRecDepth 100000
/-! NvEv: a small evaluator of values: data D, mutable things MO, results R; the combinators that a def's meaning is made of. No program in sight. -/
namespace Nv
open PySem

/-- data: tuples and lists by what they hold (wtup: a tuple that an iterator made; scr: the script); ref l: the l-th mutable thing -/
inductive D where
  | non | bl (b : Bool) | int (i : Int) | str (x : Str)
  | tup (ds : List D) | wtup (ds : List D) | lst (ds : List D) | scr (ds : List D) | ref (l : Nat)
  deriving Inhabited
abbrev Key := Sum Int Str
/-- mutable things -/
inductive MO where
  | lst (ds : List D) | dct (kvs : List (Key × D)) | fdct (kvs : List (Key × D)) | ins (c : Nat) (ds : List D)
  deriving Inhabited
abbrev Mem := List MO
abbrev Env := List (Option D)

inductive R (α : Type) where
  | ok (a : α) (m : Mem) | exc (c : Nat) (v : D) (m : Mem) | bad
@[reducible] def R.bind {α β : Type} (r : R α) (f : α → Mem → R β) : R β := match r with
  | .ok a m => f a m
  | .exc c v m => .exc c v m
  | .bad => .bad
theorem R.bind_ok {α β : Type} (a : α) (m : Mem) (f : α → Mem → R β) : (R.ok a m).bind f = f a m := rfl
def R.wp {α : Type} (r : R α) (Q : α → Mem → Prop) (E : Nat → D → Mem → Prop) : Prop := match r with
  | .ok a m => Q a m
  | .exc c v m => E c v m
  | .bad => False
theorem R.wp_bind {α β : Type} {r : R α} {f : α → Mem → R β} {Q : β → Mem → Prop} {E : Nat → D → Mem → Prop} : (r.bind f).wp Q E ↔ r.wp (fun a m => (f a m).wp Q E) E := by
  cases r <;> exact Iff.rfl
theorem R.wp_mono {α : Type} {r : R α} {Q Q' : α → Mem → Prop} {E E' : Nat → D → Mem → Prop} (h : r.wp Q E) (hQ : ∀ a m, Q a m → Q' a m) (hE : ∀ c v m, E c v m → E' c v m) : r.wp Q' E' := by
  cases r with
  | ok a m => exact hQ a m h
  | exc c v m => exact hE c v m h
  | bad => exact h
def lift {α : Type} (o : Option α) (m : Mem) : R α := match o with
  | some a => .ok a m
  | none => .bad
theorem lift_some {α : Type} (a : α) (m : Mem) : lift (some a) m = .ok a m := rfl
def asBool : D → Option Bool
  | .bl b => some b
  | _ => none
def asInt : D → Option Int
  | .int i => some i
  | _ => none

abbrev FE := Env → Mem → R D
abbrev FA := Env → Mem → R (List D)

/-! ### expressions -/
def evVar (i : Nat) : FE := fun ρ M => match ρ[i]? with
  | some (some d) => .ok d M
  | _ => .bad
def evC (d : D) : FE := fun _ M => .ok d M
/-- an operation upon values that reads memory -/
def evOp1 (f : Mem → D → Option D) (a : FE) : FE := fun ρ M => (a ρ M).bind fun x M1 => lift (f M1 x) M1
def evOp2 (f : Mem → D → D → Option D) (a b : FE) : FE := fun ρ M => (a ρ M).bind fun x M1 => (b ρ M1).bind fun y M2 => lift (f M2 x y) M2
def evNil : FA := fun _ M => .ok [] M
def evCons (a : FE) (r : FA) : FA := fun ρ M => (a ρ M).bind fun x M1 => (r ρ M1).bind fun xs M2 => .ok (x :: xs) M2
/-- a built-in upon values -/
def evB (f : Mem → List D → Option D) (a : FA) : FE := fun ρ M => (a ρ M).bind fun xs M1 => lift (f M1 xs) M1
def evTup (a : FA) : FE := fun ρ M => (a ρ M).bind fun xs M1 => .ok (.tup xs) M1
def evLst (a : FA) : FE := fun ρ M => (a ρ M).bind fun xs M1 => .ok (.lst xs) M1
def evNew (a : FA) : FE := fun ρ M => (a ρ M).bind fun xs M1 => .ok (.ref M1.length) (M1 ++ [.lst xs])
def evDct0 : FE := fun _ M => .ok (.ref M.length) (M ++ [.dct []])
def evIf (c a b : FE) : FE := fun ρ M => (c ρ M).bind fun x M1 => match asBool x with
  | some k => if k = true then a ρ M1 else b ρ M1
  | none => .bad
/-- a and b, a or b: a True or False -/
def evAnd (a b : FE) : FE := fun ρ M => (a ρ M).bind fun x M1 => match asBool x with
  | some k => if k = true then b ρ M1 else .ok (.bl false) M1
  | none => .bad
def evOr (a b : FE) : FE := fun ρ M => (a ρ M).bind fun x M1 => match asBool x with
  | some k => if k = true then .ok (.bl true) M1 else b ρ M1
  | none => .bad
def evNot (a : FE) : FE := fun ρ M => (a ρ M).bind fun x M1 => match asBool x with
  | some k => .ok (.bl (!k)) M1
  | none => .bad
/-- a op b op' c -/
def evChain (f g : Mem → D → D → Option D) (a b c : FE) : FE := fun ρ M => (a ρ M).bind fun x M1 => (b ρ M1).bind fun y M2 => match f M2 x y with
  | some (.bl k) => if k = true then (c ρ M2).bind fun z M3 => lift (g M3 y z) M3 else .ok (.bl false) M2
  | _ => .bad
abbrev Fn := List D → Mem → R D
def evCall (g : Fn) (a : FA) : FE := fun ρ M => (a ρ M).bind fun xs M1 => g xs M1
/-- keywords' order: what the callee sees of the values in the order written -/
def evCallP (g : Fn) (perm : List D → List D) (a : FA) : FE := fun ρ M => (a ρ M).bind fun xs M1 => g (perm xs) M1
def insAt (M : Mem) (c : Nat) : D → Option (List D)
  | .ref l => match M[l]? with
    | some (.ins c' ds) => if c' = c then some ds else none
    | _ => none
  | _ => none
def evFld (c i : Nat) (a : FE) : FE := fun ρ M => (a ρ M).bind fun x M1 => match insAt M1 c x with
  | some ds => lift (ds[i]?) M1
  | none => .bad
/-- o.m(..) of an instance of the class c; also its properties -/
def evMeth (c : Nat) (g : Fn) (o : FE) (a : FA) : FE := fun ρ M => (o ρ M).bind fun x M1 => match insAt M1 c x with
  | some _ => (a ρ M1).bind fun xs M2 => g (x :: xs) M2
  | none => .bad
/-- C(..): a new instance, then its __init__, which hands back None -/
def evMake (c : Nat) (g : Fn) (a : FA) : FE := fun ρ M => (a ρ M).bind fun xs M1 => (g (.ref M1.length :: xs) (M1 ++ [.ins c []])).bind fun r M2 => match r with
  | .non => .ok (.ref M1.length) M2
  | _ => .bad
/-- a == b of two instances of the class c, by its own __eq__ -/
def evOwnEq (c : Nat) (g : Fn) (a b : FE) : FE := fun ρ M => (a ρ M).bind fun x M1 => (b ρ M1).bind fun y M2 => match insAt M2 c x, insAt M2 c y with
  | some _, some _ => match g [x, y] M2 with
    | .ok d M3 => match asBool d with
      | some k => .ok (.bl k) M3
      | none => .bad
    | _ => .bad
  | _, _ => .bad

/-! ### targets -/
inductive Tg where
  | nm (i : Nat) | tup (ts : List Tg) | lst (ts : List Tg)
mutual
def Tg.put : Tg → D → Env → Option Env
  | .nm i, d, ρ => some (ρ.set i (some d))
  | .tup ts, .tup ds, ρ => Tg.puts ts ds ρ
  | .tup ts, .wtup ds, ρ => Tg.puts ts ds ρ
  | .lst ts, .lst ds, ρ => Tg.puts ts ds ρ
  | _, _, _ => none
def Tg.puts : List Tg → List D → Env → Option Env
  | [], [], ρ => some ρ
  | t :: ts, d :: ds, ρ => (t.put d ρ).bind fun ρ' => Tg.puts ts ds ρ'
  | _, _, _ => none
end
mutual
def Tg.names : Tg → List Nat
  | .nm i => [i]
  | .tup ts => Tg.namess ts
  | .lst ts => Tg.namess ts
def Tg.namess : List Tg → List Nat
  | [] => []
  | t :: ts => t.names ++ Tg.namess ts
end
def kill (ks : List Nat) (ρ : Env) : Env := ks.foldl (fun r k => r.set k none) ρ

/-! ### what is walked: its items, as they stand when the walk begins -/
abbrev FI := Env → Mem → R (List D)
def itemsOf : D → Option (List D)
  | .tup ds => some ds
  | .wtup ds => some ds
  | .lst ds => some ds
  | .scr ds => some ds
  | _ => none
def itSeq (a : FE) : FI := fun ρ M => (a ρ M).bind fun x M1 => lift (itemsOf x) M1
def rangeI (lo hi : Int) : List D := (List.range (hi - lo).toNat).map fun i => .int (lo + (i : Nat))
def smallI (i : Int) : Bool := decide (-(2 ^ 62) ≤ i) && decide (i < 2 ^ 62)
def itR1 (a : FE) : FI := fun ρ M => (a ρ M).bind fun x M1 => match x with
  | .int j => if smallI j = true then .ok (rangeI 0 j) M1 else .bad
  | _ => .bad
def itR2 (a b : FE) : FI := fun ρ M => (a ρ M).bind fun x M1 => (b ρ M1).bind fun y M2 => match x, y with
  | .int i, .int j => if smallI i = true ∧ smallI j = true then .ok (rangeI i j) M2 else .bad
  | _, _ => .bad

/-! ### comprehensions -/
def compL (tg : Tg) (c e : FE) (vs : List Nat) : List D → Env → Mem → R (List D)
  | [], _, M => .ok [] M
  | d :: ds, ρ, M => match tg.put d (kill vs ρ) with
    | some ρ1 => (c ρ1 M).bind fun k M1 => match asBool k with
      | some true => (e ρ1 M1).bind fun y M2 => (compL tg c e vs ds ρ M2).bind fun ys M3 => .ok (y :: ys) M3
      | some false => compL tg c e vs ds ρ M1
      | none => .bad
    | none => .bad
def fitL (r : R (List D)) : R D := match r with
  | .ok ys M => if ys.length ≤ 16777216 then .ok (.lst ys) M else .bad
  | _ => .bad
def evTrue : FE := fun _ M => .ok (.bl true) M
def evComp (it : FI) (tg : Tg) (c e : FE) (vs : List Nat) : FE := fun ρ M => (it ρ M).bind fun xs M1 => fitL (compL tg c e vs xs ρ M1)
/-- [e for tg in it if c for tg2 in it2 if c2] -/
def compL2 (tg : Tg) (c : FE) (it2 : FI) (tg2 : Tg) (c2 e : FE) (vs vs2 : List Nat) : List D → Env → Mem → R (List D)
  | [], _, M => .ok [] M
  | d :: ds, ρ, M => match tg.put d (kill vs ρ) with
    | some ρ1 => (c ρ1 M).bind fun k M1 => match asBool k with
      | some true => (it2 ρ1 M1).bind fun xs M2 => (compL tg2 c2 e vs2 xs ρ1 M2).bind fun ys M3 => (compL2 tg c it2 tg2 c2 e vs vs2 ds ρ M3).bind fun zs M4 => .ok (ys ++ zs) M4
      | some false => compL2 tg c it2 tg2 c2 e vs vs2 ds ρ M1
      | none => .bad
    | none => .bad
def evComp2 (it : FI) (tg : Tg) (c : FE) (it2 : FI) (tg2 : Tg) (c2 e : FE) (vs vs2 : List Nat) : FE := fun ρ M => (it ρ M).bind fun xs M1 => fitL (compL2 tg c it2 tg2 c2 e vs vs2 xs ρ M1)

/-! ### statements -/
inductive O where
  | nx (ρ : Env) | rt (d : D) | bk (ρ : Env) | ct (ρ : Env) | ex (ρ : Env) (c : Nat) (d : D)
abbrev FS := Env → Mem → R O
/-- an expression within a statement: what it raises leaves the statement with the slots as they are -/
@[reducible] def R.st {α : Type} (ρ : Env) (r : R α) (f : α → Mem → R O) : R O := match r with
  | .ok a m => f a m
  | .exc c v m => .ok (.ex ρ c v) m
  | .bad => .bad
theorem R.st_ok {α : Type} (ρ : Env) (a : α) (m : Mem) (f : α → Mem → R O) : (R.ok a m).st ρ f = f a m := rfl
def sSkip : FS := fun ρ M => .ok (.nx ρ) M
def sSeq (a b : FS) : FS := fun ρ M => (a ρ M).bind fun o M1 => match o with
  | .nx ρ1 => b ρ1 M1
  | o => .ok o M1
def sSet (i : Nat) (e : FE) : FS := fun ρ M => (e ρ M).st ρ fun d M1 => .ok (.nx (ρ.set i (some d))) M1
def sTg (tg : Tg) (e : FE) : FS := fun ρ M => (e ρ M).st ρ fun d M1 => match tg.put d ρ with
  | some ρ1 => .ok (.nx ρ1) M1
  | none => .bad
def sPar (i j : Nat) (a b : FE) : FS := fun ρ M => (a ρ M).st ρ fun x M1 => (b ρ M1).st ρ fun y M2 => .ok (.nx ((ρ.set i (some x)).set j (some y))) M2
def sExpr (e : FE) : FS := fun ρ M => (e ρ M).st ρ fun _ M1 => .ok (.nx ρ) M1
def sRet (e : FE) : FS := fun ρ M => (e ρ M).st ρ fun d M1 => .ok (.rt d) M1
def sRetN : FS := fun _ M => .ok (.rt .non) M
def sBreak : FS := fun ρ M => .ok (.bk ρ) M
def sCont : FS := fun ρ M => .ok (.ct ρ) M
def sNever : FS := fun _ _ => .bad
def sIf (c : FE) (a b : FS) : FS := fun ρ M => (c ρ M).st ρ fun x M1 => match asBool x with
  | some k => if k = true then a ρ M1 else b ρ M1
  | none => .bad
/-- forget slots -/
def sKill (ks : List Nat) (a : FS) : FS := fun ρ M => (a ρ M).bind fun o M1 => match o with
  | .nx ρ1 => .ok (.nx (kill ks ρ1)) M1
  | o => .ok o M1
def forL (tg : Tg) (body : FS) (ks : List Nat) : List D → Env → Mem → R O
  | [], ρ, M => .ok (.nx (kill ks ρ)) M
  | d :: ds, ρ, M => match tg.put d (kill ks ρ) with
    | some ρ1 => (body ρ1 M).bind fun o M1 => match o with
      | .nx ρ2 => forL tg body ks ds ρ2 M1
      | .ct ρ2 => forL tg body ks ds ρ2 M1
      | .bk ρ2 => .ok (.nx (kill ks ρ2)) M1
      | o => .ok o M1
    | none => .bad
def sFor (it : FI) (tg : Tg) (body : FS) (ks : List Nat) : FS := fun ρ M => (it ρ M).st ρ fun xs M1 => forL tg body ks xs ρ M1
/-- o[k] = e -/
def setAt (M : Mem) (o k v : D) : Option Mem := match o with
  | .ref l => match M[l]?, k with
    | some (.lst ds), .int i => if 0 ≤ i ∧ i.toNat < ds.length then some (M.set l (.lst (ds.set i.toNat v))) else none
    | _, _ => none
  | _ => none
def keyOf : D → Option Key
  | .int i => some (.inl i)
  | .str x => some (.inr x)
  | _ => none
def kget (kvs : List (Key × D)) (k : Key) : Option D := (kvs.find? fun kv => decide (kv.1 = k)).map (·.2)
def kput (kvs : List (Key × D)) (k : Key) (v : D) : List (Key × D) :=
  if (kvs.any fun kv => decide (kv.1 = k)) = true then kvs.map (fun kv => if kv.1 = k then (kv.1, v) else kv) else kvs ++ [(k, v)]
def setKey (M : Mem) (o k v : D) : Option Mem := match o with
  | .ref l => match M[l]?, keyOf k with
    | some (.dct kvs), some q => if kvs.length < 16777216 then some (M.set l (.dct (kput kvs q v))) else none
    | _, _ => none
  | _ => none
def sSetIx (f : Mem → D → D → D → Option Mem) (o k e : FE) : FS := fun ρ M => (e ρ M).st ρ fun v M1 => (o ρ M1).st ρ fun x M2 => (k ρ M2).st ρ fun y M3 => match f M3 x y v with
  | some M4 => .ok (.nx ρ) M4
  | none => .bad
def setFld (M : Mem) (c i : Nat) (o v : D) : Option Mem := match o with
  | .ref l => match M[l]? with
    | some (.ins c' ds) => if c' = c then (if i < ds.length then some (M.set l (.ins c (ds.set i v))) else if i = ds.length then some (M.set l (.ins c (ds ++ [v]))) else none) else none
    | _ => none
  | _ => none
def sPutF (c i : Nat) (o e : FE) : FS := fun ρ M => (e ρ M).st ρ fun v M1 => (o ρ M1).st ρ fun x M2 => match setFld M2 c i x v with
  | some M3 => .ok (.nx ρ) M3
  | none => .bad
/-- o.append(e) -/
def appAt (M : Mem) (o v : D) : Option Mem := match o with
  | .ref l => match M[l]? with
    | some (.lst ds) => if ds.length < 16777216 then some (M.set l (.lst (ds ++ [v]))) else none
    | _ => none
  | _ => none
def lstAt (M : Mem) : D → Option (List D)
  | .ref l => match M[l]? with
    | some (.lst ds) => some ds
    | _ => none
  | _ => none
def evApp (o e : FE) : FE := fun ρ M => (o ρ M).bind fun x M1 => if (lstAt M1 x).isSome = true then (e ρ M1).bind fun v M2 => match appAt M2 x v with
  | some M3 => .ok .non M3
  | none => .bad
  else .bad

/-! ### defs -/
mutual
def D.lo (n : Nat) : D → Bool
  | .ref l => decide (l < n)
  | .tup ds => D.los n ds
  | .wtup ds => D.los n ds
  | .lst ds => D.los n ds
  | .scr ds => D.los n ds
  | _ => true
def D.los (n : Nat) : List D → Bool
  | [] => true
  | d :: ds => D.lo n d && D.los n ds
end
def MO.lo (n : Nat) : MO → Bool
  | .lst ds => D.los n ds
  | .dct kvs => kvs.all fun kv => kv.2.lo n
  | .fdct kvs => kvs.all fun kv => kv.2.lo n
  | .ins _ ds => D.los n ds
/-- nothing in the memory names what is not there -/
def closed (n : Nat) (M : Mem) : Bool := M.all (MO.lo n)
/-- what a def hands back, what it made thrown away -/
def freeze (n : Nat) (M : Mem) (d : D) : Option D :=
  if d.lo n = true then some d else match d with
    | .ref l => match M[l]? with
      | some (.lst ds) => if D.los n ds = true then some (.lst ds) else none
      | _ => none
    | _ => none
def tidyR (n : Nat) (d : D) (M : Mem) : R D :=
  match freeze n M d with
    | some d' => if closed n (M.take n) = true then .ok d' (M.take n) else .bad
    | none => .bad
/-- a def that throws away what it made -/
def endT (n : Nat) (o : O) (M : Mem) : R D := match o with
  | .rt d => tidyR n d M
  | .nx _ => tidyR n .non M
  | .ex _ c d => (tidyR n d M).bind fun d' M' => .exc c d' M'
  | _ => .bad
@[reducible] def R.must (r : R O) (f : O → Mem → R D) : R D := match r with
  | .ok o m => f o m
  | _ => .bad
def fnT (np nl : Nat) (body : FS) : Fn := fun ds M => if ds.length = np then (body (ds.map some ++ List.replicate nl none) M).must (endT M.length) else .bad
/-- a def that keeps what it made -/
def endK (o : O) (M : Mem) : R D := match o with
  | .rt d => .ok d M
  | .nx _ => .ok .non M
  | .ex _ c d => .exc c d M
  | _ => .bad
def fnK (np nl : Nat) (body : FS) : Fn := fun ds M => if ds.length = np then (body (ds.map some ++ List.replicate nl none) M).must endK else .bad

/-! ### operations upon values -/
def dAdd (_ : Mem) : D → D → Option D
  | .int i, .int j => some (.int (i + j))
  | .tup a, .tup b => if a.length + b.length ≤ 16777216 then some (.tup (a ++ b)) else none
  | .lst a, .lst b => if a.length + b.length ≤ 16777216 then some (.lst (a ++ b)) else none
  | .str a, .str b => if a.length + b.length ≤ 16777216 then some (.str (a ++ b)) else none
  | _, _ => none
def dSub (_ : Mem) : D → D → Option D
  | .int i, .int j => some (.int (i - j))
  | _, _ => none
/-- of two ints one below 2 ^ 64, or both below 2 ^ 4000 -/
def mulOk (i j : Int) : Prop := (-(2 ^ 64) < i ∧ i < 2 ^ 64) ∨ (-(2 ^ 64) < j ∧ j < 2 ^ 64) ∨ (i.natAbs < 2 ^ 4000 ∧ j.natAbs < 2 ^ 4000)
instance (i j : Int) : Decidable (mulOk i j) := by unfold mulOk; infer_instance
def dMul (_ : Mem) : D → D → Option D
  | .int i, .int j => if mulOk i j then some (.int (i * j)) else none
  | _, _ => none
def dMod (_ : Mem) : D → D → Option D
  | .int i, .int j => if 0 < j then some (.int (i % j)) else none
  | _, _ => none
/-- by a positive number below 2 ^ 9000 -/
def dFdiv (_ : Mem) : D → D → Option D
  | .int i, .int j => if 0 < j ∧ j < 2 ^ 4000 then some (.int (i / j)) else none
  | _, _ => none
def dPow (_ : Mem) : D → D → Option D
  | .int i, .int j => if 0 ≤ j ∧ j ≤ 100 ∧ i.natAbs < 2 ^ 4000 then some (.int (i ^ j.toNat)) else none
  | _, _ => none
def dNeg (_ : Mem) : D → Option D
  | .int i => some (.int (-i))
  | _ => none
def dLt (_ : Mem) : D → D → Option D
  | .int i, .int j => some (.bl (decide (i < j)))
  | _, _ => none
def dLe (_ : Mem) : D → D → Option D
  | .int i, .int j => some (.bl (decide (i ≤ j)))
  | _, _ => none
def dGt (_ : Mem) : D → D → Option D
  | .int i, .int j => some (.bl (decide (j < i)))
  | _, _ => none
def dGe (_ : Mem) : D → D → Option D
  | .int i, .int j => some (.bl (decide (j ≤ i)))
  | _, _ => none
mutual
def D.toPy : D → Option PyData
  | .non => some .none
  | .bl b => some (.bool b)
  | .int i => some (.int i)
  | .str x => some (.str x)
  | .tup ds => (D.toPys ds).map .tuple
  | .wtup ds => (D.toPys ds).map .tuple
  | .lst ds => (D.toPys ds).map .list
  | .scr _ => none
  | .ref _ => none
def D.toPys : List D → Option (List PyData)
  | [] => some []
  | d :: ds => d.toPy.bind fun x => (D.toPys ds).map fun xs => x :: xs
end
/-- ints and strs by value; anything else as data of the equality of the library -/
def dEqB : D → D → Option Bool
  | .int i, .int j => some (decide (i = j))
  | .str x, .str y => some (decide (x = y))
  | x, y => match x.toPy, y.toPy with
    | some a, some b => if SeqAt.shaped a = true ∧ SeqAt.shaped b = true then some (PyData.eqv a b) else none
    | _, _ => none
def dEq (_ : Mem) (x y : D) : Option D := (dEqB x y).map .bl
def dNe (_ : Mem) (x y : D) : Option D := (dEqB x y).map fun b => .bl (!b)
def dctAt (M : Mem) : D → Option (List (Key × D))
  | .ref l => match M[l]? with
    | some (.dct kvs) => some kvs
    | some (.fdct kvs) => some kvs
    | _ => none
  | _ => none
/-- in a dict -/
def dInD (M : Mem) (k d : D) : Option D := match keyOf k, dctAt M d with
  | some q, some kvs => some (.bl (kget kvs q).isSome)
  | _, _ => none
def dNotInD (M : Mem) (k d : D) : Option D := match keyOf k, dctAt M d with
  | some q, some kvs => some (.bl (!(kget kvs q).isSome))
  | _, _ => none
def dGetD (M : Mem) (d k : D) : Option D := match keyOf k, dctAt M d with
  | some q, some kvs => kget kvs q
  | _, _ => none
/-- d.get(k, x) -/
def evGet2 (d k x : FE) : FE := fun ρ M => (d ρ M).bind fun a M1 => if (dctAt M1 a).isSome = true then (k ρ M1).bind fun b M2 => (x ρ M2).bind fun c M3 => match keyOf b, dctAt M3 a with
  | some q, some kvs => .ok ((kget kvs q).getD c) M3
  | _, _ => .bad
  else .bad
/-- at a place that may count from behind -/
def atD (ds : List D) (i : Int) : Option D := if 0 ≤ i then ds[i.toNat]? else if -(ds.length : Int) ≤ i then ds[(i + ds.length).toNat]? else none
def dIx (M : Mem) : D → D → Option D
  | .tup ds, .int i => atD ds i
  | .wtup ds, .int i => atD ds i
  | .lst ds, .int i => atD ds i
  | .scr ds, .int i => atD ds i
  | .ref l, .int i => match M[l]? with
    | some (.lst ds) => atD ds i
    | _ => none
  | _, _ => none
def bLen (M : Mem) : List D → Option D
  | [.tup ds] => some (.int ds.length)
  | [.wtup ds] => some (.int ds.length)
  | [.lst ds] => some (.int ds.length)
  | [.scr ds] => some (.int ds.length)
  | [.ref l] => match M[l]? with
    | some (.lst ds) => some (.int ds.length)
    | some (.dct kvs) => some (.int kvs.length)
    | _ => none
  | _ => none
def boolsOf : List D → Option (List Bool)
  | [] => some []
  | .bl b :: r => (boolsOf r).map fun bs => b :: bs
  | _ => none
def intsOf : List D → Option (List Int)
  | [] => some []
  | .int b :: r => (intsOf r).map fun bs => b :: bs
  | _ => none
def bAll (_ : Mem) : List D → Option D
  | [.lst ds] => (boolsOf ds).map fun bs => .bl (bs.all id)
  | _ => none
def bAny (_ : Mem) : List D → Option D
  | [.lst ds] => (boolsOf ds).map fun bs => .bl (bs.any id)
  | _ => none
def bSum (_ : Mem) : List D → Option D
  | [.lst ds] => (intsOf ds).map fun ns => .int ns.sum
  | _ => none
def bMax (_ : Mem) : List D → Option D
  | [.int i, .int j] => some (.int (if i < j then j else i))
  | _ => none
def bMin (_ : Mem) : List D → Option D
  | [.int i, .int j] => some (.int (if j < i then j else i))
  | _ => none
def bAbs (_ : Mem) : List D → Option D
  | [.int i] => some (.int (if i < 0 then -i else i))
  | _ => none
def bInt (_ : Mem) : List D → Option D
  | [.int i] => some (.int i)
  | _ => none
def bTuple (_ : Mem) : List D → Option D
  | [.lst ds] => some (.tup ds)
  | [.tup ds] => some (.tup ds)
  | _ => none
def insI (x : Int) : List Int → List Int
  | [] => [x]
  | y :: r => if x ≤ y then x :: y :: r else y :: insI x r
def sortI : List Int → List Int
  | [] => []
  | x :: r => insI x (sortI r)
def keyInts : List (Key × D) → Option (List Int)
  | [] => some []
  | (.inl i, _) :: r => (keyInts r).map fun ns => i :: ns
  | _ => none
def bSorted (M : Mem) : List D → Option D
  | [.lst ds] => (intsOf ds).map fun ns => .lst ((sortI ns).map .int)
  | [.ref l] => match M[l]? with
    | some (.dct kvs) => (keyInts kvs).bind fun ns => if ns.length < 64 then some (.lst ((sortI ns).map .int)) else none
    | _ => none
  | _ => none
/-- isinstance of a built-in type -/
def bIsI (T : String) (M : Mem) : D → Option Bool
  | .non => some (decide (T = "NoneType"))
  | .bl _ => some (decide (T = "bool") || decide (T = "int"))
  | .int _ => some (decide (T = "int"))
  | .str _ => some (decide (T = "str"))
  | .tup _ => some (decide (T = "tuple"))
  | .wtup _ => some (decide (T = "tuple"))
  | .lst _ => some (decide (T = "list"))
  | .scr _ => some (decide (T = "list"))
  | .ref l => match M[l]? with
    | some (.lst _) => some (decide (T = "list"))
    | some (.dct _) => some (decide (T = "dict"))
    | _ => none
def evIsI (T : String) (a : FE) : FE := evOp1 (fun M x => (bIsI T M x).map .bl) a
/-- isinstance of an own class (no other class is derived from) -/
def evIsC (c : Nat) (a : FE) : FE := evOp1 (fun M x => match x with
  | .ref l => match M[l]? with
    | some (.ins c' _) => if c' = c then some (.bl true) else none
    | _ => none
  | _ => none) a
/-- dict(a tuple or list of pairs) -/
def pairsOf : List D → Option (List (Key × D))
  | [] => some []
  | .tup [k, v] :: r => match keyOf k, pairsOf r with
    | some q, some ps => some ((q, v) :: ps)
    | _, _ => none
  | _ => none
def kmerge (kvs more : List (Key × D)) : List (Key × D) := more.foldl (fun acc kv => kput acc kv.1 kv.2) kvs
def evDict (a : FE) : FE := fun ρ M => (a ρ M).bind fun x M1 => match x with
  | .tup ds => match pairsOf ds with
    | some ps => .ok (.ref M1.length) (M1 ++ [.dct (kmerge [] ps)])
    | none => .bad
  | .lst ds => match pairsOf ds with
    | some ps => .ok (.ref M1.length) (M1 ++ [.dct (kmerge [] ps)])
    | none => .bad
  | _ => .bad
/-- the keys of a dict, which nobody changes while they are walked -/
def kD : Key → D
  | .inl i => .int i
  | .inr x => .str x
def lockAt (M : Mem) (l : Nat) : Option (List (Key × D)) := match M[l]? with
  | some (.dct kvs) => some kvs
  | _ => none
/-- e is done while the dict in the slot i is locked -/
def evLock (i : Nat) (e : FE) : FE := fun ρ M => match ρ[i]? with
  | some (some (.ref l)) => match lockAt M l with
    | some kvs => (e ρ (M.set l (.fdct kvs))).bind fun d M1 => match M1[l]? with
      | some (.fdct kvs') => .ok d (M1.set l (.dct kvs'))
      | _ => .bad
    | none => .bad
  | _ => .bad
def itKeys (a : FE) : FI := fun ρ M => (a ρ M).bind fun x M1 => match x with
  | .ref l => match M1[l]? with
    | some (.fdct kvs) => .ok (kvs.map fun kv => kD kv.1) M1
    | _ => .bad
  | _ => .bad
def evProp (c : Nat) (g : Fn) (o : FE) : FE := fun ρ M => (o ρ M).bind fun x M1 => match insAt M1 c x with
  | some _ => match g [x] M1 with
    | .ok d M2 => .ok d M2
    | _ => .bad
  | none => .bad
def evMakeQ (c : Nat) (g : Fn) (a : FA) : FE := fun ρ M => (a ρ M).bind fun xs M1 => match g (.ref M1.length :: xs) (M1 ++ [.ins c []]) with
  | .ok .non M2 => .ok (.ref M1.length) M2
  | _ => .bad
def evInK (ks : List Int) (a : FE) : FE := evOp1 (fun _ x => match x with
  | .int i => some (.bl (decide (i ∈ ks)))
  | _ => none) a
def bRepr (_ : Mem) : List D → Option D
  | [.int i] => if i.natAbs.log2 < 1920 then some (.str (toString i)) else none
  | [.tup ds] => match D.toPy (.tup ds) with
    | some d => if d.showable = true ∧ d.hasDict = false ∧ d.depth ≤ 64 ∧ d.shown.length ≤ 16777216 then some (.str d.shown) else none
    | none => none
  | [.lst ds] => match D.toPy (.lst ds) with
    | some d => if d.showable = true ∧ d.hasDict = false ∧ d.depth ≤ 64 ∧ d.shown.length ≤ 16777216 then some (.str d.shown) else none
    | none => none
  | _ => none
/-- a statement done while the dict in the slot i is locked -/
def sLock (i : Nat) (s : FS) : FS := fun ρ M => match ρ[i]? with
  | some (some (.ref l)) => match lockAt M l with
    | some kvs => (s ρ (M.set l (.fdct kvs))).bind fun o M1 => match o with
      | .nx ρ1 => match M1[l]? with
        | some (.fdct kvs') => .ok (.nx ρ1) (M1.set l (.dct kvs'))
        | _ => .bad
      | _ => .bad
    | none => .bad
  | _ => .bad
end Nv
set_option maxRecDepth 100000
/-! NvRel: how data and mutable things lie in the abstract heap of the hand layer. -/
namespace Nv
open PySem PySem.Spec L2

/-- own classes: their addresses, their fields in the order in which __init__ stores them -/
structure CI where
  ca : Nat → Addr
  flds : Nat → List Str
/-- i: where the mutable things lie; B: lists that are being filled, seen by nobody -/
structure Z where
  i : List Addr
  B : List Addr
variable {K : PySem.W.Frag} {C : CI}
/-- a tuple that has no dict of its own: locked as it was made, or of the module -/
def TpA (K : PySem.W.Frag) (H : Hp) (a : Addr) (vs : List V) : Prop :=
  (∃ o : Obj, H a = some (.frz o (.tup vs)) ∧ o.dict = none) ∨
    ∃ (o : Obj) (its : Array Value) (n : Nat), K.lookup a = some o ∧ o.cls = .type "tuple" ∧ o.dict = none ∧ o.data = .seq its n ∧ its.size ≤ sizeLine ∧ Vals vs its.toList
theorem TpA.sq {K : PySem.W.Frag} {H : Hp} {a : Addr} {vs : List V} (h : TpA K H a vs) : SqT K H a vs := by
  rcases h with ⟨o, h, _⟩ | ⟨o, its, n, h1, h2, _, h3, h4, h5⟩
  · exact .inl (.inr ⟨o, h⟩)
  · exact .inr ⟨o, its, n, h1, h2, h3, h4, h5⟩
/-- the script: locked, or of the module -/
def ScA (K : PySem.W.Frag) (H : Hp) (a : Addr) (vs : List V) : Prop :=
  (∃ o : Obj, H a = some (.frz o (.lst vs))) ∨
    ∃ (o : Obj) (its : Array Value) (n : Nat), K.lookup a = some o ∧ o.cls = .type "list" ∧ o.dict = none ∧ o.data = .seq its n ∧ its.size ≤ sizeLine ∧ Vals vs its.toList
theorem ScA.sq {K : PySem.W.Frag} {H : Hp} {a : Addr} {vs : List V} (h : ScA K H a vs) : SqL K H a vs := by
  rcases h with ⟨o, h⟩ | h
  · exact .inl (.inr ⟨o, h⟩)
  · exact .inr h
mutual
inductive RD (K : PySem.W.Frag) (z : Z) (H : Hp) : D → V → Prop
  | non : RD K z H .non .non
  | bl (b : Bool) : RD K z H (.bl b) (.bl b)
  | int (i : Int) : RD K z H (.int i) (.int i)
  | str (x : Str) : RD K z H (.str x) (.str x)
  | tup {a : Addr} {vs : List V} {ds : List D} : TpA K H a vs → RDs K z H ds vs → RD K z H (.tup ds) (.ref a)
  | wtup {a : Addr} {vs : List V} {ds : List D} : SqT K H a vs → RDs K z H ds vs → RD K z H (.wtup ds) (.ref a)
  | scr {a : Addr} {vs : List V} {ds : List D} : ScA K H a vs → RDs K z H ds vs → RD K z H (.scr ds) (.ref a)
  | lst {a : Addr} {vs : List V} {ds : List D} : H a = some (.lst vs) → a ∉ z.i → a ∉ z.B → RDs K z H ds vs → RD K z H (.lst ds) (.ref a)
  | ref {l : Nat} {a : Addr} : z.i[l]? = some a → RD K z H (.ref l) (.ref a)
inductive RDs (K : PySem.W.Frag) (z : Z) (H : Hp) : List D → List V → Prop
  | nil : RDs K z H [] []
  | cons {d : D} {ds : List D} {v : V} {vs : List V} : RD K z H d v → RDs K z H ds vs → RDs K z H (d :: ds) (v :: vs)
end
def RKs (K : PySem.W.Frag) (z : Z) (H : Hp) (kvs : List (Key × D)) (vs : List (Key × V)) : Prop := Paired (fun (p : Key × D) (q : Key × V) => p.1 = q.1 ∧ RD K z H p.2 q.2) kvs vs
def RO (K : PySem.W.Frag) (C : CI) (z : Z) (H : Hp) : MO → Addr → Prop
  | .lst ds, a => ∃ vs, H a = some (.lst vs) ∧ RDs K z H ds vs
  | .dct kvs, a => ∃ vs, H a = some (.dK vs) ∧ RKs K z H kvs vs
  | .fdct kvs, a => ∃ vs o, H a = some (.frz o (.dK vs)) ∧ RKs K z H kvs vs
  | .ins c ds, a => ∃ dx vs, H a = some (.ins (C.ca c) dx ((C.flds c).zip vs)) ∧ RDs K z H ds vs ∧ ds.length ≤ (C.flds c).length
structure RM (K : PySem.W.Frag) (C : CI) (z : Z) (M : Mem) (H : Hp) : Prop where
  len : z.i.length = M.length
  nd : z.i.Nodup
  ob : ∀ (l : Nat) (o : MO) (a : Addr), M[l]? = some o → z.i[l]? = some a → RO K C z H o a
  dj : ∀ a ∈ z.B, a ∉ z.i ∧ ∃ o, H a = some o
structure RE (K : PySem.W.Frag) (z : Z) (H : Hp) (ρ : Env) (σ : St) : Prop where
  len : ρ.length = σ.length
  at_ : ∀ (i : Nat) (d : D), ρ[i]? = some (some d) → ∃ v, σ[i]? = some (some v) ∧ RD K z H d v
structure Ext (K : PySem.W.Frag) (z : Z) (H : Hp) (z' : Z) (H' : Hp) : Prop where
  b : z'.B = z.B
  rd : ∀ d v, RD K z H d v → RD K z' H' d v
  ls : ∀ a ∈ z.B, H' a = H a
  fz : ∀ a o u, H a = some (.frz o u) → H' a = some (.frz o u)

theorem nodup_inj {α : Type} {l : List α} (h : l.Nodup) {i j : Nat} (hi : i < l.length) (hj : j < l.length) (e : l[i] = l[j]) : i = j := by
  rcases Nat.lt_trichotomy i j with q | q | q
  · exact absurd e (List.pairwise_iff_getElem.mp h i j hi hj q)
  · exact q
  · exact absurd e.symm (List.pairwise_iff_getElem.mp h j i hj hi q)
/-! ### what stays -/
def keptU : HO → Prop
  | .lst _ => True
  | .tup _ => True
  | _ => False
theorem TpA.move {K : PySem.W.Frag} {H H' : Hp} (hz : ∀ a o u, keptU u → H a = some (.frz o u) → H' a = some (.frz o u)) {a : Addr} {vs : List V} (h : TpA K H a vs) : TpA K H' a vs := h.imp (fun ⟨o, h1, h2⟩ => ⟨o, hz a o _ trivial h1, h2⟩) id

mutual
theorem RD.move {z z' : Z} {H H' : Hp} (hT : ∀ a vs, SqT K H a vs → SqT K H' a vs) (hL : ∀ a vs, a ∉ z.i → a ∉ z.B → H a = some (.lst vs) → H' a = some (.lst vs) ∧ a ∉ z'.i ∧ a ∉ z'.B) (hi : ∀ (l : Nat) a, z.i[l]? = some a → z'.i[l]? = some a) (hz : ∀ a o u, keptU u → H a = some (.frz o u) → H' a = some (.frz o u)) :
    ∀ (d : D) (v : V), RD K z H d v → RD K z' H' d v
  | .non, _, .non => .non
  | .bl _, _, .bl b => .bl b
  | .int _, _, .int b => .int b
  | .str _, _, .str b => .str b
  | .tup ds, _, .tup (vs := vs) h r => .tup (h.move hz) (RDs.move hT hL hi hz ds vs r)
  | .wtup ds, _, .wtup (vs := vs) h r => .wtup (hT _ _ h) (RDs.move hT hL hi hz ds vs r)
  | .lst ds, _, .lst (vs := vs) h n m r => .lst (hL _ _ n m h).1 (hL _ _ n m h).2.1 (hL _ _ n m h).2.2 (RDs.move hT hL hi hz ds vs r)
  | .scr ds, _, .scr (a := a) (vs := vs) h r => .scr (h.imp (fun ⟨o, h1⟩ => ⟨o, hz a o _ trivial h1⟩) id) (RDs.move hT hL hi hz ds vs r)
  | .ref _, _, .ref h => .ref (hi _ _ h)
theorem RDs.move {z z' : Z} {H H' : Hp} (hT : ∀ a vs, SqT K H a vs → SqT K H' a vs) (hL : ∀ a vs, a ∉ z.i → a ∉ z.B → H a = some (.lst vs) → H' a = some (.lst vs) ∧ a ∉ z'.i ∧ a ∉ z'.B) (hi : ∀ (l : Nat) a, z.i[l]? = some a → z'.i[l]? = some a) (hz : ∀ a o u, keptU u → H a = some (.frz o u) → H' a = some (.frz o u)) :
    ∀ (ds : List D) (vs : List V), RDs K z H ds vs → RDs K z' H' ds vs
  | [], _, .nil => .nil
  | d :: ds, v :: vs, .cons h r => .cons (RD.move hT hL hi hz d v h) (RDs.move hT hL hi hz ds vs r)
end
theorem RDs.all {z z' : Z} {H H' : Hp} (h : ∀ d v, RD K z H d v → RD K z' H' d v) : ∀ {ds : List D} {vs : List V}, RDs K z H ds vs → RDs K z' H' ds vs
  | _, _, .nil => .nil
  | _, _, .cons a r => .cons (h _ _ a) (RDs.all h r)
theorem RDs.length : ∀ {z : Z} {H : Hp} {ds : List D} {vs : List V}, RDs K z H ds vs → ds.length = vs.length
  | _, _, _, _, .nil => rfl
  | _, _, _, _, .cons _ r => by rw [List.length_cons, List.length_cons, r.length]
theorem RDs.get : ∀ {z : Z} {H : Hp} {ds : List D} {vs : List V} {i : Nat} {d : D}, RDs K z H ds vs → ds[i]? = some d → ∃ v, vs[i]? = some v ∧ RD K z H d v
  | _, _, _, _, _, _, .nil, e => by simp at e
  | _, _, _, _, 0, _, .cons a _, e => by simp at e; subst e; exact ⟨_, rfl, a⟩
  | _, _, _, _, i + 1, d, .cons _ r, e => by
    obtain ⟨v, h1, h2⟩ := RDs.get (i := i) (d := d) r (by simpa using e)
    exact ⟨v, by simpa using h1, h2⟩
theorem RDs.set : ∀ {z : Z} {H : Hp} {ds : List D} {vs : List V} {d : D} {v : V} (i : Nat), RD K z H d v → RDs K z H ds vs → RDs K z H (ds.set i d) (vs.set i v)
  | _, _, _, _, _, _, _, _, .nil => .nil
  | _, _, _, _, _, _, 0, h, .cons _ r => .cons h r
  | _, _, _, _, _, _, i + 1, h, .cons a r => .cons a (RDs.set i h r)
theorem RDs.append : ∀ {z : Z} {H : Hp} {ds es : List D} {vs ws : List V}, RDs K z H ds vs → RDs K z H es ws → RDs K z H (ds ++ es) (vs ++ ws)
  | _, _, _, _, _, _, .nil, s => s
  | _, _, _, _, _, _, .cons a r, s => .cons a (RDs.append r s)
theorem RDs.ints : ∀ {z : Z} {H : Hp} (ns : List Int), RDs K z H (ns.map D.int) (ns.map V.int)
  | _, _, [] => .nil
  | _, _, n :: r => .cons (.int n) (RDs.ints r)
theorem RDs.of_ints : ∀ {z : Z} {H : Hp} {ns : List Int} {vs : List V}, RDs K z H (ns.map D.int) vs → vs = ns.map V.int
  | _, _, [], _, .nil => rfl
  | _, _, n :: r, _, .cons (.int _) h => by rw [RDs.of_ints h]; rfl
theorem RKs.all {z z' : Z} {H H' : Hp} (h : ∀ d v, RD K z H d v → RD K z' H' d v) {kvs : List (Key × D)} {vs : List (Key × V)} (r : RKs K z H kvs vs) : RKs K z' H' kvs vs := Paired.mapP r fun _ _ q => ⟨q.1, h _ _ q.2⟩
theorem Ext.refl {z : Z} {H : Hp} : Ext K z H z H := ⟨rfl, fun _ _ h => h, fun _ _ => rfl, fun _ _ _ h => h⟩
theorem Ext.trans {z z1 z2 : Z} {H H1 H2 : Hp} (a : Ext K z H z1 H1) (b : Ext K z1 H1 z2 H2) : Ext K z H z2 H2 :=
  ⟨b.b.trans a.b, fun d v h => b.rd d v (a.rd d v h), fun x hx => (b.ls x (by rw [a.b]; exact hx)).trans (a.ls x hx), fun x o u h => b.fz x o u (a.fz x o u h)⟩
theorem Ext.re {z z1 : Z} {H H1 : Hp} {ρ : Env} {σ : St} (a : Ext K z H z1 H1) (r : RE K z H ρ σ) : RE K z1 H1 ρ σ := ⟨r.len, fun i d h => let ⟨v, e, q⟩ := r.at_ i d h; ⟨v, e, a.rd d v q⟩⟩
theorem RE.set {z : Z} {H : Hp} {ρ : Env} {σ : St} {d : D} {v : V} (r : RE K z H ρ σ) (i : Nat) (h : RD K z H d v) : RE K z H (ρ.set i (some d)) (σ.set i (some v)) := by
  refine ⟨by rw [List.length_set, List.length_set]; exact r.len, fun j e q => ?_⟩
  by_cases hij : i = j
  · subst hij
    rw [List.getElem?_set] at q ⊢
    rw [if_pos rfl] at q ⊢
    split at q
    · rename_i hl
      rw [r.len] at hl
      rw [if_pos hl]
      cases q
      exact ⟨v, rfl, h⟩
    · cases q
  · rw [List.getElem?_set_ne hij] at q ⊢
    exact r.at_ j e q
theorem RE.set_none {z : Z} {H : Hp} {ρ : Env} {σ : St} (r : RE K z H ρ σ) (i : Nat) : RE K z H (ρ.set i none) σ := by
  refine ⟨by rw [List.length_set]; exact r.len, fun j e q => ?_⟩
  by_cases hij : i = j
  · subst hij
    rw [List.getElem?_set, if_pos rfl] at q
    split at q
    · cases q
    · cases q
  · rw [List.getElem?_set_ne hij] at q
    exact r.at_ j e q
theorem RE.killed {z : Z} {H : Hp} {σ : St} : ∀ (ks : List Nat) {ρ : Env}, RE K z H ρ σ → RE K z H (kill ks ρ) σ
  | [], _, r => r
  | k :: ks, _, r => RE.killed ks (r.set_none k)
theorem kill_len : ∀ (ks : List Nat) (ρ : Env), (kill ks ρ).length = ρ.length
  | [], _ => rfl
  | k :: ks, ρ => by
    show (kill ks (ρ.set k none)).length = _
    rw [kill_len ks, List.length_set]
theorem kill_at : ∀ (ks : List Nat) (ρ : Env) (i : Nat) (d : D), (kill ks ρ)[i]? = some (some d) → ρ[i]? = some (some d) ∧ i ∉ ks
  | [], _, _, _, h => ⟨h, fun z => nomatch z⟩
  | k :: ks, ρ, i, d, h => by
    obtain ⟨h1, h2⟩ := kill_at ks (ρ.set k none) i d h
    by_cases e : k = i
    · subst e
      rw [List.getElem?_set, if_pos rfl] at h1
      split at h1 <;> cases h1
    · rw [List.getElem?_set_ne e] at h1
      exact ⟨h1, fun hm => (List.mem_cons.mp hm).elim (fun q => e q.symm) h2⟩
theorem RE.wiped {z : Z} {H : Hp} {ρ : Env} {σ : St} (vs : List Nat) (r : RE K z H ρ σ) : RE K z H (Nv.kill vs ρ) (L2.wipe σ vs) := by
  refine ⟨by rw [kill_len, wipe_length]; exact r.len, fun i d h => ?_⟩
  obtain ⟨h1, h2⟩ := kill_at vs ρ i d h
  obtain ⟨v, e, q⟩ := r.at_ i d h1
  exact ⟨v, (wipe_out h2).trans e, q⟩

/-! ### a new thing -/
theorem fresh_i {z : Z} {M : Mem} {H : Hp} {p : Addr} (r : RM K C z M H) (hp : H p = none) : p ∉ z.i := fun hm => by
  obtain ⟨l, hl⟩ := List.mem_iff_getElem?.mp hm
  have h1 : l < z.i.length := (List.getElem?_eq_some_iff.mp hl).1
  rw [r.len] at h1
  have h2 := r.ob l _ p (List.getElem?_eq_getElem h1) hl
  cases e : M[l] with
  | lst ds => rw [e] at h2; obtain ⟨_, q, _⟩ := h2; rw [hp] at q; cases q
  | dct ds => rw [e] at h2; obtain ⟨_, q, _⟩ := h2; rw [hp] at q; cases q
  | fdct ds => rw [e] at h2; obtain ⟨_, _, q, _⟩ := h2; rw [hp] at q; cases q
  | ins c ds => rw [e] at h2; obtain ⟨_, _, q, _⟩ := h2; rw [hp] at q; cases q
theorem fresh_B {z : Z} {M : Mem} {H : Hp} {p : Addr} (r : RM K C z M H) (hp : H p = none) : p ∉ z.B := fun hm => by
  obtain ⟨_, o, q⟩ := r.dj p hm
  rw [hp] at q; cases q
theorem rd_upd {H : Hp} {p a : Addr} {o u : HO} (hp : H p = none) (h : Rd H a u) : Rd (upd H p o) a u := by
  rcases h with h | ⟨x, h⟩
  · exact .inl (by rw [upd_ne (ne_of_none h hp)]; exact h)
  · exact .inr ⟨x, by rw [upd_ne (ne_of_none h hp)]; exact h⟩
theorem at_upd {H : Hp} {p a : Addr} {o u : HO} (hp : H p = none) (h : H a = some u) : upd H p o a = some u := by rw [upd_ne (ne_of_none h hp)]; exact h
theorem sqT_upd {H : Hp} {p a : Addr} {o : HO} {vs : List V} (hp : H p = none) (h : SqT K H a vs) : SqT K (upd H p o) a vs := h.imp (rd_upd hp) id
theorem RO.all {z z' : Z} {H H' : Hp} (hr : ∀ d v, RD K z H d v → RD K z' H' d v) : ∀ {o : MO} {a : Addr}, H' a = H a → RO K C z H o a → RO K C z' H' o a
  | .lst ds, a, e, ⟨vs, h, q⟩ => ⟨vs, e.trans h, q.all hr⟩
  | .dct kvs, a, e, ⟨vs, h, q⟩ => ⟨vs, e.trans h, q.all hr⟩
  | .fdct kvs, a, e, ⟨vs, o, h, q⟩ => ⟨vs, o, e.trans h, q.all hr⟩
  | .ins c ds, a, e, ⟨dx, vs, h, q, n⟩ => ⟨dx, vs, e.trans h, q.all hr, n⟩
theorem Rd.some {H : Hp} {a : Addr} {u : HO} (h : Rd H a u) : ∃ o, H a = some o := by
  rcases h with h | ⟨o, h⟩
  · exact ⟨_, h⟩
  · exact ⟨_, h⟩
/-- a new object that nobody names yet -/
theorem ext_upd {z : Z} {H : Hp} {p : Addr} {o : HO} {M : Mem} (r : RM K C z M H) (hp : H p = none) : Ext K z H z (upd H p o) ∧ RM K C z M (upd H p o) := by
  have e : Ext K z H z (upd H p o) := ⟨rfl, fun d v => RD.move (fun a vs => sqT_upd hp) (fun a vs n m h => ⟨at_upd hp h, n, m⟩) (fun _ _ h => h) (fun a o u _ h => at_upd hp h) d v, fun a ha => upd_ne fun q => fresh_B r hp (q ▸ ha), fun a o u h => by rw [upd_ne (ne_of_none h hp)]; exact h⟩
  refine ⟨e, r.len, r.nd, fun l o a h1 h2 => ?_, fun a ha => ⟨(r.dj a ha).1, ?_⟩⟩
  · exact (r.ob l o a h1 h2).all e.rd (upd_ne fun q => fresh_i r hp (q ▸ List.mem_of_getElem? h2))
  · obtain ⟨_, u, q⟩ := r.dj a ha
    exact ⟨u, (e.ls a ha).trans q⟩
theorem ext_new0 {z : Z} {H : Hp} {p : Addr} {o : HO} {M : Mem} (r : RM K C z M H) (hp : H p = none) : Ext K z H { z with i := z.i ++ [p] } (upd H p o) := by
  refine ⟨rfl, fun d v => RD.move (z := z) (z' := { z with i := z.i ++ [p] }) (fun a vs => sqT_upd hp) (fun a vs n m h => ⟨at_upd hp h, fun hm => ?_, m⟩) (fun l a h => ?_) (fun a o u _ h => at_upd hp h) d v, fun a ha => upd_ne fun q => fresh_B r hp (q ▸ ha), fun a o u h => by rw [upd_ne (ne_of_none h hp)]; exact h⟩
  · rcases List.mem_append.mp hm with hm | hm
    · exact n hm
    · rw [List.mem_singleton] at hm
      subst hm
      rw [hp] at h; cases h
  · show (z.i ++ [p])[l]? = some a
    rw [List.getElem?_append_left (List.getElem?_eq_some_iff.mp h).1]
    exact h
/-- a new mutable thing -/
theorem ext_new {z : Z} {H : Hp} {p : Addr} {o : HO} {M : Mem} {m : MO} (r : RM K C z M H) (hp : H p = none) (ho : RO K C { z with i := z.i ++ [p] } (upd H p o) m p) :
    Ext K z H { z with i := z.i ++ [p] } (upd H p o) ∧ RM K C { z with i := z.i ++ [p] } (M ++ [m]) (upd H p o) := by
  have e : Ext K z H { z with i := z.i ++ [p] } (upd H p o) := ext_new0 r hp
  refine ⟨e, by simp [r.len], ?_, fun l o' a h1 h2 => ?_, fun a ha => ⟨fun hm => ?_, ?_⟩⟩
  · refine List.nodup_append.mpr ⟨r.nd, by simp, fun a ha b hb => ?_⟩
    rw [List.mem_singleton] at hb
    subst hb
    exact fun q => fresh_i r hp (q ▸ ha)
  · by_cases hl : l < M.length
    · rw [List.getElem?_append_left hl] at h1
      rw [List.getElem?_append_left (by rw [r.len]; exact hl)] at h2
      exact (r.ob l o' a h1 h2).all e.rd (upd_ne fun q => fresh_i r hp (q ▸ List.mem_of_getElem? h2))
    · have hl2 : l = M.length := by
        have := (List.getElem?_eq_some_iff.mp h1).1
        simp at this
        omega
      subst hl2
      rw [List.getElem?_concat_length] at h1
      rw [← r.len, List.getElem?_concat_length] at h2
      cases h1
      cases h2
      exact ho
  · rcases List.mem_append.mp hm with hm | hm
    · exact (r.dj a ha).1 hm
    · rw [List.mem_singleton] at hm
      exact fresh_B r hp (hm ▸ ha)
  · obtain ⟨_, u, q⟩ := r.dj a ha
    exact ⟨u, (e.ls a ha).trans q⟩
/-- a store into a mutable thing -/
def isMut : HO → Prop
  | .lst _ => True
  | .dK _ => True
  | .ins _ _ _ => True
  | .frz _ (.dK _) => True
  | _ => False
theorem RO.mut {z : Z} {H : Hp} : ∀ {o : MO} {a : Addr}, RO K C z H o a → ∃ u, H a = some u ∧ isMut u
  | .lst _, _, ⟨_, h, _⟩ => ⟨_, h, trivial⟩
  | .dct _, _, ⟨_, h, _⟩ => ⟨_, h, trivial⟩
  | .fdct _, _, ⟨_, _, h, _⟩ => ⟨_, h, trivial⟩
  | .ins _ _, _, ⟨_, _, h, _⟩ => ⟨_, h, trivial⟩
/-- what is known of data stays at any store into a mutable thing -/
theorem rd_set {z : Z} {H : Hp} {p : Addr} {o : HO} {M : Mem} {l : Nat} {m0 : MO} (r : RM K C z M H) (hl : z.i[l]? = some p) (hm : M[l]? = some m0) : (∀ d v, RD K z H d v → RD K z (upd H p o) d v) ∧ ∀ a ∈ z.B, upd H p o a = H a := by
  obtain ⟨u, hu, mu⟩ := (r.ob l m0 p hm hl).mut
  have pm := List.mem_of_getElem? hl
  refine ⟨fun d v => RD.move (fun a vs h => ?_) (fun a vs n m h => ⟨?_, n, m⟩) (fun _ _ h => h) (fun a o u hk h => ?_) d v, fun a ha => upd_ne fun q => (r.dj a ha).1 (q ▸ pm)⟩
  · refine h.imp (fun h => ?_) id
    have ne : a ≠ p := fun q => by
      subst q
      rcases h with h | ⟨x, h⟩ <;> (rw [hu] at h; cases h; exact mu)
    rcases h with h | ⟨x, h⟩
    · exact .inl (by rw [upd_ne ne]; exact h)
    · exact .inr ⟨x, by rw [upd_ne ne]; exact h⟩
  · have ne : a ≠ p := fun q => n (q ▸ pm)
    rw [upd_ne ne]; exact h
  · have ne : a ≠ p := fun q => by
      subst q
      rw [hu] at h; cases h
      cases u <;> first | exact mu | exact hk
    rw [upd_ne ne]; exact h
def MO.free : MO → Bool
  | .fdct _ => false
  | _ => true
theorem ro_nofz {z : Z} {H : Hp} {o : MO} {a : Addr} (r : RO K C z H o a) (hf : o.free = true) : ∀ x u, H a ≠ some (.frz x u) := by
  intro x u q
  cases o with
  | lst ds => obtain ⟨_, h, _⟩ := r; rw [h] at q; cases q
  | dct ds => obtain ⟨_, h, _⟩ := r; rw [h] at q; cases q
  | ins c ds => obtain ⟨_, _, h, _⟩ := r; rw [h] at q; cases q
  | fdct ds => cases hf
theorem ext_set {z : Z} {H : Hp} {p : Addr} {o : HO} {M : Mem} {l : Nat} {m0 : MO} (r : RM K C z M H) (hl : z.i[l]? = some p) (hm : M[l]? = some m0) (hf : m0.free = true) : Ext K z H z (upd H p o) := by
  obtain ⟨h1, h2⟩ := rd_set (o := o) r hl hm
  refine ⟨rfl, h1, h2, fun a x u h => ?_⟩
  have ne : a ≠ p := fun q => ro_nofz (r.ob l m0 p hm hl) hf x u (by rw [← q]; exact h)
  rw [upd_ne ne]
  exact h
theorem rm_set {z : Z} {H : Hp} {p : Addr} {o : HO} {M : Mem} {l : Nat} {m0 m : MO} (r : RM K C z M H) (hl : z.i[l]? = some p) (hm : M[l]? = some m0) (ho : RO K C z (upd H p o) m p) : RM K C z (M.set l m) (upd H p o) := by
  obtain ⟨e, els⟩ := rd_set (o := o) r hl hm
  refine ⟨by rw [List.length_set]; exact r.len, r.nd, fun j o' a h1 h2 => ?_, fun a ha => ⟨(r.dj a ha).1, ?_⟩⟩
  · by_cases hj : l = j
    · subst hj
      rw [hl] at h2
      cases h2
      rw [List.getElem?_set, if_pos rfl, if_pos (List.getElem?_eq_some_iff.mp hm).1] at h1
      cases h1
      exact ho
    · rw [List.getElem?_set_ne hj] at h1
      refine (r.ob j o' a h1 h2).all e (upd_ne fun q => hj ?_)
      subst q
      obtain ⟨b1, b2⟩ := List.getElem?_eq_some_iff.mp hl
      obtain ⟨c1, c2⟩ := List.getElem?_eq_some_iff.mp h2
      exact nodup_inj r.nd b1 c1 (b2.trans c2.symm)
  · obtain ⟨_, u, q⟩ := r.dj a ha
    exact ⟨u, (els a ha).trans q⟩

/-! ### a def's end -/
mutual
theorem RD.lo {z : Z} {H : Hp} : ∀ (d : D) (v : V), RD K z H d v → d.lo z.i.length = true
  | .non, _, _ => rfl
  | .bl _, _, _ => rfl
  | .int _, _, _ => rfl
  | .str _, _, _ => rfl
  | .tup ds, _, .tup (vs := vs) _ r => RDs.lo ds vs r
  | .wtup ds, _, .wtup (vs := vs) _ r => RDs.lo ds vs r
  | .lst ds, _, .lst (vs := vs) _ _ _ r => RDs.lo ds vs r
  | .scr ds, _, .scr (vs := vs) _ r => RDs.lo ds vs r
  | .ref l, _, .ref h => decide_eq_true (List.getElem?_eq_some_iff.mp h).1
theorem RDs.lo {z : Z} {H : Hp} : ∀ (ds : List D) (vs : List V), RDs K z H ds vs → D.los z.i.length ds = true
  | [], _, .nil => rfl
  | d :: ds, v :: vs, .cons h r => by
    show (D.lo _ d && D.los _ ds) = true
    rw [RD.lo d v h, RDs.lo ds vs r]
    rfl
end
mutual
theorem RD.take {z : Z} {H : Hp} {n : Nat} : ∀ (d : D) (v : V), RD K z H d v → d.lo n = true → RD K { z with i := z.i.take n } H d v
  | .non, _, .non, _ => .non
  | .bl _, _, .bl b, _ => .bl b
  | .int _, _, .int b, _ => .int b
  | .str _, _, .str b, _ => .str b
  | .tup ds, _, .tup (vs := vs) h r, q => .tup h (RDs.take ds vs r q)
  | .wtup ds, _, .wtup (vs := vs) h r, q => .wtup h (RDs.take ds vs r q)
  | .lst ds, _, .lst (vs := vs) h a b r, q => .lst h (fun hm => a (List.mem_of_mem_take hm)) b (RDs.take ds vs r q)
  | .scr ds, _, .scr (vs := vs) h r, q => .scr h (RDs.take ds vs r q)
  | .ref l, _, .ref h, q => .ref (by
      have hl : l < n := of_decide_eq_true q
      show (z.i.take n)[l]? = _
      rw [List.getElem?_take, if_pos hl]
      exact h)
theorem RDs.take {z : Z} {H : Hp} {n : Nat} : ∀ (ds : List D) (vs : List V), RDs K z H ds vs → D.los n ds = true → RDs K { z with i := z.i.take n } H ds vs
  | [], _, .nil, _ => .nil
  | d :: ds, v :: vs, .cons h r, q => by
    have q' : (D.lo n d && D.los n ds) = true := q
    rw [Bool.and_eq_true] at q'
    exact .cons (RD.take d v h q'.1) (RDs.take ds vs r q'.2)
end
theorem RKs.take {z : Z} {H : Hp} {n : Nat} : ∀ {kvs : List (Key × D)} {vs : List (Key × V)}, RKs K z H kvs vs → (kvs.all fun kv => kv.2.lo n) = true → RKs K { z with i := z.i.take n } H kvs vs
  | _, _, .nil, _ => .nil
  | p :: ps, q :: qs, .cons h r, e => by
    rw [List.all_cons, Bool.and_eq_true] at e
    exact .cons ⟨h.1, RD.take _ _ h.2 e.1⟩ (RKs.take (kvs := ps) (vs := qs) r e.2)
theorem RO.take {z : Z} {H : Hp} {n : Nat} : ∀ {o : MO} {a : Addr}, RO K C z H o a → o.lo n = true → RO K C { z with i := z.i.take n } H o a
  | .lst ds, a, ⟨vs, h, q⟩, e => ⟨vs, h, RDs.take _ _ q e⟩
  | .dct kvs, a, ⟨vs, h, q⟩, e => ⟨vs, h, RKs.take q e⟩
  | .fdct kvs, a, ⟨vs, o, h, q⟩, e => ⟨vs, o, h, RKs.take q e⟩
  | .ins c ds, a, ⟨dx, vs, h, q, n⟩, e => ⟨dx, vs, h, RDs.take _ _ q e, n⟩
theorem RM.take {z : Z} {M : Mem} {H : Hp} {n : Nat} (r : RM K C z M H) (hc : closed n (M.take n) = true) : RM K C { z with i := z.i.take n } (M.take n) H := by
  refine ⟨by simp [r.len], r.nd.sublist (List.take_sublist _ _), fun l o a h1 h2 => ?_, fun a ha => ⟨fun hm => (r.dj a ha).1 (List.mem_of_mem_take hm), (r.dj a ha).2⟩⟩
  have hl : o.lo n = true := List.all_eq_true.mp hc o (List.mem_of_getElem? h1)
  rw [List.getElem?_take] at h1
  replace h2 : (z.i.take n)[l]? = some a := h2
  rw [List.getElem?_take] at h2
  by_cases e : l < n
  · rw [if_pos e] at h1 h2
    exact (r.ob l o a h1 h2).take hl
  · rw [if_neg e] at h1
    cases h1
/-- what a tidy def hands back -/
theorem tidy_ok {z z1 : Z} {M M1 : Mem} {H H1 : Hp} {d d' : D} {v : V} (r : RM K C z M H) (r1 : RM K C z1 M1 H1) (x : Ext K z H z1 H1) (h : RD K z1 H1 d v) (hf : freeze M.length M1 d = some d') (hc : closed M.length (M1.take M.length) = true) :
    RM K C { z1 with i := z1.i.take M.length } (M1.take M.length) H1 ∧ RD K { z1 with i := z1.i.take M.length } H1 d' v ∧ Ext K z H { z1 with i := z1.i.take M.length } H1 := by
  refine ⟨r1.take hc, ?_, x.b, fun e u q => ?_, x.ls, x.fz⟩
  · unfold freeze at hf
    split at hf
    · rename_i q
      cases hf
      exact RD.take _ _ h q
    · rename_i q
      split at hf
      · rename_i l
        split at hf
        · rename_i ds hm
          split at hf
          · rename_i hlo
            cases hf
            cases h with
            | ref hl =>
              obtain ⟨vs, e1, e2⟩ := r1.ob l _ _ hm hl
              refine .lst e1 (fun hm => ?_) (fun hb => (r1.dj _ hb).1 (List.mem_of_getElem? hl)) (RDs.take _ _ e2 hlo)
              obtain ⟨j, hj⟩ := List.mem_iff_getElem?.mp hm
              replace hj : (z1.i.take M.length)[j]? = _ := hj
              rw [List.getElem?_take] at hj
              split at hj
              · rename_i hjn
                obtain ⟨b1, b2⟩ := List.getElem?_eq_some_iff.mp hl
                obtain ⟨c1, c2⟩ := List.getElem?_eq_some_iff.mp hj
                have := nodup_inj r1.nd b1 c1 (b2.trans c2.symm)
                subst this
                exact q (decide_eq_true hjn)
              · cases hj
          · cases hf
        · cases hf
      · cases hf
  · exact RD.take _ _ (x.rd e u q) (by rw [← r.len]; exact RD.lo _ _ q)
end Nv
set_option maxRecDepth 100000
/-! NvSe: the combinators are what the program does: expressions. -/
namespace Nv
open PySem PySem.Spec L2

theorem PE_imp {X : Cx} {e : Expr} {t t' : TE} (h : PE X e t) (q : ∀ σ H Q, t' σ H Q → t σ H Q) : PE X e t' := ⟨fun pins s σ H Q I w => h.run pins s σ H Q I (q σ H Q w)⟩
theorem PT_imp {X : Cx} {e : Expr} {t t' : TT} (h : PT X e t) (q : ∀ σ H Q, t' σ H Q → t σ H Q) : PT X e t' := ⟨fun pins s σ H Q I w => h.run pins s σ H Q I (q σ H Q w)⟩
theorem PA_imp {X : Cx} {e : List Expr} {t t' : TA} (h : PA X e t) (q : ∀ σ H Q, t' σ H Q → t σ H Q) : PA X e t' := ⟨fun pos pins s σ H Q I w => h.run pos pins s σ H Q I (q σ H Q w)⟩
theorem PS_imp {X : Cx} {e : Stmt} {t t' : TS} (h : PS X e t) (q : ∀ D σ H, t' D σ H → t D σ H) : PS X e t' := ⟨fun pins s σ H D I w => h.run pins s σ H D I (q D σ H w)⟩
theorem PSs_imp {X : Cx} {e : List Stmt} {t t' : TS} (h : PSs X e t) (q : ∀ D σ H, t' D σ H → t D σ H) : PSs X e t' := ⟨fun pins s σ H D I w => h.run pins s σ H D I (q D σ H w)⟩

/-- an exception of the class numbered c with the value d -/
def RX (K : PySem.W.Frag) (xa : Nat → Addr) (z : Z) (H : Hp) (c : Nat) (d : D) (cls : Value) (dx : Option Addr) : Prop :=
  cls = .ref (xa c) ∧ ∃ p v, dx = some p ∧ H p = some (.xd [("value", v)]) ∧ RD K z H d v
/-- own classes and own exception classes -/
structure CC extends CI where
  xa : Nat → Addr
def EX (K : PySem.W.Frag) (C : CC) (E : XK) (z : Z) (H : Hp) (c : Nat) (d : D) (M' : Mem) : Prop :=
  ∀ z' H' cls dx, RM K C.toCI z' M' H' → Ext K z H z' H' → RX K C.xa z' H' c d cls dx → E cls dx H'
theorem EX.mono {K : PySem.W.Frag} {C : CC} {E : XK} {z z1 : Z} {H H1 : Hp} (x : Ext K z H z1 H1) {c : Nat} {d : D} {M' : Mem} (h : EX K C E z H c d M') : EX K C E z1 H1 c d M' := fun z' H' cls dx r e q => h z' H' cls dx r (x.trans e) q
abbrev atW (W : WX) (σ : L2.St) : XK := fun cls dx H => W cls dx σ H
/-- what an expression's meaning asks of what follows -/
def PQ (K : PySem.W.Frag) (C : CC) (z : Z) (H : Hp) (Q : VK) (d : D) (M' : Mem) : Prop :=
  ∀ z' H' v, RM K C.toCI z' M' H' → Ext K z H z' H' → RD K z' H' d v → Q v H'
def PQs (K : PySem.W.Frag) (C : CC) (z : Z) (H : Hp) (Q : List V → Hp → Prop) (ds : List D) (M' : Mem) : Prop :=
  ∀ z' H' vs, RM K C.toCI z' M' H' → Ext K z H z' H' → RDs K z' H' ds vs → Q vs H'
theorem PQ.mono {K : PySem.W.Frag} {C : CC} {z z1 : Z} {H H1 : Hp} (x : Ext K z H z1 H1) {Q : VK} {d : D} {M' : Mem} (h : PQ K C z H Q d M') : PQ K C z1 H1 Q d M' := fun z' H' v r e q => h z' H' v r (x.trans e) q
theorem PQs.mono {K : PySem.W.Frag} {C : CC} {z z1 : Z} {H H1 : Hp} (x : Ext K z H z1 H1) {Q : List V → Hp → Prop} {d : List D} {M' : Mem} (h : PQs K C z H Q d M') : PQs K C z1 H1 Q d M' := fun z' H' v r e q => h z' H' v r (x.trans e) q

def tE (K : PySem.W.Frag) (C : CC) (W : WX) (F : FE) : TE := fun σ H Q => ∃ z ρ M, RM K C.toCI z M H ∧ RE K z H ρ σ ∧ (F ρ M).wp (PQ K C z H Q) (EX K C (atW W σ) z H)
def tAs (K : PySem.W.Frag) (C : CC) (W : WX) (F : FA) : TA := fun σ H Q => ∃ z ρ M, RM K C.toCI z M H ∧ RE K z H ρ σ ∧ (F ρ M).wp (PQs K C z H Q) (EX K C (atW W σ) z H)
def SE (X : Cx) (C : CC) (W : WX) (e : Expr) (F : FE) : Prop := PE X e (tE X.K C W F)
def SA (X : Cx) (C : CC) (W : WX) (es : List Expr) (F : FA) : Prop := PA X es (tAs X.K C W F)

section
variable {K : PySem.W.Frag} {C : CC} {W : WX}
/-- a part's meaning, then what follows it -/
theorem tE_of {F : FE} {G : D → Mem → R D} {z : Z} {ρ : Env} {M : Mem} {H : Hp} {σ : L2.St} {Q Q' : VK} (r : RM K C.toCI z M H) (re : RE K z H ρ σ) (h : ((F ρ M).bind G).wp (PQ K C z H Q) (EX K C (atW W σ) z H))
    (k : ∀ d M1 z1 H1 v, RM K C.toCI z1 M1 H1 → RE K z1 H1 ρ σ → Ext K z H z1 H1 → RD K z1 H1 d v → (G d M1).wp (PQ K C z1 H1 Q) (EX K C (atW W σ) z1 H1) → Q' v H1) : tE K C W F σ H Q' := by
  refine ⟨z, ρ, M, r, re, R.wp_mono (R.wp_bind.mp h) (fun d M1 q z1 H1 v r1 x hd => ?_) fun c v m q => q⟩
  exact k d M1 z1 H1 v r1 (x.re re) x hd (R.wp_mono q (fun _ _ q => q.mono x) fun _ _ _ q => q.mono x)
theorem tA_of {F : FA} {G : List D → Mem → R D} {z : Z} {ρ : Env} {M : Mem} {H : Hp} {σ : L2.St} {Q : VK} {Q' : List V → Hp → Prop} (r : RM K C.toCI z M H) (re : RE K z H ρ σ) (h : ((F ρ M).bind G).wp (PQ K C z H Q) (EX K C (atW W σ) z H))
    (k : ∀ d M1 z1 H1 v, RM K C.toCI z1 M1 H1 → RE K z1 H1 ρ σ → Ext K z H z1 H1 → RDs K z1 H1 d v → (G d M1).wp (PQ K C z1 H1 Q) (EX K C (atW W σ) z1 H1) → Q' v H1) : tAs K C W F σ H Q' := by
  refine ⟨z, ρ, M, r, re, R.wp_mono (R.wp_bind.mp h) (fun d M1 q z1 H1 v r1 x hd => ?_) fun c v m q => q⟩
  exact k d M1 z1 H1 v r1 (x.re re) x hd (R.wp_mono q (fun _ _ q => q.mono x) fun _ _ _ q => q.mono x)
theorem lift_wp {α : Type} {o : Option α} {M : Mem} {Q : α → Mem → Prop} {E : Nat → D → Mem → Prop} (h : (lift o M).wp Q E) : ∃ a, o = some a ∧ Q a M := by
  cases o with
  | none => exact h.elim
  | some a => exact ⟨a, rfl, h⟩

/-- an operation upon values reads as r -/
def Op1S (K : PySem.W.Frag) (C : CC) (f : Mem → D → Option D) (r : V → Hp → VK → Prop) : Prop :=
  ∀ z M H x dx d (Q : VK), RM K C.toCI z M H → RD K z H dx x → f M dx = some d → PQ K C z H Q d M → r x H Q
def Op2S (K : PySem.W.Frag) (C : CC) (f : Mem → D → D → Option D) (r : R2) : Prop :=
  ∀ z M H x y dx dy d (Q : VK), RM K C.toCI z M H → RD K z H dx x → RD K z H dy y → f M dx dy = some d → PQ K C z H Q d M → r x y H Q
def BS (K : PySem.W.Frag) (C : CC) (f : Mem → List D → Option D) (r : List V → Hp → VK → Prop) : Prop :=
  ∀ z M H xs ds d (Q : VK), RM K C.toCI z M H → RDs K z H ds xs → f M ds = some d → PQ K C z H Q d M → r xs H Q
theorem te_op1 {f : Mem → D → Option D} {r : V → Hp → VK → Prop} (hs : Op1S K C f r) {fa : FE} {σ : L2.St} {H : Hp} {Q : VK} (h : tE K C W (evOp1 f fa) σ H Q) : tUn r (tE K C W fa) σ H Q := by
  obtain ⟨z, ρ, M, rm, re, h⟩ := h
  refine tE_of rm re h fun d M1 z1 H1 v r1 re1 x1 hd h1 => ?_
  obtain ⟨a, e, q⟩ := lift_wp h1
  exact hs z1 M1 H1 v d a Q r1 hd e q
theorem te_op2 {f : Mem → D → D → Option D} {r : R2} (hs : Op2S K C f r) {fa fb : FE} {σ : L2.St} {H : Hp} {Q : VK} (h : tE K C W (evOp2 f fa fb) σ H Q) : tOp r (tE K C W fa) (tE K C W fb) σ H Q := by
  obtain ⟨z, ρ, M, rm, re, h⟩ := h
  refine tE_of rm re h fun d M1 z1 H1 v r1 re1 x1 hd h1 => ?_
  refine tE_of r1 re1 h1 fun d2 M2 z2 H2 v2 r2 re2 x2 hd2 h2 => ?_
  obtain ⟨a, e, q⟩ := lift_wp h2
  exact hs z2 M2 H2 v v2 d d2 a Q r2 (x2.rd _ _ hd) hd2 e q
theorem te_B {f : Mem → List D → Option D} {r : List V → Hp → VK → Prop} (hs : BS K C f r) {fa : FA} {σ : L2.St} {H : Hp} {Q : VK} (h : tE K C W (evB f fa) σ H Q) : tCB r (tAs K C W fa) σ H Q := by
  obtain ⟨z, ρ, M, rm, re, h⟩ := h
  refine tA_of rm re h fun d M1 z1 H1 v r1 re1 x1 hd h1 => ?_
  obtain ⟨a, e, q⟩ := lift_wp h1
  exact hs z1 M1 H1 v d a Q r1 hd e q
end

section
variable {X : Cx} {C : CC} {W : WX} {a b c e : Expr} {es : List Expr} {fa fb fc : FE} {fs : FA} {pos : Pos}
/-! ### names, constants, tuples -/
theorem se_var {i : Nat} {x : Str} (h : PE X (.Name x pos) (tVar i)) : SE X C W (.Name x pos) (evVar i) := PE_imp h fun σ H Q ⟨z, ρ, M, rm, re, h⟩ => by
  unfold evVar at h
  split at h
  · rename_i d e
    obtain ⟨v, e1, rd⟩ := re.at_ i d e
    exact ⟨v, e1, h z H v rm .refl rd⟩
  · exact h.elim
theorem se_const {v : V} {d : D} (h : PE X e (tC v)) (hd : ∀ z H, RD X.K z H d v) : SE X C W e (evC d) := PE_imp h fun σ H Q ⟨z, ρ, M, rm, re, h⟩ => h z H v rm .refl (hd z H)
theorem se_int {i : Int} {j : Nat} : SE X C W (.Constant (.int i) j pos) (evC (.int i)) := se_const pe_int fun _ _ => .int _
theorem se_bl {i : Bool} {j : Nat} : SE X C W (.Constant (.bool i) j pos) (evC (.bl i)) := se_const pe_bl fun _ _ => .bl _
theorem se_non {j : Nat} : SE X C W (.Constant .none j pos) (evC .non) := se_const pe_non fun _ _ => .non
theorem se_str {x : Str} {j : Nat} : SE X C W (.Constant (.str x) j pos) (evC (.str x)) := se_const pe_str fun _ _ => .str _
theorem sa_nil : SA X C W [] evNil := PA_imp pa_nil fun σ H Q ⟨z, ρ, M, rm, re, h⟩ => h z H [] rm .refl .nil
theorem sa_cons (ha : SE X C W e fa) (hr : SA X C W es fs) (hs : starEach (e :: es) X.env = (false, eval e X.env) :: starEach es X.env := by rfl) : SA X C W (e :: es) (evCons fa fs) := PA_imp (pa_cons ha hr hs) fun σ H Q ⟨z, ρ, M, rm, re, h⟩ => by
  refine ⟨z, ρ, M, rm, re, R.wp_mono (R.wp_bind.mp h) (fun d M1 q z1 H1 v r1 x hd => ?_) fun c v m q => q⟩
  refine ⟨z1, ρ, M1, r1, x.re re, R.wp_mono (R.wp_bind.mp q) (fun ds M2 q2 z2 H2 vs r2 x2 hds => ?_) fun c v m q => q.mono x⟩
  exact q2 z2 H2 (v :: vs) r2 (x.trans x2) (.cons (x2.rd _ _ hd) hds)
/-- the number of what arguments give -/
def LenA (fs : FA) (n : Nat) : Prop := ∀ ρ M ds M', fs ρ M = .ok ds M' → ds.length = n
theorem la_nil : LenA evNil 0 := fun ρ M ds M' h => by cases h; rfl
theorem la_cons {n : Nat} (h : LenA fs n) : LenA (evCons fa fs) (n + 1) := fun ρ M ds M' q => by
  unfold evCons at q
  cases e : fa ρ M with
  | ok x M1 =>
    rw [e] at q
    dsimp only [R.bind] at q
    cases e2 : fs ρ M1 with
    | ok xs M2 =>
      rw [e2] at q
      cases q
      rw [List.length_cons, h _ _ _ _ e2]
    | exc c v m => rw [e2] at q; cases q
    | bad => rw [e2] at q; cases q
  | exc c v m => rw [e] at q; cases q
  | bad => rw [e] at q; cases q
theorem wp_and {α : Type} {r : R α} {Q Q' : α → Mem → Prop} {E : Nat → D → Mem → Prop} (h : r.wp Q E) (q : ∀ a M', r = .ok a M' → Q' a M') : r.wp (fun a m => Q a m ∧ Q' a m) E := by
  cases r with
  | ok a m => exact ⟨h, q a m rfl⟩
  | exc c v m => exact h
  | bad => exact h
/-- a written tuple: what it is made of, locked -/
theorem pe_tupF {x1 : Nat} {t : TA} (h : PA X es t) : PE X (.Tuple es x1 pos) (fun σ H Q => t σ H fun xs H1 => xs.length ≤ sizeLine ∧ ∀ p o, H1 p = none → o.dict = none → Q (.ref p) (upd H1 p (.frz o (.tup xs)))) := by
  refine ⟨fun pins s σ H Q I hq => wpAny_Tuple_spliced (thn (h.run pos pins s σ H _ I hq) fun us s1 ⟨xs, H1, I1, r, z, q⟩ => ⟨by rw [← r.length]; exact z, ?_⟩)⟩
  have hf : H1 s1.heap.objs.size = none := I1.hok.fresh (Nat.le_refl _)
  have hg : (s1.heap.push { cls := .type "tuple", data := .seq us.toArray }).get? s1.heap.objs.size = some { cls := .type "tuple", data := .seq us.toArray } := Heap.get?_push_size _ rfl
  exact ⟨.ref s1.heap.objs.size, upd H1 s1.heap.objs.size (.frz _ (.tup xs)), I1.laid (t' := s1.toks) (fun b u e => Heap.get?_push_of_some _ e) (Nat.le_refl _) ⟨hg, z, us, r, ⟨_, hg, rfl, _, rfl⟩⟩, rfl, q _ _ hf rfl⟩
theorem se_tup {k n : Nat} (h : SA X C W es fs) (hl : LenA fs n) (hz : n ≤ sizeLine := by decide) : SE X C W (.Tuple es k pos) (evTup fs) := PE_imp (pe_tupF h) fun σ H Q ⟨z, ρ, M, rm, re, h⟩ => by
  refine ⟨z, ρ, M, rm, re, R.wp_mono (wp_and (R.wp_bind.mp h) (hl ρ M)) (fun ds M1 ⟨q, hlen⟩ z1 H1 vs r1 x1 hds => ?_) fun c v m q => q⟩
  have hlen2 : vs.length ≤ sizeLine := by rw [← hds.length, hlen]; exact hz
  refine ⟨hlen2, fun p o hp ho => ?_⟩
  obtain ⟨x2, r2⟩ := ext_upd (o := .frz o (.tup vs)) r1 hp
  exact q z1 _ _ r2 (x1.trans x2) (.tup (.inl ⟨o, upd_same, ho⟩) (hds.all x2.rd))
theorem se_lst {n : Nat} (h : SA X C W es fs) (hl : LenA fs n) (hz : n ≤ sizeLine := by decide) : SE X C W (.List es pos) (evLst fs) := PE_imp (pe_lst h) fun σ H Q ⟨z, ρ, M, rm, re, h⟩ => by
  refine ⟨z, ρ, M, rm, re, R.wp_mono (wp_and (R.wp_bind.mp h) (hl ρ M)) (fun ds M1 ⟨q, hlen⟩ z1 H1 vs r1 x1 hds => ?_) fun c v m q => q⟩
  have hlen2 : vs.length ≤ sizeLine := by rw [← hds.length, hlen]; exact hz
  refine ⟨hlen2, fun p hp => ?_⟩
  obtain ⟨x2, r2⟩ := ext_upd (o := .lst vs) r1 hp
  exact q z1 _ _ r2 (x1.trans x2) (.lst upd_same (fresh_i r1 hp) (fresh_B r1 hp) (hds.all x2.rd))
theorem se_new {n : Nat} (h : SA X C W es fs) (hl : LenA fs n) (hz : n ≤ sizeLine := by decide) : SE X C W (.List es pos) (evNew fs) := PE_imp (pe_lst h) fun σ H Q ⟨z, ρ, M, rm, re, h⟩ => by
  refine ⟨z, ρ, M, rm, re, R.wp_mono (wp_and (R.wp_bind.mp h) (hl ρ M)) (fun ds M1 ⟨q, hlen⟩ z1 H1 vs r1 x1 hds => ?_) fun c v m q => q⟩
  have hlen2 : vs.length ≤ sizeLine := by rw [← hds.length, hlen]; exact hz
  refine ⟨hlen2, fun p hp => ?_⟩
  obtain ⟨x2, r2⟩ := ext_new (o := .lst vs) (m := .lst ds) r1 hp ⟨vs, upd_same, hds.all (ext_new0 r1 hp).rd⟩
  exact q _ _ _ r2 (x1.trans x2) (.ref (by rw [← r1.len]; exact List.getElem?_concat_length))
theorem se_dct0 : SE X C W (.Dict [] [] pos) evDct0 := PE_imp pe_dnewK fun σ H Q ⟨z, ρ, M, rm, re, h⟩ => by
  intro p hp
  obtain ⟨x2, r2⟩ := ext_new (o := .dK []) (m := .dct []) rm hp ⟨[], upd_same, .nil⟩
  exact h _ _ _ r2 x2 (.ref (by rw [← rm.len]; exact List.getElem?_concat_length))
/-! ### operators -/
theorem se_bin {op : Operator} {r : R2} {f : Mem → D → D → Option D} (ho : OpR X (binaryOp op) r) (hs : Op2S X.K C f r) (ha : SE X C W a fa) (hb : SE X C W b fb) : SE X C W (.BinOp a op b pos) (evOp2 f fa fb) := PE_imp (pe_op ho ha hb) fun σ H Q h => te_op2 hs h
theorem se_un {op : UnaryOp} {r : V → Hp → VK → Prop} {f : Mem → D → Option D} (ho : UnR X (unaryOp op) r) (hs : Op1S X.K C f r) (ha : SE X C W a fa) : SE X C W (.UnaryOp op a pos) (evOp1 f fa) := PE_imp (pe_un ho ha) fun σ H Q h => te_op1 hs h
theorem se_cmp {op : CmpOp} {r : R2} {f : Mem → D → D → Option D} (ho : OpR X (compareOp op) r) (hs : Op2S X.K C f r) (ha : SE X C W a fa) (hb : SE X C W b fb) (hm : behindInMarks op b = false) : SE X C W (.Compare a [op] [b] pos) (evOp2 f fa fb) := PE_imp (pe_cmpR ho ha hb hm) fun σ H Q h => te_op2 hs h
theorem te_chain {σ : L2.St} {H : Hp} {Q : VK} {r r' : R2} {f g : Mem → D → D → Option D} (hs : Op2S X.K C f r) (hs' : Op2S X.K C g r') (h : tE X.K C W (evChain f g fa fb fc) σ H Q) : tChain r r' (tE X.K C W fa) (tE X.K C W fb) (tE X.K C W fc) σ H Q := by
  obtain ⟨z, ρ, M, rm, re, h⟩ := h
  refine tE_of rm re h fun d M1 z1 H1 v r1 re1 x1 hd h1 => ?_
  refine tE_of r1 re1 h1 fun d2 M2 z2 H2 v2 r2 re2 x2 hd2 h2 => ?_
  split at h2
  · rename_i k e
    refine hs z2 M2 H2 v v2 d d2 _ _ r2 (x2.rd _ _ hd) hd2 e fun z3 H3 v3 r3 x3 hd3 => ?_
    cases hd3
    refine ⟨k, rfl, ?_⟩
    cases k with
    | true =>
      rw [if_pos rfl] at h2 ⊢
      refine tE_of r3 (x3.re re2) (R.wp_mono h2 (fun _ _ q => q.mono x3) fun _ _ _ q => q.mono x3) fun d4 M4 z4 H4 v4 r4 re4 x4 hd4 h4 => ?_
      obtain ⟨a, e, q⟩ := lift_wp h4
      exact hs' z4 M4 H4 v2 v4 d2 d4 a Q r4 (x4.rd _ _ (x3.rd _ _ hd2)) hd4 e q
    | false =>
      rw [if_neg Bool.false_ne_true] at h2 ⊢
      exact h2 z3 H3 _ r3 x3 (.bl _)
  · exact h2.elim
theorem se_chain {op op' : CmpOp} {r r' : R2} {f g : Mem → D → D → Option D} (ho : OpR X (compareOp op) r) (hs : Op2S X.K C f r) (ho' : OpR X (compareOp op') r') (hs' : Op2S X.K C g r') (ha : SE X C W a fa) (hb : SE X C W b fb) (hc : SE X C W c fc)
    (hm : lastMarks [op, op'] [b, c] = false := by with_unfolding_all rfl) : SE X C W (.Compare a [op, op'] [b, c] pos) (evChain f g fa fb fc) := PE_imp (pe_chain ho ho' ha hb hc hm) fun σ H Q h => te_chain hs hs' h
theorem asBool_some {d : D} {k : Bool} (h : asBool d = some k) : d = .bl k := by
  cases d <;> first | (cases h; rfl) | cases h
theorem se_and (ha : SE X C W a fa) (hb : SE X C W (.BoolOp .And (b :: es) pos) fb) : SE X C W (.BoolOp .And (a :: b :: es) pos) (evAnd fa fb) := PE_imp (pe_and ha hb) fun σ H Q ⟨z, ρ, M, rm, re, h⟩ => by
  refine tE_of rm re h fun d M1 z1 H1 v r1 re1 x1 hd h1 => ?_
  split at h1
  · rename_i k e
    cases asBool_some e
    cases hd
    refine ⟨k, rfl, ?_⟩
    cases k with
    | true => rw [if_pos rfl] at h1 ⊢; exact ⟨z1, ρ, M1, r1, re1, h1⟩
    | false => rw [if_neg Bool.false_ne_true] at h1 ⊢; exact h1 z1 H1 _ r1 .refl (.bl _)
  · exact h1.elim
theorem se_or (ha : SE X C W a fa) (hb : SE X C W (.BoolOp .Or (b :: es) pos) fb) : SE X C W (.BoolOp .Or (a :: b :: es) pos) (evOr fa fb) := PE_imp (pe_or ha hb) fun σ H Q ⟨z, ρ, M, rm, re, h⟩ => by
  refine tE_of rm re h fun d M1 z1 H1 v r1 re1 x1 hd h1 => ?_
  split at h1
  · rename_i k e
    cases asBool_some e
    cases hd
    refine ⟨k, rfl, ?_⟩
    cases k with
    | true => rw [if_pos rfl] at h1 ⊢; exact h1 z1 H1 _ r1 .refl (.bl _)
    | false => rw [if_neg Bool.false_ne_true] at h1 ⊢; exact ⟨z1, ρ, M1, r1, re1, h1⟩
  · exact h1.elim
theorem se_one {op : BoolOp} (ha : SE X C W a fa) : SE X C W (.BoolOp op [a] pos) fa := pe_one ha
theorem se_not (ha : SE X C W a fa) : SE X C W (.UnaryOp .Not a pos) (evNot fa) := PE_imp (pe_not ha) fun σ H Q ⟨z, ρ, M, rm, re, h⟩ => by
  refine tE_of rm re h fun d M1 z1 H1 v r1 re1 x1 hd h1 => ?_
  split at h1
  · rename_i k e
    cases asBool_some e
    cases hd
    exact ⟨k, rfl, h1 z1 H1 _ r1 .refl (.bl _)⟩
  · exact h1.elim
/-- a test: a value that is True or False -/
def ST (X : Cx) (C : CC) (W : WX) (e : Expr) (F : FE) : Prop := PT X e (tTest (tE X.K C W F))
theorem st_val (ha : SE X C W e fa) (he : ∀ whole, isTrue e X.env whole = (do let v ← whole; standAt e.pos; holding [v] (truthy v)) := by intro _; rfl) : ST X C W e fa := pt_val ha he
theorem st_cmp {op : CmpOp} {r : R2} {f : Mem → D → D → Option D} (ho : OpR X (compareOp op) r) (hs : Op2S X.K C f r) (ha : SE X C W a fa) (hb : SE X C W b fb) (hm : behindInMarks op b = false) : ST X C W (.Compare a [op] [b] pos) (evOp2 f fa fb) := ⟨fun pins s σ H Q I h => (pt_cmpR ho ha hb hm).run pins s σ H Q I (te_op2 hs h)⟩
theorem st_chain {op op' : CmpOp} {r r' : R2} {f g : Mem → D → D → Option D} (ho : OpR X (compareOp op) r) (hs : Op2S X.K C f r) (ho' : OpR X (compareOp op') r') (hs' : Op2S X.K C g r') (ha : SE X C W a fa) (hb : SE X C W b fb) (hc : SE X C W c fc)
    (hm : lastMarks [op, op'] [b, c] = false := by with_unfolding_all rfl) : ST X C W (.Compare a [op, op'] [b, c] pos) (evChain f g fa fb fc) := ⟨fun pins s σ H Q I h => (pt_chain ho ho' ha hb hc hm).run pins s σ H Q I (te_chain hs hs' h)⟩
theorem st_not (ha : ST X C W a fa) : ST X C W (.UnaryOp .Not a pos) (evNot fa) := ⟨fun pins s σ H Q I ⟨z, ρ, M, rm, re, h⟩ => (pt_not ha).run pins s σ H Q I (by
  refine tE_of rm re h fun d M1 z1 H1 v r1 re1 x1 hd h1 => ?_
  split at h1
  · rename_i k e
    cases asBool_some e
    cases hd
    obtain ⟨k', e', q⟩ := h1 z1 H1 _ r1 .refl (.bl _)
    cases e'
    exact ⟨k, rfl, q⟩
  · exact h1.elim)⟩
/-- a test within and, or -/
def SW (X : Cx) (C : CC) (W : WX) (e : Expr) (F : FE) : Prop := PW X e (tTest (tE X.K C W F))
theorem st_w (h : SW X C W e fa) : ST X C W e fa := PW.pt h
theorem sw_and1 (ha : ST X C W a fa) : SW X C W (.BoolOp .And [a] pos) fa := pw_and1 ha
theorem sw_or1 (ha : ST X C W a fa) : SW X C W (.BoolOp .Or [a] pos) fa := pw_or1 ha
theorem sw_and (ha : ST X C W a fa) (hb : SW X C W (.BoolOp .And (b :: es) pos) fb) : SW X C W (.BoolOp .And (a :: b :: es) pos) (evAnd fa fb) := ⟨fun wh pins s σ H Q I ⟨z, ρ, M, rm, re, h⟩ => (pw_and ha hb).run wh pins s σ H Q I (by
  refine tE_of rm re h fun d M1 z1 H1 v r1 re1 x1 hd h1 => ?_
  split at h1
  · rename_i k e
    cases asBool_some e
    cases hd
    refine ⟨k, rfl, ?_⟩
    cases k with
    | true =>
      rw [if_pos rfl] at h1 ⊢
      exact ⟨z1, ρ, M1, r1, re1, h1⟩
    | false =>
      rw [if_neg Bool.false_ne_true] at h1 ⊢
      obtain ⟨k', e', q⟩ := h1 z1 H1 _ r1 .refl (.bl _)
      cases e'
      exact q
  · exact h1.elim)⟩
theorem sw_or (ha : ST X C W a fa) (hb : SW X C W (.BoolOp .Or (b :: es) pos) fb) : SW X C W (.BoolOp .Or (a :: b :: es) pos) (evOr fa fb) := ⟨fun wh pins s σ H Q I ⟨z, ρ, M, rm, re, h⟩ => (pw_or ha hb).run wh pins s σ H Q I (by
  refine tE_of rm re h fun d M1 z1 H1 v r1 re1 x1 hd h1 => ?_
  split at h1
  · rename_i k e
    cases asBool_some e
    cases hd
    refine ⟨k, rfl, ?_⟩
    cases k with
    | true =>
      rw [if_pos rfl] at h1 ⊢
      obtain ⟨k', e', q⟩ := h1 z1 H1 _ r1 .refl (.bl _)
      cases e'
      exact q
    | false =>
      rw [if_neg Bool.false_ne_true] at h1 ⊢
      exact ⟨z1, ρ, M1, r1, re1, h1⟩
  · exact h1.elim)⟩
theorem se_if (hc : ST X C W c fc) (ha : SE X C W a fa) (hb : SE X C W b fb) : SE X C W (.IfExp c a b pos) (evIf fc fa fb) := PE_imp (pe_ifExp hc ha hb) fun σ H Q ⟨z, ρ, M, rm, re, h⟩ => by
  refine tE_of rm re h fun d M1 z1 H1 v r1 re1 x1 hd h1 => ?_
  split at h1
  · rename_i k e
    cases asBool_some e
    cases hd
    refine ⟨k, rfl, ?_⟩
    cases k with
    | true => rw [if_pos rfl] at h1 ⊢; exact ⟨z1, ρ, M1, r1, re1, h1⟩
    | false => rw [if_neg Bool.false_ne_true] at h1 ⊢; exact ⟨z1, ρ, M1, r1, re1, h1⟩
  · exact h1.elim
end
end Nv
set_option maxRecDepth 100000
/-! NvOps: operations upon values. -/
namespace Nv
open PySem PySem.Spec L2
theorem OpR_or {X : Cx} {f : Value → Value → Sem Value} {r r' : R2} (h : OpR X f r) (h' : OpR X f r') : OpR X f (fun x y H Q => r x y H Q ∨ r' x y H Q) := by
  intro pins s σ H x y v u Q I rx ry q
  rcases q with q | q
  · exact h pins s σ H x y v u Q I rx ry q
  · exact h' pins s σ H x y v u Q I rx ry q
theorem CallR_or {X : Cx} {f : Value} {r r' : List V → Hp → VK → Prop} (h : CallR X f r) (h' : CallR X f r') : CallR X f (fun x H Q => r x H Q ∨ r' x H Q) := by
  intro pins s σ H x v Q I rx q
  rcases q with q | q
  · exact h pins s σ H x v Q I rx q
  · exact h' pins s σ H x v Q I rx q
section
variable {K : PySem.W.Frag} {C : CC}
/-- a new tuple, a new list of values -/
theorem PQ.tup {z : Z} {M : Mem} {H : Hp} {Q : VK} {ds : List D} {vs : List V} (r : RM K C.toCI z M H) (h : RDs K z H ds vs) (q : PQ K C z H Q (.tup ds) M) : ∀ p (o : Obj), H p = none → o.dict = none → Q (.ref p) (upd H p (.frz o (.tup vs))) := fun p o hp ho => by
  obtain ⟨x2, r2⟩ := ext_upd (o := .frz o (.tup vs)) r hp
  exact q z _ _ r2 x2 (.tup (.inl ⟨o, upd_same, ho⟩) (h.all x2.rd))
theorem PQ.lst {z : Z} {M : Mem} {H : Hp} {Q : VK} {ds : List D} {vs : List V} (r : RM K C.toCI z M H) (h : RDs K z H ds vs) (q : PQ K C z H Q (.lst ds) M) : ∀ p, H p = none → Q (.ref p) (upd H p (.lst vs)) := fun p hp => by
  obtain ⟨x2, r2⟩ := ext_upd (o := .lst vs) r hp
  exact q z _ _ r2 x2 (.lst upd_same (fresh_i r hp) (fresh_B r hp) (h.all x2.rd))
theorem PQ.here {z : Z} {M : Mem} {H : Hp} {Q : VK} {d : D} {v : V} (r : RM K C.toCI z M H) (h : RD K z H d v) (q : PQ K C z H Q d M) : Q v H := q z H v r .refl h
theorem rds_nil {z : Z} {H : Hp} {ds : List D} {vs : List V} (h : RDs K z H ds vs) (e : vs = []) : ds = [] := by
  subst e
  cases h
  rfl

/-- t + u of tuples: the empty one gives the other one, else a new one, locked -/
def rCatF (K : PySem.W.Frag) : R2 := fun x y H Q => ∃ a b xs ys, x = .ref a ∧ y = .ref b ∧ SqT K H a xs ∧ SqT K H b ys ∧ xs.length + ys.length ≤ sizeLine ∧ (xs = [] → Q (.ref b) H) ∧ (xs ≠ [] → ys = [] → Q (.ref a) H) ∧ (xs ≠ [] → ys ≠ [] → ∀ p o, H p = none → o.dict = none → Q (.ref p) (upd H p (.frz o (.tup (xs ++ ys)))))
theorem op_catF {X : Cx} : OpR X (binaryOp .Add) (rCatF X.K) := by
  intro pins s σ H x y v u Q I rx ry ⟨a, b, xs, ys, e1, e2, ha, hb, hz, q0, q1, q2⟩
  subst e1 e2
  by_cases hx : xs = []
  · subst hx
    cases rx
    cases ry
    obtain ⟨its, ra, pa, _⟩ := I.tuple ha
    obtain ⟨its2, rb, pb, _⟩ := I.tuple hb
    cases ra
    exact cat_tup0 pa pb ⟨.ref b, H, I, rfl, q0 rfl⟩
  · cases rx
    cases ry
    obtain ⟨its, ra, pa, _⟩ := I.tuple ha
    obtain ⟨its2, rb, pb, _⟩ := I.tuple hb
    refine HT.cat_tup pa pb (fun z => hx (ra.nil_iff.mp z)) (fun z => ⟨.ref a, H, I, rfl, q1 hx (rb.nil_iff.mp z)⟩) (fun z => ?_) (by rw [← ra.length, ← rb.length]; exact hz)
    have hg : (s.heap.push { cls := .type "tuple", data := .seq (its ++ its2).toArray }).get? s.heap.objs.size = some { cls := .type "tuple", data := .seq (its ++ its2).toArray } := Heap.get?_push_size _ rfl
    exact ⟨.ref s.heap.objs.size, upd H s.heap.objs.size (.frz _ (.tup (xs ++ ys))), I.laid (t' := s.toks) (fun b ob q => Heap.get?_push_of_some _ q) (Nat.le_refl _) ⟨hg, by rw [List.length_append]; exact hz, _, ra.append rb, ⟨_, hg, rfl, _, rfl⟩⟩, rfl, q2 hx (fun w => z (rb.nil_iff.mpr w)) _ _ (I.hok.fresh (Nat.le_refl _)) rfl⟩
/-- tuple(xs): of a list a new one, locked -/
theorem call_tupleF {X : Cx} : CallR X (.type "tuple") (fun xs H Q => ∃ p ys, xs = [.ref p] ∧ ((SqL X.K H p ys ∧ ∀ l o, H l = none → o.dict = none → Q (.ref l) (upd H l (.frz o (.tup ys)))) ∨ (SqT X.K H p ys ∧ Q (.ref p) H))) := by
  intro pins s σ H xs us Q I r ⟨p, ys, ex, h⟩
  subst ex
  obtain ⟨u, eu, rx⟩ := vals1 r
  subst eu
  cases rx
  rcases h with ⟨hq, q⟩ | ⟨hq, q⟩
  · obtain ⟨its, r', pl, hz⟩ := I.list hq
    refine call_tuple_list pl.isList (fun h' kp => ?_) (by rw [List.size_toArray, ← r'.length]; exact hz)
    have I1 : L2.Inv X pins σ H { s with heap := h' } := I.kept (t' := s.toks) kp
    have hg : (h'.push { cls := .type "tuple", data := .seq its.toArray }).get? h'.objs.size = some { cls := .type "tuple", data := .seq its.toArray } := Heap.get?_push_size _ rfl
    exact ⟨.ref h'.objs.size, upd H h'.objs.size (.frz _ (.tup ys)), I1.laid (t' := s.toks) (fun b o e => Heap.get?_push_of_some _ e) (Nat.le_refl _) ⟨hg, hz, its, r', ⟨_, hg, rfl, _, rfl⟩⟩, rfl, q _ _ (I1.hok.fresh (Nat.le_refl _)) rfl⟩
  · obtain ⟨its, r', pl, hz⟩ := I.tuple hq
    exact call_tuple_same pl ⟨.ref p, H, I, rfl, q⟩
def rAddU (K : PySem.W.Frag) : R2 := fun x y H Q => (((∃ i j, x = .int i ∧ y = .int j ∧ Q (.int (i + j)) H) ∨ rCatF K x y H Q) ∨ rCat x y H Q) ∨ ∃ i j, x = .str i ∧ y = .str j ∧ i.length + j.length ≤ sizeLine ∧ Q (.str (i ++ j)) H
theorem op_addU {X : Cx} : OpR X (binaryOp .Add) (rAddU X.K) := OpR_or (OpR_or (OpR_or op_add op_catF) op_cat) op_add_str
theorem os_add : Op2S K C dAdd (rAddU K) := by
  intro z M H x y dx dy d Q r hx hy e q
  unfold dAdd at e
  split at e
  · cases e; cases hx; cases hy
    exact .inl (.inl (.inl ⟨_, _, rfl, rfl, q.here r (.int _)⟩))
  · split at e
    · rename_i as bs hlen
      cases e
      cases hx with
      | @tup a1 v1 _ hq hr =>
        cases hy with
        | @tup a2 v2 _ hq2 hr2 =>
          refine .inl (.inl (.inr ⟨_, _, _, _, rfl, rfl, hq.sq, hq2.sq, ?_, fun e => ?_, fun e1 e2 => ?_, fun _ _ => ?_⟩))
          · rw [← hr.length, ← hr2.length]; exact hlen
          · have := rds_nil hr e
            subst this
            exact q.here r (.tup hq2 hr2)
          · have := rds_nil hr2 e2
            subst this
            rw [List.append_nil] at q
            exact q.here r (.tup hq hr)
          · exact q.tup r (hr.append hr2)
    · cases e
  · split at e
    · rename_i as bs hlen
      cases e
      cases hx with
      | @lst a1 v1 _ hq n1 m1 hr =>
        cases hy with
        | @lst a2 v2 _ hq2 n2 m2 hr2 =>
          refine .inl (.inr ⟨_, _, _, _, rfl, rfl, hq, hq2, ?_, ?_⟩)
          · rw [← hr.length, ← hr2.length]; exact hlen
          · exact q.lst r (hr.append hr2)
    · cases e
  · split at e
    · rename_i as bs hlen
      cases e; cases hx; cases hy
      exact .inr ⟨_, _, rfl, rfl, hlen, q.here r (.str _)⟩
    · cases e
  · cases e
theorem os_sub : Op2S K C dSub (rI0 fun i j => .int (i - j)) := by
  intro z M H x y dx dy d Q r hx hy e q
  unfold dSub at e
  split at e
  · cases e; cases hx; cases hy
    exact ⟨_, _, rfl, rfl, q.here r (.int _)⟩
  · cases e
def rMulU : R2 := fun x y H Q => (rI CMul fun i j => .int (i * j)) x y H Q ∨ (rI CMulW fun i j => .int (i * j)) x y H Q
theorem op_mulU {X : Cx} : OpR X (binaryOp .Mult) rMulU := OpR_or op_mul op_mulW
theorem os_mul : Op2S K C dMul rMulU := by
  intro z M H x y dx dy d Q r hx hy e q
  unfold dMul at e
  split at e
  · split at e
    · rename_i i j hm
      cases e; cases hx; cases hy
      rcases hm with hm | hm | ⟨h1, h2⟩
      · exact .inl ⟨_, _, rfl, rfl, .inl hm, q.here r (.int _)⟩
      · exact .inl ⟨_, _, rfl, rfl, .inr hm, q.here r (.int _)⟩
      · exact .inr ⟨_, _, rfl, rfl, wide_mul h1 h2 (by decide) (by decide) (by decide), q.here r (.int _)⟩
    · cases e
  · cases e
theorem os_mod : Op2S K C dMod (rI (fun _ j => 0 < j) fun i j => .int (i % j)) := by
  intro z M H x y dx dy d Q r hx hy e q
  unfold dMod at e
  split at e
  · split at e
    · rename_i i j hm
      cases e; cases hx; cases hy
      exact ⟨_, _, rfl, rfl, hm, q.here r (.int _)⟩
    · cases e
  · cases e
theorem os_fdiv : Op2S K C dFdiv (rI CDivW fun i j => .int (i / j)) := by
  intro z M H x y dx dy d Q r hx hy e q
  unfold dFdiv at e
  split at e
  · split at e
    · rename_i i j hm
      cases e; cases hx; cases hy
      exact ⟨_, _, rfl, rfl, wide_div (b := 4000) hm.1 (by have := hm.1; have := hm.2; omega) (by decide) (by decide), q.here r (.int _)⟩
    · cases e
  · cases e
def rPowN : R2 := fun x y H Q => ∃ i j, x = .int i ∧ y = .int j ∧ (0 ≤ j ∧ j ≤ 100 ∧ i.natAbs < 2 ^ 4000) ∧ Q (.int (i ^ j.toNat)) H
theorem bits_lt {i : Int} {n : Nat} (hn : 0 < n) (h : i.natAbs < 2 ^ n) : Builtin.Int.intBits i ≤ n := by
  unfold Builtin.Int.intBits
  split
  · omega
  · have := PySem.Flt.log2_lt_of hn h
    omega
theorem op_powN {X : Cx} : OpR X (binaryOp .Pow) rPowN := by
  intro pins s σ H x y v u Q I rx ry ⟨i, j, e1, e2, ⟨h0, h1, h2⟩, q⟩
  subst e1 e2
  obtain ⟨t1, rfl⟩ := rx
  obtain ⟨t2, rfl⟩ := ry
  have hb := bits_lt (n := 4000) (by decide) h2
  refine PyProof.Rows.pow_int h0 ?_ ⟨.int _, H, I.tok _, ⟨_, rfl⟩, q⟩
  have : (Builtin.Int.intBits i : Int) * j ≤ 4000 * 100 := Int.mul_le_mul (by omega) h1 h0 (by decide)
  refine Int.le_trans this (by decide)
theorem os_pow : Op2S K C dPow rPowN := by
  intro z M H x y dx dy d Q r hx hy e q
  unfold dPow at e
  split at e
  · split at e
    · rename_i i j hm
      cases e; cases hx; cases hy
      exact ⟨_, _, rfl, rfl, hm, q.here r (.int _)⟩
    · cases e
  · cases e
theorem os_lt : Op2S K C dLt (rI0 fun i j => .bl (decide (i < j))) := by
  intro z M H x y dx dy d Q r hx hy e q
  unfold dLt at e
  split at e
  · cases e; cases hx; cases hy
    exact ⟨_, _, rfl, rfl, q.here r (.bl _)⟩
  · cases e
theorem os_le : Op2S K C dLe (rI0 fun i j => .bl (decide (i ≤ j))) := by
  intro z M H x y dx dy d Q r hx hy e q
  unfold dLe at e
  split at e
  · cases e; cases hx; cases hy
    exact ⟨_, _, rfl, rfl, q.here r (.bl _)⟩
  · cases e
theorem os_gt : Op2S K C dGt (rI0 fun i j => .bl (decide (j < i))) := by
  intro z M H x y dx dy d Q r hx hy e q
  unfold dGt at e
  split at e
  · cases e; cases hx; cases hy
    exact ⟨_, _, rfl, rfl, q.here r (.bl _)⟩
  · cases e
theorem os_ge : Op2S K C dGe (rI0 fun i j => .bl (decide (j ≤ i))) := by
  intro z M H x y dx dy d Q r hx hy e q
  unfold dGe at e
  split at e
  · cases e; cases hx; cases hy
    exact ⟨_, _, rfl, rfl, q.here r (.bl _)⟩
  · cases e
theorem o1_neg : Op1S K C dNeg (rU fun i => .int (-i)) := by
  intro z M H x dx d Q r hx e q
  unfold dNeg at e
  split at e
  · cases e; cases hx
    exact ⟨_, rfl, q.here r (.int _)⟩
  · cases e
/-! ### == -/
mutual
theorem RD.dp {z : Z} {H : Hp} : ∀ (d : D) (v : V) (p : PyData), RD K z H d v → d.toPy = some p → Dp K H v p
  | .non, _, _, .non, e => by cases e; exact .non
  | .bl _, _, _, .bl b, e => by cases e; exact .bl b
  | .int _, _, _, .int b, e => by cases e; exact .int b
  | .str _, _, _, .str b, e => by cases e; exact .str b
  | .tup ds, _, p, .tup (vs := vs) h r, e => by
    have e' : (D.toPys ds).map PyData.tuple = some p := e
    rw [Option.map_eq_some_iff] at e'
    obtain ⟨ps, e1, e2⟩ := e'
    subst e2
    exact .tup h.sq (RDs.dp ds vs ps r e1)
  | .wtup ds, _, p, .wtup (vs := vs) h r, e => by
    have e' : (D.toPys ds).map PyData.tuple = some p := e
    rw [Option.map_eq_some_iff] at e'
    obtain ⟨ps, e1, e2⟩ := e'
    subst e2
    exact .tup h (RDs.dp ds vs ps r e1)
  | .lst ds, _, p, .lst (vs := vs) h _ _ r, e => by
    have e' : (D.toPys ds).map PyData.list = some p := e
    rw [Option.map_eq_some_iff] at e'
    obtain ⟨ps, e1, e2⟩ := e'
    subst e2
    exact .lst (.inl (.inl h)) (RDs.dp ds vs ps r e1)
  | .scr _, _, _, .scr _ _, e => nomatch e
  | .ref _, _, _, .ref _, e => nomatch e
theorem RDs.dp {z : Z} {H : Hp} : ∀ (ds : List D) (vs : List V) (ps : List PyData), RDs K z H ds vs → D.toPys ds = some ps → DpAll K H vs ps
  | [], _, _, .nil, e => by cases e; exact .nil
  | d :: ds, v :: vs, ps, .cons h r, e => by
    have e' : (d.toPy.bind fun x => (D.toPys ds).map fun xs => x :: xs) = some ps := e
    rw [Option.bind_eq_some_iff] at e'
    obtain ⟨x, e1, e2⟩ := e'
    rw [Option.map_eq_some_iff] at e2
    obtain ⟨xs, e3, e4⟩ := e2
    subst e4
    exact .cons (RD.dp d v x h e1) (RDs.dp ds vs xs r e3)
end
def rEqU (K : PySem.W.Frag) : R2 := fun x y H Q => rEq x y H Q ∨ rEqD K x y H Q
def rNeU (K : PySem.W.Frag) : R2 := fun x y H Q => rNe x y H Q ∨ rNeD K x y H Q
theorem op_eqU {X : Cx} (hu : X.A.units + 64 < cLine) : OpR X (compareOp .Eq) (rEqU X.K) := OpR_or op_eq (op_eqD hu)
theorem op_neU {X : Cx} (hu : X.A.units + 64 < cLine) : OpR X (compareOp .NotEq) (rNeU X.K) := OpR_or op_ne (op_neD hu)
theorem dEqB_ok {z : Z} {M : Mem} {H : Hp} {x y : V} {dx dy : D} {b : Bool} (hx : RD K z H dx x) (hy : RD K z H dy y) (e : dEqB dx dy = some b) :
    (scal x y = true ∧ b = decide (x = y)) ∨ ∃ d e, Dp K H x d ∧ Dp K H y e ∧ SeqAt.shaped d = true ∧ SeqAt.shaped e = true ∧ b = PyData.eqv d e := by
  unfold dEqB at e
  split at e
  · cases e; cases hx; cases hy
    rename_i i j
    refine .inl ⟨rfl, ?_⟩
    by_cases h : i = j
    · subst h; simp
    · rw [decide_eq_false h, decide_eq_false fun q => h (V.int.inj q)]
  · cases e; cases hx; cases hy
    rename_i i j
    refine .inl ⟨rfl, ?_⟩
    by_cases h : i = j
    · subst h; simp
    · rw [decide_eq_false h, decide_eq_false fun q => h (V.str.inj q)]
  · split at e
    · rename_i a b e1 e2
      split at e
      · rename_i hs
        cases e
        exact .inr ⟨a, b, RD.dp _ _ _ hx e1, RD.dp _ _ _ hy e2, hs.1, hs.2, rfl⟩
      · cases e
    · cases e
theorem os_eq : Op2S K C dEq (rEqU K) := by
  intro z M H x y dx dy d Q r hx hy e q
  unfold dEq at e
  rw [Option.map_eq_some_iff] at e
  obtain ⟨b, e1, e2⟩ := e
  subst e2
  have q' := q.here r (.bl b)
  rcases dEqB_ok (M := M) hx hy e1 with ⟨h1, h2⟩ | ⟨d, e, h1, h2, h3, h4, h5⟩
  · subst h2; exact .inl ⟨h1, q'⟩
  · subst h5; exact .inr ⟨d, e, h1, h2, h3, h4, q'⟩
theorem os_ne : Op2S K C dNe (rNeU K) := by
  intro z M H x y dx dy d Q r hx hy e q
  unfold dNe at e
  rw [Option.map_eq_some_iff] at e
  obtain ⟨b, e1, e2⟩ := e
  subst e2
  have q' := q.here r (.bl _)
  rcases dEqB_ok (M := M) hx hy e1 with ⟨h1, h2⟩ | ⟨d, e, h1, h2, h3, h4, h5⟩
  · subst h2; exact .inl ⟨h1, q'⟩
  · subst h5; exact .inr ⟨d, e, h1, h2, h3, h4, q'⟩
/-! ### subscripts -/
theorem atD_ok {z : Z} {H : Hp} {ds : List D} {vs : List V} {i : Int} {d : D} (r : RDs K z H ds vs) (h : atD ds i = some d) : ∃ v, atI vs i = some v ∧ RD K z H d v := by
  unfold atD at h
  unfold atI ixN
  by_cases h0 : 0 ≤ i
  · rw [if_pos h0] at h ⊢
    obtain ⟨v, h1, h2⟩ := r.get h
    have hl := (List.getElem?_eq_some_iff.mp h1).1
    rw [if_pos (by omega)]
    exact ⟨v, h1, h2⟩
  · rw [if_neg h0] at h ⊢
    by_cases h1 : -(ds.length : Int) ≤ i
    · rw [if_pos h1] at h
      rw [r.length] at h1 h
      rw [if_pos h1]
      obtain ⟨v, h3, h2⟩ := r.get h
      exact ⟨v, h3, h2⟩
    · rw [if_neg h1] at h
      cases h
def rIxU (K : PySem.W.Frag) : R2 := fun x y H Q => rIxL K x y H Q ∨ rIxT K x y H Q
theorem ix_U {X : Cx} : IxR X (rIxU X.K) := ix_list.or ix_tup
theorem os_ix : Op2S K C dIx (rIxU K) := by
  intro z M H x y dx dy d Q r hx hy e q
  unfold dIx at e
  split at e
  · cases hy
    cases hx with
    | tup h1 h2 =>
      obtain ⟨v, e1, e2⟩ := atD_ok h2 e
      exact .inr ⟨_, _, _, v, rfl, rfl, h1.sq, e1, q.here r e2⟩
  · cases hy
    cases hx with
    | wtup h1 h2 =>
      obtain ⟨v, e1, e2⟩ := atD_ok h2 e
      exact .inr ⟨_, _, _, v, rfl, rfl, h1, e1, q.here r e2⟩
  · cases hy
    cases hx with
    | lst h1 _ _ h2 =>
      obtain ⟨v, e1, e2⟩ := atD_ok h2 e
      exact .inl ⟨_, _, _, v, rfl, rfl, .inl (.inl h1), e1, q.here r e2⟩
  · cases hy
    cases hx with
    | scr h1 h2 =>
      obtain ⟨v, e1, e2⟩ := atD_ok h2 e
      exact .inl ⟨_, _, _, v, rfl, rfl, h1.sq, e1, q.here r e2⟩
  · cases hy
    split at e
    · rename_i l _ ds hm
      cases hx with
      | ref hl =>
        obtain ⟨vs, h1, h2⟩ := r.ob _ _ _ hm hl
        obtain ⟨v, e1, e2⟩ := atD_ok h2 e
        exact .inl ⟨_, _, _, v, rfl, rfl, .inl (.inl h1), e1, q.here r e2⟩
    · cases e
  · cases e
/-! ### built-ins -/
def rLenU (K : PySem.W.Frag) : List V → Hp → VK → Prop := fun xs H Q => (∃ p ys, xs = [.ref p] ∧ (SqL K H p ys ∨ SqT K H p ys) ∧ Q (.int ys.length) H) ∨ ∃ a kvs, xs = [V.ref a] ∧ H a = some (.dK kvs) ∧ Q (.int kvs.length) H
theorem call_lenU {X : Cx} : CallR X (.builtin "len") (rLenU X.K) := CallR_or call_len_seq call_lenD
theorem paired_length {α β : Type} {F : α → β → Prop} : ∀ {l₁ : List α} {l₂ : List β}, Paired F l₁ l₂ → l₁.length = l₂.length := fun h => Paired.length h
theorem bs_len : BS K C bLen (rLenU K) := by
  intro z M H xs ds d Q r h e q
  unfold bLen at e
  split at e
  · cases e
    cases h with
    | cons h t => cases t; cases h with
      | tup h1 h2 => rw [h2.length] at q; exact .inl ⟨_, _, rfl, .inr h1.sq, q.here r (.int _)⟩
  · cases e
    cases h with
    | cons h t => cases t; cases h with
      | wtup h1 h2 => rw [h2.length] at q; exact .inl ⟨_, _, rfl, .inr h1, q.here r (.int _)⟩
  · cases e
    cases h with
    | cons h t => cases t; cases h with
      | lst h1 _ _ h2 => rw [h2.length] at q; exact .inl ⟨_, _, rfl, .inl (.inl (.inl h1)), q.here r (.int _)⟩
  · cases e
    cases h with
    | cons h t => cases t; cases h with
      | scr h1 h2 => rw [h2.length] at q; exact .inl ⟨_, _, rfl, .inl h1.sq, q.here r (.int _)⟩
  · cases h with
    | cons h t => cases t; cases h with
      | ref hl =>
        split at e
        · rename_i l ds hm
          cases e
          obtain ⟨vs, h1, h2⟩ := r.ob _ _ _ hm hl
          rw [h2.length] at q
          exact .inl ⟨_, _, rfl, .inl (.inl (.inl h1)), q.here r (.int _)⟩
        · rename_i l ds hm
          cases e
          obtain ⟨vs, h1, h2⟩ := r.ob _ _ _ hm hl
          rw [paired_length h2] at q
          exact .inr ⟨_, _, rfl, h1, q.here r (.int _)⟩
        · cases e
  · cases e
theorem bools_ok {z : Z} {H : Hp} : ∀ {ds : List D} {vs : List V} {bs : List Bool}, RDs K z H ds vs → boolsOf ds = some bs → vs = bs.map V.bl
  | [], _, _, .nil, e => by cases e; rfl
  | .bl b :: r, v :: vs, bs, .cons h t, e => by
    have e' : ((boolsOf r).map fun bs => b :: bs) = some bs := e
    rw [Option.map_eq_some_iff] at e'
    obtain ⟨cs, e1, e2⟩ := e'
    subst e2
    cases h
    rw [bools_ok t e1]
    rfl
theorem ints_ok {z : Z} {H : Hp} : ∀ {ds : List D} {vs : List V} {bs : List Int}, RDs K z H ds vs → intsOf ds = some bs → vs = bs.map V.int
  | [], _, _, .nil, e => by cases e; rfl
  | .int b :: r, v :: vs, bs, .cons h t, e => by
    have e' : ((intsOf r).map fun bs => b :: bs) = some bs := e
    rw [Option.map_eq_some_iff] at e'
    obtain ⟨cs, e1, e2⟩ := e'
    subst e2
    cases h
    rw [ints_ok t e1]
    rfl
theorem one_arg {z : Z} {H : Hp} {d : D} {vs : List V} (h : RDs K z H [d] vs) : ∃ v, vs = [v] ∧ RD K z H d v := by
  cases h with
  | cons h t => cases t; exact ⟨_, rfl, h⟩
theorem two_args {z : Z} {H : Hp} {d e : D} {vs : List V} (h : RDs K z H [d, e] vs) : ∃ v w, vs = [v, w] ∧ RD K z H d v ∧ RD K z H e w := by
  cases h with
  | cons h t => cases t with
    | cons h2 t => cases t; exact ⟨_, _, rfl, h, h2⟩
theorem bs_all : BS K C bAll (rAll K) := by
  intro z M H xs ds d Q r h e q
  unfold bAll at e
  split at e
  · rw [Option.map_eq_some_iff] at e
    obtain ⟨bs, e1, e2⟩ := e
    subst e2
    obtain ⟨v, rfl, h'⟩ := one_arg h
    cases h' with
    | lst h1 _ _ h2 =>
      rw [bools_ok h2 e1] at h1
      exact ⟨_, bs, rfl, .inl (.inl h1), q.here r (.bl _)⟩
  · cases e
theorem bs_any : BS K C bAny (rAny K) := by
  intro z M H xs ds d Q r h e q
  unfold bAny at e
  split at e
  · rw [Option.map_eq_some_iff] at e
    obtain ⟨bs, e1, e2⟩ := e
    subst e2
    obtain ⟨v, rfl, h'⟩ := one_arg h
    cases h' with
    | lst h1 _ _ h2 =>
      rw [bools_ok h2 e1] at h1
      exact ⟨_, bs, rfl, .inl (.inl h1), q.here r (.bl _)⟩
  · cases e
theorem bs_sum : BS K C bSum (rSum K) := by
  intro z M H xs ds d Q r h e q
  unfold bSum at e
  split at e
  · rw [Option.map_eq_some_iff] at e
    obtain ⟨bs, e1, e2⟩ := e
    subst e2
    obtain ⟨v, rfl, h'⟩ := one_arg h
    cases h' with
    | lst h1 _ _ h2 =>
      rw [ints_ok h2 e1] at h1
      exact ⟨_, bs, rfl, .inl (.inl h1), q.here r (.int _)⟩
  · cases e
theorem bs_max : BS K C bMax (fun xs H Q => ∃ i j, xs = [.int i, .int j] ∧ Q (.int (if j > i then j else i)) H) := by
  intro z M H xs ds d Q r h e q
  unfold bMax at e
  split at e
  · cases e
    obtain ⟨v, w, rfl, h1, h2⟩ := two_args h
    cases h1; cases h2
    exact ⟨_, _, rfl, q.here r (.int _)⟩
  · cases e
theorem bs_min : BS K C bMin (fun xs H Q => ∃ i j, xs = [.int i, .int j] ∧ Q (.int (if j < i then j else i)) H) := by
  intro z M H xs ds d Q r h e q
  unfold bMin at e
  split at e
  · cases e
    obtain ⟨v, w, rfl, h1, h2⟩ := two_args h
    cases h1; cases h2
    exact ⟨_, _, rfl, q.here r (.int _)⟩
  · cases e
theorem bs_abs : BS K C bAbs (fun xs H Q => ∃ i, xs = [.int i] ∧ Q (.int (if i < 0 then -i else i)) H) := by
  intro z M H xs ds d Q r h e q
  unfold bAbs at e
  split at e
  · cases e
    obtain ⟨v, rfl, h1⟩ := one_arg h
    cases h1
    exact ⟨_, rfl, q.here r (.int _)⟩
  · cases e
theorem bs_int : BS K C bInt (fun xs H Q => (∃ i, xs = [.int i] ∧ Q (.int i) H) ∨ ∃ k, xs = [.bl k] ∧ Q (.int (if k then 1 else 0)) H) := by
  intro z M H xs ds d Q r h e q
  unfold bInt at e
  split at e
  · cases e
    obtain ⟨v, rfl, h1⟩ := one_arg h
    cases h1
    exact .inl ⟨_, rfl, q.here r (.int _)⟩
  · cases e
theorem bs_tuple : BS K C bTuple (fun xs H Q => ∃ p ys, xs = [.ref p] ∧ ((SqL K H p ys ∧ ∀ l o, H l = none → o.dict = none → Q (.ref l) (upd H l (.frz o (.tup ys)))) ∨ (SqT K H p ys ∧ Q (.ref p) H))) := by
  intro z M H xs ds d Q r h e q
  unfold bTuple at e
  split at e
  · cases e
    obtain ⟨v, rfl, h1⟩ := one_arg h
    cases h1 with
    | lst h1 _ _ h2 => exact ⟨_, _, rfl, .inl ⟨.inl (.inl h1), q.tup r h2⟩⟩
  · cases e
    obtain ⟨v, rfl, h1⟩ := one_arg h
    cases h1 with
    | tup h1 h2 => exact ⟨_, _, rfl, .inr ⟨h1.sq, q.here r (.tup h1 h2)⟩⟩
  · cases e
end
end Nv
set_option maxRecDepth 100000
/-! NvSt: statements, loops, comprehensions. -/
namespace Nv
open PySem PySem.Spec L2

def Nev : Nat → D → Mem → Prop := fun _ _ _ => False
/-- what a statement's meaning asks of what follows -/
def PO (K : PySem.W.Frag) (C : CC) (W : WX) (D : Ends) (z : Z) (H : Hp) (o : O) (M' : Mem) : Prop :=
  ∀ z' H', RM K C.toCI z' M' H' → Ext K z H z' H' → match o with
    | .nx ρ => ∀ σ, RE K z' H' ρ σ → D.nx σ H'
    | .rt d => ∀ v, RD K z' H' d v → D.rt v H'
    | .bk ρ => ∀ σ, RE K z' H' ρ σ → D.bk σ H'
    | .ct ρ => ∀ σ, RE K z' H' ρ σ → D.ct σ H'
    | .ex ρ c d => ∀ σ cls dx, RE K z' H' ρ σ → RX K C.xa z' H' c d cls dx → W cls dx σ H'
theorem PO.mono {K : PySem.W.Frag} {C : CC} {W : WX} {D : Ends} {z z1 : Z} {H H1 : Hp} (x : Ext K z H z1 H1) {o : O} {M' : Mem} (h : PO K C W D z H o M') : PO K C W D z1 H1 o M' := fun z' H' r e => h z' H' r (x.trans e)
def tS (K : PySem.W.Frag) (C : CC) (W : WX) (F : FS) : TS := fun D σ H => ∃ z ρ M, RM K C.toCI z M H ∧ RE K z H ρ σ ∧ (F ρ M).wp (PO K C W D z H) Nev
def SS (X : Cx) (C : CC) (W : WX) (s : Stmt) (F : FS) : Prop := PS X s (tS X.K C W F)
def SSs (X : Cx) (C : CC) (W : WX) (s : List Stmt) (F : FS) : Prop := PSs X s (tS X.K C W F)
section
variable {K : PySem.W.Frag} {C : CC} {W : WX}
theorem tE_st {F : FE} {G : D → Mem → R O} {z : Z} {ρ : Env} {M : Mem} {H : Hp} {σ : L2.St} {D : Ends} {Q' : VK} (r : RM K C.toCI z M H) (re : RE K z H ρ σ) (h : ((F ρ M).st ρ G).wp (PO K C W D z H) Nev)
    (k : ∀ d M1 z1 H1 v, RM K C.toCI z1 M1 H1 → RE K z1 H1 ρ σ → Ext K z H z1 H1 → RD K z1 H1 d v → (G d M1).wp (PO K C W D z1 H1) Nev → Q' v H1) : tE K C W F σ H Q' := by
  refine ⟨z, ρ, M, r, re, ?_⟩
  cases e : F ρ M with
  | ok d M1 =>
    rw [e] at h
    exact fun z1 H1 v r1 x hd => k d M1 z1 H1 v r1 (x.re re) x hd (R.wp_mono h (fun _ _ q => q.mono x) fun _ _ _ q => q)
  | exc c v m =>
    rw [e] at h
    exact fun z' H' cls dx r1 x hx => h z' H' r1 x σ cls dx (x.re re) hx
  | bad => rw [e] at h; exact h
theorem rwp_bind_st {α β : Type} {r : R α} {f : α → Mem → R β} {Q : β → Mem → Prop} (h : (r.bind f).wp Q Nev) : r.wp (fun a m => (f a m).wp Q Nev) Nev := R.wp_bind.mp h
end
section
variable {X : Cx} {C : CC} {W : WX} {a b c e : Expr} {es : List Expr} {fa fb fc fe : FE} {fs : FA} {pos : Pos} {st : Stmt} {sts sts2 : List Stmt} {F G : FS}
theorem sss_nil : SSs X C W [] sSkip := PSs_imp pss_nil fun D σ H ⟨z, ρ, M, rm, re, h⟩ => h z H rm .refl σ re
theorem sss_one (h : SS X C W st F) : SSs X C W [st] F := pss_one h
theorem te_seq {K : PySem.W.Frag} {D : Ends} {σ : L2.St} {H : Hp} (h : tS K C W (sSeq F G) D σ H) : tSeq (tS K C W F) (tS K C W G) D σ H := by
  obtain ⟨z, ρ, M, rm, re, h⟩ := h
  refine ⟨z, ρ, M, rm, re, R.wp_mono (R.wp_bind.mp h) (fun o M1 q => ?_) fun _ _ _ q => q⟩
  cases o with
  | nx ρ1 => exact fun z1 H1 r1 x1 σ1 re1 => ⟨z1, ρ1, M1, r1, re1, R.wp_mono q (fun _ _ q => q.mono x1) fun _ _ _ q => q⟩
  | rt d => exact fun z1 H1 r1 x1 => q z1 H1 r1 x1
  | bk ρ1 => exact fun z1 H1 r1 x1 => q z1 H1 r1 x1
  | ct ρ1 => exact fun z1 H1 r1 x1 => q z1 H1 r1 x1
  | ex ρ1 c d => exact fun z1 H1 r1 x1 => q z1 H1 r1 x1
theorem sss_cons (h : SS X C W st F) (h2 : SSs X C W sts G) : SSs X C W (st :: sts) (sSeq F G) := PSs_imp (pss_cons h h2) fun D σ H h => te_seq h
theorem ss_skip : SS X C W (.Pass pos) sSkip := PS_imp ps_pass fun D σ H ⟨z, ρ, M, rm, re, h⟩ => h z H rm .refl σ re
theorem ss_break : SS X C W (.Break pos) sBreak := PS_imp ps_break fun D σ H ⟨z, ρ, M, rm, re, h⟩ => h z H rm .refl σ re
theorem ss_cont : SS X C W (.Continue pos) sCont := PS_imp ps_continue fun D σ H ⟨z, ρ, M, rm, re, h⟩ => h z H rm .refl σ re
theorem ss_never : SS X C W st sNever := PS_imp ps_never fun D σ H ⟨z, ρ, M, rm, re, h⟩ => h
theorem ss_expr (ha : SE X C W e fe) (hs : swapsWith e none pos.line X.env = pure false := by rfl) : SS X C W (.Expr e pos) (sExpr fe) := PS_imp (ps_expr ha hs) fun D σ H ⟨z, ρ, M, rm, re, h⟩ =>
  tE_st rm re h fun d M1 z1 H1 v r1 re1 x1 hd h1 => h1 z1 H1 r1 .refl σ re1
theorem ss_ret (ha : SE X C W e fe) : SS X C W (.Return (some e) pos) (sRet fe) := PS_imp (ps_ret ha) fun D σ H ⟨z, ρ, M, rm, re, h⟩ =>
  tE_st rm re h fun d M1 z1 H1 v r1 re1 x1 hd h1 => h1 z1 H1 r1 .refl v hd
theorem ss_retN : SS X C W (.Return none pos) sRetN := PS_imp ps_retN fun D σ H ⟨z, ρ, M, rm, re, h⟩ => h z H rm .refl _ .non
theorem ss_if (hc : ST X C W c fc) (ha : SSs X C W sts F) (hb : SSs X C W sts2 G) : SS X C W (.If c sts sts2 pos) (sIf fc F G) := PS_imp (ps_if hc ha hb) fun D σ H ⟨z, ρ, M, rm, re, h⟩ => by
  refine tE_st rm re h fun d M1 z1 H1 v r1 re1 x1 hd h1 => ?_
  split at h1
  · rename_i k e
    cases asBool_some e
    cases hd
    refine ⟨k, rfl, ?_⟩
    cases k with
    | true => rw [if_pos rfl] at h1 ⊢; exact ⟨z1, ρ, M1, r1, re1, h1⟩
    | false => rw [if_neg Bool.false_ne_true] at h1 ⊢; exact ⟨z1, ρ, M1, r1, re1, h1⟩
  · exact h1.elim
theorem ss_set {i : Nat} (h : PS X st (tAsg (tE X.K C W fe) (gName i))) : SS X C W st (sSet i fe) := PS_imp h fun D σ H ⟨z, ρ, M, rm, re, h⟩ =>
  tE_st rm re h fun d M1 z1 H1 v r1 re1 x1 hd h1 => h1 z1 H1 r1 .refl _ (re1.set i hd)
theorem ss_par {i j : Nat} (h : PS X st (tPar i j (tCons (tE X.K C W fa) (tCons (tE X.K C W fb) tNil)))) : SS X C W st (sPar i j fa fb) := PS_imp h fun D σ H ⟨z, ρ, M, rm, re, h⟩ =>
  tE_st rm re h fun d M1 z1 H1 v r1 re1 x1 hd h1 => tE_st r1 re1 h1 fun d2 M2 z2 H2 v2 r2 re2 x2 hd2 h2 => ⟨v, v2, rfl, h2 z2 H2 r2 .refl _ ((re2.set i (x2.rd _ _ hd)).set j hd2)⟩
/-! ### targets -/
theorem PG_imp {tg : Expr} {t t' : TG} (h : PG X tg t) (q : ∀ v σ H Q, t' v σ H Q → t v σ H Q) : PG X tg t' := ⟨fun pins s σ H v u Q I r w => h.run pins s σ H v u Q I r (q v σ H Q w)⟩
theorem PGs_imp {tg : List Expr} {t t' : TGs} (h : PGs X tg t) (q : ∀ v σ H Q, t' v σ H Q → t v σ H Q) : PGs X tg t' := ⟨fun pins s σ H v u Q I r w => h.run pins s σ H v u Q I r (q v σ H Q w)⟩
/-- slots outside are as they were -/
def Off (ns : List Nat) (σ1 σ : L2.St) : Prop := ∀ vs : List Nat, (∀ i ∈ ns, i ∈ vs) → L2.wipe σ1 vs = L2.wipe σ vs
def tG (K : PySem.W.Frag) (tg : Tg) : TG := fun v σ H Q => ∃ z ρ d ρ1, RE K z H ρ σ ∧ RD K z H d v ∧ tg.put d ρ = some ρ1 ∧ ∀ σ1, RE K z H ρ1 σ1 → Off tg.names σ1 σ → Q σ1 H
def tGs (K : PySem.W.Frag) (tg : List Tg) : TGs := fun v σ H Q => ∃ z ρ d ρ1, RE K z H ρ σ ∧ RDs K z H d v ∧ Tg.puts tg d ρ = some ρ1 ∧ ∀ σ1, RE K z H ρ1 σ1 → Off (Tg.namess tg) σ1 σ → Q σ1 H
def SG (X : Cx) (e : Expr) (tg : Tg) : Prop := PG X e (tG X.K tg)
def SGs (X : Cx) (e : List Expr) (tg : List Tg) : Prop := PGs X e (tGs X.K tg)
theorem wipe_set (σ : L2.St) (i : Nat) (x : Option V) : ∀ {vs : List Nat}, i ∈ vs → L2.wipe (σ.set i x) vs = L2.wipe σ vs := by
  intro vs hi
  apply List.ext_getElem?
  intro j
  have key : ∀ (τ : L2.St) (ws : List Nat), j ∈ ws → (L2.wipe τ ws)[j]? = if j < τ.length then some none else none := by
    intro τ ws
    induction ws with
    | nil => intro h; cases h
    | cons w ws ih =>
      intro h
      show ((L2.wipe τ ws).set w none)[j]? = _
      by_cases e : w = j
      · subst e
        rw [List.getElem?_set, if_pos rfl, wipe_length]
      · rw [List.getElem?_set_ne e]
        exact ih ((List.mem_cons.mp h).resolve_left fun q => e q.symm)
  by_cases hj : j ∈ vs
  · rw [key _ _ hj, key _ _ hj, List.length_set]
  · rw [wipe_out hj, wipe_out hj, List.getElem?_set_ne (fun q => hj (by rw [← q]; exact hi))]
theorem sg_nm {i : Nat} (h : PG X e (gName i)) : SG X e (.nm i) := PG_imp h fun v σ H Q ⟨z, ρ, d, ρ1, re, hd, hp, q⟩ => by
  cases hp
  exact q _ (re.set i hd) fun vs hv => wipe_set σ i _ (hv i (List.mem_singleton.mpr rfl))
theorem sgs_nil : SGs X [] [] := PGs_imp pgs_nil fun v σ H Q ⟨z, ρ, d, ρ1, re, hd, hp, q⟩ => by
  cases d with
  | nil => cases hd; cases hp; exact ⟨rfl, q σ re fun _ _ => rfl⟩
  | cons a l => cases hp
theorem sgs_cons {t : Tg} {ts : List Tg} (h : SG X e t) (hs : SGs X es ts) (hm : (assignEach (e :: es) X.env).map (·.2) = assign e X.env :: (assignEach es X.env).map (·.2) := by rfl) : SGs X (e :: es) (t :: ts) := PGs_imp (pgs_cons h hs hm) fun v σ H Q ⟨z, ρ, d, ρ1, re, hd, hp, q⟩ => by
  cases d with
  | nil => cases hp
  | cons x xs =>
    have hp' : ((t.put x ρ).bind fun ρ' => Tg.puts ts xs ρ') = some ρ1 := hp
    rw [Option.bind_eq_some_iff] at hp'
    obtain ⟨ρ2, e1, e2⟩ := hp'
    cases hd with
    | cons h1 h2 =>
      refine ⟨_, _, rfl, z, ρ, x, ρ2, re, h1, e1, fun σ1 re1 o1 => ⟨z, ρ2, xs, ρ1, re1, h2, e2, fun σ2 re2 o2 => q σ2 re2 fun vs hv => ?_⟩⟩
      exact (o2 vs fun i hi => hv i (List.mem_append_right _ hi)).trans (o1 vs fun i hi => hv i (List.mem_append_left _ hi))
theorem puts_length : ∀ {ts : List Tg} {ds : List D} {ρ ρ1 : Env}, Tg.puts ts ds ρ = some ρ1 → ds.length = ts.length
  | [], [], _, _, _ => rfl
  | [], _ :: _, _, _, h => by cases h
  | _ :: _, [], _, _, h => by cases h
  | t :: ts, d :: ds, ρ, ρ1, h => by
    have hp' : ((t.put d ρ).bind fun ρ' => Tg.puts ts ds ρ') = some ρ1 := h
    rw [Option.bind_eq_some_iff] at hp'
    obtain ⟨ρ2, e1, e2⟩ := hp'
    rw [List.length_cons, List.length_cons, puts_length e2]
theorem sg_tup {ts : List Tg} {k n : Nat} (hn : ts.length = n) (h : ∀ {t : TGs}, PGs X es t → PG X (.Tuple es k pos) (gTup X.K n t)) (hs : SGs X es ts) : SG X (.Tuple es k pos) (.tup ts) := PG_imp (h hs) fun v σ H Q ⟨z, ρ, d, ρ1, re, hd, hp, q⟩ => by
  cases d with
  | tup ds =>
    cases hd with
    | tup h1 h2 => exact ⟨_, _, rfl, h1.sq, by rw [← h2.length, ← hn]; exact puts_length (ts := ts) hp, z, ρ, ds, ρ1, re, h2, hp, q⟩
  | wtup ds =>
    cases hd with
    | wtup h1 h2 => exact ⟨_, _, rfl, h1, by rw [← h2.length, ← hn]; exact puts_length (ts := ts) hp, z, ρ, ds, ρ1, re, h2, hp, q⟩
  | non => cases hp
  | bl b => cases hp
  | int i => cases hp
  | str x => cases hp
  | lst l => cases hp
  | scr l => cases hp
  | ref l => cases hp
theorem sg_lst {ts : List Tg} {k n : Nat} (hn : ts.length = n) (h : ∀ {t : TGs}, PGs X es t → PG X (.Tuple es k pos) (gUnl X.K n t)) (hs : SGs X es ts) : SG X (.Tuple es k pos) (.lst ts) := PG_imp (h hs) fun v σ H Q ⟨z, ρ, d, ρ1, re, hd, hp, q⟩ => by
  cases d with
  | lst ds =>
    cases hd with
    | lst h1 _ _ h2 => exact ⟨_, _, rfl, .inl (.inl h1), by rw [← h2.length, ← hn]; exact puts_length (ts := ts) hp, z, ρ, ds, ρ1, re, h2, hp, q⟩
  | non => cases hp
  | bl b => cases hp
  | int i => cases hp
  | str x => cases hp
  | tup l => cases hp
  | wtup l => cases hp
  | scr l => cases hp
  | ref l => cases hp
theorem ss_tg {tg : Tg} {te : Expr} {sp : Pos} (hg : SG X te tg) (he : SE X C W e fe) (hs : swapsWithSole [te] e sp.line X.env = pure false := by rfl) (hw : swappedStores [te] e X.env = pure none := by rfl) (h1 : (assignEach [te] X.env).map (·.2) = [assign te X.env] := by rfl) :
    SS X C W (.Assign [te] e sp) (sTg tg fe) := PS_imp (ps_asg he hg hs hw h1) fun D σ H ⟨z, ρ, M, rm, re, h⟩ => by
  refine tE_st rm re h fun d M1 z1 H1 v r1 re1 x1 hd h1 => ?_
  split at h1
  · rename_i ρ1 e
    exact ⟨z1, ρ, d, ρ1, re1, hd, e, fun σ1 re2 _ => h1 z1 H1 r1 .refl σ1 re2⟩
  · exact h1.elim
/-! ### what is walked -/
/-- what is known of data, and what is locked, stays -/
structure Mv (K : PySem.W.Frag) (z : Z) (H : Hp) (z' : Z) (H' : Hp) : Prop where
  rd : ∀ d v, RD K z H d v → RD K z' H' d v
  fz : ∀ a o u, H a = some (.frz o u) → H' a = some (.frz o u)
theorem Ext.mv {K : PySem.W.Frag} {z z' : Z} {H H' : Hp} (x : Ext K z H z' H') : Mv K z H z' H' := ⟨x.rd, x.fz⟩
def Walks (K : PySem.W.Frag) (C : CC) (J : It) (z0 : Z) (H0 : Hp) (xs : List D) : Prop := ∀ (i : Nat) z H M, Mv K z0 H0 z H → RM K C.toCI z M H →
  (∀ d, xs[i]? = some d → J.go i H ∧ ∀ x H2, J.yld i H x H2 → RM K C.toCI z M H2 ∧ Ext K z H z H2 ∧ RD K z H2 d x) ∧ (xs.length ≤ i → J.stop i H)
def tI (K : PySem.W.Frag) (C : CC) (W : WX) (F : FI) : TI := fun σ H R => ∃ z ρ M, RM K C.toCI z M H ∧ RE K z H ρ σ ∧ (F ρ M).wp (fun xs M' => ∀ z' H' J, RM K C.toCI z' M' H' → Ext K z H z' H' → Walks K C J z' H' xs → R J H') (EX K C (atW W σ) z H)
def SI (X : Cx) (C : CC) (W : WX) (tg e : Expr) (F : FI) : Prop := PI X tg e (tI X.K C W F)
theorem PI_imp {tg : Expr} {t t' : TI} (h : PI X tg e t) (q : ∀ σ H R, t' σ H R → t σ H R) : PI X tg e t' := ⟨fun pins s σ H R I w => h.run pins s σ H R I (q σ H R w)⟩
theorem Walks.list {K : PySem.W.Frag} {z0 : Z} {H0 : Hp} {a : Addr} {ds : List D} (hl : ∀ z H, Mv K z0 H0 z H → ∃ vs, SqL K H a vs ∧ RDs K z H ds vs) : Walks K C (Itl K a) z0 H0 ds := by
  intro i z H M x r
  obtain ⟨vs, h1, h2⟩ := hl z H x
  refine ⟨fun d hd => ?_, fun hi => ⟨vs, h1, by rw [← h2.length]; exact hi⟩⟩
  obtain ⟨v, e1, e2⟩ := h2.get hd
  refine ⟨⟨vs, v, h1, e1⟩, fun y H2 ⟨e3, e4⟩ => ?_⟩
  subst e3
  have := e4 vs h1
  rw [e1] at this
  cases this
  exact ⟨r, .refl, e2⟩
end
end Nv
set_option maxRecDepth 100000
/-! NvLp: what is walked, for, comprehensions. -/
namespace Nv
open PySem PySem.Spec L2
section
variable {K : PySem.W.Frag} {C : CC} {W : WX}
theorem ext_len {z z1 : Z} {M M1 : Mem} {H H1 : Hp} (r : RM K C.toCI z M H) : True := trivial
theorem Walks.tup {z0 : Z} {H0 : Hp} {a : Addr} {ds : List D} (h : RD K z0 H0 (.tup ds) (.ref a)) : Walks K C (Itt K a) z0 H0 ds := by
  intro i z H M x r
  cases x.rd _ _ h with
  | tup h1' h2 =>
    have h1 := h1'.sq
    refine ⟨fun d hd => ?_, fun hi => ⟨_, h1, by rw [← h2.length]; exact hi⟩⟩
    obtain ⟨v, e1, e2⟩ := h2.get hd
    refine ⟨⟨_, v, h1, e1⟩, fun y H2 ⟨e3, e4⟩ => ?_⟩
    subst e3
    have := e4 _ h1
    rw [e1] at this
    cases this
    exact ⟨r, .refl, e2⟩
theorem Walks.wtup {z0 : Z} {H0 : Hp} {a : Addr} {ds : List D} (h : RD K z0 H0 (.wtup ds) (.ref a)) : Walks K C (Itt K a) z0 H0 ds := by
  intro i z H M x r
  cases x.rd _ _ h with
  | wtup h1 h2 =>
    refine ⟨fun d hd => ?_, fun hi => ⟨_, h1, by rw [← h2.length]; exact hi⟩⟩
    obtain ⟨v, e1, e2⟩ := h2.get hd
    refine ⟨⟨_, v, h1, e1⟩, fun y H2 ⟨e3, e4⟩ => ?_⟩
    subst e3
    have := e4 _ h1
    rw [e1] at this
    cases this
    exact ⟨r, .refl, e2⟩
theorem Walks.lst {z0 : Z} {H0 : Hp} {a : Addr} {ds : List D} (h : RD K z0 H0 (.lst ds) (.ref a)) : Walks K C (Itl K a) z0 H0 ds := Walks.list fun z H x => by
  cases x.rd _ _ h with
  | lst h1 _ _ h2 => exact ⟨_, .inl (.inl h1), h2⟩
theorem Walks.scr {z0 : Z} {H0 : Hp} {a : Addr} {ds : List D} (h : RD K z0 H0 (.scr ds) (.ref a)) : Walks K C (Itl K a) z0 H0 ds := Walks.list fun z H x => by
  cases x.rd _ _ h with
  | scr h1 h2 => exact ⟨_, h1.sq, h2⟩
theorem rangeI_length (lo hi : Int) : (rangeI lo hi).length = (hi - lo).toNat := by simp [rangeI]
theorem Walks.range {z0 : Z} {H0 : Hp} {lo hi : Int} : Walks K C (Itr lo (hi - lo).toNat) z0 H0 (rangeI lo hi) := by
  intro i z H M x r
  refine ⟨fun d hd => ?_, fun hi => by rw [rangeI_length] at hi; exact hi⟩
  have hi : i < (hi - lo).toNat := by
    have := (List.getElem?_eq_some_iff.mp hd).1
    rw [rangeI_length] at this
    exact this
  refine ⟨hi, fun y H2 ⟨e1, e2⟩ => ?_⟩
  subst e1 e2
  unfold rangeI at hd
  rw [List.getElem?_map, List.getElem?_range hi] at hd
  cases hd
  exact ⟨r, .refl, .int _⟩
theorem Walks.keys {z0 : Z} {H0 : Hp} {a : Addr} {o : Obj} {kvs : List (Key × D)} {vs : List (Key × V)} (h : H0 a = some (.frz o (.dK vs))) (hk : RKs K z0 H0 kvs vs) : Walks K C (Itk a o vs) z0 H0 (kvs.map fun kv => kD kv.1) := by
  intro i z H M x r
  have h1 := x.fz _ _ _ h
  have hlen : kvs.length = vs.length := paired_length hk
  refine ⟨fun d hd => ?_, fun hi => ⟨h1, by rw [List.length_map] at hi; omega⟩⟩
  have hi : i < kvs.length := by
    have := (List.getElem?_eq_some_iff.mp hd).1
    rw [List.length_map] at this
    exact this
  refine ⟨⟨h1, by omega⟩, fun y H2 ⟨e1, k, v, e2, e3⟩ => ?_⟩
  subst e1 e3
  refine ⟨r, .refl, ?_⟩
  have hkk : ∀ {l : List (Key × D)} {m : List (Key × V)} {i : Nat} {k : Key} {v : V}, RKs K z0 H0 l m → m[i]? = some (k, v) → (l.map fun kv => kD kv.1)[i]? = some (kD k) := by
    intro l m i k v hr
    unfold RKs at hr
    induction hr generalizing i with
    | nil => intro q; simp at q
    | @cons p q ps qs h t ih =>
      intro e
      cases i with
      | zero =>
        simp at e
        subst e
        obtain ⟨p1, p2⟩ := p
        obtain ⟨h1, _⟩ := h
        simp at h1 ⊢
        rw [h1]
      | succ j =>
        simp at e ⊢
        have := ih (i := j) (by simpa using e)
        simpa using this
  rw [hkk hk e2] at hd
  cases hd
  cases k with
  | inl i => exact .int i
  | inr x => exact .str x
end
section
variable {X : Cx} {C : CC} {W : WX} {a b c e tg : Expr} {es : List Expr} {fa fb fc fe : FE} {pos : Pos}
/-- a list or a tuple -/
def iAny (K : PySem.W.Frag) (tl : TE) : TI := fun σ H R => tl σ H fun x H1 => (∃ a, x = .ref a ∧ (∃ xs, SqL K H1 a xs) ∧ R (Itl K a) H1) ∨ ∃ a, x = .ref a ∧ (∃ xs, SqT K H1 a xs) ∧ R (Itt K a) H1
theorem pi_any {l : Expr} {tl : TE} (hl : PE X l tl) : PI X tg l (iAny X.K tl) := by
  refine ⟨fun pins s σ H R I h => ?_⟩
  refine thn (hl.run pins s σ H _ I h) fun v s1 ⟨x, H1, I1, r1, q1⟩ => ?_
  rcases q1 with ⟨a, e, ⟨xs, hq⟩, q⟩ | ⟨a, e, ⟨xs, hq⟩, q⟩
  · subst e
    cases r1
    obtain ⟨its, rv, p, hz⟩ := I1.list hq
    refine wpAny_pyIter_list p.isList ?_
    refine ⟨s1.heap.objs.size, [s1.heap.objs.size], _, _, H1, rfl, I1.kept (t' := s1.toks) fun b o e => Heap.get?_push_of_some _ e, turn_list a _, ⟨_, Heap.get?_push_size _ rfl, rfl, rfl⟩, fun b hb => ?_, q⟩
    have e : b = s1.heap.objs.size := by simpa using hb
    subst e
    exact I1.fpOk (Nat.le_refl _) (I1.hok.fresh (Nat.le_refl _))
  · subst e
    cases r1
    obtain ⟨its, rv, p, hz⟩ := I1.tuple hq
    refine wpAny_pyIter_tuple (show s1.heap.IsTuple a its.toArray from p) ?_
    refine ⟨s1.heap.objs.size, [s1.heap.objs.size], _, _, H1, rfl, I1.kept (t' := s1.toks) fun b o e => Heap.get?_push_of_some _ e, turn_tuple a _, ⟨_, Heap.get?_push_size _ rfl, rfl, rfl⟩, fun b hb => ?_, q⟩
    have e : b = s1.heap.objs.size := by simpa using hb
    subst e
    exact I1.fpOk (Nat.le_refl _) (I1.hok.fresh (Nat.le_refl _))
theorem ti_of {K : PySem.W.Frag} {F : FE} {G : D → Mem → R (List D)} {z : Z} {ρ : Env} {M : Mem} {H : Hp} {σ : L2.St} {R' : It → Hp → Prop} {Q' : VK} (r : RM K C.toCI z M H) (re : RE K z H ρ σ)
    (h : ((F ρ M).bind G).wp (fun xs M' => ∀ z' H' J, RM K C.toCI z' M' H' → Ext K z H z' H' → Walks K C J z' H' xs → R' J H') (EX K C (atW W σ) z H))
    (k : ∀ d M1 z1 H1 v, RM K C.toCI z1 M1 H1 → RE K z1 H1 ρ σ → Ext K z H z1 H1 → RD K z1 H1 d v →
      (G d M1).wp (fun xs M' => ∀ z' H' J, RM K C.toCI z' M' H' → Ext K z1 H1 z' H' → Walks K C J z' H' xs → R' J H') (EX K C (atW W σ) z1 H1) → Q' v H1) : tE K C W F σ H Q' := by
  refine ⟨z, ρ, M, r, re, R.wp_mono (R.wp_bind.mp h) (fun d M1 q z1 H1 v r1 x hd => ?_) fun c v m q => q⟩
  exact k d M1 z1 H1 v r1 (x.re re) x hd (R.wp_mono q (fun _ _ q z' H' J r e w => q z' H' J r (x.trans e) w) fun _ _ _ q => q.mono x)
theorem si_seq (ha : SE X C W a fa) : SI X C W tg a (itSeq fa) := PI_imp (pi_any ha) fun σ H R ⟨z, ρ, M, rm, re, h⟩ => by
  refine ti_of rm re h fun d M1 z1 H1 v r1 re1 x1 hd h1 => ?_
  obtain ⟨xs, e, q⟩ := lift_wp h1
  unfold itemsOf at e
  split at e
  · cases e
    cases hd with
    | tup h1 h2 => exact .inr ⟨_, rfl, ⟨_, h1.sq⟩, q z1 H1 _ r1 .refl (Walks.tup (.tup h1 h2))⟩
  · cases e
    cases hd with
    | wtup h1 h2 => exact .inr ⟨_, rfl, ⟨_, h1⟩, q z1 H1 _ r1 .refl (Walks.wtup (.wtup h1 h2))⟩
  · cases e
    cases hd with
    | lst h1 n m h2 => exact .inl ⟨_, rfl, ⟨_, .inl (.inl h1)⟩, q z1 H1 _ r1 .refl (Walks.lst (.lst h1 n m h2))⟩
  · cases e
    cases hd with
    | scr h1 h2 => exact .inl ⟨_, rfl, ⟨_, h1.sq⟩, q z1 H1 _ r1 .refl (Walks.scr (.scr h1 h2))⟩
  · cases e
theorem smallI_ok {i : Int} (h : smallI i = true) : -(2 ^ 62) ≤ i ∧ i < 2 ^ 62 := by
  unfold smallI at h
  simpa using h
theorem si_r1 (h : ∀ {t : TA}, PA X [a] t → PI X tg e (iRng1 t)) (ha : SE X C W a fa) (hs : starEach [a] X.env = (false, eval a X.env) :: starEach [] X.env := by rfl) : SI X C W tg e (itR1 fa) := PI_imp (h (pa_cons ha pa_nil hs)) fun σ H R ⟨z, ρ, M, rm, re, h⟩ => by
  refine ti_of rm re h fun d M1 z1 H1 v r1 re1 x1 hd h1 => ?_
  split at h1
  · split at h1
    · rename_i j hj
      cases hd
      have := smallI_ok hj
      refine ⟨j, rfl, this.1, this.2, ?_⟩
      have w := Walks.range (K := X.K) (C := C) (z0 := z1) (H0 := H1) (lo := 0) (hi := j)
      rw [Int.sub_zero] at w
      exact h1 z1 H1 _ r1 .refl w
    · exact h1.elim
  · exact h1.elim
theorem si_r2 (h : ∀ {t : TA}, PA X [a, b] t → PI X tg e (iRng2 t)) (ha : SE X C W a fa) (hb : SE X C W b fb) (hs : starEach [a, b] X.env = (false, eval a X.env) :: starEach [b] X.env := by rfl) (hs2 : starEach [b] X.env = (false, eval b X.env) :: starEach [] X.env := by rfl) :
    SI X C W tg e (itR2 fa fb) := PI_imp (h (pa_cons ha (pa_cons hb pa_nil hs2) hs)) fun σ H R ⟨z, ρ, M, rm, re, h⟩ => by
  refine ti_of rm re h fun d M1 z1 H1 v r1 re1 x1 hd h1 => ?_
  refine ti_of r1 re1 h1 fun d2 M2 z2 H2 v2 r2 re2 x2 hd2 h2 => ?_
  split at h2
  · split at h2
    · rename_i i j hj
      cases hd; cases hd2
      have h3 := smallI_ok hj.1
      have h4 := smallI_ok hj.2
      exact ⟨i, j, rfl, ⟨h3.1, h3.2, h4.1, h4.2⟩, h2 z2 H2 _ r2 .refl Walks.range⟩
    · exact h2.elim
  · exact h2.elim
theorem si_keys (ha : SE X C W a fa) : SI X C W tg a (itKeys fa) := PI_imp (pi_keys ha) fun σ H R ⟨z, ρ, M, rm, re, h⟩ => by
  refine ti_of rm re h fun d M1 z1 H1 v r1 re1 x1 hd h1 => ?_
  split at h1
  · split at h1
    · rename_i l _ kvs hm
      cases hd with
      | ref hl =>
        obtain ⟨vs, o, e1, e2⟩ := r1.ob _ _ _ hm hl
        exact ⟨_, o, rfl, .inl ⟨vs, e1, h1 z1 H1 _ r1 .refl (Walks.keys e1 e2)⟩⟩
    · exact h1.elim
  · exact h1.elim
/-! ### for -/
theorem ss_for {it : FI} {t : Tg} {body : FS} {ks : List Nat} {iter : Expr} {sts : List Stmt} (hp : PassesOwn (model X.prog X.w) X.A X.env X.xe) (hc : X.calm = true) (hi : SI X C W tg iter it) (hg : SG X tg t) (hb : SSs X C W sts body)
    (hs : ∀ x, foldedSetIterable iter X.env x = pure x := by intro _; rfl) : SS X C W (.For tg iter sts [] pos) (sFor it t body ks) := PS_imp (ps_for hp hc hi hg hb hs) fun D σ H ⟨z, ρ, M, rm, re, h⟩ => by
  refine ⟨z, ρ, M, rm, re, ?_⟩
  cases e0 : it ρ M with
  | bad => rw [sFor, e0] at h; exact h
  | exc c v m =>
    rw [sFor, e0] at h
    exact fun z' H' cls dx r1 x hx => h z' H' r1 x σ cls dx (x.re re) hx
  | ok xs M0 =>
    rw [sFor, e0] at h
    intro z1 H1 J r1 x1 wk
    refine ⟨fun i m σ H => m + i = xs.length ∧ ∃ z ρ M, RM X.K C.toCI z M H ∧ RE X.K z H ρ σ ∧ Ext X.K z1 H1 z H ∧ (forL t body ks (xs.drop i) ρ M).wp (PO X.K C W D z H) Nev,
      ⟨xs.length, rfl, z1, ρ, M0, r1, x1.re re, .refl, R.wp_mono h (fun _ _ q => q.mono x1) fun _ _ _ q => q⟩, ?_⟩
    rintro i m σ2 H2 ⟨hm, z2, ρ2, M2, r2, re2, x2, q2⟩
    obtain ⟨w1, w2⟩ := wk i z2 H2 M2 x2.mv r2
    by_cases hi : i < xs.length
    · have ed : xs.drop i = xs[i] :: xs.drop (i + 1) := List.drop_eq_getElem_cons hi
      rw [ed] at q2
      obtain ⟨g1, g2⟩ := w1 xs[i] (List.getElem?_eq_getElem hi)
      refine .inr ⟨g1, fun σ H => ∃ z ρ M, RM X.K C.toCI z M H ∧ RE X.K z H ρ σ ∧ Ext X.K z1 H1 z H ∧ (forL t body ks (xs.drop (i + 1)) ρ M).wp (PO X.K C W D z H) Nev, fun σ' H' hN => ⟨m - 1, by omega, by omega, hN⟩, fun x H3 hy => ?_⟩
      obtain ⟨r3, x3, hx⟩ := g2 x H3 hy
      unfold forL at q2
      split at q2
      · rename_i ρ3 hput
        refine ⟨z2, kill ks ρ2, xs[i], ρ3, (x3.re re2).killed ks, hx, hput, fun σ4 re4 _ => ?_⟩
        refine ⟨z2, ρ3, M2, r3, re4, R.wp_mono (R.wp_bind.mp q2) (fun o M4 q => ?_) fun _ _ _ q => q⟩
        cases o with
        | nx ρ4 => exact fun z5 H5 r5 x5 σ5 re5 => ⟨z5, ρ4, M4, r5, re5, x2.trans (x3.trans x5), R.wp_mono q (fun _ _ q => q.mono (x3.trans x5)) fun _ _ _ q => q⟩
        | ct ρ4 => exact fun z5 H5 r5 x5 σ5 re5 => ⟨z5, ρ4, M4, r5, re5, x2.trans (x3.trans x5), R.wp_mono q (fun _ _ q => q.mono (x3.trans x5)) fun _ _ _ q => q⟩
        | bk ρ4 => exact fun z5 H5 r5 x5 σ5 re5 => q z5 H5 r5 (x3.trans x5) σ5 (re5.killed ks)
        | rt d => exact fun z5 H5 r5 x5 v hd => q z5 H5 r5 (x3.trans x5) v hd
        | ex ρ4 c d => exact fun z5 H5 r5 x5 σ5 cls dx re5 hx => q z5 H5 r5 (x3.trans x5) σ5 cls dx re5 hx
      · exact q2.elim
    · have ed : xs.drop i = [] := List.drop_eq_nil_of_le (by omega)
      rw [ed] at q2
      exact .inl ⟨w2 (by omega), q2 z2 H2 r2 .refl σ2 (re2.killed ks)⟩
/-! ### comprehensions -/
abbrev W0 : WX := fun _ _ _ _ => False
/-- a part within a comprehension, known to give a value -/
theorem tE_ok {K : PySem.W.Frag} {F : FE} {z : Z} {ρ : Env} {M M1 : Mem} {H : Hp} {σ : L2.St} {Q : VK} {d : D} (r : RM K C.toCI z M H) (re : RE K z H ρ σ) (e : F ρ M = .ok d M1)
    (k : ∀ z1 H1 v, RM K C.toCI z1 M1 H1 → RE K z1 H1 ρ σ → Ext K z H z1 H1 → RD K z1 H1 d v → Q v H1) : tE K C W0 F σ H Q :=
  ⟨z, ρ, M, r, re, by rw [e]; exact fun z1 H1 v r1 x hd => k z1 H1 v r1 (x.re re) x hd⟩
/-- the list that is filled is seen by nobody -/
structure Hid (K : PySem.W.Frag) (z1 : Z) (H1 : Hp) (Dd : Addr) (z : Z) (H : Hp) : Prop where
  b : z.B = Dd :: z1.B
  rd : ∀ d v, RD K z1 H1 d v → RD K z H d v
  ls : ∀ a ∈ z1.B, H a = H1 a
  fz : ∀ a o u, H1 a = some (.frz o u) → H a = some (.frz o u)
theorem Hid.ext {K : PySem.W.Frag} {z1 z z' : Z} {H1 H H' : Hp} {Dd : Addr} (h : Hid K z1 H1 Dd z H) (x : Ext K z H z' H') : Hid K z1 H1 Dd z' H' :=
  ⟨x.b.trans h.b, fun d v q => x.rd d v (h.rd d v q), fun a ha => (x.ls a (by rw [h.b]; exact List.mem_cons_of_mem _ ha)).trans (h.ls a ha), fun a o u q => x.fz a o u (h.fz a o u q)⟩
theorem hid_start {K : PySem.W.Frag} {z : Z} {M : Mem} {H : Hp} {Dd : Addr} (r : RM K C.toCI z M H) (hD : H Dd = none) : Hid K z H Dd { z with B := Dd :: z.B } (upd H Dd (.lst [])) ∧ RM K C.toCI { z with B := Dd :: z.B } M (upd H Dd (.lst [])) := by
  obtain ⟨x, r2⟩ := ext_upd (o := .lst []) r hD
  have hrd : ∀ d v, RD K z H d v → RD K { z with B := Dd :: z.B } (upd H Dd (.lst [])) d v := fun d v => RD.move (z := z) (z' := { z with B := Dd :: z.B }) (fun a vs => sqT_upd hD) (fun a vs n m h => ⟨at_upd hD h, n, fun hm => by
    rcases List.mem_cons.mp hm with e | hm
    · subst e; rw [hD] at h; cases h
    · exact m hm⟩) (fun _ _ h => h) (fun a o u _ h => at_upd hD h) d v
  refine ⟨⟨rfl, hrd, fun a ha => upd_ne fun q => fresh_B r hD (q ▸ ha), fun a o u h => at_upd hD h⟩, r2.len, r2.nd, fun l o a h1 h2 => ?_, fun a ha => ?_⟩
  · exact (r.ob l o a h1 h2).all hrd (upd_ne fun q => fresh_i r hD (q ▸ List.mem_of_getElem? h2))
  · rcases List.mem_cons.mp ha with e | ha
    · subst e
      exact ⟨fresh_i (z := z) r hD, _, upd_same⟩
    · obtain ⟨h1, o, h2⟩ := r.dj a ha
      exact ⟨h1, o, at_upd hD h2⟩
/-- one more item into it -/
theorem hid_app {K : PySem.W.Frag} {z1 z : Z} {M : Mem} {H1 H : Hp} {Dd : Addr} {xs ys : List V} (h1 : H1 Dd = none) (r : RM K C.toCI z M H) (h : Hid K z1 H1 Dd z H) (hD : H Dd = some (.lst xs)) (nB : Dd ∉ z1.B) :
    Hid K z1 H1 Dd z (upd H Dd (.lst ys)) ∧ RM K C.toCI z M (upd H Dd (.lst ys)) ∧ ∀ d v, RD K z H d v → RD K z (upd H Dd (.lst ys)) d v := by
  have mB : Dd ∈ z.B := by rw [h.b]; exact List.mem_cons_self
  have hrd : ∀ d v, RD K z H d v → RD K z (upd H Dd (.lst ys)) d v := fun d v => RD.move (fun a vs q => by
    refine q.imp (fun q => ?_) id
    have ne : a ≠ Dd := fun e => by
      subst e
      rcases q with q | ⟨o, q⟩ <;> (rw [hD] at q; cases q)
    rcases q with q | ⟨o, q⟩
    · exact .inl (by rw [upd_ne ne]; exact q)
    · exact .inr ⟨o, by rw [upd_ne ne]; exact q⟩) (fun a vs n m q => ⟨by rw [upd_ne (fun e => m (by rw [e]; exact mB))]; exact q, n, m⟩) (fun _ _ q => q) (fun a o u _ q => by
      rw [upd_ne fun e => by subst e; rw [hD] at q; cases q]; exact q) d v
  refine ⟨⟨h.b, fun d v q => hrd d v (h.rd d v q), fun a ha => (upd_ne (fun e => nB (by rw [← e]; exact ha))).trans (h.ls a ha), fun a o u q => ?_⟩, ⟨r.len, r.nd, fun l o a e1 e2 => ?_, fun a ha => ?_⟩, hrd⟩
  · have q2 := h.fz a o u q
    rw [upd_ne fun e => by subst e; rw [hD] at q2; cases q2]
    exact q2
  · exact (r.ob l o a e1 e2).all hrd (upd_ne fun e => (r.dj Dd mB).1 (e ▸ List.mem_of_getElem? e2))
  · obtain ⟨e1, o, e2⟩ := r.dj a ha
    by_cases e : a = Dd
    · subst e
      exact ⟨e1, _, upd_same⟩
    · exact ⟨e1, o, by rw [upd_ne e]; exact e2⟩
theorem RD.weakB {K : PySem.W.Frag} {z : Z} {H : Hp} {Bs : List Addr} (hB : ∀ a ∈ Bs, a ∈ z.B) (d : D) (v : V) : RD K z H d v → RD K { z with B := Bs } H d v :=
  RD.move (z := z) (z' := { z with B := Bs }) (fun _ _ h => h) (fun a vs n m h => ⟨h, n, fun q => m (hB a q)⟩) (fun _ _ h => h) (fun _ _ _ _ h => h) d v
/-- the filled list comes to light -/
theorem hid_end {K : PySem.W.Frag} {z1 z : Z} {M : Mem} {H1 H : Hp} {Dd : Addr} {ds : List D} {vs : List V} (r : RM K C.toCI z M H) (h : Hid K z1 H1 Dd z H) (hD : H Dd = some (.lst vs)) (hv : RDs K z H ds vs) (nB : Dd ∉ z1.B) :
    RM K C.toCI { z with B := z1.B } M H ∧ Ext K z1 H1 { z with B := z1.B } H ∧ RD K { z with B := z1.B } H (.lst ds) (.ref Dd) := by
  have hB : ∀ a ∈ z1.B, a ∈ z.B := fun a ha => by rw [h.b]; exact List.mem_cons_of_mem _ ha
  have hrd : ∀ d v, RD K z H d v → RD K { z with B := z1.B } H d v := RD.weakB hB
  refine ⟨⟨r.len, r.nd, fun l o a e1 e2 => (r.ob l o a e1 e2).all hrd rfl, fun a ha => r.dj a (hB a ha)⟩, ⟨rfl, fun d v q => hrd d v (h.rd d v q), h.ls, h.fz⟩, ?_⟩
  exact .lst hD (r.dj Dd (by rw [h.b]; exact List.mem_cons_self)).1 nB (hv.all hrd)
theorem compL_cons {t : Tg} {fc fe : FE} {vs : List Nat} {d : D} {ds : List D} {ρ : Env} {M Mf : Mem} {ys : List D} (h : compL t fc fe vs (d :: ds) ρ M = .ok ys Mf) :
    ∃ ρ1 k M1, t.put d (kill vs ρ) = some ρ1 ∧ fc ρ1 M = .ok (.bl k) M1 ∧ ((k = true ∧ ∃ y M2 zs, fe ρ1 M1 = .ok y M2 ∧ compL t fc fe vs ds ρ M2 = .ok zs Mf ∧ ys = y :: zs) ∨ (k = false ∧ compL t fc fe vs ds ρ M1 = .ok ys Mf)) := by
  unfold compL at h
  cases e1 : t.put d (kill vs ρ) with
  | none => rw [e1] at h; cases h
  | some ρ1 =>
    rw [e1] at h
    dsimp only at h
    cases e2 : fc ρ1 M with
    | bad => rw [e2] at h; cases h
    | exc c v m => rw [e2] at h; cases h
    | ok b M1 =>
      rw [e2] at h
      dsimp only [R.bind] at h
      cases b with
      | bl k =>
        refine ⟨ρ1, k, M1, rfl, e2, ?_⟩
        cases k with
        | false => exact .inr ⟨rfl, h⟩
        | true =>
          refine .inl ⟨rfl, ?_⟩
          dsimp only [asBool] at h
          cases e3 : fe ρ1 M1 with
          | bad => rw [e3] at h; cases h
          | exc c v m => rw [e3] at h; cases h
          | ok y M2 =>
            rw [e3] at h
            dsimp only [R.bind] at h
            cases e4 : compL t fc fe vs ds ρ M2 with
            | bad => rw [e4] at h; cases h
            | exc c v m => rw [e4] at h; cases h
            | ok zs M3 =>
              rw [e4] at h
              cases h
              exact ⟨y, M2, zs, rfl, e4, rfl⟩
      | non => cases h
      | int i => cases h
      | str x => cases h
      | tup l => cases h
      | wtup l => cases h
      | lst l => cases h
      | scr l => cases h
      | ref l => cases h
theorem wipe_in {τ : L2.St} {j : Nat} : ∀ {ws : List Nat}, j ∈ ws → (L2.wipe τ ws)[j]? = if j < τ.length then some none else none
  | [], h => by cases h
  | w :: ws, h => by
    show ((L2.wipe τ ws).set w none)[j]? = _
    by_cases e : w = j
    · subst e
      rw [List.getElem?_set, if_pos rfl, wipe_length]
    · rw [List.getElem?_set_ne e]
      exact wipe_in ((List.mem_cons.mp h).resolve_left fun q => e q.symm)
theorem te_comp {K : PySem.W.Frag} {it : FI} {t : Tg} {fc fe : FE} {vs : List Nat} (hv : ∀ i ∈ t.names, i ∈ vs) {tt : TT} (htt : ∀ σ H Q, tTest (tE K C W0 fc) σ H Q → tt σ H Q) {σ : L2.St} {H : Hp} {Q : VK} (h : tE K C W (evComp it t fc fe vs) σ H Q) :
    tLc (tI K C W it) (tG K t) tt (tE K C W0 fe) vs σ H Q := by
  obtain ⟨z, ρ, M, rm, re, h⟩ := h
  refine ⟨z, ρ, M, rm, re, ?_⟩
  cases e0 : it ρ M with
  | bad => rw [evComp, e0] at h; exact h
  | exc c v m => rw [evComp, e0] at h; exact h
  | ok xs M0 =>
    rw [evComp, e0] at h
    dsimp only [R.bind] at h
    intro z1 H1 J r1 x1 wk Dd hD
    cases e1 : compL t fc fe vs xs ρ M0 with
    | bad => rw [e1] at h; exact h.elim
    | exc c v m => rw [e1] at h; exact h.elim
    | ok yf Mf =>
      rw [e1] at h
      dsimp only [fitL] at h
      by_cases hfit : yf.length ≤ 16777216
      · rw [if_pos hfit] at h
        have nB := fresh_B r1 hD
        obtain ⟨hid1, rm1⟩ := hid_start r1 hD
        refine ⟨fun i m H => m + i = xs.length ∧ ∃ z M acc vacc ys, RM K C.toCI z M H ∧ Hid K z1 H1 Dd z H ∧ RE K z H ρ σ ∧ H Dd = some (.lst vacc) ∧ RDs K z H acc vacc ∧ compL t fc fe vs (xs.drop i) ρ M = .ok ys Mf ∧ acc ++ ys = yf, ?_, ?_⟩
        · refine ⟨xs.length, rfl, _, M0, [], [], yf, rm1, hid1, ⟨re.len, fun i d h => ?_⟩, upd_same, .nil, e1, rfl⟩
          obtain ⟨v, e, q⟩ := (x1.re re).at_ i d h
          exact ⟨v, e, hid1.rd d v q⟩
        · rintro i m H2 ⟨hm, z2, M2, acc, vacc, ys, r2, hid2, re2, hD2, hacc, hcomp, hall⟩
          obtain ⟨w1, w2⟩ := wk i z2 H2 M2 ⟨hid2.rd, hid2.fz⟩ r2
          by_cases hi : i < xs.length
          · have ed : xs.drop i = xs[i] :: xs.drop (i + 1) := List.drop_eq_getElem_cons hi
            rw [ed] at hcomp
            obtain ⟨ρ3, k, M3, hput, hfc, hrest⟩ := compL_cons hcomp
            obtain ⟨g1, g2⟩ := w1 xs[i] (List.getElem?_eq_getElem hi)
            refine .inr ⟨g1, fun H => ∃ z M acc vacc ys, RM K C.toCI z M H ∧ Hid K z1 H1 Dd z H ∧ RE K z H ρ σ ∧ H Dd = some (.lst vacc) ∧ RDs K z H acc vacc ∧ compL t fc fe vs (xs.drop (i + 1)) ρ M = .ok ys Mf ∧ acc ++ ys = yf, fun H' hN => ⟨m - 1, by omega, by omega, hN⟩, fun x H3 hy => ?_⟩
            obtain ⟨r3, x3, hx⟩ := g2 x H3 hy
            have mB : Dd ∈ z2.B := by rw [hid2.b]; exact List.mem_cons_self
            refine ⟨z2, kill vs ρ, xs[i], ρ3, (x3.re re2).wiped vs, hx, hput, fun σ4 re4 off => ⟨?_, ?_⟩⟩
            · exact (off vs hv).trans (by
                have : ∀ τ : L2.St, L2.wipe (L2.wipe τ vs) vs = L2.wipe τ vs := fun τ => by
                  apply List.ext_getElem?
                  intro j
                  by_cases hj : j ∈ vs
                  · rw [wipe_in hj, wipe_in hj, wipe_length]
                  · rw [wipe_out hj]
                exact this σ)
            · refine htt _ _ _ (tE_ok r3 re4 hfc fun z4 H4 v4 r4 re5 x4 hd4 => ?_)
              cases hd4
              refine ⟨k, rfl, ?_⟩
              have x34 := x3.trans x4
              rcases hrest with ⟨rfl, y, M5, zs, hfe, hc5, hys⟩ | ⟨rfl, hc5⟩
              · show if _ = true then _ else _
                rw [if_pos rfl]
                refine tE_ok r4 re5 hfe fun z6 H6 v6 r6 re6 x6 hd6 => ?_
                have x36 := x34.trans x6
                have hid6 := hid2.ext x36
                have hD6 : H6 Dd = some (.lst vacc) := (x36.ls Dd mB).trans hD2
                have hlen : vacc.length < sizeLine := by
                  have h1 : acc.length + ys.length ≤ 16777216 := by rw [← List.length_append, hall]; exact hfit
                  rw [hys, List.length_cons] at h1
                  rw [← hacc.length]
                  show acc.length < 16777216
                  omega
                refine ⟨vacc, hD6, hlen, ?_⟩
                obtain ⟨hid7, r7, rd7⟩ := hid_app (ys := vacc ++ [v6]) hD r6 hid6 hD6 nB
                refine ⟨z6, M5, acc ++ [y], vacc ++ [v6], zs, r7, hid7, ?_, upd_same, ((hacc.all x36.rd).append (.cons hd6 .nil)).all rd7, hc5, by rw [← hall, hys, List.append_assoc]; rfl⟩
                exact ⟨re2.len, fun i d h => let ⟨v, e, q⟩ := re2.at_ i d h; ⟨v, e, rd7 _ _ (x36.rd _ _ q)⟩⟩
              · show if _ = true then _ else _
                rw [if_neg Bool.false_ne_true]
                exact ⟨z4, M3, acc, vacc, ys, r4, hid2.ext x34, x34.re re2, (x34.ls Dd mB).trans hD2, hacc.all x34.rd, hc5, hall⟩
          · have ed : xs.drop i = [] := List.drop_eq_nil_of_le (by omega)
            rw [ed] at hcomp
            cases hcomp
            rw [List.append_nil] at hall
            subst hall
            obtain ⟨r2', x2', rl2⟩ := hid_end r2 hid2 hD2 hacc nB
            exact .inl ⟨w2 (by omega), h _ H2 _ r2' (x1.trans x2') rl2⟩
      · rw [if_neg hfit] at h
        exact h.elim
end
end Nv
set_option maxRecDepth 100000
/-! NvL2: comprehensions as expressions and as statements; with two clauses. -/
namespace Nv
open PySem PySem.Spec L2
section
variable {X : Cx} {C : CC} {W : WX} {e tg tg1 iter iter1 : Expr} {fe fc fc1 : FE} {pos : Pos}
theorem htt_yes {K : PySem.W.Frag} : ∀ (σ : L2.St) (H : Hp) (Q : Bool → Hp → Prop), tTest (tE K C W0 evTrue) σ H Q → tYes σ H Q := fun σ H Q ⟨z, ρ, M, rm, re, h⟩ => by
  obtain ⟨k, e, q⟩ := h z H (.bl true) rm .refl (.bl true)
  cases e
  exact q
theorem compL2_cons {t t1 : Tg} {it1 : FI} {vs vs1 : List Nat} {d : D} {ds : List D} {ρ : Env} {M Mf : Mem} {ys : List D} (h : compL2 t fc it1 t1 fc1 fe vs vs1 (d :: ds) ρ M = .ok ys Mf) :
    ∃ ρ1 k M1, t.put d (kill vs ρ) = some ρ1 ∧ fc ρ1 M = .ok (.bl k) M1 ∧ ((k = true ∧ ∃ xs M2 ys1 M3 zs, it1 ρ1 M1 = .ok xs M2 ∧ compL t1 fc1 fe vs1 xs ρ1 M2 = .ok ys1 M3 ∧ compL2 t fc it1 t1 fc1 fe vs vs1 ds ρ M3 = .ok zs Mf ∧ ys = ys1 ++ zs) ∨
      (k = false ∧ compL2 t fc it1 t1 fc1 fe vs vs1 ds ρ M1 = .ok ys Mf)) := by
  unfold compL2 at h
  cases e1 : t.put d (kill vs ρ) with
  | none => rw [e1] at h; cases h
  | some ρ1 =>
    rw [e1] at h
    dsimp only at h
    cases e2 : fc ρ1 M with
    | bad => rw [e2] at h; cases h
    | exc c v m => rw [e2] at h; cases h
    | ok b M1 =>
      rw [e2] at h
      dsimp only [R.bind] at h
      cases b with
      | bl k =>
        refine ⟨ρ1, k, M1, rfl, e2, ?_⟩
        cases k with
        | false => exact .inr ⟨rfl, h⟩
        | true =>
          refine .inl ⟨rfl, ?_⟩
          dsimp only [asBool] at h
          cases e3 : it1 ρ1 M1 with
          | bad => rw [e3] at h; cases h
          | exc c v m => rw [e3] at h; cases h
          | ok xs M2 =>
            rw [e3] at h
            dsimp only [R.bind] at h
            cases e4 : compL t1 fc1 fe vs1 xs ρ1 M2 with
            | bad => rw [e4] at h; cases h
            | exc c v m => rw [e4] at h; cases h
            | ok ys1 M3 =>
              rw [e4] at h
              dsimp only [R.bind] at h
              cases e5 : compL2 t fc it1 t1 fc1 fe vs vs1 ds ρ M3 with
              | bad => rw [e5] at h; cases h
              | exc c v m => rw [e5] at h; cases h
              | ok zs M4 =>
                rw [e5] at h
                cases h
                exact ⟨xs, M2, ys1, M3, zs, rfl, e4, e5, rfl⟩
      | non => cases h
      | int i => cases h
      | str x => cases h
      | tup l => cases h
      | wtup l => cases h
      | lst l => cases h
      | scr l => cases h
      | ref l => cases h
theorem wipe_wipe (τ : L2.St) (vs : List Nat) : L2.wipe (L2.wipe τ vs) vs = L2.wipe τ vs := by
  apply List.ext_getElem?
  intro j
  by_cases hj : j ∈ vs
  · rw [wipe_in hj, wipe_in hj, wipe_length]
  · rw [wipe_out hj]
/-- an iterable within a comprehension, known to give its items -/
theorem tI_ok {K : PySem.W.Frag} {F : FI} {z : Z} {ρ : Env} {M M1 : Mem} {H : Hp} {σ : L2.St} {R' : It → Hp → Prop} {xs : List D} (r : RM K C.toCI z M H) (re : RE K z H ρ σ) (e : F ρ M = .ok xs M1)
    (k : ∀ z1 H1 J, RM K C.toCI z1 M1 H1 → RE K z1 H1 ρ σ → Ext K z H z1 H1 → Walks K C J z1 H1 xs → R' J H1) : tI K C W0 F σ H R' :=
  ⟨z, ρ, M, r, re, by rw [e]; exact fun z1 H1 v r1 x hd => k z1 H1 v r1 (x.re re) x hd⟩
theorem te_comp2 {K : PySem.W.Frag} {it it1 : FI} {t t1 : Tg} {vs vs1 : List Nat} (hv : ∀ i ∈ t.names, i ∈ vs) (hv1 : ∀ i ∈ t1.names, i ∈ vs1) {tt tt1 : TT} (htt : ∀ σ H Q, tTest (tE K C W0 fc) σ H Q → tt σ H Q) (htt1 : ∀ σ H Q, tTest (tE K C W0 fc1) σ H Q → tt1 σ H Q)
    {σ : L2.St} {H : Hp} {Q : VK} (h : tE K C W (evComp2 it t fc it1 t1 fc1 fe vs vs1) σ H Q) :
    tLc2 (tI K C W it) (tG K t) tt (tI K C W0 it1) (tG K t1) tt1 (tE K C W0 fe) vs vs1 σ H Q := by
  obtain ⟨z, ρ, M, rm, re, h⟩ := h
  refine ⟨z, ρ, M, rm, re, ?_⟩
  cases e0 : it ρ M with
  | bad => rw [evComp2, e0] at h; exact h
  | exc c v m => rw [evComp2, e0] at h; exact h
  | ok xs M0 =>
    rw [evComp2, e0] at h
    dsimp only [R.bind] at h
    intro z1 H1 J r1 x1 wk Dd hD
    cases e1 : compL2 t fc it1 t1 fc1 fe vs vs1 xs ρ M0 with
    | bad => rw [e1] at h; exact h.elim
    | exc c v m => rw [e1] at h; exact h.elim
    | ok yf Mf =>
      rw [e1] at h
      dsimp only [fitL] at h
      by_cases hfit : yf.length ≤ 16777216
      · rw [if_pos hfit] at h
        have nB := fresh_B r1 hD
        obtain ⟨hid1, rm1⟩ := hid_start r1 hD
        refine ⟨fun i m H => m + i = xs.length ∧ ∃ z M acc vacc ys, RM K C.toCI z M H ∧ Hid K z1 H1 Dd z H ∧ RE K z H ρ σ ∧ H Dd = some (.lst vacc) ∧ RDs K z H acc vacc ∧ compL2 t fc it1 t1 fc1 fe vs vs1 (xs.drop i) ρ M = .ok ys Mf ∧ acc ++ ys = yf, ?_, ?_⟩
        · refine ⟨xs.length, rfl, _, M0, [], [], yf, rm1, hid1, ⟨re.len, fun i d h => ?_⟩, upd_same, .nil, e1, rfl⟩
          obtain ⟨v, e, q⟩ := (x1.re re).at_ i d h
          exact ⟨v, e, hid1.rd d v q⟩
        · rintro i m H2 ⟨hm, z2, M2, acc, vacc, ys, r2, hid2, re2, hD2, hacc, hcomp, hall⟩
          obtain ⟨w1, w2⟩ := wk i z2 H2 M2 ⟨hid2.rd, hid2.fz⟩ r2
          by_cases hi : i < xs.length
          · have ed : xs.drop i = xs[i] :: xs.drop (i + 1) := List.drop_eq_getElem_cons hi
            rw [ed] at hcomp
            obtain ⟨ρ3, k, M3, hput, hfc, hrest⟩ := compL2_cons hcomp
            obtain ⟨g1, g2⟩ := w1 xs[i] (List.getElem?_eq_getElem hi)
            refine .inr ⟨g1, fun H => ∃ z M acc vacc ys, RM K C.toCI z M H ∧ Hid K z1 H1 Dd z H ∧ RE K z H ρ σ ∧ H Dd = some (.lst vacc) ∧ RDs K z H acc vacc ∧ compL2 t fc it1 t1 fc1 fe vs vs1 (xs.drop (i + 1)) ρ M = .ok ys Mf ∧ acc ++ ys = yf, fun H' hN => ⟨m - 1, by omega, by omega, hN⟩, fun x H3 hy => ?_⟩
            obtain ⟨r3, x3, hx⟩ := g2 x H3 hy
            have mB : Dd ∈ z2.B := by rw [hid2.b]; exact List.mem_cons_self
            refine ⟨z2, kill vs ρ, xs[i], ρ3, (x3.re re2).wiped vs, hx, hput, fun σ4 re4 off => ⟨(off vs hv).trans (wipe_wipe σ vs), ?_⟩⟩
            refine htt _ _ _ (tE_ok r3 re4 hfc fun z4 H4 v4 r4 re5 x4 hd4 => ?_)
            cases hd4
            refine ⟨k, rfl, ?_⟩
            have x34 := x3.trans x4
            rcases hrest with ⟨rfl, xs1, M5, ys1, M6, zs, hit1, hc1, hc5, hys⟩ | ⟨rfl, hc5⟩
            · show if _ = true then _ else _
              rw [if_pos rfl]
              refine tI_ok r4 re5 hit1 fun z5 H5 J1 r5 re6 x5 wk1 => ?_
              have x35 := x34.trans x5
              refine ⟨fun j k H => k + j = xs1.length ∧ ∃ z M acc1 vacc1 ys2, RM K C.toCI z M H ∧ Hid K z1 H1 Dd z H ∧ Ext K z5 H5 {z with B := z.B} H = Ext K z5 H5 z H ∧ RE K z H ρ σ ∧ RE K z H ρ3 σ4 ∧ H Dd = some (.lst vacc1) ∧ RDs K z H acc1 vacc1 ∧ Mv K z5 H5 z H ∧ compL t1 fc1 fe vs1 (xs1.drop j) ρ3 M = .ok ys2 M6 ∧ acc1 ++ ys2 = acc ++ ys1, ?_, ?_⟩
              · exact ⟨xs1.length, rfl, z5, M5, acc, vacc, ys1, r5, hid2.ext x35, rfl, x35.re re2, re6, (x35.ls Dd mB).trans hD2, hacc.all x35.rd, ⟨fun _ _ h => h, fun _ _ _ h => h⟩, hc1, rfl⟩
              · rintro j k H6 ⟨hk, z6, M7, acc1, vacc1, ys2, r6, hid6, _, re7, re8, hD6, hacc6, mv6, hcl, hall6⟩
                obtain ⟨v1, v2⟩ := wk1 j z6 H6 M7 mv6 r6
                have mB6 : Dd ∈ z6.B := by rw [hid6.b]; exact List.mem_cons_self
                by_cases hj : j < xs1.length
                · have ed1 : xs1.drop j = xs1[j] :: xs1.drop (j + 1) := List.drop_eq_getElem_cons hj
                  rw [ed1] at hcl
                  obtain ⟨ρ9, k9, M9, hput9, hfc9, hrest9⟩ := compL_cons hcl
                  obtain ⟨g3, g4⟩ := v1 xs1[j] (List.getElem?_eq_getElem hj)
                  refine .inr ⟨g3, fun H => ∃ z M acc1 vacc1 ys2, RM K C.toCI z M H ∧ Hid K z1 H1 Dd z H ∧ Ext K z5 H5 {z with B := z.B} H = Ext K z5 H5 z H ∧ RE K z H ρ σ ∧ RE K z H ρ3 σ4 ∧ H Dd = some (.lst vacc1) ∧ RDs K z H acc1 vacc1 ∧ Mv K z5 H5 z H ∧ compL t1 fc1 fe vs1 (xs1.drop (j + 1)) ρ3 M = .ok ys2 M6 ∧ acc1 ++ ys2 = acc ++ ys1, fun H' hN => ⟨k - 1, by omega, by omega, hN⟩, fun x' H7 hy' => ?_⟩
                  obtain ⟨r7, x7, hx7⟩ := g4 x' H7 hy'
                  refine ⟨z6, kill vs1 ρ3, xs1[j], ρ9, (x7.re re8).wiped vs1, hx7, hput9, fun σ10 re10 off1 => ⟨(off1 vs1 hv1).trans (wipe_wipe σ4 vs1), ?_⟩⟩
                  refine htt1 _ _ _ (tE_ok r7 re10 hfc9 fun z11 H11 v11 r11 re11 x11 hd11 => ?_)
                  cases hd11
                  refine ⟨k9, rfl, ?_⟩
                  have x71 := x7.trans x11
                  rcases hrest9 with ⟨rfl, y, M12, zs9, hfe9, hc12, hys9⟩ | ⟨rfl, hc12⟩
                  · show if _ = true then _ else _
                    rw [if_pos rfl]
                    refine tE_ok r11 re11 hfe9 fun z13 H13 v13 r13 re13 x13 hd13 => ?_
                    have x73 := x71.trans x13
                    have hid13 := hid6.ext x73
                    have hD13 : H13 Dd = some (.lst vacc1) := (x73.ls Dd mB6).trans hD6
                    have hlen : vacc1.length < sizeLine := by
                      have h1 : (acc1 ++ ys2).length ≤ 16777216 := by
                        rw [hall6]
                        have h2 : (acc ++ ys1).length + zs.length = yf.length := by rw [← hall, hys]; simp [Nat.add_assoc]
                        omega
                      rw [hys9, List.length_append, List.length_cons] at h1
                      rw [← hacc6.length]
                      show acc1.length < 16777216
                      omega
                    refine ⟨vacc1, hD13, hlen, ?_⟩
                    obtain ⟨hid14, r14, rd14⟩ := hid_app (ys := vacc1 ++ [v13]) hD r13 hid13 hD13 nB
                    have tore : ∀ {ρ' : Env} {σ' : L2.St}, RE K z6 H6 ρ' σ' → RE K z13 (upd H13 Dd (.lst (vacc1 ++ [v13]))) ρ' σ' := fun q => ⟨q.len, fun i d h => let ⟨v, e, q⟩ := q.at_ i d h; ⟨v, e, rd14 _ _ (x73.rd _ _ q)⟩⟩
                    refine ⟨z13, M12, acc1 ++ [y], vacc1 ++ [v13], zs9, r14, hid14, rfl, tore re7, tore re8, upd_same, ((hacc6.all x73.rd).append (.cons hd13 .nil)).all rd14, ⟨fun d v q => rd14 _ _ (x73.rd _ _ (mv6.rd d v q)), fun a o u q => ?_⟩, hc12, by rw [← hall6, hys9, List.append_assoc]; rfl⟩
                    have q2 := x73.fz a o u (mv6.fz a o u q)
                    rw [upd_ne fun e => by subst e; rw [hD13] at q2; cases q2]
                    exact q2
                  · show if _ = true then _ else _
                    rw [if_neg Bool.false_ne_true]
                    exact ⟨z11, M9, acc1, vacc1, ys2, r11, hid6.ext x71, rfl, x71.re re7, x71.re re8, (x71.ls Dd mB6).trans hD6, hacc6.all x71.rd, ⟨fun d v q => x71.rd _ _ (mv6.rd d v q), fun a o u q => x71.fz a o u (mv6.fz a o u q)⟩, hc12, hall6⟩
                · have ed1 : xs1.drop j = [] := List.drop_eq_nil_of_le (by omega)
                  rw [ed1] at hcl
                  cases hcl
                  rw [List.append_nil] at hall6
                  refine .inl ⟨v2 (by omega), z6, _, acc1, vacc1, zs, r6, hid6, re7, hD6, hacc6, hc5, by rw [hall6, ← hall, hys, List.append_assoc]⟩
            · show if _ = true then _ else _
              rw [if_neg Bool.false_ne_true]
              exact ⟨z4, M3, acc, vacc, ys, r4, hid2.ext x34, x34.re re2, (x34.ls Dd mB).trans hD2, hacc.all x34.rd, hc5, hall⟩
          · have ed : xs.drop i = [] := List.drop_eq_nil_of_le (by omega)
            rw [ed] at hcomp
            cases hcomp
            rw [List.append_nil] at hall
            subst hall
            obtain ⟨r2', x2', rl2⟩ := hid_end r2 hid2 hD2 hacc nB
            exact .inl ⟨w2 (by omega), h _ H2 _ r2' (x1.trans x2') rl2⟩
      · rw [if_neg hfit] at h
        exact h.elim
end
end Nv
set_option maxRecDepth 100000
/-! NvCl: dicts, lists that grow, fields, calls, methods, new instances, what a def is worth. -/
namespace Nv
open PySem PySem.Spec L2
section
variable {K : PySem.W.Frag} {C : CC} {W : WX}
/-! ### dicts -/
theorem keyOf_v {z : Z} {H : Hp} {d : D} {v : V} {q : Key} (h : RD K z H d v) (e : keyOf d = some q) : v = kV q := by
  unfold keyOf at e
  split at e
  · cases e; cases h; rfl
  · cases e; cases h; rfl
  · cases e
theorem kget_ok {z : Z} {H : Hp} {q : Key} : ∀ {kvs : List (Key × D)} {vs : List (Key × V)}, RKs K z H kvs vs → (∀ d, kget kvs q = some d → ∃ v, valV vs q = some v ∧ RD K z H d v) ∧ (kget kvs q = none → valV vs q = none) := by
  intro kvs vs r
  unfold RKs at r
  induction r with
  | nil => exact ⟨fun d h => (by cases h), fun _ => rfl⟩
  | @cons p p' ps qs h t ih =>
    obtain ⟨k, d⟩ := p
    obtain ⟨k', v⟩ := p'
    obtain ⟨h1, h2⟩ := h
    cases h1
    by_cases e : k = q
    · subst e
      have e1 : kget ((k, d) :: ps) k = some d := by simp [kget, List.find?_cons]
      have e2 : valV ((k, v) :: qs) k = some v := valV_pos rfl
      rw [e1, e2]
      exact ⟨fun d' h => by cases h; exact ⟨v, rfl, h2⟩, fun h => by cases h⟩
    · have e1 : kget ((k, d) :: ps) q = kget ps q := by simp [kget, List.find?_cons, e]
      have e2 : valV ((k, v) :: qs) q = valV qs q := valV_neg e
      rw [e1, e2]
      exact ih
theorem any_ok {z : Z} {H : Hp} {q : Key} : ∀ {kvs : List (Key × D)} {vs : List (Key × V)}, RKs K z H kvs vs → (kvs.any fun kv => decide (kv.1 = q)) = (vs.any fun kv => decide (kv.1 = q)) := by
  intro kvs vs r
  unfold RKs at r
  induction r with
  | nil => rfl
  | @cons p p' ps qs h t ih => rw [List.any_cons, List.any_cons, ih, h.1]
theorem kput_ok {z : Z} {H : Hp} {q : Key} {d : D} {v : V} (hd : RD K z H d v) {kvs : List (Key × D)} {vs : List (Key × V)} (r : RKs K z H kvs vs) : RKs K z H (kput kvs q d) (putK vs q v) := by
  unfold kput putK
  rw [any_ok r]
  by_cases e : (vs.any fun kv => decide (kv.1 = q)) = true
  · rw [if_pos e, if_pos e]
    clear e
    unfold RKs at r ⊢
    induction r with
    | nil => exact .nil
    | @cons p p' ps qs h t ih =>
      refine .cons ?_ ih
      dsimp only
      rw [← h.1]
      by_cases e2 : p.1 = q
      · rw [if_pos e2, if_pos e2]
        exact ⟨rfl, hd⟩
      · rw [if_neg e2, if_neg e2]
        exact h
  · rw [if_neg e, if_neg e]
    clear e
    unfold RKs at r ⊢
    induction r with
    | nil => exact .cons ⟨rfl, hd⟩ .nil
    | cons h t ih => exact .cons h ih
theorem dct_ok {z : Z} {M : Mem} {H : Hp} {d : D} {v : V} {kvs : List (Key × D)} (r : RM K C.toCI z M H) (h : RD K z H d v) (e : dctAt M d = some kvs) : ∃ a vs, v = .ref a ∧ Rd H a (.dK vs) ∧ RKs K z H kvs vs := by
  unfold dctAt at e
  split at e
  · cases h with
    | ref hl =>
      split at e
      · rename_i hm
        cases e
        obtain ⟨vs, h1, h2⟩ := r.ob _ _ _ hm hl
        exact ⟨_, vs, rfl, .inl h1, h2⟩
      · rename_i hm
        cases e
        obtain ⟨vs, o, h1, h2⟩ := r.ob _ _ _ hm hl
        exact ⟨_, vs, rfl, .inr ⟨o, h1⟩, h2⟩
      · cases e
  · cases e
theorem DGet_rd {H : Hp} {a : Addr} {vs : List (Key × V)} {q : Key} (h : Rd H a (.dK vs)) : DGet H a (kV q) (valV vs q) := .inl ⟨vs, q, h, rfl, rfl⟩
end
section
variable {X : Cx} {C : CC} {W : WX} {a b c e o : Expr} {es : List Expr} {fa fb fc fe fo : FE} {fs : FA} {pos : Pos} {st : Stmt}
theorem te_din {σ : L2.St} {H : Hp} {Q : VK} (h : tE X.K C W (evOp2 dInD fa fb) σ H Q) : tDIn (tE X.K C W fa) (tE X.K C W fb) σ H Q := by
  obtain ⟨z, ρ, M, rm, re, h⟩ := h
  refine tE_of rm re h fun d M1 z1 H1 v r1 re1 x1 hd h1 => ?_
  refine tE_of r1 re1 h1 fun d2 M2 z2 H2 v2 r2 re2 x2 hd2 h2 => ?_
  obtain ⟨r, e, q⟩ := lift_wp h2
  unfold dInD at e
  split at e
  · rename_i k kvs e1 e2
    cases e
    obtain ⟨a, vs, rfl, h3, h4⟩ := dct_ok r2 hd2 e2
    have hk := keyOf_v (x2.rd _ _ hd) e1
    subst hk
    refine ⟨a, _, rfl, DGet_rd h3, ?_⟩
    have hs : (valV vs k).isSome = (kget kvs k).isSome := by
      cases ek : kget kvs k with
      | none => rw [(kget_ok h4).2 ek]; rfl
      | some d => obtain ⟨v, ev, _⟩ := (kget_ok h4).1 d ek; rw [ev]; rfl
    rw [hs]
    exact q.here r2 (.bl _)
  · cases e
theorem te_dnotin {σ : L2.St} {H : Hp} {Q : VK} (h : tE X.K C W (evOp2 dNotInD fa fb) σ H Q) : tDNotIn (tE X.K C W fa) (tE X.K C W fb) σ H Q := by
  obtain ⟨z, ρ, M, rm, re, h⟩ := h
  refine tE_of rm re h fun d M1 z1 H1 v r1 re1 x1 hd h1 => ?_
  refine tE_of r1 re1 h1 fun d2 M2 z2 H2 v2 r2 re2 x2 hd2 h2 => ?_
  obtain ⟨r, e, q⟩ := lift_wp h2
  unfold dNotInD at e
  split at e
  · rename_i k kvs e1 e2
    cases e
    obtain ⟨a, vs, rfl, h3, h4⟩ := dct_ok r2 hd2 e2
    have hk := keyOf_v (x2.rd _ _ hd) e1
    subst hk
    refine ⟨a, _, rfl, DGet_rd h3, ?_⟩
    have hs : (valV vs k).isSome = (kget kvs k).isSome := by
      cases ek : kget kvs k with
      | none => rw [(kget_ok h4).2 ek]; rfl
      | some d => obtain ⟨v, ev, _⟩ := (kget_ok h4).1 d ek; rw [ev]; rfl
    rw [hs]
    exact q.here r2 (.bl _)
  · cases e
theorem se_din (h : PE X e (tDIn (tE X.K C W fa) (tE X.K C W fb))) : SE X C W e (evOp2 dInD fa fb) := PE_imp h fun σ H Q h => te_din h
theorem se_dnotin (h : PE X e (tDNotIn (tE X.K C W fa) (tE X.K C W fb))) : SE X C W e (evOp2 dNotInD fa fb) := PE_imp h fun σ H Q h => te_dnotin h
theorem st_din (h : PT X e (tB (tDIn (tE X.K C W fa) (tE X.K C W fb)))) : ST X C W e (evOp2 dInD fa fb) := ⟨fun pins s σ H Q I hw => h.run pins s σ H Q I (te_din hw)⟩
theorem st_dnotin (h : PT X e (tB (tDNotIn (tE X.K C W fa) (tE X.K C W fb)))) : ST X C W e (evOp2 dNotInD fa fb) := ⟨fun pins s σ H Q I hw => h.run pins s σ H Q I (te_dnotin hw)⟩
theorem se_dget (h : PE X e (tDGet (tE X.K C W fa) (tE X.K C W fb))) : SE X C W e (evOp2 dGetD fa fb) := PE_imp h fun σ H Q ⟨z, ρ, M, rm, re, h⟩ => by
  refine tE_of rm re h fun d M1 z1 H1 v r1 re1 x1 hd h1 => ?_
  refine tE_of r1 re1 h1 fun d2 M2 z2 H2 v2 r2 re2 x2 hd2 h2 => ?_
  obtain ⟨r, e, q⟩ := lift_wp h2
  unfold dGetD at e
  split at e
  · rename_i k kvs e1 e2
    obtain ⟨a, vs, rfl, h3, h4⟩ := dct_ok r2 (x2.rd _ _ hd) e2
    have hk := keyOf_v hd2 e1
    subst hk
    obtain ⟨w, ew, hw⟩ := (kget_ok h4).1 _ e
    exact ⟨a, w, rfl, by rw [← ew]; exact DGet_rd h3, q.here r2 hw⟩
  · cases e
theorem rd_isD {H : Hp} {a : Addr} {vs : List (Key × V)} (h : Rd H a (.dK vs)) : IsD H a := .inl ⟨vs, h⟩
theorem se_dget2 (h : PE X e (tDGet2 (tE X.K C W fa) (tE X.K C W fb) (tE X.K C W fc))) : SE X C W e (evGet2 fa fb fc) := PE_imp h fun σ H Q ⟨z, ρ, M, rm, re, h⟩ => by
  refine tE_of rm re h fun d M1 z1 H1 v r1 re1 x1 hd h1 => ?_
  split at h1
  · rename_i hsome
    obtain ⟨kvs0, e0⟩ := Option.isSome_iff_exists.mp hsome
    obtain ⟨a, vs0, rfl, hrd, _⟩ := dct_ok r1 hd e0
    refine ⟨a, rfl, rd_isD hrd, ?_⟩
    refine tE_of r1 re1 h1 fun d2 M2 z2 H2 v2 r2 re2 x2 hd2 h2 => ?_
    refine tE_of r2 re2 h2 fun d3 M3 z3 H3 v3 r3 re3 x3 hd3 h3 => ?_
    split at h3
    · rename_i k kvs e1 e2
      obtain ⟨a', vs, ea, h4, h5⟩ := dct_ok r3 (x3.rd _ _ (x2.rd _ _ hd)) e2
      cases ea
      have hk := keyOf_v (x3.rd _ _ hd2) e1
      subst hk
      refine ⟨_, DGet_rd h4, ?_⟩
      have h3' : PQ X.K C z3 H3 Q ((kget kvs k).getD d3) M3 := h3
      cases ek : kget kvs k with
      | none =>
        rw [(kget_ok h5).2 ek]
        rw [ek] at h3'
        exact h3'.here r3 hd3
      | some d4 =>
        obtain ⟨v4, ev, hv⟩ := (kget_ok h5).1 d4 ek
        rw [ev]
        rw [ek] at h3'
        exact h3'.here r3 hv
    · exact h3.elim
  · exact h1.elim
/-- o[k] = e of a dict -/
theorem ss_dput (h : PS X st (sDPut (tE X.K C W fo) (tE X.K C W fb) (tE X.K C W fe))) : SS X C W st (sSetIx setKey fo fb fe) := PS_imp h fun D σ H ⟨z, ρ, M, rm, re, h⟩ => by
  refine tE_st rm re h fun d M1 z1 H1 v r1 re1 x1 hd h1 => ?_
  refine tE_st r1 re1 h1 fun d2 M2 z2 H2 v2 r2 re2 x2 hd2 h2 => ?_
  refine tE_st r2 re2 h2 fun d3 M3 z3 H3 v3 r3 re3 x3 hd3 h3 => ?_
  split at h3
  · rename_i M4 e
    unfold setKey at e
    split at e
    · rename_i l
      split at e
      · rename_i kvs q hm hk
        split at e
        · rename_i hlen
          cases e
          cases x3.rd _ _ hd2 with
          | @ref _ a hl =>
            obtain ⟨vs, e1, e2⟩ := r3.ob _ _ _ hm hl
            have hkv := keyOf_v hd3 hk
            subst hkv
            have xs := ext_set (o := .dK (putK vs q v)) r3 hl hm rfl
            have rs := rm_set (o := .dK (putK vs q v)) (m := .dct (kput kvs q d)) r3 hl hm ⟨_, upd_same, (kput_ok (x3.rd _ _ (x2.rd _ _ hd)) e2).all xs.rd⟩
            refine ⟨a, _, rfl, DPut.k e1 (by rw [← paired_length e2]; exact hlen), ?_⟩
            exact h3 z3 _ rs xs σ (xs.re re3)
        · cases e
      · cases e
    · cases e
  · exact h3.elim
/-- o[k] = e of a list -/
theorem ss_lput (h : PS X st (tAsg (tE X.K C W fe) (gSub (tE X.K C W fo) (tE X.K C W fb) rSetL))) : SS X C W st (sSetIx setAt fo fb fe) := PS_imp h fun D σ H ⟨z, ρ, M, rm, re, h⟩ => by
  refine tE_st rm re h fun d M1 z1 H1 v r1 re1 x1 hd h1 => ?_
  refine tE_st r1 re1 h1 fun d2 M2 z2 H2 v2 r2 re2 x2 hd2 h2 => ?_
  refine tE_st r2 re2 h2 fun d3 M3 z3 H3 v3 r3 re3 x3 hd3 h3 => ?_
  split at h3
  · rename_i M4 e
    unfold setAt at e
    split at e
    · rename_i l
      split at e
      · rename_i ds i hm
        split at e
        · rename_i hlen
          cases e
          cases hd3
          cases x3.rd _ _ hd2 with
          | @ref _ a hl =>
            obtain ⟨vs, e1, e2⟩ := r3.ob _ _ _ hm hl
            have xs := ext_set (o := .lst (vs.set i.toNat v)) r3 hl hm rfl
            have rs := rm_set (o := .lst (vs.set i.toNat v)) (m := .lst (ds.set i.toNat d)) r3 hl hm ⟨_, upd_same, ((e2.set i.toNat (x3.rd _ _ (x2.rd _ _ hd)))).all xs.rd⟩
            refine ⟨a, vs, i, i.toNat, rfl, rfl, e1, ?_, h3 z3 _ rs xs σ (xs.re re3)⟩
            unfold ixN
            rw [if_pos hlen.1, if_pos (by rw [← e2.length]; omega)]
        · cases e
      · cases e
    · cases e
  · exact h3.elim
/-- o.append(e) -/
theorem se_app (h : PE X e (tBM X.K "list" rAppend (tE X.K C W fo) (tCons (tE X.K C W fe) tNil))) : SE X C W e (evApp fo fe) := PE_imp h fun σ H Q ⟨z, ρ, M, rm, re, h⟩ => by
  refine tE_of rm re h fun d M1 z1 H1 v r1 re1 x1 hd h1 => ?_
  split at h1
  · rename_i hsome
    refine ⟨?_, tE_of r1 re1 h1 fun d2 M2 z2 H2 v2 r2 re2 x2 hd2 h2 => ?_⟩
    · obtain ⟨ds, e⟩ := Option.isSome_iff_exists.mp hsome
      unfold lstAt at e
      split at e
      · split at e
        · rename_i hm
          cases e
          cases hd with
          | ref hl =>
            obtain ⟨vs, e1, e2⟩ := r1.ob _ _ _ hm hl
            exact .inl ⟨rfl, _, SqL.of e1⟩
        · cases e
      · cases e
    · split at h2
      · rename_i M3 e
        unfold appAt at e
        split at e
        · split at e
          · rename_i l _ ds hm
            split at e
            · rename_i hlen
              cases e
              cases x2.rd _ _ hd with
              | @ref _ a hl =>
                obtain ⟨vs, e1, e2⟩ := r2.ob _ _ _ hm hl
                have xs := ext_set (o := .lst (vs ++ [v2])) r2 hl hm rfl
                have rs := rm_set (o := .lst (vs ++ [v2])) (m := .lst (ds ++ [d2])) r2 hl hm ⟨_, upd_same, (e2.append (.cons hd2 .nil)).all xs.rd⟩
                exact ⟨a, vs, v2, rfl, rfl, e1, by rw [← e2.length]; exact hlen, h2 z2 _ _ rs xs .non⟩
            · cases e
          · cases e
        · cases e
      · exact h2.elim
  · exact h1.elim
/-! ### fields -/
theorem lookup_zip {fl : List Str} {vs : List V} {i : Nat} {f : Str} {v : V} (nd : fl.Nodup) (hf : fl[i]? = some f) (hv : vs[i]? = some v) : (fl.zip vs).lookup f = some v := by
  induction fl generalizing vs i with
  | nil => simp at hf
  | cons g fl ih =>
    cases vs with
    | nil => simp at hv
    | cons w vs =>
      rw [List.zip_cons_cons, List.lookup_cons]
      cases i with
      | zero =>
        simp at hf hv
        subst hf hv
        simp
      | succ j =>
        simp at hf hv
        have hm := List.mem_of_getElem? hf
        have ne : (f == g) = false := by
          rw [beq_eq_false_iff_ne]
          intro e
          subst e
          exact (List.nodup_cons.mp nd).1 hm
        rw [ne]
        exact ih (List.nodup_cons.mp nd).2 hf hv
theorem lookup_zip_none {fl : List Str} {vs : List V} {f : Str} (hf : f ∉ fl) : (fl.zip vs).lookup f = none := by
  induction fl generalizing vs with
  | nil => rfl
  | cons g fl ih =>
    cases vs with
    | nil => rfl
    | cons w vs =>
      rw [List.zip_cons_cons, List.lookup_cons]
      have ne : (f == g) = false := by
        rw [beq_eq_false_iff_ne]
        intro e
        exact hf (e ▸ List.mem_cons_self)
      rw [ne]
      exact ih fun h => hf (List.mem_cons_of_mem _ h)
theorem putF_zip {fl : List Str} {vs : List V} {i : Nat} {f : Str} {v : V} (nd : fl.Nodup) (hf : fl[i]? = some f) : (i < vs.length → putF f v (fl.zip vs) = fl.zip (vs.set i v)) ∧ (i = vs.length → putF f v (fl.zip vs) = fl.zip (vs ++ [v])) := by
  induction fl generalizing vs i with
  | nil => simp at hf
  | cons g fl ih =>
    cases vs with
    | nil =>
      refine ⟨fun h => absurd h (Nat.not_lt_zero _), fun h => ?_⟩
      simp at h
      subst h
      simp at hf
      subst hf
      simp [putF]
    | cons w vs =>
      rw [List.zip_cons_cons]
      cases i with
      | zero =>
        simp at hf
        subst hf
        refine ⟨fun _ => ?_, fun h => by simp at h⟩
        show (if g = g then _ else _) = _
        rw [if_pos rfl]
        rfl
      | succ j =>
        simp at hf
        have hm := List.mem_of_getElem? hf
        have ne : ¬ g = f := by
          intro e
          subst e
          exact (List.nodup_cons.mp nd).1 hm
        obtain ⟨i1, i2⟩ := ih (vs := vs) (List.nodup_cons.mp nd).2 hf
        refine ⟨fun h => ?_, fun h => ?_⟩
        · show (if g = f then _ else _) = _
          rw [if_neg ne, i1 (by simpa using h)]
          rfl
        · show (if g = f then _ else _) = _
          rw [if_neg ne, i2 (by simpa using h)]
          rfl
theorem ins_ok {K : PySem.W.Frag} {z : Z} {M : Mem} {H : Hp} {d : D} {v : V} {c : Nat} {ds : List D} (r : RM K C.toCI z M H) (h : RD K z H d v) (e : insAt M c d = some ds) :
    ∃ l a dx vs, d = .ref l ∧ M[l]? = some (.ins c ds) ∧ z.i[l]? = some a ∧ v = .ref a ∧ H a = some (.ins (C.ca c) dx ((C.flds c).zip vs)) ∧ RDs K z H ds vs ∧ ds.length ≤ (C.flds c).length := by
  unfold insAt at e
  split at e
  · rename_i l
    cases h with
    | @ref _ a hl =>
      split at e
      · rename_i c' ds' hm
        split at e
        · rename_i hc
          subst hc
          cases e
          obtain ⟨dx, vs, h1, h2, h3⟩ := r.ob _ _ _ hm hl
          exact ⟨l, a, dx, vs, rfl, hm, hl, rfl, h1, h2, h3⟩
        · cases e
      · cases e
  · cases e
theorem se_fld {c i : Nat} {f : Str} (h : PE X e (tFld X.K (tE X.K C W fa) f)) (cl : Cls X.K (C.ca c)) (na : NoAttr X.K (C.ca c) f) (nd : (C.flds c).Nodup) (hf : (C.flds c)[i]? = some f) : SE X C W e (evFld c i fa) := PE_imp h fun σ H Q ⟨z, ρ, M, rm, re, h⟩ => by
  refine tE_of rm re h fun d M1 z1 H1 v r1 re1 x1 hd h1 => ?_
  split at h1
  · rename_i ds e
    obtain ⟨l, a, dx, vs, rfl, hm, hl, rfl, h2, h3, h4⟩ := ins_ok r1 hd e
    obtain ⟨w, e1, q⟩ := lift_wp h1
    obtain ⟨u, e2, hu⟩ := h3.get e1
    exact ⟨a, _, dx, _, u, rfl, h2, cl, na, lookup_zip nd hf e2, q.here r1 hu⟩
  · exact h1.elim
theorem ss_fld {c i : Nat} {f : Str} (h : PS X st (L2.sFld X.K (tE X.K C W fo) (tE X.K C W fe) f)) (cl : Cls X.K (C.ca c)) (na : NoAttr X.K (C.ca c) f) (nd : (C.flds c).Nodup) (hf : (C.flds c)[i]? = some f) (hn : (C.flds c).length < 1000) : SS X C W st (sPutF c i fo fe) := PS_imp h fun D σ H ⟨z, ρ, M, rm, re, h⟩ => by
  refine tE_st rm re h fun d M1 z1 H1 v r1 re1 x1 hd h1 => ?_
  refine tE_st r1 re1 h1 fun d2 M2 z2 H2 v2 r2 re2 x2 hd2 h2 => ?_
  split at h2
  · rename_i M3 e
    unfold setFld at e
    split at e
    · rename_i l
      split at e
      · rename_i c' ds hm
        split at e
        · rename_i hc
          subst hc
          cases hd2 with
          | @ref _ a hl =>
            obtain ⟨dx, vs, h3, h4, h5⟩ := r2.ob _ _ _ hm hl
            have hlen : ((C.flds c').zip vs).length < 1000 := by
              rw [List.length_zip]
              exact Nat.lt_of_le_of_lt (Nat.min_le_left _ _) hn
            refine ⟨a, _, dx, _, rfl, h3, cl, na, hlen, ?_⟩
            have hil : i < (C.flds c').length := (List.getElem?_eq_some_iff.mp hf).1
            split at e
            · rename_i hi
              cases e
              have xs := ext_set (o := .ins (C.ca c') dx (putF f v ((C.flds c').zip vs))) r2 hl hm rfl
              have rs := rm_set (o := .ins (C.ca c') dx (putF f v ((C.flds c').zip vs))) (m := .ins c' (ds.set i d)) r2 hl hm
                ⟨dx, vs.set i v, by rw [upd_same, (putF_zip nd hf).1 (by rw [← h4.length]; exact hi)], (h4.set i (x2.rd _ _ hd)).all xs.rd, by rw [List.length_set]; exact h5⟩
              exact h2 z2 _ rs xs σ (xs.re re2)
            · split at e
              · rename_i hi
                cases e
                have xs := ext_set (o := .ins (C.ca c') dx (putF f v ((C.flds c').zip vs))) r2 hl hm rfl
                have rs := rm_set (o := .ins (C.ca c') dx (putF f v ((C.flds c').zip vs))) (m := .ins c' (ds ++ [d])) r2 hl hm
                  ⟨dx, vs ++ [v], by rw [upd_same, (putF_zip nd hf).2 (by rw [← h4.length]; exact hi)], (h4.append (.cons (x2.rd _ _ hd) .nil)).all xs.rd, by rw [List.length_append]; simp; omega⟩
                exact h2 z2 _ rs xs σ (xs.re re2)
              · cases e
        · cases e
      · cases e
    · cases e
  · exact h2.elim
end
/-! ### what a def is worth -/
/-- the promise of a def whose meaning is g -/
def spOf (K : PySem.W.Frag) (C : CC) (np : Nat) (g : Fn) : Sp := fun vs H Q E => ∃ z M ds, RM K C.toCI z M H ∧ RDs K z H ds vs ∧ ds.length = np ∧ (g ds M).wp (PQ K C z H Q) (EX K C E z H)
theorem spOf_len {K : PySem.W.Frag} {C : CC} {np : Nat} {g : Fn} {vs : List V} {H : Hp} {Q : VK} {E : XK} (h : spOf K C np g vs H Q E) : vs.length = np := by
  obtain ⟨z, M, ds, _, hd, hl, _⟩ := h
  rw [← hd.length]
  exact hl
def Wd (E : XK) : WX := fun cls d _ H => E cls d H
theorem re_start {K : PySem.W.Frag} {z : Z} {H : Hp} {N : List Str} {ds : List D} {vs : List V} {nl : Nat} (hd : RDs K z H ds vs) (hN : N.length = ds.length + nl) : RE K z H (ds.map some ++ List.replicate nl none) (L2.start N vs) := by
  have hl := hd.length
  refine ⟨?_, fun i d h => ?_⟩
  · unfold L2.start
    simp
    omega
  · by_cases hi : i < ds.length
    · rw [List.getElem?_append_left (by simpa using hi), List.getElem?_map] at h
      obtain ⟨d', e1, e2⟩ := Option.map_eq_some_iff.mp h
      cases e2
      obtain ⟨v, e3, q⟩ := hd.get e1
      refine ⟨v, ?_, q⟩
      unfold L2.start
      rw [List.getElem?_append_left (by simp; omega), List.getElem?_map, e3]
      rfl
    · rw [List.getElem?_append_right (by simpa using hi)] at h
      rw [List.getElem?_replicate] at h
      split at h <;> cases h
/-- a body's meaning, from the promise -/
theorem body_read {K : PySem.W.Frag} {C : CC} {N : List Str} {np nl : Nat} {body : FS} {g : Fn} {vs : List V} {H : Hp} {Q : VK} {E : XK} (hN : N.length = np + nl) (hg : g = fnT np nl body ∨ g = fnK np nl body) (h : spOf K C np g vs H Q E) :
    tS K C (Wd E) body { nx := fun _ H' => Q .non H', rt := Q } (L2.start N vs) H := by
  obtain ⟨z, M, ds, rm, hd, hl, h⟩ := h
  refine ⟨z, _, M, rm, re_start hd (by rw [hN, hl]), ?_⟩
  rcases hg with rfl | rfl
  · unfold fnT at h
    rw [if_pos hl] at h
    cases e : body (ds.map some ++ List.replicate nl none) M with
    | bad => rw [e] at h; exact h.elim
    | exc c v m => rw [e] at h; exact h.elim
    | ok o M1 =>
      rw [e] at h
      have key : ∀ d, (tidyR M.length d M1).wp (PQ K C z H Q) (EX K C E z H) → ∀ z' H' v, RM K C.toCI z' M1 H' → Ext K z H z' H' → RD K z' H' d v → Q v H' := fun d h z' H' v r' x' hd' => by
        unfold tidyR at h
        split at h
        · rename_i d' hf
          split at h
          · rename_i hc
            obtain ⟨a1, a2, a3⟩ := tidy_ok rm r' x' hd' hf hc
            exact h _ H' v a1 a3 a2
          · exact h.elim
        · exact h.elim
      cases o with
      | nx ρ1 => exact fun z' H' r' x' σ' _ => key .non h z' H' .non r' x' .non
      | rt d => exact fun z' H' r' x' v hv => key d h z' H' v r' x' hv
      | bk ρ1 => exact h.elim
      | ct ρ1 => exact h.elim
      | ex ρ1 c d =>
        intro z' H' r' x' σ' cls dx re' hx
        obtain ⟨hcls, p, v, hp1, hp2, hv⟩ := hx
        have h : ((tidyR M.length d M1).bind fun d' M' => R.exc c d' M').wp (PQ K C z H Q) (EX K C E z H) := h
        unfold tidyR at h
        split at h
        · rename_i d' hf
          split at h
          · rename_i hc
            obtain ⟨a1, a2, a3⟩ := tidy_ok rm r' x' hv hf hc
            exact h _ H' cls dx a1 a3 ⟨hcls, p, v, hp1, hp2, a2⟩
          · exact h.elim
        · exact h.elim
  · unfold fnK at h
    rw [if_pos hl] at h
    cases e : body (ds.map some ++ List.replicate nl none) M with
    | bad => rw [e] at h; exact h.elim
    | exc c v m => rw [e] at h; exact h.elim
    | ok o M1 =>
      rw [e] at h
      cases o with
      | nx ρ1 => exact fun z' H' r' x' σ' _ => h z' H' .non r' x' .non
      | rt d => exact fun z' H' r' x' v hv => h z' H' v r' x' hv
      | bk ρ1 => exact h.elim
      | ct ρ1 => exact h.elim
      | ex ρ1 c d => exact fun z' H' r' x' σ' cls dx re' hx => h z' H' cls dx r' x' hx
theorem fn_ok {P : Program} {w : World} {K : PySem.W.Frag} {mg : Str → Option Value} {base : Heap} {C : CC} {x qual : Str} {pst : Stmt} {f : Addr} {fd : FuncData} {N ps : List Str} {k nl : Nat} {body : FS} {g : Fn} (F : Fun K x qual pst f fd) (S : FnScope N ps (defScope pst))
    (hN : N.length = ps.length + nl) (hb : ∀ (cdv : Value) (A : Around) (outer : List PySem.Env) (s : Shared) (H : Hp) (E : XK), Room k (A.deeper (PyProof.Rows.envOfC qual (defScope pst) s.heap.objs.size f cdv)) →
      SSs (cxOf (L2.CX P w) P w K mg base N qual (defScope pst) f cdv A outer s H E) C (Wd E) (defBody pst) body)
    (hg : g = fnT ps.length nl body ∨ g = fnK ps.length nl body) : FnOk P w K mg base (L2.CX P w) (k + 1) f fd ps (spOf K C ps.length g) := by
  exact F.okX S (fun vs H Q E h => spOf_len h) (fun cdv A outer s H vs Q E hr h => ⟨_, hb cdv A outer s H E hr, body_read hN hg h⟩)
end Nv
set_option maxRecDepth 100000
/-! NvCx: calls of defs, methods, properties, new instances, own ==, sorted, dict(..), isinstance, a dict walked. -/
namespace Nv
open PySem PySem.Spec L2
/-- what is known of a def that is called -/
structure Fd (P : Program) (w : World) (K : PySem.W.Frag) (mg : Str → Option Value) (base : Heap) (C : CC) (k : Nat) (f : Addr) (fd : FuncData) (ps : List Str) (g : Fn) : Prop where
  ok : FnOk P w K mg base (L2.CX P w) k f fd ps (spOf K C ps.length g)
  bd : Binds K fd ps []
  kp : PySem.W.keepIn K (.ref f) = true
section
variable {X : Cx} {C : CC} {W : WX} {a b c e o : Expr} {es : List Expr} {fa fb fc fe fo : FE} {fs : FA} {pos p apos : Pos} {st : Stmt} {k : Nat} {f : Addr} {fd : FuncData} {ps : List Str} {g : Fn} {x m : Str}
/-- the arguments' meaning, then the def's -/
theorem call_read {np : Nat} {σ : L2.St} {H : Hp} {Q : VK} (h : tE X.K C W (evCall g fs) σ H Q) (hl : LenA fs np) : tAs X.K C W fs σ H fun vs H1 => spOf X.K C np g vs H1 Q (atW W σ) := by
  obtain ⟨z, ρ, M, rm, re, h⟩ := h
  refine ⟨z, ρ, M, rm, re, R.wp_mono (wp_and (R.wp_bind.mp h) (hl ρ M)) (fun ds M1 ⟨q, hlen⟩ z1 H1 vs r1 x1 hds => ?_) fun c v m q => q⟩
  exact ⟨z1, M1, ds, r1, hds, hlen, R.wp_mono q (fun _ _ q => q.mono x1) fun _ _ _ q => q.mono x1⟩
theorem se_call (F : Fd X.prog X.w X.K X.mg X.base C k f fd ps g) (hr : Room k X.A) (tk : Takes X W) (hg : Gl X x) (hm : X.mg x = some (.ref f)) (ha : SA X C W (e :: es) fs) (hl : LenA fs ps.length)
    (hdb : (x == ("__debug__" : Str)) = false := by decide) (he : starEach (e :: es) X.env = (false, eval e X.env) :: starEach es X.env := by rfl) (hpl : (backTo pos (starEach es X.env)).any (·.1) = false := by rfl) :
    SE X C W (.Call (.Name x p) (e :: es) [] pos) (evCall g fs) := PE_imp (pe_callS F.ok hr hg hm F.kp F.bd (fun σ => passAt tk σ) ha hdb he hpl) fun σ H Q h => call_read h hl
/-- with keywords alone -/
def kArgs (K : PySem.W.Frag) (C : CC) (W : WX) (F : FA) : TA := tAs K C W F
theorem pe_callK0 {E : St → XK} {kws : List Keyword} {ks : List Str} {gg : List Value → List Value → List Value} {gV : List V → List V → List V} {tk : TA} {sp : Sp} {CX : CXT} (F : FnOk X.prog X.w X.K X.mg X.base CX k f fd ps sp) (hr : Room k X.A) (hg : Gl X x) (hm : X.mg x = some (.ref f)) (hk : PySem.W.keepIn X.K (.ref f) = true)
    (hb : KBinds X.K fd ps ks gg gV) (hx : ∀ σ, PassesAt CX X σ (E σ)) (hkw : PK X kws tk) (hall : (backToKw pos (keywordEach kws X.env)).all (·.1.isSome) = true := by rfl) (hks : (backToKw pos (keywordEach kws X.env)).filterMap (·.1) = ks := by rfl)
    (hdb : (x == ("__debug__" : Str)) = false := by decide) (hpl : ((backTo pos (starEach [] X.env)).any (·.1) || (backToKw pos (keywordEach kws X.env)).any (·.1.isNone)) = false := by rfl) :
    PE X (.Call (.Name x p) [] kws pos) (fun σ H Q => tk σ H fun zs H1 => sp (gV [] zs) H1 Q (E σ)) := by
  refine ⟨fun pins s σ H Q I h => wpAny_Call_Name_kw (ld_glob I hg hm ?_ hdb)⟩
  refine PySem.W.callWith_KW0 (first := []) (h₀ := X.base) I.ok.mod.kin hk hall (thn (hkw.run pos pins s σ H _ I h) fun ws s2 ⟨zs, H2, I2, rz, q2⟩ => ⟨I2.kIn, ?_⟩) hpl
  rw [hks]
  have r2 := hb.rel (vs := []) (us := []) .nil rz
  have hlen : (gg [] ws).length = ps.length := by rw [← r2.length]; exact F.len _ _ _ _ q2
  refine wpAny_call (codeAny_mono (F.run X.A X.stack s2 H2 ⟨[], ks.zip ws⟩ (gg [] ws) (gV [] zs) Q (E σ) hr I2.env0 (hb.to s2 [] ws I2.kIn hlen) r2 q2) fun r s' hq => ?_)
  cases r with
  | error e => exact hx σ pins H2 s2 e s' I2 hq
  | ok fl =>
    cases fl with
    | ret u => exact I2.after hq
    | next => exact hq.elim
    | brk => exact hq.elim
    | cont => exact hq.elim
def SK (X : Cx) (C : CC) (W : WX) (kws : List Keyword) (F : FA) : Prop := PK X kws (tAs X.K C W F)
theorem PK_imp {e : List Keyword} {t t' : TA} (h : PK X e t) (q : ∀ σ H Q, t' σ H Q → t σ H Q) : PK X e t' := ⟨fun pos pins s σ H Q I w => h.run pos pins s σ H Q I (q σ H Q w)⟩
theorem sk_nil : SK X C W [] evNil := PK_imp pk_nil fun σ H Q ⟨z, ρ, M, rm, re, h⟩ => h z H [] rm .refl .nil
theorem sk_cons {nm : Option Str} {kpos : Pos} {kws : List Keyword} (ha : SE X C W e fa) (hr : SK X C W kws fs) : SK X C W (⟨nm, e, kpos⟩ :: kws) (evCons fa fs) := PK_imp (pk_cons ha hr) fun σ H Q ⟨z, ρ, M, rm, re, h⟩ => by
  refine ⟨z, ρ, M, rm, re, R.wp_mono (R.wp_bind.mp h) (fun d M1 q z1 H1 v r1 x hd => ?_) fun c v m q => q⟩
  refine ⟨z1, ρ, M1, r1, x.re re, R.wp_mono (R.wp_bind.mp q) (fun ds M2 q2 z2 H2 vs r2 x2 hds => ?_) fun c v m q => q.mono x⟩
  exact q2 z2 H2 (v :: vs) r2 (x.trans x2) (.cons (x2.rd _ _ hd) hds)
/-- what the callee sees, the same of values and of data -/
structure Perm (pd : List D → List D) (gV : List V → List V → List V) (n m : Nat) : Prop where
  rd : ∀ {K : PySem.W.Frag} {z : Z} {H : Hp} {ds : List D} {vs : List V}, ds.length = n → RDs K z H ds vs → RDs K z H (pd ds) (gV [] vs)
  len : ∀ ds : List D, ds.length = n → (pd ds).length = m
theorem se_callK {kws : List Keyword} {ks : List Str} {gg : List Value → List Value → List Value} {gV : List V → List V → List V} {pd : List D → List D} {n : Nat} (F : Fd X.prog X.w X.K X.mg X.base C k f fd ps g) (hr : Room k X.A) (tk : Takes X W) (hg : Gl X x) (hm : X.mg x = some (.ref f))
    (hb : KBinds X.K fd ps ks gg gV) (hp : Perm pd gV n ps.length) (ha : SK X C W kws fs) (hl : LenA fs n) (hall : (backToKw pos (keywordEach kws X.env)).all (·.1.isSome) = true := by rfl) (hks : (backToKw pos (keywordEach kws X.env)).filterMap (·.1) = ks := by rfl)
    (hdb : (x == ("__debug__" : Str)) = false := by decide) (hpl : ((backTo pos (starEach [] X.env)).any (·.1) || (backToKw pos (keywordEach kws X.env)).any (·.1.isNone)) = false := by rfl) :
    SE X C W (.Call (.Name x p) [] kws pos) (evCallP g pd fs) := PE_imp (pe_callK0 F.ok hr hg hm F.kp hb (fun σ => passAt tk σ) ha hall hks hdb hpl) fun σ H Q ⟨z, ρ, M, rm, re, h⟩ => by
  refine ⟨z, ρ, M, rm, re, R.wp_mono (wp_and (R.wp_bind.mp h) (hl ρ M)) (fun ds M1 ⟨q, hlen⟩ z1 H1 vs r1 x1 hds => ?_) fun c v m q => q⟩
  exact ⟨z1, M1, pd ds, r1, hp.rd hlen hds, hp.len ds hlen, R.wp_mono q (fun _ _ q => q.mono x1) fun _ _ _ q => q.mono x1⟩
/-! ### methods -/
def tMethA (Ca : Addr) (m : Str) (sp : Sp) (E : St → XK) (ta : TE) (t : TA) : TE := fun σ H Q => ta σ H fun x H1 => ∃ a dx fs, x = .ref a ∧ H1 a = some (.ins Ca dx fs) ∧ fs.lookup m = none ∧ t σ H1 fun vs H2 => sp (x :: vs) H2 Q (E σ)
theorem meth_read {c np : Nat} (hnf : m ∉ C.flds c) {σ : L2.St} {H : Hp} {Q : VK} (hl : LenA fs np) (h : tE X.K C W (evMeth c g fo fs) σ H Q) : tMethA (C.ca c) m (spOf X.K C (np + 1) g) (atW W) (tE X.K C W fo) (tAs X.K C W fs) σ H Q := by
  obtain ⟨z, ρ, M, rm, re, h⟩ := h
  refine tE_of rm re h fun d M1 z1 H1 v r1 re1 x1 hd h1 => ?_
  split at h1
  · rename_i ds e
    obtain ⟨l, a, dx, vs, rfl, hm, hl', rfl, h2, h3, h4⟩ := ins_ok r1 hd e
    refine ⟨a, dx, _, rfl, h2, lookup_zip_none hnf, z1, ρ, M1, r1, re1, R.wp_mono (wp_and (R.wp_bind.mp h1) (hl ρ M1)) (fun ds M2 ⟨q, hlen⟩ z2 H2 vs2 r2 x2 hds => ?_) fun c v m q => q⟩
    exact ⟨z2, M2, .ref l :: ds, r2, .cons (x2.rd _ _ hd) hds, by rw [List.length_cons, hlen], R.wp_mono q (fun _ _ q => q.mono x2) fun _ _ _ q => q.mono x2⟩
  · exact h1.elim
theorem pe_methA {Ca : Addr} {sp : Sp} {E : St → XK} {CX : CXT} {ta : TE} {t : TA} {pl : Sem Bool} (he : PE X o ta) (cl : Cls X.K Ca) (hm : Meth X.K Ca m f) (F : FnOk X.prog X.w X.K X.mg X.base CX k f fd ps sp) (hr : Room k X.A) (hb : Binds X.K fd ps []) (hx : ∀ σ, PassesAt CX X σ (E σ)) (ha : PA X (e :: es) t)
    (hst : starEach (e :: es) X.env = (false, eval e X.env) :: starEach es X.env := by rfl) (hpl : (backTo pos (starEach es X.env)).any (·.1) = false := by rfl)
    (ht : eval (.Call (.Attribute o m apos) (e :: es) [] pos) X.env = (do
      let ov ← eval o X.env
      standAt apos.atName
      let (f, first) ← holding [ov] (getMethod ov m pl)
      callWith pos f first (backTo pos (starEach (e :: es) X.env)) (backToKw pos (keywordEach [] X.env))) := by rfl) :
    PE X (.Call (.Attribute o m apos) (e :: es) [] pos) (tMethA Ca m sp E ta t) := by
  refine ⟨fun pins s σ H Q I h => PySem.W.methodCall_KW (pl := pl) (thn (he.run pins s σ H _ I h) fun u s1 ⟨x, H1, I1, rx, a, dx, fs, ex, ea, l, q⟩ => ?_) ht⟩
  subst ex
  obtain rfl : u = Value.ref a := rx
  refine getmeth_ok I1 ea cl hm l (PySem.W.callWith_K (first := [.ref a]) (h₀ := X.base) I.ok.mod.kin hm.kp (thn (ha.run pos pins s1 σ H1 _ I1 q) fun us s2 ⟨vs, H2, I2, r, q2⟩ => ⟨I2.kIn, ?_⟩) hst hpl)
  exact run_fnS (us := .ref a :: us) (vs := .ref a :: vs) F hr hb (hx σ) I2 (.cons rfl r) q2
theorem pe_methA0 {Ca : Addr} {sp : Sp} {E : St → XK} {CX : CXT} {ta : TE} {pl : Sem Bool} (he : PE X o ta) (cl : Cls X.K Ca) (hm : Meth X.K Ca m f) (F : FnOk X.prog X.w X.K X.mg X.base CX k f fd ps sp) (hr : Room k X.A) (hb : Binds X.K fd ps []) (hx : ∀ σ, PassesAt CX X σ (E σ))
    (ht : eval (.Call (.Attribute o m apos) [] [] pos) X.env = (do
      let ov ← eval o X.env
      standAt apos.atName
      let (f, first) ← holding [ov] (getMethod ov m pl)
      callWith pos f first (backTo pos (starEach [] X.env)) (backToKw pos (keywordEach [] X.env))) := by rfl) :
    PE X (.Call (.Attribute o m apos) [] [] pos) (tMethA Ca m sp E ta tNil) := by
  refine ⟨fun pins s σ H Q I h => PySem.W.methodCall_KW (pl := pl) (thn (he.run pins s σ H _ I h) fun u s1 ⟨x, H1, I1, rx, a, dx, fs, ex, ea, l, q⟩ => ?_) ht⟩
  subst ex
  obtain rfl : u = Value.ref a := rx
  exact getmeth_ok I1 ea cl hm l (PySem.W.callWith_K0 (first := [.ref a]) I1.kIn hm.kp (run_fnS (us := [.ref a]) (vs := [.ref a]) F hr hb (hx σ) I1 (.cons rfl .nil) q))
/-- a method's facts -/
structure Md (P : Program) (w : World) (K : PySem.W.Frag) (mg : Str → Option Value) (base : Heap) (C : CC) (k : Nat) (c : Nat) (m : Str) (ps : List Str) (g : Fn) : Prop where
  cl : Cls K (C.ca c)
  nf : m ∉ C.flds c
  ex : ∃ f fd, Meth K (C.ca c) m f ∧ Fd P w K mg base C k f fd ps g
theorem se_meth {c n : Nat} {pl : Sem Bool} (D : Md X.prog X.w X.K X.mg X.base C k c m ps g) (hn : ps.length = n + 1) (hr : Room k X.A) (tk : Takes X W) (ho : SE X C W o fo) (ha : SA X C W (e :: es) fs) (hl : LenA fs n)
    (hst : starEach (e :: es) X.env = (false, eval e X.env) :: starEach es X.env := by rfl) (hpl : (backTo pos (starEach es X.env)).any (·.1) = false := by rfl)
    (ht : eval (.Call (.Attribute o m apos) (e :: es) [] pos) X.env = (do
      let ov ← eval o X.env
      standAt apos.atName
      let (f, first) ← holding [ov] (getMethod ov m pl)
      callWith pos f first (backTo pos (starEach (e :: es) X.env)) (backToKw pos (keywordEach [] X.env))) := by rfl) :
    SE X C W (.Call (.Attribute o m apos) (e :: es) [] pos) (evMeth c g fo fs) := by
  obtain ⟨f, fd, hm, F⟩ := D.ex
  refine PE_imp (pe_methA ho D.cl hm F.ok hr F.bd (fun σ => passAt tk σ) ha hst hpl ht) fun σ H Q h => ?_
  rw [hn]
  exact meth_read D.nf hl h
theorem se_meth0 {c : Nat} {pl : Sem Bool} (D : Md X.prog X.w X.K X.mg X.base C k c m ps g) (hn : ps.length = 1) (hr : Room k X.A) (tk : Takes X W) (ho : SE X C W o fo)
    (ht : eval (.Call (.Attribute o m apos) [] [] pos) X.env = (do
      let ov ← eval o X.env
      standAt apos.atName
      let (f, first) ← holding [ov] (getMethod ov m pl)
      callWith pos f first (backTo pos (starEach [] X.env)) (backToKw pos (keywordEach [] X.env))) := by rfl) :
    SE X C W (.Call (.Attribute o m apos) [] [] pos) (evMeth c g fo evNil) := by
  obtain ⟨f, fd, hm, F⟩ := D.ex
  refine PE_imp (pe_methA0 ho D.cl hm F.ok hr F.bd (fun σ => passAt tk σ) ht) fun σ H Q h => ?_
  rw [hn]
  have := meth_read (m := m) (X := X) (W := W) D.nf la_nil h
  obtain ⟨z, ρ, M, rm, re, q⟩ := this
  refine ⟨z, ρ, M, rm, re, R.wp_mono q (fun d M1 q z1 H1 v r1 x1 hd => ?_) fun c v m q => q⟩
  obtain ⟨a, dx, fs, e1, e2, e3, q⟩ := q z1 H1 v r1 x1 hd
  obtain ⟨z2, ρ2, M2, rm2, re2, q⟩ := q
  exact ⟨a, dx, fs, e1, e2, e3, q z2 H1 [] rm2 .refl .nil⟩
/-- a property: what it gives, raising nothing -/
structure Pr (P : Program) (w : World) (K : PySem.W.Frag) (mg : Str → Option Value) (base : Heap) (C : CC) (k : Nat) (c : Nat) (m : Str) (ps : List Str) (g : Fn) : Prop where
  cl : Cls K (C.ca c)
  ex : ∃ p f fd, PropOf K (C.ca c) m p f ∧ Fd P w K mg base C k f fd ps g
theorem se_prop {c : Nat} (D : Pr X.prog X.w X.K X.mg X.base C k c m ps g) (hn : ps.length = 1) (hr : Room (k + 1) X.A) (ho : SE X C W o fo) (hab : attributeBase o m X.env (eval o X.env) = eval o X.env := by rfl) : SE X C W (.Attribute o m pos) (evProp c g fo) := by
  obtain ⟨p, f, fd, hp, F⟩ := D.ex
  refine PE_imp (pe_prop ho D.cl hp F.ok hr F.bd .nil passL hab) fun σ H Q ⟨z, ρ, M, rm, re, h⟩ => ?_
  refine tE_of rm re h fun d M1 z1 H1 v r1 re1 x1 hd h1 => ?_
  split at h1
  · rename_i ds e
    obtain ⟨l, a, dx, vs, rfl, hm, hl', rfl, h2, h3, h4⟩ := ins_ok r1 hd e
    refine ⟨a, dx, _, rfl, h2, z1, M1, [.ref l], r1, .cons hd .nil, by rw [hn]; rfl, ?_⟩
    cases e2 : g [.ref l] M1 with
    | ok d M2 => rw [e2] at h1; exact h1
    | exc c v m => rw [e2] at h1; exact h1.elim
    | bad => rw [e2] at h1; exact h1.elim
  · exact h1.elim
/-! ### new instances -/
structure Mks (P : Program) (w : World) (K : PySem.W.Frag) (mg : Str → Option Value) (base : Heap) (C : CC) (k : Nat) (c : Nat) (x : Str) (ps : List Str) (g : Fn) : Prop where
  gl : mg x = some (.ref (C.ca c))
  ex : ∃ f fd, Mk K (C.ca c) f ∧ Fd P w K mg base C k f fd ps g
/-- its __init__ raises nothing here -/
theorem se_make {c n : Nat} (D : Mks X.prog X.w X.K X.mg X.base C k c x ps g) (hn : ps.length = n + 1) (hr : Room (k + 1) X.A) (hg : Gl X x) (ha : SA X C W (e :: es) fs) (hl : LenA fs n)
    (hdb : (x == ("__debug__" : Str)) = false := by decide) (he : starEach (e :: es) X.env = (false, eval e X.env) :: starEach es X.env := by rfl) (hpl : (backTo pos (starEach es X.env)).any (·.1) = false := by rfl) :
    SE X C W (.Call (.Name x p) (e :: es) [] pos) (evMakeQ c g fs) := by
  obtain ⟨f, fd, hm, F⟩ := D.ex
  refine PE_imp (pe_make hm F.ok hr hg D.gl F.bd .nil passL ha hdb he hpl) fun σ H Q ⟨z, ρ, M, rm, re, h⟩ => ?_
  refine ⟨z, ρ, M, rm, re, R.wp_mono (wp_and (R.wp_bind.mp h) (hl ρ M)) (fun ds M1 ⟨q, hlen⟩ z1 H1 vs r1 x1 hds => ?_) fun c v m q => q⟩
  intro xx dx nx ndx nex
  obtain ⟨xe1, r2⟩ := ext_upd (o := .own xx) r1 ndx
  have nx2 : upd H1 dx (.own xx) xx = none := by rw [upd_ne (fun e => nex e.symm)]; exact nx
  obtain ⟨xe2, r3⟩ := ext_new (o := .ins (C.ca c) dx []) (m := .ins c []) r2 nx2 ⟨dx, [], by rw [upd_same]; cases (C.flds c) <;> rfl, .nil, Nat.zero_le _⟩
  have xe := xe1.trans xe2
  have hself : RD X.K { z1 with i := z1.i ++ [xx] } (upd (upd H1 dx (.own xx)) xx (.ins (C.ca c) dx [])) (.ref M1.length) (.ref xx) := .ref (by rw [← r1.len]; exact List.getElem?_concat_length)
  refine ⟨_, M1 ++ [.ins c []], .ref M1.length :: ds, r3, .cons hself (by rw [List.append_nil]; exact hds.all xe.rd), by rw [List.length_cons, hlen, hn], ?_⟩
  cases e2 : g (.ref M1.length :: ds) (M1 ++ [.ins c []]) with
  | ok d M2 =>
    rw [e2] at q
    cases d with
    | non =>
      intro z' H' v' r' x' hd'
      cases hd'
      exact ⟨rfl, q z' H' _ r' (x1.trans (xe.trans x')) (x'.rd _ _ hself)⟩
    | bl b => exact q.elim
    | int b => exact q.elim
    | str b => exact q.elim
    | tup b => exact q.elim
    | wtup b => exact q.elim
    | lst b => exact q.elim
    | scr b => exact q.elim
    | ref b => exact q.elim
  | exc c v m => rw [e2] at q; exact q.elim
  | bad => rw [e2] at q; exact q.elim
end
end Nv
set_option maxRecDepth 100000
/-! NvCy: own ==, a dict walked, sorted, dict(..), isinstance. -/
namespace Nv
open PySem PySem.Spec L2
section
variable {X : Cx} {C : CC} {W : WX} {a b c e o : Expr} {es : List Expr} {fa fb fc fe fo : FE} {fs : FA} {pos p apos : Pos} {st : Stmt} {k : Nat} {f : Addr} {fd : FuncData} {ps : List Str} {g : Fn} {x m : Str}
/-! ### own == -/
theorem op_own {Ca : Addr} {sp : Sp} {CX : CXT} (F : FnOk X.prog X.w X.K X.mg X.base CX k f fd ps sp) (hr : Room k X.A) (hs : PySem.W.findIn X.K (.ref Ca) "__eq__" = some (some (.ref f))) (hf : PySem.W.isFn X.K (.ref f) = true) (hb : Binds X.K fd ps []) (hx : Passes CX X E0) :
    OpR X (compareOp .Eq) (fun x y H Q => ∃ a b dx dy fs gs, x = .ref a ∧ y = .ref b ∧ H a = some (.ins Ca dx fs) ∧ H b = some (.ins Ca dy gs) ∧ sp [x, y] H (fun v H' => ∃ k, v = .bl k ∧ Q v H') E0) := by
  intro pins s σ H x y v u Q I rx ry ⟨a, b, dx, dy, fs, gs, e1, e2, ha, hb', hsp⟩
  subst e1 e2
  cases rx
  cases ry
  obtain ⟨mA, JA, _⟩ := ins_get I.hok ha
  obtain ⟨mB, JB, _⟩ := ins_get I.hok hb'
  obtain ⟨oa, JA, _⟩ := JA.look
  obtain ⟨ob, JB, _⟩ := JB.look
  obtain ⟨m, hF⟩ := I.fr
  show wpAny (model X.prog X.w) X.A (richCompare .Eq (.ref a) (.ref b)) (EP X pins σ Q) X.xe s
  refine PySem.W.cmp_K (op := .Eq) (tb := .ref Ca) hr.units0 hF I.ok.mod.kin JA JB.type (by simp [PySem.W.notFirst]) hs hf ?_
  have r2 : Vals [V.ref a, V.ref b] [Value.ref a, Value.ref b] := .cons rfl (.cons rfl .nil)
  have hlen : ([Value.ref a, Value.ref b] : List Value).length = ps.length := F.len _ _ _ _ hsp
  have hbb := hb s [.ref a, .ref b] I.kIn (by rw [List.append_nil]; exact hlen)
  rw [List.append_nil] at hbb
  refine wpAny_call (codeAny_mono (F.run X.A X.stack s H ⟨[.ref a, .ref b], []⟩ [.ref a, .ref b] [.ref a, .ref b] _ E0 hr I.env0 hbb r2 hsp) fun r s' hq => ?_)
  cases r with
  | error er => exact hx pins σ H s er s' I hq
  | ok fl =>
    cases fl with
    | ret w =>
      obtain ⟨z, H', I', rz, k, ez, q⟩ := I.after hq
      subst ez
      cases rz
      exact ⟨.bl k, H', I', rfl, q⟩
    | next => exact hq.elim
    | brk => exact hq.elim
    | cont => exact hq.elim
structure Qd (P : Program) (w : World) (K : PySem.W.Frag) (mg : Str → Option Value) (base : Heap) (C : CC) (k : Nat) (c : Nat) (ps : List Str) (g : Fn) : Prop where
  ex : ∃ f fd, PySem.W.findIn K (.ref (C.ca c)) "__eq__" = some (some (.ref f)) ∧ PySem.W.isFn K (.ref f) = true ∧ Fd P w K mg base C k f fd ps g
theorem se_ownEq {c : Nat} (D : Qd X.prog X.w X.K X.mg X.base C k c ps g) (hn : ps.length = 2) (hr : Room k X.A) (ha : SE X C W a fa) (hb : SE X C W b fb) (hm : behindInMarks .Eq b = false) : SE X C W (.Compare a [.Eq] [b] pos) (evOwnEq c g fa fb) := by
  obtain ⟨f, fd, h1, h2, F⟩ := D.ex
  refine PE_imp (pe_cmpR (op_own F.ok hr h1 h2 F.bd passL) ha hb hm) fun σ H Q ⟨z, ρ, M, rm, re, h⟩ => ?_
  refine tE_of rm re h fun d M1 z1 H1 v r1 re1 x1 hd h1 => ?_
  refine tE_of r1 re1 h1 fun d2 M2 z2 H2 v2 r2 re2 x2 hd2 h2 => ?_
  split at h2
  · rename_i ds1 ds2 e1 e2
    obtain ⟨l, a', dx, vs, rfl, hm, hl', rfl, h3, h4, h5⟩ := ins_ok r2 (x2.rd _ _ hd) e1
    obtain ⟨l2, a2, dx2, vs2, rfl, hm2, hl2, rfl, h6, h7, h8⟩ := ins_ok r2 hd2 e2
    refine ⟨a', a2, dx, dx2, _, _, rfl, rfl, h3, h6, z2, M2, [.ref l, .ref l2], r2, .cons (x2.rd _ _ hd) (.cons hd2 .nil), by rw [hn]; rfl, ?_⟩
    cases e3 : g [.ref l, .ref l2] M2 with
    | ok d M3 =>
      rw [e3] at h2
      intro z' H' v' r' x' hd'
      dsimp only at h2
      split at h2
      · rename_i k ek
        cases asBool_some ek
        cases hd'
        exact ⟨k, rfl, h2 z' H' _ r' x' (.bl _)⟩
      · exact h2.elim
    | exc c v m => rw [e3] at h2; exact h2.elim
    | bad => rw [e3] at h2; exact h2.elim
  · exact h2.elim
/-! ### sorted -/
theorem insI_perm (x : Int) : ∀ l : List Int, (insI x l).Perm (x :: l)
  | [] => .refl _
  | y :: r => by
    unfold insI
    split
    · exact .refl _
    · exact ((insI_perm x r).cons y).trans (.swap x y r)
theorem sortI_perm : ∀ l : List Int, (sortI l).Perm l
  | [] => .refl _
  | x :: r => (insI_perm x (sortI r)).trans ((sortI_perm r).cons x)
theorem insI_sorted (x : Int) : ∀ {l : List Int}, l.Pairwise (· ≤ ·) → (insI x l).Pairwise (· ≤ ·)
  | [], _ => by simp [insI]
  | y :: r, h => by
    unfold insI
    have h' := List.pairwise_cons.mp h
    split
    · rename_i hxy
      refine List.pairwise_cons.mpr ⟨fun z hz => ?_, h⟩
      rcases List.mem_cons.mp hz with e | hz
      · subst e; exact hxy
      · exact Int.le_trans hxy (h'.1 z hz)
    · rename_i hxy
      refine List.pairwise_cons.mpr ⟨fun z hz => ?_, insI_sorted x h'.2⟩
      rcases List.mem_cons.mp ((insI_perm x r).mem_iff.mp hz) with e | hz
      · subst e; omega
      · exact h'.1 z hz
theorem sortI_sorted : ∀ l : List Int, (sortI l).Pairwise (· ≤ ·)
  | [] => .nil
  | x :: r => insI_sorted x (sortI_sorted r)
theorem sorted_unique : ∀ {l m : List Int}, l.Perm m → l.Pairwise (· ≤ ·) → m.Pairwise (· ≤ ·) → l = m
  | [], m, p, _, _ => (List.nil_perm.mp p).symm
  | x :: l, m, p, hl, hm => by
    cases m with
    | nil => exact absurd (List.perm_nil.mp p) (by simp)
    | cons y m =>
      have hl' := List.pairwise_cons.mp hl
      have hm' := List.pairwise_cons.mp hm
      have hx : x ∈ y :: m := p.mem_iff.mp List.mem_cons_self
      have hy : y ∈ x :: l := p.mem_iff.mpr List.mem_cons_self
      have e : x = y := by
        have h1 : y ≤ x := by
          rcases List.mem_cons.mp hx with e | h
          · omega
          · exact hm'.1 x h
        have h2 : x ≤ y := by
          rcases List.mem_cons.mp hy with e | h
          · omega
          · exact hl'.1 y h
        omega
      subst e
      rw [sorted_unique (List.perm_cons x |>.mp p) hl'.2 hm'.2]
def rSortU (K : PySem.W.Frag) : List V → Hp → VK → Prop := fun xs H Q => rSortedI K xs H Q ∨ ∃ (a : Addr) (kvs : List (Key × V)) (ks : List Int), xs = [.ref a] ∧ Rd H a (.dK kvs) ∧ kvs.map (·.1) = ks.map Sum.inl ∧ ks.length < 64 ∧
    ∀ (ys : List Int) (p : Addr), ys.Perm ks → ys.Pairwise (· ≤ ·) → H p = none → Q (.ref p) (upd H p (.lst (ys.map V.int)))
theorem call_sortU (hc : X.calm = true) : CallR X (.builtin "sorted") (rSortU X.K) := CallR_or cr_sortedI (call_sortedDI hc)
theorem keyInts_ok : ∀ {kvs : List (Key × D)} {ns : List Int}, keyInts kvs = some ns → kvs.map (·.1) = ns.map Sum.inl
  | [], ns, h => by cases h; rfl
  | (.inl i, d) :: r, ns, h => by
    have h' : ((keyInts r).map fun ns => i :: ns) = some ns := h
    rw [Option.map_eq_some_iff] at h'
    obtain ⟨ms, e1, e2⟩ := h'
    subst e2
    rw [List.map_cons, List.map_cons, keyInts_ok e1]
  | (.inr x, d) :: r, ns, h => by cases h
theorem keys_same {K : PySem.W.Frag} {z : Z} {H : Hp} : ∀ {kvs : List (Key × D)} {vs : List (Key × V)}, RKs K z H kvs vs → kvs.map (·.1) = vs.map (·.1) := by
  intro kvs vs r
  unfold RKs at r
  induction r with
  | nil => rfl
  | cons h t ih => rw [List.map_cons, List.map_cons, ih, h.1]
theorem bs_sorted {K : PySem.W.Frag} : BS K C bSorted (rSortU K) := by
  intro z M H xs ds d Q r h e q
  unfold bSorted at e
  split at e
  · rw [Option.map_eq_some_iff] at e
    obtain ⟨ns, e1, e2⟩ := e
    subst e2
    obtain ⟨v, rfl, h'⟩ := one_arg h
    cases h' with
    | lst h1 _ _ h2 =>
      rw [ints_ok h2 e1] at h1
      refine .inl ⟨_, ns, rfl, .inl (.inl h1), fun ns' p hp hs hf => ?_⟩
      have := sorted_unique (hp.trans (sortI_perm ns).symm) hs (sortI_sorted ns)
      subst this
      exact q.lst r (RDs.ints _) p hf
  · obtain ⟨v, rfl, h'⟩ := one_arg h
    split at e
    · rename_i l _ kvs hm
      rw [Option.bind_eq_some_iff] at e
      obtain ⟨ns, e1, e2⟩ := e
      split at e2
      · rename_i hlt
        cases e2
        cases h' with
        | ref hl =>
          obtain ⟨vs, h1, h2⟩ := r.ob _ _ _ hm hl
          refine .inr ⟨_, vs, ns, rfl, .inl h1, by rw [← keys_same h2, keyInts_ok e1], hlt, fun ns' p hp hs hf => ?_⟩
          have := sorted_unique (hp.trans (sortI_perm ns).symm) hs (sortI_sorted ns)
          subst this
          exact q.lst r (RDs.ints _) p hf
      · cases e2
    · cases e
  · cases e
/-! ### isinstance -/
theorem o1_isI {T : String} {K : PySem.W.Frag} (hT : ∀ t ∈ ["NoneType", "bool", "int", "str", "tuple", "list", "dict"], kitB t T = some (if T = "int" ∧ t = "bool" then true else decide (t = T))) {z : Z} {M : Mem} {H : Hp} {v : V} {d : D} {b : Bool} (r : RM K C.toCI z M H) (h : RD K z H d v) (e : bIsI T M d = some b) :
    ∃ t, TyX K H v t ∧ PySem.W.kitOne K t (.type T) = some b := by
  have key : ∀ (t : String) (b : Bool), t ∈ ["NoneType", "bool", "int", "str", "tuple", "list", "dict"] → b = (if T = "int" ∧ t = "bool" then true else decide (t = T)) → PySem.W.kitOne K (.type t) (.type T) = some b := fun t b hm hb => kit_ty (by rw [hT t hm, hb])
  unfold bIsI at e
  split at e
  · cases e; cases h
    exact ⟨_, .base .non, key "NoneType" _ (by decide) (by simp [eq_comm])⟩
  · cases e; cases h
    refine ⟨_, .base (.bl _), key "bool" _ (by decide) ?_⟩
    by_cases e : T = "int"
    · simp [e]
    · simp [e, eq_comm]
  · cases e; cases h
    exact ⟨_, .base (.int _), key "int" _ (by decide) (by simp [eq_comm])⟩
  · cases e; cases h
    exact ⟨_, .base (.str _), key "str" _ (by decide) (by simp [eq_comm])⟩
  · cases e
    cases h with
    | tup h1 h2 =>
      have hk : PySem.W.kitOne K (.type "tuple") (.type T) = some (decide (T = "tuple")) := key "tuple" _ (by decide) (by simp [eq_comm])
      rcases h1.sq with (h1 | ⟨o, h1⟩) | ⟨o, its, n, h1, h3, _⟩
      · exact ⟨_, .base (.tup h1), hk⟩
      · exact ⟨_, .fTuple h1, hk⟩
      · exact ⟨_, .kTuple h1 h3, hk⟩
  · cases e
    cases h with
    | wtup h1 h2 =>
      have hk : PySem.W.kitOne K (.type "tuple") (.type T) = some (decide (T = "tuple")) := key "tuple" _ (by decide) (by simp [eq_comm])
      rcases h1 with (h1 | ⟨o, h1⟩) | ⟨o, its, n, h1, h3, _⟩
      · exact ⟨_, .base (.tup h1), hk⟩
      · exact ⟨_, .fTuple h1, hk⟩
      · exact ⟨_, .kTuple h1 h3, hk⟩
  · cases e
    cases h with
    | lst h1 _ _ h2 => exact ⟨_, .base (.lst h1), key "list" _ (by decide) (by simp [eq_comm])⟩
  · cases e
    cases h with
    | scr h1 h2 =>
      rcases h1 with ⟨o, h1⟩ | ⟨o, its, n, h1, h3, _⟩
      · exact ⟨_, .base (.frz h1), key "list" _ (by decide) (by simp [eq_comm])⟩
      · exact ⟨_, .kList h1 h3, key "list" _ (by decide) (by simp [eq_comm])⟩
  · cases h with
    | ref hl =>
      split at e
      · rename_i hm
        cases e
        obtain ⟨vs, h1, h2⟩ := r.ob _ _ _ hm hl
        exact ⟨_, .base (.lst h1), key "list" _ (by decide) (by simp [eq_comm])⟩
      · rename_i hm
        cases e
        obtain ⟨vs, h1, h2⟩ := r.ob _ _ _ hm hl
        exact ⟨_, .base (.dK h1), key "dict" _ (by decide) (by simp [eq_comm])⟩
      · cases e
theorem se_isI {T : String} (hT : ∀ t ∈ ["NoneType", "bool", "int", "str", "tuple", "list", "dict"], kitB t T = some (if T = "int" ∧ t = "bool" then true else decide (t = T))) (h : PE X e (tCB (rIsi X.K) (tCons (tE X.K C W fa) (tCons (tC (.ty T)) tNil)))) : SE X C W e (evIsI T fa) := PE_imp h fun σ H Q ⟨z, ρ, M, rm, re, h⟩ => by
  refine tE_of rm re h fun d M1 z1 H1 v r1 re1 x1 hd h1 => ?_
  obtain ⟨r, e, q⟩ := lift_wp h1
  rw [Option.map_eq_some_iff] at e
  obtain ⟨b, e1, e2⟩ := e
  subst e2
  obtain ⟨t, h2, h3⟩ := o1_isI hT r1 hd e1
  exact ⟨v, .ty T, t, .type T, b, rfl, .ty T, h2, h3, q.here r1 (.bl b)⟩
structure Ic (K : PySem.W.Frag) (C : CC) (c : Nat) : Prop where
  cl : Cls K (C.ca c)
  ha : PySem.W.findIn K (.ref (C.ca c)) "__class__" = some (some (.builtin "object.__class__"))
  hn : PySem.W.specialIn K (.builtin "object.__class__") "__get__" = some (some (.builtin "getset_descriptor.__get__"))
  ht : PySem.W.takesIn K (.builtin "object.__class__") = some true
  hm : PySem.W.mroIn K (C.ca c) (.type "object") = some true
theorem se_isC {c : Nat} (D : Ic X.K C c) (h : PE X e (tCB (rIsi X.K) (tCons (tE X.K C W fa) (tCons (tC (.ref (C.ca c))) tNil)))) : SE X C W e (evIsC c fa) := PE_imp h fun σ H Q ⟨z, ρ, M, rm, re, h⟩ => by
  refine tE_of rm re h fun d M1 z1 H1 v r1 re1 x1 hd h1 => ?_
  obtain ⟨r, e, q⟩ := lift_wp h1
  dsimp only at e
  split at e
  · split at e
    · rename_i l _ c' ds hm
      split at e
      · rename_i hc
        subst hc
        cases e
        cases hd with
        | ref hl =>
          obtain ⟨dx, vs, h2, h3, h4⟩ := r1.ob _ _ _ hm hl
          exact ⟨_, _, .ref (C.ca c'), .ref (C.ca c'), true, rfl, .own _, .base (.ins h2 D.cl D.ha D.hn D.ht D.hm), by simp [PySem.W.kitOne], q.here r1 (.bl _)⟩
      · cases e
    · cases e
  · cases e
/-! ### a dict that is walked -/
theorem se_lock {i : Nat} (h : SE X C W e fe) : SE X C W e (evLock i fe) := PE_imp (pe_lock h) fun σ H Q ⟨z, ρ, M, rm, re, h⟩ => by
  unfold evLock at h
  split at h
  · rename_i l hl
    split at h
    · rename_i kvs hk
      unfold lockAt at hk
      split at hk
      · rename_i hm
        cases hk
        obtain ⟨v, hv, hd⟩ := re.at_ i _ hl
        cases hd with
        | @ref _ a ha =>
          obtain ⟨vs, h1, h2⟩ := rm.ob _ _ _ hm ha
          refine ⟨a, .dK vs, h1, trivial, fun od => ?_⟩
          have xs := ext_set (o := .frz od (.dK vs)) rm ha hm rfl
          have rs := rm_set (o := .frz od (.dK vs)) (m := .fdct kvs) rm ha hm ⟨vs, od, upd_same, h2.all xs.rd⟩
          refine ⟨z, ρ, M.set l (.fdct kvs), rs, xs.re re, R.wp_mono (R.wp_bind.mp h) (fun d M1 q z1 H1 w r1 x1 hd1 => ?_) fun c v m q => q.mono xs⟩
          have hfz : H1 a = some (.frz od (.dK vs)) := x1.fz _ _ _ upd_same
          refine ⟨hfz, ?_⟩
          split at q
          · rename_i kvs' hm1
            have ha1 : z1.i[l]? = some a := by
              cases x1.rd _ _ (RD.ref (K := X.K) (H := upd H a (.frz od (.dK vs))) ha) with
              | ref h => exact h
            obtain ⟨vs', o', e1, e2⟩ := r1.ob _ _ _ hm1 ha1
            rw [hfz] at e1
            cases e1
            obtain ⟨s1, s2⟩ := rd_set (o := .dK vs) r1 ha1 hm1
            have r2 := rm_set (o := .dK vs) (m := .dct kvs') r1 ha1 hm1 ⟨vs, upd_same, e2.all s1⟩
            refine q z1 _ w r2 ⟨x1.b.trans xs.b, fun d v hh => s1 _ _ (x1.rd _ _ (xs.rd _ _ hh)), fun b hb => ?_, fun b o u hh => ?_⟩ (s1 _ _ hd1)
            · exact (s2 b (by rw [x1.b]; exact hb)).trans ((x1.ls b hb).trans (xs.ls b hb))
            · have hb : b ≠ a := fun q => by
                subst q
                rw [h1] at hh
                cases hh
              rw [upd_ne hb]
              exact x1.fz _ _ _ (xs.fz _ _ _ hh)
          · exact q.elim
      · cases hk
    · exact h.elim
  · exact h.elim
end
end Nv
set_option maxRecDepth 100000
/-! NvDi: dict(..) of pairs; comprehensions as expressions and statements. -/
namespace Nv
open PySem PySem.Spec L2
section
variable {X : Cx} {C : CC} {W : WX} {a b c e o tg tg1 iter iter1 : Expr} {es : List Expr} {fa fb fc fc1 fe fo : FE} {fs : FA} {pos p apos : Pos} {st : Stmt}
theorem pairs_at {pins : List (Addr × Obj)} {σ : L2.St} {H : Hp} {s : Shared} (I : L2.Inv X pins σ H s) : ∀ {ps : List Addr} {kvs : List (Key × V)}, Paired (fun p kv => SqT X.K H p [kV kv.1, kv.2]) ps kvs →
    ∃ (pv : List (Value × Value)) (prs : List (Key × Value)), KV kvs prs ∧ pv.length = ps.length ∧ prs.length = ps.length ∧ ∀ (j : Nat) (u v : Value), pv[j]? = some (u, v) → ∃ (b : Addr) (k : Key), ps[j]? = some b ∧ prs[j]? = some (k, v) ∧ s.heap.IsTuple b #[u, v] ∧ keyIs k u = true
  | _, _, .nil => ⟨[], [], .nil, rfl, rfl, fun j u v e => by simp at e⟩
  | _, _, .cons (a := q) (b := kv) h t => by
    obtain ⟨pv, prs, r, l1, l2, hp⟩ := pairs_at I t
    obtain ⟨its, rv, ht, _⟩ := I.tuple h
    obtain ⟨u, y, ei, ru, ry⟩ := vals2 rv
    subst ei
    refine ⟨(u, y) :: pv, (kv.1, y) :: prs, .cons ⟨rfl, ry⟩ r, by rw [List.length_cons, List.length_cons, l1], by rw [List.length_cons, List.length_cons, l2], fun j u' v' e => ?_⟩
    cases j with
    | zero =>
      have e' : (u, y) = (u', v') := Option.some.inj e
      cases e'
      exact ⟨q, kv.1, rfl, rfl, ht, kV_is (P := X.prog) (w := X.w) ru⟩
    | succ j =>
      obtain ⟨b, k, e1, e2, e3, e4⟩ := hp j u' v' (by simpa using e)
      exact ⟨b, k, by simpa using e1, by simpa using e2, e3, e4⟩
theorem call_dictT (hcalm : X.calm = true) : CallR X (.type "dict") (fun xs H Q => ∃ (a : Addr) (ps : List Addr) (kvs : List (Key × V)), xs = [.ref a] ∧ TpA X.K H a (ps.map V.ref) ∧ Paired (fun p kv => SqT X.K H p [kV kv.1, kv.2]) ps kvs ∧
    ∀ p, H p = none → Q (.ref p) (upd H p (.dK (mergeK [] kvs)))) := by
  intro pins s σ H xs us Q I r ⟨a, ps, kvs, ex, hq, hp, q⟩
  subst ex
  obtain ⟨u, eu, rx⟩ := vals1 r
  subst eu
  cases rx
  obtain ⟨pv, prs, rel, l1, l2, hpr⟩ := pairs_at I hp
  obtain ⟨its, hv, hz, hpl⟩ : ∃ its : List Value, Vals (ps.map V.ref) its ∧ its.length ≤ sizeLine ∧ PlainSeq "tuple" s.heap a its.toArray := by
    rcases hq with ⟨ob, h1, h2⟩ | ⟨ob, its, n, h1, h2, h3, h4, h5, h6⟩
    · obtain ⟨g1, g2, its, g3, ob', g4, g5, n, g6⟩ := I.hok a _ h1
      rw [g1] at g4
      cases g4
      exact ⟨its, g3, by rw [← g3.length]; exact g2, ob, n, g1, g5, h2, g6⟩
    · exact ⟨its.toList, h6, by simpa using h5, ob, n, I.kIn a ob h1, h2, h3, by simpa using h4⟩
  have ei := refs_at hv
  subst ei
  have hsz : ps.length ≤ sizeLine := by simpa using hz
  refine PySem.call_dict_pairs (knd := mixKind X.prog X.w) (kvs := prs) (PairArg.tuple a (ps.map Value.ref).toArray (fun j => ps.getD j 0) pv) (I.ok.hd hcalm) ⟨hpl, by simp [l1], fun j k v e => ?_⟩ ⟨by rw [l2, l1], fun i key v e => ?_⟩ (by rw [l1]; exact hsz) fun h' tk hd' k => ?_
  · obtain ⟨b, kk, e1, e2, e3, e4⟩ := hpr j k v e
    have eg : ps.getD j 0 = b := by simp [List.getD, e1]
    show _ ∧ PairAt s.heap (ps.getD j 0) k v
    refine ⟨?_, by rw [eg]; exact .inl e3⟩
    show (ps.map Value.ref).toArray[j]? = some (.ref (ps.getD j 0))
    rw [eg]
    simp [e1]
  · obtain ⟨b, kk, e1, e2, e3, e4⟩ := hpr i key v e
    exact ⟨kk, e2, e4⟩
  · have hm : (s.heap.objs.size == sysModules) = false := beq_eq_false_iff_ne.mpr (Nat.ne_of_gt I.big)
    have hlen : (mergeK [] kvs).length ≤ sizeLine := by
      refine Nat.le_trans (length_mergeK kvs []) ?_
      rw [List.length_nil, Nat.zero_add, rel.length, l2]
      exact hsz
    exact ⟨.ref s.heap.objs.size, upd H s.heap.objs.size (.dK (mergeK [] kvs)), I.laid (t' := tk) (fun b o e => k b o (by simp) e) (Nat.le_refl _) (show ObjOk X.prog X.w _ _ _ (.dK (mergeK [] kvs)) from ⟨hlen, hm, merged [] prs, KV.merge rel .nil, hd'⟩), rfl, q _ (I.hok.fresh (Nat.le_refl _))⟩
def rDictU (K : PySem.W.Frag) : List V → Hp → VK → Prop := fun xs H Q => ∃ (a : Addr) (ps : List Addr) (kvs : List (Key × V)), xs = [.ref a] ∧ (SqL K H a (ps.map V.ref) ∨ TpA K H a (ps.map V.ref)) ∧ Paired (fun p kv => SqT K H p [kV kv.1, kv.2]) ps kvs ∧ ∀ p, H p = none → Q (.ref p) (upd H p (.dK (mergeK [] kvs)))
theorem call_dictU (hc : X.calm = true) : CallR X (.type "dict") (rDictU X.K) := by
  intro pins s σ H xs us Q I r ⟨a, ps, kvs, ex, hq, hp, q⟩
  rcases hq with hq | hq
  · exact call_dictP hc pins s σ H xs us Q I r ⟨a, ps, kvs, ex, hq, hp, q⟩
  · exact call_dictT hc pins s σ H xs us Q I r ⟨a, ps, kvs, ex, hq, hp, q⟩
theorem pairsOf_ok {K : PySem.W.Frag} {z : Z} {H : Hp} : ∀ {ds : List D} {vs : List V} {ps : List (Key × D)}, RDs K z H ds vs → pairsOf ds = some ps → ∃ (as : List Addr) (kvs : List (Key × V)), vs = as.map V.ref ∧ RKs K z H ps kvs ∧ Paired (fun p kv => SqT K H p [kV kv.1, kv.2]) as kvs
  | [], _, ps, .nil, e => by cases e; exact ⟨[], [], rfl, .nil, .nil⟩
  | d :: ds, v :: vs, ps, .cons h t, e => by
    unfold pairsOf at e
    split at e
    · rename_i heq; cases heq
    · rename_i k w r heq
      cases heq
      split at e
      · rename_i q ps' e1 e2
        cases e
        obtain ⟨as, kvs, rfl, h2, h3⟩ := pairsOf_ok t e2
        cases h with
        | @tup a0 vs0 _ h4 h5 =>
          obtain ⟨v1, v2, rfl, h6, h7⟩ := two_args h5
          have hk := keyOf_v h6 e1
          subst hk
          exact ⟨a0 :: as, (q, v2) :: kvs, rfl, .cons ⟨rfl, h7⟩ h2, .cons h4.sq h3⟩
      · cases e
    · cases e
theorem kmerge_ok {K : PySem.W.Frag} {z : Z} {H : Hp} : ∀ {ps : List (Key × D)} {qs : List (Key × V)} {kvs : List (Key × D)} {vs : List (Key × V)}, RKs K z H ps qs → RKs K z H kvs vs → RKs K z H (kmerge kvs ps) (mergeK vs qs) := by
  intro ps qs kvs vs r
  unfold RKs at r
  induction r generalizing kvs vs with
  | nil => exact fun h => h
  | @cons p q ps qs h t ih =>
    intro hk
    have h2 := kput_ok (q := p.1) h.2 hk
    show RKs K z H (kmerge (kput kvs p.1 p.2) ps) (mergeK (putK vs q.1 q.2) qs)
    rw [← h.1]
    exact ih h2
theorem se_dict (h : PE X e (tCB (rDictU X.K) (tCons (tE X.K C W fa) tNil))) : SE X C W e (evDict fa) := PE_imp h fun σ H Q ⟨z, ρ, M, rm, re, h⟩ => by
  refine tE_of rm re h fun d M1 z1 H1 v r1 re1 x1 hd h1 => ?_
  have fin : ∀ {a : Addr} {as : List Addr} {ps : List (Key × D)} {kvs : List (Key × V)}, RKs X.K z1 H1 ps kvs → (R.ok (D.ref M1.length) (M1 ++ [.dct (kmerge [] ps)])).wp (PQ X.K C z1 H1 Q) (EX X.K C (atW W σ) z1 H1) → ∀ p, H1 p = none → Q (.ref p) (upd H1 p (.dK (mergeK [] kvs))) := fun hk hw p hp => by
    obtain ⟨x2, r2⟩ := ext_new (o := .dK (mergeK [] _)) (m := .dct (kmerge [] _)) r1 hp ⟨_, upd_same, (kmerge_ok hk .nil).all (ext_new0 r1 hp).rd⟩
    exact hw _ _ _ r2 x2 (.ref (by rw [← r1.len]; exact List.getElem?_concat_length))
  split at h1
  · rename_i ds
    split at h1
    · rename_i ps hps
      cases hd with
      | tup h2 h3 =>
        obtain ⟨as, kvs, rfl, h4, h5⟩ := pairsOf_ok h3 hps
        exact ⟨_, as, kvs, rfl, .inr h2, h5, fin (a := 0) (as := []) h4 h1⟩
    · exact h1.elim
  · rename_i ds
    split at h1
    · rename_i ps hps
      cases hd with
      | lst h2 _ _ h3 =>
        obtain ⟨as, kvs, rfl, h4, h5⟩ := pairsOf_ok h3 hps
        exact ⟨_, as, kvs, rfl, .inl (.inl (.inl h2)), h5, fin (a := 0) (as := []) h4 h1⟩
    · exact h1.elim
  · exact h1.elim
/-! ### comprehensions -/
theorem se_comp {it : FI} {t : Tg} {ifs : List Expr} {scope : Scope} {own : List (Str × Nat)} {tt : TT} (hc : X.calm = true) (hN : X.N.Nodup) (hi : SI X C W tg iter it) (ok : BlkOk X.N X.env.scope scope own) (hv : ∀ i ∈ t.names, i ∈ own.map (·.2))
    (hg : ∀ (s : Shared) (H : Hp) (Ca : Addr) (cl : List (Str × Addr)) (fp : List Addr), SG (X.blk s H scope (compEnvC scope cl Ca X.env) fp) tg t) (ht : ∀ (s : Shared) (H : Hp) (Ca : Addr) (cl : List (Str × Addr)) (fp : List Addr), PTs (X.blk s H scope (compEnvC scope cl Ca X.env) fp) ifs tt)
    (htt : ∀ σ H Q, tTest (tE X.K C W0 fc) σ H Q → tt σ H Q) (he : ∀ (s : Shared) (H : Hp) (Ca : Addr) (cl : List (Str × Addr)) (fp : List Addr), SE (X.blk s H scope (compEnvC scope cl Ca X.env) fp) C W0 e fe) (hs : ∀ x, foldedSetIterable iter X.env x = pure x := by intro _; rfl) :
    SE X C W (.ListComp e [⟨tg, iter, ifs, 0⟩] scope pos) (evComp it t fc fe (own.map (·.2))) := PE_imp (pe_lc (g := tG X.K t) (te := tE X.K C W0 fe) hc hN hi ok hg ht he hs) fun σ H Q h => te_comp hv htt h
theorem ss_setComp {it : FI} {t : Tg} {ifs : List Expr} {scope : Scope} {own : List (Str × Nat)} {tt : TT} {i : Nat} {y : Str} {py spos : Pos} (hc : X.calm = true) (hN : X.N.Nodup) (hy : X.N[i]? = some y) (hyl : X.env.scope.names.lookup y = some .local)
    (hsw : swapsWith (.ListComp e [⟨tg, iter, ifs, 0⟩] scope pos) (some (.Name y py)) spos.line X.env = pure true) (hi : SI X C W tg iter it) (ok : BlkOk X.N X.env.scope scope own) (hv : ∀ i ∈ t.names, i ∈ own.map (·.2))
    (hg : ∀ (s : Shared) (H : Hp) (Ca : Addr) (cl : List (Str × Addr)) (fp : List Addr), SG (X.blk s H scope (compEnvC scope cl Ca X.env) fp) tg t) (ht : ∀ (s : Shared) (H : Hp) (Ca : Addr) (cl : List (Str × Addr)) (fp : List Addr), PTs (X.blk s H scope (compEnvC scope cl Ca X.env) fp) ifs tt)
    (htt : ∀ σ H Q, tTest (tE X.K C W0 fc) σ H Q → tt σ H Q) (he : ∀ (s : Shared) (H : Hp) (Ca : Addr) (cl : List (Str × Addr)) (fp : List Addr), SE (X.blk s H scope (compEnvC scope cl Ca X.env) fp) C W0 e fe) (hs : ∀ x, foldedSetIterable iter X.env x = pure x := by intro _; rfl) :
    SS X C W (.Assign [.Name y py] (.ListComp e [⟨tg, iter, ifs, 0⟩] scope pos) spos) (sSet i (evComp it t fc fe (own.map (·.2)))) := by
  refine PS_imp (ps_setLc (g := tG X.K t) (te := tE X.K C W0 fe) hc hN hy hyl hsw hi ok hg ht he hs) fun D σ H ⟨z, ρ, M, rm, re, h⟩ => ?_
  exact te_comp hv htt (tE_st rm re h fun d M1 z1 H1 v r1 re1 x1 hd h1 => h1 z1 H1 r1 .refl _ (re1.set i hd))
theorem se_comp2 {it it1 : FI} {t t1 : Tg} {ifs ifs1 : List Expr} {scope : Scope} {own : List (Str × Nat)} {vs1 : List Nat} {tt tt1 : TT} (hc : X.calm = true) (hN : X.N.Nodup) (hi : SI X C W tg iter it) (ok : BlkOk X.N X.env.scope scope own) (hvs : ∀ i ∈ vs1, i ∈ own.map (·.2)) (hv : ∀ i ∈ t.names, i ∈ own.map (·.2)) (hv1 : ∀ i ∈ t1.names, i ∈ vs1)
    (hg : ∀ (s : Shared) (H : Hp) (Ca : Addr) (cl : List (Str × Addr)) (fp : List Addr), SG (X.blk s H scope (compEnvC scope cl Ca X.env) fp) tg t) (ht : ∀ (s : Shared) (H : Hp) (Ca : Addr) (cl : List (Str × Addr)) (fp : List Addr), PTs (X.blk s H scope (compEnvC scope cl Ca X.env) fp) ifs tt)
    (htt : ∀ σ H Q, tTest (tE X.K C W0 fc) σ H Q → tt σ H Q) (hi1 : ∀ (s : Shared) (H : Hp) (Ca : Addr) (cl : List (Str × Addr)) (fp : List Addr), SI (X.blk s H scope (compEnvC scope cl Ca X.env) fp) C W0 tg1 iter1 it1)
    (hg1 : ∀ (s : Shared) (H : Hp) (Ca : Addr) (cl : List (Str × Addr)) (fp : List Addr), SG (X.blk s H scope (compEnvC scope cl Ca X.env) fp) tg1 t1) (ht1 : ∀ (s : Shared) (H : Hp) (Ca : Addr) (cl : List (Str × Addr)) (fp : List Addr), PTs (X.blk s H scope (compEnvC scope cl Ca X.env) fp) ifs1 tt1)
    (htt1 : ∀ σ H Q, tTest (tE X.K C W0 fc1) σ H Q → tt1 σ H Q) (he : ∀ (s : Shared) (H : Hp) (Ca : Addr) (cl : List (Str × Addr)) (fp : List Addr), SE (X.blk s H scope (compEnvC scope cl Ca X.env) fp) C W0 e fe)
    (hs : ∀ x, foldedSetIterable iter X.env x = pure x := by intro _; rfl) (hs1 : ∀ env x, foldedSetIterable iter1 env x = pure x := by intro _ _; rfl) :
    SE X C W (.ListComp e [⟨tg, iter, ifs, 0⟩, ⟨tg1, iter1, ifs1, 0⟩] scope pos) (evComp2 it t fc it1 t1 fc1 fe (own.map (·.2)) vs1) := PE_imp (pe_lc2 (g := tG X.K t) (g1 := tG X.K t1) (wi1 := tI X.K C W0 it1) (te := tE X.K C W0 fe) hc hN hi ok hvs hg ht hi1 hg1 ht1 he hs hs1) fun σ H Q h => te_comp2 hv hv1 htt htt1 h
theorem ss_setComp2 {it it1 : FI} {t t1 : Tg} {ifs ifs1 : List Expr} {scope : Scope} {own : List (Str × Nat)} {vs1 : List Nat} {tt tt1 : TT} {i : Nat} {y : Str} {py spos : Pos} (hc : X.calm = true) (hN : X.N.Nodup) (hy : X.N[i]? = some y) (hyl : X.env.scope.names.lookup y = some .local)
    (hsw : swapsWith (.ListComp e [⟨tg, iter, ifs, 0⟩, ⟨tg1, iter1, ifs1, 0⟩] scope pos) (some (.Name y py)) spos.line X.env = pure true) (hi : SI X C W tg iter it) (ok : BlkOk X.N X.env.scope scope own) (hvs : ∀ i ∈ vs1, i ∈ own.map (·.2)) (hv : ∀ i ∈ t.names, i ∈ own.map (·.2)) (hv1 : ∀ i ∈ t1.names, i ∈ vs1)
    (hg : ∀ (s : Shared) (H : Hp) (Ca : Addr) (cl : List (Str × Addr)) (fp : List Addr), SG (X.blk s H scope (compEnvC scope cl Ca X.env) fp) tg t) (ht : ∀ (s : Shared) (H : Hp) (Ca : Addr) (cl : List (Str × Addr)) (fp : List Addr), PTs (X.blk s H scope (compEnvC scope cl Ca X.env) fp) ifs tt)
    (htt : ∀ σ H Q, tTest (tE X.K C W0 fc) σ H Q → tt σ H Q) (hi1 : ∀ (s : Shared) (H : Hp) (Ca : Addr) (cl : List (Str × Addr)) (fp : List Addr), SI (X.blk s H scope (compEnvC scope cl Ca X.env) fp) C W0 tg1 iter1 it1)
    (hg1 : ∀ (s : Shared) (H : Hp) (Ca : Addr) (cl : List (Str × Addr)) (fp : List Addr), SG (X.blk s H scope (compEnvC scope cl Ca X.env) fp) tg1 t1) (ht1 : ∀ (s : Shared) (H : Hp) (Ca : Addr) (cl : List (Str × Addr)) (fp : List Addr), PTs (X.blk s H scope (compEnvC scope cl Ca X.env) fp) ifs1 tt1)
    (htt1 : ∀ σ H Q, tTest (tE X.K C W0 fc1) σ H Q → tt1 σ H Q) (he : ∀ (s : Shared) (H : Hp) (Ca : Addr) (cl : List (Str × Addr)) (fp : List Addr), SE (X.blk s H scope (compEnvC scope cl Ca X.env) fp) C W0 e fe)
    (hs : ∀ x, foldedSetIterable iter X.env x = pure x := by intro _; rfl) (hs1 : ∀ env x, foldedSetIterable iter1 env x = pure x := by intro _ _; rfl) :
    SS X C W (.Assign [.Name y py] (.ListComp e [⟨tg, iter, ifs, 0⟩, ⟨tg1, iter1, ifs1, 0⟩] scope pos) spos) (sSet i (evComp2 it t fc it1 t1 fc1 fe (own.map (·.2)) vs1)) := by
  refine PS_imp (ps_setLc2 (g := tG X.K t) (g1 := tG X.K t1) (wi1 := tI X.K C W0 it1) (te := tE X.K C W0 fe) hc hN hy hyl hsw hi ok hvs hg ht hi1 hg1 ht1 he hs hs1) fun D σ H ⟨z, ρ, M, rm, re, h⟩ => ?_
  exact te_comp2 hv hv1 htt htt1 (tE_st rm re h fun d M1 z1 H1 v r1 re1 x1 hd h1 => h1 z1 H1 r1 .refl _ (re1.set i hd))
theorem ssets_tst {ifs : List Expr} : True := trivial
end
end Nv
set_option maxRecDepth 100000
/-! NvG: defs that ask for repr(..) (nothing else being shown at the time), and the end of a law. -/
namespace Nv
open PySem PySem.Spec L2
/-- what a def is worth where no repr runs -/
structure FnG (P : Program) (w : World) (K : PySem.W.Frag) (mg : Str → Option Value) (base : Heap) (C : CC) (k : Nat) (f : Addr) (fd : FuncData) (ps : List Str) (g : Fn) : Prop where
  run : ∀ (A : Around) (outer : List PySem.Env) (s : Shared) (H : Hp) (args : Args) (us : List Value) (vs : List V) (Q : VK) (E : XK), Room k A → A.guards = some [] → Env0 P w K mg base A outer s H → BindsTo s fd args (ps.zip us) → Vals vs us → spOf K C ps.length g vs H Q E →
    codeAny (model P w) A (.call (.ref f) args) (CR (L2.CX P w) outer P w H s Q E) s
  bd : Binds K fd ps []
  kp : PySem.W.keepIn K (.ref f) = true
theorem Fd.g {P : Program} {w : World} {K : PySem.W.Frag} {mg : Str → Option Value} {base : Heap} {C : CC} {k : Nat} {f : Addr} {fd : FuncData} {ps : List Str} {g : Fn} (F : Fd P w K mg base C k f fd ps g) : FnG P w K mg base C k f fd ps g :=
  ⟨fun A outer s H args us vs Q E hr _ => F.ok.run A outer s H args us vs Q E hr, F.bd, F.kp⟩
theorem fnG_of {P : Program} {w : World} {K : PySem.W.Frag} {mg : Str → Option Value} {base : Heap} {C : CC} {x qual : Str} {pst : Stmt} {f : Addr} {fd : FuncData} {N ps : List Str} {k nl : Nat} {body : FS} {g : Fn} (F : Fun K x qual pst f fd) (S : FnScope N ps (defScope pst)) (bd : Binds K fd ps [])
    (hN : N.length = ps.length + nl) (hb : ∀ (cdv : Value) (A : Around) (outer : List PySem.Env) (s : Shared) (H : Hp) (E : XK), Room k (A.deeper (PyProof.Rows.envOfC qual (defScope pst) s.heap.objs.size f cdv)) → A.guards = some [] →
      SSs (cxOf (L2.CX P w) P w K mg base N qual (defScope pst) f cdv A outer s H E) C (Wd E) (defBody pst) body)
    (hg : g = fnT ps.length nl body ∨ g = fnK ps.length nl body) : FnG P w K mg base C (k + 1) f fd ps g := by
  have kp := F.kp
  obtain ⟨oc, od, kV, doc, pm, an, cdv, ct, osl, rfl, lk, hcd⟩ := F.ex
  refine ⟨fun A outer s H args us vs Q E hr hgd e0 hbi r hsp => ?_, bd, kp⟩
  have hlen : vs.length = ps.length := spOf_len hsp
  have hK : K.In s.heap := e0.mod.kin.keeps fun b o e => (e0.bs b o e).1
  have hL : s.heap.NoLimit := e0.mod.nolimit.keeps fun b o e => (e0.bs b o e).1
  have hks : ∀ y ∈ ps.zip us, (defScope pst).names.lookup y.1 = some .local ∨ ((defScope pst).names.lookup y.1 = some .cell ∧ ((cellsFrom (s.heap.objs.size + 1) (defScope pst).names []).lookup y.1).isSome = true) := by
    rintro ⟨n, v⟩ hy
    exact (S.par n (List.of_mem_zip hy).1).imp id fun q => ⟨q, PySem.W.cellsFrom_some _ _ _ (.inl q)⟩
  refine codeAny_call_function hr.depth (hK _ _ lk) rfl S.co S.gen rfl (PySem.W.codeRec_of hK hcd) (hbi _ _ _ _ (wpAny_newFunctionEnv_cells S.kind hks fun env he s1 xx => ?_))
  subst he
  have I : L2.Inv (cxOf (L2.CX P w) P w K mg base N qual (defScope pst) f cdv A outer s H E) [] (L2.start N vs) H s1 := inv_start S hr.hd e0 hlen r xx
  have body := (hb cdv A outer s H E (hr.deeper _) hgd).run [] s1 (L2.start N vs) H _ I (body_read hN hg hsp)
  refine ⟨hL.keeps xx.toInCall.keep, codeAny_func (wpAny_mono body (fun fl s' hs => ?_) fun _ _ hs => hs)⟩
  cases fl with
  | ret u => obtain ⟨v, σ', H', J, rv, q⟩ := hs; exact ⟨v, H', J.os, J.bare, J.base, J.hok, rv, q⟩
  | next => obtain ⟨σ', H', J, q⟩ := hs; exact ⟨.non, H', J.os, J.bare, J.base, J.hok, rfl, q⟩
  | brk => obtain ⟨_, _, _, q⟩ := hs; exact q.elim
  | cont => obtain ⟨_, _, _, q⟩ := hs; exact q.elim
section
variable {X : Cx} {C : CC} {W : WX} {a b c e o : Expr} {es : List Expr} {fa fb fc fe fo : FE} {fs : FA} {pos p apos : Pos} {st : Stmt} {k : Nat} {f : Addr} {fd : FuncData} {ps : List Str} {g : Fn} {x m : Str}
theorem se_callG (F : FnG X.prog X.w X.K X.mg X.base C k f fd ps g) (hr : Room k X.A) (hgd : X.A.guards = some []) (tk : Takes X W) (hg : Gl X x) (hm : X.mg x = some (.ref f)) (ha : SA X C W (e :: es) fs) (hl : LenA fs ps.length)
    (hdb : (x == ("__debug__" : Str)) = false := by decide) (he : starEach (e :: es) X.env = (false, eval e X.env) :: starEach es X.env := by rfl) (hpl : (backTo pos (starEach es X.env)).any (·.1) = false := by rfl) :
    SE X C W (.Call (.Name x p) (e :: es) [] pos) (evCall g fs) := by
  refine ⟨fun pins s σ H Q I h => wpAny_Call_Name_kw (ld_glob I hg hm ?_ hdb)⟩
  have h2 : tAs X.K C W fs σ H fun vs H1 => spOf X.K C ps.length g vs H1 Q (atW W σ) := call_read h hl
  refine PySem.W.callWith_K (h₀ := X.base) I.ok.mod.kin F.kp (thn (ha.run pos pins s σ H _ I h2) fun us s1 ⟨vs, H1, I1, r, q⟩ => ⟨I1.kIn, ?_⟩) he hpl
  have hlen : us.length = ps.length := by rw [← r.length]; exact spOf_len q
  have hb := F.bd s1 us I1.kIn (by rw [List.append_nil]; exact hlen)
  rw [List.append_nil] at hb
  refine wpAny_call (codeAny_mono (F.run X.A X.stack s1 H1 ⟨us, []⟩ us vs Q (atW W σ) hr hgd I1.env0 hb r q) fun rr s' hq => ?_)
  cases rr with
  | error er => exact passAt tk σ pins H1 s1 er s' I1 hq
  | ok fl =>
    cases fl with
    | ret u => exact I1.after hq
    | next => exact hq.elim
    | brk => exact hq.elim
    | cont => exact hq.elim
/-! ### repr -/
def rRepr (K : PySem.W.Frag) : List V → Hp → VK → Prop := fun xs H Q => ∃ x d, xs = [x] ∧ Dp K H x d ∧ (∃ a, x = .ref a) ∧ d.showable = true ∧ d.hasDict = false ∧ d.depth ≤ 64 ∧ d.shown.length ≤ sizeLine ∧ Q (.str d.shown) H
theorem call_reprD (hgd : X.A.guards = some []) (hu : X.A.units + 66 < cLine) : CallR X (.builtin "repr") (rRepr X.K) := by
  intro pins s σ H xs us Q I r ⟨x, d, ex, hd, ⟨a, ea⟩, hs, hnd, hdp, hsz, q⟩
  subst ex ea
  obtain ⟨u, eu, rx⟩ := vals1 r
  subst eu
  obtain ⟨as, rd⟩ := Dp.reads I d _ _ hd rx
  cases rx
  exact repr_of_reads' rd hs (fun h => by rw [hnd] at h; cases h) hgd (by omega) (fun _ _ e => e) (fun h' u tk hk => ⟨.str d.shown, H, I.kept hk, ⟨_, rfl⟩, q⟩) hsz
def rReprU (K : PySem.W.Frag) : List V → Hp → VK → Prop := fun xs H Q => rRepr K xs H Q ∨ ∃ i, xs = [.int i] ∧ i.natAbs.log2 < 1920 ∧ Q (.str (toString i)) H
end
/-- repr of data -/
theorem bs_repr {K : PySem.W.Frag} {C : CC} : BS K C bRepr (rReprU K) := by
  intro z M H xs ds d Q r h e q
  unfold bRepr at e
  split at e
  · split at e
    · rename_i hb
      cases e
      obtain ⟨v, rfl, h'⟩ := one_arg h
      cases h'
      exact .inr ⟨_, rfl, hb, q.here r (.str _)⟩
    · cases e
  · split at e
    · rename_i p hp
      split at e
      · rename_i hc
        cases e
        obtain ⟨v, rfl, h'⟩ := one_arg h
        exact .inl ⟨v, p, rfl, RD.dp _ _ _ h' hp, by cases h'; exact ⟨_, rfl⟩, hc.1, hc.2.1, hc.2.2.1, hc.2.2.2, q.here r (.str _)⟩
      · cases e
    · cases e
  · split at e
    · rename_i p hp
      split at e
      · rename_i hc
        cases e
        obtain ⟨v, rfl, h'⟩ := one_arg h
        exact .inl ⟨v, p, rfl, RD.dp _ _ _ h' hp, by cases h'; exact ⟨_, rfl⟩, hc.1, hc.2.1, hc.2.2.1, hc.2.2.2, q.here r (.str _)⟩
      · cases e
    · cases e
  · cases e
theorem call_reprU {X : Cx} (hgd : X.A.guards = some []) (hu : X.A.units + 66 < cLine) : CallR X (.builtin "repr") (rReprU X.K) := CallR_or (call_reprD hgd hu) SkE.call_repr_int
end Nv
set_option maxRecDepth 100000
/-! NvEnd: the end of a law whose meaning is a function of the script's numbers. -/
namespace Nv
open PySem PySem.Spec L2
/-- the abstract heap in which the script alone may be tracked -/
def scrH (a : Addr) (o : Obj) (ns : List Int) (tracked : Bool) : Hp := fun b => if tracked = true ∧ b = a then some (.frz o (.lst (ns.map V.int))) else none
theorem scrH_off {a b : Addr} {o : Obj} {ns : List Int} {t : Bool} (h : b ≠ a) : scrH a o ns t b = none := if_neg fun z => h z.2
theorem scrH_no {a b : Addr} {o : Obj} {ns : List Int} : scrH a o ns false b = none := if_neg fun z => Bool.false_ne_true z.1
theorem scrH_on {a : Addr} {o : Obj} {ns : List Int} : scrH a o ns true a = some (.frz o (.lst (ns.map V.int))) := if_pos ⟨rfl, rfl⟩
theorem scrH_some {a b : Addr} {o : Obj} {ns : List Int} {t : Bool} {u : HO} (h : scrH a o ns t b = some u) : t = true ∧ b = a ∧ u = .frz o (.lst (ns.map V.int)) := by
  unfold scrH at h
  split at h
  · rename_i z
    cases h
    exact ⟨z.1, z.2, rfl⟩
  · cases h
/-- the call of the law at the heap behind the top -/
theorem law_end {P : Program} {w : World} {K : PySem.W.Frag} {mg mb : Str → Option Value} {C : CC} {k : Nat} {fa a : Addr} {fd : FuncData} {x : Str} {g : Fn} {s1 : Shared} {vs : List Value} {ns : List Int} {Mf : Mem}
    (hK : K.In s1.heap) (hG : s1.heap.Ns mainGlobals mg) (hB : s1.heap.Ns builtinsNs mb) (hBB : ∀ x : Str, x ≠ "__name__" → mb x = bootBuiltins x) (hL : s1.heap.NoLimit) (hgn : s1.gens = #[])
    (ha : s1.heap.get? a = some { cls := .type "list", data := .seq vs.toArray }) (hi : PyProof.Rows.IntsAre vs ns) (hlen : ns.length ≤ sizeLine) (hr : Room k callerA)
    (F : ∀ base : Heap, K.In base → base.Ns mainGlobals mg → FnG P w K mg base C k fa fd [x] g) (hbd : ∀ (s : Shared) (u : Value), BindsTo s fd ⟨[u], []⟩ [(x, u)])
    (hg : g [.scr (ns.map D.int)] [] = .ok (.bl true) Mf) :
    codeAny (model P w) callerA (.call (.ref fa) ⟨[.ref a], []⟩) (fun r s' => r = .ok (.ret (.bool true)) ∧ OldK s1.heap s'.heap ∧ s'.os = s1.os ∧ PyProof.Rows.AllBare s'.gens) s1 := by
  have hvals := vals_ints hi
  obtain ⟨t, ht⟩ : ∃ t : Bool, (t = true → K.lookup a = none) ∧ (t = false → ∃ o, K.lookup a = some o) := by
    cases e : K.lookup a with
    | none => exact ⟨true, fun _ => rfl, fun z => by cases z⟩
    | some o => exact ⟨false, (fun z => by cases z), fun _ => ⟨o, rfl⟩⟩
  let ob : Obj := { cls := .type "list", data := .seq vs.toArray }
  have hH : HOk P w (scrH a ob ns t) s1.heap := fun b u e => by
    obtain ⟨_, rfl, rfl⟩ := scrH_some e
    exact ⟨ha, by rw [List.length_map]; exact hlen, vs, _, hvals, ha⟩
  have sub : ∀ {b : Addr} {o : Obj}, s1.heap.get? b = some o → scrH a ob ns t b = none → (hidT s1.heap (scrH a ob ns t)).get? b = some o := fun e n => hidT_get e n
  have nsub : ∀ {b : Addr} {m : Str → Option Value}, s1.heap.Ns b m → (hidT s1.heap (scrH a ob ns t)).Ns b m := fun {b m} h => by
    obtain ⟨o, es, ep, e, d, q⟩ := h
    refine ⟨o, es, ep, sub e (scrH_off fun z => ?_), d, q⟩
    subst z
    rw [ha] at e
    cases e
    have d' : (Data.seq vs.toArray _ : Data) = .dict es ep := d
    cases d'
  have kin : K.In (hidT s1.heap (scrH a ob ns t)) := fun b o e => sub (hK b o e) (by
    cases q : scrH a ob ns t b with
    | none => rfl
    | some u =>
      obtain ⟨h1, h2, _⟩ := scrH_some q
      subst h2
      rw [ht.1 h1] at e
      cases e)
  have mod : Mod K mg (hidT s1.heap (scrH a ob ns t)) := by
    obtain ⟨ml, l1, l2⟩ := hL
    exact ⟨kin, nsub hG, ⟨mb, nsub hB, hBB⟩, ⟨ml, nsub l1, l2⟩⟩
  have nil_no : ∀ {b : Addr} {q : Prop}, b ∈ ([] : List Addr) → q := fun z => by cases z
  have env : Env0 P w K mg (hidT s1.heap (scrH a ob ns t)) callerA [] s1 (scrH a ob ns t) := ⟨rfl, mod, fun b o e => of_hidT e, Nat.le_of_eq (hidT_size _ _), trivial, fun b hb => nil_no hb, hH, .of_eq hgn⟩
  have arg : RD K ⟨[], []⟩ (scrH a ob ns t) (.scr (ns.map D.int)) (.ref a) := by
    refine .scr (vs := ns.map V.int) ?_ (RDs.ints ns)
    cases t with
    | true => exact .inl ⟨ob, scrH_on⟩
    | false =>
      obtain ⟨o, e⟩ := ht.2 rfl
      have e2 := hK a o e
      rw [ha] at e2
      cases e2
      exact .inr ⟨_, vs.toArray, _, e, rfl, rfl, rfl, by rw [List.size_toArray, hi.length]; exact hlen, by simpa using hvals⟩
  have mem : RM K C.toCI ⟨[], []⟩ [] (scrH a ob ns t) := ⟨rfl, List.nodup_nil, fun l o b e => by simp at e, fun b hb => nil_no hb⟩
  have promise : spOf K C [x].length g [.ref a] (scrH a ob ns t) (fun v _ => v = .bl true) (fun _ _ _ => False) := by
    refine ⟨⟨[], []⟩, [], [.scr (ns.map D.int)], mem, .cons arg .nil, rfl, ?_⟩
    rw [hg]
    exact fun z' H' v r' x' hv => by cases hv; rfl
  refine codeAny_mono ((F _ kin (nsub hG)).run callerA [] s1 _ ⟨[.ref a], []⟩ [.ref a] [.ref a] _ _ hr rfl env (hbd s1 (.ref a)) (.cons rfl .nil) promise) fun r s' h => ?_
  cases r with
  | error e =>
    obtain ⟨_, _, _, _, _, _, _, _, _, _, _, _, z⟩ := h
    exact z.elim
  | ok fl =>
    cases fl with
    | next => exact h.elim
    | brk => exact h.elim
    | cont => exact h.elim
    | ret u =>
      obtain ⟨v, H', os, bare, un, hok', ru, q⟩ := h
      have q' : v = .bl true := q
      subst q'
      cases ru
      refine ⟨rfl, OldK.of_keep fun b o e => ?_, os, bare⟩
      cases q : scrH a ob ns t b with
      | none => exact un.keep b o e q (fun z => nil_no z) (fun z => nil_no z)
      | some u =>
        obtain ⟨h1, h2, h3⟩ := scrH_some q
        subst h2 h3
        have z2 := un.frzs b ob _ q
        have e1 := (hok' b _ z2).1
        rw [ha] at e
        cases e
        exact e1
theorem walk_end {l : PySem.W.OpenLaw} {n k : Nat} {q : Program} {loose : List Str} {XP : (Str → Option Value) → Heap → Prop} {YP : World → Heap → Prop} {d : DefRec} {K : Params → PySem.W.Frag} {x : Str} {g : Fn}
    (hn : l.most = some n) (hn2 : n ≤ sizeLine) (hdf : d.params.defaults = []) (hr : Room k callerA) (hY : ∀ (w : World) (h : Heap), YP w h → (K w.params).In h)
    (F : ∀ (w : World) (mg : Str → Option Value) (fa : Addr) (h : Heap), (K w.params).In h → h.Ns mainGlobals mg → mg d.name = some (.ref fa) →
      ∃ (C : CC) (fd : FuncData), (∀ (s : Shared) (u : Value), BindsTo s fd ⟨[u], []⟩ [(x, u)]) ∧ ∀ base : Heap, (K w.params).In base → base.Ns mainGlobals mg → FnG l.prog w (K w.params) mg base C k fa fd [x] g)
    (hg : ∀ ns : List Int, ns.length ≤ n → ∃ M, g [.scr (ns.map D.int)] [] = .ok (.bl true) M) : PySem.W.WalkO q loose XP YP l.row.toRowW d [] (fun f vs => PySem.call f vs) := by
  refine Att.attach_call hn hdf fun w s0 s1 mg mb fa o pm cd doc a vs ns G Y ho hd hcd hmg hobj hints hlen hgn => ?_
  have hK := hY w _ Y
  obtain ⟨C, fd, hb, hF⟩ := F w mg fa _ hK G.T.g hmg
  obtain ⟨M, hM⟩ := hg ns hlen
  exact law_end hK G.T.g G.T.b G.T.builtins G.T.nolimit hgn hobj hints (Nat.le_trans hlen hn2) hr hF hb hM
end Nv
set_option maxRecDepth 100000
/-! NvK: a dict of the module's own whose keys are ints. -/
namespace Nv
open PySem PySem.Spec L2
def intEntries : List DictEntry → List Int → Bool
  | [], [] => true
  | e :: es, k :: ks => (match e.key with | .int i _ => decide (i = k) | _ => false) && decide (e.hash = hashInt k) && intEntries es ks
  | _, _ => false
structure KInts (K : PySem.W.Frag) (p : Addr) (ks : List Int) : Prop where
  ex : ∃ (es : Array DictEntry) (n : Nat), K.lookup p = some ⟨.type "dict", none, .dict es n, #[]⟩ ∧ intEntries es.toList ks = true
  nd : ks.Nodup
  ns : (p == sysModules) = false
def kvsOf : List DictEntry → List Int → List (Key × Value)
  | e :: es, k :: ks => (Sum.inl k, e.val) :: kvsOf es ks
  | _, _ => []
theorem kvsOf_ok {P : Program} {w : World} : ∀ {es : List DictEntry} {ks : List Int}, intEntries es ks = true → (∀ e ∈ es, ∃ k, (mixKind P w).is k e.key = true ∧ e.hash = (mixKind P w).hash k) ∧ Pairs (mixKind P w) es (kvsOf es ks) ∧ (kvsOf es ks).map (·.1) = ks.map Sum.inl
  | [], [], _ => ⟨fun e h => by (cases h), .nil, rfl⟩
  | [], k :: ks, h => by cases h
  | e :: es, [], h => by cases h
  | e :: es, k :: ks, h => by
    have h' : ((match e.key with | .int i _ => decide (i = k) | _ => false) && decide (e.hash = hashInt k) && intEntries es ks) = true := h
    rw [Bool.and_eq_true, Bool.and_eq_true] at h'
    obtain ⟨⟨h1, h2⟩, h3⟩ := h'
    obtain ⟨a1, a2, a3⟩ := kvsOf_ok (P := P) (w := w) h3
    have hk : (mixKind P w).is (.inl k) e.key = true := by
      split at h1
      · rename_i i t ei
        rw [ei]
        have := of_decide_eq_true h1
        subst this
        exact mixKind_int P w i t
      · cases h1
    refine ⟨fun e' he => ?_, .cons hk rfl a2, by rw [kvsOf, List.map_cons, List.map_cons, a3]⟩
    rcases List.mem_cons.mp he with q | q
    · subst q
      exact ⟨.inl k, hk, of_decide_eq_true h2⟩
    · exact a1 e' q
theorem valueAt_some {kvs : List (Key × Value)} {ks : List Int} (h : kvs.map (·.1) = ks.map Sum.inl) (i : Int) : (valueAt kvs (.inl i : Key)).isSome = decide (i ∈ ks) := by
  induction kvs generalizing ks with
  | nil =>
    cases ks with
    | nil => rfl
    | cons k ks => cases h
  | cons p kvs ih =>
    cases ks with
    | nil => cases h
    | cons k ks =>
      rw [List.map_cons, List.map_cons] at h
      injection h with h1 h2
      have ih' := ih h2
      unfold valueAt at ih' ⊢
      rw [List.find?_cons]
      by_cases e : i = k
      · subst e
        rw [h1]
        simp
      · rw [h1]
        have ne : decide ((Sum.inl k : Key) = Sum.inl i) = false := decide_eq_false fun q => e (Sum.inl.inj q).symm
        rw [ne]
        simp only [List.mem_cons, e, false_or]
        exact ih'
theorem op_inK {X : Cx} {p : Addr} {ks : List Int} (D : KInts X.K p ks) : OpR X (compareOp .In) (fun x y H Q => ∃ i, x = .int i ∧ y = .ref p ∧ Q (.bl (decide (i ∈ ks))) H) := by
  intro pins s σ H x y v u Q I rx ry ⟨i, e1, e2, q⟩
  subst e1 e2
  obtain ⟨t, rfl⟩ := rx
  cases ry
  obtain ⟨es, n, hl, he⟩ := D.ex
  obtain ⟨a1, a2, a3⟩ := kvsOf_ok (P := X.prog) (w := X.w) he
  have hd : s.heap.DictOf (mixKind X.prog X.w) p (kvsOf es.toList ks) := ⟨_, es, n, I.kIn p _ hl, ⟨rfl, rfl, rfl⟩, rfl, fun e h => a1 e (by simpa using h), a2, by
    rw [a3]
    exact List.pairwise_map.mpr (D.nd.imp fun h q => h (Sum.inl.inj q))⟩
  refine wpAny_in_of (knd := mixKind X.prog X.w) (k := .inl i) (mixKind_int _ _ i t) D.ns hd.mapOf ?_
  rw [valueAt_some a3]
  exact ⟨.bl _, H, I.tok _, rfl, q⟩
theorem se_inK {X : Cx} {C : CC} {W : WX} {a : Expr} {fa : FE} {x : Str} {p : Addr} {ks : List Int} {pos np : Pos} (D : KInts X.K p ks) (ha : SE X C W a fa) (hg : Gl X x) (hm : X.mg x = some (.ref p)) (hb : behindInMarks .In (.Name x np) = false := by rfl) (hd : (x == ("__debug__" : Str)) = false := by decide) :
    SE X C W (.Compare a [.In] [.Name x np] pos) (evInK ks fa) := PE_imp (pe_cmpR (op_inK D) ha (pe_glob (v := .ref p) hg hm rfl hd) hb) fun σ H Q ⟨z, ρ, M, rm, re, h⟩ => by
  refine tE_of rm re h fun d M1 z1 H1 v r1 re1 x1 hd h1 => ?_
  obtain ⟨r, e, q⟩ := lift_wp h1
  dsimp only at e
  split at e
  · cases e
    cases hd
    exact ⟨_, rfl, rfl, q.here r1 (.bl _)⟩
  · cases e
end Nv
set_option maxRecDepth 100000
/-! NvH: short words for the texts that a program of ours prints. -/
namespace Nv
open PySem PySem.Spec L2
theorem hu64 {A : Around} {k : Nat} (hr : Room k A) : A.units + 64 < cLine := by have := hr.un; omega
theorem hu66 {A : Around} {k : Nat} (hr : Room k A) : A.units + 66 < cLine := by have := hr.un; omega
section
variable {X : Cx} {C : CC} {W : WX} {a b c e o tg iter : Expr} {es : List Expr} {fa fb fc fe fo : FE} {fs : FA} {pos p apos : Pos} {st : Stmt} {k : Nat} {ps : List Str} {g : Fn} {x m : Str}
theorem se_ix (ha : SE X C W a fa) (hb : SE X C W b fb) (hs : PlainIx b := by exact fun _ _ => rfl) : SE X C W (.Subscript a b pos) (evOp2 dIx fa fb) := PE_imp (pe_ix ix_U ha hb hs) fun σ H Q h => te_op2 os_ix h
theorem se_b {id : String} {r : List V → Hp → VK → Prop} {f : Mem → List D → Option D} (hc : CallR X (.builtin id) r) (hs : BS X.K C f r) (hg : Gl X x) (hm : X.mg x = none) (hv : bootBuiltins x = some (.builtin id)) (ha : SA X C W (e :: es) fs) (hn : x ≠ "__name__" := by decide) (hdb : (x == ("__debug__" : Str)) = false := by decide)
    (he : starEach (e :: es) X.env = (false, eval e X.env) :: starEach es X.env := by rfl) (hpl : (backTo pos (starEach es X.env)).any (·.1) = false := by rfl) : SE X C W (.Call (.Name x p) (e :: es) [] pos) (evB f fs) := PE_imp (pe_callB hc hg hm hv ha hn hdb he hpl) fun σ H Q h => te_B hs h
theorem se_bT {T : String} {r : List V → Hp → VK → Prop} {f : Mem → List D → Option D} (hc : CallR X (.type T) r) (hs : BS X.K C f r) (hg : Gl X x) (hm : X.mg x = none) (hv : bootBuiltins x = some (.type T)) (ha : SA X C W (e :: es) fs) (hn : x ≠ "__name__" := by decide) (hdb : (x == ("__debug__" : Str)) = false := by decide)
    (he : starEach (e :: es) X.env = (false, eval e X.env) :: starEach es X.env := by rfl) (hpl : (backTo pos (starEach es X.env)).any (·.1) = false := by rfl) : SE X C W (.Call (.Name x p) (e :: es) [] pos) (evB f fs) := PE_imp (pe_callTy hc hg hm hv ha hn hdb he hpl) fun σ H Q h => te_B hs h
/-- a, b = e1, e2: locals -/
theorem ss_par2 {i j : Nat} (h : PS X st (tPar i j (tCons (tE X.K C W fa) (tCons (tE X.K C W fb) tNil)))) : SS X C W st (sTg (.tup [.nm i, .nm j]) (evTup (evCons fa (evCons fb evNil)))) := PS_imp h fun D σ H ⟨z, ρ, M, rm, re, h⟩ => by
  have e : ∀ ρ M, sTg (.tup [.nm i, .nm j]) (evTup (evCons fa (evCons fb evNil))) ρ M = (fa ρ M).st ρ fun x M1 => (fb ρ M1).st ρ fun y M2 => .ok (.nx ((ρ.set i (some x)).set j (some y))) M2 := fun ρ M => by
    unfold sTg evTup evCons evNil
    cases fa ρ M with
    | ok x M1 =>
      dsimp only [R.bind]
      cases e2 : fb ρ M1 with
      | ok y M2 => simp only [R.st, e2, Tg.put, Tg.puts, Option.bind]
      | exc c v m => simp only [R.st, e2]
      | bad => simp only [R.st, e2]
    | exc c v m => rfl
    | bad => rfl
  rw [e] at h
  exact tE_st rm re h fun d M1 z1 H1 v r1 re1 x1 hd h1 => tE_st r1 re1 h1 fun d2 M2 z2 H2 v2 r2 re2 x2 hd2 h2 => ⟨v, v2, rfl, h2 z2 H2 r2 .refl _ ((re2.set i (x2.rd _ _ hd)).set j hd2)⟩
end
/-! ### what stands behind the top -/
/-- a def of the module -/
structure DF (K : PySem.W.Frag) (mg : Str → Option Value) (x : Str) (ps : List Str) (st : Stmt) : Prop where
  ex : ∃ f fd, Fun K x x st f fd ∧ (∀ us : List Value, us.length = ps.length → bindArgs fd ⟨us, []⟩ = pure (ps.zip us)) ∧ mg x = some (.ref f)
theorem DF.mk' {K : PySem.W.Frag} {h : Heap} {mg : Str → Option Value} {x : Str} {ps : List Str} {st : Stmt} {f : Addr} {oc kV dc pm cd ct : Value} {od an : Option Addr} {sl : Array (Option Value)} (X : K.In h) (G : h.Ns mainGlobals mg)
    (a : PySem.W.nsIn K mainGlobals x = some (some (.ref f))) (l : K.lookup f = some ⟨oc, od, .func (PySem.W.fnOf x x (defArgs st) (defBody st) (defScope st) .none kV dc pm an cd ct), sl⟩) (c : PySem.W.codeIn K cd x = true) (k : PySem.W.keepIn K (.ref f) = true)
    (b : ∀ us : List Value, us.length = ps.length → bindArgs (PySem.W.fnOf x x (defArgs st) (defBody st) (defScope st) .none kV dc pm an cd ct) ⟨us, []⟩ = pure (ps.zip us)) : DF K mg x ps st := ⟨f, _, fun_mk l c k, b, PySem.W.mg_of X G a⟩
/-- its meaning -/
structure Dn (P : Program) (w : World) (K : PySem.W.Frag) (mg : Str → Option Value) (base : Heap) (C : CC) (k : Nat) (x : Str) (ps : List Str) (g : Fn) : Prop where
  ex : ∃ f fd, mg x = some (.ref f) ∧ Fd P w K mg base C k f fd ps g ∧ ∃ oc od sl, K.lookup f = some ⟨oc, od, .func fd, sl⟩
/-- what stands at the address f is fd -/
theorem fun_lk {K : PySem.W.Frag} {x q : Str} {st : Stmt} {f : Addr} {fd : FuncData} (F : Fun K x q st f fd) : ∃ oc od sl, K.lookup f = some ⟨oc, od, .func fd, sl⟩ := by
  obtain ⟨⟨oc, od, kV, doc, pm, an, cdv, ct, osl, rfl, l, c⟩, k⟩ := F
  exact ⟨oc, od, osl, l⟩
/-- a def that is called by keywords alone -/
structure DK (K : PySem.W.Frag) (mg : Str → Option Value) (x : Str) (ps ks : List Str) (gg : List Value → List Value → List Value) (gV : List V → List V → List V) : Prop where
  ex : ∃ f fd oc od sl, mg x = some (.ref f) ∧ K.lookup f = some ⟨oc, od, .func fd, sl⟩ ∧ KBinds K fd ps ks gg gV
theorem DK.mk' {K : PySem.W.Frag} {h : Heap} {mg : Str → Option Value} {x : Str} (q : Str) (st : Stmt) {ps ks : List Str} {f : Addr} {oc kV dc pm cd ct : Value} {od an : Option Addr} {sl : Array (Option Value)} {gg : List Value → List Value → List Value} {gV : List V → List V → List V} (X : K.In h) (G : h.Ns mainGlobals mg)
    (a : PySem.W.nsIn K mainGlobals x = some (some (.ref f))) (l : K.lookup f = some ⟨oc, od, .func (PySem.W.fnOf q q (defArgs st) (defBody st) (defScope st) .none kV dc pm an cd ct), sl⟩)
    (b : KBinds K (PySem.W.fnOf q q (defArgs st) (defBody st) (defScope st) .none kV dc pm an cd ct) ps ks gg gV) : DK K mg x ps ks gg gV := ⟨f, _, oc, od, sl, PySem.W.mg_of X G a, l, b⟩
structure DnG (P : Program) (w : World) (K : PySem.W.Frag) (mg : Str → Option Value) (base : Heap) (C : CC) (k : Nat) (x : Str) (ps : List Str) (g : Fn) : Prop where
  ex : ∃ f fd, mg x = some (.ref f) ∧ FnG P w K mg base C k f fd ps g ∧ ∃ oc od sl, K.lookup f = some ⟨oc, od, .func fd, sl⟩
section
variable {P : Program} {w : World} {K : PySem.W.Frag} {mg : Str → Option Value} {base : Heap} {C : CC} {k nl : Nat} {x : Str} {N ps : List Str} {st : Stmt} {body : FS} {g : Fn}
theorem Dn.toG (D : Dn P w K mg base C k x ps g) : DnG P w K mg base C k x ps g := let ⟨f, fd, m, F, l⟩ := D.ex; ⟨f, fd, m, F.g, l⟩
theorem dn_ok (D : DF K mg x ps st) (S : FnScope N ps (defScope st)) (hN : N.length = ps.length + nl) (hg : g = fnT ps.length nl body ∨ g = fnK ps.length nl body)
    (hb : ∀ (f : Addr) (cdv : Value) (A : Around) (outer : List PySem.Env) (s : Shared) (H : Hp) (E : XK), Room k (A.deeper (PyProof.Rows.envOfC x (defScope st) s.heap.objs.size f cdv)) → SSs (cxOf (L2.CX P w) P w K mg base N x (defScope st) f cdv A outer s H E) C (Wd E) (defBody st) body) :
    Dn P w K mg base C (k + 1) x ps g := by
  obtain ⟨f, fd, F, b, m⟩ := D.ex
  exact ⟨f, fd, m, ⟨fn_ok F S hN (hb f) hg, .all b, F.kp⟩, fun_lk F⟩
theorem dn_okG (D : DF K mg x ps st) (S : FnScope N ps (defScope st)) (hN : N.length = ps.length + nl) (hg : g = fnT ps.length nl body ∨ g = fnK ps.length nl body)
    (hb : ∀ (f : Addr) (cdv : Value) (A : Around) (outer : List PySem.Env) (s : Shared) (H : Hp) (E : XK), Room k (A.deeper (PyProof.Rows.envOfC x (defScope st) s.heap.objs.size f cdv)) → A.guards = some [] → SSs (cxOf (L2.CX P w) P w K mg base N x (defScope st) f cdv A outer s H E) C (Wd E) (defBody st) body) :
    DnG P w K mg base C (k + 1) x ps g := by
  obtain ⟨f, fd, F, b, m⟩ := D.ex
  exact ⟨f, fd, m, fnG_of F S (.all b) hN (hb f) hg, fun_lk F⟩
/-- a method of the class numbered c -/
structure MF (K : PySem.W.Frag) (C : CC) (c : Nat) (m q : Str) (ps : List Str) (st : Stmt) : Prop where
  cl : Cls K (C.ca c)
  nf : m ∉ C.flds c
  ex : ∃ f fd, Meth K (C.ca c) m f ∧ Fun K m q st f fd ∧ Binds K fd ps []
theorem MF.mk' {c : Nat} {m q : Str} {f ca : Addr} {oc kV dc pm cd ct : Value} {od an : Option Addr} {sl : Array (Option Value)} (hc : C.ca c = ca) (cl : Cls K ca) (nf : m ∉ C.flds c) (a : PySem.W.findIn K (.ref ca) m = some (some (.ref f))) (i : PySem.W.isFn K (.ref f) = true)
    (l : K.lookup f = some ⟨oc, od, .func (PySem.W.fnOf m q (defArgs st) (defBody st) (defScope st) .none kV dc pm an cd ct), sl⟩) (cc : PySem.W.codeIn K cd q = true) (k : PySem.W.keepIn K (.ref f) = true)
    (b : ∀ us : List Value, us.length = ps.length → bindArgs (PySem.W.fnOf m q (defArgs st) (defBody st) (defScope st) .none kV dc pm an cd ct) ⟨us, []⟩ = pure (ps.zip us)) : MF K C c m q ps st := by subst hc; exact ⟨cl, nf, f, _, ⟨a, i, k⟩, fun_mk l cc k, .all b⟩
theorem md_ok {c : Nat} {m q : Str} (D : MF K C c m q ps st) (S : FnScope N ps (defScope st)) (hN : N.length = ps.length + nl) (hg : g = fnT ps.length nl body ∨ g = fnK ps.length nl body)
    (hb : ∀ (f : Addr) (cdv : Value) (A : Around) (outer : List PySem.Env) (s : Shared) (H : Hp) (E : XK), Room k (A.deeper (PyProof.Rows.envOfC q (defScope st) s.heap.objs.size f cdv)) → SSs (cxOf (L2.CX P w) P w K mg base N q (defScope st) f cdv A outer s H E) C (Wd E) (defBody st) body) :
    Md P w K mg base C (k + 1) c m ps g := by
  obtain ⟨f, fd, hm, F, b⟩ := D.ex
  exact ⟨D.cl, D.nf, f, fd, hm, fn_ok F S hN (hb f) hg, b, F.kp⟩
/-- __init__ of the class numbered c, which is called x -/
structure IF (K : PySem.W.Frag) (C : CC) (mg : Str → Option Value) (c : Nat) (x q : Str) (ps : List Str) (st : Stmt) : Prop where
  gl : mg x = some (.ref (C.ca c))
  ex : ∃ f fd, Mk K (C.ca c) f ∧ Fun K "__init__" q st f fd ∧ Binds K fd ps []
theorem IF.mk' {c : Nat} {q : Str} {f ca : Addr} {oc kV dc pm cd ct : Value} {od an : Option Addr} {sl : Array (Option Value)} (hc : C.ca c = ca) (gl : mg x = some (.ref ca)) (mk : PySem.W.makesIn K ca = true) (kc : PySem.W.keepIn K (.ref ca) = true) (a : PySem.W.findIn K (.ref ca) "__init__" = some (some (.ref f))) (i : PySem.W.isFn K (.ref f) = true)
    (l : K.lookup f = some ⟨oc, od, .func (PySem.W.fnOf "__init__" q (defArgs st) (defBody st) (defScope st) .none kV dc pm an cd ct), sl⟩) (cc : PySem.W.codeIn K cd q = true) (k : PySem.W.keepIn K (.ref f) = true)
    (b : ∀ us : List Value, us.length = ps.length → bindArgs (PySem.W.fnOf "__init__" q (defArgs st) (defBody st) (defScope st) .none kV dc pm an cd ct) ⟨us, []⟩ = pure (ps.zip us)) : IF K C mg c x q ps st := by subst hc; exact ⟨gl, f, _, ⟨mk, a, i, kc⟩, fun_mk l cc k, .all b⟩
theorem mks_ok {c : Nat} {q : Str} (D : IF K C mg c x q ps st) (S : FnScope N ps (defScope st)) (hN : N.length = ps.length + nl) (hg : g = fnT ps.length nl body ∨ g = fnK ps.length nl body)
    (hb : ∀ (f : Addr) (cdv : Value) (A : Around) (outer : List PySem.Env) (s : Shared) (H : Hp) (E : XK), Room k (A.deeper (PyProof.Rows.envOfC q (defScope st) s.heap.objs.size f cdv)) → SSs (cxOf (L2.CX P w) P w K mg base N q (defScope st) f cdv A outer s H E) C (Wd E) (defBody st) body) :
    Mks P w K mg base C (k + 1) c x ps g := by
  obtain ⟨f, fd, hm, F, b⟩ := D.ex
  exact ⟨D.gl, f, fd, hm, fn_ok F S hN (hb f) hg, b, F.kp⟩
/-- a property -/
structure PF (K : PySem.W.Frag) (C : CC) (c : Nat) (m q : Str) (ps : List Str) (st : Stmt) : Prop where
  cl : Cls K (C.ca c)
  ex : ∃ p f fd, PropOf K (C.ca c) m p f ∧ Fun K m q st f fd ∧ Binds K fd ps []
theorem PF.mk' {c : Nat} {m q : Str} {p f ca : Addr} {rest : List Value} {oc kV dc pm cd ct : Value} {od an : Option Addr} {sl : Array (Option Value)} (hc : C.ca c = ca) (cl : Cls K ca) (a : PySem.W.findIn K (.ref ca) m = some (some (.ref p))) (g1 : PySem.W.specialIn K (.ref p) "__get__" = some (some (.builtin "property.__get__"))) (g2 : PySem.W.takesIn K (.ref p) = some true)
    (g3 : PySem.W.recIn K p "property" = some (.ref f :: rest)) (l : K.lookup f = some ⟨oc, od, .func (PySem.W.fnOf m q (defArgs st) (defBody st) (defScope st) .none kV dc pm an cd ct), sl⟩) (cc : PySem.W.codeIn K cd q = true) (k : PySem.W.keepIn K (.ref f) = true)
    (b : ∀ us : List Value, us.length = ps.length → bindArgs (PySem.W.fnOf m q (defArgs st) (defBody st) (defScope st) .none kV dc pm an cd ct) ⟨us, []⟩ = pure (ps.zip us)) : PF K C c m q ps st := by subst hc; exact ⟨cl, p, f, _, ⟨a, g1, g2, rest, g3⟩, fun_mk l cc k, .all b⟩
theorem pr_ok {c : Nat} {m q : Str} (D : PF K C c m q ps st) (S : FnScope N ps (defScope st)) (hN : N.length = ps.length + nl) (hg : g = fnT ps.length nl body ∨ g = fnK ps.length nl body)
    (hb : ∀ (f : Addr) (cdv : Value) (A : Around) (outer : List PySem.Env) (s : Shared) (H : Hp) (E : XK), Room k (A.deeper (PyProof.Rows.envOfC q (defScope st) s.heap.objs.size f cdv)) → SSs (cxOf (L2.CX P w) P w K mg base N q (defScope st) f cdv A outer s H E) C (Wd E) (defBody st) body) :
    Pr P w K mg base C (k + 1) c m ps g := by
  obtain ⟨p, f, fd, hp, F, b⟩ := D.ex
  exact ⟨D.cl, p, f, fd, hp, fn_ok F S hN (hb f) hg, b, F.kp⟩
/-- own == -/
structure QF (K : PySem.W.Frag) (C : CC) (c : Nat) (q : Str) (ps : List Str) (st : Stmt) : Prop where
  ex : ∃ f fd, PySem.W.findIn K (.ref (C.ca c)) "__eq__" = some (some (.ref f)) ∧ PySem.W.isFn K (.ref f) = true ∧ Fun K "__eq__" q st f fd ∧ Binds K fd ps []
theorem QF.mk' {c : Nat} {q : Str} {f ca : Addr} {oc kV dc pm cd ct : Value} {od an : Option Addr} {sl : Array (Option Value)} (hc : C.ca c = ca) (a : PySem.W.findIn K (.ref ca) "__eq__" = some (some (.ref f))) (i : PySem.W.isFn K (.ref f) = true)
    (l : K.lookup f = some ⟨oc, od, .func (PySem.W.fnOf "__eq__" q (defArgs st) (defBody st) (defScope st) .none kV dc pm an cd ct), sl⟩) (cc : PySem.W.codeIn K cd q = true) (k : PySem.W.keepIn K (.ref f) = true)
    (b : ∀ us : List Value, us.length = ps.length → bindArgs (PySem.W.fnOf "__eq__" q (defArgs st) (defBody st) (defScope st) .none kV dc pm an cd ct) ⟨us, []⟩ = pure (ps.zip us)) : QF K C c q ps st := by subst hc; exact ⟨f, _, a, i, fun_mk l cc k, .all b⟩
theorem qd_ok {c : Nat} {q : Str} (D : QF K C c q ps st) (S : FnScope N ps (defScope st)) (hN : N.length = ps.length + nl) (hg : g = fnT ps.length nl body ∨ g = fnK ps.length nl body)
    (hb : ∀ (f : Addr) (cdv : Value) (A : Around) (outer : List PySem.Env) (s : Shared) (H : Hp) (E : XK), Room k (A.deeper (PyProof.Rows.envOfC q (defScope st) s.heap.objs.size f cdv)) → SSs (cxOf (L2.CX P w) P w K mg base N q (defScope st) f cdv A outer s H E) C (Wd E) (defBody st) body) :
    Qd P w K mg base C (k + 1) c ps g := by
  obtain ⟨f, fd, h1, h2, F, b⟩ := D.ex
  exact ⟨f, fd, h1, h2, fn_ok F S hN (hb f) hg, b, F.kp⟩
end
section
variable {X : Cx} {C : CC} {W : WX} {e : Expr} {es : List Expr} {fs : FA} {pos p : Pos} {k : Nat} {ps : List Str} {g : Fn} {x y : Str}
/-- f(..): x is the name that is called, y the def's -/
theorem se_callN (D : Dn X.prog X.w X.K X.mg X.base C k x ps g) (hr : Room k X.A) (tk : Takes X W) (hg : Gl X x) (ha : SA X C W (e :: es) fs) (hl : LenA fs ps.length)
    (hdb : (x == ("__debug__" : Str)) = false := by decide) (he : starEach (e :: es) X.env = (false, eval e X.env) :: starEach es X.env := by rfl) (hpl : (backTo pos (starEach es X.env)).any (·.1) = false := by rfl) :
    SE X C W (.Call (.Name x p) (e :: es) [] pos) (evCall g fs) := by
  obtain ⟨f, fd, m, F, _⟩ := D.ex
  exact se_call F hr tk hg m ha hl hdb he hpl
theorem se_callNG (D : DnG X.prog X.w X.K X.mg X.base C k x ps g) (hr : Room k X.A) (hgd : X.A.guards = some []) (tk : Takes X W) (hg : Gl X x) (ha : SA X C W (e :: es) fs) (hl : LenA fs ps.length)
    (hdb : (x == ("__debug__" : Str)) = false := by decide) (he : starEach (e :: es) X.env = (false, eval e X.env) :: starEach es X.env := by rfl) (hpl : (backTo pos (starEach es X.env)).any (·.1) = false := by rfl) :
    SE X C W (.Call (.Name x p) (e :: es) [] pos) (evCall g fs) := by
  obtain ⟨f, fd, m, F, _⟩ := D.ex
  exact se_callG F hr hgd tk hg m ha hl hdb he hpl
/-- f(k = v, ..) -/
theorem se_callKN {kws : List Keyword} {ks : List Str} {gg : List Value → List Value → List Value} {gV : List V → List V → List V} {pd : List D → List D} {n : Nat} (D : Dn X.prog X.w X.K X.mg X.base C k x ps g) (hr : Room k X.A) (tk : Takes X W) (hg : Gl X x) (B : DK X.K X.mg x ps ks gg gV) (hp : Perm pd gV n ps.length) (ha : SK X C W kws fs) (hl : LenA fs n)
    (hall : (backToKw pos (keywordEach kws X.env)).all (·.1.isSome) = true := by rfl) (hks : (backToKw pos (keywordEach kws X.env)).filterMap (·.1) = ks := by rfl)
    (hdb : (x == ("__debug__" : Str)) = false := by decide) (hpl : ((backTo pos (starEach [] X.env)).any (·.1) || (backToKw pos (keywordEach kws X.env)).any (·.1.isNone)) = false := by rfl) :
    SE X C W (.Call (.Name x p) [] kws pos) (evCallP g pd fs) := by
  obtain ⟨f, fd, m, F, oc, od, sl, l⟩ := D.ex
  obtain ⟨f', fd', oc', od', sl', m', l', kb⟩ := B.ex
  rw [m] at m'
  cases m'
  rw [l] at l'
  cases l'
  exact se_callK F hr tk hg m kb hp ha hl hall hks hdb hpl
end
section
variable {X : Cx} {C : CC} {W : WX} {st : Stmt} {F : FS}
theorem ss_lock {i : Nat} (h : SS X C W st F) : SS X C W st (sLock i F) := PS_imp (ps_lock h) fun D σ H ⟨z, ρ, M, rm, re, h⟩ => by
  unfold sLock at h
  split at h
  · rename_i l hl
    split at h
    · rename_i kvs hk
      unfold lockAt at hk
      split at hk
      · rename_i hm
        cases hk
        obtain ⟨v, hv, hd⟩ := re.at_ i _ hl
        cases hd with
        | @ref _ a ha =>
          obtain ⟨vs, h1, h2⟩ := rm.ob _ _ _ hm ha
          refine ⟨a, .dK vs, h1, trivial, fun od => ?_⟩
          have xs := ext_set (o := .frz od (.dK vs)) rm ha hm rfl
          have rs := rm_set (o := .frz od (.dK vs)) (m := .fdct kvs) rm ha hm ⟨vs, od, upd_same, h2.all xs.rd⟩
          refine ⟨z, ρ, M.set l (.fdct kvs), rs, xs.re re, R.wp_mono (R.wp_bind.mp h) (fun o M1 q z1 H1 r1 x1 => ?_) fun c v m q => q⟩
          have hfz : H1 a = some (.frz od (.dK vs)) := x1.fz _ _ _ upd_same
          cases o with
          | nx ρ1 =>
            intro σ1 re1
            refine ⟨hfz, ?_⟩
            dsimp only at q
            split at q
            · rename_i kvs' hm1
              have ha1 : z1.i[l]? = some a := by
                cases x1.rd _ _ (RD.ref (K := X.K) (H := upd H a (.frz od (.dK vs))) ha) with
                | ref h => exact h
              obtain ⟨vs', o', e1, e2⟩ := r1.ob _ _ _ hm1 ha1
              rw [hfz] at e1
              cases e1
              obtain ⟨s1, s2⟩ := rd_set (o := .dK vs) r1 ha1 hm1
              have r2 := rm_set (o := .dK vs) (m := .dct kvs') r1 ha1 hm1 ⟨vs, upd_same, e2.all s1⟩
              have x2 : Ext X.K z H z1 (upd H1 a (.dK vs)) := ⟨x1.b.trans xs.b, fun d v hh => s1 _ _ (x1.rd _ _ (xs.rd _ _ hh)), fun b hb => (s2 b (by rw [x1.b]; exact hb)).trans ((x1.ls b hb).trans (xs.ls b hb)), fun b o u hh => by
                have hb : b ≠ a := fun q => by
                  subst q
                  rw [h1] at hh
                  cases hh
                rw [upd_ne hb]
                exact x1.fz _ _ _ (xs.fz _ _ _ hh)⟩
              exact q z1 _ r2 x2 σ1 ⟨re1.len, fun i d hh => let ⟨v, e, q⟩ := re1.at_ i d hh; ⟨v, e, s1 _ _ q⟩⟩
            · exact q.elim
          | rt d => exact q.elim
          | bk ρ1 => exact q.elim
          | ct ρ1 => exact q.elim
          | ex ρ1 c d => exact q.elim
      · cases hk
    · exact h.elim
  · exact h.elim
end
/-- the classes' addresses, their fields' names, the errors' addresses -/
def mkC (cas : List Addr) (fls : List (List Str)) (xas : List Addr) : CC := ⟨⟨fun i => cas.getD i 0, fun i => fls.getD i []⟩, fun i => xas.getD i 0⟩
theorem na_of {K : PySem.W.Frag} {C : CC} {c : Nat} {ca : Addr} {f : Str} (hc : C.ca c = ca) (h : PySem.W.findIn K (.ref ca) f = some none) : NoAttr K (C.ca c) f := by subst hc; exact h
theorem cls_of {K : PySem.W.Frag} {C : CC} {c : Nat} {ca : Addr} (hc : C.ca c = ca) (h : Cls K ca) : Cls K (C.ca c) := by subst hc; exact h
theorem ic_of {K : PySem.W.Frag} {C : CC} {c : Nat} {ca : Addr} (hc : C.ca c = ca) (h : Cls K ca) (ha : PySem.W.findIn K (.ref ca) "__class__" = some (some (.builtin "object.__class__"))) (hn : PySem.W.specialIn K (.builtin "object.__class__") "__get__" = some (some (.builtin "getset_descriptor.__get__"))) (ht : PySem.W.takesIn K (.builtin "object.__class__") = some true)
    (hm : PySem.W.mroIn K ca (.type "object") = some true) : Ic K C c := by subst hc; exact ⟨h, ha, hn, ht, hm⟩
theorem kb_of {K : PySem.W.Frag} {fd : FuncData} {ps ks : List Str} {gg : List Value → List Value → List Value} {gV : List V → List V → List V} (h : ∀ us ws : List Value, (gg us ws).length = ps.length → bindArgs fd ⟨us, ks.zip ws⟩ = pure (ps.zip (gg us ws))) (hr : ∀ {vs : List V} {us : List Value} {zs : List V} {ws : List Value}, Vals vs us → Vals zs ws → Vals (gV vs zs) (gg us ws)) : KBinds K fd ps ks gg gV :=
  ⟨fun s us ws _ hl => .of_eq (h us ws hl), hr⟩
/-- the end: the law's def -/
theorem fin_F {P : Program} {w : World} {K : PySem.W.Frag} {mg : Str → Option Value} {C : CC} {x p : Str} {st : Stmt} {fa : Addr} {k : Nat} {g : Fn} (hmg : mg x = some (.ref fa)) (D : DF K mg x [p] st) (F : ∀ base : Heap, DnG P w K mg base C k x [p] g) :
    ∃ (C : CC) (fd : FuncData), (∀ (s : Shared) (u : Value), BindsTo s fd ⟨[u], []⟩ [(p, u)]) ∧ ∀ base : Heap, K.In base → base.Ns mainGlobals mg → FnG P w K mg base C k fa fd [p] g := by
  obtain ⟨f, fd, F0, b, m⟩ := D.ex
  rw [hmg] at m
  cases m
  obtain ⟨oc, od, sl, l⟩ := fun_lk F0
  refine ⟨C, fd, fun s u => .of_eq (b [u] rfl), fun base _ _ => ?_⟩
  obtain ⟨f', fd', m', F', oc', od', sl', l'⟩ := (F base).ex
  rw [hmg] at m'
  cases m'
  rw [l] at l'
  cases l'
  exact F'
end Nv
set_option maxRecDepth 100000
/-! F93: the meanings of the defs, printed by gen.py. -/
namespace Nv
def perm_1_0 : List D → List D
  | [v0, v1] => [v1, v0]
  | _ => []
/- is_integer: slots 0 value -/
def body_is_integer : FS := (sRet (evAnd (evIsI "int" (evVar 0)) (evNot (evIsI "bool" (evVar 0)))))
def run_is_integer : Fn := fnT 1 0 body_is_integer
/- is_modulus: slots 0 value -/
def body_is_modulus : FS := (sRet (evAnd (evCall run_is_integer (evCons (evVar 0) evNil)) (evInK [2, 3, 5, 6, 7, 10, 11, 13, 14, 15] (evVar 0))))
def run_is_modulus : Fn := fnT 1 0 body_is_modulus
/- are_pairs: slots 0 value, 1 modulus, 2 pair, 3 part, 4 at -/
def body_are_pairs : FS := (sSeq (sIf (evNot (evIsI "tuple" (evVar 0))) (sRet (evC (.bl false))) sSkip) (sSeq (sFor (itSeq (evVar 0)) (.nm 2) (sSeq (sIf (evOr (evNot (evIsI "tuple" (evVar 2))) (evOr (evOp2 dNe (evB bLen (evCons (evVar 2) evNil)) (evC (.int 2))) (evNot (evB bAll (evCons (evComp (itSeq (evVar 2)) (.nm 3) evTrue (evCall run_is_integer (evCons (evVar 3) evNil)) [3]) evNil))))) (sRet (evC (.bl false))) sSkip) (sIf (evNot (evChain dLe dLt (evC (.int 1)) (evOp2 dIx (evVar 2) (evC (.int 1))) (evVar 1))) (sRet (evC (.bl false))) sSkip)) [2, 3]) (sRet (evB bAll (evCons (evComp (itR1 (evOp2 dSub (evB bLen (evCons (evVar 0) evNil)) (evC (.int 1)))) (.nm 4) evTrue (evOp2 dLt (evOp2 dIx (evOp2 dIx (evVar 0) (evVar 4)) (evC (.int 0))) (evOp2 dIx (evOp2 dIx (evVar 0) (evOp2 dAdd (evVar 4) (evC (.int 1)))) (evC (.int 0)))) [4]) evNil)))))
def run_are_pairs : Fn := fnT 2 3 body_are_pairs
/- is_of_modulus: slots 0 value -/
def body_is_of_modulus : FS := (sRet (evAnd (evIsI "tuple" (evVar 0)) (evAnd (evOp2 dEq (evB bLen (evCons (evVar 0) evNil)) (evC (.int 2))) (evAnd (evCall run_is_modulus (evCons (evOp2 dIx (evVar 0) (evC (.int 0))) evNil)) (evIsI "tuple" (evOp2 dIx (evVar 0) (evC (.int 1))))))))
def run_is_of_modulus : Fn := fnT 1 0 body_is_of_modulus
/- is_a_rule: slots 0 value -/
def body_is_a_rule : FS := (sRet (evAnd (evCall run_is_of_modulus (evCons (evVar 0) evNil)) (evCall run_are_pairs (evCons (evOp2 dIx (evVar 0) (evC (.int 1))) (evCons (evOp2 dIx (evVar 0) (evC (.int 0))) evNil)))))
def run_is_a_rule : Fn := fnT 1 0 body_is_a_rule
/- is_a_row: slots 0 value -/
def body_is_a_row : FS := (sRet (evAnd (evCall run_is_of_modulus (evCons (evVar 0) evNil)) (evCall run_are_pairs (evCons (evOp2 dIx (evVar 0) (evC (.int 1))) (evCons (evOp2 dIx (evVar 0) (evC (.int 0))) evNil)))))
def run_is_a_row : Fn := fnT 1 0 body_is_a_row
/- need_rule: slots 0 rule -/
def body_need_rule : FS := (sIf (evNot (evCall run_is_a_rule (evCons (evVar 0) evNil))) sNever sSkip)
def run_need_rule : Fn := fnT 1 0 body_need_rule
/- need_row: slots 0 row -/
def body_need_row : FS := (sIf (evNot (evCall run_is_a_row (evCons (evVar 0) evNil))) sNever sSkip)
def run_need_row : Fn := fnT 1 0 body_need_row
/- need_same: slots 0 one, 1 other -/
def body_need_same : FS := (sIf (evOp2 dNe (evOp2 dIx (evVar 0) (evC (.int 0))) (evOp2 dIx (evVar 1) (evC (.int 0)))) sNever sSkip)
def run_need_same : Fn := fnT 2 0 body_need_same
/- collected: slots 0 pairs, 1 modulus, 2 found, 3 place, 4 value -/
def body_collected : FS := (sSeq (sSet 2 evDct0) (sSeq (sFor (itSeq (evVar 0)) (.tup [(.nm 3), (.nm 4)]) (sSetIx setKey (evVar 2) (evVar 3) (evOp2 dAdd (evGet2 (evVar 2) (evVar 3) (evC (.int 0))) (evVar 4))) [3, 4]) (sRet (evB bTuple (evCons (evComp (itSeq (evB bSorted (evCons (evVar 2) evNil))) (.nm 3) (evOp2 dNe (evOp2 dMod (evOp2 dGetD (evVar 2) (evVar 3)) (evVar 1)) (evC (.int 0))) (evTup (evCons (evVar 3) (evCons (evOp2 dMod (evOp2 dGetD (evVar 2) (evVar 3)) (evVar 1)) evNil))) [3]) evNil)))))
def run_collected : Fn := fnT 2 3 body_collected
/- plus: slots 0 one, 1 other -/
def body_plus : FS := (sSeq (sExpr (evCall run_need_rule (evCons (evVar 0) evNil))) (sSeq (sExpr (evCall run_need_rule (evCons (evVar 1) evNil))) (sSeq (sExpr (evCall run_need_same (evCons (evVar 0) (evCons (evVar 1) evNil)))) (sRet (evTup (evCons (evOp2 dIx (evVar 0) (evC (.int 0))) (evCons (evCall run_collected (evCons (evOp2 dAdd (evOp2 dIx (evVar 0) (evC (.int 1))) (evOp2 dIx (evVar 1) (evC (.int 1)))) (evCons (evOp2 dIx (evVar 0) (evC (.int 0))) evNil))) evNil)))))))
def run_plus : Fn := fnT 2 0 body_plus
/- behind: slots 0 one, 1 other, 2 pairs, 3 offset, 4 factor, 5 further, 6 number -/
def body_behind : FS := (sSeq (sExpr (evCall run_need_rule (evCons (evVar 0) evNil))) (sSeq (sExpr (evCall run_need_rule (evCons (evVar 1) evNil))) (sSeq (sExpr (evCall run_need_same (evCons (evVar 0) (evCons (evVar 1) evNil)))) (sSeq (sSet 2 (evComp2 (itSeq (evOp2 dIx (evVar 0) (evC (.int 1)))) (.tup [(.nm 3), (.nm 4)]) evTrue (itSeq (evOp2 dIx (evVar 1) (evC (.int 1)))) (.tup [(.nm 5), (.nm 6)]) evTrue (evTup (evCons (evOp2 dAdd (evVar 3) (evVar 5)) (evCons (evOp2 dMul (evVar 4) (evVar 6)) evNil))) [3, 4, 5, 6] [5, 6])) (sRet (evTup (evCons (evOp2 dIx (evVar 0) (evC (.int 0))) (evCons (evCall run_collected (evCons (evVar 2) (evCons (evOp2 dIx (evVar 0) (evC (.int 0))) evNil))) evNil))))))))
def run_behind : Fn := fnT 2 5 body_behind
/- step: slots 0 rule, 1 row, 2 pairs, 3 offset, 4 factor, 5 place, 6 value -/
def body_step : FS := (sSeq (sExpr (evCall run_need_rule (evCons (evVar 0) evNil))) (sSeq (sExpr (evCall run_need_row (evCons (evVar 1) evNil))) (sSeq (sExpr (evCall run_need_same (evCons (evVar 0) (evCons (evVar 1) evNil)))) (sSeq (sSet 2 (evComp2 (itSeq (evOp2 dIx (evVar 0) (evC (.int 1)))) (.tup [(.nm 3), (.nm 4)]) evTrue (itSeq (evOp2 dIx (evVar 1) (evC (.int 1)))) (.tup [(.nm 5), (.nm 6)]) evTrue (evTup (evCons (evOp2 dSub (evVar 5) (evVar 3)) (evCons (evOp2 dMul (evVar 4) (evVar 6)) evNil))) [3, 4, 5, 6] [5, 6])) (sRet (evTup (evCons (evOp2 dIx (evVar 1) (evC (.int 0))) (evCons (evCall run_collected (evCons (evVar 2) (evCons (evOp2 dIx (evVar 1) (evC (.int 0))) evNil))) evNil))))))))
def run_step : Fn := fnT 2 5 body_step
/- added: slots 0 one, 1 other -/
def body_added : FS := (sSeq (sExpr (evCall run_need_row (evCons (evVar 0) evNil))) (sSeq (sExpr (evCall run_need_row (evCons (evVar 1) evNil))) (sSeq (sExpr (evCall run_need_same (evCons (evVar 0) (evCons (evVar 1) evNil)))) (sRet (evTup (evCons (evOp2 dIx (evVar 0) (evC (.int 0))) (evCons (evCall run_collected (evCons (evOp2 dAdd (evOp2 dIx (evVar 0) (evC (.int 1))) (evOp2 dIx (evVar 1) (evC (.int 1)))) (evCons (evOp2 dIx (evVar 0) (evC (.int 0))) evNil))) evNil)))))))
def run_added : Fn := fnT 2 0 body_added
/- places_apart: slots 0 one, 1 other, 2 here, 3 there, 4 found, 5 place -/
def body_places_apart : FS := (sSeq (sTg (.tup [.nm 2, .nm 3]) (evTup (evCons (evDict (evOp2 dIx (evVar 0) (evC (.int 1)))) (evCons (evDict (evOp2 dIx (evVar 1) (evC (.int 1)))) evNil)))) (sSeq (sLock 2 (sSet 4 (evComp (itKeys (evVar 2)) (.nm 5) (evOp2 dNe (evOp2 dGetD (evVar 2) (evVar 5)) (evGet2 (evVar 3) (evVar 5) (evC (.int 0)))) (evVar 5) [5]))) (sRet (evB bSorted (evCons (evOp2 dAdd (evVar 4) (evLock 3 (evComp (itKeys (evVar 3)) (.nm 5) (evOp2 dNotInD (evVar 5) (evVar 2)) (evVar 5) [5]))) evNil)))))
def run_places_apart : Fn := fnT 2 4 body_places_apart
/- Live.__init__: slots 0 self, 1 row -/
def body_Live__init : FS := (sSeq (sExpr (evCall run_need_row (evCons (evVar 1) evNil))) (sSeq (sPutF 0 0 (evVar 0) (evVar 1)) (sSeq (sPutF 0 1 (evVar 0) (evVar 1)) (sSeq (sPutF 0 2 (evVar 0) (evNew evNil)) (sPutF 0 3 (evVar 0) (evNew evNil))))))
def run_Live__init : Fn := fnK 2 0 body_Live__init
/- Live.row: slots 0 self -/
def body_Live_row : FS := (sRet (evFld 0 1 (evVar 0)))
def run_Live_row : Fn := fnT 1 0 body_Live_row
/- Live.modulus: slots 0 self -/
def body_Live_modulus : FS := (sRet (evOp2 dIx (evFld 0 0 (evVar 0)) (evC (.int 0))))
def run_Live_modulus : Fn := fnT 1 0 body_Live_modulus
/- Live.__eq__: slots 0 self, 1 other -/
def body_Live__eq : FS := (sRet (evAnd (evIsC 0 (evVar 1)) (evOp2 dEq (evFld 0 1 (evVar 0)) (evFld 0 1 (evVar 1)))))
def run_Live__eq : Fn := fnT 2 0 body_Live__eq
/- Live._done: slots 0 self, 1 deed, 2 row, 3 changed -/
def body_Live_done : FS := (sSeq (sExpr (evApp (evFld 0 2 (evVar 0)) (evTup (evCons (evVar 1) (evCons (evFld 0 1 (evVar 0)) evNil))))) (sSeq (sSet 3 (evB bLen (evCons (evCall run_places_apart (evCons (evFld 0 1 (evVar 0)) (evCons (evVar 2) evNil))) evNil))) (sSeq (sPutF 0 1 (evVar 0) (evVar 2)) (sRet (evVar 3)))))
def run_Live_done : Fn := fnT 3 1 body_Live_done
/- Live.step: slots 0 self, 1 rule -/
def body_Live_step : FS := (sSeq (sExpr (evCall run_need_rule (evCons (evVar 1) evNil))) (sSeq (sExpr (evCall run_need_same (evCons (evFld 0 1 (evVar 0)) (evCons (evVar 1) evNil)))) (sRet (evMeth 0 run_Live_done (evVar 0) (evCons (evTup (evCons (evC (.str ("step" : PySem.Str))) (evCons (evVar 1) evNil))) (evCons (evCall run_step (evCons (evVar 1) (evCons (evFld 0 1 (evVar 0)) evNil))) evNil))))))
def run_Live_step : Fn := fnT 2 0 body_Live_step
/- Live.add: slots 0 self, 1 row -/
def body_Live_add : FS := (sSeq (sExpr (evCall run_need_row (evCons (evVar 1) evNil))) (sSeq (sExpr (evCall run_need_same (evCons (evFld 0 1 (evVar 0)) (evCons (evVar 1) evNil)))) (sRet (evMeth 0 run_Live_done (evVar 0) (evCons (evTup (evCons (evC (.str ("add" : PySem.Str))) (evCons (evVar 1) evNil))) (evCons (evCall run_added (evCons (evFld 0 1 (evVar 0)) (evCons (evVar 1) evNil))) evNil))))))
def run_Live_add : Fn := fnT 2 0 body_Live_add
/- Live.move: slots 0 self, 1 by, 2 moved, 3 place, 4 value -/
def body_Live_move : FS := (sSeq (sSet 2 (evB bTuple (evCons (evComp (itSeq (evOp2 dIx (evFld 0 1 (evVar 0)) (evC (.int 1)))) (.tup [(.nm 3), (.nm 4)]) evTrue (evTup (evCons (evOp2 dAdd (evVar 3) (evVar 1)) (evCons (evVar 4) evNil))) [3, 4]) evNil))) (sRet (evMeth 0 run_Live_done (evVar 0) (evCons (evTup (evCons (evC (.str ("move" : PySem.Str))) (evCons (evVar 1) evNil))) (evCons (evTup (evCons (evProp 0 run_Live_modulus (evVar 0)) (evCons (evVar 2) evNil))) evNil)))))
def run_Live_move : Fn := fnT 2 3 body_Live_move
/- Live.count: slots 0 self -/
def body_Live_count : FS := (sRet (evB bLen (evCons (evOp2 dIx (evFld 0 1 (evVar 0)) (evC (.int 1))) evNil)))
def run_Live_count : Fn := fnT 1 0 body_Live_count
/- Live.total: slots 0 self, 1 place, 2 value -/
def body_Live_total : FS := (sRet (evOp2 dMod (evB bSum (evCons (evComp (itSeq (evOp2 dIx (evFld 0 1 (evVar 0)) (evC (.int 1)))) (.tup [(.nm 1), (.nm 2)]) evTrue (evVar 2) [1, 2]) evNil)) (evProp 0 run_Live_modulus (evVar 0))))
def run_Live_total : Fn := fnT 1 2 body_Live_total
/- Live.unlike_places: slots 0 self, 1 other -/
def body_Live_unlike_places : FS := (sSeq (sExpr (evCall run_need_same (evCons (evFld 0 1 (evVar 0)) (evCons (evProp 0 run_Live_row (evVar 1)) evNil)))) (sRet (evCall run_places_apart (evCons (evFld 0 1 (evVar 0)) (evCons (evProp 0 run_Live_row (evVar 1)) evNil)))))
def run_Live_unlike_places : Fn := fnT 2 0 body_Live_unlike_places
/- _law_pot: slots 0 _law_script, 1 _law_k, 2 _law_total, 3 _law_other, 4 _law_cell -/
def body_law_pot : FS := (sSeq (sSet 2 (evOp2 dAdd (evOp2 dMul (evC (.int 3)) (evVar 1)) (evC (.int 2)))) (sSeq (sFor (itSeq (evVar 0)) (.nm 3) (sSet 2 (evOp2 dMod (evB bInt (evCons (evOp2 dAdd (evOp2 dMul (evVar 2) (evC (.int 8209))) (evVar 3)) evNil)) (evOp2 dAdd (evOp2 dPow (evC (.int 10)) (evC (.int 27))) (evC (.int 103))))) [3]) (sSeq (sSet 4 (evVar 2)) (sSeq (sIf (evOp2 dLt (evVar 1) (evB bLen (evCons (evVar 0) evNil))) (sSet 4 (evOp2 dIx (evVar 0) (evVar 1))) sSkip) (sRet (evNew (evCons (evB bMax (evCons (evC (.int 0)) (evCons (evOp2 dSub (evVar 4) (evOp2 dPow (evC (.int 10)) (evC (.int 18)))) evNil))) (evCons (evOp2 dAdd (evOp2 dMod (evB bInt (evCons (evOp2 dAdd (evOp2 dMul (evVar 2) (evC (.int 6427))) (evB bAbs (evCons (evVar 4) evNil))) evNil)) (evOp2 dAdd (evOp2 dPow (evC (.int 10)) (evC (.int 28))) (evC (.int 331)))) (evVar 1)) (evCons (evC (.int 0)) evNil)))))))))
def run_law_pot : Fn := fnK 2 3 body_law_pot
/- _law_draw: slots 0 _law_pot_here, 1 _law_many, 2 _law_found, 3 _law_mixed -/
def body_law_draw : FS := (sSeq (sIf (evOp2 dGt (evOp2 dIx (evVar 0) (evC (.int 0))) (evC (.int 1))) (sSeq (sSet 2 (evOp2 dMod (evB bInt (evCons (evOp2 dIx (evVar 0) (evC (.int 0))) evNil)) (evVar 1))) (sSeq (sSetIx setAt (evVar 0) (evC (.int 0)) (evOp2 dFdiv (evOp2 dIx (evVar 0) (evC (.int 0))) (evVar 1))) (sRet (evVar 2)))) sSkip) (sSeq (sSetIx setAt (evVar 0) (evC (.int 2)) (evOp2 dAdd (evOp2 dIx (evVar 0) (evC (.int 2))) (evC (.int 1)))) (sSeq (sSet 3 (evOp2 dMod (evB bInt (evCons (evOp2 dAdd (evOp2 dMul (evOp2 dIx (evVar 0) (evC (.int 1))) (evOp2 dAdd (evOp2 dIx (evVar 0) (evC (.int 2))) (evC (.int 19)))) (evOp2 dPow (evOp2 dIx (evVar 0) (evC (.int 2))) (evC (.int 5)))) evNil)) (evOp2 dAdd (evOp2 dPow (evC (.int 10)) (evC (.int 29))) (evC (.int 319))))) (sSeq (sSet 3 (evOp2 dMod (evB bInt (evCons (evOp2 dAdd (evOp2 dPow (evVar 3) (evC (.int 3))) (evOp2 dIx (evVar 0) (evC (.int 1)))) evNil)) (evOp2 dAdd (evOp2 dPow (evC (.int 10)) (evC (.int 31))) (evC (.int 33))))) (sRet (evOp2 dMod (evB bInt (evCons (evOp2 dFdiv (evVar 3) (evC (.int 5003))) evNil)) (evVar 1)))))))
def run_law_draw : Fn := fnT 2 2 body_law_draw
/- _law_modulus: slots 0 _law_pot_here -/
def body_law_modulus : FS := (sRet (evOp2 dIx (evLst (evCons (evC (.int 2)) (evCons (evC (.int 3)) (evCons (evC (.int 5)) (evCons (evC (.int 6)) (evCons (evC (.int 7)) (evCons (evC (.int 10)) (evCons (evC (.int 11)) (evCons (evC (.int 13)) (evCons (evC (.int 14)) (evCons (evC (.int 15)) evNil))))))))))) (evCall run_law_draw (evCons (evVar 0) (evCons (evC (.int 10)) evNil)))))
def run_law_modulus : Fn := fnT 1 0 body_law_modulus
/- _law_terms: slots 0 _law_pot_here, 1 _law_modulus_here, 2 _law_most, 3 _law_found, 4 _law_turn, 5 _law_offset -/
def body_law_terms : FS := (sSeq (sSet 3 evDct0) (sSeq (sFor (itR1 (evCall run_law_draw (evCons (evVar 0) (evCons (evOp2 dAdd (evVar 2) (evC (.int 1))) evNil)))) (.nm 4) (sSetIx setKey (evVar 3) (evOp2 dSub (evCall run_law_draw (evCons (evVar 0) (evCons (evC (.int 9)) evNil))) (evC (.int 4))) (evOp2 dAdd (evC (.int 1)) (evCall run_law_draw (evCons (evVar 0) (evCons (evOp2 dSub (evVar 1) (evC (.int 1))) evNil))))) [4]) (sRet (evB bTuple (evCons (evComp (itSeq (evB bSorted (evCons (evVar 3) evNil))) (.nm 5) evTrue (evTup (evCons (evVar 5) (evCons (evOp2 dGetD (evVar 3) (evVar 5)) evNil))) [5]) evNil)))))
def run_law_terms : Fn := fnT 3 3 body_law_terms
/- _law_great: slots 0 _law_pot_here, 1 _law_found -/
def body_law_great : FS := (sSeq (sSet 1 (evOp2 dAdd (evOp2 dMul (evCall run_law_draw (evCons (evVar 0) (evCons (evOp2 dPow (evC (.int 10)) (evC (.int 18))) evNil))) (evOp2 dPow (evC (.int 10)) (evC (.int 20)))) (evCall run_law_draw (evCons (evVar 0) (evCons (evOp2 dPow (evC (.int 10)) (evC (.int 20))) evNil))))) (sSeq (sSet 1 (evOp2 dAdd (evOp2 dMul (evVar 1) (evOp2 dPow (evC (.int 10)) (evC (.int 20)))) (evCall run_law_draw (evCons (evVar 0) (evCons (evOp2 dPow (evC (.int 10)) (evC (.int 20))) evNil))))) (sRet (evOp2 dIx (evLst (evCons (evVar 1) (evCons (evOp2 dSub (evC (.int 0)) (evVar 1)) evNil))) (evCall run_law_draw (evCons (evVar 0) (evCons (evC (.int 2)) evNil)))))))
def run_law_great : Fn := fnT 1 1 body_law_great
/- _law_base: slots 0 _law_pot_here, 1 _law_way -/
def body_law_base : FS := (sSeq (sSet 1 (evCall run_law_draw (evCons (evVar 0) (evCons (evC (.int 3)) evNil)))) (sSeq (sIf (evOp2 dLt (evVar 1) (evC (.int 2))) (sRet (evOp2 dMul (evVar 1) (evOp2 dSub (evCall run_law_draw (evCons (evVar 0) (evCons (evC (.int 100)) evNil))) (evC (.int 50))))) sSkip) (sRet (evCall run_law_great (evCons (evVar 0) evNil)))))
def run_law_base : Fn := fnT 1 1 body_law_base
/- _law_short_row: slots 0 _law_pot_here, 1 _law_modulus_here, 2 _law_base_here, 3 _law_most, 4 _law_found, 5 _law_turn, 6 _law_place -/
def body_law_short_row : FS := (sSeq (sSet 4 evDct0) (sSeq (sFor (itR1 (evCall run_law_draw (evCons (evVar 0) (evCons (evOp2 dAdd (evVar 3) (evC (.int 1))) evNil)))) (.nm 5) (sSetIx setKey (evVar 4) (evOp2 dAdd (evVar 2) (evCall run_law_draw (evCons (evVar 0) (evCons (evC (.int 7)) evNil)))) (evOp2 dAdd (evC (.int 1)) (evCall run_law_draw (evCons (evVar 0) (evCons (evOp2 dSub (evVar 1) (evC (.int 1))) evNil))))) [5]) (sRet (evTup (evCons (evVar 1) (evCons (evB bTuple (evCons (evComp (itSeq (evB bSorted (evCons (evVar 4) evNil))) (.nm 6) evTrue (evTup (evCons (evVar 6) (evCons (evOp2 dGetD (evVar 4) (evVar 6)) evNil))) [6]) evNil)) evNil))))))
def run_law_short_row : Fn := fnT 4 3 body_law_short_row
/- _law_same: slots 0 _law_told, 1 _law_due -/
def body_law_same : FS := (sRet (evOp2 dEq (evB bRepr (evCons (evVar 0) evNil)) (evB bRepr (evCons (evVar 1) evNil))))
def run_law_same : Fn := fnT 2 0 body_law_same
/- _law_against: slots 0 _law_live, 1 _law_row, 2 _law_modulus_here, 3 _law_turn -/
def body_law_against : FS := (sSeq (sFor (itR1 (evOp2 dSub (evVar 2) (evC (.int 1)))) (.nm 3) (sExpr (evMeth 0 run_Live_add (evVar 0) (evCons (evVar 1) evNil))) [3]) (sRet (evProp 0 run_Live_row (evVar 0))))
def run_law_against : Fn := fnT 3 1 body_law_against
/- _law_places: slots 0 _law_row, 1 _law_place, 2 _law_value -/
def body_law_places : FS := (sRet (evComp (itSeq (evOp2 dIx (evVar 0) (evC (.int 1)))) (.tup [(.nm 1), (.nm 2)]) evTrue (evVar 1) [1, 2]))
def run_law_places : Fn := fnT 1 2 body_law_places
/- _law_sums_right: slots 0 _law_pot_here, 1 _law_rows, 2 _law_rule, 3 _law_modulus_here, 4 _law_one, 5 _law_other, 6 _law_live, 7 _law_beside, 8 _law_by, 9 _law_moved, 10 _law_later -/
def body_law_sums_right : FS := (sSeq (sTg (.lst [(.nm 4), (.nm 5)]) (evVar 1)) (sSeq (sSet 6 (evMakeQ 0 run_Live__init (evCons (evVar 4) evNil))) (sSeq (sExpr (evMeth 0 run_Live_add (evVar 6) (evCons (evVar 5) evNil))) (sSeq (sIf (evOr (evNot (evCall run_law_same (evCons (evProp 0 run_Live_row (evVar 6)) (evCons (evCall run_added (evCons (evVar 4) (evCons (evVar 5) evNil))) evNil)))) (evNot (evCall run_law_same (evCons (evProp 0 run_Live_row (evVar 6)) (evCons (evCallP run_added perm_1_0 (evCons (evVar 4) (evCons (evVar 5) evNil))) evNil))))) (sRet (evC (.bl false))) sSkip) (sSeq (sExpr (evMeth 0 run_Live_step (evVar 6) (evCons (evVar 2) evNil))) (sSeq (sSet 7 (evMakeQ 0 run_Live__init (evCons (evCall run_step (evCons (evVar 2) (evCons (evVar 4) evNil))) evNil))) (sSeq (sExpr (evMeth 0 run_Live_add (evVar 7) (evCons (evCallP run_step perm_1_0 (evCons (evVar 5) (evCons (evVar 2) evNil))) evNil))) (sSeq (sIf (evNot (evCall run_law_same (evCons (evLst (evCons (evProp 0 run_Live_row (evVar 6)) (evCons (evOwnEq 0 run_Live__eq (evVar 6) (evVar 7)) evNil))) (evCons (evLst (evCons (evProp 0 run_Live_row (evVar 7)) (evCons (evC (.bl true)) evNil))) evNil)))) (sRet (evC (.bl false))) sSkip) (sSeq (sSet 8 (evOp2 dIx (evLst (evCons (evCall run_law_great (evCons (evVar 0) evNil)) (evCons (evOp2 dSub (evCall run_law_draw (evCons (evVar 0) (evCons (evC (.int 20)) evNil))) (evC (.int 10))) evNil))) (evCall run_law_draw (evCons (evVar 0) (evCons (evC (.int 2)) evNil))))) (sSeq (sTg (.tup [.nm 9, .nm 10]) (evTup (evCons (evMakeQ 0 run_Live__init (evCons (evVar 4) evNil)) (evCons (evMakeQ 0 run_Live__init (evCons (evVar 4) evNil)) evNil)))) (sSeq (sExpr (evMeth 0 run_Live_move (evVar 9) (evCons (evVar 8) evNil))) (sSeq (sExpr (evMeth 0 run_Live_step (evVar 9) (evCons (evVar 2) evNil))) (sSeq (sExpr (evMeth 0 run_Live_step (evVar 10) (evCons (evVar 2) evNil))) (sSeq (sExpr (evMeth 0 run_Live_move (evVar 10) (evCons (evVar 8) evNil))) (sRet (evAnd (evCall run_law_same (evCons (evProp 0 run_Live_row (evVar 9)) (evCons (evProp 0 run_Live_row (evVar 10)) evNil))) (evCall run_law_same (evCons (evB bLen (evCons (evMeth 0 run_Live_unlike_places (evVar 9) (evCons (evVar 10) evNil)) evNil)) (evCons (evC (.int 0)) evNil)))))))))))))))))))
def run_law_sums_right : Fn := fnT 4 7 body_law_sums_right
/- _law_unlike_right: slots 0 _law_rows, 1 _law_modulus_here, 2 _law_one, 3 _law_other, 4 _law_here, 5 _law_there, 6 _law_due, 7 _law_back -/
def body_law_unlike_right : FS := (sSeq (sTg (.lst [(.nm 2), (.nm 3)]) (evVar 0)) (sSeq (sTg (.tup [.nm 4, .nm 5]) (evTup (evCons (evMakeQ 0 run_Live__init (evCons (evVar 2) evNil)) (evCons (evMakeQ 0 run_Live__init (evCons (evVar 3) evNil)) evNil)))) (sSeq (sSet 6 (evCall run_law_places (evCons (evCall run_law_against (evCons (evMakeQ 0 run_Live__init (evCons (evVar 2) evNil)) (evCons (evVar 3) (evCons (evVar 1) evNil)))) evNil))) (sSeq (sIf (evNot (evCall run_law_same (evCons (evLst (evCons (evMeth 0 run_Live_unlike_places (evVar 4) (evCons (evVar 5) evNil)) (evCons (evMeth 0 run_Live_unlike_places (evVar 5) (evCons (evVar 4) evNil)) evNil))) (evCons (evLst (evCons (evVar 6) (evCons (evVar 6) evNil))) evNil)))) (sRet (evC (.bl false))) sSkip) (sSeq (sSet 7 (evMakeQ 0 run_Live__init (evCons (evVar 2) evNil))) (sSeq (sIf (evNot (evCall run_law_same (evCons (evCall run_law_places (evCons (evCall run_law_against (evCons (evVar 7) (evCons (evVar 3) (evCons (evVar 1) evNil)))) evNil)) (evCons (evVar 6) evNil)))) (sRet (evC (.bl false))) sSkip) (sSeq (sIf (evOr (evNot (evCall run_law_same (evCons (evMeth 0 run_Live_add (evVar 7) (evCons (evVar 3) evNil)) (evCons (evB bLen (evCons (evOp2 dIx (evVar 3) (evC (.int 1))) evNil)) evNil)))) (evNot (evCall run_law_same (evCons (evProp 0 run_Live_row (evVar 7)) (evCons (evVar 2) evNil))))) (sRet (evC (.bl false))) sSkip) (sRet (evCall run_law_same (evCons (evLst (evCons (evMeth 0 run_Live_add (evVar 4) (evCons (evVar 3) evNil)) (evCons (evMeth 0 run_Live_count (evVar 4) evNil) evNil))) (evCons (evLst (evCons (evB bLen (evCons (evOp2 dIx (evVar 3) (evC (.int 1))) evNil)) (evCons (evB bLen (evCons (evOp2 dIx (evCall run_added (evCons (evVar 2) (evCons (evVar 3) evNil))) (evC (.int 1))) evNil)) evNil))) evNil)))))))))))
def run_law_unlike_right : Fn := fnT 2 6 body_law_unlike_right
/- _law_rules_right: slots 0 _law_rows, 1 _law_rules, 2 _law_modulus_here, 3 _law_one, 4 _law_other, 5 _law_row, 6 _law_summed, 7 _law_twice, 8 _law_place, 9 _law_value -/
def body_law_rules_right : FS := (sSeq (sTg (.lst [(.nm 3), (.nm 4)]) (evVar 1)) (sSeq (sFor (itSeq (evVar 0)) (.nm 5) (sSeq (sTg (.tup [.nm 6, .nm 7]) (evTup (evCons (evMakeQ 0 run_Live__init (evCons (evCall run_step (evCons (evVar 3) (evCons (evVar 5) evNil))) evNil)) (evCons (evMakeQ 0 run_Live__init (evCons (evVar 5) evNil)) evNil)))) (sSeq (sExpr (evMeth 0 run_Live_add (evVar 6) (evCons (evCall run_step (evCons (evVar 4) (evCons (evVar 5) evNil))) evNil))) (sSeq (sExpr (evMeth 0 run_Live_step (evVar 7) (evCons (evVar 3) evNil))) (sSeq (sExpr (evMeth 0 run_Live_step (evVar 7) (evCons (evVar 4) evNil))) (sSeq (sIf (evNot (evCall run_law_same (evCons (evLst (evCons (evCall run_step (evCons (evCall run_plus (evCons (evVar 3) (evCons (evVar 4) evNil))) (evCons (evVar 5) evNil))) (evCons (evCall run_step (evCons (evCall run_behind (evCons (evVar 3) (evCons (evVar 4) evNil))) (evCons (evVar 5) evNil))) evNil))) (evCons (evLst (evCons (evProp 0 run_Live_row (evVar 6)) (evCons (evProp 0 run_Live_row (evVar 7)) evNil))) evNil)))) (sRet (evC (.bl false))) sSkip) (sIf (evNot (evCall run_law_same (evCons (evMeth 0 run_Live_total (evVar 6) evNil) (evCons (evOp2 dMod (evB bInt (evCons (evB bSum (evCons (evComp (itSeq (evOp2 dIx (evProp 0 run_Live_row (evVar 6)) (evC (.int 1)))) (.tup [(.nm 8), (.nm 9)]) evTrue (evVar 9) [8, 9]) evNil)) evNil)) (evVar 2)) evNil)))) (sRet (evC (.bl false))) sSkip)))))) [5, 6, 7, 8, 9]) (sRet (evC (.bl true)))))
def run_law_rules_right : Fn := fnT 3 7 body_law_rules_right
/- law: slots 0 _law_script, 1 _law_k, 2 _law_pot_here, 3 _law_modulus_here, 4 _law_base_here, 5 _law_turn, 6 _law_rows, 7 _law_rules, 8 _law_again -/
def body_law : FS := (sSeq (sFor (itR1 (evB bMax (evCons (evC (.int 1)) (evCons (evB bMin (evCons (evC (.int 2)) (evCons (evB bLen (evCons (evVar 0) evNil)) evNil))) evNil)))) (.nm 1) (sSeq (sSet 2 (evCall run_law_pot (evCons (evVar 0) (evCons (evVar 1) evNil)))) (sSeq (sTg (.tup [.nm 3, .nm 4]) (evTup (evCons (evCall run_law_modulus (evCons (evVar 2) evNil)) (evCons (evCall run_law_base (evCons (evVar 2) evNil)) evNil)))) (sFor (itR1 (evC (.int 4))) (.nm 5) (sSeq (sSet 6 (evComp (itR1 (evC (.int 2))) (.nm 8) evTrue (evCall run_law_short_row (evCons (evVar 2) (evCons (evVar 3) (evCons (evVar 4) (evCons (evC (.int 5)) evNil))))) [8])) (sSeq (sSet 7 (evComp (itR1 (evC (.int 2))) (.nm 8) evTrue (evTup (evCons (evVar 3) (evCons (evCall run_law_terms (evCons (evVar 2) (evCons (evVar 3) (evCons (evC (.int 2)) evNil)))) evNil))) [8])) (sSeq (sIf (evOr (evNot (evCall run_law_sums_right (evCons (evVar 2) (evCons (evVar 6) (evCons (evOp2 dIx (evVar 7) (evC (.int 0))) (evCons (evVar 3) evNil)))))) (evNot (evCall run_law_unlike_right (evCons (evVar 6) (evCons (evVar 3) evNil))))) (sRet (evC (.bl false))) sSkip) (sIf (evNot (evCall run_law_rules_right (evCons (evVar 6) (evCons (evVar 7) (evCons (evVar 3) evNil))))) (sRet (evC (.bl false))) sSkip)))) [5, 6, 7, 8]))) [1, 2, 3, 4, 5, 6, 7, 8]) (sRet (evC (.bl true))))
def run_law : Fn := fnT 1 8 body_law
end Nv
set_option maxRecDepth 100000
set_option maxHeartbeats 4000000
/-! W93: the defs of the text mean what F says, printed by gen.py. -/
namespace Nv
open PySem PySem.Spec L2
def topS (i : Nat) : Stmt := PySem.Challenge.pw_nearadds_k93_whole_sums_pass_steps.main.body.getD i (.Pass ⟨0, 0, 0, 0⟩)
abbrev s_is_integer : Stmt := topS 8
theorem sc_is_integer : FnScope ["value"] ["value"] (defScope s_is_integer) := ⟨rfl, rfl, rfl, by decide +kernel, rfl, by decide +kernel, by decide +kernel⟩
abbrev s_is_modulus : Stmt := topS 10
theorem sc_is_modulus : FnScope ["value"] ["value"] (defScope s_is_modulus) := ⟨rfl, rfl, rfl, by decide +kernel, rfl, by decide +kernel, by decide +kernel⟩
abbrev s_are_pairs : Stmt := topS 11
theorem sc_are_pairs : FnScope ["value", "modulus", "pair", "part", "at"] ["value", "modulus"] (defScope s_are_pairs) := ⟨rfl, rfl, rfl, by decide +kernel, rfl, by decide +kernel, by decide +kernel⟩
abbrev s_is_of_modulus : Stmt := topS 12
theorem sc_is_of_modulus : FnScope ["value"] ["value"] (defScope s_is_of_modulus) := ⟨rfl, rfl, rfl, by decide +kernel, rfl, by decide +kernel, by decide +kernel⟩
abbrev s_is_a_rule : Stmt := topS 13
theorem sc_is_a_rule : FnScope ["value"] ["value"] (defScope s_is_a_rule) := ⟨rfl, rfl, rfl, by decide +kernel, rfl, by decide +kernel, by decide +kernel⟩
abbrev s_is_a_row : Stmt := topS 14
theorem sc_is_a_row : FnScope ["value"] ["value"] (defScope s_is_a_row) := ⟨rfl, rfl, rfl, by decide +kernel, rfl, by decide +kernel, by decide +kernel⟩
abbrev s_need_rule : Stmt := topS 15
theorem sc_need_rule : FnScope ["rule"] ["rule"] (defScope s_need_rule) := ⟨rfl, rfl, rfl, by decide +kernel, rfl, by decide +kernel, by decide +kernel⟩
abbrev s_need_row : Stmt := topS 16
theorem sc_need_row : FnScope ["row"] ["row"] (defScope s_need_row) := ⟨rfl, rfl, rfl, by decide +kernel, rfl, by decide +kernel, by decide +kernel⟩
abbrev s_need_same : Stmt := topS 17
theorem sc_need_same : FnScope ["one", "other"] ["one", "other"] (defScope s_need_same) := ⟨rfl, rfl, rfl, by decide +kernel, rfl, by decide +kernel, by decide +kernel⟩
abbrev s_collected : Stmt := topS 19
theorem sc_collected : FnScope ["pairs", "modulus", "found", "place", "value"] ["pairs", "modulus"] (defScope s_collected) := ⟨rfl, rfl, rfl, by decide +kernel, rfl, by decide +kernel, by decide +kernel⟩
abbrev s_plus : Stmt := topS 20
theorem sc_plus : FnScope ["one", "other"] ["one", "other"] (defScope s_plus) := ⟨rfl, rfl, rfl, by decide +kernel, rfl, by decide +kernel, by decide +kernel⟩
abbrev s_behind : Stmt := topS 21
theorem sc_behind : FnScope ["one", "other", "pairs", "offset", "factor", "further", "number"] ["one", "other"] (defScope s_behind) := ⟨rfl, rfl, rfl, by decide +kernel, rfl, by decide +kernel, by decide +kernel⟩
abbrev s_step : Stmt := topS 22
theorem sc_step : FnScope ["rule", "row", "pairs", "offset", "factor", "place", "value"] ["rule", "row"] (defScope s_step) := ⟨rfl, rfl, rfl, by decide +kernel, rfl, by decide +kernel, by decide +kernel⟩
abbrev s_added : Stmt := topS 24
theorem sc_added : FnScope ["one", "other"] ["one", "other"] (defScope s_added) := ⟨rfl, rfl, rfl, by decide +kernel, rfl, by decide +kernel, by decide +kernel⟩
abbrev s_places_apart : Stmt := topS 26
theorem sc_places_apart : FnScope ["one", "other", "here", "there", "found", "place"] ["one", "other"] (defScope s_places_apart) := ⟨rfl, rfl, rfl, by decide +kernel, rfl, by decide +kernel, by decide +kernel⟩
abbrev s_Live__init : Stmt := inClass (topS 27) 0
theorem sc_Live__init : FnScope ["self", "row"] ["self", "row"] (defScope s_Live__init) := ⟨rfl, rfl, rfl, by decide +kernel, rfl, by decide +kernel, by decide +kernel⟩
abbrev s_Live_row : Stmt := inClass (topS 27) 1
theorem sc_Live_row : FnScope ["self"] ["self"] (defScope s_Live_row) := ⟨rfl, rfl, rfl, by decide +kernel, rfl, by decide +kernel, by decide +kernel⟩
abbrev s_Live_modulus : Stmt := inClass (topS 27) 3
theorem sc_Live_modulus : FnScope ["self"] ["self"] (defScope s_Live_modulus) := ⟨rfl, rfl, rfl, by decide +kernel, rfl, by decide +kernel, by decide +kernel⟩
abbrev s_Live__eq : Stmt := inClass (topS 27) 7
theorem sc_Live__eq : FnScope ["self", "other"] ["self", "other"] (defScope s_Live__eq) := ⟨rfl, rfl, rfl, by decide +kernel, rfl, by decide +kernel, by decide +kernel⟩
abbrev s_Live_done : Stmt := inClass (topS 27) 8
theorem sc_Live_done : FnScope ["self", "deed", "row", "changed"] ["self", "deed", "row"] (defScope s_Live_done) := ⟨rfl, rfl, rfl, by decide +kernel, rfl, by decide +kernel, by decide +kernel⟩
abbrev s_Live_step : Stmt := inClass (topS 27) 9
theorem sc_Live_step : FnScope ["self", "rule"] ["self", "rule"] (defScope s_Live_step) := ⟨rfl, rfl, rfl, by decide +kernel, rfl, by decide +kernel, by decide +kernel⟩
abbrev s_Live_add : Stmt := inClass (topS 27) 12
theorem sc_Live_add : FnScope ["self", "row"] ["self", "row"] (defScope s_Live_add) := ⟨rfl, rfl, rfl, by decide +kernel, rfl, by decide +kernel, by decide +kernel⟩
abbrev s_Live_move : Stmt := inClass (topS 27) 13
theorem sc_Live_move : FnScope ["self", "by", "moved", "place", "value"] ["self", "by"] (defScope s_Live_move) := ⟨rfl, rfl, rfl, by decide +kernel, rfl, by decide +kernel, by decide +kernel⟩
abbrev s_Live_count : Stmt := inClass (topS 27) 20
theorem sc_Live_count : FnScope ["self"] ["self"] (defScope s_Live_count) := ⟨rfl, rfl, rfl, by decide +kernel, rfl, by decide +kernel, by decide +kernel⟩
abbrev s_Live_total : Stmt := inClass (topS 27) 21
theorem sc_Live_total : FnScope ["self", "place", "value"] ["self"] (defScope s_Live_total) := ⟨rfl, rfl, rfl, by decide +kernel, rfl, by decide +kernel, by decide +kernel⟩
abbrev s_Live_unlike_places : Stmt := inClass (topS 27) 23
theorem sc_Live_unlike_places : FnScope ["self", "other"] ["self", "other"] (defScope s_Live_unlike_places) := ⟨rfl, rfl, rfl, by decide +kernel, rfl, by decide +kernel, by decide +kernel⟩
abbrev s_law_pot : Stmt := topS 29
theorem sc_law_pot : FnScope ["_law_script", "_law_k", "_law_total", "_law_other", "_law_cell"] ["_law_script", "_law_k"] (defScope s_law_pot) := ⟨rfl, rfl, rfl, by decide +kernel, rfl, by decide +kernel, by decide +kernel⟩
abbrev s_law_draw : Stmt := topS 30
theorem sc_law_draw : FnScope ["_law_pot_here", "_law_many", "_law_found", "_law_mixed"] ["_law_pot_here", "_law_many"] (defScope s_law_draw) := ⟨rfl, rfl, rfl, by decide +kernel, rfl, by decide +kernel, by decide +kernel⟩
abbrev s_law_modulus : Stmt := topS 31
theorem sc_law_modulus : FnScope ["_law_pot_here"] ["_law_pot_here"] (defScope s_law_modulus) := ⟨rfl, rfl, rfl, by decide +kernel, rfl, by decide +kernel, by decide +kernel⟩
abbrev s_law_terms : Stmt := topS 32
theorem sc_law_terms : FnScope ["_law_pot_here", "_law_modulus_here", "_law_most", "_law_found", "_law_turn", "_law_offset"] ["_law_pot_here", "_law_modulus_here", "_law_most"] (defScope s_law_terms) := ⟨rfl, rfl, rfl, by decide +kernel, rfl, by decide +kernel, by decide +kernel⟩
abbrev s_law_great : Stmt := topS 33
theorem sc_law_great : FnScope ["_law_pot_here", "_law_found"] ["_law_pot_here"] (defScope s_law_great) := ⟨rfl, rfl, rfl, by decide +kernel, rfl, by decide +kernel, by decide +kernel⟩
abbrev s_law_base : Stmt := topS 34
theorem sc_law_base : FnScope ["_law_pot_here", "_law_way"] ["_law_pot_here"] (defScope s_law_base) := ⟨rfl, rfl, rfl, by decide +kernel, rfl, by decide +kernel, by decide +kernel⟩
abbrev s_law_short_row : Stmt := topS 35
theorem sc_law_short_row : FnScope ["_law_pot_here", "_law_modulus_here", "_law_base_here", "_law_most", "_law_found", "_law_turn", "_law_place"] ["_law_pot_here", "_law_modulus_here", "_law_base_here", "_law_most"] (defScope s_law_short_row) := ⟨rfl, rfl, rfl, by decide +kernel, rfl, by decide +kernel, by decide +kernel⟩
abbrev s_law_same : Stmt := topS 36
theorem sc_law_same : FnScope ["_law_told", "_law_due"] ["_law_told", "_law_due"] (defScope s_law_same) := ⟨rfl, rfl, rfl, by decide +kernel, rfl, by decide +kernel, by decide +kernel⟩
abbrev s_law_against : Stmt := topS 37
theorem sc_law_against : FnScope ["_law_live", "_law_row", "_law_modulus_here", "_law_turn"] ["_law_live", "_law_row", "_law_modulus_here"] (defScope s_law_against) := ⟨rfl, rfl, rfl, by decide +kernel, rfl, by decide +kernel, by decide +kernel⟩
abbrev s_law_places : Stmt := topS 38
theorem sc_law_places : FnScope ["_law_row", "_law_place", "_law_value"] ["_law_row"] (defScope s_law_places) := ⟨rfl, rfl, rfl, by decide +kernel, rfl, by decide +kernel, by decide +kernel⟩
abbrev s_law_sums_right : Stmt := topS 39
theorem sc_law_sums_right : FnScope ["_law_pot_here", "_law_rows", "_law_rule", "_law_modulus_here", "_law_one", "_law_other", "_law_live", "_law_beside", "_law_by", "_law_moved", "_law_later"] ["_law_pot_here", "_law_rows", "_law_rule", "_law_modulus_here"] (defScope s_law_sums_right) := ⟨rfl, rfl, rfl, by decide +kernel, rfl, by decide +kernel, by decide +kernel⟩
abbrev s_law_unlike_right : Stmt := topS 40
theorem sc_law_unlike_right : FnScope ["_law_rows", "_law_modulus_here", "_law_one", "_law_other", "_law_here", "_law_there", "_law_due", "_law_back"] ["_law_rows", "_law_modulus_here"] (defScope s_law_unlike_right) := ⟨rfl, rfl, rfl, by decide +kernel, rfl, by decide +kernel, by decide +kernel⟩
abbrev s_law_rules_right : Stmt := topS 41
theorem sc_law_rules_right : FnScope ["_law_rows", "_law_rules", "_law_modulus_here", "_law_one", "_law_other", "_law_row", "_law_summed", "_law_twice", "_law_place", "_law_value"] ["_law_rows", "_law_rules", "_law_modulus_here"] (defScope s_law_rules_right) := ⟨rfl, rfl, rfl, by decide +kernel, rfl, by decide +kernel, by decide +kernel⟩
abbrev s_law : Stmt := topS 42
theorem sc_law : FnScope ["_law_script", "_law_k", "_law_pot_here", "_law_modulus_here", "_law_base_here", "_law_turn", "_law_rows", "_law_rules", "_law_again"] ["_law_script"] (defScope s_law) := ⟨rfl, rfl, rfl, by decide +kernel, rfl, by decide +kernel, by decide +kernel⟩
def gk_1_0 {α : Type} : List α → List α → List α
  | [], [v0, v1] => [v1, v0]
  | _, _ => []
theorem gk_1_0_b {fd : FuncData} {ps ks : List Str} (h : ∀ v0 v1 : Value, bindArgs fd ⟨[], ks.zip [v0, v1]⟩ = pure (ps.zip [v1, v0])) (us ws : List Value) (hl : (gk_1_0 us ws).length = ps.length) (hp : ps ≠ [] := by decide) : bindArgs fd ⟨us, ks.zip ws⟩ = pure (ps.zip (gk_1_0 us ws)) :=
  match us, ws, hl with
  | [], [v0, v1], _ => h v0 v1
  | [], [], hl => absurd (List.eq_nil_of_length_eq_zero hl.symm) hp
  | [], [_], hl => absurd (List.eq_nil_of_length_eq_zero hl.symm) hp
  | [], _ :: _ :: _ :: _, hl => absurd (List.eq_nil_of_length_eq_zero hl.symm) hp
  | _ :: _, _, hl => absurd (List.eq_nil_of_length_eq_zero hl.symm) hp
theorem gk_1_0_v {vs : List V} {us : List Value} {zs : List V} {ws : List Value} (a : Vals vs us) (b : Vals zs ws) : Vals (gk_1_0 vs zs) (gk_1_0 us ws) :=
  match vs, us, zs, ws, a, b with
  | _, _, _, _, .nil, .cons h0 (.cons h1 (.nil)) => .cons h1 (.cons h0 (.nil))
  | _, _, _, _, .nil, .nil => .nil
  | _, _, _, _, .nil, .cons _ (.nil) => .nil
  | _, _, _, _, .nil, .cons _ (.cons _ (.cons _ (_))) => .nil
  | _, _, _, _, .cons _ _, _ => .nil
/-- what stands behind the top -/
structure Tp (K : PySem.W.Frag) (mg : Str → Option Value) (C : CC) : Prop where
  b_abs : mg "abs" = none
  b_all : mg "all" = none
  b_bool : mg "bool" = none
  b_dict : mg "dict" = none
  b_int : mg "int" = none
  b_isinstance : mg "isinstance" = none
  b_len : mg "len" = none
  b_max : mg "max" = none
  b_min : mg "min" = none
  b_range : mg "range" = none
  b_repr : mg "repr" = none
  b_sorted : mg "sorted" = none
  b_sum : mg "sum" = none
  b_tuple : mg "tuple" = none
  a_PRIMES : ∃ p, mg "PRIMES" = some (.ref p) ∧ KInts K p [2, 3, 5, 6, 7, 10, 11, 13, 14, 15]
  Live_fl : C.flds 0 = (["_first", "_row", "_deeds", "_begun"] : List PySem.Str)
  Live_cl : Cls K (C.ca 0)
  Live_gl : mg "Live" = some (.ref (C.ca 0))
  Live_n0 : NoAttr K (C.ca 0) "_first"
  Live_n1 : NoAttr K (C.ca 0) "_row"
  Live_n2 : NoAttr K (C.ca 0) "_deeds"
  Live_n3 : NoAttr K (C.ca 0) "_begun"
  Live_ic : Ic K C 0
  d_is_integer : DF K mg "is_integer" ["value"] s_is_integer
  d_is_modulus : DF K mg "is_modulus" ["value"] s_is_modulus
  d_are_pairs : DF K mg "are_pairs" ["value", "modulus"] s_are_pairs
  d_is_of_modulus : DF K mg "is_of_modulus" ["value"] s_is_of_modulus
  d_is_a_rule : DF K mg "is_a_rule" ["value"] s_is_a_rule
  d_is_a_row : DF K mg "is_a_row" ["value"] s_is_a_row
  d_need_rule : DF K mg "need_rule" ["rule"] s_need_rule
  d_need_row : DF K mg "need_row" ["row"] s_need_row
  d_need_same : DF K mg "need_same" ["one", "other"] s_need_same
  d_collected : DF K mg "collected" ["pairs", "modulus"] s_collected
  d_plus : DF K mg "plus" ["one", "other"] s_plus
  d_behind : DF K mg "behind" ["one", "other"] s_behind
  d_step : DF K mg "step" ["rule", "row"] s_step
  d_added : DF K mg "added" ["one", "other"] s_added
  d_places_apart : DF K mg "places_apart" ["one", "other"] s_places_apart
  d_Live__init : IF K C mg 0 "Live" "Live.__init__" ["self", "row"] s_Live__init
  d_Live_row : PF K C 0 "row" "Live.row" ["self"] s_Live_row
  d_Live_modulus : PF K C 0 "modulus" "Live.modulus" ["self"] s_Live_modulus
  d_Live__eq : QF K C 0 "Live.__eq__" ["self", "other"] s_Live__eq
  d_Live_done : MF K C 0 "_done" "Live._done" ["self", "deed", "row"] s_Live_done
  d_Live_step : MF K C 0 "step" "Live.step" ["self", "rule"] s_Live_step
  d_Live_add : MF K C 0 "add" "Live.add" ["self", "row"] s_Live_add
  d_Live_move : MF K C 0 "move" "Live.move" ["self", "by"] s_Live_move
  d_Live_count : MF K C 0 "count" "Live.count" ["self"] s_Live_count
  d_Live_total : MF K C 0 "total" "Live.total" ["self"] s_Live_total
  d_Live_unlike_places : MF K C 0 "unlike_places" "Live.unlike_places" ["self", "other"] s_Live_unlike_places
  d_law_pot : DF K mg "_law_pot" ["_law_script", "_law_k"] s_law_pot
  d_law_draw : DF K mg "_law_draw" ["_law_pot_here", "_law_many"] s_law_draw
  d_law_modulus : DF K mg "_law_modulus" ["_law_pot_here"] s_law_modulus
  d_law_terms : DF K mg "_law_terms" ["_law_pot_here", "_law_modulus_here", "_law_most"] s_law_terms
  d_law_great : DF K mg "_law_great" ["_law_pot_here"] s_law_great
  d_law_base : DF K mg "_law_base" ["_law_pot_here"] s_law_base
  d_law_short_row : DF K mg "_law_short_row" ["_law_pot_here", "_law_modulus_here", "_law_base_here", "_law_most"] s_law_short_row
  d_law_same : DF K mg "_law_same" ["_law_told", "_law_due"] s_law_same
  d_law_against : DF K mg "_law_against" ["_law_live", "_law_row", "_law_modulus_here"] s_law_against
  d_law_places : DF K mg "_law_places" ["_law_row"] s_law_places
  d_law_sums_right : DF K mg "_law_sums_right" ["_law_pot_here", "_law_rows", "_law_rule", "_law_modulus_here"] s_law_sums_right
  d_law_unlike_right : DF K mg "_law_unlike_right" ["_law_rows", "_law_modulus_here"] s_law_unlike_right
  d_law_rules_right : DF K mg "_law_rules_right" ["_law_rows", "_law_rules", "_law_modulus_here"] s_law_rules_right
  d_law : DF K mg "law" ["_law_script"] s_law
  l_step_rules : mg "step_rules" = mg "step"
  k_added_1_0 : DK K mg "added" ["one", "other"] ["other", "one"] gk_1_0 gk_1_0
  k_step_rules_1_0 : DK K mg "step_rules" ["rule", "row"] ["row", "rule"] gk_1_0 gk_1_0
section
variable {P : Program} {w : World} {K : PySem.W.Frag} {mg : Str → Option Value} {base : Heap} {C : CC}
theorem Tp.Live_nd (T : Tp K mg C) : (C.flds 0).Nodup := by rw [T.Live_fl]; decide +kernel
theorem Tp.Live_le (T : Tp K mg C) : (C.flds 0).length < 1000 := by rw [T.Live_fl]; decide
theorem Tp.Live_f0 (T : Tp K mg C) : (C.flds 0)[0]? = some ("_first" : PySem.Str) := by rw [T.Live_fl]; rfl
theorem Tp.Live_f1 (T : Tp K mg C) : (C.flds 0)[1]? = some ("_row" : PySem.Str) := by rw [T.Live_fl]; rfl
theorem Tp.Live_f2 (T : Tp K mg C) : (C.flds 0)[2]? = some ("_deeds" : PySem.Str) := by rw [T.Live_fl]; rfl
theorem Tp.Live_f3 (T : Tp K mg C) : (C.flds 0)[3]? = some ("_begun" : PySem.Str) := by rw [T.Live_fl]; rfl
theorem perm_1_0_ok : Perm perm_1_0 gk_1_0 2 2 := by
  refine ⟨fun {K z H ds vs} hl h => ?_, fun ds hl => ?_⟩
  · match ds, hl, vs, h with
    | [d0, d1], _, _, .cons h0 (.cons h1 (.nil)) => exact .cons h1 (.cons h0 (.nil))
  · match ds, hl with
    | [d0, d1], _ => rfl
theorem ok_is_integer (T : Tp K mg C) : Dn P w K mg base C 1 "is_integer" ["value"] run_is_integer := by
  refine dn_ok (nl := 0) T.d_is_integer sc_is_integer rfl (.inl rfl) (fun f cdv A outer s H E hr => ?_)
  have nd := sc_is_integer.nd
  have tk : Takes (cxOf (L2.CX P w) P w K mg base ["value"] "is_integer" (defScope s_is_integer) f cdv A outer s H E) (Wd E) := takes_of rfl rfl rfl rfl
  exact (sss_one (ss_ret (se_and (se_isI (by decide +kernel) (pe_callB call_isi (by rfl) T.b_isinstance PyProof.Rows.boot_isinstance (pa_cons (se_var (pv 0)) (pa_cons (pe_bltn (by rfl) T.b_int (by decide +kernel) rfl) pa_nil)))) (se_one (se_not (se_isI (by decide +kernel) (pe_callB call_isi (by rfl) T.b_isinstance PyProof.Rows.boot_isinstance (pa_cons (se_var (pv 0)) (pa_cons (pe_bltn (by rfl) T.b_bool (by decide +kernel) rfl) pa_nil)))))))))
theorem ok_is_modulus (T : Tp K mg C) : Dn P w K mg base C 2 "is_modulus" ["value"] run_is_modulus := by
  obtain ⟨p_PRIMES, m_PRIMES, c_PRIMES⟩ := T.a_PRIMES
  refine dn_ok (nl := 0) T.d_is_modulus sc_is_modulus rfl (.inl rfl) (fun f cdv A outer s H E hr => ?_)
  have nd := sc_is_modulus.nd
  have tk : Takes (cxOf (L2.CX P w) P w K mg base ["value"] "is_modulus" (defScope s_is_modulus) f cdv A outer s H E) (Wd E) := takes_of rfl rfl rfl rfl
  exact (sss_one (ss_ret (se_and (se_callN (ok_is_integer T) (hr.mono (by decide)) tk (by rfl) (sa_cons (se_var (pv 0)) sa_nil) (la_cons la_nil)) (se_one (se_inK c_PRIMES (se_var (pv 0)) (by rfl) m_PRIMES)))))
theorem ok_are_pairs (T : Tp K mg C) : Dn P w K mg base C 2 "are_pairs" ["value", "modulus"] run_are_pairs := by
  refine dn_ok (nl := 3) T.d_are_pairs sc_are_pairs rfl (.inl rfl) (fun f cdv A outer s H E hr => ?_)
  have nd := sc_are_pairs.nd
  have tk : Takes (cxOf (L2.CX P w) P w K mg base ["value", "modulus", "pair", "part", "at"] "are_pairs" (defScope s_are_pairs) f cdv A outer s H E) (Wd E) := takes_of rfl rfl rfl rfl
  exact (sss_cons (ss_if (st_not (st_val (se_isI (by decide +kernel) (pe_callB call_isi (by rfl) T.b_isinstance PyProof.Rows.boot_isinstance (pa_cons (se_var (pv 0)) (pa_cons (pe_bltn (by rfl) T.b_tuple (by decide +kernel) rfl) pa_nil)))))) (sss_one (ss_ret se_bl)) sss_nil)
  (sss_cons (ss_for (passes_of rfl) rfl (si_seq (se_var (pv 0))) (sg_nm (pg_name (i := 2) nd rfl (by first | exact Or.inl rfl | exact Or.inr rfl))) (sss_cons (ss_if (st_w (sw_or (st_not (st_val (se_isI (by decide +kernel) (pe_callB call_isi (by rfl) T.b_isinstance PyProof.Rows.boot_isinstance (pa_cons (se_var (pv 2)) (pa_cons (pe_bltn (by rfl) T.b_tuple (by decide +kernel) rfl) pa_nil)))))) (sw_or (st_cmp (op_neU (hu64 hr)) os_ne (se_b call_lenU bs_len (by rfl) T.b_len (by decide +kernel) (sa_cons (se_var (pv 2)) sa_nil)) se_int (nomark _)) (sw_or1 (st_not (st_val (se_b (cr_all rfl) bs_all (by rfl) T.b_all (by decide +kernel) (sa_cons (se_comp (own := [("part", 3)]) rfl nd (si_seq (se_var (pv 2))) (blkOk_by (by rfl)) (by decide) (fun _ _ _ _ _ => (sg_nm (pg_name (i := 3) nd rfl (by first | exact Or.inl rfl | exact Or.inr rfl)))) (fun _ _ _ _ _ => pts_nil) htt_yes (fun _ _ _ _ _ => (se_callN (ok_is_integer T) (hr.mono (by decide)) takes0 (by rfl) (sa_cons (se_var (pv 3)) sa_nil) (la_cons la_nil)))) sa_nil)))))))) (sss_one (ss_ret se_bl)) sss_nil)
  (sss_one (ss_if (st_not (st_chain op_le os_le op_lt os_lt se_int (se_ix (se_var (pv 2)) se_int) (se_var (pv 1)))) (sss_one (ss_ret se_bl)) sss_nil))))
  (sss_one (ss_ret (se_b (cr_all rfl) bs_all (by rfl) T.b_all (by decide +kernel) (sa_cons (se_comp (own := [("at", 4)]) rfl nd (si_r1 (pi_range1 (by rfl) T.b_range) (se_bin op_sub os_sub (se_b call_lenU bs_len (by rfl) T.b_len (by decide +kernel) (sa_cons (se_var (pv 0)) sa_nil)) se_int)) (blkOk_by (by rfl)) (by decide) (fun _ _ _ _ _ => (sg_nm (pg_name (i := 4) nd rfl (by first | exact Or.inl rfl | exact Or.inr rfl)))) (fun _ _ _ _ _ => pts_nil) htt_yes (fun _ _ _ _ _ => (se_cmp op_lt os_lt (se_ix (se_ix (se_var (pv 0)) (se_var (pv 4))) se_int) (se_ix (se_ix (se_var (pv 0)) (se_bin op_addU os_add (se_var (pv 4)) se_int)) se_int) (nomark _)))) sa_nil))))))
theorem ok_is_of_modulus (T : Tp K mg C) : Dn P w K mg base C 3 "is_of_modulus" ["value"] run_is_of_modulus := by
  refine dn_ok (nl := 0) T.d_is_of_modulus sc_is_of_modulus rfl (.inl rfl) (fun f cdv A outer s H E hr => ?_)
  have nd := sc_is_of_modulus.nd
  have tk : Takes (cxOf (L2.CX P w) P w K mg base ["value"] "is_of_modulus" (defScope s_is_of_modulus) f cdv A outer s H E) (Wd E) := takes_of rfl rfl rfl rfl
  exact (sss_one (ss_ret (se_and (se_isI (by decide +kernel) (pe_callB call_isi (by rfl) T.b_isinstance PyProof.Rows.boot_isinstance (pa_cons (se_var (pv 0)) (pa_cons (pe_bltn (by rfl) T.b_tuple (by decide +kernel) rfl) pa_nil)))) (se_and (se_cmp (op_eqU (hu64 hr)) os_eq (se_b call_lenU bs_len (by rfl) T.b_len (by decide +kernel) (sa_cons (se_var (pv 0)) sa_nil)) se_int (nomark _)) (se_and (se_callN (ok_is_modulus T) (hr.mono (by decide)) tk (by rfl) (sa_cons (se_ix (se_var (pv 0)) se_int) sa_nil) (la_cons la_nil)) (se_one (se_isI (by decide +kernel) (pe_callB call_isi (by rfl) T.b_isinstance PyProof.Rows.boot_isinstance (pa_cons (se_ix (se_var (pv 0)) se_int) (pa_cons (pe_bltn (by rfl) T.b_tuple (by decide +kernel) rfl) pa_nil))))))))))
theorem ok_is_a_rule (T : Tp K mg C) : Dn P w K mg base C 4 "is_a_rule" ["value"] run_is_a_rule := by
  refine dn_ok (nl := 0) T.d_is_a_rule sc_is_a_rule rfl (.inl rfl) (fun f cdv A outer s H E hr => ?_)
  have nd := sc_is_a_rule.nd
  have tk : Takes (cxOf (L2.CX P w) P w K mg base ["value"] "is_a_rule" (defScope s_is_a_rule) f cdv A outer s H E) (Wd E) := takes_of rfl rfl rfl rfl
  exact (sss_one (ss_ret (se_and (se_callN (ok_is_of_modulus T) (hr.mono (by decide)) tk (by rfl) (sa_cons (se_var (pv 0)) sa_nil) (la_cons la_nil)) (se_one (se_callN (ok_are_pairs T) (hr.mono (by decide)) tk (by rfl) (sa_cons (se_ix (se_var (pv 0)) se_int) (sa_cons (se_ix (se_var (pv 0)) se_int) sa_nil)) (la_cons (la_cons la_nil)))))))
theorem ok_is_a_row (T : Tp K mg C) : Dn P w K mg base C 4 "is_a_row" ["value"] run_is_a_row := by
  refine dn_ok (nl := 0) T.d_is_a_row sc_is_a_row rfl (.inl rfl) (fun f cdv A outer s H E hr => ?_)
  have nd := sc_is_a_row.nd
  have tk : Takes (cxOf (L2.CX P w) P w K mg base ["value"] "is_a_row" (defScope s_is_a_row) f cdv A outer s H E) (Wd E) := takes_of rfl rfl rfl rfl
  exact (sss_one (ss_ret (se_and (se_callN (ok_is_of_modulus T) (hr.mono (by decide)) tk (by rfl) (sa_cons (se_var (pv 0)) sa_nil) (la_cons la_nil)) (se_one (se_callN (ok_are_pairs T) (hr.mono (by decide)) tk (by rfl) (sa_cons (se_ix (se_var (pv 0)) se_int) (sa_cons (se_ix (se_var (pv 0)) se_int) sa_nil)) (la_cons (la_cons la_nil)))))))
theorem ok_need_rule (T : Tp K mg C) : Dn P w K mg base C 5 "need_rule" ["rule"] run_need_rule := by
  refine dn_ok (nl := 0) T.d_need_rule sc_need_rule rfl (.inl rfl) (fun f cdv A outer s H E hr => ?_)
  have nd := sc_need_rule.nd
  have tk : Takes (cxOf (L2.CX P w) P w K mg base ["rule"] "need_rule" (defScope s_need_rule) f cdv A outer s H E) (Wd E) := takes_of rfl rfl rfl rfl
  exact (sss_one (ss_if (st_not (st_val (se_callN (ok_is_a_rule T) (hr.mono (by decide)) tk (by rfl) (sa_cons (se_var (pv 0)) sa_nil) (la_cons la_nil)))) (sss_one ss_never) sss_nil))
theorem ok_need_row (T : Tp K mg C) : Dn P w K mg base C 5 "need_row" ["row"] run_need_row := by
  refine dn_ok (nl := 0) T.d_need_row sc_need_row rfl (.inl rfl) (fun f cdv A outer s H E hr => ?_)
  have nd := sc_need_row.nd
  have tk : Takes (cxOf (L2.CX P w) P w K mg base ["row"] "need_row" (defScope s_need_row) f cdv A outer s H E) (Wd E) := takes_of rfl rfl rfl rfl
  exact (sss_one (ss_if (st_not (st_val (se_callN (ok_is_a_row T) (hr.mono (by decide)) tk (by rfl) (sa_cons (se_var (pv 0)) sa_nil) (la_cons la_nil)))) (sss_one ss_never) sss_nil))
theorem ok_need_same (T : Tp K mg C) : Dn P w K mg base C 1 "need_same" ["one", "other"] run_need_same := by
  refine dn_ok (nl := 0) T.d_need_same sc_need_same rfl (.inl rfl) (fun f cdv A outer s H E hr => ?_)
  have nd := sc_need_same.nd
  have tk : Takes (cxOf (L2.CX P w) P w K mg base ["one", "other"] "need_same" (defScope s_need_same) f cdv A outer s H E) (Wd E) := takes_of rfl rfl rfl rfl
  exact (sss_one (ss_if (st_cmp (op_neU (hu64 hr)) os_ne (se_ix (se_var (pv 0)) se_int) (se_ix (se_var (pv 1)) se_int) (nomark _)) (sss_one ss_never) sss_nil))
theorem ok_collected (T : Tp K mg C) : Dn P w K mg base C 1 "collected" ["pairs", "modulus"] run_collected := by
  refine dn_ok (nl := 3) T.d_collected sc_collected rfl (.inl rfl) (fun f cdv A outer s H E hr => ?_)
  have nd := sc_collected.nd
  have tk : Takes (cxOf (L2.CX P w) P w K mg base ["pairs", "modulus", "found", "place", "value"] "collected" (defScope s_collected) f cdv A outer s H E) (Wd E) := takes_of rfl rfl rfl rfl
  exact (sss_cons (ss_set (ps_set (i := 2) nd rfl (by first | exact Or.inl rfl | exact Or.inr rfl) se_dct0))
  (sss_cons (ss_for (passes_of rfl) rfl (si_seq (se_var (pv 0))) (sg_tup (n := 2) rfl (fun h => pg_tup rfl h) (sgs_cons (sg_nm (pg_name (i := 3) nd rfl (by first | exact Or.inl rfl | exact Or.inr rfl))) (sgs_cons (sg_nm (pg_name (i := 4) nd rfl (by first | exact Or.inl rfl | exact Or.inr rfl))) sgs_nil))) (sss_one (ss_dput (ps_dput (hu_of hr) (se_var (pv 2)) (se_var (pv 3)) (se_bin op_addU os_add (se_dget2 (pe_dget2 (hu_of hr) (se_var (pv 2)) (se_var (pv 3)) se_int ⟨rfl, rfl, rfl, rfl⟩)) (se_var (pv 4))) (by rfl)))))
  (sss_one (ss_ret (se_bT call_tupleF bs_tuple (by rfl) T.b_tuple (by decide +kernel) (sa_cons (se_comp (own := [("place", 3)]) (tt := tTest (tE K C W0 (evOp2 dNe (evOp2 dMod (evOp2 dGetD (evVar 2) (evVar 3)) (evVar 1)) (evC (.int 0))))) rfl nd (si_seq (se_b (call_sortU rfl) bs_sorted (by rfl) T.b_sorted (by decide +kernel) (sa_cons (se_var (pv 2)) sa_nil))) (blkOk_by (by rfl)) (by decide) (fun _ _ _ _ _ => (sg_nm (pg_name (i := 3) nd rfl (by first | exact Or.inl rfl | exact Or.inr rfl)))) (fun _ _ _ _ _ => pts_one (st_cmp (op_neU (hu64 hr)) os_ne (se_bin op_mod os_mod (se_dget (pe_dget (hu_of hr) (se_var (pv 2)) (se_var (pv 3)) (fun _ _ => rfl))) (se_var (pv 1))) se_int (nomark _))) (fun _ _ _ h => h) (fun _ _ _ _ _ => (se_tup (sa_cons (se_var (pv 3)) (sa_cons (se_bin op_mod os_mod (se_dget (pe_dget (hu_of hr) (se_var (pv 2)) (se_var (pv 3)) (fun _ _ => rfl))) (se_var (pv 1))) sa_nil)) (la_cons (la_cons la_nil))))) sa_nil))))))
theorem ok_plus (T : Tp K mg C) : Dn P w K mg base C 6 "plus" ["one", "other"] run_plus := by
  refine dn_ok (nl := 0) T.d_plus sc_plus rfl (.inl rfl) (fun f cdv A outer s H E hr => ?_)
  have nd := sc_plus.nd
  have tk : Takes (cxOf (L2.CX P w) P w K mg base ["one", "other"] "plus" (defScope s_plus) f cdv A outer s H E) (Wd E) := takes_of rfl rfl rfl rfl
  exact (sss_cons (ss_expr (se_callN (ok_need_rule T) (hr.mono (by decide)) tk (by rfl) (sa_cons (se_var (pv 0)) sa_nil) (la_cons la_nil)))
  (sss_cons (ss_expr (se_callN (ok_need_rule T) (hr.mono (by decide)) tk (by rfl) (sa_cons (se_var (pv 1)) sa_nil) (la_cons la_nil)))
  (sss_cons (ss_expr (se_callN (ok_need_same T) (hr.mono (by decide)) tk (by rfl) (sa_cons (se_var (pv 0)) (sa_cons (se_var (pv 1)) sa_nil)) (la_cons (la_cons la_nil))))
  (sss_one (ss_ret (se_tup (sa_cons (se_ix (se_var (pv 0)) se_int) (sa_cons (se_callN (ok_collected T) (hr.mono (by decide)) tk (by rfl) (sa_cons (se_bin op_addU os_add (se_ix (se_var (pv 0)) se_int) (se_ix (se_var (pv 1)) se_int)) (sa_cons (se_ix (se_var (pv 0)) se_int) sa_nil)) (la_cons (la_cons la_nil))) sa_nil)) (la_cons (la_cons la_nil))))))))
theorem ok_behind (T : Tp K mg C) : Dn P w K mg base C 6 "behind" ["one", "other"] run_behind := by
  refine dn_ok (nl := 5) T.d_behind sc_behind rfl (.inl rfl) (fun f cdv A outer s H E hr => ?_)
  have nd := sc_behind.nd
  have tk : Takes (cxOf (L2.CX P w) P w K mg base ["one", "other", "pairs", "offset", "factor", "further", "number"] "behind" (defScope s_behind) f cdv A outer s H E) (Wd E) := takes_of rfl rfl rfl rfl
  exact (sss_cons (ss_expr (se_callN (ok_need_rule T) (hr.mono (by decide)) tk (by rfl) (sa_cons (se_var (pv 0)) sa_nil) (la_cons la_nil)))
  (sss_cons (ss_expr (se_callN (ok_need_rule T) (hr.mono (by decide)) tk (by rfl) (sa_cons (se_var (pv 1)) sa_nil) (la_cons la_nil)))
  (sss_cons (ss_expr (se_callN (ok_need_same T) (hr.mono (by decide)) tk (by rfl) (sa_cons (se_var (pv 0)) (sa_cons (se_var (pv 1)) sa_nil)) (la_cons (la_cons la_nil))))
  (sss_cons (ss_setComp2 (own := [("offset", 3), ("factor", 4), ("further", 5), ("number", 6)]) (vs1 := [5, 6]) (i := 2) rfl nd rfl rfl (sw_true rfl rfl rfl (by decide +kernel)) (si_seq (se_ix (se_var (pv 0)) se_int)) (blkOk_by (by rfl)) (by decide) (by decide) (by decide) (fun _ _ _ _ _ => (sg_tup (n := 2) rfl (fun h => pg_tup rfl h) (sgs_cons (sg_nm (pg_name (i := 3) nd rfl (by first | exact Or.inl rfl | exact Or.inr rfl))) (sgs_cons (sg_nm (pg_name (i := 4) nd rfl (by first | exact Or.inl rfl | exact Or.inr rfl))) sgs_nil)))) (fun _ _ _ _ _ => pts_nil) htt_yes (fun _ _ _ _ _ => (si_seq (se_ix (se_var (pv 1)) se_int))) (fun _ _ _ _ _ => (sg_tup (n := 2) rfl (fun h => pg_tup rfl h) (sgs_cons (sg_nm (pg_name (i := 5) nd rfl (by first | exact Or.inl rfl | exact Or.inr rfl))) (sgs_cons (sg_nm (pg_name (i := 6) nd rfl (by first | exact Or.inl rfl | exact Or.inr rfl))) sgs_nil)))) (fun _ _ _ _ _ => pts_nil) htt_yes (fun _ _ _ _ _ => (se_tup (sa_cons (se_bin op_addU os_add (se_var (pv 3)) (se_var (pv 5))) (sa_cons (se_bin op_mulU os_mul (se_var (pv 4)) (se_var (pv 6))) sa_nil)) (la_cons (la_cons la_nil)))))
  (sss_one (ss_ret (se_tup (sa_cons (se_ix (se_var (pv 0)) se_int) (sa_cons (se_callN (ok_collected T) (hr.mono (by decide)) tk (by rfl) (sa_cons (se_var (pv 2)) (sa_cons (se_ix (se_var (pv 0)) se_int) sa_nil)) (la_cons (la_cons la_nil))) sa_nil)) (la_cons (la_cons la_nil)))))))))
theorem ok_step (T : Tp K mg C) : Dn P w K mg base C 6 "step" ["rule", "row"] run_step := by
  refine dn_ok (nl := 5) T.d_step sc_step rfl (.inl rfl) (fun f cdv A outer s H E hr => ?_)
  have nd := sc_step.nd
  have tk : Takes (cxOf (L2.CX P w) P w K mg base ["rule", "row", "pairs", "offset", "factor", "place", "value"] "step" (defScope s_step) f cdv A outer s H E) (Wd E) := takes_of rfl rfl rfl rfl
  exact (sss_cons (ss_expr (se_callN (ok_need_rule T) (hr.mono (by decide)) tk (by rfl) (sa_cons (se_var (pv 0)) sa_nil) (la_cons la_nil)))
  (sss_cons (ss_expr (se_callN (ok_need_row T) (hr.mono (by decide)) tk (by rfl) (sa_cons (se_var (pv 1)) sa_nil) (la_cons la_nil)))
  (sss_cons (ss_expr (se_callN (ok_need_same T) (hr.mono (by decide)) tk (by rfl) (sa_cons (se_var (pv 0)) (sa_cons (se_var (pv 1)) sa_nil)) (la_cons (la_cons la_nil))))
  (sss_cons (ss_setComp2 (own := [("offset", 3), ("factor", 4), ("place", 5), ("value", 6)]) (vs1 := [5, 6]) (i := 2) rfl nd rfl rfl (sw_true rfl rfl rfl (by decide +kernel)) (si_seq (se_ix (se_var (pv 0)) se_int)) (blkOk_by (by rfl)) (by decide) (by decide) (by decide) (fun _ _ _ _ _ => (sg_tup (n := 2) rfl (fun h => pg_tup rfl h) (sgs_cons (sg_nm (pg_name (i := 3) nd rfl (by first | exact Or.inl rfl | exact Or.inr rfl))) (sgs_cons (sg_nm (pg_name (i := 4) nd rfl (by first | exact Or.inl rfl | exact Or.inr rfl))) sgs_nil)))) (fun _ _ _ _ _ => pts_nil) htt_yes (fun _ _ _ _ _ => (si_seq (se_ix (se_var (pv 1)) se_int))) (fun _ _ _ _ _ => (sg_tup (n := 2) rfl (fun h => pg_tup rfl h) (sgs_cons (sg_nm (pg_name (i := 5) nd rfl (by first | exact Or.inl rfl | exact Or.inr rfl))) (sgs_cons (sg_nm (pg_name (i := 6) nd rfl (by first | exact Or.inl rfl | exact Or.inr rfl))) sgs_nil)))) (fun _ _ _ _ _ => pts_nil) htt_yes (fun _ _ _ _ _ => (se_tup (sa_cons (se_bin op_sub os_sub (se_var (pv 5)) (se_var (pv 3))) (sa_cons (se_bin op_mulU os_mul (se_var (pv 4)) (se_var (pv 6))) sa_nil)) (la_cons (la_cons la_nil)))))
  (sss_one (ss_ret (se_tup (sa_cons (se_ix (se_var (pv 1)) se_int) (sa_cons (se_callN (ok_collected T) (hr.mono (by decide)) tk (by rfl) (sa_cons (se_var (pv 2)) (sa_cons (se_ix (se_var (pv 1)) se_int) sa_nil)) (la_cons (la_cons la_nil))) sa_nil)) (la_cons (la_cons la_nil)))))))))
theorem ok_step_rules (T : Tp K mg C) : Dn P w K mg base C 6 "step_rules" ["rule", "row"] run_step := by
  obtain ⟨f, fd, m, F⟩ := (ok_step (P := P) (w := w) (base := base) T).ex
  exact ⟨f, fd, T.l_step_rules.trans m, F⟩
theorem ok_added (T : Tp K mg C) : Dn P w K mg base C 6 "added" ["one", "other"] run_added := by
  refine dn_ok (nl := 0) T.d_added sc_added rfl (.inl rfl) (fun f cdv A outer s H E hr => ?_)
  have nd := sc_added.nd
  have tk : Takes (cxOf (L2.CX P w) P w K mg base ["one", "other"] "added" (defScope s_added) f cdv A outer s H E) (Wd E) := takes_of rfl rfl rfl rfl
  exact (sss_cons (ss_expr (se_callN (ok_need_row T) (hr.mono (by decide)) tk (by rfl) (sa_cons (se_var (pv 0)) sa_nil) (la_cons la_nil)))
  (sss_cons (ss_expr (se_callN (ok_need_row T) (hr.mono (by decide)) tk (by rfl) (sa_cons (se_var (pv 1)) sa_nil) (la_cons la_nil)))
  (sss_cons (ss_expr (se_callN (ok_need_same T) (hr.mono (by decide)) tk (by rfl) (sa_cons (se_var (pv 0)) (sa_cons (se_var (pv 1)) sa_nil)) (la_cons (la_cons la_nil))))
  (sss_one (ss_ret (se_tup (sa_cons (se_ix (se_var (pv 0)) se_int) (sa_cons (se_callN (ok_collected T) (hr.mono (by decide)) tk (by rfl) (sa_cons (se_bin op_addU os_add (se_ix (se_var (pv 0)) se_int) (se_ix (se_var (pv 1)) se_int)) (sa_cons (se_ix (se_var (pv 0)) se_int) sa_nil)) (la_cons (la_cons la_nil))) sa_nil)) (la_cons (la_cons la_nil))))))))
theorem ok_places_apart (T : Tp K mg C) : Dn P w K mg base C 1 "places_apart" ["one", "other"] run_places_apart := by
  refine dn_ok (nl := 4) T.d_places_apart sc_places_apart rfl (.inl rfl) (fun f cdv A outer s H E hr => ?_)
  have nd := sc_places_apart.nd
  have tk : Takes (cxOf (L2.CX P w) P w K mg base ["one", "other", "here", "there", "found", "place"] "places_apart" (defScope s_places_apart) f cdv A outer s H E) (Wd E) := takes_of rfl rfl rfl rfl
  exact (sss_cons (ss_tg (sg_tup (n := 2) rfl (fun h => pg_tup rfl h) (sgs_cons (sg_nm (pg_name (i := 2) nd rfl (by first | exact Or.inl rfl | exact Or.inr rfl))) (sgs_cons (sg_nm (pg_name (i := 3) nd rfl (by first | exact Or.inl rfl | exact Or.inr rfl))) sgs_nil))) (se_tup (sa_cons (se_dict (pe_callTy (call_dictU rfl) (by rfl) T.b_dict (by decide +kernel) (pa_cons (se_ix (se_var (pv 0)) se_int) pa_nil))) (sa_cons (se_dict (pe_callTy (call_dictU rfl) (by rfl) T.b_dict (by decide +kernel) (pa_cons (se_ix (se_var (pv 1)) se_int) pa_nil))) sa_nil)) (la_cons (la_cons la_nil))))
  (sss_cons (ss_lock (ss_setComp (own := [("place", 5)]) (tt := tTest (tE K C W0 (evOp2 dNe (evOp2 dGetD (evVar 2) (evVar 5)) (evGet2 (evVar 3) (evVar 5) (evC (.int 0)))))) (i := 4) rfl nd rfl rfl (sw_true rfl rfl rfl (by decide +kernel)) (si_keys (se_var (pv 2))) (blkOk_by (by rfl)) (by decide) (fun _ _ _ _ _ => (sg_nm (pg_name (i := 5) nd rfl (by first | exact Or.inl rfl | exact Or.inr rfl)))) (fun _ _ _ _ _ => pts_one (st_cmp (op_neU (hu64 hr)) os_ne (se_dget (pe_dget (hu_of hr) (se_var (pv 2)) (se_var (pv 5)) (fun _ _ => rfl))) (se_dget2 (pe_dget2 (hu_of hr) (se_var (pv 3)) (se_var (pv 5)) se_int ⟨rfl, rfl, rfl, rfl⟩)) (nomark _))) (fun _ _ _ h => h) (fun _ _ _ _ _ => (se_var (pv 5)))))
  (sss_one (ss_ret (se_b (call_sortU rfl) bs_sorted (by rfl) T.b_sorted (by decide +kernel) (sa_cons (se_bin op_addU os_add (se_var (pv 4)) (se_lock (se_comp (own := [("place", 5)]) (tt := tTest (tE K C W0 (evOp2 dNotInD (evVar 5) (evVar 2)))) rfl nd (si_keys (se_var (pv 3))) (blkOk_by (by rfl)) (by decide) (fun _ _ _ _ _ => (sg_nm (pg_name (i := 5) nd rfl (by first | exact Or.inl rfl | exact Or.inr rfl)))) (fun _ _ _ _ _ => pts_one (st_dnotin (pt_cmp (pc_dnotin (hu_of hr) (se_var (pv 5)) (se_var (pv 2)))))) (fun _ _ _ h => h) (fun _ _ _ _ _ => (se_var (pv 5)))))) sa_nil))))))
theorem ok_Live__init (T : Tp K mg C) : Mks P w K mg base C 6 0 "Live" ["self", "row"] run_Live__init := by
  refine mks_ok (nl := 0) T.d_Live__init sc_Live__init rfl (.inr rfl) (fun f cdv A outer s H E hr => ?_)
  have nd := sc_Live__init.nd
  have tk : Takes (cxOf (L2.CX P w) P w K mg base ["self", "row"] "Live.__init__" (defScope s_Live__init) f cdv A outer s H E) (Wd E) := takes_of rfl rfl rfl rfl
  exact (sss_cons (ss_expr (se_callN (ok_need_row T) (hr.mono (by decide)) tk (by rfl) (sa_cons (se_var (pv 1)) sa_nil) (la_cons la_nil)))
  (sss_cons (ss_fld (ps_fld (se_var (pv 0)) (se_var (pv 1)) rfl) T.Live_cl T.Live_n0 T.Live_nd T.Live_f0 T.Live_le)
  (sss_cons (ss_fld (ps_fld (se_var (pv 0)) (se_var (pv 1)) rfl) T.Live_cl T.Live_n1 T.Live_nd T.Live_f1 T.Live_le)
  (sss_cons (ss_fld (ps_fld (se_var (pv 0)) (se_new sa_nil la_nil) rfl) T.Live_cl T.Live_n2 T.Live_nd T.Live_f2 T.Live_le)
  (sss_one (ss_fld (ps_fld (se_var (pv 0)) (se_new sa_nil la_nil) rfl) T.Live_cl T.Live_n3 T.Live_nd T.Live_f3 T.Live_le))))))
theorem ok_Live_row (T : Tp K mg C) : Pr P w K mg base C 1 0 "row" ["self"] run_Live_row := by
  refine pr_ok (nl := 0) T.d_Live_row sc_Live_row rfl (.inl rfl) (fun f cdv A outer s H E hr => ?_)
  have nd := sc_Live_row.nd
  have tk : Takes (cxOf (L2.CX P w) P w K mg base ["self"] "Live.row" (defScope s_Live_row) f cdv A outer s H E) (Wd E) := takes_of rfl rfl rfl rfl
  exact (sss_one (ss_ret (se_fld (pe_fld (se_var (pv 0)) rfl) T.Live_cl T.Live_n1 T.Live_nd T.Live_f1)))
theorem ok_Live_modulus (T : Tp K mg C) : Pr P w K mg base C 1 0 "modulus" ["self"] run_Live_modulus := by
  refine pr_ok (nl := 0) T.d_Live_modulus sc_Live_modulus rfl (.inl rfl) (fun f cdv A outer s H E hr => ?_)
  have nd := sc_Live_modulus.nd
  have tk : Takes (cxOf (L2.CX P w) P w K mg base ["self"] "Live.modulus" (defScope s_Live_modulus) f cdv A outer s H E) (Wd E) := takes_of rfl rfl rfl rfl
  exact (sss_one (ss_ret (se_ix (se_fld (pe_fld (se_var (pv 0)) rfl) T.Live_cl T.Live_n0 T.Live_nd T.Live_f0) se_int)))
theorem ok_Live__eq (T : Tp K mg C) : Qd P w K mg base C 1 0 ["self", "other"] run_Live__eq := by
  refine qd_ok (nl := 0) T.d_Live__eq sc_Live__eq rfl (.inl rfl) (fun f cdv A outer s H E hr => ?_)
  have nd := sc_Live__eq.nd
  have tk : Takes (cxOf (L2.CX P w) P w K mg base ["self", "other"] "Live.__eq__" (defScope s_Live__eq) f cdv A outer s H E) (Wd E) := takes_of rfl rfl rfl rfl
  exact (sss_one (ss_ret (se_and (se_isC T.Live_ic (pe_callB call_isi (by rfl) T.b_isinstance PyProof.Rows.boot_isinstance (pa_cons (se_var (pv 1)) (pa_cons (pe_glob (by rfl) T.Live_gl rfl) pa_nil)))) (se_one (se_cmp (op_eqU (hu64 hr)) os_eq (se_fld (pe_fld (se_var (pv 0)) rfl) T.Live_cl T.Live_n1 T.Live_nd T.Live_f1) (se_fld (pe_fld (se_var (pv 1)) rfl) T.Live_cl T.Live_n1 T.Live_nd T.Live_f1) (nomark _))))))
theorem ok_Live_done (T : Tp K mg C) : Md P w K mg base C 2 0 "_done" ["self", "deed", "row"] run_Live_done := by
  refine md_ok (nl := 1) T.d_Live_done sc_Live_done rfl (.inl rfl) (fun f cdv A outer s H E hr => ?_)
  have nd := sc_Live_done.nd
  have tk : Takes (cxOf (L2.CX P w) P w K mg base ["self", "deed", "row", "changed"] "Live._done" (defScope s_Live_done) f cdv A outer s H E) (Wd E) := takes_of rfl rfl rfl rfl
  exact (sss_cons (ss_expr (se_app (pe_bm PySem.F.plainAttrs_list PySem.F.slot_list_append PySem.F.type_list_append mt_append (se_fld (pe_fld (se_var (pv 0)) rfl) T.Live_cl T.Live_n2 T.Live_nd T.Live_f2) (pa_cons (se_tup (sa_cons (se_var (pv 1)) (sa_cons (se_fld (pe_fld (se_var (pv 0)) rfl) T.Live_cl T.Live_n1 T.Live_nd T.Live_f1) sa_nil)) (la_cons (la_cons la_nil))) pa_nil))))
  (sss_cons (ss_set (ps_set (i := 3) nd rfl (by first | exact Or.inl rfl | exact Or.inr rfl) (se_b call_lenU bs_len (by rfl) T.b_len (by decide +kernel) (sa_cons (se_callN (ok_places_apart T) (hr.mono (by decide)) tk (by rfl) (sa_cons (se_fld (pe_fld (se_var (pv 0)) rfl) T.Live_cl T.Live_n1 T.Live_nd T.Live_f1) (sa_cons (se_var (pv 2)) sa_nil)) (la_cons (la_cons la_nil))) sa_nil))))
  (sss_cons (ss_fld (ps_fld (se_var (pv 0)) (se_var (pv 2)) rfl) T.Live_cl T.Live_n1 T.Live_nd T.Live_f1 T.Live_le)
  (sss_one (ss_ret (se_var (pv 3)))))))
theorem ok_Live_step (T : Tp K mg C) : Md P w K mg base C 7 0 "step" ["self", "rule"] run_Live_step := by
  refine md_ok (nl := 0) T.d_Live_step sc_Live_step rfl (.inl rfl) (fun f cdv A outer s H E hr => ?_)
  have nd := sc_Live_step.nd
  have tk : Takes (cxOf (L2.CX P w) P w K mg base ["self", "rule"] "Live.step" (defScope s_Live_step) f cdv A outer s H E) (Wd E) := takes_of rfl rfl rfl rfl
  exact (sss_cons (ss_expr (se_callN (ok_need_rule T) (hr.mono (by decide)) tk (by rfl) (sa_cons (se_var (pv 1)) sa_nil) (la_cons la_nil)))
  (sss_cons (ss_expr (se_callN (ok_need_same T) (hr.mono (by decide)) tk (by rfl) (sa_cons (se_fld (pe_fld (se_var (pv 0)) rfl) T.Live_cl T.Live_n1 T.Live_nd T.Live_f1) (sa_cons (se_var (pv 1)) sa_nil)) (la_cons (la_cons la_nil))))
  (sss_one (ss_ret (se_meth (ok_Live_done T) rfl (hr.mono (by decide)) tk (se_var (pv 0)) (sa_cons (se_tup (sa_cons se_str (sa_cons (se_var (pv 1)) sa_nil)) (la_cons (la_cons la_nil))) (sa_cons (se_callN (ok_step_rules T) (hr.mono (by decide)) tk (by rfl) (sa_cons (se_var (pv 1)) (sa_cons (se_fld (pe_fld (se_var (pv 0)) rfl) T.Live_cl T.Live_n1 T.Live_nd T.Live_f1) sa_nil)) (la_cons (la_cons la_nil))) sa_nil)) (la_cons (la_cons la_nil)))))))
theorem ok_Live_add (T : Tp K mg C) : Md P w K mg base C 7 0 "add" ["self", "row"] run_Live_add := by
  refine md_ok (nl := 0) T.d_Live_add sc_Live_add rfl (.inl rfl) (fun f cdv A outer s H E hr => ?_)
  have nd := sc_Live_add.nd
  have tk : Takes (cxOf (L2.CX P w) P w K mg base ["self", "row"] "Live.add" (defScope s_Live_add) f cdv A outer s H E) (Wd E) := takes_of rfl rfl rfl rfl
  exact (sss_cons (ss_expr (se_callN (ok_need_row T) (hr.mono (by decide)) tk (by rfl) (sa_cons (se_var (pv 1)) sa_nil) (la_cons la_nil)))
  (sss_cons (ss_expr (se_callN (ok_need_same T) (hr.mono (by decide)) tk (by rfl) (sa_cons (se_fld (pe_fld (se_var (pv 0)) rfl) T.Live_cl T.Live_n1 T.Live_nd T.Live_f1) (sa_cons (se_var (pv 1)) sa_nil)) (la_cons (la_cons la_nil))))
  (sss_one (ss_ret (se_meth (ok_Live_done T) rfl (hr.mono (by decide)) tk (se_var (pv 0)) (sa_cons (se_tup (sa_cons se_str (sa_cons (se_var (pv 1)) sa_nil)) (la_cons (la_cons la_nil))) (sa_cons (se_callN (ok_added T) (hr.mono (by decide)) tk (by rfl) (sa_cons (se_fld (pe_fld (se_var (pv 0)) rfl) T.Live_cl T.Live_n1 T.Live_nd T.Live_f1) (sa_cons (se_var (pv 1)) sa_nil)) (la_cons (la_cons la_nil))) sa_nil)) (la_cons (la_cons la_nil)))))))
theorem ok_Live_move (T : Tp K mg C) : Md P w K mg base C 3 0 "move" ["self", "by"] run_Live_move := by
  refine md_ok (nl := 3) T.d_Live_move sc_Live_move rfl (.inl rfl) (fun f cdv A outer s H E hr => ?_)
  have nd := sc_Live_move.nd
  have tk : Takes (cxOf (L2.CX P w) P w K mg base ["self", "by", "moved", "place", "value"] "Live.move" (defScope s_Live_move) f cdv A outer s H E) (Wd E) := takes_of rfl rfl rfl rfl
  exact (sss_cons (ss_set (ps_set (i := 2) nd rfl (by first | exact Or.inl rfl | exact Or.inr rfl) (se_bT call_tupleF bs_tuple (by rfl) T.b_tuple (by decide +kernel) (sa_cons (se_comp (own := [("place", 3), ("value", 4)]) rfl nd (si_seq (se_ix (se_fld (pe_fld (se_var (pv 0)) rfl) T.Live_cl T.Live_n1 T.Live_nd T.Live_f1) se_int)) (blkOk_by (by rfl)) (by decide) (fun _ _ _ _ _ => (sg_tup (n := 2) rfl (fun h => pg_tup rfl h) (sgs_cons (sg_nm (pg_name (i := 3) nd rfl (by first | exact Or.inl rfl | exact Or.inr rfl))) (sgs_cons (sg_nm (pg_name (i := 4) nd rfl (by first | exact Or.inl rfl | exact Or.inr rfl))) sgs_nil)))) (fun _ _ _ _ _ => pts_nil) htt_yes (fun _ _ _ _ _ => (se_tup (sa_cons (se_bin op_addU os_add (se_var (pv 3)) (se_var (pv 1))) (sa_cons (se_var (pv 4)) sa_nil)) (la_cons (la_cons la_nil))))) sa_nil))))
  (sss_one (ss_ret (se_meth (ok_Live_done T) rfl (hr.mono (by decide)) tk (se_var (pv 0)) (sa_cons (se_tup (sa_cons se_str (sa_cons (se_var (pv 1)) sa_nil)) (la_cons (la_cons la_nil))) (sa_cons (se_tup (sa_cons (se_prop (ok_Live_modulus T) rfl (hr.mono (by decide)) (se_var (pv 0))) (sa_cons (se_var (pv 2)) sa_nil)) (la_cons (la_cons la_nil))) sa_nil)) (la_cons (la_cons la_nil))))))
theorem ok_Live_count (T : Tp K mg C) : Md P w K mg base C 1 0 "count" ["self"] run_Live_count := by
  refine md_ok (nl := 0) T.d_Live_count sc_Live_count rfl (.inl rfl) (fun f cdv A outer s H E hr => ?_)
  have nd := sc_Live_count.nd
  have tk : Takes (cxOf (L2.CX P w) P w K mg base ["self"] "Live.count" (defScope s_Live_count) f cdv A outer s H E) (Wd E) := takes_of rfl rfl rfl rfl
  exact (sss_one (ss_ret (se_b call_lenU bs_len (by rfl) T.b_len (by decide +kernel) (sa_cons (se_ix (se_fld (pe_fld (se_var (pv 0)) rfl) T.Live_cl T.Live_n1 T.Live_nd T.Live_f1) se_int) sa_nil))))
theorem ok_Live_total (T : Tp K mg C) : Md P w K mg base C 3 0 "total" ["self"] run_Live_total := by
  refine md_ok (nl := 2) T.d_Live_total sc_Live_total rfl (.inl rfl) (fun f cdv A outer s H E hr => ?_)
  have nd := sc_Live_total.nd
  have tk : Takes (cxOf (L2.CX P w) P w K mg base ["self", "place", "value"] "Live.total" (defScope s_Live_total) f cdv A outer s H E) (Wd E) := takes_of rfl rfl rfl rfl
  exact (sss_one (ss_ret (se_bin op_mod os_mod (se_b (cr_sum rfl) bs_sum (by rfl) T.b_sum (by decide +kernel) (sa_cons (se_comp (own := [("place", 1), ("value", 2)]) rfl nd (si_seq (se_ix (se_fld (pe_fld (se_var (pv 0)) rfl) T.Live_cl T.Live_n1 T.Live_nd T.Live_f1) se_int)) (blkOk_by (by rfl)) (by decide) (fun _ _ _ _ _ => (sg_tup (n := 2) rfl (fun h => pg_tup rfl h) (sgs_cons (sg_nm (pg_name (i := 1) nd rfl (by first | exact Or.inl rfl | exact Or.inr rfl))) (sgs_cons (sg_nm (pg_name (i := 2) nd rfl (by first | exact Or.inl rfl | exact Or.inr rfl))) sgs_nil)))) (fun _ _ _ _ _ => pts_nil) htt_yes (fun _ _ _ _ _ => (se_var (pv 2)))) sa_nil)) (se_prop (ok_Live_modulus T) rfl (hr.mono (by decide)) (se_var (pv 0))))))
theorem ok_Live_unlike_places (T : Tp K mg C) : Md P w K mg base C 3 0 "unlike_places" ["self", "other"] run_Live_unlike_places := by
  refine md_ok (nl := 0) T.d_Live_unlike_places sc_Live_unlike_places rfl (.inl rfl) (fun f cdv A outer s H E hr => ?_)
  have nd := sc_Live_unlike_places.nd
  have tk : Takes (cxOf (L2.CX P w) P w K mg base ["self", "other"] "Live.unlike_places" (defScope s_Live_unlike_places) f cdv A outer s H E) (Wd E) := takes_of rfl rfl rfl rfl
  exact (sss_cons (ss_expr (se_callN (ok_need_same T) (hr.mono (by decide)) tk (by rfl) (sa_cons (se_fld (pe_fld (se_var (pv 0)) rfl) T.Live_cl T.Live_n1 T.Live_nd T.Live_f1) (sa_cons (se_prop (ok_Live_row T) rfl (hr.mono (by decide)) (se_var (pv 1))) sa_nil)) (la_cons (la_cons la_nil))))
  (sss_one (ss_ret (se_callN (ok_places_apart T) (hr.mono (by decide)) tk (by rfl) (sa_cons (se_fld (pe_fld (se_var (pv 0)) rfl) T.Live_cl T.Live_n1 T.Live_nd T.Live_f1) (sa_cons (se_prop (ok_Live_row T) rfl (hr.mono (by decide)) (se_var (pv 1))) sa_nil)) (la_cons (la_cons la_nil))))))
theorem ok_law_pot (T : Tp K mg C) : Dn P w K mg base C 1 "_law_pot" ["_law_script", "_law_k"] run_law_pot := by
  refine dn_ok (nl := 3) T.d_law_pot sc_law_pot rfl (.inr rfl) (fun f cdv A outer s H E hr => ?_)
  have nd := sc_law_pot.nd
  have tk : Takes (cxOf (L2.CX P w) P w K mg base ["_law_script", "_law_k", "_law_total", "_law_other", "_law_cell"] "_law_pot" (defScope s_law_pot) f cdv A outer s H E) (Wd E) := takes_of rfl rfl rfl rfl
  exact (sss_cons (ss_set (ps_set (i := 2) nd rfl (by first | exact Or.inl rfl | exact Or.inr rfl) (se_bin op_addU os_add (se_bin op_mulU os_mul se_int (se_var (pv 1))) se_int)))
  (sss_cons (ss_for (passes_of rfl) rfl (si_seq (se_var (pv 0))) (sg_nm (pg_name (i := 3) nd rfl (by first | exact Or.inl rfl | exact Or.inr rfl))) (sss_one (ss_set (ps_set (i := 2) nd rfl (by first | exact Or.inl rfl | exact Or.inr rfl) (se_bin op_mod os_mod (se_bT call_int1 bs_int (by rfl) T.b_int (by decide +kernel) (sa_cons (se_bin op_addU os_add (se_bin op_mulU os_mul (se_var (pv 2)) se_int) (se_var (pv 3))) sa_nil)) (se_bin op_addU os_add (se_bin op_powN os_pow se_int se_int) se_int))))))
  (sss_cons (ss_set (ps_set (i := 4) nd rfl (by first | exact Or.inl rfl | exact Or.inr rfl) (se_var (pv 2))))
  (sss_cons (ss_if (st_cmp op_lt os_lt (se_var (pv 1)) (se_b call_lenU bs_len (by rfl) T.b_len (by decide +kernel) (sa_cons (se_var (pv 0)) sa_nil)) (nomark _)) (sss_one (ss_set (ps_set (i := 4) nd rfl (by first | exact Or.inl rfl | exact Or.inr rfl) (se_ix (se_var (pv 0)) (se_var (pv 1)))))) sss_nil)
  (sss_one (ss_ret (se_new (sa_cons (se_b (call_max2 rfl) bs_max (by rfl) T.b_max (by decide +kernel) (sa_cons se_int (sa_cons (se_bin op_sub os_sub (se_var (pv 4)) (se_bin op_powN os_pow se_int se_int)) sa_nil))) (sa_cons (se_bin op_addU os_add (se_bin op_mod os_mod (se_bT call_int1 bs_int (by rfl) T.b_int (by decide +kernel) (sa_cons (se_bin op_addU os_add (se_bin op_mulU os_mul (se_var (pv 2)) se_int) (se_b call_abs bs_abs (by rfl) T.b_abs (by decide +kernel) (sa_cons (se_var (pv 4)) sa_nil))) sa_nil)) (se_bin op_addU os_add (se_bin op_powN os_pow se_int se_int) se_int)) (se_var (pv 1))) (sa_cons se_int sa_nil))) (la_cons (la_cons (la_cons la_nil))))))))))
theorem ok_law_draw (T : Tp K mg C) : Dn P w K mg base C 1 "_law_draw" ["_law_pot_here", "_law_many"] run_law_draw := by
  refine dn_ok (nl := 2) T.d_law_draw sc_law_draw rfl (.inl rfl) (fun f cdv A outer s H E hr => ?_)
  have nd := sc_law_draw.nd
  have tk : Takes (cxOf (L2.CX P w) P w K mg base ["_law_pot_here", "_law_many", "_law_found", "_law_mixed"] "_law_draw" (defScope s_law_draw) f cdv A outer s H E) (Wd E) := takes_of rfl rfl rfl rfl
  exact (sss_cons (ss_if (st_cmp op_gt os_gt (se_ix (se_var (pv 0)) se_int) se_int (nomark _)) (sss_cons (ss_set (ps_set (i := 2) nd rfl (by first | exact Or.inl rfl | exact Or.inr rfl) (se_bin op_mod os_mod (se_bT call_int1 bs_int (by rfl) T.b_int (by decide +kernel) (sa_cons (se_ix (se_var (pv 0)) se_int) sa_nil)) (se_var (pv 1)))))
  (sss_cons (ss_lput (ps_asg (se_bin op_fdivW os_fdiv (se_ix (se_var (pv 0)) se_int) (se_var (pv 1))) (pg_sub (se_var (pv 0)) se_int set_list)))
  (sss_one (ss_ret (se_var (pv 2)))))) sss_nil)
  (sss_cons (ss_lput (ps_asg (se_bin op_addU os_add (se_ix (se_var (pv 0)) se_int) se_int) (pg_sub (se_var (pv 0)) se_int set_list)))
  (sss_cons (ss_set (ps_set (i := 3) nd rfl (by first | exact Or.inl rfl | exact Or.inr rfl) (se_bin op_mod os_mod (se_bT call_int1 bs_int (by rfl) T.b_int (by decide +kernel) (sa_cons (se_bin op_addU os_add (se_bin op_mulU os_mul (se_ix (se_var (pv 0)) se_int) (se_bin op_addU os_add (se_ix (se_var (pv 0)) se_int) se_int)) (se_bin op_powN os_pow (se_ix (se_var (pv 0)) se_int) se_int)) sa_nil)) (se_bin op_addU os_add (se_bin op_powN os_pow se_int se_int) se_int))))
  (sss_cons (ss_set (ps_set (i := 3) nd rfl (by first | exact Or.inl rfl | exact Or.inr rfl) (se_bin op_mod os_mod (se_bT call_int1 bs_int (by rfl) T.b_int (by decide +kernel) (sa_cons (se_bin op_addU os_add (se_bin op_powN os_pow (se_var (pv 3)) se_int) (se_ix (se_var (pv 0)) se_int)) sa_nil)) (se_bin op_addU os_add (se_bin op_powN os_pow se_int se_int) se_int))))
  (sss_one (ss_ret (se_bin op_mod os_mod (se_bT call_int1 bs_int (by rfl) T.b_int (by decide +kernel) (sa_cons (se_bin op_fdivW os_fdiv (se_var (pv 3)) se_int) sa_nil)) (se_var (pv 1)))))))))
theorem ok_law_modulus (T : Tp K mg C) : Dn P w K mg base C 2 "_law_modulus" ["_law_pot_here"] run_law_modulus := by
  refine dn_ok (nl := 0) T.d_law_modulus sc_law_modulus rfl (.inl rfl) (fun f cdv A outer s H E hr => ?_)
  have nd := sc_law_modulus.nd
  have tk : Takes (cxOf (L2.CX P w) P w K mg base ["_law_pot_here"] "_law_modulus" (defScope s_law_modulus) f cdv A outer s H E) (Wd E) := takes_of rfl rfl rfl rfl
  exact (sss_one (ss_ret (se_ix (se_lst (sa_cons se_int (sa_cons se_int (sa_cons se_int (sa_cons se_int (sa_cons se_int (sa_cons se_int (sa_cons se_int (sa_cons se_int (sa_cons se_int (sa_cons se_int sa_nil)))))))))) (la_cons (la_cons (la_cons (la_cons (la_cons (la_cons (la_cons (la_cons (la_cons (la_cons la_nil))))))))))) (se_callN (ok_law_draw T) (hr.mono (by decide)) tk (by rfl) (sa_cons (se_var (pv 0)) (sa_cons se_int sa_nil)) (la_cons (la_cons la_nil))))))
theorem ok_law_terms (T : Tp K mg C) : Dn P w K mg base C 2 "_law_terms" ["_law_pot_here", "_law_modulus_here", "_law_most"] run_law_terms := by
  refine dn_ok (nl := 3) T.d_law_terms sc_law_terms rfl (.inl rfl) (fun f cdv A outer s H E hr => ?_)
  have nd := sc_law_terms.nd
  have tk : Takes (cxOf (L2.CX P w) P w K mg base ["_law_pot_here", "_law_modulus_here", "_law_most", "_law_found", "_law_turn", "_law_offset"] "_law_terms" (defScope s_law_terms) f cdv A outer s H E) (Wd E) := takes_of rfl rfl rfl rfl
  exact (sss_cons (ss_set (ps_set (i := 3) nd rfl (by first | exact Or.inl rfl | exact Or.inr rfl) se_dct0))
  (sss_cons (ss_for (passes_of rfl) rfl (si_r1 (pi_range1 (by rfl) T.b_range) (se_callN (ok_law_draw T) (hr.mono (by decide)) tk (by rfl) (sa_cons (se_var (pv 0)) (sa_cons (se_bin op_addU os_add (se_var (pv 2)) se_int) sa_nil)) (la_cons (la_cons la_nil)))) (sg_nm (pg_name (i := 4) nd rfl (by first | exact Or.inl rfl | exact Or.inr rfl))) (sss_one (ss_dput (ps_dput (hu_of hr) (se_var (pv 3)) (se_bin op_sub os_sub (se_callN (ok_law_draw T) (hr.mono (by decide)) tk (by rfl) (sa_cons (se_var (pv 0)) (sa_cons se_int sa_nil)) (la_cons (la_cons la_nil))) se_int) (se_bin op_addU os_add se_int (se_callN (ok_law_draw T) (hr.mono (by decide)) tk (by rfl) (sa_cons (se_var (pv 0)) (sa_cons (se_bin op_sub os_sub (se_var (pv 1)) se_int) sa_nil)) (la_cons (la_cons la_nil)))) (by rfl)))))
  (sss_one (ss_ret (se_bT call_tupleF bs_tuple (by rfl) T.b_tuple (by decide +kernel) (sa_cons (se_comp (own := [("_law_offset", 5)]) rfl nd (si_seq (se_b (call_sortU rfl) bs_sorted (by rfl) T.b_sorted (by decide +kernel) (sa_cons (se_var (pv 3)) sa_nil))) (blkOk_by (by rfl)) (by decide) (fun _ _ _ _ _ => (sg_nm (pg_name (i := 5) nd rfl (by first | exact Or.inl rfl | exact Or.inr rfl)))) (fun _ _ _ _ _ => pts_nil) htt_yes (fun _ _ _ _ _ => (se_tup (sa_cons (se_var (pv 5)) (sa_cons (se_dget (pe_dget (hu_of hr) (se_var (pv 3)) (se_var (pv 5)) (fun _ _ => rfl))) sa_nil)) (la_cons (la_cons la_nil))))) sa_nil))))))
theorem ok_law_great (T : Tp K mg C) : Dn P w K mg base C 2 "_law_great" ["_law_pot_here"] run_law_great := by
  refine dn_ok (nl := 1) T.d_law_great sc_law_great rfl (.inl rfl) (fun f cdv A outer s H E hr => ?_)
  have nd := sc_law_great.nd
  have tk : Takes (cxOf (L2.CX P w) P w K mg base ["_law_pot_here", "_law_found"] "_law_great" (defScope s_law_great) f cdv A outer s H E) (Wd E) := takes_of rfl rfl rfl rfl
  exact (sss_cons (ss_set (ps_set (i := 1) nd rfl (by first | exact Or.inl rfl | exact Or.inr rfl) (se_bin op_addU os_add (se_bin op_mulU os_mul (se_callN (ok_law_draw T) (hr.mono (by decide)) tk (by rfl) (sa_cons (se_var (pv 0)) (sa_cons (se_bin op_powN os_pow se_int se_int) sa_nil)) (la_cons (la_cons la_nil))) (se_bin op_powN os_pow se_int se_int)) (se_callN (ok_law_draw T) (hr.mono (by decide)) tk (by rfl) (sa_cons (se_var (pv 0)) (sa_cons (se_bin op_powN os_pow se_int se_int) sa_nil)) (la_cons (la_cons la_nil))))))
  (sss_cons (ss_set (ps_set (i := 1) nd rfl (by first | exact Or.inl rfl | exact Or.inr rfl) (se_bin op_addU os_add (se_bin op_mulU os_mul (se_var (pv 1)) (se_bin op_powN os_pow se_int se_int)) (se_callN (ok_law_draw T) (hr.mono (by decide)) tk (by rfl) (sa_cons (se_var (pv 0)) (sa_cons (se_bin op_powN os_pow se_int se_int) sa_nil)) (la_cons (la_cons la_nil))))))
  (sss_one (ss_ret (se_ix (se_lst (sa_cons (se_var (pv 1)) (sa_cons (se_bin op_sub os_sub se_int (se_var (pv 1))) sa_nil)) (la_cons (la_cons la_nil))) (se_callN (ok_law_draw T) (hr.mono (by decide)) tk (by rfl) (sa_cons (se_var (pv 0)) (sa_cons se_int sa_nil)) (la_cons (la_cons la_nil))))))))
theorem ok_law_base (T : Tp K mg C) : Dn P w K mg base C 3 "_law_base" ["_law_pot_here"] run_law_base := by
  refine dn_ok (nl := 1) T.d_law_base sc_law_base rfl (.inl rfl) (fun f cdv A outer s H E hr => ?_)
  have nd := sc_law_base.nd
  have tk : Takes (cxOf (L2.CX P w) P w K mg base ["_law_pot_here", "_law_way"] "_law_base" (defScope s_law_base) f cdv A outer s H E) (Wd E) := takes_of rfl rfl rfl rfl
  exact (sss_cons (ss_set (ps_set (i := 1) nd rfl (by first | exact Or.inl rfl | exact Or.inr rfl) (se_callN (ok_law_draw T) (hr.mono (by decide)) tk (by rfl) (sa_cons (se_var (pv 0)) (sa_cons se_int sa_nil)) (la_cons (la_cons la_nil)))))
  (sss_cons (ss_if (st_cmp op_lt os_lt (se_var (pv 1)) se_int (nomark _)) (sss_one (ss_ret (se_bin op_mulU os_mul (se_var (pv 1)) (se_bin op_sub os_sub (se_callN (ok_law_draw T) (hr.mono (by decide)) tk (by rfl) (sa_cons (se_var (pv 0)) (sa_cons se_int sa_nil)) (la_cons (la_cons la_nil))) se_int)))) sss_nil)
  (sss_one (ss_ret (se_callN (ok_law_great T) (hr.mono (by decide)) tk (by rfl) (sa_cons (se_var (pv 0)) sa_nil) (la_cons la_nil))))))
theorem ok_law_short_row (T : Tp K mg C) : Dn P w K mg base C 2 "_law_short_row" ["_law_pot_here", "_law_modulus_here", "_law_base_here", "_law_most"] run_law_short_row := by
  refine dn_ok (nl := 3) T.d_law_short_row sc_law_short_row rfl (.inl rfl) (fun f cdv A outer s H E hr => ?_)
  have nd := sc_law_short_row.nd
  have tk : Takes (cxOf (L2.CX P w) P w K mg base ["_law_pot_here", "_law_modulus_here", "_law_base_here", "_law_most", "_law_found", "_law_turn", "_law_place"] "_law_short_row" (defScope s_law_short_row) f cdv A outer s H E) (Wd E) := takes_of rfl rfl rfl rfl
  exact (sss_cons (ss_set (ps_set (i := 4) nd rfl (by first | exact Or.inl rfl | exact Or.inr rfl) se_dct0))
  (sss_cons (ss_for (passes_of rfl) rfl (si_r1 (pi_range1 (by rfl) T.b_range) (se_callN (ok_law_draw T) (hr.mono (by decide)) tk (by rfl) (sa_cons (se_var (pv 0)) (sa_cons (se_bin op_addU os_add (se_var (pv 3)) se_int) sa_nil)) (la_cons (la_cons la_nil)))) (sg_nm (pg_name (i := 5) nd rfl (by first | exact Or.inl rfl | exact Or.inr rfl))) (sss_one (ss_dput (ps_dput (hu_of hr) (se_var (pv 4)) (se_bin op_addU os_add (se_var (pv 2)) (se_callN (ok_law_draw T) (hr.mono (by decide)) tk (by rfl) (sa_cons (se_var (pv 0)) (sa_cons se_int sa_nil)) (la_cons (la_cons la_nil)))) (se_bin op_addU os_add se_int (se_callN (ok_law_draw T) (hr.mono (by decide)) tk (by rfl) (sa_cons (se_var (pv 0)) (sa_cons (se_bin op_sub os_sub (se_var (pv 1)) se_int) sa_nil)) (la_cons (la_cons la_nil)))) (by rfl)))))
  (sss_one (ss_ret (se_tup (sa_cons (se_var (pv 1)) (sa_cons (se_bT call_tupleF bs_tuple (by rfl) T.b_tuple (by decide +kernel) (sa_cons (se_comp (own := [("_law_place", 6)]) rfl nd (si_seq (se_b (call_sortU rfl) bs_sorted (by rfl) T.b_sorted (by decide +kernel) (sa_cons (se_var (pv 4)) sa_nil))) (blkOk_by (by rfl)) (by decide) (fun _ _ _ _ _ => (sg_nm (pg_name (i := 6) nd rfl (by first | exact Or.inl rfl | exact Or.inr rfl)))) (fun _ _ _ _ _ => pts_nil) htt_yes (fun _ _ _ _ _ => (se_tup (sa_cons (se_var (pv 6)) (sa_cons (se_dget (pe_dget (hu_of hr) (se_var (pv 4)) (se_var (pv 6)) (fun _ _ => rfl))) sa_nil)) (la_cons (la_cons la_nil))))) sa_nil)) sa_nil)) (la_cons (la_cons la_nil)))))))
theorem ok_law_same (T : Tp K mg C) : DnG P w K mg base C 1 "_law_same" ["_law_told", "_law_due"] run_law_same := by
  refine dn_okG (nl := 0) T.d_law_same sc_law_same rfl (.inl rfl) (fun f cdv A outer s H E hr hgd => ?_)
  have nd := sc_law_same.nd
  have tk : Takes (cxOf (L2.CX P w) P w K mg base ["_law_told", "_law_due"] "_law_same" (defScope s_law_same) f cdv A outer s H E) (Wd E) := takes_of rfl rfl rfl rfl
  exact (sss_one (ss_ret (se_cmp (op_eqU (hu64 hr)) os_eq (se_b (call_reprU hgd (hu66 hr)) bs_repr (by rfl) T.b_repr (by decide +kernel) (sa_cons (se_var (pv 0)) sa_nil)) (se_b (call_reprU hgd (hu66 hr)) bs_repr (by rfl) T.b_repr (by decide +kernel) (sa_cons (se_var (pv 1)) sa_nil)) (nomark _))))
theorem ok_law_against (T : Tp K mg C) : Dn P w K mg base C 8 "_law_against" ["_law_live", "_law_row", "_law_modulus_here"] run_law_against := by
  refine dn_ok (nl := 1) T.d_law_against sc_law_against rfl (.inl rfl) (fun f cdv A outer s H E hr => ?_)
  have nd := sc_law_against.nd
  have tk : Takes (cxOf (L2.CX P w) P w K mg base ["_law_live", "_law_row", "_law_modulus_here", "_law_turn"] "_law_against" (defScope s_law_against) f cdv A outer s H E) (Wd E) := takes_of rfl rfl rfl rfl
  exact (sss_cons (ss_for (passes_of rfl) rfl (si_r1 (pi_range1 (by rfl) T.b_range) (se_bin op_sub os_sub (se_var (pv 2)) se_int)) (sg_nm (pg_name (i := 3) nd rfl (by first | exact Or.inl rfl | exact Or.inr rfl))) (sss_one (ss_expr (se_meth (ok_Live_add T) rfl (hr.mono (by decide)) tk (se_var (pv 0)) (sa_cons (se_var (pv 1)) sa_nil) (la_cons la_nil)))))
  (sss_one (ss_ret (se_prop (ok_Live_row T) rfl (hr.mono (by decide)) (se_var (pv 0))))))
theorem ok_law_places (T : Tp K mg C) : Dn P w K mg base C 1 "_law_places" ["_law_row"] run_law_places := by
  refine dn_ok (nl := 2) T.d_law_places sc_law_places rfl (.inl rfl) (fun f cdv A outer s H E hr => ?_)
  have nd := sc_law_places.nd
  have tk : Takes (cxOf (L2.CX P w) P w K mg base ["_law_row", "_law_place", "_law_value"] "_law_places" (defScope s_law_places) f cdv A outer s H E) (Wd E) := takes_of rfl rfl rfl rfl
  exact (sss_one (ss_ret (se_comp (own := [("_law_place", 1), ("_law_value", 2)]) rfl nd (si_seq (se_ix (se_var (pv 0)) se_int)) (blkOk_by (by rfl)) (by decide) (fun _ _ _ _ _ => (sg_tup (n := 2) rfl (fun h => pg_tup rfl h) (sgs_cons (sg_nm (pg_name (i := 1) nd rfl (by first | exact Or.inl rfl | exact Or.inr rfl))) (sgs_cons (sg_nm (pg_name (i := 2) nd rfl (by first | exact Or.inl rfl | exact Or.inr rfl))) sgs_nil)))) (fun _ _ _ _ _ => pts_nil) htt_yes (fun _ _ _ _ _ => (se_var (pv 1))))))
theorem ok_law_sums_right (T : Tp K mg C) : DnG P w K mg base C 8 "_law_sums_right" ["_law_pot_here", "_law_rows", "_law_rule", "_law_modulus_here"] run_law_sums_right := by
  refine dn_okG (nl := 7) T.d_law_sums_right sc_law_sums_right rfl (.inl rfl) (fun f cdv A outer s H E hr hgd => ?_)
  have nd := sc_law_sums_right.nd
  have tk : Takes (cxOf (L2.CX P w) P w K mg base ["_law_pot_here", "_law_rows", "_law_rule", "_law_modulus_here", "_law_one", "_law_other", "_law_live", "_law_beside", "_law_by", "_law_moved", "_law_later"] "_law_sums_right" (defScope s_law_sums_right) f cdv A outer s H E) (Wd E) := takes_of rfl rfl rfl rfl
  exact (sss_cons (ss_tg (sg_lst (n := 2) rfl (fun h => pg_unl rfl h) (sgs_cons (sg_nm (pg_name (i := 4) nd rfl (by first | exact Or.inl rfl | exact Or.inr rfl))) (sgs_cons (sg_nm (pg_name (i := 5) nd rfl (by first | exact Or.inl rfl | exact Or.inr rfl))) sgs_nil))) (se_var (pv 1)))
  (sss_cons (ss_set (ps_set (i := 6) nd rfl (by first | exact Or.inl rfl | exact Or.inr rfl) (se_make (ok_Live__init T) rfl (hr.mono (by decide)) (by rfl) (sa_cons (se_var (pv 4)) sa_nil) (la_cons la_nil))))
  (sss_cons (ss_expr (se_meth (ok_Live_add T) rfl (hr.mono (by decide)) tk (se_var (pv 6)) (sa_cons (se_var (pv 5)) sa_nil) (la_cons la_nil)))
  (sss_cons (ss_if (st_w (sw_or (st_not (st_val (se_callNG (ok_law_same T) (hr.mono (by decide)) hgd tk (by rfl) (sa_cons (se_prop (ok_Live_row T) rfl (hr.mono (by decide)) (se_var (pv 6))) (sa_cons (se_callN (ok_added T) (hr.mono (by decide)) tk (by rfl) (sa_cons (se_var (pv 4)) (sa_cons (se_var (pv 5)) sa_nil)) (la_cons (la_cons la_nil))) sa_nil)) (la_cons (la_cons la_nil))))) (sw_or1 (st_not (st_val (se_callNG (ok_law_same T) (hr.mono (by decide)) hgd tk (by rfl) (sa_cons (se_prop (ok_Live_row T) rfl (hr.mono (by decide)) (se_var (pv 6))) (sa_cons (se_callKN (ok_added T) (hr.mono (by decide)) tk (by rfl) T.k_added_1_0 perm_1_0_ok (sk_cons (se_var (pv 4)) (sk_cons (se_var (pv 5)) sk_nil)) (la_cons (la_cons la_nil))) sa_nil)) (la_cons (la_cons la_nil)))))))) (sss_one (ss_ret se_bl)) sss_nil)
  (sss_cons (ss_expr (se_meth (ok_Live_step T) rfl (hr.mono (by decide)) tk (se_var (pv 6)) (sa_cons (se_var (pv 2)) sa_nil) (la_cons la_nil)))
  (sss_cons (ss_set (ps_set (i := 7) nd rfl (by first | exact Or.inl rfl | exact Or.inr rfl) (se_make (ok_Live__init T) rfl (hr.mono (by decide)) (by rfl) (sa_cons (se_callN (ok_step_rules T) (hr.mono (by decide)) tk (by rfl) (sa_cons (se_var (pv 2)) (sa_cons (se_var (pv 4)) sa_nil)) (la_cons (la_cons la_nil))) sa_nil) (la_cons la_nil))))
  (sss_cons (ss_expr (se_meth (ok_Live_add T) rfl (hr.mono (by decide)) tk (se_var (pv 7)) (sa_cons (se_callKN (ok_step_rules T) (hr.mono (by decide)) tk (by rfl) T.k_step_rules_1_0 perm_1_0_ok (sk_cons (se_var (pv 5)) (sk_cons (se_var (pv 2)) sk_nil)) (la_cons (la_cons la_nil))) sa_nil) (la_cons la_nil)))
  (sss_cons (ss_if (st_not (st_val (se_callNG (ok_law_same T) (hr.mono (by decide)) hgd tk (by rfl) (sa_cons (se_lst (sa_cons (se_prop (ok_Live_row T) rfl (hr.mono (by decide)) (se_var (pv 6))) (sa_cons (se_ownEq (ok_Live__eq T) rfl (hr.mono (by decide)) (se_var (pv 6)) (se_var (pv 7)) (nomark _)) sa_nil)) (la_cons (la_cons la_nil))) (sa_cons (se_lst (sa_cons (se_prop (ok_Live_row T) rfl (hr.mono (by decide)) (se_var (pv 7))) (sa_cons se_bl sa_nil)) (la_cons (la_cons la_nil))) sa_nil)) (la_cons (la_cons la_nil))))) (sss_one (ss_ret se_bl)) sss_nil)
  (sss_cons (ss_set (ps_set (i := 8) nd rfl (by first | exact Or.inl rfl | exact Or.inr rfl) (se_ix (se_lst (sa_cons (se_callN (ok_law_great T) (hr.mono (by decide)) tk (by rfl) (sa_cons (se_var (pv 0)) sa_nil) (la_cons la_nil)) (sa_cons (se_bin op_sub os_sub (se_callN (ok_law_draw T) (hr.mono (by decide)) tk (by rfl) (sa_cons (se_var (pv 0)) (sa_cons se_int sa_nil)) (la_cons (la_cons la_nil))) se_int) sa_nil)) (la_cons (la_cons la_nil))) (se_callN (ok_law_draw T) (hr.mono (by decide)) tk (by rfl) (sa_cons (se_var (pv 0)) (sa_cons se_int sa_nil)) (la_cons (la_cons la_nil))))))
  (sss_cons (ss_par2 (ps_par (i := 9) (j := 10) rfl nd rfl rfl (by decide) rfl rfl (pa_cons (se_make (ok_Live__init T) rfl (hr.mono (by decide)) (by rfl) (sa_cons (se_var (pv 4)) sa_nil) (la_cons la_nil)) (pa_cons (se_make (ok_Live__init T) rfl (hr.mono (by decide)) (by rfl) (sa_cons (se_var (pv 4)) sa_nil) (la_cons la_nil)) pa_nil)) (by rfl)))
  (sss_cons (ss_expr (se_meth (ok_Live_move T) rfl (hr.mono (by decide)) tk (se_var (pv 9)) (sa_cons (se_var (pv 8)) sa_nil) (la_cons la_nil)))
  (sss_cons (ss_expr (se_meth (ok_Live_step T) rfl (hr.mono (by decide)) tk (se_var (pv 9)) (sa_cons (se_var (pv 2)) sa_nil) (la_cons la_nil)))
  (sss_cons (ss_expr (se_meth (ok_Live_step T) rfl (hr.mono (by decide)) tk (se_var (pv 10)) (sa_cons (se_var (pv 2)) sa_nil) (la_cons la_nil)))
  (sss_cons (ss_expr (se_meth (ok_Live_move T) rfl (hr.mono (by decide)) tk (se_var (pv 10)) (sa_cons (se_var (pv 8)) sa_nil) (la_cons la_nil)))
  (sss_one (ss_ret (se_and (se_callNG (ok_law_same T) (hr.mono (by decide)) hgd tk (by rfl) (sa_cons (se_prop (ok_Live_row T) rfl (hr.mono (by decide)) (se_var (pv 9))) (sa_cons (se_prop (ok_Live_row T) rfl (hr.mono (by decide)) (se_var (pv 10))) sa_nil)) (la_cons (la_cons la_nil))) (se_one (se_callNG (ok_law_same T) (hr.mono (by decide)) hgd tk (by rfl) (sa_cons (se_b call_lenU bs_len (by rfl) T.b_len (by decide +kernel) (sa_cons (se_meth (ok_Live_unlike_places T) rfl (hr.mono (by decide)) tk (se_var (pv 9)) (sa_cons (se_var (pv 10)) sa_nil) (la_cons la_nil)) sa_nil)) (sa_cons se_int sa_nil)) (la_cons (la_cons la_nil)))))))))))))))))))))
theorem ok_law_unlike_right (T : Tp K mg C) : DnG P w K mg base C 9 "_law_unlike_right" ["_law_rows", "_law_modulus_here"] run_law_unlike_right := by
  refine dn_okG (nl := 6) T.d_law_unlike_right sc_law_unlike_right rfl (.inl rfl) (fun f cdv A outer s H E hr hgd => ?_)
  have nd := sc_law_unlike_right.nd
  have tk : Takes (cxOf (L2.CX P w) P w K mg base ["_law_rows", "_law_modulus_here", "_law_one", "_law_other", "_law_here", "_law_there", "_law_due", "_law_back"] "_law_unlike_right" (defScope s_law_unlike_right) f cdv A outer s H E) (Wd E) := takes_of rfl rfl rfl rfl
  exact (sss_cons (ss_tg (sg_lst (n := 2) rfl (fun h => pg_unl rfl h) (sgs_cons (sg_nm (pg_name (i := 2) nd rfl (by first | exact Or.inl rfl | exact Or.inr rfl))) (sgs_cons (sg_nm (pg_name (i := 3) nd rfl (by first | exact Or.inl rfl | exact Or.inr rfl))) sgs_nil))) (se_var (pv 0)))
  (sss_cons (ss_par2 (ps_par (i := 4) (j := 5) rfl nd rfl rfl (by decide) rfl rfl (pa_cons (se_make (ok_Live__init T) rfl (hr.mono (by decide)) (by rfl) (sa_cons (se_var (pv 2)) sa_nil) (la_cons la_nil)) (pa_cons (se_make (ok_Live__init T) rfl (hr.mono (by decide)) (by rfl) (sa_cons (se_var (pv 3)) sa_nil) (la_cons la_nil)) pa_nil)) (by rfl)))
  (sss_cons (ss_set (ps_set (i := 6) nd rfl (by first | exact Or.inl rfl | exact Or.inr rfl) (se_callN (ok_law_places T) (hr.mono (by decide)) tk (by rfl) (sa_cons (se_callN (ok_law_against T) (hr.mono (by decide)) tk (by rfl) (sa_cons (se_make (ok_Live__init T) rfl (hr.mono (by decide)) (by rfl) (sa_cons (se_var (pv 2)) sa_nil) (la_cons la_nil)) (sa_cons (se_var (pv 3)) (sa_cons (se_var (pv 1)) sa_nil))) (la_cons (la_cons (la_cons la_nil)))) sa_nil) (la_cons la_nil))))
  (sss_cons (ss_if (st_not (st_val (se_callNG (ok_law_same T) (hr.mono (by decide)) hgd tk (by rfl) (sa_cons (se_lst (sa_cons (se_meth (ok_Live_unlike_places T) rfl (hr.mono (by decide)) tk (se_var (pv 4)) (sa_cons (se_var (pv 5)) sa_nil) (la_cons la_nil)) (sa_cons (se_meth (ok_Live_unlike_places T) rfl (hr.mono (by decide)) tk (se_var (pv 5)) (sa_cons (se_var (pv 4)) sa_nil) (la_cons la_nil)) sa_nil)) (la_cons (la_cons la_nil))) (sa_cons (se_lst (sa_cons (se_var (pv 6)) (sa_cons (se_var (pv 6)) sa_nil)) (la_cons (la_cons la_nil))) sa_nil)) (la_cons (la_cons la_nil))))) (sss_one (ss_ret se_bl)) sss_nil)
  (sss_cons (ss_set (ps_set (i := 7) nd rfl (by first | exact Or.inl rfl | exact Or.inr rfl) (se_make (ok_Live__init T) rfl (hr.mono (by decide)) (by rfl) (sa_cons (se_var (pv 2)) sa_nil) (la_cons la_nil))))
  (sss_cons (ss_if (st_not (st_val (se_callNG (ok_law_same T) (hr.mono (by decide)) hgd tk (by rfl) (sa_cons (se_callN (ok_law_places T) (hr.mono (by decide)) tk (by rfl) (sa_cons (se_callN (ok_law_against T) (hr.mono (by decide)) tk (by rfl) (sa_cons (se_var (pv 7)) (sa_cons (se_var (pv 3)) (sa_cons (se_var (pv 1)) sa_nil))) (la_cons (la_cons (la_cons la_nil)))) sa_nil) (la_cons la_nil)) (sa_cons (se_var (pv 6)) sa_nil)) (la_cons (la_cons la_nil))))) (sss_one (ss_ret se_bl)) sss_nil)
  (sss_cons (ss_if (st_w (sw_or (st_not (st_val (se_callNG (ok_law_same T) (hr.mono (by decide)) hgd tk (by rfl) (sa_cons (se_meth (ok_Live_add T) rfl (hr.mono (by decide)) tk (se_var (pv 7)) (sa_cons (se_var (pv 3)) sa_nil) (la_cons la_nil)) (sa_cons (se_b call_lenU bs_len (by rfl) T.b_len (by decide +kernel) (sa_cons (se_ix (se_var (pv 3)) se_int) sa_nil)) sa_nil)) (la_cons (la_cons la_nil))))) (sw_or1 (st_not (st_val (se_callNG (ok_law_same T) (hr.mono (by decide)) hgd tk (by rfl) (sa_cons (se_prop (ok_Live_row T) rfl (hr.mono (by decide)) (se_var (pv 7))) (sa_cons (se_var (pv 2)) sa_nil)) (la_cons (la_cons la_nil)))))))) (sss_one (ss_ret se_bl)) sss_nil)
  (sss_one (ss_ret (se_callNG (ok_law_same T) (hr.mono (by decide)) hgd tk (by rfl) (sa_cons (se_lst (sa_cons (se_meth (ok_Live_add T) rfl (hr.mono (by decide)) tk (se_var (pv 4)) (sa_cons (se_var (pv 3)) sa_nil) (la_cons la_nil)) (sa_cons (se_meth0 (ok_Live_count T) rfl (hr.mono (by decide)) tk (se_var (pv 4))) sa_nil)) (la_cons (la_cons la_nil))) (sa_cons (se_lst (sa_cons (se_b call_lenU bs_len (by rfl) T.b_len (by decide +kernel) (sa_cons (se_ix (se_var (pv 3)) se_int) sa_nil)) (sa_cons (se_b call_lenU bs_len (by rfl) T.b_len (by decide +kernel) (sa_cons (se_ix (se_callN (ok_added T) (hr.mono (by decide)) tk (by rfl) (sa_cons (se_var (pv 2)) (sa_cons (se_var (pv 3)) sa_nil)) (la_cons (la_cons la_nil))) se_int) sa_nil)) sa_nil)) (la_cons (la_cons la_nil))) sa_nil)) (la_cons (la_cons la_nil))))))))))))
theorem ok_law_rules_right (T : Tp K mg C) : DnG P w K mg base C 8 "_law_rules_right" ["_law_rows", "_law_rules", "_law_modulus_here"] run_law_rules_right := by
  refine dn_okG (nl := 7) T.d_law_rules_right sc_law_rules_right rfl (.inl rfl) (fun f cdv A outer s H E hr hgd => ?_)
  have nd := sc_law_rules_right.nd
  have tk : Takes (cxOf (L2.CX P w) P w K mg base ["_law_rows", "_law_rules", "_law_modulus_here", "_law_one", "_law_other", "_law_row", "_law_summed", "_law_twice", "_law_place", "_law_value"] "_law_rules_right" (defScope s_law_rules_right) f cdv A outer s H E) (Wd E) := takes_of rfl rfl rfl rfl
  exact (sss_cons (ss_tg (sg_lst (n := 2) rfl (fun h => pg_unl rfl h) (sgs_cons (sg_nm (pg_name (i := 3) nd rfl (by first | exact Or.inl rfl | exact Or.inr rfl))) (sgs_cons (sg_nm (pg_name (i := 4) nd rfl (by first | exact Or.inl rfl | exact Or.inr rfl))) sgs_nil))) (se_var (pv 1)))
  (sss_cons (ss_for (passes_of rfl) rfl (si_seq (se_var (pv 0))) (sg_nm (pg_name (i := 5) nd rfl (by first | exact Or.inl rfl | exact Or.inr rfl))) (sss_cons (ss_par2 (ps_par (i := 6) (j := 7) rfl nd rfl rfl (by decide) rfl rfl (pa_cons (se_make (ok_Live__init T) rfl (hr.mono (by decide)) (by rfl) (sa_cons (se_callN (ok_step_rules T) (hr.mono (by decide)) tk (by rfl) (sa_cons (se_var (pv 3)) (sa_cons (se_var (pv 5)) sa_nil)) (la_cons (la_cons la_nil))) sa_nil) (la_cons la_nil)) (pa_cons (se_make (ok_Live__init T) rfl (hr.mono (by decide)) (by rfl) (sa_cons (se_var (pv 5)) sa_nil) (la_cons la_nil)) pa_nil)) (by rfl)))
  (sss_cons (ss_expr (se_meth (ok_Live_add T) rfl (hr.mono (by decide)) tk (se_var (pv 6)) (sa_cons (se_callN (ok_step_rules T) (hr.mono (by decide)) tk (by rfl) (sa_cons (se_var (pv 4)) (sa_cons (se_var (pv 5)) sa_nil)) (la_cons (la_cons la_nil))) sa_nil) (la_cons la_nil)))
  (sss_cons (ss_expr (se_meth (ok_Live_step T) rfl (hr.mono (by decide)) tk (se_var (pv 7)) (sa_cons (se_var (pv 3)) sa_nil) (la_cons la_nil)))
  (sss_cons (ss_expr (se_meth (ok_Live_step T) rfl (hr.mono (by decide)) tk (se_var (pv 7)) (sa_cons (se_var (pv 4)) sa_nil) (la_cons la_nil)))
  (sss_cons (ss_if (st_not (st_val (se_callNG (ok_law_same T) (hr.mono (by decide)) hgd tk (by rfl) (sa_cons (se_lst (sa_cons (se_callN (ok_step_rules T) (hr.mono (by decide)) tk (by rfl) (sa_cons (se_callN (ok_plus T) (hr.mono (by decide)) tk (by rfl) (sa_cons (se_var (pv 3)) (sa_cons (se_var (pv 4)) sa_nil)) (la_cons (la_cons la_nil))) (sa_cons (se_var (pv 5)) sa_nil)) (la_cons (la_cons la_nil))) (sa_cons (se_callN (ok_step_rules T) (hr.mono (by decide)) tk (by rfl) (sa_cons (se_callN (ok_behind T) (hr.mono (by decide)) tk (by rfl) (sa_cons (se_var (pv 3)) (sa_cons (se_var (pv 4)) sa_nil)) (la_cons (la_cons la_nil))) (sa_cons (se_var (pv 5)) sa_nil)) (la_cons (la_cons la_nil))) sa_nil)) (la_cons (la_cons la_nil))) (sa_cons (se_lst (sa_cons (se_prop (ok_Live_row T) rfl (hr.mono (by decide)) (se_var (pv 6))) (sa_cons (se_prop (ok_Live_row T) rfl (hr.mono (by decide)) (se_var (pv 7))) sa_nil)) (la_cons (la_cons la_nil))) sa_nil)) (la_cons (la_cons la_nil))))) (sss_one (ss_ret se_bl)) sss_nil)
  (sss_one (ss_if (st_not (st_val (se_callNG (ok_law_same T) (hr.mono (by decide)) hgd tk (by rfl) (sa_cons (se_meth0 (ok_Live_total T) rfl (hr.mono (by decide)) tk (se_var (pv 6))) (sa_cons (se_bin op_mod os_mod (se_bT call_int1 bs_int (by rfl) T.b_int (by decide +kernel) (sa_cons (se_b (cr_sum rfl) bs_sum (by rfl) T.b_sum (by decide +kernel) (sa_cons (se_comp (own := [("_law_place", 8), ("_law_value", 9)]) rfl nd (si_seq (se_ix (se_prop (ok_Live_row T) rfl (hr.mono (by decide)) (se_var (pv 6))) se_int)) (blkOk_by (by rfl)) (by decide) (fun _ _ _ _ _ => (sg_tup (n := 2) rfl (fun h => pg_tup rfl h) (sgs_cons (sg_nm (pg_name (i := 8) nd rfl (by first | exact Or.inl rfl | exact Or.inr rfl))) (sgs_cons (sg_nm (pg_name (i := 9) nd rfl (by first | exact Or.inl rfl | exact Or.inr rfl))) sgs_nil)))) (fun _ _ _ _ _ => pts_nil) htt_yes (fun _ _ _ _ _ => (se_var (pv 9)))) sa_nil)) sa_nil)) (se_var (pv 2))) sa_nil)) (la_cons (la_cons la_nil))))) (sss_one (ss_ret se_bl)) sss_nil))))))))
  (sss_one (ss_ret se_bl))))
theorem ok_law (T : Tp K mg C) : DnG P w K mg base C 10 "law" ["_law_script"] run_law := by
  refine dn_okG (nl := 8) T.d_law sc_law rfl (.inl rfl) (fun f cdv A outer s H E hr hgd => ?_)
  have nd := sc_law.nd
  have tk : Takes (cxOf (L2.CX P w) P w K mg base ["_law_script", "_law_k", "_law_pot_here", "_law_modulus_here", "_law_base_here", "_law_turn", "_law_rows", "_law_rules", "_law_again"] "law" (defScope s_law) f cdv A outer s H E) (Wd E) := takes_of rfl rfl rfl rfl
  exact (sss_cons (ss_for (passes_of rfl) rfl (si_r1 (pi_range1 (by rfl) T.b_range) (se_b (call_max2 rfl) bs_max (by rfl) T.b_max (by decide +kernel) (sa_cons se_int (sa_cons (se_b (call_min2 rfl) bs_min (by rfl) T.b_min (by decide +kernel) (sa_cons se_int (sa_cons (se_b call_lenU bs_len (by rfl) T.b_len (by decide +kernel) (sa_cons (se_var (pv 0)) sa_nil)) sa_nil))) sa_nil)))) (sg_nm (pg_name (i := 1) nd rfl (by first | exact Or.inl rfl | exact Or.inr rfl))) (sss_cons (ss_set (ps_set (i := 2) nd rfl (by first | exact Or.inl rfl | exact Or.inr rfl) (se_callN (ok_law_pot T) (hr.mono (by decide)) tk (by rfl) (sa_cons (se_var (pv 0)) (sa_cons (se_var (pv 1)) sa_nil)) (la_cons (la_cons la_nil)))))
  (sss_cons (ss_tg (sg_tup (n := 2) rfl (fun h => pg_tup rfl h) (sgs_cons (sg_nm (pg_name (i := 3) nd rfl (by first | exact Or.inl rfl | exact Or.inr rfl))) (sgs_cons (sg_nm (pg_name (i := 4) nd rfl (by first | exact Or.inl rfl | exact Or.inr rfl))) sgs_nil))) (se_tup (sa_cons (se_callN (ok_law_modulus T) (hr.mono (by decide)) tk (by rfl) (sa_cons (se_var (pv 2)) sa_nil) (la_cons la_nil)) (sa_cons (se_callN (ok_law_base T) (hr.mono (by decide)) tk (by rfl) (sa_cons (se_var (pv 2)) sa_nil) (la_cons la_nil)) sa_nil)) (la_cons (la_cons la_nil))))
  (sss_one (ss_for (passes_of rfl) rfl (si_r1 (pi_range1 (by rfl) T.b_range) se_int) (sg_nm (pg_name (i := 5) nd rfl (by first | exact Or.inl rfl | exact Or.inr rfl))) (sss_cons (ss_setComp (own := [("_law_again", 8)]) (i := 6) rfl nd rfl rfl (sw_true rfl rfl rfl (by decide +kernel)) (si_r1 (pi_range1 (by rfl) T.b_range) se_int) (blkOk_by (by rfl)) (by decide) (fun _ _ _ _ _ => (sg_nm (pg_name (i := 8) nd rfl (by first | exact Or.inl rfl | exact Or.inr rfl)))) (fun _ _ _ _ _ => pts_nil) htt_yes (fun _ _ _ _ _ => (se_callN (ok_law_short_row T) (hr.mono (by decide)) takes0 (by rfl) (sa_cons (se_var (pv 2)) (sa_cons (se_var (pv 3)) (sa_cons (se_var (pv 4)) (sa_cons se_int sa_nil)))) (la_cons (la_cons (la_cons (la_cons la_nil)))))))
  (sss_cons (ss_setComp (own := [("_law_again", 8)]) (i := 7) rfl nd rfl rfl (sw_true rfl rfl rfl (by decide +kernel)) (si_r1 (pi_range1 (by rfl) T.b_range) se_int) (blkOk_by (by rfl)) (by decide) (fun _ _ _ _ _ => (sg_nm (pg_name (i := 8) nd rfl (by first | exact Or.inl rfl | exact Or.inr rfl)))) (fun _ _ _ _ _ => pts_nil) htt_yes (fun _ _ _ _ _ => (se_tup (sa_cons (se_var (pv 3)) (sa_cons (se_callN (ok_law_terms T) (hr.mono (by decide)) takes0 (by rfl) (sa_cons (se_var (pv 2)) (sa_cons (se_var (pv 3)) (sa_cons se_int sa_nil))) (la_cons (la_cons (la_cons la_nil)))) sa_nil)) (la_cons (la_cons la_nil)))))
  (sss_cons (ss_if (st_w (sw_or (st_not (st_val (se_callNG (ok_law_sums_right T) (hr.mono (by decide)) hgd tk (by rfl) (sa_cons (se_var (pv 2)) (sa_cons (se_var (pv 6)) (sa_cons (se_ix (se_var (pv 7)) se_int) (sa_cons (se_var (pv 3)) sa_nil)))) (la_cons (la_cons (la_cons (la_cons la_nil))))))) (sw_or1 (st_not (st_val (se_callNG (ok_law_unlike_right T) (hr.mono (by decide)) hgd tk (by rfl) (sa_cons (se_var (pv 6)) (sa_cons (se_var (pv 3)) sa_nil)) (la_cons (la_cons la_nil)))))))) (sss_one (ss_ret se_bl)) sss_nil)
  (sss_one (ss_if (st_not (st_val (se_callNG (ok_law_rules_right T) (hr.mono (by decide)) hgd tk (by rfl) (sa_cons (se_var (pv 6)) (sa_cons (se_var (pv 7)) (sa_cons (se_var (pv 3)) sa_nil))) (la_cons (la_cons (la_cons la_nil)))))) (sss_one (ss_ret se_bl)) sss_nil))))))))))
  (sss_one (ss_ret se_bl)))
theorem go_93 {h : Heap} {fa : Addr} {ca0 : Addr} (_ : K.In h) (_ : h.Ns mainGlobals mg) (hmg : mg "law" = some (.ref fa)) (_ : PySem.W.nsIn K mainGlobals "Live" = some (some (.ref ca0))) (T : Tp K mg (mkC [ca0] [["_first", "_row", "_deeds", "_begun"]] [])) :
    ∃ (C : CC) (fd : FuncData), (∀ (s : Shared) (u : Value), BindsTo s fd ⟨[u], []⟩ [("_law_script", u)]) ∧ ∀ base : Heap, K.In base → base.Ns mainGlobals mg → FnG P w K mg base C 10 fa fd ["_law_script"] run_law :=
  fin_F hmg T.d_law fun _ => ok_law T
end
end Nv
/-! EvS: the meanings opened, for simp. -/
namespace Nv
@[simp] theorem x_evVar (i : Nat) (ρ : Env) (M : Mem) : evVar i ρ M = (match ρ[i]? with
  | some (some d) => .ok d M
  | _ => .bad) := rfl
@[simp] theorem x_evC (d : D) (ρ : Env) (M : Mem) : evC d ρ M = (.ok d M) := rfl
@[simp] theorem x_evOp1 (f : Mem → D → Option D) (a : FE) (ρ : Env) (M : Mem) : evOp1 f a ρ M = ((a ρ M).bind fun x M1 => lift (f M1 x) M1) := rfl
@[simp] theorem x_evOp2 (f : Mem → D → D → Option D) (a b : FE) (ρ : Env) (M : Mem) : evOp2 f a b ρ M = ((a ρ M).bind fun x M1 => (b ρ M1).bind fun y M2 => lift (f M2 x y) M2) := rfl
@[simp] theorem x_evNil (ρ : Env) (M : Mem) : evNil  ρ M = (.ok [] M) := rfl
@[simp] theorem x_evCons (a : FE) (r : FA) (ρ : Env) (M : Mem) : evCons a r ρ M = ((a ρ M).bind fun x M1 => (r ρ M1).bind fun xs M2 => .ok (x :: xs) M2) := rfl
@[simp] theorem x_evB (f : Mem → List D → Option D) (a : FA) (ρ : Env) (M : Mem) : evB f a ρ M = ((a ρ M).bind fun xs M1 => lift (f M1 xs) M1) := rfl
@[simp] theorem x_evTup (a : FA) (ρ : Env) (M : Mem) : evTup a ρ M = ((a ρ M).bind fun xs M1 => .ok (.tup xs) M1) := rfl
@[simp] theorem x_evLst (a : FA) (ρ : Env) (M : Mem) : evLst a ρ M = ((a ρ M).bind fun xs M1 => .ok (.lst xs) M1) := rfl
@[simp] theorem x_evNew (a : FA) (ρ : Env) (M : Mem) : evNew a ρ M = ((a ρ M).bind fun xs M1 => .ok (.ref M1.length) (M1 ++ [.lst xs])) := rfl
@[simp] theorem x_evDct0 (ρ : Env) (M : Mem) : evDct0  ρ M = (.ok (.ref M.length) (M ++ [.dct []])) := rfl
@[simp] theorem x_evIf (c a b : FE) (ρ : Env) (M : Mem) : evIf c a b ρ M = ((c ρ M).bind fun x M1 => match asBool x with
  | some k => if k = true then a ρ M1 else b ρ M1
  | none => .bad) := rfl
@[simp] theorem x_evAnd (a b : FE) (ρ : Env) (M : Mem) : evAnd a b ρ M = ((a ρ M).bind fun x M1 => match asBool x with
  | some k => if k = true then b ρ M1 else .ok (.bl false) M1
  | none => .bad) := rfl
@[simp] theorem x_evOr (a b : FE) (ρ : Env) (M : Mem) : evOr a b ρ M = ((a ρ M).bind fun x M1 => match asBool x with
  | some k => if k = true then .ok (.bl true) M1 else b ρ M1
  | none => .bad) := rfl
@[simp] theorem x_evNot (a : FE) (ρ : Env) (M : Mem) : evNot a ρ M = ((a ρ M).bind fun x M1 => match asBool x with
  | some k => .ok (.bl (!k)) M1
  | none => .bad) := rfl
@[simp] theorem x_evChain (f g : Mem → D → D → Option D) (a b c : FE) (ρ : Env) (M : Mem) : evChain f g a b c ρ M = ((a ρ M).bind fun x M1 => (b ρ M1).bind fun y M2 => match f M2 x y with
  | some (.bl k) => if k = true then (c ρ M2).bind fun z M3 => lift (g M3 y z) M3 else .ok (.bl false) M2
  | _ => .bad) := rfl
@[simp] theorem x_evCall (g : Fn) (a : FA) (ρ : Env) (M : Mem) : evCall g a ρ M = ((a ρ M).bind fun xs M1 => g xs M1) := rfl
@[simp] theorem x_evCallP (g : Fn) (perm : List D → List D) (a : FA) (ρ : Env) (M : Mem) : evCallP g perm a ρ M = ((a ρ M).bind fun xs M1 => g (perm xs) M1) := rfl
@[simp] theorem x_evTrue (ρ : Env) (M : Mem) : evTrue  ρ M = (.ok (.bl true) M) := rfl
@[simp] theorem x_evFld (c i : Nat) (a : FE) (ρ : Env) (M : Mem) : evFld c i a ρ M = ((a ρ M).bind fun x M1 => match insAt M1 c x with
  | some ds => lift (ds[i]?) M1
  | none => .bad) := rfl
@[simp] theorem x_evMeth (c : Nat) (g : Fn) (o : FE) (a : FA) (ρ : Env) (M : Mem) : evMeth c g o a ρ M = ((o ρ M).bind fun x M1 => match insAt M1 c x with
  | some _ => (a ρ M1).bind fun xs M2 => g (x :: xs) M2
  | none => .bad) := rfl
@[simp] theorem x_evProp (c : Nat) (g : Fn) (o : FE) (ρ : Env) (M : Mem) : evProp c g o ρ M = ((o ρ M).bind fun x M1 => match insAt M1 c x with
  | some _ => match g [x] M1 with
    | .ok d M2 => .ok d M2
    | _ => .bad
  | none => .bad) := rfl
@[simp] theorem x_evMakeQ (c : Nat) (g : Fn) (a : FA) (ρ : Env) (M : Mem) : evMakeQ c g a ρ M = ((a ρ M).bind fun xs M1 => match g (.ref M1.length :: xs) (M1 ++ [.ins c []]) with
  | .ok .non M2 => .ok (.ref M1.length) M2
  | _ => .bad) := rfl
@[simp] theorem x_evOwnEq (c : Nat) (g : Fn) (a b : FE) (ρ : Env) (M : Mem) : evOwnEq c g a b ρ M = ((a ρ M).bind fun x M1 => (b ρ M1).bind fun y M2 => match insAt M2 c x, insAt M2 c y with
  | some _, some _ => match g [x, y] M2 with
    | .ok d M3 => match asBool d with
      | some k => .ok (.bl k) M3
      | none => .bad
    | _ => .bad
  | _, _ => .bad) := rfl
@[simp] theorem x_evGet2 (d k x : FE) (ρ : Env) (M : Mem) : evGet2 d k x ρ M = ((d ρ M).bind fun a M1 => if (dctAt M1 a).isSome = true then (k ρ M1).bind fun b M2 => (x ρ M2).bind fun c M3 => match keyOf b, dctAt M3 a with
  | some q, some kvs => .ok ((kget kvs q).getD c) M3
  | _, _ => .bad
  else .bad) := rfl
@[simp] theorem x_evDict (a : FE) (ρ : Env) (M : Mem) : evDict a ρ M = ((a ρ M).bind fun x M1 => match x with
  | .tup ds => match pairsOf ds with
    | some ps => .ok (.ref M1.length) (M1 ++ [.dct (kmerge [] ps)])
    | none => .bad
  | .lst ds => match pairsOf ds with
    | some ps => .ok (.ref M1.length) (M1 ++ [.dct (kmerge [] ps)])
    | none => .bad
  | _ => .bad) := rfl
@[simp] theorem x_evApp (o e : FE) (ρ : Env) (M : Mem) : evApp o e ρ M = ((o ρ M).bind fun x M1 => if (lstAt M1 x).isSome = true then (e ρ M1).bind fun v M2 => match appAt M2 x v with
  | some M3 => .ok .non M3
  | none => .bad
  else .bad) := rfl
@[simp] theorem x_evLock (i : Nat) (e : FE) (ρ : Env) (M : Mem) : evLock i e ρ M = (match ρ[i]? with
  | some (some (.ref l)) => match lockAt M l with
    | some kvs => (e ρ (M.set l (.fdct kvs))).bind fun d M1 => match M1[l]? with
      | some (.fdct kvs') => .ok d (M1.set l (.dct kvs'))
      | _ => .bad
    | none => .bad
  | _ => .bad) := rfl
@[simp] theorem x_sSkip (ρ : Env) (M : Mem) : sSkip  ρ M = (.ok (.nx ρ) M) := rfl
@[simp] theorem x_sSeq (a b : FS) (ρ : Env) (M : Mem) : sSeq a b ρ M = ((a ρ M).bind fun o M1 => match o with
  | .nx ρ1 => b ρ1 M1
  | o => .ok o M1) := rfl
@[simp] theorem x_sSet (i : Nat) (e : FE) (ρ : Env) (M : Mem) : sSet i e ρ M = ((e ρ M).st ρ fun d M1 => .ok (.nx (ρ.set i (some d))) M1) := rfl
@[simp] theorem x_sTg (tg : Tg) (e : FE) (ρ : Env) (M : Mem) : sTg tg e ρ M = ((e ρ M).st ρ fun d M1 => match tg.put d ρ with
  | some ρ1 => .ok (.nx ρ1) M1
  | none => .bad) := rfl
@[simp] theorem x_sExpr (e : FE) (ρ : Env) (M : Mem) : sExpr e ρ M = ((e ρ M).st ρ fun _ M1 => .ok (.nx ρ) M1) := rfl
@[simp] theorem x_sRet (e : FE) (ρ : Env) (M : Mem) : sRet e ρ M = ((e ρ M).st ρ fun d M1 => .ok (.rt d) M1) := rfl
@[simp] theorem x_sRetN (ρ : Env) (M : Mem) : sRetN  ρ M = (.ok (.rt .non) M) := rfl
@[simp] theorem x_sIf (c : FE) (a b : FS) (ρ : Env) (M : Mem) : sIf c a b ρ M = ((c ρ M).st ρ fun x M1 => match asBool x with
  | some k => if k = true then a ρ M1 else b ρ M1
  | none => .bad) := rfl
@[simp] theorem x_sSetIx (f : Mem → D → D → D → Option Mem) (o k e : FE) (ρ : Env) (M : Mem) : sSetIx f o k e ρ M = ((e ρ M).st ρ fun v M1 => (o ρ M1).st ρ fun x M2 => (k ρ M2).st ρ fun y M3 => match f M3 x y v with
  | some M4 => .ok (.nx ρ) M4
  | none => .bad) := rfl
@[simp] theorem x_sPutF (c i : Nat) (o e : FE) (ρ : Env) (M : Mem) : sPutF c i o e ρ M = ((e ρ M).st ρ fun v M1 => (o ρ M1).st ρ fun x M2 => match setFld M2 c i x v with
  | some M3 => .ok (.nx ρ) M3
  | none => .bad) := rfl
@[simp] theorem x_sLock (i : Nat) (s : FS) (ρ : Env) (M : Mem) : sLock i s ρ M = (match ρ[i]? with
  | some (some (.ref l)) => match lockAt M l with
    | some kvs => (s ρ (M.set l (.fdct kvs))).bind fun o M1 => match o with
      | .nx ρ1 => match M1[l]? with
        | some (.fdct kvs') => .ok (.nx ρ1) (M1.set l (.dct kvs'))
        | _ => .bad
      | _ => .bad
    | none => .bad
  | _ => .bad) := rfl
@[simp] theorem x_sFor (it : FI) (tg : Tg) (body : FS) (ks : List Nat) (ρ : Env) (M : Mem) : sFor it tg body ks ρ M = ((it ρ M).st ρ fun xs M1 => forL tg body ks xs ρ M1) := rfl
@[simp] theorem x_sNever (ρ : Env) (M : Mem) : sNever  ρ M = (.bad) := rfl
@[simp] theorem x_itSeq (a : FE) (ρ : Env) (M : Mem) : itSeq a ρ M = ((a ρ M).bind fun x M1 => lift (itemsOf x) M1) := rfl
@[simp] theorem x_itKeys (a : FE) (ρ : Env) (M : Mem) : itKeys a ρ M = ((a ρ M).bind fun x M1 => match x with
  | .ref l => match M1[l]? with
    | some (.fdct kvs) => .ok (kvs.map fun kv => kD kv.1) M1
    | _ => .bad
  | _ => .bad) := rfl
@[simp] theorem x_itR1 (a : FE) (ρ : Env) (M : Mem) : itR1 a ρ M = ((a ρ M).bind fun x M1 => match x with
  | .int j => if smallI j = true then .ok (rangeI 0 j) M1 else .bad
  | _ => .bad) := rfl
@[simp] theorem x_evComp (it : FI) (tg : Tg) (c e : FE) (vs : List Nat) (ρ : Env) (M : Mem) : evComp it tg c e vs ρ M = ((it ρ M).bind fun xs M1 => fitL (compL tg c e vs xs ρ M1)) := rfl
@[simp] theorem x_evComp2 (it : FI) (tg : Tg) (c : FE) (it2 : FI) (tg2 : Tg) (c2 e : FE) (vs vs2 : List Nat) (ρ : Env) (M : Mem) : evComp2 it tg c it2 tg2 c2 e vs vs2 ρ M = ((it ρ M).bind fun xs M1 => fitL (compL2 tg c it2 tg2 c2 e vs vs2 xs ρ M1)) := rfl
@[simp] theorem x_lift {α : Type} (a : α) (m : Mem) : lift (some a) m = .ok a m := rfl
@[simp] theorem x_asBool (b : Bool) : asBool (.bl b) = some b := rfl
@[simp] theorem x_putn (i : Nat) (d : D) (ρ : Env) : Tg.put (.nm i) d ρ = some (ρ.set i (some d)) := by simp [Tg.put]
@[simp] theorem x_putt (ts : List Tg) (ds : List D) (ρ : Env) : Tg.put (.tup ts) (.tup ds) ρ = Tg.puts ts ds ρ := by simp [Tg.put]
@[simp] theorem x_putl (ts : List Tg) (ds : List D) (ρ : Env) : Tg.put (.lst ts) (.lst ds) ρ = Tg.puts ts ds ρ := by simp [Tg.put]
@[simp] theorem x_puts0 (ρ : Env) : Tg.puts [] [] ρ = some ρ := by simp [Tg.puts]
@[simp] theorem x_puts (t : Tg) (ts : List Tg) (d : D) (ds : List D) (ρ : Env) : Tg.puts (t :: ts) (d :: ds) ρ = (t.put d ρ).bind fun ρ' => Tg.puts ts ds ρ' := by simp [Tg.puts]
@[simp] theorem x_kill0 (ρ : Env) : kill [] ρ = ρ := rfl
@[simp] theorem x_kill (k : Nat) (ks : List Nat) (ρ : Env) : kill (k :: ks) ρ = kill ks (ρ.set k none) := rfl
@[simp] theorem x_items_t (ds : List D) : itemsOf (.tup ds) = some ds := rfl
@[simp] theorem x_items_w (ds : List D) : itemsOf (.wtup ds) = some ds := rfl
@[simp] theorem x_items_l (ds : List D) : itemsOf (.lst ds) = some ds := rfl
@[simp] theorem x_items_s (ds : List D) : itemsOf (.scr ds) = some ds := rfl
@[simp] theorem x_forL0 (tg : Tg) (b : FS) (ks : List Nat) (ρ : Env) (M : Mem) : forL tg b ks [] ρ M = .ok (.nx (kill ks ρ)) M := rfl
@[simp] theorem x_compL0 (tg : Tg) (c e : FE) (vs : List Nat) (ρ : Env) (M : Mem) : compL tg c e vs [] ρ M = .ok [] M := rfl
@[simp] theorem x_addi (M : Mem) (i j : Int) : dAdd M (.int i) (.int j) = some (.int (i + j)) := rfl
@[simp] theorem x_addt (M : Mem) (a b : List D) : dAdd M (.tup a) (.tup b) = if a.length + b.length ≤ 16777216 then some (.tup (a ++ b)) else none := rfl
@[simp] theorem x_addl (M : Mem) (a b : List D) : dAdd M (.lst a) (.lst b) = if a.length + b.length ≤ 16777216 then some (.lst (a ++ b)) else none := rfl
@[simp] theorem x_sub (M : Mem) (i j : Int) : dSub M (.int i) (.int j) = some (.int (i - j)) := rfl
@[simp] theorem x_mul (M : Mem) (i j : Int) : dMul M (.int i) (.int j) = if mulOk i j then some (.int (i * j)) else none := rfl
@[simp] theorem x_mod (M : Mem) (i j : Int) : dMod M (.int i) (.int j) = if 0 < j then some (.int (i % j)) else none := rfl
@[simp] theorem x_fdiv (M : Mem) (i j : Int) : dFdiv M (.int i) (.int j) = if 0 < j ∧ j < 2 ^ 4000 then some (.int (i / j)) else none := rfl
@[simp] theorem x_pow (M : Mem) (i j : Int) : dPow M (.int i) (.int j) = if 0 ≤ j ∧ j ≤ 100 ∧ i.natAbs < 2 ^ 4000 then some (.int (i ^ j.toNat)) else none := rfl
@[simp] theorem x_neg (M : Mem) (i : Int) : dNeg M (.int i) = some (.int (-i)) := rfl
@[simp] theorem x_lt (M : Mem) (i j : Int) : dLt M (.int i) (.int j) = some (.bl (decide (i < j))) := rfl
@[simp] theorem x_le (M : Mem) (i j : Int) : dLe M (.int i) (.int j) = some (.bl (decide (i ≤ j))) := rfl
@[simp] theorem x_gt (M : Mem) (i j : Int) : dGt M (.int i) (.int j) = some (.bl (decide (j < i))) := rfl
@[simp] theorem x_ge (M : Mem) (i j : Int) : dGe M (.int i) (.int j) = some (.bl (decide (j ≤ i))) := rfl
@[simp] theorem x_eqi (M : Mem) (i j : Int) : dEq M (.int i) (.int j) = some (.bl (decide (i = j))) := rfl
@[simp] theorem x_nei (M : Mem) (i j : Int) : dNe M (.int i) (.int j) = some (.bl (!decide (i = j))) := rfl
@[simp] theorem x_eqs (M : Mem) (i j : PySem.Str) : dEq M (.str i) (.str j) = some (.bl (decide (i = j))) := rfl
@[simp] theorem x_ixt (M : Mem) (ds : List D) (i : Int) : dIx M (.tup ds) (.int i) = atD ds i := rfl
@[simp] theorem x_ixl (M : Mem) (ds : List D) (i : Int) : dIx M (.lst ds) (.int i) = atD ds i := rfl
@[simp] theorem x_ixs (M : Mem) (ds : List D) (i : Int) : dIx M (.scr ds) (.int i) = atD ds i := rfl
@[simp] theorem x_ixr (M : Mem) (l : Nat) (i : Int) : dIx M (.ref l) (.int i) = match M[l]? with
    | some (.lst ds) => atD ds i
    | _ => none := rfl
@[simp] theorem x_at0 (ds : List D) : atD ds 0 = ds[0]? := rfl
@[simp] theorem x_at1 (ds : List D) : atD ds 1 = ds[1]? := rfl
@[simp] theorem x_at2 (ds : List D) : atD ds 2 = ds[2]? := rfl
theorem x_atn (ds : List D) {i : Int} (h : 0 ≤ i) : atD ds i = ds[i.toNat]? := by unfold atD; rw [if_pos h]
@[simp] theorem x_lent (M : Mem) (ds : List D) : bLen M [.tup ds] = some (.int ds.length) := rfl
@[simp] theorem x_lenl (M : Mem) (ds : List D) : bLen M [.lst ds] = some (.int ds.length) := rfl
@[simp] theorem x_lens (M : Mem) (ds : List D) : bLen M [.scr ds] = some (.int ds.length) := rfl
@[simp] theorem x_lenr (M : Mem) (l : Nat) : bLen M [.ref l] = match M[l]? with
    | some (.lst ds) => some (.int ds.length)
    | some (.dct kvs) => some (.int kvs.length)
    | _ => none := rfl
@[simp] theorem x_all (M : Mem) (ds : List D) : bAll M [.lst ds] = (boolsOf ds).map fun bs => .bl (bs.all id) := rfl
@[simp] theorem x_any (M : Mem) (ds : List D) : bAny M [.lst ds] = (boolsOf ds).map fun bs => .bl (bs.any id) := rfl
@[simp] theorem x_sum (M : Mem) (ds : List D) : bSum M [.lst ds] = (intsOf ds).map fun ns => .int ns.sum := rfl
@[simp] theorem x_max (M : Mem) (i j : Int) : bMax M [.int i, .int j] = some (.int (if i < j then j else i)) := rfl
@[simp] theorem x_min (M : Mem) (i j : Int) : bMin M [.int i, .int j] = some (.int (if j < i then j else i)) := rfl
@[simp] theorem x_abs (M : Mem) (i : Int) : bAbs M [.int i] = some (.int (if i < 0 then -i else i)) := rfl
@[simp] theorem x_int (M : Mem) (i : Int) : bInt M [.int i] = some (.int i) := rfl
@[simp] theorem x_tuple (M : Mem) (ds : List D) : bTuple M [.lst ds] = some (.tup ds) := rfl
@[simp] theorem x_isi_i (T : String) (M : Mem) (i : Int) : bIsI T M (.int i) = some (decide (T = "int")) := rfl
@[simp] theorem x_isi_t (T : String) (M : Mem) (ds : List D) : bIsI T M (.tup ds) = some (decide (T = "tuple")) := rfl
@[simp] theorem x_insAt (M : Mem) (c l : Nat) : insAt M c (.ref l) = match M[l]? with
    | some (.ins c' ds) => if c' = c then some ds else none
    | _ => none := rfl
@[simp] theorem x_setAt (M : Mem) (l : Nat) (k v : D) : setAt M (.ref l) k v = match M[l]?, k with
    | some (.lst ds), .int i => if 0 ≤ i ∧ i.toNat < ds.length then some (M.set l (.lst (ds.set i.toNat v))) else none
    | _, _ => none := rfl
@[simp] theorem x_setKey (M : Mem) (l : Nat) (k v : D) : setKey M (.ref l) k v = match M[l]?, keyOf k with
    | some (.dct kvs), some q => if kvs.length < 16777216 then some (M.set l (.dct (kput kvs q v))) else none
    | _, _ => none := rfl
@[simp] theorem x_keyi (i : Int) : keyOf (.int i) = some (.inl i) := rfl
@[simp] theorem x_setFld (M : Mem) (c i l : Nat) (v : D) : setFld M c i (.ref l) v = match M[l]? with
    | some (.ins c' ds) => if c' = c then (if i < ds.length then some (M.set l (.ins c (ds.set i v))) else if i = ds.length then some (M.set l (.ins c (ds ++ [v]))) else none) else none
    | _ => none := rfl
@[simp] theorem x_appAt (M : Mem) (l : Nat) (v : D) : appAt M (.ref l) v = match M[l]? with
    | some (.lst ds) => if ds.length < 16777216 then some (M.set l (.lst (ds ++ [v]))) else none
    | _ => none := rfl
@[simp] theorem x_lstAt (M : Mem) (l : Nat) : lstAt M (.ref l) = match M[l]? with
    | some (.lst ds) => some ds
    | _ => none := rfl
@[simp] theorem x_dctAt (M : Mem) (l : Nat) : dctAt M (.ref l) = match M[l]? with
    | some (.dct kvs) => some kvs
    | some (.fdct kvs) => some kvs
    | _ => none := rfl
@[simp] theorem x_dGet (M : Mem) (l : Nat) (i : Int) : dGetD M (.ref l) (.int i) = match dctAt M (.ref l) with
    | some kvs => kget kvs (.inl i)
    | none => none := by
  unfold dGetD
  cases dctAt M (.ref l) <;> rfl
@[simp] theorem x_bools0 : boolsOf [] = some [] := rfl
@[simp] theorem x_bools (b : Bool) (r : List D) : boolsOf (.bl b :: r) = (boolsOf r).map fun bs => b :: bs := rfl
/-- memory: what was there, what is new -/
@[simp] theorem x_get_app (M X : Mem) (i : Nat) : (M ++ X)[M.length + i]? = X[i]? := by
  rw [List.getElem?_append_right (by omega)]
  congr 1
  omega
@[simp] theorem x_get_app0 (M X : Mem) : (M ++ X)[M.length]? = X[0]? := by
  rw [List.getElem?_append_right (by omega)]
  congr 1
  omega
@[simp] theorem x_set_app (M X : Mem) (i : Nat) (v : MO) : (M ++ X).set (M.length + i) v = M ++ X.set i v := by
  rw [List.set_append_right _ _ (by omega)]
  congr 2
  omega
@[simp] theorem x_set_app0 (M X : Mem) (v : MO) : (M ++ X).set M.length v = M ++ X.set 0 v := by
  rw [List.set_append_right _ _ (by omega)]
  congr 2
  omega
@[simp] theorem x_isI (T : String) (a : FE) (ρ : Env) (M : Mem) : evIsI T a ρ M = (a ρ M).bind fun x M1 => lift ((bIsI T M1 x).map .bl) M1 := rfl
@[simp] theorem x_inK (ks : List Int) (a : FE) (ρ : Env) (M : Mem) : evInK ks a ρ M = (a ρ M).bind fun x M1 => lift (match x with
  | .int i => some (.bl (decide (i ∈ ks)))
  | _ => none) M1 := rfl
@[simp] theorem x_isC (c : Nat) (a : FE) (ρ : Env) (M : Mem) : evIsC c a ρ M = (a ρ M).bind fun x M1 => lift (match x with
  | .ref l => match M1[l]? with
    | some (.ins c' _) => if c' = c then some (.bl true) else none
    | _ => none
  | _ => none) M1 := rfl
@[simp] theorem x_atc (ds : List D) (n : Nat) : atD ds (n : Int) = ds[n]? := by unfold atD; rw [if_pos (Int.natCast_nonneg n)]; rfl
@[simp] theorem x_atc1 (ds : List D) (n : Nat) : atD ds ((n : Int) + 1) = ds[n + 1]? := by
  have := x_atc ds (n + 1)
  rwa [show (((n + 1 : Nat)) : Int) = (n : Int) + 1 from rfl] at this
end Nv
/-! RwA: rows as lists of pairs, whole sums, collected rows. No program in sight. -/
namespace Nv
abbrev Ps := List (Int × Int)
/-- the sum of v * g k over the pairs (k, v) -/
def wsum (g : Int → Int) : Ps → Int
  | [] => 0
  | p :: r => p.2 * g p.1 + wsum g r
def ind (k : Int) : Int → Int := fun j => if j = k then 1 else 0
def at_ (ps : Ps) (k : Int) : Int := wsum (ind k) ps
theorem wsum_append (g : Int → Int) (a b : Ps) : wsum g (a ++ b) = wsum g a + wsum g b := by
  induction a with
  | nil => simp [wsum]
  | cons p r ih => simp only [List.cons_append, wsum, ih]; omega
theorem at_append (a b : Ps) (k : Int) : at_ (a ++ b) k = at_ a k + at_ b k := wsum_append _ a b
theorem at_snoc (a : Ps) (j v k : Int) : at_ (a ++ [(j, v)]) k = at_ a k + (if j = k then v else 0) := by
  rw [at_append]
  simp only [at_, wsum, ind]
  split <;> simp
theorem at_no {ps : Ps} {k : Int} (h : k ∉ ps.map (·.1)) : at_ ps k = 0 := by
  induction ps with
  | nil => rfl
  | cons p r ih =>
    simp only [List.map_cons, List.mem_cons, not_or] at h
    have e : at_ (p :: r) k = p.2 * (if p.1 = k then 1 else 0) + at_ r k := rfl
    rw [e, ih h.2, if_neg (fun q => h.1 q.symm)]
    simp
/-- keys, each once, in the order of their first places -/
def ukS (acc : List Int) (p : Int × Int) : List Int := if p.1 ∈ acc then acc else acc ++ [p.1]
def uk (ps : Ps) : List Int := ps.foldl ukS []
theorem uk_snoc (ps : Ps) (p : Int × Int) : uk (ps ++ [p]) = ukS (uk ps) p := by simp [uk]
theorem snoc_ind {α : Type} {Q : List α → Prop} (h0 : Q []) (h1 : ∀ l a, Q l → Q (l ++ [a])) (l : List α) : Q l := by
  have : ∀ l : List α, Q l.reverse := fun l => by
    induction l with
    | nil => exact h0
    | cons a r ih => rw [List.reverse_cons]; exact h1 _ _ ih
  have h := this l.reverse
  rwa [List.reverse_reverse] at h
theorem uk_mem (ps : Ps) : ∀ k, k ∈ uk ps ↔ k ∈ ps.map (·.1) := by
  refine snoc_ind (Q := fun ps => ∀ k, k ∈ uk ps ↔ k ∈ ps.map (·.1)) (by simp [uk]) (fun l a ih k => ?_) ps
  rw [uk_snoc]
  unfold ukS
  split
  · rename_i h
    simp only [List.map_append, List.mem_append, List.map_cons, List.map_nil, List.mem_singleton, ih]
    constructor
    · exact fun q => .inl q
    · rintro (q | q)
      · exact q
      · rw [q]; exact (ih a.1).mp h
  · simp only [List.map_append, List.mem_append, List.map_cons, List.map_nil, List.mem_singleton, ih]
theorem uk_nodup (ps : Ps) : (uk ps).Nodup := by
  refine snoc_ind (Q := fun ps => (uk ps).Nodup) (by simp [uk]) (fun l a ih => ?_) ps
  rw [uk_snoc]
  unfold ukS
  split
  · exact ih
  · rename_i h
    rw [List.nodup_append]
    refine ⟨ih, by simp, fun x hx y hy => ?_⟩
    rw [List.mem_singleton] at hy
    intro e
    rw [e, hy] at hx
    exact h hx
def ksum (f : Int → Int) : List Int → Int
  | [] => 0
  | k :: r => f k + ksum f r
theorem ksum_append (f : Int → Int) (a b : List Int) : ksum f (a ++ b) = ksum f a + ksum f b := by
  induction a with
  | nil => simp [ksum]
  | cons p r ih => simp only [List.cons_append, ksum, ih]; omega
theorem ksum_congr {f g : Int → Int} {ks : List Int} (h : ∀ k ∈ ks, f k = g k) : ksum f ks = ksum g ks := by
  induction ks with
  | nil => rfl
  | cons k r ih => simp only [ksum]; rw [h k (by simp), ih fun j hj => h j (by simp [hj])]
theorem ksum_add (f g : Int → Int) (ks : List Int) : ksum (fun k => f k + g k) ks = ksum f ks + ksum g ks := by
  induction ks with
  | nil => rfl
  | cons k r ih => simp only [ksum, ih]; omega
theorem ksum_no {f : Int → Int} {ks : List Int} (h : ∀ k ∈ ks, f k = 0) : ksum f ks = 0 := by
  induction ks with
  | nil => rfl
  | cons k r ih => simp only [ksum]; rw [h k (by simp), ih fun j hj => h j (by simp [hj])]; rfl
theorem ksum_one {f : Int → Int} {ks : List Int} {k : Int} (hn : ks.Nodup) (hk : k ∈ ks) (h : ∀ j ∈ ks, j ≠ k → f j = 0) : ksum f ks = f k := by
  induction ks with
  | nil => cases hk
  | cons j r ih =>
    rw [List.nodup_cons] at hn
    simp only [ksum]
    rcases List.mem_cons.mp hk with e | e
    · subst e
      rw [ksum_no fun i hi => h i (by simp [hi]) fun q => hn.1 (q ▸ hi)]
      omega
    · rw [ih hn.2 e fun i hi => h i (by simp [hi]), h j (by simp) fun q => hn.1 (q ▸ e)]
      omega
theorem ksum_perm {f : Int → Int} {a b : List Int} (h : a.Perm b) : ksum f a = ksum f b := by
  induction h with
  | nil => rfl
  | cons x _ ih => simp only [ksum, ih]
  | swap x y l => simp only [ksum]; omega
  | trans _ _ h1 h2 => exact h1.trans h2
theorem wsum_uk (g : Int → Int) (ps : Ps) : wsum g ps = ksum (fun k => at_ ps k * g k) (uk ps) := by
  refine snoc_ind (Q := fun ps => wsum g ps = ksum (fun k => at_ ps k * g k) (uk ps)) rfl (fun l a ih => ?_) ps
  obtain ⟨j, v⟩ := a
  rw [wsum_append, uk_snoc, ih]
  have e1 : wsum g [(j, v)] = v * g j := by simp [wsum]
  have e2 : ∀ ks : List Int, ksum (fun k => at_ (l ++ [(j, v)]) k * g k) ks = ksum (fun k => at_ l k * g k) ks + ksum (fun k => if j = k then v * g k else 0) ks := fun ks => by
    rw [← ksum_add]
    refine ksum_congr fun k _ => ?_
    rw [at_snoc, Int.add_mul]
    split
    · rfl
    · simp
  rw [e1, e2]
  unfold ukS
  dsimp only
  split
  · rename_i h
    rw [ksum_one (k := j) (uk_nodup l) h fun i _ hi => if_neg fun q => hi q.symm, if_pos rfl]
  · rename_i h
    rw [ksum_append, ksum_append, ksum_no (ks := uk l) (f := fun k => if j = k then v * g k else 0) fun i hi => if_neg fun (q : j = i) => h (q ▸ hi)]
    have z : at_ l j = 0 := at_no fun q => h ((uk_mem l j).mpr q)
    simp only [ksum, z, if_pos]
    omega
/-! ### congruence -/
def Cg (m a b : Int) : Prop := a % m = b % m
theorem Cg.rfl {m a : Int} : Cg m a a := Eq.refl _
theorem Cg.symm {m a b : Int} (h : Cg m a b) : Cg m b a := Eq.symm h
theorem Cg.trans {m a b c : Int} (h : Cg m a b) (g : Cg m b c) : Cg m a c := Eq.trans h g
theorem Cg.of_eq {m a b : Int} (h : a = b) : Cg m a b := h ▸ Cg.rfl
theorem Cg.add {m a b c d : Int} (h : Cg m a b) (g : Cg m c d) : Cg m (a + c) (b + d) := by
  unfold Cg at *; rw [Int.add_emod, h, g, ← Int.add_emod]
theorem Cg.mul {m a b c d : Int} (h : Cg m a b) (g : Cg m c d) : Cg m (a * c) (b * d) := by
  unfold Cg at *; rw [Int.mul_emod, h, g, ← Int.mul_emod]
theorem Cg.mod {m a : Int} : Cg m (a % m) a := Int.emod_emod_of_dvd a (Int.dvd_refl m)
theorem ksum_cg {m : Int} {f g : Int → Int} {ks : List Int} (h : ∀ k ∈ ks, Cg m (f k) (g k)) : Cg m (ksum f ks) (ksum g ks) := by
  induction ks with
  | nil => exact Cg.rfl
  | cons k r ih => exact (h k (by simp)).add (ih fun j hj => h j (by simp [hj]))
theorem wsum_cg {m : Int} {f g : Int → Int} {ps : Ps} (h : ∀ p ∈ ps, Cg m (f p.1) (g p.1)) : Cg m (wsum f ps) (wsum g ps) := by
  induction ps with
  | nil => exact Cg.rfl
  | cons k r ih => exact (Cg.rfl.mul (h k (by simp))).add (ih fun j hj => h j (by simp [hj]))
/-! ### sorted pairs -/
def Srt (ps : Ps) : Prop := ps.Pairwise fun a b => a.1 < b.1
theorem srt_ext : ∀ {a b : Ps}, Srt a → Srt b → (∀ p, p ∈ a ↔ p ∈ b) → a = b
  | [], [], _, _, _ => rfl
  | [], q :: _, _, _, h => absurd ((h q).mpr (by simp)) (by simp)
  | p :: _, [], _, _, h => absurd ((h p).mp (by simp)) (by simp)
  | p :: r, q :: s, ha, hb, h => by
    have ha' := List.pairwise_cons.mp ha
    have hb' := List.pairwise_cons.mp hb
    have e : p = q := by
      rcases List.mem_cons.mp ((h p).mp (by simp)) with e | e
      · exact e
      · rcases List.mem_cons.mp ((h q).mpr (by simp)) with e2 | e2
        · exact e2.symm
        · have := ha'.1 q e2
          have := hb'.1 p e
          omega
    subst e
    rw [srt_ext ha'.2 hb'.2 fun x => ?_]
    have hx := h x
    simp only [List.mem_cons] at hx
    constructor
    · intro q
      rcases hx.mp (.inr q) with e | e
      · subst e; have := ha'.1 _ q; omega
      · exact e
    · intro q
      rcases hx.mpr (.inr q) with e | e
      · subst e; have := hb'.1 _ q; omega
      · exact e
theorem srt_at {ps : Ps} (h : Srt ps) {p : Int × Int} (hp : p ∈ ps) : at_ ps p.1 = p.2 := by
  induction ps with
  | nil => cases hp
  | cons q r ih =>
    have h' := List.pairwise_cons.mp h
    have e : ∀ k, at_ (q :: r) k = q.2 * (if q.1 = k then 1 else 0) + at_ r k := fun _ => rfl
    rw [e]
    rcases List.mem_cons.mp hp with e | e
    · subst e
      rw [if_pos rfl, at_no fun z => ?_]
      · omega
      · obtain ⟨x, hx, ex⟩ := List.mem_map.mp z
        have := h'.1 x hx
        omega
    · have := h'.1 p e
      rw [if_neg (by omega), ih h'.2 e]
      omega
/-- a row's pairs: sorted, values between 1 and m - 1, places from lo on, w of them -/
structure Row (m lo w : Int) (ps : Ps) : Prop where
  s : Srt ps
  v : ∀ p ∈ ps, 1 ≤ p.2 ∧ p.2 < m
  b : ∀ p ∈ ps, lo ≤ p.1 ∧ p.1 < lo + w
theorem Row.at_iff {m lo w : Int} {ps : Ps} (h : Row m lo w ps) (k v : Int) : (k, v) ∈ ps ↔ at_ ps k = v ∧ v ≠ 0 := by
  constructor
  · intro q
    exact ⟨srt_at h.s q, by have := (h.v _ q).1; dsimp only at this; omega⟩
  · rintro ⟨q, z⟩
    rcases Classical.em (k ∈ ps.map (·.1)) with e | e
    · obtain ⟨x, hx, ex⟩ := List.mem_map.mp e
      have := srt_at h.s hx
      rw [ex, q] at this
      rw [← ex, this]
      exact hx
    · rw [at_no e] at q
      exact absurd q.symm z
theorem Row.at_lt {m lo w : Int} (hm : 0 < m) {ps : Ps} (h : Row m lo w ps) (k : Int) : 0 ≤ at_ ps k ∧ at_ ps k < m := by
  rcases Classical.em (at_ ps k = 0) with e | e
  · rw [e]; omega
  · have := h.v _ ((h.at_iff k _).mpr ⟨rfl, e⟩)
    dsimp only at this
    omega
theorem Row.at_mod {m lo w : Int} (hm : 0 < m) {ps : Ps} (h : Row m lo w ps) (k : Int) : at_ ps k % m = at_ ps k := Int.emod_eq_of_lt (h.at_lt hm k).1 (h.at_lt hm k).2
/-- two rows with the same values -/
theorem Row.ext {m lo w lo' w' : Int} {a b : Ps} (ha : Row m lo w a) (hb : Row m lo' w' b) (h : ∀ k, at_ a k = at_ b k) : a = b := srt_ext ha.s hb.s fun p => by
  rw [show p = (p.1, p.2) from rfl, ha.at_iff, hb.at_iff, h]
theorem Row.mono {m lo w lo' w' : Int} {a : Ps} (h : Row m lo w a) (h1 : lo' ≤ lo) (h2 : lo + w ≤ lo' + w') : Row m lo' w' a := ⟨h.s, h.v, fun p hp => by have := h.b p hp; omega⟩
theorem inc_len : ∀ {ks : List Int} {lo w : Int}, ks.Pairwise (· < ·) → (∀ k ∈ ks, lo ≤ k ∧ k < lo + w) → ks ≠ [] → (ks.length : Int) ≤ w
  | [], _, _, _, _, h => absurd rfl h
  | [k], lo, w, _, h, _ => by have := h k (by simp); simp; omega
  | k :: j :: r, lo, w, hs, h, _ => by
    have hs' := List.pairwise_cons.mp hs
    have a := h k (by simp)
    have := inc_len (lo := k + 1) (w := lo + w - (k + 1)) hs'.2 (fun i hi => by have := hs'.1 i hi; have := h i (by simp [hi]); omega) (by simp)
    simp only [List.length_cons] at this ⊢
    omega
theorem Row.len {m lo w : Int} {ps : Ps} (h : Row m lo w ps) (hw : 0 ≤ w) : (ps.length : Int) ≤ w := by
  rcases ps with _ | ⟨p, r⟩
  · simp; omega
  · have := inc_len (ks := (p :: r).map (·.1)) (lo := lo) (w := w) (List.pairwise_map.mpr (show List.Pairwise (fun a b : Int × Int => a.1 < b.1) (p :: r) from h.s)) (fun k hk => by obtain ⟨x, hx, e⟩ := List.mem_map.mp hk; rw [← e]; exact h.b x hx) (by simp)
    rwa [List.length_map] at this
end Nv
/-! RwB: collected pairs, steps, sums. -/
namespace Nv
def coll (m : Int) (ps : Ps) : Ps := ((sortI (uk ps)).filter fun k => decide (at_ ps k % m ≠ 0)).map fun k => (k, at_ ps k % m)
theorem sortI_strict {ks : List Int} (h : ks.Nodup) : (sortI ks).Pairwise (· < ·) := by
  have h1 := sortI_sorted ks
  have h2 : (sortI ks).Nodup := (sortI_perm ks).nodup_iff.mpr h
  exact (List.pairwise_and_iff.mpr ⟨h1, h2⟩).imp fun ⟨a, b⟩ => by omega
theorem coll_srt (m : Int) (ps : Ps) : Srt (coll m ps) := by
  unfold Srt coll
  rw [List.pairwise_map]
  exact ((sortI_strict (uk_nodup ps)).filter _).imp fun h => h
theorem coll_mem (m : Int) (ps : Ps) (k v : Int) : (k, v) ∈ coll m ps ↔ at_ ps k % m = v ∧ v ≠ 0 := by
  unfold coll
  simp only [List.mem_map, List.mem_filter, decide_eq_true_eq, Prod.mk.injEq]
  constructor
  · rintro ⟨j, ⟨hj, hz⟩, e, e2⟩
    subst e
    exact ⟨e2, e2 ▸ hz⟩
  · rintro ⟨e, z⟩
    refine ⟨k, ⟨(sortI_perm _).mem_iff.mpr ((uk_mem ps k).mpr ?_), e ▸ z⟩, rfl, e⟩
    apply Classical.byContradiction
    intro q
    rw [at_no q] at e
    simp at e
    exact z e.symm
theorem coll_row {m lo w : Int} (hm : 0 < m) {ps : Ps} (h : ∀ p ∈ ps, lo ≤ p.1 ∧ p.1 < lo + w) : Row m lo w (coll m ps) := by
  refine ⟨coll_srt m ps, fun p hp => ?_, fun p hp => ?_⟩
  · obtain ⟨e, z⟩ := (coll_mem m ps p.1 p.2).mp hp
    have := Int.emod_nonneg (at_ ps p.1) (by omega : m ≠ 0)
    have := Int.emod_lt_of_pos (at_ ps p.1) hm
    omega
  · unfold coll at hp
    obtain ⟨k, hk, e⟩ := List.mem_map.mp hp
    have := (uk_mem ps k).mp ((sortI_perm _).mem_iff.mp (List.mem_filter.mp hk).1)
    obtain ⟨x, hx, ex⟩ := List.mem_map.mp this
    have := h x hx
    rw [← e]
    dsimp only
    omega
theorem coll_congr {m : Int} {a b : Ps} (h : ∀ k, Cg m (at_ a k) (at_ b k)) : coll m a = coll m b := srt_ext (coll_srt m a) (coll_srt m b) fun p => by
  rw [show p = (p.1, p.2) from rfl, coll_mem, coll_mem, show at_ a p.1 % m = at_ b p.1 % m from h p.1]
theorem coll_self {m lo w : Int} (hm : 0 < m) {ps : Ps} (h : Row m lo w ps) : coll m ps = ps := srt_ext (coll_srt m ps) h.s fun p => by
  rw [show p = (p.1, p.2) from rfl, coll_mem, h.at_iff, h.at_mod hm]
/-- what is collected weighs the same -/
theorem wsum_coll (m : Int) (g : Int → Int) (ps : Ps) : Cg m (wsum g (coll m ps)) (wsum g ps) := by
  have e1 : ∀ ks : List Int, Cg m (wsum g ((ks.filter fun k => decide (at_ ps k % m ≠ 0)).map fun k => (k, at_ ps k % m))) (ksum (fun k => at_ ps k * g k) ks) := fun ks => by
    induction ks with
    | nil => exact Cg.rfl
    | cons k r ih =>
      rw [List.filter_cons]
      by_cases h : at_ ps k % m ≠ 0
      · rw [if_pos (by simpa using h)]
        exact (Cg.mod.mul Cg.rfl).add ih
      · rw [if_neg (by simpa using h)]
        simp only [ksum]
        have z : Cg m (at_ ps k * g k) 0 := by
          have : Cg m (at_ ps k) 0 := by unfold Cg; simp only [Int.zero_emod]; omega
          simpa using this.mul (Cg.rfl (a := g k))
        exact ih.trans (Cg.of_eq (by omega) |>.trans (z.symm.add Cg.rfl))
  refine (e1 _).trans (Cg.of_eq ?_)
  rw [wsum_uk g ps]
  exact ksum_perm (sortI_perm _)
theorem at_coll (m : Int) (ps : Ps) (k : Int) : Cg m (at_ (coll m ps) k) (at_ ps k) := wsum_coll m _ ps
/-! ### steps -/
def prodL (f : Int → Int → Int) (r a : Ps) : Ps := r.flatMap fun p => a.map fun q => (f p.1 q.1, p.2 * q.2)
abbrev stepL (r a : Ps) : Ps := prodL (fun o p => p - o) r a
abbrev behL (r s : Ps) : Ps := prodL (fun o p => o + p) r s
theorem wsum_prod (g : Int → Int) (f : Int → Int → Int) (r a : Ps) : wsum g (prodL f r a) = wsum (fun o => wsum (fun p => g (f o p)) a) r := by
  induction r with
  | nil => rfl
  | cons p r ih =>
    have e : prodL f (p :: r) a = (a.map fun q => (f p.1 q.1, p.2 * q.2)) ++ prodL f r a := by simp [prodL]
    rw [e, wsum_append, ih]
    simp only [wsum]
    congr 1
    generalize p.1 = o
    generalize p.2 = x
    clear ih e
    induction a with
    | nil => simp [wsum]
    | cons q a ih2 =>
      simp only [List.map_cons, wsum]
      rw [ih2]
      rw [Int.mul_add, Int.mul_assoc]
theorem wsum_swap (g : Int → Int → Int) (a b : Ps) : wsum (fun o => wsum (fun p => g o p) b) a = wsum (fun p => wsum (fun o => g o p) a) b := by
  induction a with
  | nil =>
    simp only [wsum]
    induction b with
    | nil => rfl
    | cons q b ih => simp only [wsum, ← ih]; simp
  | cons p a ih =>
    simp only [wsum, ih]
    clear ih
    induction b with
    | nil => simp [wsum]
    | cons q b ih =>
      simp only [wsum]
      rw [← ih]
      simp only [Int.mul_add]
      rw [Int.mul_left_comm p.2 q.2]
      omega
theorem prod_cg {m : Int} {f : Int → Int → Int} {r r' a a' : Ps} (hr : ∀ g, Cg m (wsum g r) (wsum g r')) (ha : ∀ g, Cg m (wsum g a) (wsum g a')) (g : Int → Int) : Cg m (wsum g (prodL f r a)) (wsum g (prodL f r' a')) := by
  rw [wsum_prod, wsum_prod]
  exact (hr _).trans (wsum_cg fun p _ => ha _)
theorem prod_bnd {f : Int → Int → Int} {r a : Ps} {lo w lo' w' lo2 w2 : Int} (hr : ∀ p ∈ r, lo ≤ p.1 ∧ p.1 < lo + w) (ha : ∀ p ∈ a, lo' ≤ p.1 ∧ p.1 < lo' + w') (h : ∀ o p, lo ≤ o → o < lo + w → lo' ≤ p → p < lo' + w' → lo2 ≤ f o p ∧ f o p < lo2 + w2) :
    ∀ p ∈ prodL f r a, lo2 ≤ p.1 ∧ p.1 < lo2 + w2 := fun p hp => by
  obtain ⟨x, hx, e⟩ := List.mem_flatMap.mp hp
  obtain ⟨y, hy, e2⟩ := List.mem_map.mp e
  rw [← e2]
  exact h _ _ (hr x hx).1 (hr x hx).2 (ha y hy).1 (ha y hy).2
theorem prod_len (f : Int → Int → Int) (r a : Ps) : (prodL f r a).length = r.length * a.length := by
  induction r with
  | nil => simp [prodL]
  | cons p r ih =>
    have e : prodL f (p :: r) a = (a.map fun q => (f p.1 q.1, p.2 * q.2)) ++ prodL f r a := by simp [prodL]
    rw [e, List.length_append, ih, List.length_map, List.length_cons, Nat.succ_mul, Nat.add_comm]
/-! ### what the law says -/
def addC (m : Int) (a b : Ps) : Ps := coll m (a ++ b)
def stepC (m : Int) (r a : Ps) : Ps := coll m (stepL r a)
def behC (m : Int) (r s : Ps) : Ps := coll m (behL r s)
def shiftL (by_ : Int) (a : Ps) : Ps := a.map fun p => (p.1 + by_, p.2)
theorem cg_app {m : Int} {a a' b b' : Ps} (ha : ∀ g, Cg m (wsum g a) (wsum g a')) (hb : ∀ g, Cg m (wsum g b) (wsum g b')) (g : Int → Int) : Cg m (wsum g (a ++ b)) (wsum g (a' ++ b')) := by
  rw [wsum_append, wsum_append]; exact (ha g).add (hb g)
theorem add_comm_C (m : Int) (a b : Ps) : addC m a b = addC m b a := coll_congr fun k => Cg.of_eq (by rw [at_append, at_append]; omega)
theorem step_add (m : Int) (r a b : Ps) : stepC m r (addC m a b) = addC m (stepC m r a) (stepC m r b) := coll_congr fun k => by
  refine (prod_cg (fun g => Cg.rfl) (fun g => wsum_coll m g _) _).trans (Cg.trans (Cg.of_eq ?_) (cg_app (fun g => (wsum_coll m g (stepL r a)).symm) (fun g => (wsum_coll m g (stepL r b)).symm) _))
  rw [wsum_append, wsum_prod, wsum_prod, wsum_prod]
  clear m
  induction r with
  | nil => rfl
  | cons p r ih => simp only [wsum, wsum_append] at ih ⊢; rw [ih, Int.mul_add]; omega
theorem plus_step (m : Int) (r s a : Ps) : stepC m (addC m r s) a = addC m (stepC m r a) (stepC m s a) := coll_congr fun k => by
  refine (prod_cg (fun g => wsum_coll m g _) (fun g => Cg.rfl) _).trans (Cg.trans (Cg.of_eq ?_) (cg_app (fun g => (wsum_coll m g (stepL r a)).symm) (fun g => (wsum_coll m g (stepL s a)).symm) _))
  rw [wsum_append, wsum_prod, wsum_prod, wsum_prod, wsum_append]
theorem behind_step (m : Int) (r s a : Ps) : stepC m (behC m r s) a = stepC m s (stepC m r a) := coll_congr fun k => by
  refine (prod_cg (fun g => wsum_coll m g _) (fun g => Cg.rfl) _).trans (Cg.trans (Cg.of_eq ?_) (prod_cg (fun g => Cg.rfl) (fun g => (wsum_coll m g (stepL r a)).symm) _))
  simp only [wsum_prod]
  rw [wsum_swap]
  simp only [Int.sub_sub]
theorem wsum_shift (g : Int → Int) (b : Int) (a : Ps) : wsum g (shiftL b a) = wsum (fun k => g (k + b)) a := by
  induction a with
  | nil => rfl
  | cons p r ih => simp only [shiftL, List.map_cons, wsum] at ih ⊢; rw [ih]
theorem shift_row {m lo w b : Int} {a : Ps} (h : Row m lo w a) : Row m (lo + b) w (shiftL b a) := by
  refine ⟨?_, fun p hp => ?_, fun p hp => ?_⟩
  · unfold Srt shiftL
    rw [List.pairwise_map]
    exact h.s.imp fun q => by dsimp only; omega
  · obtain ⟨x, hx, e⟩ := List.mem_map.mp hp
    rw [← e]; exact h.v x hx
  · obtain ⟨x, hx, e⟩ := List.mem_map.mp hp
    have := h.b x hx
    rw [← e]; dsimp only; omega
end Nv
/-! RwC: the program's functions upon rows. -/
namespace Nv
def dP (p : Int × Int) : D := .tup [.int p.1, .int p.2]
def dPs (a : Ps) : D := .tup (a.map dP)
def dR (m : Int) (a : Ps) : D := .tup [.int m, dPs a]
theorem lo_pairs (n : Nat) (a : Ps) : D.los n (a.map dP) = true := by
  induction a with
  | nil => rfl
  | cons p r ih => simp [R.bind, R.st, R.must, D.los, D.lo, dP, ih]
theorem lo_dPs (n : Nat) (a : Ps) : (dPs a).lo n = true := by simp [R.bind, R.st, R.must, dPs, D.lo, lo_pairs]
theorem lo_dR (n : Nat) (m : Int) (a : Ps) : (dR m a).lo n = true := by simp [R.bind, R.st, R.must, dR, D.lo, D.los, lo_dPs]
theorem freeze_lo {n : Nat} {M : Mem} {d : D} (h : d.lo n = true) : freeze n M d = some d := by unfold freeze; rw [if_pos h]
theorem fnT_rt {np nl : Nat} {body : FS} {ds : List D} {M X : Mem} {d : D} (hl : ds.length = np) (hb : body (ds.map some ++ List.replicate nl none) M = .ok (.rt d) (M ++ X)) (hd : d.lo M.length = true) (hc : closed M.length M = true) : fnT np nl body ds M = .ok d M := by
  unfold fnT
  rw [if_pos hl, hb]
  simp [R.bind, R.st, R.must, endT, tidyR, freeze_lo hd, hc]
theorem fnT_rt0 {np nl : Nat} {body : FS} {ds : List D} {M : Mem} {d : D} (hl : ds.length = np) (hb : body (ds.map some ++ List.replicate nl none) M = .ok (.rt d) M) (hd : d.lo M.length = true) (hc : closed M.length M = true) : fnT np nl body ds M = .ok d M :=
  fnT_rt (X := []) hl (by rw [List.append_nil]; exact hb) hd hc
theorem fnT_nx0 {np nl : Nat} {body : FS} {ds : List D} {M : Mem} {ρ : Env} (hl : ds.length = np) (hb : body (ds.map some ++ List.replicate nl none) M = .ok (.nx ρ) M) (hc : closed M.length M = true) : fnT np nl body ds M = .ok .non M := by
  unfold fnT
  rw [if_pos hl, hb]
  simp [R.bind, R.st, R.must, endT, tidyR, freeze, D.lo, hc]
variable {M : Mem} (hc : closed M.length M = true)
include hc
theorem r_is_integer (i : Int) : run_is_integer [.int i] M = .ok (.bl true) M := fnT_rt0 rfl (by simp [R.bind, R.st, R.must, body_is_integer]) rfl hc
def Modu (m : Int) : Prop := m ∈ [(2 : Int), 3, 5, 6, 7, 10, 11, 13, 14, 15]
theorem r_is_modulus {m : Int} (h : Modu m) : run_is_modulus [.int m] M = .ok (.bl true) M := fnT_rt0 rfl (by
  have h' : m ∈ [(2 : Int), 3, 5, 6, 7, 10, 11, 13, 14, 15] := h
  simp [R.bind, R.st, R.must, body_is_modulus, r_is_integer hc, -List.mem_cons, h']) rfl hc
omit hc in
theorem Modu.two {m : Int} (h : Modu m) : 2 ≤ m ∧ m ≤ 15 := by
  simp only [Modu, List.mem_cons, List.not_mem_nil, or_false] at h
  omega
omit hc in
theorem boolsOf_true : ∀ n : Nat, boolsOf (List.replicate n (.bl true)) = some (List.replicate n true)
  | 0 => rfl
  | n + 1 => by simp [R.bind, R.st, R.must, List.replicate_succ, boolsOf, boolsOf_true n]
omit hc in
/-- a comprehension that gives the same value each time -/
theorem compL_all {tg : Tg} {c e : FE} {vs : List Nat} {ρ : Env} {M : Mem} {y : D} {ds : List D} (h : ∀ d ∈ ds, ∃ ρ1, tg.put d (kill vs ρ) = some ρ1 ∧ c ρ1 M = .ok (.bl true) M ∧ e ρ1 M = .ok y M) : compL tg c e vs ds ρ M = .ok (List.replicate ds.length y) M := by
  induction ds with
  | nil => rfl
  | cons d r ih =>
    obtain ⟨ρ1, h1, h2, h3⟩ := h d (by simp)
    unfold compL
    rw [h1]
    simp [R.bind, R.st, R.must, h2, h3, ih fun x hx => h x (by simp [hx]), List.replicate_succ]
omit hc in
theorem compL_map {α : Type} {tg : Tg} {c e : FE} {vs : List Nat} {ρ : Env} {M : Mem} (f : α → D) (g : α → D) {as : List α} (h : ∀ a ∈ as, ∃ ρ1, tg.put (f a) (kill vs ρ) = some ρ1 ∧ c ρ1 M = .ok (.bl true) M ∧ e ρ1 M = .ok (g a) M) : compL tg c e vs (as.map f) ρ M = .ok (as.map g) M := by
  induction as with
  | nil => rfl
  | cons d r ih =>
    obtain ⟨ρ1, h1, h2, h3⟩ := h d (by simp)
    rw [List.map_cons]
    unfold compL
    rw [h1]
    simp [R.bind, R.st, R.must, h2, h3, ih fun x hx => h x (by simp [hx])]
omit hc in
/-- .. with a test -/
theorem compL_filter {α : Type} {tg : Tg} {c e : FE} {vs : List Nat} {ρ : Env} {M : Mem} (f : α → D) (g : α → D) (t : α → Bool) {as : List α} (h : ∀ a ∈ as, ∃ ρ1, tg.put (f a) (kill vs ρ) = some ρ1 ∧ c ρ1 M = .ok (.bl (t a)) M ∧ (t a = true → e ρ1 M = .ok (g a) M)) : compL tg c e vs (as.map f) ρ M = .ok ((as.filter t).map g) M := by
  induction as with
  | nil => rfl
  | cons d r ih =>
    obtain ⟨ρ1, h1, h2, h3⟩ := h d (by simp)
    rw [List.map_cons]
    unfold compL
    rw [h1]
    have ih' := ih fun x hx => h x (by simp [hx])
    cases ht : t d with
    | true => simp [R.bind, R.st, R.must, h2, ht, h3 ht, ih', List.filter_cons]
    | false => simp [R.bind, R.st, R.must, h2, ht, ih', List.filter_cons]
omit hc in
theorem fitL_ok {ds : List D} {M : Mem} (h : ds.length ≤ 16777216) : fitL (.ok ds M) = .ok (.lst ds) M := by
  show (if ds.length ≤ 16777216 then R.ok (D.lst ds) M else R.bad) = _
  rw [if_pos h]
omit hc in
theorem srt_get {a : Ps} (h : Srt a) {i : Nat} {p q : Int × Int} (hp : a[i]? = some p) (hq : a[i + 1]? = some q) : p.1 < q.1 := by
  obtain ⟨h1, e1⟩ := List.getElem?_eq_some_iff.mp hp
  obtain ⟨h2, e2⟩ := List.getElem?_eq_some_iff.mp hq
  have := (List.pairwise_iff_getElem.mp h) i (i + 1) h1 h2 (by omega)
  rw [e1, e2] at this
  exact this
theorem r_are_pairs {m lo w : Int} {a : Ps} (h : Row m lo w a) (hw : 0 ≤ w) (hw2 : w ≤ 64) : run_are_pairs [dPs a, .int m] M = .ok (.bl true) M := by
  have hlen := h.len hw
  have loop : ∀ (b : Ps), (∀ p ∈ b, 1 ≤ p.2 ∧ p.2 < m) → ∀ x y : Option D, forL (.nm 2) (sSeq (sIf (evOr (evNot (evIsI "tuple" (evVar 2))) (evOr (evOp2 dNe (evB bLen (evCons (evVar 2) evNil)) (evC (.int 2))) (evNot (evB bAll (evCons (evComp (itSeq (evVar 2)) (.nm 3) evTrue (evCall run_is_integer (evCons (evVar 3) evNil)) [3]) evNil))))) (sRet (evC (.bl false))) sSkip) (sIf (evNot (evChain dLe dLt (evC (.int 1)) (evOp2 dIx (evVar 2) (evC (.int 1))) (evVar 1))) (sRet (evC (.bl false))) sSkip)) [2, 3] (b.map dP) [some (dPs a), some (.int m), x, y, none] M = .ok (.nx [some (dPs a), some (.int m), none, none, none]) M := fun b => by
    induction b with
    | nil => intro _ x y; simp [R.bind, R.st, R.must, forL, kill]
    | cons p r ih =>
      intro hb x y
      have hp := hb p (by simp)
      have hi : compL (.nm 3) evTrue (evCall run_is_integer (evCons (evVar 3) evNil)) [3] [.int p.1, .int p.2] [some (dPs a), some (.int m), some (.tup [.int p.1, .int p.2]), none, none] M = .ok [.bl true, .bl true] M := by
        have := compL_all (tg := .nm 3) (c := evTrue) (e := evCall run_is_integer (evCons (evVar 3) evNil)) (vs := [3]) (ρ := [some (dPs a), some (.int m), some (.tup [.int p.1, .int p.2]), none, none]) (M := M) (y := .bl true) (ds := [.int p.1, .int p.2]) (fun d hd => by
          simp only [List.mem_cons, List.not_mem_nil, or_false] at hd
          rcases hd with e | e <;> subst e <;> exact ⟨_, rfl, rfl, by simp [R.bind, R.st, R.must, kill, r_is_integer hc]⟩)
        exact this
      rw [List.map_cons]
      unfold forL
      simp [R.bind, R.st, R.must, kill, dP, evComp, hi, fitL, bAll, boolsOf, hp.1, hp.2]
      exact ih (fun q hq => hb q (by simp [hq])) _ _
  refine fnT_rt0 rfl ?_ rfl hc
  have hr : ∀ n : Nat, n < a.length → ∃ p q, a[n]? = some p ∧ (n + 1 < a.length → a[n + 1]? = some q ∧ p.1 < q.1) := fun n hn => by
    obtain ⟨p, hp⟩ : ∃ p, a[n]? = some p := ⟨a[n], List.getElem?_eq_getElem hn⟩
    by_cases h2 : n + 1 < a.length
    · obtain ⟨q, hq⟩ : ∃ q, a[n + 1]? = some q := ⟨a[n + 1], List.getElem?_eq_getElem h2⟩
      exact ⟨p, q, hp, fun _ => ⟨hq, srt_get h.s hp hq⟩⟩
    · exact ⟨p, p, hp, fun z => absurd z h2⟩
  have hl2 := loop a h.v none none
  have hall := compL_map (tg := .nm 4) (c := evTrue) (e := evOp2 dLt (evOp2 dIx (evOp2 dIx (evVar 0) (evVar 4)) (evC (.int 0))) (evOp2 dIx (evOp2 dIx (evVar 0) (evOp2 dAdd (evVar 4) (evC (.int 1)))) (evC (.int 0)))) (vs := [4]) (ρ := [some (dPs a), some (.int m), none, none, none]) (M := M) (f := fun i : Nat => D.int (0 + (i : Nat))) (g := fun _ => .bl true) (as := List.range (a.length - 1)) (fun n hn => by
    rw [List.mem_range] at hn
    obtain ⟨p, q, hp, hq⟩ := hr n (by omega)
    obtain ⟨hq, hlt⟩ := hq (by omega)
    refine ⟨_, rfl, rfl, ?_⟩
    have e1 : ((n : Int) + 1).toNat = n + 1 := by omega
    simp [R.bind, R.st, R.must, kill, dPs, hp, hq, dP, hlt])
  have hl3 : (List.replicate (a.length - 1) (D.bl true)) = (List.range (a.length - 1)).map fun _ => D.bl true := by
    rw [List.map_const']
    simp
  have hrg : rangeI 0 ((a.length : Int) - 1) = (List.range (a.length - 1)).map fun i : Nat => D.int (0 + (i : Nat)) := by
    unfold rangeI
    congr 2
    omega
  have hsm : smallI ((a.length : Int) - 1) = true := by unfold smallI; simp; omega
  have hb2 : boolsOf ((List.range (a.length - 1)).map fun _ => D.bl true) = some (List.replicate (a.length - 1) true) := by rw [← hl3]; exact boolsOf_true _
  have hk : kill [4] [some (dPs a), some (D.int m), none, none, none] = [some (dPs a), some (D.int m), none, none, none] := rfl
  have e1 : evComp (itR1 (evOp2 dSub (evB bLen (evCons (evVar 0) evNil)) (evC (.int 1)))) (.nm 4) evTrue (evOp2 dLt (evOp2 dIx (evOp2 dIx (evVar 0) (evVar 4)) (evC (.int 0))) (evOp2 dIx (evOp2 dIx (evVar 0) (evOp2 dAdd (evVar 4) (evC (.int 1)))) (evC (.int 0)))) [4] [some (dPs a), some (D.int m), none, none, none] M = .ok (.lst ((List.range (a.length - 1)).map fun _ => D.bl true)) M := by
    simp only [x_evComp, x_itR1, x_evOp2, x_evB, x_evCons, x_evVar, x_evNil, x_evC, R.bind, List.getElem?_cons_zero, dPs, x_lent, x_lift, x_sub, List.length_map, hsm, if_true, hrg]
    simp only [dPs] at hall
    rw [hall, fitL_ok (by simp; omega)]
  simp only [List.map_cons, List.map_nil, List.replicate, List.cons_append, List.nil_append, body_are_pairs]
  simp only [x_sSeq, x_sIf, x_evNot, x_isI, x_evVar, R.bind, R.st, List.getElem?_cons_zero, show bIsI "tuple" M (dPs a) = some true from rfl, Option.map_some, x_lift, x_asBool, Bool.not_true, Bool.false_eq_true, if_false, x_sSkip, x_sFor, x_itSeq, show itemsOf (dPs a) = some (a.map dP) from rfl, x_evC]
  rw [hl2]
  simp only [x_sRet, x_evB, x_evCons, R.bind, R.st, e1, x_evNil, x_all, hb2, Option.map_some, x_lift]
  simp
theorem r_of_mod {m : Int} (hm : Modu m) (a : Ps) : run_is_of_modulus [dR m a] M = .ok (.bl true) M := fnT_rt0 rfl (by
  simp [body_is_of_modulus, R.bind, R.st, dR, r_is_modulus hc hm, dPs]) rfl hc
theorem r_is_rule {m lo w : Int} {a : Ps} (hm : Modu m) (h : Row m lo w a) (hw : 0 ≤ w) (hw2 : w ≤ 64) : run_is_a_rule [dR m a] M = .ok (.bl true) M := fnT_rt0 rfl (by
  have h1 := r_of_mod hc hm a
  have h2 := r_are_pairs hc h hw hw2
  simp only [dR] at h1
  simp [body_is_a_rule, R.bind, R.st, dR, h1, h2]) rfl hc
theorem r_is_row {m lo w : Int} {a : Ps} (hm : Modu m) (h : Row m lo w a) (hw : 0 ≤ w) (hw2 : w ≤ 64) : run_is_a_row [dR m a] M = .ok (.bl true) M := fnT_rt0 rfl (by
  have h1 := r_of_mod hc hm a
  have h2 := r_are_pairs hc h hw hw2
  simp only [dR] at h1
  simp [body_is_a_row, R.bind, R.st, dR, h1, h2]) rfl hc
theorem r_need_rule {m lo w : Int} {a : Ps} (hm : Modu m) (h : Row m lo w a) (hw : 0 ≤ w) (hw2 : w ≤ 64) : run_need_rule [dR m a] M = .ok .non M := fnT_nx0 (ρ := [some (dR m a)]) rfl (by
  simp [body_need_rule, R.bind, R.st, r_is_rule hc hm h hw hw2]) hc
theorem r_need_row {m lo w : Int} {a : Ps} (hm : Modu m) (h : Row m lo w a) (hw : 0 ≤ w) (hw2 : w ≤ 64) : run_need_row [dR m a] M = .ok .non M := fnT_nx0 (ρ := [some (dR m a)]) rfl (by
  simp [body_need_row, R.bind, R.st, r_is_row hc hm h hw hw2]) hc
theorem r_need_same (m : Int) (a b : Ps) : run_need_same [dR m a, dR m b] M = .ok .non M := fnT_nx0 (ρ := [some (dR m a), some (dR m b)]) rfl (by
  simp [body_need_same, R.bind, R.st, dR]) hc
/-! ### collected -/
omit hc in
def kvs (l : Ps) : List (Key × D) := (uk l).map fun k => (.inl k, .int (at_ l k))
omit hc in
theorem kget_keys {ks : List Int} {f : Int → D} (k : Int) : kget (ks.map fun j => ((.inl j : Key), f j)) (.inl k) = if k ∈ ks then some (f k) else none := by
  unfold kget
  induction ks with
  | nil => rfl
  | cons j r ih =>
    rw [List.map_cons, List.find?_cons]
    by_cases e : j = k
    · subst e; simp
    · have e1 : decide ((Sum.inl j : Key) = Sum.inl k) = false := by simpa using e
      rw [show (decide (((Sum.inl j : Key), f j).1 = Sum.inl k)) = false from e1, ih]
      simp [Ne.symm e]
      
omit hc in
theorem kput_keys {ks : List Int} {f : Int → D} (k : Int) (v : D) : kput (ks.map fun j => ((.inl j : Key), f j)) (.inl k) v = (if k ∈ ks then ks else ks ++ [k]).map fun j => ((.inl j : Key), if j = k then v else f j) := by
  unfold kput
  by_cases h : k ∈ ks
  · rw [if_pos (by simpa using h), if_pos h, List.map_map]
    refine List.map_congr_left fun j hj => ?_
    by_cases e : j = k
    · subst e; simp
    · simp [e]
  · rw [if_neg (by simpa using h), if_neg h, List.map_append]
    congr 1
    · refine List.map_congr_left fun j hj => ?_
      rw [if_neg (fun (e : j = k) => h (e ▸ hj))]
    · simp
omit hc in
theorem kvs_snoc (l : Ps) (k v : Int) : kput (kvs l) (.inl k) (.int (((kget (kvs l) (.inl k)).getD (.int 0) |> fun d => match d with | .int i => i | _ => 0) + v)) = kvs (l ++ [(k, v)]) := by
  unfold kvs
  rw [kget_keys, kput_keys, uk_snoc]
  unfold ukS
  dsimp only
  refine List.map_congr_left fun j hj => ?_
  congr 1
  by_cases e : j = k
  · subst e
    rw [if_pos rfl, at_snoc, if_pos rfl]
    by_cases h : j ∈ uk l
    · rw [if_pos h]; rfl
    · rw [if_neg h, at_no fun q => h ((uk_mem l j).mpr q)]; rfl
  · rw [if_neg e, at_snoc, if_neg fun q => e q.symm]
    simp
omit hc in
theorem keyInts_kvs (ks : List Int) (f : Int → D) : keyInts (ks.map fun j => ((.inl j : Key), f j)) = some ks := by
  induction ks with
  | nil => rfl
  | cons j r ih => simp [keyInts, ih]
omit hc in
theorem take_app (M X : Mem) : (M ++ X).take M.length = M := by simp
def loopB : FS := (sSetIx setKey (evVar 2) (evVar 3) (evOp2 dAdd (evGet2 (evVar 2) (evVar 3) (evC (.int 0))) (evVar 4)))
omit hc in
theorem coll_loop (M : Mem) (P : D) (m : Int) : ∀ (b l : Ps), (∀ x : Ps, (kvs x).length ≤ x.length) → l.length + b.length ≤ 16777215 → ∀ x y : Option D, forL (.tup [(.nm 3), (.nm 4)]) loopB [3, 4] (b.map dP) [some P, some (.int m), some (.ref M.length), x, y] (M ++ [.dct (kvs l)]) = .ok (.nx [some P, some (.int m), some (.ref M.length), none, none]) (M ++ [.dct (kvs (l ++ b))])
  | [], l, _, _, x, y => by simp
  | p :: b, l, hk, hl, x, y => by
    have ih := coll_loop M P m b (l ++ [p]) hk (by simp at hl ⊢; omega) (some (.int p.1)) (some (.int p.2))
    have hs := kvs_snoc l p.1 p.2
    have hlen := hk l
    simp only [List.length_cons] at hl
    rw [List.map_cons]
    unfold forL
    simp only [x_kill, x_kill0, List.set_cons_succ, List.set_cons_zero, dP, x_putt, x_puts, x_putn, x_puts0, Option.bind]
    have hg : kget (kvs l) (.inl p.1) = if p.1 ∈ uk l then some (.int (at_ l p.1)) else none := kget_keys _
    have hstep : loopB [some P, some (.int m), some (.ref M.length), some (.int p.1), some (.int p.2)] (M ++ [.dct (kvs l)]) = .ok (.nx [some P, some (.int m), some (.ref M.length), some (.int p.1), some (.int p.2)]) (M ++ [.dct (kvs (l ++ [p]))]) := by
      unfold loopB
      rw [hg] at hs
      by_cases h : p.1 ∈ uk l
      · rw [if_pos h] at hs hg
        simp at hs
        simp [R.bind, R.st, hg, hs, show (kvs l).length < 16777216 by omega]
      · rw [if_neg h] at hs hg
        simp at hs
        simp [R.bind, R.st, hg, hs, show (kvs l).length < 16777216 by omega]
    rw [hstep]
    simp only [R.bind]
    rw [ih, List.append_assoc]
    rfl
omit hc in
theorem uk_len : ∀ x : Ps, (uk x).length ≤ x.length := snoc_ind (by simp [uk]) fun l a ih => by
  rw [uk_snoc]
  unfold ukS
  split <;> simp <;> omega
omit hc in
theorem kvs_len (x : Ps) : (kvs x).length ≤ x.length := by unfold kvs; rw [List.length_map]; exact uk_len x
theorem r_collectedP {m : Int} (hm : 0 < m) {l : Ps} {P : D} (hP : itemsOf P = some (l.map dP)) (hl : l.length ≤ 16777215) (hk : (uk l).length < 64) : run_collected [P, .int m] M = .ok (dPs (coll m l)) M := by
  refine fnT_rt (X := [.dct (kvs l)]) rfl ?_ (lo_dPs _ _) hc
  have h1 := coll_loop M P m l [] kvs_len (by simpa using hl) none none
  have h2 := compL_filter (tg := .nm 3) (c := evOp2 dNe (evOp2 dMod (evOp2 dGetD (evVar 2) (evVar 3)) (evVar 1)) (evC (.int 0))) (e := evTup (evCons (evVar 3) (evCons (evOp2 dMod (evOp2 dGetD (evVar 2) (evVar 3)) (evVar 1)) evNil))) (vs := [3]) (ρ := [some P, some (.int m), some (.ref M.length), none, none]) (M := M ++ [.dct (kvs l)]) (f := D.int) (g := fun k => dP (k, at_ l k % m)) (t := fun k => decide (at_ l k % m ≠ 0)) (as := sortI (uk l)) (fun k hk => by
    have hg : kget (kvs l) (.inl k) = some (.int (at_ l k)) := (kget_keys _).trans (if_pos ((sortI_perm _).mem_iff.mp hk))
    refine ⟨_, rfl, ?_, fun _ => ?_⟩ <;> simp [R.bind, hg, hm, dP])
  have h3 : keyInts (kvs l) = some (uk l) := keyInts_kvs _ _
  simp only [List.nil_append] at h1
  have h0 : (kvs ([] : Ps)) = [] := rfl
  rw [h0] at h1
  have hs : bSorted (M ++ [.dct (kvs l)]) [.ref M.length] = some (.lst ((sortI (uk l)).map .int)) := by
    unfold bSorted
    simp [h3, hk]
  have hf : ((sortI (uk l)).filter fun k => decide (at_ l k % m ≠ 0)).length ≤ 16777216 := by
    have := List.length_filter_le (fun k => decide (at_ l k % m ≠ 0)) (sortI (uk l))
    rw [(sortI_perm (uk l)).length_eq] at this
    omega
  simp only [List.map_cons, List.map_nil, List.replicate, List.cons_append, List.nil_append, body_collected]
  simp only [x_sSeq, x_sSet, x_evDct0, R.bind, R.st, List.set_cons_succ, List.set_cons_zero, x_sFor, x_itSeq, x_evVar, List.getElem?_cons_zero, hP, x_lift]
  unfold loopB at h1
  rw [h1]
  simp only [R.bind, R.st, x_sRet, x_evB, x_evCons, x_evComp, x_itSeq, x_evNil, x_evVar, List.getElem?_cons_succ, List.getElem?_cons_zero, hs, x_lift, x_items_l]
  rw [h2, fitL_ok (by simpa using hf)]
  simp only [x_tuple, x_lift, dPs, coll, List.map_map]
  rfl
theorem r_collected {m : Int} (hm : 0 < m) {l : Ps} (hl : l.length ≤ 16777215) (hk : (uk l).length < 64) : run_collected [.tup (l.map dP), .int m] M = .ok (dPs (coll m l)) M := r_collectedP hc hm rfl hl hk
end Nv
/-! RwD: sums, steps, places apart. -/
namespace Nv
theorem uk_bnd {l : Ps} {lo w : Int} (hw : 0 ≤ w) (h : ∀ p ∈ l, lo ≤ p.1 ∧ p.1 < lo + w) : ((uk l).length : Int) ≤ w := by
  have hp := (sortI_perm (uk l)).length_eq
  rcases e : sortI (uk l) with _ | ⟨k, r⟩
  · rw [e] at hp; simp at hp; rw [← hp]; simpa using hw
  · rw [← hp]
    refine inc_len (lo := lo) (sortI_strict (uk_nodup l)) (fun k hk => ?_) (by rw [e]; simp)
    obtain ⟨x, hx, ex⟩ := List.mem_map.mp ((uk_mem l k).mp ((sortI_perm _).mem_iff.mp hk))
    rw [← ex]; exact h x hx
theorem app_bnd {a b : Ps} {lo w : Int} (ha : ∀ p ∈ a, lo ≤ p.1 ∧ p.1 < lo + w) (hb : ∀ p ∈ b, lo ≤ p.1 ∧ p.1 < lo + w) : ∀ p ∈ a ++ b, lo ≤ p.1 ∧ p.1 < lo + w := fun p hp => (List.mem_append.mp hp).elim (ha p) (hb p)
theorem add_row {m lo w : Int} (hm : 0 < m) {a b : Ps} (ha : Row m lo w a) (hb : Row m lo w b) : Row m lo w (addC m a b) := coll_row hm (app_bnd ha.b hb.b)
theorem step_bnd {m lo w rl rw : Int} {r a : Ps} (hr : Row m rl rw r) (ha : Row m lo w a) : ∀ p ∈ stepL r a, lo - rl - rw + 1 ≤ p.1 ∧ p.1 < lo - rl - rw + 1 + (w + rw - 1) := prod_bnd hr.b ha.b fun o p _ _ _ _ => by omega
theorem step_row {m lo w rl rw : Int} (hm : 0 < m) {r a : Ps} (hr : Row m rl rw r) (ha : Row m lo w a) : Row m (lo - rl - rw + 1) (w + rw - 1) (stepC m r a) := coll_row hm (step_bnd hr ha)
theorem beh_bnd {m lo w rl rw : Int} {r a : Ps} (hr : Row m rl rw r) (ha : Row m lo w a) : ∀ p ∈ behL r a, lo + rl ≤ p.1 ∧ p.1 < lo + rl + (w + rw - 1) := prod_bnd hr.b ha.b fun o p _ _ _ _ => by omega
theorem beh_row {m lo w rl rw : Int} (hm : 0 < m) {r a : Ps} (hr : Row m rl rw r) (ha : Row m lo w a) : Row m (lo + rl) (w + rw - 1) (behC m r a) := coll_row hm (beh_bnd hr ha)
variable {M : Mem} (hc : closed M.length M = true)
theorem compL2_prod {f : Int → Int → Int} {tg tg2 : Tg} {c c2 e : FE} {it2 : FI} {vs vs2 : List Nat} {ρ : Env} {r a : Ps} (h : ∀ p ∈ r, ∃ ρ1, tg.put (dP p) (kill vs ρ) = some ρ1 ∧ c ρ1 M = .ok (.bl true) M ∧ it2 ρ1 M = .ok (a.map dP) M ∧ compL tg2 c2 e vs2 (a.map dP) ρ1 M = .ok (a.map fun q => dP (f p.1 q.1, p.2 * q.2)) M) :
    compL2 tg c it2 tg2 c2 e vs vs2 (r.map dP) ρ M = .ok ((prodL f r a).map dP) M := by
  induction r with
  | nil => rfl
  | cons p r ih =>
    obtain ⟨ρ1, h1, h2, h3, h4⟩ := h p (by simp)
    rw [List.map_cons]
    unfold compL2
    rw [h1]
    have e : prodL f (p :: r) a = (a.map fun q => (f p.1 q.1, p.2 * q.2)) ++ prodL f r a := by simp [prodL]
    simp [h2, h3, h4, R.bind, ih fun x hx => h x (by simp [hx]), e]
include hc
theorem r_added {m lo w : Int} (hm : Modu m) {a b : Ps} (ha : Row m lo w a) (hb : Row m lo w b) (hw : 0 ≤ w) (hw2 : w ≤ 63) : run_added [dR m a, dR m b] M = .ok (dR m (addC m a b)) M := fnT_rt0 rfl (by
  have h1 := r_need_row hc hm ha hw (by omega)
  have h2 := r_need_row hc hm hb hw (by omega)
  have h3 := r_need_same hc m a b
  have la := ha.len hw
  have lb := hb.len hw
  have h4 := r_collected hc (m := m) (by have := hm.two; omega) (l := a ++ b) (by simp; omega) (by have := uk_bnd hw (app_bnd ha.b hb.b); omega)
  simp only [dR] at h1 h2 h3
  rw [List.map_append] at h4
  simp [body_added, R.bind, R.st, dR, dPs, h1, h2, h3, addC, show a.length + b.length ≤ 16777216 by omega] at h1 h2 h3 h4 ⊢
  simp [h1, h2, h3, h4, show a.length + b.length ≤ 16777216 by omega]) (lo_dR _ _ _) hc
theorem r_plus {m lo w : Int} (hm : Modu m) {a b : Ps} (ha : Row m lo w a) (hb : Row m lo w b) (hw : 0 ≤ w) (hw2 : w ≤ 63) : run_plus [dR m a, dR m b] M = .ok (dR m (addC m a b)) M := fnT_rt0 rfl (by
  have h1 := r_need_rule hc hm ha hw (by omega)
  have h2 := r_need_rule hc hm hb hw (by omega)
  have h3 := r_need_same hc m a b
  have la := ha.len hw
  have lb := hb.len hw
  have h4 := r_collected hc (m := m) (by have := hm.two; omega) (l := a ++ b) (by simp; omega) (by have := uk_bnd hw (app_bnd ha.b hb.b); omega)
  simp only [dR] at h1 h2 h3
  rw [List.map_append] at h4
  simp [body_plus, R.bind, R.st, dR, dPs, h1, h2, h3, addC, show a.length + b.length ≤ 16777216 by omega] at h1 h2 h3 h4 ⊢
  simp [h1, h2, h3, h4, show a.length + b.length ≤ 16777216 by omega]) (lo_dR _ _ _) hc
omit hc in
theorem mulOk_small {i j : Int} (h : 1 ≤ i ∧ i < 16) : mulOk i j := .inl (by omega)
theorem r_step {m lo w rl rw : Int} (hm : Modu m) {r a : Ps} (hr : Row m rl rw r) (ha : Row m lo w a) (hw : 1 ≤ w) (hrw : 1 ≤ rw) (hw2 : w + rw ≤ 64) : run_step [dR m r, dR m a] M = .ok (dR m (stepC m r a)) M := by
  have h1 := r_need_rule hc hm hr (by omega) (by omega)
  have h2 := r_need_row hc hm ha (by omega) (by omega)
  have h3 := r_need_same hc m r a
  have la := ha.len (by omega)
  have lr := hr.len (by omega)
  have hm2 := hm.two
  have lp : (stepL r a).length ≤ 64 * 64 := by
    rw [prod_len]
    exact Nat.mul_le_mul (by omega) (by omega)
  have lp' : (prodL (fun o p => p - o) r a).length ≤ 64 * 64 := lp
  have h4 := r_collectedP hc (m := m) (P := .lst ((stepL r a).map dP)) (by omega) (l := stepL r a) rfl (by omega) (by have := uk_bnd (by omega) (step_bnd hr ha); omega)
  have h5 := compL2_prod (M := M) (f := fun o p => p - o) (tg := .tup [(.nm 3), (.nm 4)]) (tg2 := .tup [(.nm 5), (.nm 6)]) (c := evTrue) (c2 := evTrue) (e := evTup (evCons (evOp2 dSub (evVar 5) (evVar 3)) (evCons (evOp2 dMul (evVar 4) (evVar 6)) evNil))) (it2 := itSeq (evOp2 dIx (evVar 1) (evC (.int 1)))) (vs := [3, 4, 5, 6]) (vs2 := [5, 6]) (ρ := [some (dR m r), some (dR m a), none, none, none, none, none]) (r := r) (a := a) (fun p hp => by
    refine ⟨_, by simp [dP]; rfl, by simp, by simp [R.bind, dR, dPs], ?_⟩
    refine compL_map (f := dP) (g := fun q : Int × Int => dP (q.1 - p.1, p.2 * q.2)) fun q hq => ?_
    refine ⟨_, by simp [dP]; rfl, by simp, ?_⟩
    have hv := hr.v p hp
    simp [R.bind, dP, mulOk_small (i := p.2) (j := q.2) (by omega)])
  refine fnT_rt0 rfl ?_ (lo_dR _ _ _) hc
  simp only [List.map_cons, List.map_nil, List.replicate, List.cons_append, List.nil_append, body_step]
  simp only [x_sSeq, x_sExpr, x_evCall, x_evCons, x_evVar, x_evNil, R.bind, R.st, List.getElem?_cons_zero, List.getElem?_cons_succ, h1, h2, h3, x_sSet, x_evComp2]
  rw [show itSeq (evOp2 dIx (evVar 0) (evC (.int 1))) [some (dR m r), some (dR m a), none, none, none, none, none] M = .ok (r.map dP) M by simp [R.bind, dR, dPs]]
  simp only [R.bind]
  rw [h5, fitL_ok (by simp; omega)]
  simp [R.bind, R.st, dR, h4, stepC]
theorem r_behind {m lo w rl rw : Int} (hm : Modu m) {r a : Ps} (hr : Row m rl rw r) (ha : Row m lo w a) (hw : 1 ≤ w) (hrw : 1 ≤ rw) (hw2 : w + rw ≤ 64) : run_behind [dR m r, dR m a] M = .ok (dR m (behC m r a)) M := by
  have h1 := r_need_rule hc hm hr (by omega) (by omega)
  have h2 := r_need_rule hc hm ha (by omega) (by omega)
  have h3 := r_need_same hc m r a
  have la := ha.len (by omega)
  have lr := hr.len (by omega)
  have hm2 := hm.two
  have lp : (behL r a).length ≤ 64 * 64 := by
    rw [prod_len]
    exact Nat.mul_le_mul (by omega) (by omega)
  have lp' : (prodL (fun o p => o + p) r a).length ≤ 64 * 64 := lp
  have h4 := r_collectedP hc (m := m) (P := .lst ((behL r a).map dP)) (by omega) (l := behL r a) rfl (by omega) (by have := uk_bnd (by omega) (beh_bnd hr ha); omega)
  have h5 := compL2_prod (M := M) (f := fun o p => o + p) (tg := .tup [(.nm 3), (.nm 4)]) (tg2 := .tup [(.nm 5), (.nm 6)]) (c := evTrue) (c2 := evTrue) (e := evTup (evCons (evOp2 dAdd (evVar 3) (evVar 5)) (evCons (evOp2 dMul (evVar 4) (evVar 6)) evNil))) (it2 := itSeq (evOp2 dIx (evVar 1) (evC (.int 1)))) (vs := [3, 4, 5, 6]) (vs2 := [5, 6]) (ρ := [some (dR m r), some (dR m a), none, none, none, none, none]) (r := r) (a := a) (fun p hp => by
    refine ⟨_, by simp [dP]; rfl, by simp, by simp [R.bind, dR, dPs], ?_⟩
    refine compL_map (f := dP) (g := fun q : Int × Int => dP (p.1 + q.1, p.2 * q.2)) fun q hq => ?_
    refine ⟨_, by simp [dP]; rfl, by simp, ?_⟩
    have hv := hr.v p hp
    simp [R.bind, dP, mulOk_small (i := p.2) (j := q.2) (by omega)])
  refine fnT_rt0 rfl ?_ (lo_dR _ _ _) hc
  simp only [List.map_cons, List.map_nil, List.replicate, List.cons_append, List.nil_append, body_behind]
  simp only [x_sSeq, x_sExpr, x_evCall, x_evCons, x_evVar, x_evNil, R.bind, R.st, List.getElem?_cons_zero, List.getElem?_cons_succ, h1, h2, h3, x_sSet, x_evComp2]
  rw [show itSeq (evOp2 dIx (evVar 0) (evC (.int 1))) [some (dR m r), some (dR m a), none, none, none, none, none] M = .ok (r.map dP) M by simp [R.bind, dR, dPs]]
  simp only [R.bind]
  rw [h5, fitL_ok (by simp; omega)]
  simp [R.bind, R.st, dR, h4, behC]
/-! ### places apart -/
omit hc in
def encP (a : Ps) : List (Key × D) := a.map fun p => (.inl p.1, .int p.2)
omit hc in
theorem pairsOf_dP (a : Ps) : pairsOf (a.map dP) = some (encP a) := by
  induction a with
  | nil => rfl
  | cons p r ih => simp [pairsOf, dP, encP] at ih ⊢; simp [ih]
omit hc in
theorem kmerge_enc : ∀ (b l : Ps), ((l ++ b).map (·.1)).Nodup → kmerge (encP l) (encP b) = encP (l ++ b)
  | [], l, _ => by simp [kmerge, encP]
  | p :: b, l, h => by
    have hp : p.1 ∉ l.map (·.1) := fun q => by
      rw [List.map_append, List.nodup_append] at h
      exact h.2.2 _ q p.1 (by simp) rfl
    have e : kput (encP l) (.inl p.1) (.int p.2) = encP (l ++ [p]) := by
      unfold kput
      rw [if_neg ?_]
      · simp [encP]
      · intro q
        obtain ⟨x, hx, e⟩ := List.any_eq_true.mp q
        obtain ⟨y, hy, e2⟩ := List.mem_map.mp hx
        subst e2
        simp at e
        exact hp (e ▸ List.mem_map_of_mem hy)
    have ih := kmerge_enc b (l ++ [p]) (by simpa using h)
    have : kmerge (encP l) (encP (p :: b)) = kmerge (kput (encP l) (.inl p.1) (.int p.2)) (encP b) := rfl
    rw [this, e, ih]
    simp
omit hc in
theorem srt_nodup {a : Ps} (h : Srt a) : (a.map (·.1)).Nodup := List.pairwise_map.mpr (List.Pairwise.imp (fun {x y} (q : x.1 < y.1) => by omega) (show List.Pairwise (fun a b : Int × Int => a.1 < b.1) a from h))
omit hc in
theorem enc_keys {a : Ps} (h : Srt a) : encP a = (a.map (·.1)).map fun k => ((.inl k : Key), D.int (at_ a k)) := by
  unfold encP
  rw [List.map_map]
  refine List.map_congr_left fun p hp => ?_
  simp [srt_at h hp]
omit hc in
theorem kget_enc {a : Ps} (h : Srt a) (k : Int) : kget (encP a) (.inl k) = if k ∈ a.map (·.1) then some (.int (at_ a k)) else none := by
  rw [enc_keys h]; exact kget_keys k
def apL (a b : Ps) : List Int := ((a.map (·.1)).filter fun k => decide (at_ a k ≠ at_ b k)) ++ ((b.map (·.1)).filter fun k => decide (k ∉ a.map (·.1)))
def apart (a b : Ps) : List Int := sortI (apL a b)
omit hc in
theorem intsOf_map (l : List Int) : intsOf (l.map .int) = some l := by
  induction l with
  | nil => rfl
  | cons i r ih => simp [intsOf, ih]
omit hc in
theorem los_ints (n : Nat) (l : List Int) : D.los n (l.map .int) = true := by
  induction l with
  | nil => rfl
  | cons i r ih => simp [D.los, D.lo, ih]
theorem r_apart {m lo w : Int} {a b : Ps} (ha : Srt a) (hb : Srt b) (la : a.length ≤ 1000) (lb : b.length ≤ 1000) : run_places_apart [dR m a, dR m b] M = .ok (.lst ((apart a b).map .int)) M := by
  have ea : kmerge [] (encP a) = encP a := kmerge_enc a [] (by simpa using srt_nodup ha)
  have eb : kmerge [] (encP b) = encP b := kmerge_enc b [] (by simpa using srt_nodup hb)
  have h1 := compL_filter (tg := .nm 5) (c := evOp2 dNe (evOp2 dGetD (evVar 2) (evVar 5)) (evGet2 (evVar 3) (evVar 5) (evC (.int 0)))) (e := evVar 5) (vs := [5]) (ρ := [some (dR m a), some (dR m b), some (.ref M.length), some (.ref (M.length + 1)), none, none]) (M := M ++ [.fdct (encP a), .dct (encP b)]) (f := D.int) (g := D.int) (t := fun k => decide (at_ a k ≠ at_ b k)) (as := a.map (·.1)) (fun k hk => by
    refine ⟨_, by simp; rfl, ?_, fun _ => by simp⟩
    have h1 := (kget_enc ha k).trans (if_pos hk)
    have h2 := kget_enc hb k
    by_cases z : k ∈ b.map (·.1)
    · rw [if_pos z] at h2
      simp [R.bind, h1, h2]
    · rw [if_neg z] at h2
      simp [R.bind, h1, h2, at_no z])
  have h2 := compL_filter (tg := .nm 5) (c := evOp2 dNotInD (evVar 5) (evVar 2)) (e := evVar 5) (vs := [5]) (ρ := [some (dR m a), some (dR m b), some (.ref M.length), some (.ref (M.length + 1)), some (.lst (((a.map (·.1)).filter fun k => decide (at_ a k ≠ at_ b k)).map .int)), none]) (M := M ++ [.dct (encP a), .fdct (encP b)]) (f := D.int) (g := D.int) (t := fun k => decide (k ∉ a.map (·.1))) (as := b.map (·.1)) (fun k hk => by
    refine ⟨_, by simp; rfl, ?_, fun _ => by simp⟩
    have h1 := kget_enc ha k
    by_cases z : k ∈ a.map (·.1)
    · rw [if_pos z] at h1
      simp [R.bind, dNotInD, h1, z]
    · rw [if_neg z] at h1
      simp [R.bind, dNotInD, h1, z])
  have k1 : ∀ x : Ps, (encP x).map (fun kv => kD kv.1) = (x.map (·.1)).map D.int := fun x => by simp [encP, kD]
  have f1 : ((a.map (·.1)).filter fun k => decide (at_ a k ≠ at_ b k)).length ≤ 1000 := Nat.le_trans (List.length_filter_le _ _) (by simpa using la)
  have f2 : ((b.map (·.1)).filter fun k => decide (k ∉ a.map (·.1))).length ≤ 1000 := Nat.le_trans (List.length_filter_le _ _) (by simpa using lb)
  have d1 : ∀ (x : Ps) (ρ : Env) (M : Mem) (i : Nat), ρ[i]? = some (some (dR m x)) → kmerge [] (encP x) = encP x → evDict (evOp2 dIx (evVar i) (evC (.int 1))) ρ M = .ok (.ref M.length) (M ++ [.dct (encP x)]) := fun x ρ M i h e => by
    simp [R.bind, h, dR, dPs, pairsOf_dP, e]
  refine fnT_rt (X := [.dct (encP a), .dct (encP b)]) rfl ?_ (by simp [D.lo, los_ints]) hc
  simp only [List.map_cons, List.map_nil, List.replicate, List.cons_append, List.nil_append, body_places_apart]
  simp only [x_sSeq, x_sTg, x_evTup, x_evCons, R.bind, R.st]
  rw [d1 a _ M 0 rfl ea]
  simp only []
  rw [d1 b _ _ 1 rfl eb]
  simp only [x_evNil, x_putt, x_puts, x_putn, x_puts0, Option.bind, List.set_cons_succ, List.set_cons_zero, List.length_append, List.length_cons, List.length_nil, Nat.zero_add, x_sLock, List.getElem?_cons_succ, List.getElem?_cons_zero, List.append_assoc, List.cons_append, List.nil_append]
  simp only [lockAt, x_get_app0, List.getElem?_cons_zero, x_set_app0, List.set_cons_zero, x_sSet, x_evComp, x_itKeys, x_evVar, List.getElem?_cons_succ, R.bind, R.st, k1]
  rw [h1, fitL_ok (by simpa using Nat.le_trans f1 (by omega))]
  simp only [List.set_cons_succ, List.set_cons_zero, x_get_app0, List.getElem?_cons_zero, x_set_app0, x_sRet, x_evB, x_evCons, x_evOp2, x_evVar, List.getElem?_cons_succ, R.bind, R.st, x_evLock, lockAt, x_get_app, x_set_app, x_evComp, x_itKeys, k1]
  rw [h2, fitL_ok (by simpa using Nat.le_trans f2 (by omega))]
  simp only [x_get_app, x_set_app, List.getElem?_cons_succ, List.getElem?_cons_zero, List.set_cons_succ, List.set_cons_zero, x_addl]
  rw [if_pos (by simp only [List.length_map]; omega)]
  simp only [x_lift, x_evNil, ← List.map_append, bSorted, intsOf_map, Option.map_some, apart, apL]
end Nv
/-! RwE: what repr and == do with rows. -/
namespace Nv
open PySem PySem.PyData
/-- may be shown: at most n signs, k deep -/
structure Shows (d : D) (n k : Nat) : Prop where
  ex : ∃ p : PyData, d.toPy = some p ∧ p.showable = true ∧ p.hasDict = false ∧ p.depth ≤ k ∧ p.shown.length ≤ n ∧ p.canLay0 = true
theorem shows_bl (b : Bool) : Shows (.bl b) 101 0 := ⟨_, rfl, rfl, rfl, by simp [depth], by cases b <;> decide, rfl⟩
theorem shows_int {i : Int} (h : i.natAbs < 10 ^ 100) : Shows (.int i) 101 0 := by
  refine ⟨_, rfl, ?_, rfl, by simp [depth], ?_, rfl⟩
  · simp only [showable, decide_eq_true_eq]
    by_cases z : i.natAbs = 0
    · rw [z]; decide
    · rw [Nat.log2_lt z]
      exact Nat.lt_of_lt_of_le h (by decide +kernel)
  · have := int_text_length_le10 (k := 100) (by decide) h
    show (Str.ofString (toString i)).length ≤ 101
    rw [ofString_length]
    exact this
structure ShowsAll (ds : List D) (n k : Nat) : Prop where
  ex : ∃ ps : List PyData, D.toPys ds = some ps ∧ showableAll ps = true ∧ hasDictAll ps = false ∧ depthAll ps ≤ k ∧ ((shownAll ps).map (·.length)).sum ≤ n * ds.length ∧ canLayAll0 ps = true ∧ ps.length = ds.length
theorem shownAll_len (ps : List PyData) : (shownAll ps).length = ps.length := by
  induction ps with
  | nil => rfl
  | cons p r ih => simp [shownAll, ih]
theorem showsAll {ds : List D} {n k : Nat} (h : ∀ d ∈ ds, Shows d n k) : ShowsAll ds n k := by
  induction ds with
  | nil => exact ⟨[], rfl, rfl, rfl, by simp [depthAll], by simp [shownAll], rfl, rfl⟩
  | cons d r ih =>
    obtain ⟨p, a1, a2, a3, a4, a5, a6⟩ := (h d (by simp)).ex
    obtain ⟨ps, b1, b2, b3, b4, b5, b6, b7⟩ := (ih fun x hx => h x (by simp [hx])).ex
    refine ⟨p :: ps, by simp [D.toPys, a1, b1], by simp [showableAll, a2, b2], by simp [hasDictAll, a3, b3], by simp only [depthAll]; omega, ?_, by simp [canLayAll0, a6, b6], by simp [b7]⟩
    simp only [shownAll, List.map_cons, List.sum_cons, List.length_cons, Nat.mul_succ]
    omega
theorem shows_tup {ds : List D} {n k : Nat} (h : ∀ d ∈ ds, Shows d n k) : Shows (.tup ds) (n * ds.length + 2 * ds.length + 3) (k + 1) := by
  obtain ⟨ps, b1, b2, b3, b4, b5, b6, b7⟩ := (showsAll h).ex
  refine ⟨.tuple ps, by simp [D.toPy, b1], b2, b3, by simp only [depth]; omega, ?_, b6⟩
  have := tupleText_len_le (shownAll ps)
  rw [shownAll_len, b7] at this
  show (tupleText (shownAll ps)).length ≤ _
  omega
theorem shows_lst {ds : List D} {n k : Nat} (h : ∀ d ∈ ds, Shows d n k) : Shows (.lst ds) (n * ds.length + 2 * ds.length + 3) (k + 1) := by
  obtain ⟨ps, b1, b2, b3, b4, b5, b6, b7⟩ := (showsAll h).ex
  refine ⟨.list ps, by simp [D.toPy, b1], b2, b3, by simp only [depth]; omega, ?_, b6⟩
  have := listText_len_le (shownAll ps)
  rw [shownAll_len, b7] at this
  show (listText (shownAll ps)).length ≤ _
  omega
theorem Shows.mono {d : D} {n k n' k' : Nat} (h : Shows d n k) (h1 : n ≤ n') (h2 : k ≤ k') : Shows d n' k' := by
  obtain ⟨p, a1, a2, a3, a4, a5, a6⟩ := h.ex
  exact ⟨p, a1, a2, a3, by omega, by omega, a6⟩
/-- a row whose places are no greater than B -/
theorem shows_row {m : Int} {a : Ps} (hm : m.natAbs < 10 ^ 100) (h : ∀ p ∈ a, p.1.natAbs < 10 ^ 100 ∧ p.2.natAbs < 10 ^ 100) (hl : a.length ≤ 64) : Shows (dR m a) 200000 10 := by
  have h1 : ∀ d ∈ a.map dP, Shows d 1000 1 := fun d hd => by
    obtain ⟨p, hp, e⟩ := List.mem_map.mp hd
    subst e
    refine (shows_tup (n := 101) (k := 0) fun x hx => ?_).mono (by simp) (by decide)
    simp only [List.mem_cons, List.not_mem_nil, or_false] at hx
    rcases hx with e | e <;> subst e
    · exact shows_int (h p hp).1
    · exact shows_int (h p hp).2
  have h2 : Shows (dPs a) 65000 2 := (shows_tup h1).mono (by simp; omega) (by decide)
  refine (shows_tup (n := 65000) (k := 2) fun x hx => ?_).mono (by simp) (by decide)
  simp only [List.mem_cons, List.not_mem_nil, or_false] at hx
  rcases hx with e | e <;> subst e
  · exact (shows_int hm).mono (by decide) (by decide)
  · exact h2
theorem bRepr_ok {M : Mem} {d : D} {n k : Nat} (h : Shows d n k) (hn : n ≤ 16777216) (hk : k ≤ 64) (hd : (∃ ds, d = .tup ds) ∨ (∃ ds, d = .lst ds) ∨ ∃ i, d = .int i) : ∃ s, bRepr M [d] = some (.str s) := by
  obtain ⟨p, a1, a2, a3, a4, a5, a6⟩ := h.ex
  rcases hd with ⟨ds, rfl⟩ | ⟨ds, rfl⟩ | ⟨i, rfl⟩
  · exact ⟨p.shown, by simp only [bRepr, a1]; rw [if_pos ⟨a2, a3, by omega, by omega⟩]⟩
  · exact ⟨p.shown, by simp only [bRepr, a1]; rw [if_pos ⟨a2, a3, by omega, by omega⟩]⟩
  · have e : p = .int i := by cases a1; rfl
    subst e
    simp only [showable, decide_eq_true_eq] at a2
    exact ⟨_, by simp only [bRepr]; rw [if_pos a2]⟩
theorem dEq_self {M : Mem} {d : D} {n k : Nat} (h : Shows d n k) (hk : k ≤ 64) (hd : ∃ ds, d = .tup ds) : dEq M d d = some (.bl true) := by
  obtain ⟨p, a1, a2, a3, a4, a5, a6⟩ := h.ex
  obtain ⟨ds, rfl⟩ := hd
  have hs : SeqAt.shaped p = true := by unfold SeqAt.shaped; simp [a6]; omega
  have he : PyData.eqv p p = true := SeqAt.eqv_refl p a6
  simp [dEq, dEqB, a1, hs, he]
theorem r_same {M : Mem} (hc : closed M.length M = true) {d : D} {n k : Nat} (h : Shows d n k) (hn : n ≤ 16777216) (hk : k ≤ 64) (hd : (∃ ds, d = .tup ds) ∨ (∃ ds, d = .lst ds) ∨ ∃ i, d = .int i) : run_law_same [d, d] M = .ok (.bl true) M := by
  obtain ⟨s, hs⟩ := bRepr_ok (M := M) h hn hk hd
  exact fnT_rt0 rfl (by simp [body_law_same, R.bind, R.st, hs]) rfl hc
end Nv
set_option maxRecDepth 100000
/-! RwF: draws. -/
namespace Nv
def potC (p0 p1 p2 : Int) : MO := .lst [.int p0, .int p1, .int p2]
/-- a pot at l, b draws at most -/
structure Pot (M : Mem) (l : Nat) (b : Int) : Prop where
  ex : ∃ p0 p1 p2 : Int, M[l]? = some (potC p0 p1 p2) ∧ 0 ≤ p1 ∧ p1 < 10 ^ 30 ∧ 0 ≤ p2 ∧ p2 ≤ b
theorem pow_ok {M : Mem} {i j : Int} (hi : i.natAbs < 10 ^ 40) (h0 : 0 ≤ j) (h1 : j ≤ 100) : dPow M (.int i) (.int j) = some (.int (i ^ j.toNat)) := by
  rw [x_pow, if_pos ⟨h0, h1, Nat.lt_trans hi (by decide +kernel)⟩]
theorem mul_ok {M : Mem} {i j : Int} (hi : i.natAbs < 10 ^ 100) (hj : j.natAbs < 10 ^ 100) : dMul M (.int i) (.int j) = some (.int (i * j)) := by
  rw [x_mul, if_pos (.inr (.inr ⟨Nat.lt_trans hi (by decide +kernel), Nat.lt_trans hj (by decide +kernel)⟩))]
theorem div_ok {M : Mem} {i j : Int} (h : 0 < j) (hj : j < 10 ^ 100) : dFdiv M (.int i) (.int j) = some (.int (i / j)) := by
  rw [x_fdiv, if_pos ⟨h, Int.lt_trans hj (by decide +kernel)⟩]
theorem p18 (M : Mem) : dPow M (.int 10) (.int 18) = some (.int 1000000000000000000) := (pow_ok (by decide) (by decide) (by decide)).trans (by rfl)
theorem p20 (M : Mem) : dPow M (.int 10) (.int 20) = some (.int 100000000000000000000) := (pow_ok (by decide) (by decide) (by decide)).trans (by rfl)
theorem p27 (M : Mem) : dPow M (.int 10) (.int 27) = some (.int 1000000000000000000000000000) := (pow_ok (by decide) (by decide) (by decide)).trans (by rfl)
theorem p28 (M : Mem) : dPow M (.int 10) (.int 28) = some (.int 10000000000000000000000000000) := (pow_ok (by decide) (by decide) (by decide)).trans (by rfl)
theorem p29 (M : Mem) : dPow M (.int 10) (.int 29) = some (.int 100000000000000000000000000000) := (pow_ok (by decide) (by decide) (by decide)).trans (by rfl)
theorem p31 (M : Mem) : dPow M (.int 10) (.int 31) = some (.int 10000000000000000000000000000000) := (pow_ok (by decide) (by decide) (by decide)).trans (by rfl)
theorem lo_mono' {n n' : Nat} (h : n ≤ n') : (∀ d : D, d.lo n = true → d.lo n' = true) ∧ (∀ ds : List D, D.los n ds = true → D.los n' ds = true) := by
  constructor
  · exact D.rec (motive_1 := fun d => d.lo n = true → d.lo n' = true) (motive_2 := fun ds => D.los n ds = true → D.los n' ds = true) (fun _ => rfl) (fun _ _ => rfl) (fun _ _ => rfl) (fun _ _ => rfl) (fun ds ih q => ih q) (fun ds ih q => ih q) (fun ds ih q => ih q) (fun ds ih q => ih q) (fun l q => by simp only [D.lo, decide_eq_true_eq] at q ⊢; omega) (fun _ => rfl) (fun d r i1 i2 q => by simp only [D.los, Bool.and_eq_true] at q ⊢; exact ⟨i1 q.1, i2 q.2⟩)
  · exact D.rec_1 (motive_1 := fun d => d.lo n = true → d.lo n' = true) (motive_2 := fun ds => D.los n ds = true → D.los n' ds = true) (fun _ => rfl) (fun _ _ => rfl) (fun _ _ => rfl) (fun _ _ => rfl) (fun ds ih q => ih q) (fun ds ih q => ih q) (fun ds ih q => ih q) (fun ds ih q => ih q) (fun l q => by simp only [D.lo, decide_eq_true_eq] at q ⊢; omega) (fun _ => rfl) (fun d r i1 i2 q => by simp only [D.los, Bool.and_eq_true] at q ⊢; exact ⟨i1 q.1, i2 q.2⟩)
theorem mo_mono {n n' : Nat} (h : n ≤ n') {o : MO} (q : o.lo n = true) : o.lo n' = true := by
  cases o with
  | lst ds => exact (lo_mono' h).2 ds q
  | dct kvs => exact List.all_eq_true.mpr fun x hx => (lo_mono' h).1 _ (List.all_eq_true.mp q x hx)
  | fdct kvs => exact List.all_eq_true.mpr fun x hx => (lo_mono' h).1 _ (List.all_eq_true.mp q x hx)
  | ins c ds => exact (lo_mono' h).2 ds q
theorem closed_mono {n n' : Nat} (h : n ≤ n') {M : Mem} (q : closed n M = true) : closed n' M = true := List.all_eq_true.mpr fun x hx => mo_mono h (List.all_eq_true.mp q x hx)
theorem closed_app {n : Nat} {M X : Mem} : closed n (M ++ X) = true ↔ closed n M = true ∧ closed n X = true := by simp [closed]
theorem closed_set {n l : Nat} {M : Mem} {o : MO} (q : closed n M = true) (ho : o.lo n = true) : closed n (M.set l o) = true := List.all_eq_true.mpr fun x hx => by
  rcases List.mem_or_eq_of_mem_set hx with e | e
  · exact List.all_eq_true.mp q x e
  · rw [e]; exact ho
theorem potC_lo (n : Nat) (a b c : Int) : (potC a b c).lo n = true := rfl
/-- a def that changed what was there -/
theorem fnT_rtS {np nl : Nat} {body : FS} {ds : List D} {M M1 X : Mem} {d : D} (hl : ds.length = np) (hb : body (ds.map some ++ List.replicate nl none) M = .ok (.rt d) (M1 ++ X)) (hn : M1.length = M.length) (hd : d.lo M.length = true) (hc : closed M.length M1 = true) : fnT np nl body ds M = .ok d M1 := by
  unfold fnT
  rw [if_pos hl, hb]
  show tidyR M.length d (M1 ++ X) = _
  unfold tidyR
  rw [freeze_lo hd]
  have e : (M1 ++ X).take M.length = M1 := by rw [← hn]; simp
  simp only [e]
  rw [if_pos hc]
theorem r_draw0 {M : Mem} (hc : closed M.length M = true) {l : Nat} {b k : Int} (hp : Pot M l b) (hb : b ≤ 1000000) (hk : 0 < k) (hk2 : k < 10 ^ 40) :
    ∃ r c, run_law_draw [.ref l, .int k] M = .ok (.int r) (M.set l c) ∧ 0 ≤ r ∧ r < k ∧ Pot (M.set l c) l (b + 1) ∧ closed M.length (M.set l c) = true := by
  obtain ⟨p0, p1, p2, hl, h1, h2, h3, h4⟩ := hp.ex
  have hll : l < M.length := (List.getElem?_eq_some_iff.mp hl).1
  have hg : ∀ c, (M.set l c)[l]? = some c := fun c => by rw [List.getElem?_set_self hll]
  by_cases hz : 1 < p0
  · refine ⟨p0 % k, potC (p0 / k) p1 p2, fnT_rtS (X := []) rfl ?_ (by simp) rfl (closed_set hc (potC_lo _ _ _ _)), Int.emod_nonneg _ (by omega), Int.emod_lt_of_pos _ hk, ⟨_, _, _, hg _, h1, h2, h3, by omega⟩, closed_set hc (potC_lo _ _ _ _)⟩
    simp [body_law_draw, R.bind, R.st, hl, potC, hz, hk, div_ok hk (Int.lt_trans hk2 (by decide)), -x_fdiv]
  · generalize hmx : (((p1 * (p2 + 1 + 19) + (p2 + 1) ^ 5) % 100000000000000000000000000319) ^ 3 + p1) % 10000000000000000000000000000033 = mx
    refine ⟨(mx / 5003) % k, potC p0 p1 (p2 + 1), fnT_rtS (X := []) rfl ?_ (by simp) rfl (closed_set hc (potC_lo _ _ _ _)), Int.emod_nonneg _ (by omega), Int.emod_lt_of_pos _ hk, ⟨_, _, _, hg _, h1, h2, by omega, by omega⟩, closed_set hc (potC_lo _ _ _ _)⟩
    have b1 : p1.natAbs < 10 ^ 100 := by omega
    have b2 : (p2 + 1 + 19).natAbs < 10 ^ 100 := by omega
    have b3 : (p2 + 1).natAbs < 10 ^ 40 := by omega
    generalize hq : (p1 * (p2 + 1 + 19) + (p2 + 1) ^ 5) % 100000000000000000000000000319 = q at hmx
    have b4 : q.natAbs < 10 ^ 40 := by omega
    simp [body_law_draw, R.bind, R.st, hl, potC, hz, hk, hg, mul_ok b1 b2, pow_ok b3 (show (0 : Int) ≤ 5 by decide) (by decide), p29, p31, -x_fdiv, -x_pow, -x_mul, hq, pow_ok b4 (show (0 : Int) ≤ 3 by decide) (by decide), hmx, div_ok (show (0 : Int) < 5003 by decide) (by decide)]
/-- from M on, only the cell at l has changed: b draws at most -/
structure St (l : Nat) (M M' : Mem) (b : Int) : Prop where
  chg : ∃ c, M' = M.set l c
  pot : Pot M' l b
  cl : closed M.length M' = true
theorem St.len {l : Nat} {M M' : Mem} {b : Int} (s : St l M M' b) : M'.length = M.length := by obtain ⟨c, rfl⟩ := s.chg; simp
theorem St.cl' {l : Nat} {M M' : Mem} {b : Int} (s : St l M M' b) : closed M'.length M' = true := by rw [s.len]; exact s.cl
theorem St.refl {l : Nat} {M : Mem} {b : Int} (hp : Pot M l b) (hc : closed M.length M = true) : St l M M b := by
  obtain ⟨p0, p1, p2, hl, _⟩ := hp.ex
  obtain ⟨h1, h2⟩ := List.getElem?_eq_some_iff.mp hl
  exact ⟨⟨M[l], by simp⟩, hp, hc⟩
theorem St.trans {l : Nat} {M M' M'' : Mem} {b b' : Int} (s : St l M M' b) (s' : St l M' M'' b') : St l M M'' b' := by
  refine ⟨?_, s'.pot, by rw [← s.len]; exact s'.cl⟩
  obtain ⟨c, rfl⟩ := s.chg
  obtain ⟨c', rfl⟩ := s'.chg
  exact ⟨c', by simp⟩
theorem St.mono {l : Nat} {M M' : Mem} {b b' : Int} (s : St l M M' b) (h : b ≤ b') : St l M M' b' := ⟨s.chg, by obtain ⟨p0, p1, p2, h1, h2, h3, h4, h5⟩ := s.pot.ex; exact ⟨p0, p1, p2, h1, h2, h3, h4, by omega⟩, s.cl⟩
theorem r_draw {M : Mem} {l : Nat} {b k : Int} (hc : closed M.length M = true) (hp : Pot M l b) (hb : b ≤ 1000000) (hk : 0 < k) (hk2 : k < 10 ^ 40) :
    ∃ r M', run_law_draw [.ref l, .int k] M = .ok (.int r) M' ∧ 0 ≤ r ∧ r < k ∧ St l M M' (b + 1) := by
  obtain ⟨r, c, e, h1, h2, h3, h4⟩ := r_draw0 hc hp hb hk hk2
  exact ⟨r, _, e, h1, h2, ⟨⟨c, rfl⟩, h3, h4⟩⟩
theorem Pot.lt {M : Mem} {l : Nat} {b : Int} (hp : Pot M l b) : l < M.length := by
  obtain ⟨p0, p1, p2, hl, _⟩ := hp.ex
  exact (List.getElem?_eq_some_iff.mp hl).1
theorem Pot.app {M X : Mem} {l : Nat} {b : Int} (hp : Pot M l b) : Pot (M ++ X) l b := by
  have hlt := hp.lt
  obtain ⟨p0, p1, p2, hl, h⟩ := hp.ex
  exact ⟨p0, p1, p2, by rw [List.getElem?_append_left hlt]; exact hl, h⟩
/-- .. with more behind it -/
theorem r_drawX {M X : Mem} {l : Nat} {b k : Int} (hc : closed M.length M = true) (hx : closed (M.length + X.length) X = true) (hp : Pot M l b) (hb : b ≤ 1000000) (hk : 0 < k) (hk2 : k < 10 ^ 40) :
    ∃ r M', run_law_draw [.ref l, .int k] (M ++ X) = .ok (.int r) (M' ++ X) ∧ 0 ≤ r ∧ r < k ∧ St l M M' (b + 1) := by
  obtain ⟨r, c, e, h1, h2, h3, h4⟩ := r_draw0 (M := M ++ X) (by rw [List.length_append]; exact closed_app.mpr ⟨closed_mono (by omega) hc, hx⟩) hp.app hb hk hk2
  have hlt := hp.lt
  have es : (M ++ X).set l c = M.set l c ++ X := List.set_append_left _ _ hlt
  rw [es] at e h3 h4
  obtain ⟨q0, q1, q2, g1, g⟩ := h3.ex
  rw [List.getElem?_append_left (by simpa using hlt)] at g1
  have hcc : c = potC q0 q1 q2 := by
    rw [List.getElem?_set_self hlt] at g1
    exact Option.some.inj g1
  exact ⟨r, _, e, h1, h2, ⟨⟨c, rfl⟩, ⟨q0, q1, q2, g1, g⟩, closed_set hc (by rw [hcc]; rfl)⟩⟩
theorem r_modulus {M : Mem} {l : Nat} {b : Int} (hc : closed M.length M = true) (hp : Pot M l b) (hb : b ≤ 1000000) : ∃ m M', run_law_modulus [.ref l] M = .ok (.int m) M' ∧ Modu m ∧ St l M M' (b + 1) := by
  obtain ⟨r, M', e, h1, h2, s⟩ := r_draw (k := 10) hc hp hb (by decide) (by decide)
  obtain ⟨n, rfl⟩ := Int.eq_ofNat_of_zero_le h1
  have hn : n < 10 := by omega
  have hx : [D.int 2, .int 3, .int 5, .int 6, .int 7, .int 10, .int 11, .int 13, .int 14, .int 15] = ([2, 3, 5, 6, 7, 10, 11, 13, 14, 15] : List Int).map D.int := rfl
  refine ⟨([2, 3, 5, 6, 7, 10, 11, 13, 14, 15] : List Int).getD n 0, M', fnT_rtS (X := []) rfl ?_ s.len rfl s.cl, ?_, s⟩
  · have : (([2, 3, 5, 6, 7, 10, 11, 13, 14, 15] : List Int).map D.int)[n]? = some (.int (([2, 3, 5, 6, 7, 10, 11, 13, 14, 15] : List Int).getD n 0)) := by
      rw [List.getElem?_map, List.getD_eq_getElem?_getD, List.getElem?_eq_getElem (by simpa using hn)]
      rfl
    simp only [body_law_modulus, x_sRet, x_evOp2, x_evLst, x_evCons, x_evC, x_evNil, x_evCall, x_evVar, R.bind, R.st, List.map_cons, List.map_nil, List.replicate, List.append_nil, List.getElem?_cons_zero, e, x_ixl, x_atc]
    rw [hx, this]
    simp
  · have := List.getElem_mem (l := ([2, 3, 5, 6, 7, 10, 11, 13, 14, 15] : List Int)) (n := n) (by simpa using hn)
    rw [List.getD_eq_getElem?_getD, List.getElem?_eq_getElem (by simpa using hn)]
    exact this
theorem r_great {M : Mem} {l : Nat} {b : Int} (hc : closed M.length M = true) (hp : Pot M l b) (hb : b ≤ 900000) : ∃ g M', run_law_great [.ref l] M = .ok (.int g) M' ∧ g.natAbs < 10 ^ 60 ∧ St l M M' (b + 4) := by
  obtain ⟨r1, M1, e1, h1, g1, s1⟩ := r_draw (k := 1000000000000000000) hc hp (by omega) (by decide) (by decide)
  obtain ⟨r2, M2, e2, h2, g2, s2⟩ := r_draw (k := 100000000000000000000) s1.cl' s1.pot (by omega) (by decide) (by decide)
  obtain ⟨r3, M3, e3, h3, g3, s3⟩ := r_draw (k := 100000000000000000000) s2.cl' s2.pot (by omega) (by decide) (by decide)
  obtain ⟨r4, M4, e4, h4, g4, s4⟩ := r_draw (k := 2) s3.cl' s3.pot (by omega) (by decide) (by decide)
  have s := ((s1.trans s2).trans s3).trans s4
  have b1 : r1.natAbs < 10 ^ 100 := by omega
  have b2 : (100000000000000000000 : Int).natAbs < 10 ^ 100 := by decide
  have b3 : (r1 * 100000000000000000000 + r2).natAbs < 10 ^ 100 := by omega
  have m1 := mul_ok (M := M1) b1 b2
  have m2 := mul_ok (M := M2) b3 b2
  obtain ⟨g, hg, hgb⟩ : ∃ g : Int, atD [.int ((r1 * 100000000000000000000 + r2) * 100000000000000000000 + r3), .int (0 - ((r1 * 100000000000000000000 + r2) * 100000000000000000000 + r3))] r4 = some (.int g) ∧ g.natAbs < 10 ^ 60 := by
    rcases (show r4 = 0 ∨ r4 = 1 by omega) with e | e <;> subst e
    · exact ⟨(r1 * 100000000000000000000 + r2) * 100000000000000000000 + r3, rfl, by omega⟩
    · exact ⟨0 - ((r1 * 100000000000000000000 + r2) * 100000000000000000000 + r3), rfl, by omega⟩
  refine ⟨g, M4, fnT_rtS (X := []) rfl ?_ s.len rfl s.cl, hgb, s.mono (by omega)⟩
  simp [body_law_great, R.bind, R.st, p18, p20, -x_pow, -x_mul, e1, e2, m1, m2, e3, e4] at hg ⊢
  simp [hg]
theorem r_base {M : Mem} {l : Nat} {b : Int} (hc : closed M.length M = true) (hp : Pot M l b) (hb : b ≤ 800000) : ∃ g M', run_law_base [.ref l] M = .ok (.int g) M' ∧ g.natAbs < 10 ^ 60 ∧ St l M M' (b + 5) := by
  obtain ⟨r1, M1, e1, h1, g1, s1⟩ := r_draw (k := 3) hc hp (by omega) (by decide) (by decide)
  by_cases z : r1 < 2
  · obtain ⟨r2, M2, e2, h2, g2, s2⟩ := r_draw (k := 100) s1.cl' s1.pot (by omega) (by decide) (by decide)
    have s := s1.trans s2
    have m1 := mul_ok (M := M2) (i := r1) (j := r2 - 50) (by omega) (by omega)
    refine ⟨r1 * (r2 - 50), M2, fnT_rtS (X := []) rfl ?_ s.len rfl s.cl, ?_, s.mono (by omega)⟩
    · simp [body_law_base, R.bind, R.st, e1, z, e2, m1, -x_mul]
    · rcases (show r1 = 0 ∨ r1 = 1 by omega) with e | e <;> subst e <;> omega
  · obtain ⟨g, M2, e2, h2, s2⟩ := r_great s1.cl' s1.pot (by omega)
    have s := s1.trans s2
    refine ⟨g, M2, fnT_rtS (X := []) rfl ?_ s.len rfl s.cl, h2, s.mono (by omega)⟩
    simp [body_law_base, R.bind, R.st, e1, z, e2]
/-! ### terms, short rows -/
def kf (ks : List Int) (f : Int → Int) : List (Key × D) := ks.map fun j => (.inl j, .int (f j))
structure KV (m lo w : Int) (ks : List Int) (f : Int → Int) : Prop where
  nd : ks.Nodup
  b : ∀ k ∈ ks, lo ≤ k ∧ k < lo + w
  v : ∀ k ∈ ks, 1 ≤ f k ∧ f k < m
theorem KV.put {m lo w : Int} {ks : List Int} {f : Int → Int} (h : KV m lo w ks f) {k v : Int} (hk : lo ≤ k ∧ k < lo + w) (hv : 1 ≤ v ∧ v < m) : ∃ ks' f', kput (kf ks f) (.inl k) (.int v) = kf ks' f' ∧ KV m lo w ks' f' ∧ ks'.length ≤ ks.length + 1 := by
  refine ⟨if k ∈ ks then ks else ks ++ [k], fun j => if j = k then v else f j, ?_, ?_, ?_⟩
  · unfold kf
    rw [kput_keys]
    refine List.map_congr_left fun j _ => ?_
    congr 1
    show (if j = k then D.int v else D.int (f j)) = D.int (if j = k then v else f j)
    split <;> rfl
  · by_cases z : k ∈ ks
    · rw [if_pos z]
      refine ⟨h.nd, h.b, fun j hj => ?_⟩
      split
      · exact hv
      · exact h.v j hj
    · rw [if_neg z]
      refine ⟨?_, fun j hj => ?_, fun j hj => ?_⟩
      · rw [List.nodup_append]
        refine ⟨h.nd, by simp, fun x hx y hy => ?_⟩
        rw [List.mem_singleton] at hy
        intro e
        rw [e, hy] at hx
        exact z hx
      · rcases List.mem_append.mp hj with e | e
        · exact h.b j e
        · rw [List.mem_singleton.mp e]; exact hk
      · split
        · exact hv
        · rename_i hne
          rcases List.mem_append.mp hj with e | e
          · exact h.v j e
          · exact absurd (List.mem_singleton.mp e) hne
  · split <;> simp
theorem loop_kv {body : FS} {t : Nat} {ρ : Env} {l n0 : Nat} {m lo w : Int} (hρ : ρ.set t none = ρ)
    (hbody : ∀ (M : Mem) (b : Int) (kvs : List (Key × D)) (x : D), M.length = n0 → closed M.length M = true → (∀ n, MO.lo n (.dct kvs) = true) → Pot M l b → b ≤ 900000 → kvs.length < 1000 → ∃ M' k v, body (ρ.set t (some x)) (M ++ [.dct kvs]) = .ok (.nx (ρ.set t (some x))) (M' ++ [.dct (kput kvs (.inl k) (.int v))]) ∧ (lo ≤ k ∧ k < lo + w) ∧ (1 ≤ v ∧ v < m) ∧ St l M M' (b + 2)) :
    ∀ (xs : List D) (M : Mem) (b : Int) (ks : List Int) (f : Int → Int), M.length = n0 → closed M.length M = true → Pot M l b → b + 2 * xs.length ≤ 900000 → ks.length + xs.length < 1000 → KV m lo w ks f →
      ∃ M' ks' f', forL (.nm t) body [t] xs ρ (M ++ [.dct (kf ks f)]) = .ok (.nx ρ) (M' ++ [.dct (kf ks' f')]) ∧ KV m lo w ks' f' ∧ St l M M' (b + 2 * xs.length)
  | [], M, b, ks, f, _, hc, hp, _, _, h => ⟨M, ks, f, by simp [hρ], h, by simpa using St.refl hp hc⟩
  | x :: xs, M, b, ks, f, hn, hc, hp, hb, hl, h => by
    simp only [List.length_cons] at hb hl
    obtain ⟨M1, k, v, e, hk, hv, s⟩ := hbody M b (kf ks f) x hn hc (fun n => by simp [MO.lo, kf, D.lo]) hp (by omega) (by simp [kf]; omega)
    obtain ⟨ks1, f1, e1, h1, l1⟩ := h.put hk hv
    obtain ⟨M2, ks2, f2, e2, h2, s2⟩ := loop_kv hρ hbody xs M1 (b + 2) ks1 f1 (s.len.trans hn) s.cl' s.pot (by omega) (by omega) h1
    refine ⟨M2, ks2, f2, ?_, h2, (s.trans s2).mono (by simp only [List.length_cons]; omega)⟩
    unfold forL
    have hk1 : kill [t] ρ = ρ := hρ
    simp only [hk1, x_putn]
    rw [e, e1]
    have hset : forL (.nm t) body [t] xs (ρ.set t (some x)) (M1 ++ [.dct (kf ks1 f1)]) = forL (.nm t) body [t] xs ρ (M1 ++ [.dct (kf ks1 f1)]) := by
      cases xs with
      | nil => simp [hρ]
      | cons y ys =>
        unfold forL
        simp [hρ]
    simp only [R.bind]
    rw [hset, e2]
def rowOf (ks : List Int) (f : Int → Int) : Ps := (sortI ks).map fun k => (k, f k)
theorem rowOf_row {m lo w : Int} {ks : List Int} {f : Int → Int} (h : KV m lo w ks f) : Row m lo w (rowOf ks f) := by
  have hp := sortI_perm ks
  refine ⟨?_, fun p hp' => ?_, fun p hp' => ?_⟩
  · unfold Srt rowOf
    rw [List.pairwise_map]
    exact sortI_strict h.nd
  · obtain ⟨k, hk, e⟩ := List.mem_map.mp hp'
    subst e
    exact h.v k (hp.mem_iff.mp hk)
  · obtain ⟨k, hk, e⟩ := List.mem_map.mp hp'
    subst e
    exact h.b k (hp.mem_iff.mp hk)
theorem kf_len {m lo w : Int} {ks : List Int} {f : Int → Int} (h : KV m lo w ks f) (hw : 0 ≤ w) : (ks.length : Int) ≤ w := by
  have := (rowOf_row h).len hw
  unfold rowOf at this
  rw [List.length_map, (sortI_perm ks).length_eq] at this
  exact this
theorem sorted_kf {M : Mem} {ks : List Int} {f : Int → Int} (hl : ks.length < 64) : bSorted (M ++ [.dct (kf ks f)]) [.ref M.length] = some (.lst ((sortI ks).map .int)) := by
  have h3 : keyInts (kf ks f) = some ks := keyInts_kvs _ _
  unfold bSorted
  simp [h3, hl]
theorem rangeI_len (n : Int) : (rangeI 0 n).length = n.toNat := by simp [rangeI]
theorem closed1 {n : Nat} {kvs : List (Key × D)} (h : ∀ n, MO.lo n (.dct kvs) = true) : closed n [.dct kvs] = true := by
  simp only [closed, List.all_cons, List.all_nil, Bool.and_true]
  exact h n
theorem kf_lo (n : Nat) (ks : List Int) (f : Int → Int) : MO.lo n (.dct (kf ks f)) = true := by simp [MO.lo, kf, D.lo]
theorem kget_kf {ks : List Int} {f : Int → Int} {k : Int} (h : k ∈ ks) : kget (kf ks f) (.inl k) = some (.int (f k)) := (kget_keys (f := fun j => .int (f j)) k).trans (if_pos h)
theorem r_terms {M : Mem} {l : Nat} {b m : Int} (hc : closed M.length M = true) (hp : Pot M l b) (hb : b ≤ 800000) (hm : Modu m) :
    ∃ r M', run_law_terms [.ref l, .int m, .int 2] M = .ok (dPs r) M' ∧ Row m (-4) 9 r ∧ St l M M' (b + 5) := by
  have hm2 := hm.two
  obtain ⟨r1, M1, e1, h1, g1, s1⟩ := r_drawX (X := [.dct []]) (k := 3) hc (by rfl) hp (by omega) (by decide) (by decide)
  have hn : ((rangeI 0 r1).length : Int) ≤ 2 := by rw [rangeI_len]; omega
  have hbody : ∀ (M' : Mem) (b' : Int) (kvs : List (Key × D)) (x : D), M'.length = M.length → closed M'.length M' = true → (∀ n, MO.lo n (.dct kvs) = true) → Pot M' l b' → b' ≤ 900000 → kvs.length < 1000 → ∃ M2 k v, (sSetIx setKey (evVar 3) (evOp2 dSub (evCall run_law_draw (evCons (evVar 0) (evCons (evC (.int 9)) evNil))) (evC (.int 4))) (evOp2 dAdd (evC (.int 1)) (evCall run_law_draw (evCons (evVar 0) (evCons (evOp2 dSub (evVar 1) (evC (.int 1))) evNil))))) (List.set [some (.ref l), some (.int m), some (.int 2), some (.ref M.length), none, none] 4 (some x)) (M' ++ [.dct kvs]) = .ok (.nx (List.set [some (.ref l), some (.int m), some (.int 2), some (.ref M.length), none, none] 4 (some x))) (M2 ++ [.dct (kput kvs (.inl k) (.int v))]) ∧ (-4 ≤ k ∧ k < -4 + 9) ∧ (1 ≤ v ∧ v < m) ∧ St l M' M2 (b' + 2) := fun M' b' kvs x hlen hc' hkl hp' hb' hl' => by
    obtain ⟨v, M3, e3, h3, g3, s3⟩ := r_drawX (X := [.dct kvs]) (k := m - 1) hc' (closed1 hkl) hp' (by omega) (by omega) (by omega)
    obtain ⟨k, M4, e4, h4, g4, s4⟩ := r_drawX (X := [.dct kvs]) (k := 9) s3.cl' (closed1 hkl) s3.pot (by omega) (by decide) (by decide)
    have s := s3.trans s4
    refine ⟨M4, k - 4, 1 + v, ?_, by omega, by omega, s.mono (by omega)⟩
    have hML : M.length = M4.length := by rw [s.len, hlen]
    simp [R.bind, R.st, e3, e4]
    simp [hML, show kvs.length < 16777216 by omega]
  obtain ⟨M2, ks, f, e2, h2, s2⟩ := loop_kv (n0 := M.length) (l := l) (m := m) (lo := -4) (w := 9) (t := 4) (ρ := [some (.ref l), some (.int m), some (.int 2), some (.ref M.length), none, none]) rfl hbody (rangeI 0 r1) M1 (b + 1) [] (fun _ => 0) s1.len s1.cl' s1.pot (by omega) (by simp; omega) ⟨by simp, by simp, by simp⟩
  have s := s1.trans s2
  have hk := kf_len h2 (by decide)
  have hML : M.length = M2.length := s.len.symm
  refine ⟨rowOf ks f, M2, fnT_rtS (X := [.dct (kf ks f)]) rfl ?_ s.len (lo_dPs _ _) s.cl, rowOf_row h2, s.mono (by omega)⟩
  have hs := sorted_kf (M := M2) (ks := ks) (f := f) (by omega)
  have h5 := compL_map (tg := .nm 5) (c := evTrue) (e := evTup (evCons (evVar 5) (evCons (evOp2 dGetD (evVar 3) (evVar 5)) evNil))) (vs := [5]) (ρ := [some (.ref l), some (.int m), some (.int 2), some (.ref M.length), none, none]) (M := M2 ++ [.dct (kf ks f)]) (f := D.int) (g := fun k => dP (k, f k)) (as := sortI ks) (fun k hk => by
    refine ⟨_, by simp; rfl, by simp, ?_⟩
    have := kget_kf (f := f) ((sortI_perm ks).mem_iff.mp hk)
    simp [R.bind, hML, this, dP])
  simp only [List.map_cons, List.map_nil, List.replicate, List.cons_append, List.nil_append, body_law_terms]
  simp only [x_sSeq, x_sSet, x_evDct0, x_sFor, x_itR1, x_evCall, x_evCons, x_evVar, x_evOp2, x_evC, x_evNil, R.bind, R.st, List.set_cons_succ, List.set_cons_zero, List.getElem?_cons_succ, List.getElem?_cons_zero, x_addi, x_lift]
  rw [show ((2 : Int) + 1) = 3 from rfl, e1]
  simp only [show smallI r1 = true by unfold smallI; simp; omega, if_true]
  rw [show kf [] (fun _ => 0) = [] from rfl] at e2
  rw [e2]
  simp only [R.bind, R.st, x_sRet, x_evB, x_evCons, x_evComp, x_itSeq, x_evNil, x_evVar, List.getElem?_cons_succ, List.getElem?_cons_zero]
  rw [hML, hs]
  simp only [x_lift, x_items_l]
  rw [← hML, h5, fitL_ok (by rw [List.length_map, (sortI_perm ks).length_eq]; omega)]
  simp only [x_tuple, x_lift, dPs, rowOf, List.map_map]
  rfl
theorem r_short {M : Mem} {l : Nat} {b m g : Int} (hc : closed M.length M = true) (hp : Pot M l b) (hb : b ≤ 800000) (hm : Modu m) :
    ∃ r M', run_law_short_row [.ref l, .int m, .int g, .int 5] M = .ok (dR m r) M' ∧ Row m g 7 r ∧ St l M M' (b + 11) := by
  have hm2 := hm.two
  obtain ⟨r1, M1, e1, h1, g1, s1⟩ := r_drawX (X := [.dct []]) (k := 6) hc (by rfl) hp (by omega) (by decide) (by decide)
  have hn : ((rangeI 0 r1).length : Int) ≤ 5 := by rw [rangeI_len]; omega
  have hbody : ∀ (M' : Mem) (b' : Int) (kvs : List (Key × D)) (x : D), M'.length = M.length → closed M'.length M' = true → (∀ n, MO.lo n (.dct kvs) = true) → Pot M' l b' → b' ≤ 900000 → kvs.length < 1000 → ∃ M2 k v, (sSetIx setKey (evVar 4) (evOp2 dAdd (evVar 2) (evCall run_law_draw (evCons (evVar 0) (evCons (evC (.int 7)) evNil)))) (evOp2 dAdd (evC (.int 1)) (evCall run_law_draw (evCons (evVar 0) (evCons (evOp2 dSub (evVar 1) (evC (.int 1))) evNil))))) (List.set [some (.ref l), some (.int m), some (.int g), some (.int 5), some (.ref M.length), none, none] 5 (some x)) (M' ++ [.dct kvs]) = .ok (.nx (List.set [some (.ref l), some (.int m), some (.int g), some (.int 5), some (.ref M.length), none, none] 5 (some x))) (M2 ++ [.dct (kput kvs (.inl k) (.int v))]) ∧ (g ≤ k ∧ k < g + 7) ∧ (1 ≤ v ∧ v < m) ∧ St l M' M2 (b' + 2) := fun M' b' kvs x hlen hc' hkl hp' hb' hl' => by
    obtain ⟨v, M3, e3, h3, g3, s3⟩ := r_drawX (X := [.dct kvs]) (k := m - 1) hc' (closed1 hkl) hp' (by omega) (by omega) (by omega)
    obtain ⟨k, M4, e4, h4, g4, s4⟩ := r_drawX (X := [.dct kvs]) (k := 7) s3.cl' (closed1 hkl) s3.pot (by omega) (by decide) (by decide)
    have s := s3.trans s4
    refine ⟨M4, g + k, 1 + v, ?_, by omega, by omega, s.mono (by omega)⟩
    have hML : M.length = M4.length := by rw [s.len, hlen]
    simp [R.bind, R.st, e3, e4]
    simp [hML, show kvs.length < 16777216 by omega]
  obtain ⟨M2, ks, f, e2, h2, s2⟩ := loop_kv (n0 := M.length) (l := l) (m := m) (lo := g) (w := 7) (t := 5) (ρ := [some (.ref l), some (.int m), some (.int g), some (.int 5), some (.ref M.length), none, none]) rfl hbody (rangeI 0 r1) M1 (b + 1) [] (fun _ => 0) s1.len s1.cl' s1.pot (by omega) (by simp; omega) ⟨by simp, by simp, by simp⟩
  have s := s1.trans s2
  have hk := kf_len h2 (by decide)
  have hML : M.length = M2.length := s.len.symm
  refine ⟨rowOf ks f, M2, fnT_rtS (X := [.dct (kf ks f)]) rfl ?_ s.len (lo_dR _ _ _) s.cl, rowOf_row h2, s.mono (by omega)⟩
  have hs := sorted_kf (M := M2) (ks := ks) (f := f) (by omega)
  have h5 := compL_map (tg := .nm 6) (c := evTrue) (e := evTup (evCons (evVar 6) (evCons (evOp2 dGetD (evVar 4) (evVar 6)) evNil))) (vs := [6]) (ρ := [some (.ref l), some (.int m), some (.int g), some (.int 5), some (.ref M.length), none, none]) (M := M2 ++ [.dct (kf ks f)]) (f := D.int) (g := fun k => dP (k, f k)) (as := sortI ks) (fun k hk => by
    refine ⟨_, by simp; rfl, by simp, ?_⟩
    have := kget_kf (f := f) ((sortI_perm ks).mem_iff.mp hk)
    simp [R.bind, hML, this, dP])
  simp only [List.map_cons, List.map_nil, List.replicate, List.cons_append, List.nil_append, body_law_short_row]
  simp only [x_sSeq, x_sSet, x_evDct0, x_sFor, x_itR1, x_evCall, x_evCons, x_evVar, x_evOp2, x_evC, x_evNil, R.bind, R.st, List.set_cons_succ, List.set_cons_zero, List.getElem?_cons_succ, List.getElem?_cons_zero, x_addi, x_lift]
  rw [show ((5 : Int) + 1) = 6 from rfl, e1]
  simp only [show smallI r1 = true by unfold smallI; simp; omega, if_true]
  rw [show kf [] (fun _ => 0) = [] from rfl] at e2
  rw [e2]
  simp only [R.bind, R.st, x_sRet, x_evTup, x_evB, x_evCons, x_evComp, x_itSeq, x_evNil, x_evVar, List.getElem?_cons_succ, List.getElem?_cons_zero]
  rw [hML, hs]
  simp only [x_lift, x_items_l]
  rw [← hML, h5, fitL_ok (by rw [List.length_map, (sortI_perm ks).length_eq]; omega)]
  simp only [x_tuple, x_lift, dR, dPs, rowOf, List.map_map]
  rfl
end Nv
set_option maxRecDepth 100000
/-! RwG: pots; live rows. -/
namespace Nv
theorem pot_loop {P : D} {k : Int} {M : Mem} : ∀ (ns : List Int) (tot : Int) (x : Option D), tot.natAbs < 10 ^ 30 → ∃ tot' : Int, tot'.natAbs < 10 ^ 30 ∧ forL (.nm 3) (sSet 2 (evOp2 dMod (evB bInt (evCons (evOp2 dAdd (evOp2 dMul (evVar 2) (evC (.int 8209))) (evVar 3)) evNil)) (evOp2 dAdd (evOp2 dPow (evC (.int 10)) (evC (.int 27))) (evC (.int 103))))) [3] (ns.map .int) [some P, some (.int k), some (.int tot), x, none] M = .ok (.nx [some P, some (.int k), some (.int tot'), none, none]) M
  | [], tot, x, h => ⟨tot, h, by simp⟩
  | i :: ns, tot, x, h => by
    obtain ⟨tot', h', e⟩ := pot_loop (P := P) (k := k) (M := M) ns ((tot * 8209 + i) % 1000000000000000000000000103) (some (.int i)) (by omega)
    refine ⟨tot', h', ?_⟩
    rw [List.map_cons]
    unfold forL
    have m1 := mul_ok (M := M) (i := tot) (j := 8209) (by omega) (by decide)
    simp [R.bind, R.st, m1, p27, -x_pow, -x_mul]
    exact e
theorem r_pot {M : Mem} (ns : List Int) (n : Nat) (hn : n < 2) : ∃ p0 p1, run_law_pot [.scr (ns.map .int), .int n] M = .ok (.ref M.length) (M ++ [potC p0 p1 0]) ∧ 0 ≤ p1 ∧ p1 < 10 ^ 30 := by
  obtain ⟨tot, ht, e⟩ := pot_loop (P := .scr (ns.map .int)) (k := n) (M := M) ns (3 * n + 2) none (by omega)
  have m0 := mul_ok (M := M) (i := 3) (j := (n : Int)) (by decide) (by omega)
  have m1 := mul_ok (M := M) (i := tot) (j := 6427) (by omega) (by decide)
  have fin : ∀ cell : Int, (sRet (evNew (evCons (evB bMax (evCons (evC (.int 0)) (evCons (evOp2 dSub (evVar 4) (evOp2 dPow (evC (.int 10)) (evC (.int 18)))) evNil))) (evCons (evOp2 dAdd (evOp2 dMod (evB bInt (evCons (evOp2 dAdd (evOp2 dMul (evVar 2) (evC (.int 6427))) (evB bAbs (evCons (evVar 4) evNil))) evNil)) (evOp2 dAdd (evOp2 dPow (evC (.int 10)) (evC (.int 28))) (evC (.int 331)))) (evVar 1)) (evCons (evC (.int 0)) evNil))))) [some (.scr (ns.map D.int)), some (.int n), some (.int tot), none, some (.int cell)] M = .ok (.rt (.ref M.length)) (M ++ [potC (if (0 : Int) < cell - 1000000000000000000 then cell - 1000000000000000000 else 0) ((tot * 6427 + (if cell < 0 then -cell else cell)) % (10000000000000000000000000000 + 331) + n) 0]) := fun cell => by
    simp only [R.bind, R.st, x_sRet, x_evNew, x_evC, x_evOp2, x_evVar, x_evB, x_evCons, x_evNil, List.getElem?_cons_succ, List.getElem?_cons_zero, x_lift, p18, p28, x_sub, x_max, m1, x_abs, x_addi, x_int, x_mod, show (0 : Int) < 10000000000000000000000000000 + 331 by decide, if_true, potC]
  have rng : ∀ cell : Int, 0 ≤ (tot * 6427 + (if cell < 0 then -cell else cell)) % (10000000000000000000000000000 + 331) + (n : Int) ∧ (tot * 6427 + (if cell < 0 then -cell else cell)) % (10000000000000000000000000000 + 331) + (n : Int) < 10 ^ 30 := fun cell => by
    have := Int.emod_nonneg (tot * 6427 + (if cell < 0 then -cell else cell)) (b := 10000000000000000000000000000 + 331) (by decide)
    have := Int.emod_lt_of_pos (tot * 6427 + (if cell < 0 then -cell else cell)) (b := 10000000000000000000000000000 + 331) (by decide)
    omega
  by_cases z : n < ns.length
  · have hx : (ns.map D.int)[n]? = some (.int ns[n]) := by rw [List.getElem?_map, List.getElem?_eq_getElem z]; rfl
    refine ⟨(if (0 : Int) < ns[n] - 1000000000000000000 then ns[n] - 1000000000000000000 else 0), _, ?_, (rng ns[n]).1, (rng ns[n]).2⟩
    unfold run_law_pot fnK
    rw [if_pos (show [D.scr (ns.map D.int), D.int n].length = 2 from rfl)]
    simp only [List.map_cons, List.map_nil, List.replicate, List.cons_append, List.nil_append, body_law_pot]
    simp only [x_sSeq, x_sSet, x_evOp2, x_evC, x_evVar, R.bind, R.st, List.getElem?_cons_succ, List.getElem?_cons_zero, m0, x_lift, x_addi, x_sFor, x_itSeq, x_items_s, List.set_cons_succ, List.set_cons_zero]
    rw [e]
    simp only [R.bind, R.st, R.must, endK, x_sIf, x_evOp2, x_evVar, x_evB, x_evCons, x_evNil, List.getElem?_cons_succ, List.getElem?_cons_zero, x_lens, x_lift, x_lt, x_asBool, List.length_map, show decide ((n : Int) < (ns.length : Int)) = true by simp; omega, if_true, x_sSet, x_ixs, x_atc, hx, List.set_cons_succ, List.set_cons_zero]
    rw [fin]
  · refine ⟨(if (0 : Int) < tot - 1000000000000000000 then tot - 1000000000000000000 else 0), _, ?_, (rng tot).1, (rng tot).2⟩
    unfold run_law_pot fnK
    rw [if_pos (show [D.scr (ns.map D.int), D.int n].length = 2 from rfl)]
    simp only [List.map_cons, List.map_nil, List.replicate, List.cons_append, List.nil_append, body_law_pot]
    simp only [x_sSeq, x_sSet, x_evOp2, x_evC, x_evVar, R.bind, R.st, List.getElem?_cons_succ, List.getElem?_cons_zero, m0, x_lift, x_addi, x_sFor, x_itSeq, x_items_s, List.set_cons_succ, List.set_cons_zero]
    rw [e]
    simp only [R.bind, R.st, R.must, endK, x_sIf, x_evOp2, x_evVar, x_evB, x_evCons, x_evNil, List.getElem?_cons_succ, List.getElem?_cons_zero, x_lens, x_lift, x_lt, x_asBool, List.length_map, show decide ((n : Int) < (ns.length : Int)) = false by simp; omega, Bool.false_eq_true, if_false, x_sSkip, x_sSet, List.set_cons_succ, List.set_cons_zero]
    rw [fin]
/-! ### live rows -/
def LV (A : Mem) (m : Int) (a0 a : Ps) (ds : List D) (B : Mem) : Mem := A ++ (.ins 0 [dR m a0, dR m a, .ref (A.length + 1), .ref (A.length + 2)] :: .lst ds :: .lst [] :: B)
theorem closed_cons {n : Nat} {o : MO} {M : Mem} : closed n (o :: M) = true ↔ o.lo n = true ∧ closed n M = true := by simp [closed]
theorem LV_len (A : Mem) (m : Int) (a0 a : Ps) (ds : List D) (B : Mem) : (LV A m a0 a ds B).length = A.length + 3 + B.length := by simp [LV]; omega
theorem LV_closed {n : Nat} {A : Mem} {m : Int} {a0 a : Ps} {ds : List D} {B : Mem} : closed n (LV A m a0 a ds B) = true ↔ closed n A = true ∧ A.length + 2 < n ∧ D.los n ds = true ∧ closed n B = true := by
  unfold LV
  rw [closed_app, closed_cons, closed_cons, closed_cons]
  simp only [MO.lo, D.los, D.lo, lo_dR, Bool.and_true, Bool.true_and, Bool.and_eq_true, decide_eq_true_eq]
  constructor
  · rintro ⟨h1, ⟨h2, h3⟩, h4, h5, h6⟩; exact ⟨h1, h3, h4, h6⟩
  · rintro ⟨h1, h3, h4, h6⟩; exact ⟨h1, ⟨by omega, h3⟩, h4, trivial, h6⟩
theorem los_app {n : Nat} {a b : List D} : D.los n (a ++ b) = true ↔ D.los n a = true ∧ D.los n b = true := by
  induction a with
  | nil => simp [D.los]
  | cons x r ih => simp only [List.cons_append, D.los, Bool.and_eq_true, ih]; constructor <;> (intro h; simp_all)
variable {A B : Mem} {m : Int} {a0 a : Ps} {ds : List D}
theorem LV_get0 : (LV A m a0 a ds B)[A.length]? = some (.ins 0 [dR m a0, dR m a, .ref (A.length + 1), .ref (A.length + 2)]) := by simp [LV]
theorem LV_get1 : (LV A m a0 a ds B)[A.length + 1]? = some (.lst ds) := by simp [LV]
theorem LV_set1 (v : MO) (ds' : List D) (h : v = .lst ds') : (LV A m a0 a ds B).set (A.length + 1) v = LV A m a0 a ds' B := by subst h; simp [LV]
theorem LV_set0 (a' : Ps) (v : MO) (h : v = .ins 0 [dR m a0, dR m a', .ref (A.length + 1), .ref (A.length + 2)]) : (LV A m a0 a ds B).set A.length v = LV A m a0 a' ds B := by subst h; simp [LV]
variable (hc : closed (LV A m a0 a ds B).length (LV A m a0 a ds B) = true)
include hc
theorem r_row : run_Live_row [.ref A.length] (LV A m a0 a ds B) = .ok (dR m a) (LV A m a0 a ds B) := fnT_rt0 rfl (by simp [body_Live_row, R.bind, R.st, LV_get0]) (lo_dR _ _ _) hc
theorem r_modu : run_Live_modulus [.ref A.length] (LV A m a0 a ds B) = .ok (.int m) (LV A m a0 a ds B) := fnT_rt0 rfl (by simp [body_Live_modulus, R.bind, R.st, LV_get0, dR]) rfl hc
theorem r_count : run_Live_count [.ref A.length] (LV A m a0 a ds B) = .ok (.int a.length) (LV A m a0 a ds B) := fnT_rt0 rfl (by simp [body_Live_count, R.bind, R.st, LV_get0, dR, dPs]) rfl hc
theorem LV_closed' {a' : Ps} {ds' : List D} (h : D.los (LV A m a0 a ds B).length ds' = true) : closed (LV A m a0 a ds B).length (LV A m a0 a' ds' B) = true := by
  have := LV_closed.mp hc
  exact LV_closed.mpr ⟨this.1, this.2.1, h, this.2.2.2⟩
theorem r_done {c : Ps} {deed : D} (hd : ∀ n, deed.lo n = true) (ha : Srt a) (hcs : Srt c) (la : a.length ≤ 1000) (lc : c.length ≤ 1000) (hl : ds.length ≤ 10000) :
    run_Live_done [.ref A.length, deed, dR m c] (LV A m a0 a ds B) = .ok (.int (apart a c).length) (LV A m a0 c (ds ++ [.tup [deed, dR m a]]) B) := by
  have hlo : D.los (LV A m a0 a ds B).length (ds ++ [.tup [deed, dR m a]]) = true := los_app.mpr ⟨(LV_closed.mp hc).2.2.1, by simp [D.los, D.lo, hd, lo_dR]⟩
  have hc2 := LV_closed' hc (a' := a) hlo
  have h1 := r_apart (M := LV A m a0 a (ds ++ [.tup [deed, dR m a]]) B) (by rw [show (LV A m a0 a (ds ++ [.tup [deed, dR m a]]) B).length = (LV A m a0 a ds B).length by rw [LV_len, LV_len]]; exact hc2) (m := m) (lo := 0) (w := 0) ha hcs la lc
  refine fnT_rtS (X := []) rfl ?_ (by rw [LV_len, LV_len]) rfl (LV_closed' hc hlo)
  have s1 := LV_set1 (A := A) (B := B) (m := m) (a0 := a0) (a := a) (ds := ds) _ (ds ++ [.tup [deed, dR m a]]) rfl
  have s0 := LV_set0 (A := A) (B := B) (m := m) (a0 := a0) (a := a) (ds := ds ++ [.tup [deed, dR m a]]) c _ rfl
  simp [body_Live_done, R.bind, R.st, LV_get0, LV_get1, show ds.length < 16777216 by omega, s1, h1, s0]
end Nv
set_option maxRecDepth 100000
/-! RwH: live rows, by their places in the memory. -/
namespace Nv
structure Lr (M : Mem) (x : Nat) (m : Int) (a : Ps) (q : Nat) : Prop where
  ex : ∃ (a0 : Ps) (ds : List D), M[x]? = some (.ins 0 [dR m a0, dR m a, .ref (x + 1), .ref (x + 2)]) ∧ M[x + 1]? = some (.lst ds) ∧ ds.length ≤ q ∧ x + 2 < M.length
/-- what a deed of the live row at x leaves as it was -/
structure Op (x : Nat) (M M' : Mem) : Prop where
  len : M'.length = M.length
  cl : closed M'.length M' = true
  fr : ∀ (y : Nat) (m : Int) (a : Ps) (q : Nat), y ≠ x → Lr M y m a q → Lr M' y m a q
  tk : ∀ n, n ≤ x → M'.take n = M.take n
theorem lo_of {M : Mem} (hc : closed M.length M = true) {i : Nat} {o : MO} (h : M[i]? = some o) : o.lo M.length = true := List.all_eq_true.mp hc o (List.mem_of_getElem? h)
section
variable {M : Mem} (hc : closed M.length M = true) {x : Nat} {m : Int} {a : Ps} {q : Nat}
include hc
theorem w_row (h : Lr M x m a q) : run_Live_row [.ref x] M = .ok (dR m a) M := by
  obtain ⟨a0, ds, hx, hd, hq, hl⟩ := h.ex
  exact fnT_rt0 rfl (by simp [body_Live_row, R.bind, R.st, hx]) (lo_dR _ _ _) hc
theorem w_modu (h : Lr M x m a q) : run_Live_modulus [.ref x] M = .ok (.int m) M := by
  obtain ⟨a0, ds, hx, hd, hq, hl⟩ := h.ex
  exact fnT_rt0 rfl (by simp [body_Live_modulus, R.bind, R.st, hx, dR]) rfl hc
theorem w_count (h : Lr M x m a q) : run_Live_count [.ref x] M = .ok (.int a.length) M := by
  obtain ⟨a0, ds, hx, hd, hq, hl⟩ := h.ex
  exact fnT_rt0 rfl (by simp [body_Live_count, R.bind, R.st, hx, dR, dPs]) rfl hc
theorem w_total (hm : 0 < m) (h : Lr M x m a q) (hla : a.length ≤ 1000) : run_Live_total [.ref x] M = .ok (.int ((a.map (·.2)).sum % m)) M := by
  obtain ⟨a0, ds, hx, hd, hq, hl⟩ := h.ex
  have h1 := w_modu hc h
  have h2 := compL_map (tg := .tup [(.nm 1), (.nm 2)]) (c := evTrue) (e := evVar 2) (vs := [1, 2]) (ρ := [some (.ref x), none, none]) (M := M) (f := dP) (g := fun p => .int p.2) (as := a) (fun p hp => ⟨_, by simp [dP]; rfl, by simp, by simp⟩)
  have h3 : a.map (fun p => D.int p.2) = (a.map (·.2)).map .int := by simp
  refine fnT_rt0 rfl ?_ rfl hc
  simp only [List.map_cons, List.map_nil, List.replicate, List.cons_append, List.nil_append, body_Live_total]
  simp only [x_sRet, x_evOp2, x_evB, x_evCons, x_evComp, x_itSeq, x_evFld, x_evVar, x_evC, R.bind, R.st, List.getElem?_cons_succ, List.getElem?_cons_zero, x_insAt, hx, if_true, x_lift, dR, x_ixt, x_at1, dPs, x_items_t]
  rw [h2, fitL_ok (by simp; omega), h3]
  simp [-List.map_map, R.bind, R.st, x_sum, intsOf_map, hx, h1, hm]
theorem w_done (h : Lr M x m a q) {c : Ps} {deed : D} (hd : ∀ n, deed.lo n = true) (ha : Srt a) (hcs : Srt c) (la : a.length ≤ 1000) (lc : c.length ≤ 1000) (hq : q ≤ 10000) :
    ∃ M', run_Live_done [.ref x, deed, dR m c] M = .ok (.int (apart a c).length) M' ∧ Op x M M' ∧ Lr M' x m c (q + 1) := by
  obtain ⟨a0, ds, hx, hdd, hql, hl⟩ := h.ex
  have hx2 : x < M.length := by omega
  have hx3 : x + 1 < M.length := by omega
  have hlo : (MO.lst (ds ++ [.tup [deed, dR m a]])).lo M.length = true := los_app.mpr ⟨lo_of hc hdd, by simp [D.los, D.lo, hd, lo_dR]⟩
  have hlo2 : (MO.ins 0 [dR m a0, dR m c, .ref (x + 1), .ref (x + 2)]).lo M.length = true := by simp [MO.lo, D.los, D.lo, lo_dR]; omega
  have hc1 := closed_set (l := x + 1) hc hlo
  have hc2 := closed_set (l := x) hc1 hlo2
  have h1 := r_apart (M := M.set (x + 1) (.lst (ds ++ [.tup [deed, dR m a]]))) (by simpa using hc1) (m := m) (lo := 0) (w := 0) ha hcs la lc
  have g0 : (M.set (x + 1) (.lst (ds ++ [.tup [deed, dR m a]])))[x]? = some (.ins 0 [dR m a0, dR m a, .ref (x + 1), .ref (x + 2)]) := by
    rw [List.getElem?_set_ne (by omega)]; exact hx
  refine ⟨(M.set (x + 1) (.lst (ds ++ [.tup [deed, dR m a]]))).set x (.ins 0 [dR m a0, dR m c, .ref (x + 1), .ref (x + 2)]), fnT_rtS (X := []) rfl ?_ (by simp) rfl hc2, ⟨by simp, by simpa using hc2, fun y m' a' q' hy ⟨b0, es, e1, e2, e3, e4⟩ => ⟨b0, es, ?_, ?_, e3, by simpa using e4⟩, fun n hn => ?_⟩, ⟨a0, ds ++ [.tup [deed, dR m a]], ?_, ?_, by simp; omega, by simpa using hl⟩⟩
  · simp [body_Live_done, R.bind, R.st, hx, hdd, show ds.length < 16777216 by omega, h1, g0]
  · rw [List.getElem?_set_ne (fun e => hy e.symm), List.getElem?_set_ne ?_]
    · exact e1
    · intro e
      rw [← e, hdd] at e1
      cases e1
  · rw [List.getElem?_set_ne ?_, List.getElem?_set_ne (by omega)]
    · exact e2
    · intro e
      rw [← e, hx] at e2
      cases e2
  · rw [List.take_set_of_le hn, List.take_set_of_le (by omega)]
  · rw [List.getElem?_set_self (by simpa using hx2)]
  · rw [List.getElem?_set_ne (by omega), List.getElem?_set_self hx3]
theorem Op.out {M' : Mem} {f : FS} {np nl : Nat} {ds : List D} {v : D} (o : Op x M M') (hl : ds.length = np) (hb : f (ds.map some ++ List.replicate nl none) M = .ok (.rt v) M') (hv : v.lo M.length = true) : fnT np nl f ds M = .ok v M' :=
  fnT_rtS (X := []) hl (by rw [List.append_nil]; exact hb) o.len hv (by rw [← o.len]; exact o.cl)
theorem w_add (h : Lr M x m a q) (hm : Modu m) {b : Ps} {lo w : Int} (ha : Row m lo w a) (hb : Row m lo w b) (hw : 0 ≤ w) (hw2 : w ≤ 63) (hq : q ≤ 10000) :
    ∃ M', run_Live_add [.ref x, dR m b] M = .ok (.int (apart a (addC m a b)).length) M' ∧ Op x M M' ∧ Lr M' x m (addC m a b) (q + 1) := by
  have hm2 := hm.two
  have la := ha.len hw
  have hs := add_row (by omega) ha hb
  have ls := hs.len hw
  obtain ⟨M', e, o, l⟩ := w_done hc h (c := addC m a b) (deed := .tup [.str ("add" : PySem.Str), dR m b]) (fun n => by simp [D.lo, D.los, lo_dR]) ha.s hs.s (by omega) (by omega) hq
  obtain ⟨a0, ds, hx, hdd, hql, hl⟩ := h.ex
  have h1 := r_need_row hc hm hb hw (by omega)
  have h2 := r_need_same hc m a b
  have h3 := r_added hc hm ha hb hw hw2
  exact ⟨M', o.out hc rfl (by simp [body_Live_add, R.bind, R.st, h1, hx, h2, h3, e]) rfl, o, l⟩
theorem w_step (h : Lr M x m a q) (hm : Modu m) {r : Ps} {lo w rl rw : Int} (hr : Row m rl rw r) (ha : Row m lo w a) (hw : 1 ≤ w) (hrw : 1 ≤ rw) (hw2 : w + rw ≤ 64) (hq : q ≤ 10000) :
    ∃ M', run_Live_step [.ref x, dR m r] M = .ok (.int (apart a (stepC m r a)).length) M' ∧ Op x M M' ∧ Lr M' x m (stepC m r a) (q + 1) := by
  have hm2 := hm.two
  have la := ha.len (by omega)
  have hs := step_row (by omega) hr ha
  have ls := hs.len (by omega)
  obtain ⟨M', e, o, l⟩ := w_done hc h (c := stepC m r a) (deed := .tup [.str ("step" : PySem.Str), dR m r]) (fun n => by simp [D.lo, D.los, lo_dR]) ha.s hs.s (by omega) (by omega) hq
  obtain ⟨a0, ds, hx, hdd, hql, hl⟩ := h.ex
  have h1 := r_need_rule hc hm hr (by omega) (by omega)
  have h2 := r_need_same hc m a r
  have h3 := r_step hc hm hr ha hw hrw hw2
  exact ⟨M', o.out hc rfl (by simp [body_Live_step, R.bind, R.st, h1, hx, h2, h3, e]) rfl, o, l⟩
theorem w_move (h : Lr M x m a q) {lo w : Int} (ha : Row m lo w a) (hw : 0 ≤ w) (hw2 : w ≤ 100) (g : Int) (hq : q ≤ 10000) :
    ∃ v M', run_Live_move [.ref x, .int g] M = .ok (.int v) M' ∧ Op x M M' ∧ Lr M' x m (shiftL g a) (q + 1) := by
  have la := ha.len hw
  have hs := shift_row (b := g) ha
  obtain ⟨M', e, o, l⟩ := w_done hc h (c := shiftL g a) (deed := .tup [.str ("move" : PySem.Str), .int g]) (fun n => by simp [D.lo, D.los]) ha.s hs.s (by omega) (by simp [shiftL]; omega) hq
  have hmo := w_modu hc h
  obtain ⟨a0, ds, hx, hdd, hql, hl⟩ := h.ex
  have h2 := compL_map (tg := .tup [(.nm 3), (.nm 4)]) (c := evTrue) (e := evTup (evCons (evOp2 dAdd (evVar 3) (evVar 1)) (evCons (evVar 4) evNil))) (vs := [3, 4]) (ρ := [some (.ref x), some (.int g), none, none, none]) (M := M) (f := dP) (g := fun p : Int × Int => dP (p.1 + g, p.2)) (as := a) (fun p hp => ⟨_, by simp [dP]; rfl, by simp, by simp [R.bind, dP]⟩)
  refine ⟨((apart a (shiftL g a)).length : Int), M', o.out hc rfl ?_ rfl, o, l⟩
  simp only [List.map_cons, List.map_nil, List.replicate, List.cons_append, List.nil_append, body_Live_move]
  simp only [x_sSeq, x_sSet, x_sRet, x_evOp2, x_evB, x_evCons, x_evComp, x_itSeq, x_evFld, x_evVar, x_evC, R.bind, R.st, List.getElem?_cons_succ, List.getElem?_cons_zero, x_insAt, hx, if_true, x_lift, dR, x_ixt, x_at1, dPs, x_items_t]
  rw [h2, fitL_ok (by simp; omega)]
  have e' : run_Live_done [.ref x, .tup [.str ("move" : PySem.Str), .int g], .tup [.int m, .tup (a.map fun p => dP (p.1 + g, p.2))]] M = .ok (.int (apart a (shiftL g a)).length) M' := by
    rw [← e]
    simp [dR, dPs, shiftL]
    rfl
  simp [R.bind, R.st, hx, hmo, e']
theorem w_eq {y : Nat} {k n : Nat} (h : Lr M x m a q) (h' : Lr M y m a k) (hsh : Shows (dR m a) n 10) : run_Live__eq [.ref x, .ref y] M = .ok (.bl true) M := by
  obtain ⟨a0, ds, hx, hdd, hql, hl⟩ := h.ex
  obtain ⟨b0, es, hy, hee, hkl, hl2⟩ := h'.ex
  have he := dEq_self (M := M) hsh (by decide) ⟨_, rfl⟩
  exact fnT_rt0 rfl (by simp [body_Live__eq, R.bind, R.st, hx, hy, he]) rfl hc
theorem w_unlike {y : Nat} {k : Nat} {b : Ps} (h : Lr M x m a q) (h' : Lr M y m b k) (ha : Srt a) (hb : Srt b) (la : a.length ≤ 1000) (lb : b.length ≤ 1000) : run_Live_unlike_places [.ref x, .ref y] M = .ok (.lst ((apart a b).map .int)) M := by
  have hr := w_row hc h'
  have h1 := r_need_same hc m a b
  have h2 := r_apart hc (m := m) (lo := 0) (w := 0) ha hb la lb
  obtain ⟨a0, ds, hx, hdd, hql, hl⟩ := h.ex
  obtain ⟨b0, es, hy, hee, hkl, hl2⟩ := h'.ex
  exact fnT_rt0 rfl (by simp [body_Live_unlike_places, R.bind, R.st, hx, hy, hr, h1, h2]) (by simp [D.lo, los_ints]) hc
/-- Live(row) -/
theorem w_init (hm : Modu m) {lo w : Int} (ha : Row m lo w a) (hw : 0 ≤ w) (hw2 : w ≤ 64) :
    ∃ M', run_Live__init [.ref M.length, dR m a] (M ++ [.ins 0 []]) = .ok .non M' ∧ closed M'.length M' = true ∧ M'.length = M.length + 3 ∧ Lr M' M.length m a 0 ∧ (∀ (y : Nat) (m : Int) (a : Ps) (q : Nat), Lr M y m a q → Lr M' y m a q) ∧ ∀ n, n ≤ M.length → M'.take n = M.take n := by
  have hc1 : closed (M ++ [MO.ins 0 []]).length (M ++ [MO.ins 0 []]) = true := closed_app.mpr ⟨closed_mono (by simp) hc, rfl⟩
  have h1 := r_need_row hc1 hm ha hw hw2
  refine ⟨M ++ [.ins 0 [dR m a, dR m a, .ref (M.length + 1), .ref (M.length + 2)], .lst [], .lst []], ?_, ?_, by simp, ⟨a, [], by simp, by simp, by simp, by simp⟩, fun y m' a' q' ⟨b0, es, e1, e2, e3, e4⟩ => ⟨b0, es, ?_, ?_, e3, by simp; omega⟩, fun n hn => by rw [List.take_append_of_le_length hn]⟩
  · unfold run_Live__init fnK
    rw [if_pos (show [D.ref M.length, dR m a].length = 2 from rfl)]
    simp [body_Live__init, R.bind, R.st, R.must, h1, endK]
  · refine closed_app.mpr ⟨closed_mono (by simp) hc, ?_⟩
    simp [closed, MO.lo, D.los, D.lo, lo_dR]
  · rw [List.getElem?_append_left (by omega)]; exact e1
  · rw [List.getElem?_append_left (by omega)]; exact e2
end
end Nv
set_option maxRecDepth 100000
/-! RwI: places apart; adding many times. -/
namespace Nv
theorem apart_mem {m lo w lo' w' : Int} {a b : Ps} (ha : Row m lo w a) (hb : Row m lo' w' b) (k : Int) : k ∈ apart a b ↔ at_ a k ≠ at_ b k := by
  unfold apart
  rw [(sortI_perm _).mem_iff]
  simp only [apL, List.mem_append, List.mem_filter, decide_eq_true_eq]
  by_cases h : k ∈ a.map (·.1)
  · constructor
    · rintro (q | q)
      · exact q.2
      · exact absurd h q.2
    · exact fun q => .inl ⟨h, q⟩
  · constructor
    · rintro (q | q)
      · exact absurd q.1 h
      · obtain ⟨p, hp, e⟩ := List.mem_map.mp q.1
        have := srt_at hb.s hp
        have := (hb.v p hp).1
        rw [at_no h]
        rw [e] at *
        omega
    · intro q
      refine .inr ⟨?_, h⟩
      apply Classical.byContradiction
      intro z
      exact q (by rw [at_no h, at_no z])
theorem apL_nodup {a b : Ps} (ha : Srt a) (hb : Srt b) : (apL a b).Nodup := by
  unfold apL
  rw [List.nodup_append]
  refine ⟨(srt_nodup ha).filter _, (srt_nodup hb).filter _, fun x hx y hy => ?_⟩
  intro e
  have h1 := (List.mem_filter.mp hx).1
  have h2 := (List.mem_filter.mp hy).2
  simp only [decide_eq_true_eq] at h2
  exact h2 (e ▸ h1)
theorem apart_srt {a b : Ps} (ha : Srt a) (hb : Srt b) : (apart a b).Pairwise (· < ·) := sortI_strict (apL_nodup ha hb)
theorem ints_ext : ∀ {a b : List Int}, a.Pairwise (· < ·) → b.Pairwise (· < ·) → (∀ p, p ∈ a ↔ p ∈ b) → a = b := fun {a b} ha hb h => by
  have e := srt_ext (a := a.map fun k => (k, (0 : Int))) (b := b.map fun k => (k, (0 : Int))) (by unfold Srt; rw [List.pairwise_map]; exact ha) (by unfold Srt; rw [List.pairwise_map]; exact hb) (fun p => by
    obtain ⟨k, v⟩ := p
    simp [h])
  have := congrArg (List.map (·.1)) e
  simpa [List.map_map, Function.comp_def] using this
theorem places_srt {a : Ps} (ha : Srt a) : (a.map (·.1)).Pairwise (· < ·) := List.pairwise_map.mpr (show List.Pairwise (fun a b : Int × Int => a.1 < b.1) a from ha)
theorem places_mem {m lo w : Int} {a : Ps} (ha : Row m lo w a) (k : Int) : k ∈ a.map (·.1) ↔ at_ a k ≠ 0 := by
  constructor
  · intro h
    obtain ⟨p, hp, e⟩ := List.mem_map.mp h
    have := srt_at ha.s hp
    have := (ha.v p hp).1
    rw [e] at *
    omega
  · intro h
    apply Classical.byContradiction
    intro z
    exact h (at_no z)
theorem apart_comm {m lo w lo' w' : Int} {a b : Ps} (ha : Row m lo w a) (hb : Row m lo' w' b) : apart a b = apart b a := ints_ext (apart_srt ha.s hb.s) (apart_srt hb.s ha.s) fun k => by
  rw [apart_mem ha hb, apart_mem hb ha]
  exact ⟨fun h e => h e.symm, fun h e => h e.symm⟩
theorem apart_self {m lo w : Int} {a : Ps} (ha : Row m lo w a) : apart a a = [] := ints_ext (apart_srt ha.s ha.s) .nil fun k => by
  rw [apart_mem ha ha]
  simp
/-- n times -/
def addN (m : Int) (b : Ps) : Nat → Ps → Ps
  | 0, a => a
  | n + 1, a => addN m b n (addC m a b)
theorem addN_row {m lo w : Int} (hm : 0 < m) {b : Ps} (hb : Row m lo w b) : ∀ (n : Nat) {a : Ps}, Row m lo w a → Row m lo w (addN m b n a)
  | 0, _, ha => ha
  | n + 1, _, ha => addN_row hm hb n (add_row hm ha hb)
theorem addN_at {m : Int} (b : Ps) (k : Int) : ∀ (n : Nat) (a : Ps), Cg m (at_ (addN m b n a) k) (at_ a k + n * at_ b k)
  | 0, a => Cg.of_eq (by simp [addN])
  | n + 1, a => by
    refine (addN_at b k n (addC m a b)).trans (((at_coll m (a ++ b) k).add Cg.rfl).trans (Cg.of_eq ?_))
    rw [at_append, Int.natCast_add, Int.add_mul]
    simp
    omega
/-- m - 1 times: less -/
theorem addN_less {m lo w : Int} (hm : 2 ≤ m) {a b : Ps} (ha : Row m lo w a) (hb : Row m lo w b) (k : Int) : at_ (addN m b (m - 1).toNat a) k = (at_ a k - at_ b k) % m := by
  have h := addN_at (m := m) b k (m - 1).toNat a
  have hr := (addN_row (by omega) hb (m - 1).toNat ha).at_mod (by omega) k
  rw [← hr]
  rw [show at_ (addN m b (m - 1).toNat a) k % m = (at_ a k + ((m - 1).toNat : Int) * at_ b k) % m from h]
  rw [show (((m - 1).toNat : Nat) : Int) = m - 1 by omega, Int.sub_mul, Int.one_mul]
  rw [show at_ a k + (m * at_ b k - at_ b k) = at_ a k - at_ b k + m * at_ b k by omega]
  exact Int.add_mul_emod_self_left _ _ _
theorem less_places {m lo w : Int} (hm : 2 ≤ m) {a b : Ps} (ha : Row m lo w a) (hb : Row m lo w b) : (addN m b (m - 1).toNat a).map (·.1) = apart a b := by
  have hr := addN_row (by omega) hb (m - 1).toNat ha
  refine ints_ext (places_srt hr.s) (apart_srt ha.s hb.s) fun k => ?_
  rw [places_mem hr, apart_mem ha hb, addN_less hm ha hb]
  have h1 := ha.at_lt (by omega) k
  have h2 := hb.at_lt (by omega) k
  constructor
  · intro h e
    rw [e] at h
    simp at h
  · intro h e
    have hd := Int.dvd_of_emod_eq_zero e
    obtain ⟨c, hc⟩ := hd
    have hc1 : c < 1 := by
      apply Classical.byContradiction
      intro z
      have : m * 1 ≤ m * c := Int.mul_le_mul_of_nonneg_left (by omega) (by omega)
      omega
    have hc2 : -1 < c := by
      apply Classical.byContradiction
      intro z
      have : m * c ≤ m * (-1) := Int.mul_le_mul_of_nonneg_left (by omega) (by omega)
      omega
    have : c = 0 := by omega
    subst this
    simp at hc
    omega
/-- and once more: back again -/
theorem less_back {m lo w : Int} (hm : 2 ≤ m) {a b : Ps} (ha : Row m lo w a) (hb : Row m lo w b) : addC m (addN m b (m - 1).toNat a) b = a := by
  have hr := addN_row (by omega) hb (m - 1).toNat ha
  refine Row.ext (add_row (by omega) hr hb) ha fun k => ?_
  have h1 := at_coll m (addN m b (m - 1).toNat a ++ b) k
  rw [← (add_row (by omega) hr hb).at_mod (by omega) k, ← ha.at_mod (by omega) k]
  refine Eq.trans (show at_ (addC m (addN m b (m - 1).toNat a) b) k % m = _ from h1) ?_
  rw [at_append, addN_less hm ha hb]
  have : Cg m ((at_ a k - at_ b k) % m + at_ b k) (at_ a k) := (Cg.mod.add Cg.rfl).trans (Cg.of_eq (by omega))
  exact this
theorem apart_add {m lo w : Int} (hm : 2 ≤ m) {a b : Ps} (ha : Row m lo w a) (hb : Row m lo w b) : apart a (addC m a b) = b.map (·.1) := by
  have hs := add_row (by omega) ha hb
  refine ints_ext (apart_srt ha.s hs.s) (places_srt hb.s) fun k => ?_
  rw [apart_mem ha hs, places_mem hb]
  have h1 := ha.at_lt (by omega) k
  have h2 := hb.at_lt (by omega) k
  have e : at_ (addC m a b) k = (at_ a k + at_ b k) % m := by
    rw [← hs.at_mod (by omega) k]
    have := at_coll m (a ++ b) k
    rw [at_append] at this
    exact this
  rw [e]
  constructor
  · intro h z
    rw [z, Int.add_zero, Int.emod_eq_of_lt h1.1 h1.2] at h
    exact h rfl
  · intro h z
    by_cases q : at_ a k + at_ b k < m
    · rw [Int.emod_eq_of_lt (by omega) q] at z
      omega
    · have : (at_ a k + at_ b k) % m = at_ a k + at_ b k - m := by
        rw [← Int.sub_emod_right, Int.emod_eq_of_lt (by omega) (by omega)]
      omega
theorem apart_add_len {m lo w : Int} (hm : 2 ≤ m) {a b : Ps} (ha : Row m lo w a) (hb : Row m lo w b) : (apart a (addC m a b)).length = b.length := by
  rw [apart_add hm ha hb, List.length_map]
/-- moved, then stepped -/
theorem shift_step {m rl rw lo w : Int} (hm : 0 < m) (g : Int) {r a : Ps} (hr : Row m rl rw r) (ha : Row m lo w a) : stepC m r (shiftL g a) = shiftL g (stepC m r a) := by
  have h1 := step_row hm hr (shift_row (b := g) ha)
  have h2 := shift_row (b := g) (step_row hm hr ha)
  refine Row.ext h1 h2 fun k => ?_
  rw [← h1.at_mod hm k, ← h2.at_mod hm k]
  have e1 : Cg m (at_ (stepC m r (shiftL g a)) k) (at_ (stepL r (shiftL g a)) k) := at_coll m _ k
  have e2 : Cg m (at_ (shiftL g (stepC m r a)) k) (wsum (fun j => ind k (j + g)) (stepL r a)) := by
    unfold at_
    rw [wsum_shift]
    exact wsum_coll m _ _
  refine Eq.trans (show _ % m = _ from e1) (Eq.trans (congrArg (· % m) ?_) (show _ % m = _ from e2.symm))
  unfold at_
  rw [wsum_prod, wsum_prod]
  congr 1
  funext o
  rw [wsum_shift]
  congr 1
  funext p
  congr 1
  omega
end Nv
set_option maxRecDepth 100000
set_option maxHeartbeats 2000000
/-! RwJ: the law's parts. -/
namespace Nv
theorem Lr.get {M : Mem} {x : Nat} {m : Int} {a : Ps} {q : Nat} (h : Lr M x m a q) : ∃ L, M[x]? = some (.ins 0 L) := by
  obtain ⟨a0, ds, hx, _⟩ := h.ex
  exact ⟨_, hx⟩
theorem Lr.mono {M : Mem} {x : Nat} {m : Int} {a : Ps} {q q' : Nat} (h : Lr M x m a q) (hq : q ≤ q') : Lr M x m a q' := by
  obtain ⟨a0, ds, h1, h2, h3, h4⟩ := h.ex
  exact ⟨a0, ds, h1, h2, by omega, h4⟩
theorem Lr.lt {M : Mem} {x : Nat} {m : Int} {a : Ps} {q : Nat} (h : Lr M x m a q) : x + 2 < M.length := by
  obtain ⟨a0, ds, h1, h2, h3, h4⟩ := h.ex
  exact h4
theorem Op.refl {x : Nat} {M : Mem} (hc : closed M.length M = true) : Op x M M := ⟨rfl, hc, fun _ _ _ _ _ h => h, fun _ _ => rfl⟩
theorem Op.trans {x : Nat} {M M' M'' : Mem} (a : Op x M M') (b : Op x M' M'') : Op x M M'' := ⟨b.len.trans a.len, b.cl, fun y m c q hy h => b.fr y m c q hy (a.fr y m c q hy h), fun n hn => (b.tk n hn).trans (a.tk n hn)⟩
theorem St.lr {l : Nat} {M M' : Mem} {b : Int} (s : St l M M' b) {x : Nat} {m : Int} {a : Ps} {q : Nat} (hx : l < x) (h : Lr M x m a q) : Lr M' x m a q := by
  obtain ⟨a0, ds, h1, h2, h3, h4⟩ := h.ex
  obtain ⟨c, rfl⟩ := s.chg
  exact ⟨a0, ds, by rw [List.getElem?_set_ne (by omega)]; exact h1, by rw [List.getElem?_set_ne (by omega)]; exact h2, h3, by simpa using h4⟩
theorem pot_tk {l : Nat} {M M' : Mem} {b : Int} (h : Pot M l b) (ht : M'.take M.length = M) : Pot M' l b := by
  obtain ⟨p0, p1, p2, hl, h'⟩ := h.ex
  have hlt := h.lt
  refine ⟨p0, p1, p2, ?_, h'⟩
  have : (M'.take M.length)[l]? = M'[l]? := by rw [List.getElem?_take]; rw [if_pos hlt]
  rw [← this, ht]
  exact hl
/-- the memory cut back: only the pot has changed -/
theorem St.cut {l : Nat} {M M1 M2 M3 : Mem} {b b' : Int} (hc : closed M.length M = true) (hp : Pot M l b') (h1 : M1.take M.length = M) (s : St l M1 M2 b) (h3 : M3.take M.length = M2.take M.length) : St l M (M3.take M.length) b := by
  have hlt := hp.lt
  obtain ⟨c, rfl⟩ := s.chg
  have hM1 : M.length ≤ M1.length := by rw [← h1]; simp; omega
  obtain ⟨q0, q1, q2, g1, g⟩ := s.pot.ex
  rw [List.getElem?_set_self (by omega)] at g1
  have hcc := Option.some.inj g1
  have e : (M1.set l c).take M.length = M.set l c := by rw [List.take_set, h1]
  rw [h3, e]
  exact ⟨⟨c, rfl⟩, ⟨q0, q1, q2, by rw [List.getElem?_set_self hlt, hcc], g⟩, closed_set hc (by rw [hcc]; rfl)⟩
theorem fnT_cut {np nl : Nat} {body : FS} {ds : List D} {M M1 : Mem} {d : D} (hl : ds.length = np) (hb : body (ds.map some ++ List.replicate nl none) M = .ok (.rt d) M1) (hd : d.lo M.length = true) (hc : closed M.length (M1.take M.length) = true) : fnT np nl body ds M = .ok d (M1.take M.length) := by
  unfold fnT
  rw [if_pos hl, hb]
  show tidyR M.length d M1 = _
  unfold tidyR
  rw [freeze_lo hd]
  simp only []
  rw [if_pos hc]
theorem shows_R {m lo w : Int} {a : Ps} (hm : Modu m) (h : Row m lo w a) (hw : 0 ≤ w) (hw2 : w ≤ 64) (hlo : lo.natAbs < 10 ^ 90) : Shows (dR m a) 200000 10 := by
  have hm2 := hm.two
  refine shows_row (by omega) (fun p hp => ?_) (by have := h.len hw; omega)
  have h1 := h.b p hp
  have h2 := h.v p hp
  constructor <;> omega
theorem r_places {M : Mem} (hc : closed M.length M = true) {m : Int} {a : Ps} (hl : a.length ≤ 1000) : run_law_places [dR m a] M = .ok (.lst ((a.map (·.1)).map .int)) M := by
  have h2 := compL_map (tg := .tup [(.nm 1), (.nm 2)]) (c := evTrue) (e := evVar 1) (vs := [1, 2]) (ρ := [some (dR m a), none, none]) (M := M) (f := dP) (g := fun p => .int p.1) (as := a) (fun p hp => ⟨_, by simp [dP]; rfl, by simp, by simp⟩)
  refine fnT_rt0 rfl ?_ (by simp only [D.lo]; exact los_ints _ _) hc
  simp only [List.map_cons, List.map_nil, List.replicate, List.cons_append, List.nil_append, body_law_places]
  simp only [x_sRet, x_evComp, x_itSeq, x_evOp2, x_evVar, x_evC, R.bind, R.st, List.getElem?_cons_zero]
  rw [show dIx M (dR m a) (.int 1) = some (.tup (a.map dP)) from rfl]
  simp only [x_lift, x_items_t]
  rw [h2, fitL_ok (by simp; omega)]
  simp
theorem against_loop {m lo w : Int} (hm : Modu m) {b : Ps} (hb : Row m lo w b) (hw : 0 ≤ w) (hw2 : w ≤ 63) {x : Nat} : ∀ (xs : List D) (M : Mem) (a : Ps) (q : Nat) (y : Option D), closed M.length M = true → Lr M x m a q → Row m lo w a → q + xs.length ≤ 9000 →
    ∃ M', forL (.nm 3) (sExpr (evMeth 0 run_Live_add (evVar 0) (evCons (evVar 1) evNil))) [3] xs [some (.ref x), some (dR m b), some (.int m), y] M = .ok (.nx [some (.ref x), some (dR m b), some (.int m), none]) M' ∧ Op x M M' ∧ Lr M' x m (addN m b xs.length a) (q + xs.length)
  | [], M, a, q, y, hc, h, _, _ => ⟨M, by simp, Op.refl hc, h⟩
  | z :: xs, M, a, q, y, hc, h, ha, hq => by
    simp only [List.length_cons] at hq
    have hm2 := hm.two
    obtain ⟨M1, e1, o1, l1⟩ := w_add hc h hm ha hb hw hw2 (by omega)
    obtain ⟨M2, e2, o2, l2⟩ := against_loop hm hb hw hw2 xs M1 _ _ (some z) o1.cl l1 (add_row (by omega) ha hb) (by omega)
    obtain ⟨L, g⟩ := h.get
    refine ⟨M2, ?_, o1.trans o2, by simpa [addN, Nat.add_assoc, Nat.add_comm 1] using l2⟩
    unfold forL
    simp [R.bind, R.st, g, e1]
    exact e2
theorem r_against {m lo w : Int} (hm : Modu m) {a b : Ps} (ha : Row m lo w a) (hb : Row m lo w b) (hw : 0 ≤ w) (hw2 : w ≤ 63) {M : Mem} {x q : Nat} (hc : closed M.length M = true) (h : Lr M x m a q) (hq : q ≤ 1000) :
    ∃ M', run_law_against [.ref x, dR m b, .int m] M = .ok (dR m (addN m b (m - 1).toNat a)) M' ∧ Op x M M' ∧ Lr M' x m (addN m b (m - 1).toNat a) (q + 20) := by
  have hm2 := hm.two
  obtain ⟨M1, e1, o1, l1⟩ := against_loop hm hb hw hw2 (rangeI 0 (m - 1)) M a q none hc h ha (by rw [rangeI_len]; omega)
  rw [rangeI_len] at l1
  obtain ⟨L, g⟩ := l1.get
  have hr := w_row o1.cl l1
  refine ⟨M1, o1.out hc rfl ?_ (lo_dR _ _ _), o1, l1.mono (by omega)⟩
  simp only [List.map_cons, List.map_nil, List.replicate, List.cons_append, List.nil_append, body_law_against]
  simp only [x_sSeq, x_sFor, x_itR1, x_evOp2, x_evVar, x_evC, R.bind, R.st, List.getElem?_cons_succ, List.getElem?_cons_zero, x_sub, x_lift, show smallI (m - 1) = true by unfold smallI; simp; omega, if_true]
  rw [e1]
  simp [R.bind, R.st, g, hr]
/-- one statement, then the rest -/
theorem seq_eq {a b : FS} {ρ : Env} {M : Mem} {R0 : R O} (ρ1 : Env) (M1 : Mem) (h : a ρ M = .ok (.nx ρ1) M1) (h2 : b ρ1 M1 = R0) : sSeq a b ρ M = R0 := by
  rw [x_sSeq, h]
  exact h2
end Nv
set_option maxRecDepth 100000
set_option maxHeartbeats 4000000
/-! RwK: sums pass steps. -/
namespace Nv
theorem r_sums {M : Mem} {l : Nat} {b : Int} (hc : closed M.length M = true) (hp : Pot M l b) (hb : b ≤ 700000) {m g : Int} (hm : Modu m) (hg : g.natAbs < 10 ^ 61) {one other r : Ps} (h1 : Row m g 7 one) (h2 : Row m g 7 other) (hr : Row m (-4) 9 r) :
    ∃ M', run_law_sums_right [.ref l, .lst [dR m one, dR m other], dR m r, .int m] M = .ok (.bl true) M' ∧ St l M M' (b + 6) := by
  have hm2 := hm.two
  have hlt := hp.lt
  have hadd := add_row (by omega) h1 h2
  have hs1 := step_row (by omega) hr h1
  have hs2 := step_row (by omega) hr h2
  have hsa := step_row (by omega) hr hadd
  obtain ⟨M1, i1, c1, n1, l1, _, t1⟩ := w_init hc hm h1 (by omega) (by omega)
  obtain ⟨M2, e2, o2, l2⟩ := w_add c1 l1 hm h1 h2 (by omega) (by omega) (by omega)
  have a1 := r_added o2.cl hm h1 h2 (by omega) (by omega)
  have a2 := r_added o2.cl hm h2 h1 (by omega) (by omega)
  rw [add_comm_C] at a2
  have w2 := w_row o2.cl l2
  have s2 := r_same o2.cl (shows_R hm hadd (by omega) (by omega) (by omega)) (by decide) (by decide) (.inl ⟨_, rfl⟩)
  obtain ⟨M3, e3, o3, l3⟩ := w_step o2.cl l2 hm hr hadd (by omega) (by omega) (by omega) (by omega)
  have p1 := r_step o3.cl hm hr h1 (by omega) (by omega) (by omega)
  obtain ⟨M4, i4, c4, n4, l4, f4, t4⟩ := w_init o3.cl hm hs1 (by omega) (by omega)
  have p2 := r_step c4 hm hr h2 (by omega) (by omega) (by omega)
  obtain ⟨M5, e5, o5, l5⟩ := w_add c4 l4 hm hs1 hs2 (by omega) (by omega) (by omega)
  rw [← step_add] at l5
  have x12 : M.length < M3.length := by rw [o3.len, o2.len, n1]; omega
  have l5' := o5.fr _ _ _ _ (by omega) (f4 _ _ _ _ l3)
  have w5 := w_row o5.cl l5
  have w5' := w_row o5.cl l5'
  have shs := shows_R hm hsa (by omega) (by omega) (by omega)
  have q5 := w_eq o5.cl l5' l5 shs
  have s5 := r_same o5.cl (d := .lst [dR m (stepC m r (addC m one other)), .bl true]) (shows_lst (n := 200000) (k := 10) fun d hd => by
    simp only [List.mem_cons, List.not_mem_nil, or_false] at hd
    rcases hd with e | e <;> subst e
    · exact shs
    · exact (shows_bl true).mono (by decide) (by decide)) (by simp) (by decide) (.inr (.inl ⟨_, rfl⟩))
  have t5 : M5.take M.length = M := by rw [o5.tk _ (by omega), t4 _ (by omega), o3.tk _ (Nat.le_refl _), o2.tk _ (Nat.le_refl _), t1 _ (Nat.le_refl _), List.take_length]
  obtain ⟨g1, M6, e6, b6, st6⟩ := r_great o5.cl (pot_tk hp t5) (by omega)
  obtain ⟨r7, M7, e7, u7, v7, st7⟩ := r_draw (k := 20) st6.cl' st6.pot (by omega) (by decide) (by decide)
  obtain ⟨r8, M8, e8, u8, v8, st8⟩ := r_draw (k := 2) st7.cl' st7.pot (by omega) (by decide) (by decide)
  have st := (st6.trans st7).trans st8
  obtain ⟨by_, hby, bby⟩ : ∃ z : Int, atD [.int g1, .int (r7 - 10)] r8 = some (.int z) ∧ z.natAbs < 10 ^ 60 := by
    rcases (show r8 = 0 ∨ r8 = 1 by omega) with e | e <;> subst e
    · exact ⟨g1, rfl, b6⟩
    · exact ⟨r7 - 10, rfl, by omega⟩
  obtain ⟨M9, i9, c9, n9, l9, f9, t9⟩ := w_init st.cl' hm h1 (by omega) (by omega)
  obtain ⟨M10, i10, c10, n10, l10, f10, t10⟩ := w_init c9 hm h1 (by omega) (by omega)
  have l9' := f10 _ _ _ _ l9
  obtain ⟨v11, M11, e11, o11, l11⟩ := w_move c10 l9' h1 (by omega) (by omega) by_ (by omega)
  have hsh := shift_row (b := by_) h1
  obtain ⟨M12, e12, o12, l12⟩ := w_step o11.cl l11 hm hr hsh (by omega) (by omega) (by omega) (by omega)
  have k10 := o12.fr _ _ _ _ (by rw [n9]; omega) (o11.fr _ _ _ _ (by rw [n9]; omega) l10)
  obtain ⟨M13, e13, o13, l13⟩ := w_step o12.cl k10 hm hr h1 (by omega) (by omega) (by omega) (by omega)
  obtain ⟨v14, M14, e14, o14, l14⟩ := w_move o13.cl l13 hs1 (by omega) (by omega) by_ (by omega)
  have k12 := o14.fr _ _ _ _ (by rw [n9]; omega) (o13.fr _ _ _ _ (by rw [n9]; omega) l12)
  rw [shift_step (by omega) by_ hr h1] at k12
  have hss := shift_row (b := by_) hs1
  have w14 := w_row o14.cl k12
  have w14' := w_row o14.cl l14
  have s14 := r_same o14.cl (shows_R hm hss (by omega) (by omega) (by omega)) (by decide) (by decide) (.inl ⟨_, rfl⟩)
  have lss := hss.len (by omega)
  have u14 := w_unlike o14.cl k12 l14 hss.s hss.s (by omega) (by omega)
  rw [apart_self hss] at u14
  have z14 := r_same o14.cl (d := .int 0) (shows_int (by decide)) (by decide) (by decide) (.inr (.inr ⟨_, rfl⟩))
  have n8 : M8.length = M5.length := st.len
  have n5 : M.length ≤ M5.length := by rw [o5.len, n4]; omega
  have t14 : M14.take M.length = M8.take M.length := by
    rw [o14.tk _ (by rw [n9]; omega), o13.tk _ (by rw [n9]; omega), o12.tk _ (by omega), o11.tk _ (by omega), t10 _ (by rw [n9]; omega), t9 _ (by omega)]
  have cut := St.cut hc hp t5 st t14
  refine ⟨M14.take M.length, fnT_cut rfl ?_ rfl cut.cl, cut.mono (by omega)⟩
  obtain ⟨L1, g1'⟩ := l1.get
  obtain ⟨L2, g2'⟩ := l2.get
  obtain ⟨L3, g3'⟩ := l4.get
  obtain ⟨L4, g4'⟩ := l5.get
  obtain ⟨L5, g5'⟩ := l5'.get
  obtain ⟨L6, g6'⟩ := l9'.get
  obtain ⟨L7, g7'⟩ := l11.get
  obtain ⟨L8, g8'⟩ := k10.get
  obtain ⟨L9, g9'⟩ := l13.get
  obtain ⟨L10, g10'⟩ := k12.get
  obtain ⟨L11, g11'⟩ := l14.get
  show body_law_sums_right [some (.ref l), some (.lst [dR m one, dR m other]), some (dR m r), some (.int m), none, none, none, none, none, none, none] M = _
  unfold body_law_sums_right
  refine seq_eq [some (.ref l), some (.lst [dR m one, dR m other]), some (dR m r), some (.int m), some (dR m one), some (dR m other), none, none, none, none, none] M (by simp [R.bind, R.st]) ?_
  refine seq_eq [some (.ref l), some (.lst [dR m one, dR m other]), some (dR m r), some (.int m), some (dR m one), some (dR m other), some (.ref M.length), none, none, none, none] M1 (by simp [R.bind, R.st, i1]) ?_
  refine seq_eq [some (.ref l), some (.lst [dR m one, dR m other]), some (dR m r), some (.int m), some (dR m one), some (dR m other), some (.ref M.length), none, none, none, none] M2 (by simp [R.bind, R.st, g1', e2]) ?_
  refine seq_eq [some (.ref l), some (.lst [dR m one, dR m other]), some (dR m r), some (.int m), some (dR m one), some (dR m other), some (.ref M.length), none, none, none, none] M2 (by simp [R.bind, R.st, g2', w2, a1, a2, perm_1_0, s2]) ?_
  refine seq_eq [some (.ref l), some (.lst [dR m one, dR m other]), some (dR m r), some (.int m), some (dR m one), some (dR m other), some (.ref M.length), none, none, none, none] M3 (by simp [R.bind, R.st, g2', e3]) ?_
  refine seq_eq [some (.ref l), some (.lst [dR m one, dR m other]), some (dR m r), some (.int m), some (dR m one), some (dR m other), some (.ref M.length), some (.ref M3.length), none, none, none] M4 (by simp [R.bind, R.st, p1, i4]) ?_
  refine seq_eq [some (.ref l), some (.lst [dR m one, dR m other]), some (dR m r), some (.int m), some (dR m one), some (dR m other), some (.ref M.length), some (.ref M3.length), none, none, none] M5 (by simp [R.bind, R.st, g3', perm_1_0, p2, e5]) ?_
  refine seq_eq [some (.ref l), some (.lst [dR m one, dR m other]), some (dR m r), some (.int m), some (dR m one), some (dR m other), some (.ref M.length), some (.ref M3.length), none, none, none] M5 (by simp [R.bind, R.st, g4', g5', w5, w5', q5, s5]) ?_
  refine seq_eq [some (.ref l), some (.lst [dR m one, dR m other]), some (dR m r), some (.int m), some (dR m one), some (dR m other), some (.ref M.length), some (.ref M3.length), some (.int by_), none, none] M8 (by simp [R.bind, R.st, e6, e7, e8, hby]) ?_
  refine seq_eq [some (.ref l), some (.lst [dR m one, dR m other]), some (dR m r), some (.int m), some (dR m one), some (dR m other), some (.ref M.length), some (.ref M3.length), some (.int by_), some (.ref M8.length), some (.ref M9.length)] M10 (by simp [R.bind, R.st, i9, i10]) ?_
  refine seq_eq [some (.ref l), some (.lst [dR m one, dR m other]), some (dR m r), some (.int m), some (dR m one), some (dR m other), some (.ref M.length), some (.ref M3.length), some (.int by_), some (.ref M8.length), some (.ref M9.length)] M11 (by simp [R.bind, R.st, g6', e11]) ?_
  refine seq_eq [some (.ref l), some (.lst [dR m one, dR m other]), some (dR m r), some (.int m), some (dR m one), some (dR m other), some (.ref M.length), some (.ref M3.length), some (.int by_), some (.ref M8.length), some (.ref M9.length)] M12 (by simp [R.bind, R.st, g7', e12]) ?_
  refine seq_eq [some (.ref l), some (.lst [dR m one, dR m other]), some (dR m r), some (.int m), some (dR m one), some (dR m other), some (.ref M.length), some (.ref M3.length), some (.int by_), some (.ref M8.length), some (.ref M9.length)] M13 (by simp [R.bind, R.st, g8', e13]) ?_
  refine seq_eq [some (.ref l), some (.lst [dR m one, dR m other]), some (dR m r), some (.int m), some (dR m one), some (dR m other), some (.ref M.length), some (.ref M3.length), some (.int by_), some (.ref M8.length), some (.ref M9.length)] M14 (by simp [R.bind, R.st, g9', e14]) ?_
  simp [R.bind, R.st, w14, w14', s14, u14, g10', g11', z14]
end Nv
set_option maxRecDepth 100000
set_option maxHeartbeats 4000000
/-! RwL: places apart by the law. -/
namespace Nv
theorem dix1 (M : Mem) (m : Int) (a : Ps) : dIx M (dR m a) (.int 1) = some (dPs a) := rfl
theorem dlen (M : Mem) (a : Ps) : bLen M [dPs a] = some (.int a.length) := by simp [dPs]
theorem shows_ints {l : List Int} (h : ∀ k ∈ l, k.natAbs < 10 ^ 100) (hl : l.length ≤ 64) : Shows (.lst (l.map .int)) 20000 1 := by
  refine (shows_lst (n := 101) (k := 0) fun d hd => ?_).mono (by simp; omega) (by decide)
  obtain ⟨k, hk, e⟩ := List.mem_map.mp hd
  subst e
  exact shows_int (h k hk)
theorem shows_two {a b : D} {n k : Nat} (h1 : Shows a n k) (h2 : Shows b n k) : Shows (.lst [a, b]) (2 * n + 7) (k + 1) := by
  refine (shows_lst (n := n) (k := k) fun d hd => ?_).mono (by simp; omega) (by omega)
  simp only [List.mem_cons, List.not_mem_nil, or_false] at hd
  rcases hd with e | e <;> subst e
  · exact h1
  · exact h2
theorem r_unlike {M : Mem} (hc : closed M.length M = true) {m g : Int} (hm : Modu m) (hg : g.natAbs < 10 ^ 61) {one other : Ps} (h1 : Row m g 7 one) (h2 : Row m g 7 other) :
    run_law_unlike_right [.lst [dR m one, dR m other], .int m] M = .ok (.bl true) M := by
  have hm2 := hm.two
  have hadd := add_row (by omega) h1 h2
  have hN := addN_row (by omega) h2 (m - 1).toNat h1
  have hpl := less_places (by omega) h1 h2
  obtain ⟨M1, i1, c1, n1, l1, _, t1⟩ := w_init hc hm h1 (by omega) (by omega)
  obtain ⟨M2, i2, c2, n2, l2, f2, t2⟩ := w_init c1 hm h2 (by omega) (by omega)
  obtain ⟨M3, i3, c3, n3, l3, f3, t3⟩ := w_init c2 hm h1 (by omega) (by omega)
  obtain ⟨M4, e4, o4, l4⟩ := r_against hm h1 h2 (by omega) (by omega) c3 l3 (by omega)
  have lN := hN.len (by omega)
  have lone := h1.len (by omega)
  have loth := h2.len (by omega)
  have p4 := r_places o4.cl (m := m) (a := addN m other (m - 1).toNat one) (by omega)
  rw [hpl] at p4
  have k1 := o4.fr _ _ _ _ (by omega) (f3 _ _ _ _ (f2 _ _ _ _ l1))
  have k2 := o4.fr _ _ _ _ (by omega) (f3 _ _ _ _ l2)
  have u1 := w_unlike o4.cl k1 k2 h1.s h2.s (by omega) (by omega)
  have u2 := w_unlike o4.cl k2 k1 h2.s h1.s (by omega) (by omega)
  rw [apart_comm h2 h1] at u2
  have shA : Shows (.lst ((apart one other).map .int)) 20000 1 := by
    rw [← hpl]
    refine shows_ints (fun k hk => ?_) (by rw [List.length_map]; omega)
    obtain ⟨p, hp, e⟩ := List.mem_map.mp hk
    have := hN.b p hp
    rw [← e]
    omega
  have s4 := r_same o4.cl (shows_two shA shA) (by decide) (by decide) (.inr (.inl ⟨_, rfl⟩))
  obtain ⟨M5, i5, c5, n5, l5, f5, t5⟩ := w_init o4.cl hm h1 (by omega) (by omega)
  obtain ⟨M6, e6, o6, l6⟩ := r_against hm h1 h2 (by omega) (by omega) c5 l5 (by omega)
  have p6 := r_places o6.cl (m := m) (a := addN m other (m - 1).toNat one) (by omega)
  rw [hpl] at p6
  have s6 := r_same o6.cl shA (by decide) (by decide) (.inr (.inl ⟨_, rfl⟩))
  obtain ⟨M7, e7, o7, l7⟩ := w_add o6.cl l6 hm hN h2 (by omega) (by omega) (by omega)
  rw [apart_add_len (by omega) hN h2] at e7
  rw [less_back (by omega) h1 h2] at l7
  have w7 := w_row o7.cl l7
  have z7 := r_same o7.cl (d := .int (other.length : Int)) (shows_int (by omega)) (by decide) (by decide) (.inr (.inr ⟨_, rfl⟩))
  have s7 := r_same o7.cl (shows_R hm h1 (by omega) (by omega) (by omega)) (by decide) (by decide) (.inl ⟨_, rfl⟩)
  have n4 := o4.len
  have n6 := o6.len
  have j1 := o7.fr _ _ _ _ (by omega) (o6.fr _ _ _ _ (by omega) (f5 _ _ _ _ k1))
  obtain ⟨M8, e8, o8, l8⟩ := w_add o7.cl j1 hm h1 h2 (by omega) (by omega) (by omega)
  rw [apart_add_len (by omega) h1 h2] at e8
  have c8 := w_count o8.cl l8
  have a8 := r_added o8.cl hm h1 h2 (by omega) (by omega)
  have ladd := hadd.len (by omega)
  have s8 := r_same o8.cl (shows_two (a := .int (other.length : Int)) (b := .int ((addC m one other).length : Int)) (shows_int (by omega)) (shows_int (by omega))) (by decide) (by decide) (.inr (.inl ⟨_, rfl⟩))
  have t8 : M8.take M.length = M := by
    rw [o8.tk _ (Nat.le_refl _), o7.tk _ (by omega), o6.tk _ (by omega), t5 _ (by omega), o4.tk _ (by omega), t3 _ (by omega), t2 _ (by omega), t1 _ (Nat.le_refl _), List.take_length]
  have fin := fnT_cut (np := 2) (nl := 6) (body := body_law_unlike_right) (ds := [.lst [dR m one, dR m other], .int m]) (M := M) (M1 := M8) (d := .bl true) rfl ?_ rfl (by rw [t8]; exact hc)
  · rw [t8] at fin
    exact fin
  obtain ⟨L1, g1⟩ := k1.get
  obtain ⟨L2, g2⟩ := k2.get
  obtain ⟨L3, g3⟩ := l6.get
  obtain ⟨L4, g4⟩ := l7.get
  obtain ⟨L5, g5⟩ := j1.get
  obtain ⟨L6, g6⟩ := l8.get
  generalize addN m other (m - 1).toNat one = AA at e4 p4 e6 p6
  show body_law_unlike_right [some (.lst [dR m one, dR m other]), some (.int m), none, none, none, none, none, none] M = _
  unfold body_law_unlike_right
  refine seq_eq [some (.lst [dR m one, dR m other]), some (.int m), some (dR m one), some (dR m other), none, none, none, none] M (by simp [R.bind, R.st]) ?_
  refine seq_eq [some (.lst [dR m one, dR m other]), some (.int m), some (dR m one), some (dR m other), some (.ref M.length), some (.ref M1.length), none, none] M2 (by simp [R.bind, R.st, i1, i2]) ?_
  refine seq_eq [some (.lst [dR m one, dR m other]), some (.int m), some (dR m one), some (dR m other), some (.ref M.length), some (.ref M1.length), some (.lst ((apart one other).map .int)), none] M4 (by simp [R.bind, R.st, i3, e4, p4]) ?_
  refine seq_eq [some (.lst [dR m one, dR m other]), some (.int m), some (dR m one), some (dR m other), some (.ref M.length), some (.ref M1.length), some (.lst ((apart one other).map .int)), none] M4 (by simp [R.bind, R.st, g1, g2, u1, u2, s4]) ?_
  refine seq_eq [some (.lst [dR m one, dR m other]), some (.int m), some (dR m one), some (dR m other), some (.ref M.length), some (.ref M1.length), some (.lst ((apart one other).map .int)), some (.ref M4.length)] M5 (by simp [R.bind, R.st, i5]) ?_
  refine seq_eq [some (.lst [dR m one, dR m other]), some (.int m), some (dR m one), some (dR m other), some (.ref M.length), some (.ref M1.length), some (.lst ((apart one other).map .int)), some (.ref M4.length)] M6 (by simp [R.bind, R.st, e6, p6, s6]) ?_
  refine seq_eq [some (.lst [dR m one, dR m other]), some (.int m), some (dR m one), some (dR m other), some (.ref M.length), some (.ref M1.length), some (.lst ((apart one other).map .int)), some (.ref M4.length)] M7 (by simp [R.bind, R.st, g3, e7, dix1, dlen, z7, g4, w7, s7]) ?_
  simp [R.bind, R.st, g5, e8, g6, c8, dix1, dlen, a8, s8]
end Nv
set_option maxRecDepth 100000
set_option maxHeartbeats 4000000
/-! RwM: rules; the law whole. -/
namespace Nv
def rulesB : FS := (sSeq (sTg (.tup [.nm 6, .nm 7]) (evTup (evCons (evMakeQ 0 run_Live__init (evCons (evCall run_step (evCons (evVar 3) (evCons (evVar 5) evNil))) evNil)) (evCons (evMakeQ 0 run_Live__init (evCons (evVar 5) evNil)) evNil)))) (sSeq (sExpr (evMeth 0 run_Live_add (evVar 6) (evCons (evCall run_step (evCons (evVar 4) (evCons (evVar 5) evNil))) evNil))) (sSeq (sExpr (evMeth 0 run_Live_step (evVar 7) (evCons (evVar 3) evNil))) (sSeq (sExpr (evMeth 0 run_Live_step (evVar 7) (evCons (evVar 4) evNil))) (sSeq (sIf (evNot (evCall run_law_same (evCons (evLst (evCons (evCall run_step (evCons (evCall run_plus (evCons (evVar 3) (evCons (evVar 4) evNil))) (evCons (evVar 5) evNil))) (evCons (evCall run_step (evCons (evCall run_behind (evCons (evVar 3) (evCons (evVar 4) evNil))) (evCons (evVar 5) evNil))) evNil))) (evCons (evLst (evCons (evProp 0 run_Live_row (evVar 6)) (evCons (evProp 0 run_Live_row (evVar 7)) evNil))) evNil)))) (sRet (evC (.bl false))) sSkip) (sIf (evNot (evCall run_law_same (evCons (evMeth 0 run_Live_total (evVar 6) evNil) (evCons (evOp2 dMod (evB bInt (evCons (evB bSum (evCons (evComp (itSeq (evOp2 dIx (evProp 0 run_Live_row (evVar 6)) (evC (.int 1)))) (.tup [(.nm 8), (.nm 9)]) evTrue (evVar 9) [8, 9]) evNil)) evNil)) (evVar 2)) evNil)))) (sRet (evC (.bl false))) sSkip))))))
theorem rules_turn {M : Mem} (hc : closed M.length M = true) {m g : Int} (hm : Modu m) (hg : g.natAbs < 10 ^ 61) {a r1 r2 : Ps} (ha : Row m g 7 a) (h1 : Row m (-4) 9 r1) (h2 : Row m (-4) 9 r2) (RS QS : D) :
    ∃ M' X Y, rulesB [some RS, some QS, some (.int m), some (dR m r1), some (dR m r2), some (dR m a), none, none, none, none] M = .ok (.nx [some RS, some QS, some (.int m), some (dR m r1), some (dR m r2), some (dR m a), X, Y, none, none]) M' ∧ closed M'.length M' = true ∧ M.length ≤ M'.length ∧ M'.take M.length = M := by
  have hm2 := hm.two
  have hs1 := step_row (by omega) h1 ha
  have hs2 := step_row (by omega) h2 ha
  have hsum := add_row (by omega) hs1 hs2
  have htw := step_row (by omega) h2 hs1
  have hpl := add_row (by omega) h1 h2
  have hbe := beh_row (by omega) h1 h2
  have p0 := r_step hc hm h1 ha (by omega) (by omega) (by omega)
  obtain ⟨M1, i1, c1, n1, l1, _, t1⟩ := w_init hc hm hs1 (by omega) (by omega)
  obtain ⟨M2, i2, c2, n2, l2, f2, t2⟩ := w_init c1 hm ha (by omega) (by omega)
  have p2 := r_step c2 hm h2 ha (by omega) (by omega) (by omega)
  obtain ⟨M3, e3, o3, l3⟩ := w_add c2 (f2 _ _ _ _ l1) hm hs1 hs2 (by omega) (by omega) (by omega)
  have k2 := o3.fr _ _ _ _ (by omega) l2
  obtain ⟨M4, e4, o4, l4⟩ := w_step o3.cl k2 hm h1 ha (by omega) (by omega) (by omega) (by omega)
  obtain ⟨M5, e5, o5, l5⟩ := w_step o4.cl l4 hm h2 hs1 (by omega) (by omega) (by omega) (by omega)
  have k5 := o5.fr _ _ _ _ (by omega) (o4.fr _ _ _ _ (by omega) l3)
  have q1 := r_plus o5.cl hm h1 h2 (by omega) (by omega)
  have q2 := r_step o5.cl hm hpl ha (by omega) (by omega) (by omega)
  rw [plus_step] at q2
  have q3 := r_behind o5.cl hm h1 h2 (by omega) (by omega) (by omega)
  have q4 := r_step o5.cl hm hbe ha (by omega) (by omega) (by omega)
  rw [behind_step] at q4
  have w1 := w_row o5.cl k5
  have w2 := w_row o5.cl l5
  have s5 := r_same o5.cl (shows_two (shows_R hm hsum (by omega) (by omega) (by omega)) (shows_R hm htw (by omega) (by omega) (by omega))) (by decide) (by decide) (.inr (.inl ⟨_, rfl⟩))
  have lsum := hsum.len (by omega)
  have tot := w_total o5.cl (by omega) k5 (by omega)
  have b1 := Int.emod_nonneg (((addC m (stepC m r1 a) (stepC m r2 a)).map (·.2)).sum) (show m ≠ 0 by omega)
  have b2 := Int.emod_lt_of_pos (((addC m (stepC m r1 a) (stepC m r2 a)).map (·.2)).sum) (show 0 < m by omega)
  have z5 := r_same o5.cl (shows_int (i := ((addC m (stepC m r1 a) (stepC m r2 a)).map (·.2)).sum % m) (by omega)) (by decide) (by decide) (.inr (.inr ⟨_, rfl⟩))
  obtain ⟨L1, g1⟩ := (f2 _ _ _ _ l1).get
  obtain ⟨L2, g2⟩ := k2.get
  obtain ⟨L3, g3⟩ := l4.get
  obtain ⟨L4, g4⟩ := l5.get
  obtain ⟨L5, g5⟩ := k5.get
  have hcomp : evComp (itSeq (evOp2 dIx (evProp 0 run_Live_row (evVar 6)) (evC (.int 1)))) (.tup [(.nm 8), (.nm 9)]) evTrue (evVar 9) [8, 9] [some RS, some QS, some (.int m), some (dR m r1), some (dR m r2), some (dR m a), some (.ref M.length), some (.ref M1.length), none, none] M5 = .ok (.lst (((addC m (stepC m r1 a) (stepC m r2 a)).map (·.2)).map .int)) M5 := by
    have h2 := compL_map (tg := .tup [(.nm 8), (.nm 9)]) (c := evTrue) (e := evVar 9) (vs := [8, 9]) (ρ := [some RS, some QS, some (.int m), some (dR m r1), some (dR m r2), some (dR m a), some (.ref M.length), some (.ref M1.length), none, none]) (M := M5) (f := dP) (g := fun p => .int p.2) (as := addC m (stepC m r1 a) (stepC m r2 a)) (fun p hp => ⟨_, by simp [dP]; rfl, by simp, by simp⟩)
    have h0 : itSeq (evOp2 dIx (evProp 0 run_Live_row (evVar 6)) (evC (.int 1))) [some RS, some QS, some (.int m), some (dR m r1), some (dR m r2), some (dR m a), some (.ref M.length), some (.ref M1.length), none, none] M5 = .ok ((addC m (stepC m r1 a) (stepC m r2 a)).map dP) M5 := by
      simp [R.bind, g5, w1, dix1, dPs]
    rw [x_evComp, h0]
    simp only [R.bind]
    rw [h2, fitL_ok (by simp; omega)]
    simp
  refine ⟨M5, some (.ref M.length), some (.ref M1.length), ?_, o5.cl, by rw [o5.len, o4.len, o3.len]; omega, by rw [o5.tk _ (by omega), o4.tk _ (by omega), o3.tk _ (by omega), t2 _ (by omega), t1 _ (Nat.le_refl _), List.take_length]⟩
  unfold rulesB
  refine seq_eq [some RS, some QS, some (.int m), some (dR m r1), some (dR m r2), some (dR m a), some (.ref M.length), some (.ref M1.length), none, none] M2 (by simp [R.bind, R.st, p0, i1, i2]) ?_
  refine seq_eq [some RS, some QS, some (.int m), some (dR m r1), some (dR m r2), some (dR m a), some (.ref M.length), some (.ref M1.length), none, none] M3 (by simp [R.bind, R.st, p2, g1, e3]) ?_
  refine seq_eq [some RS, some QS, some (.int m), some (dR m r1), some (dR m r2), some (dR m a), some (.ref M.length), some (.ref M1.length), none, none] M4 (by simp [R.bind, R.st, g2, e4]) ?_
  refine seq_eq [some RS, some QS, some (.int m), some (dR m r1), some (dR m r2), some (dR m a), some (.ref M.length), some (.ref M1.length), none, none] M5 (by simp [R.bind, R.st, g3, e5]) ?_
  refine seq_eq [some RS, some QS, some (.int m), some (dR m r1), some (dR m r2), some (dR m a), some (.ref M.length), some (.ref M1.length), none, none] M5 (by simp [R.bind, R.st, q1, q2, q3, q4, g4, g5, w1, w2, s5]) ?_
  simp [-List.map_map, R.bind, R.st, g5, tot, hcomp, -x_evComp, x_sum, intsOf_map, show 0 < m by omega, z5]
theorem r_rules {M : Mem} (hc : closed M.length M = true) {m g : Int} (hm : Modu m) (hg : g.natAbs < 10 ^ 61) {a b r1 r2 : Ps} (ha : Row m g 7 a) (hb : Row m g 7 b) (h1 : Row m (-4) 9 r1) (h2 : Row m (-4) 9 r2) :
    run_law_rules_right [.lst [dR m a, dR m b], .lst [dR m r1, dR m r2], .int m] M = .ok (.bl true) M := by
  obtain ⟨M1, X, Y, e1, c1, n1, t1⟩ := rules_turn hc hm hg ha h1 h2 (.lst [dR m a, dR m b]) (.lst [dR m r1, dR m r2])
  obtain ⟨M2, X2, Y2, e2, c2, n2, t2⟩ := rules_turn c1 hm hg hb h1 h2 (.lst [dR m a, dR m b]) (.lst [dR m r1, dR m r2])
  have t3 : M2.take M.length = M := by
    have := congrArg (List.take M.length) t2
    rw [List.take_take, Nat.min_eq_left n1, t1] at this
    exact this
  have fin := fnT_cut (np := 3) (nl := 7) (body := body_law_rules_right) (ds := [.lst [dR m a, dR m b], .lst [dR m r1, dR m r2], .int m]) (M := M) (M1 := M2) (d := .bl true) rfl ?_ rfl (by rw [t3]; exact hc)
  · rw [t3] at fin
    exact fin
  have hloop : forL (.nm 5) rulesB [5, 6, 7, 8, 9] [dR m a, dR m b] [some (.lst [dR m a, dR m b]), some (.lst [dR m r1, dR m r2]), some (.int m), some (dR m r1), some (dR m r2), none, none, none, none, none] M = .ok (.nx [some (.lst [dR m a, dR m b]), some (.lst [dR m r1, dR m r2]), some (.int m), some (dR m r1), some (dR m r2), none, none, none, none, none]) M2 := by
    unfold forL
    simp only [x_kill, x_kill0, x_putn, List.set_cons_succ, List.set_cons_zero]
    rw [e1]
    simp only [R.bind]
    unfold forL
    simp only [x_kill, x_kill0, x_putn, List.set_cons_succ, List.set_cons_zero]
    rw [e2]
    simp only [R.bind]
    simp
  show body_law_rules_right [some (.lst [dR m a, dR m b]), some (.lst [dR m r1, dR m r2]), some (.int m), none, none, none, none, none, none, none] M = _
  unfold body_law_rules_right
  refine seq_eq [some (.lst [dR m a, dR m b]), some (.lst [dR m r1, dR m r2]), some (.int m), some (dR m r1), some (dR m r2), none, none, none, none, none] M (by simp [R.bind, R.st]) ?_
  refine seq_eq [some (.lst [dR m a, dR m b]), some (.lst [dR m r1, dR m r2]), some (.int m), some (dR m r1), some (dR m r2), none, none, none, none, none] M2 ?_ (by simp [R.bind, R.st])
  unfold rulesB at hloop
  simp only [x_sFor, x_itSeq, x_evVar, R.bind, R.st, List.getElem?_cons_zero, x_items_l, x_lift]
  exact hloop
end Nv
set_option maxRecDepth 100000
set_option maxHeartbeats 4000000
/-! M93: the law's meaning is True. -/
namespace Nv
def turnB : FS := (sSeq (sSet 6 (evComp (itR1 (evC (.int 2))) (.nm 8) evTrue (evCall run_law_short_row (evCons (evVar 2) (evCons (evVar 3) (evCons (evVar 4) (evCons (evC (.int 5)) evNil))))) [8])) (sSeq (sSet 7 (evComp (itR1 (evC (.int 2))) (.nm 8) evTrue (evTup (evCons (evVar 3) (evCons (evCall run_law_terms (evCons (evVar 2) (evCons (evVar 3) (evCons (evC (.int 2)) evNil)))) evNil))) [8])) (sSeq (sIf (evOr (evNot (evCall run_law_sums_right (evCons (evVar 2) (evCons (evVar 6) (evCons (evOp2 dIx (evVar 7) (evC (.int 0))) (evCons (evVar 3) evNil)))))) (evNot (evCall run_law_unlike_right (evCons (evVar 6) (evCons (evVar 3) evNil))))) (sRet (evC (.bl false))) sSkip) (sIf (evNot (evCall run_law_rules_right (evCons (evVar 6) (evCons (evVar 7) (evCons (evVar 3) evNil))))) (sRet (evC (.bl false))) sSkip))))
def kB : FS := (sSeq (sSet 2 (evCall run_law_pot (evCons (evVar 0) (evCons (evVar 1) evNil)))) (sSeq (sTg (.tup [.nm 3, .nm 4]) (evTup (evCons (evCall run_law_modulus (evCons (evVar 2) evNil)) (evCons (evCall run_law_base (evCons (evVar 2) evNil)) evNil)))) (sFor (itR1 (evC (.int 4))) (.nm 5) turnB [5, 6, 7, 8])))
theorem turn_ok {M : Mem} {l : Nat} {b : Int} (hc : closed M.length M = true) (hp : Pot M l b) (hb : b ≤ 600000) {k m g : Int} (hm : Modu m) (hg : g.natAbs < 10 ^ 60) (SC t : D) :
    ∃ M' X Y, turnB [some SC, some (.int k), some (.ref l), some (.int m), some (.int g), some t, none, none, none] M = .ok (.nx [some SC, some (.int k), some (.ref l), some (.int m), some (.int g), some t, X, Y, none]) M' ∧ St l M M' (b + 38) := by
  obtain ⟨a1, M1, e1, h1, s1⟩ := r_short (g := g) hc hp (by omega) hm
  obtain ⟨a2, M2, e2, h2, s2⟩ := r_short (g := g) s1.cl' s1.pot (by omega) hm
  obtain ⟨r1, M3, e3, h3, s3⟩ := r_terms s2.cl' s2.pot (by omega) hm
  obtain ⟨r2, M4, e4, h4, s4⟩ := r_terms s3.cl' s3.pot (by omega) hm
  obtain ⟨M5, e5, s5⟩ := r_sums s4.cl' s4.pot (by omega) hm (g := g) (by omega) h1 h2 h3
  have e6 := r_unlike s5.cl' hm (g := g) (by omega) h1 h2
  have e7 := r_rules s5.cl' hm (g := g) (by omega) h1 h2 h3 h4
  have hr : rangeI 0 2 = [.int 0, .int 1] := rfl
  have hsm : smallI 2 = true := by decide
  refine ⟨M5, some (.lst [dR m a1, dR m a2]), some (.lst [dR m r1, dR m r2]), ?_, ((((s1.trans s2).trans s3).trans s4).trans s5).mono (by omega)⟩
  unfold turnB
  refine seq_eq [some SC, some (.int k), some (.ref l), some (.int m), some (.int g), some t, some (.lst [dR m a1, dR m a2]), none, none] M2 (by simp [R.bind, R.st, hsm, hr, compL, e1, e2, fitL]) ?_
  refine seq_eq [some SC, some (.int k), some (.ref l), some (.int m), some (.int g), some t, some (.lst [dR m a1, dR m a2]), some (.lst [dR m r1, dR m r2]), none] M4 (by simp [R.bind, R.st, hsm, hr, compL, e3, e4, fitL, dR]) ?_
  refine seq_eq [some SC, some (.int k), some (.ref l), some (.int m), some (.int g), some t, some (.lst [dR m a1, dR m a2]), some (.lst [dR m r1, dR m r2]), none] M5 (by simp [R.bind, R.st, e5, e6]) ?_
  simp [R.bind, R.st, e7]
theorem turns_ok {l : Nat} {k m g : Int} (hm : Modu m) (hg : g.natAbs < 10 ^ 60) (SC : D) : ∀ (xs : List D) (M : Mem) (b : Int) (t X Y Z : Option D), closed M.length M = true → Pot M l b → b + 38 * xs.length ≤ 600000 →
    ∃ M', forL (.nm 5) turnB [5, 6, 7, 8] xs [some SC, some (.int k), some (.ref l), some (.int m), some (.int g), t, X, Y, Z] M = .ok (.nx [some SC, some (.int k), some (.ref l), some (.int m), some (.int g), none, none, none, none]) M' ∧ St l M M' (b + 38 * xs.length)
  | [], M, b, t, X, Y, Z, hc, hp, _ => ⟨M, by simp, by simpa using St.refl hp hc⟩
  | x :: xs, M, b, t, X, Y, Z, hc, hp, hb => by
    simp only [List.length_cons] at hb
    obtain ⟨M1, X1, Y1, e1, s1⟩ := turn_ok (k := k) hc hp (by omega) hm hg SC x
    obtain ⟨M2, e2, s2⟩ := turns_ok hm hg SC xs M1 (b + 38) (some x) X1 Y1 none s1.cl' s1.pot (by omega)
    refine ⟨M2, ?_, (s1.trans s2).mono (by simp only [List.length_cons]; omega)⟩
    unfold forL
    simp only [x_kill, x_kill0, x_putn, List.set_cons_succ, List.set_cons_zero]
    rw [e1]
    simp only [R.bind]
    exact e2
theorem k_ok (ns : List Int) (n : Nat) (hn : n < 2) (M : Mem) (hc : closed M.length M = true) : ∃ M' P m g, kB [some (.scr (ns.map .int)), some (.int n), none, none, none, none, none, none, none] M = .ok (.nx [some (.scr (ns.map .int)), some (.int n), P, m, g, none, none, none, none]) M' ∧ closed M'.length M' = true := by
  obtain ⟨p0, p1, e0, h0, h1⟩ := r_pot (M := M) ns n hn
  have hc1 : closed (M ++ [potC p0 p1 0]).length (M ++ [potC p0 p1 0]) = true := closed_app.mpr ⟨closed_mono (by simp) hc, rfl⟩
  have hp : Pot (M ++ [potC p0 p1 0]) M.length 0 := ⟨p0, p1, 0, by simp, h0, h1, by omega, by omega⟩
  obtain ⟨m, M2, e2, hm, s2⟩ := r_modulus hc1 hp (by omega)
  obtain ⟨g, M3, e3, hg, s3⟩ := r_base s2.cl' s2.pot (by omega)
  have hr : (rangeI 0 4).length = 4 := rfl
  obtain ⟨M4, e4, s4⟩ := turns_ok (k := n) hm hg (.scr (ns.map .int)) (rangeI 0 4) M3 _ none none none none s3.cl' s3.pot (by rw [hr]; omega)
  refine ⟨M4, some (.ref M.length), some (.int m), some (.int g), ?_, s4.cl'⟩
  unfold kB
  refine seq_eq [some (.scr (ns.map .int)), some (.int n), some (.ref M.length), none, none, none, none, none, none] (M ++ [potC p0 p1 0]) (by simp [R.bind, R.st, e0]) ?_
  refine seq_eq [some (.scr (ns.map .int)), some (.int n), some (.ref M.length), some (.int m), some (.int g), none, none, none, none] M3 (by simp [R.bind, R.st, e2, e3]) ?_
  simp only [x_sFor, x_itR1, x_evC, R.bind, R.st, show smallI 4 = true by decide, if_true]
  exact e4
theorem ks_ok (ns : List Int) : ∀ (xs : List Nat) (M : Mem) (a p m g t x y z : Option D), (∀ n ∈ xs, n < 2) → closed M.length M = true → ∃ M', forL (.nm 1) kB [1, 2, 3, 4, 5, 6, 7, 8] (xs.map fun i : Nat => D.int (0 + (i : Nat))) [some (.scr (ns.map .int)), a, p, m, g, t, x, y, z] M = .ok (.nx [some (.scr (ns.map .int)), none, none, none, none, none, none, none, none]) M' ∧ closed M'.length M' = true
  | [], M, a, p, m, g, t, x, y, z, _, hc => ⟨M, by simp, hc⟩
  | n :: xs, M, a, p, m, g, t, x, y, z, hx, hc => by
    obtain ⟨M1, P, m1, g1, e1, c1⟩ := k_ok ns n (hx n (by simp)) M hc
    obtain ⟨M2, e2, c2⟩ := ks_ok ns xs M1 (some (.int n)) P m1 g1 none none none none (fun i hi => hx i (by simp [hi])) c1
    refine ⟨M2, ?_, c2⟩
    rw [List.map_cons]
    unfold forL
    simp only [x_kill, x_kill0, x_putn, List.set_cons_succ, List.set_cons_zero]
    rw [show (0 : Int) + (n : Int) = n from Int.zero_add _, e1]
    simp only [R.bind]
    exact e2
theorem law_true (ns : List Int) (h : ns.length ≤ 63) : ∃ M, run_law [.scr (ns.map D.int)] [] = .ok (.bl true) M := by
  generalize hj : (if (1 : Int) < (if (ns.length : Int) < 2 then (ns.length : Int) else 2) then (if (ns.length : Int) < 2 then (ns.length : Int) else 2) else 1) = j
  have hj2 : j = 1 ∨ j = 2 := by omega
  obtain ⟨M1, e1, c1⟩ := ks_ok ns (List.range j.toNat) [] none none none none none none none none (fun n hn => by rw [List.mem_range] at hn; omega) rfl
  have hr : rangeI 0 j = (List.range j.toNat).map fun i : Nat => D.int (0 + (i : Nat)) := by unfold rangeI; simp
  refine ⟨M1.take 0, fnT_cut (M := []) rfl ?_ rfl (by simp [closed])⟩
  show body_law [some (.scr (ns.map D.int)), none, none, none, none, none, none, none, none] [] = _
  unfold body_law
  refine seq_eq [some (.scr (ns.map D.int)), none, none, none, none, none, none, none, none] M1 ?_ (by simp [R.bind, R.st])
  simp only [x_sFor, x_itR1, x_evB, x_evCons, x_evC, x_evNil, x_evVar, R.bind, R.st, List.getElem?_cons_zero, x_lens, x_lift, x_min, x_max, List.length_map, hj, show smallI j = true by rcases hj2 with e | e <;> subst e <;> decide, if_true, hr]
  unfold kB turnB at e1
  exact e1
end Nv
/-! H93: the head, printed by gen.py. -/
open PySem PySem.W PyProof.Rows
set_option maxRecDepth 100000 in
set_option maxHeartbeats 0 in
theorem PySem.Challenge.cw_nearadds_k93_whole_sums_pass_steps_holds : PySem.Challenge.rw_nearadds_k93_whole_sums_pass_steps.Holds := by
  w_on; o_law; k_head; (case hw => w_witness2)
  k_fill
  refine Nv.walk_end (l := PySem.Challenge.rw_nearadds_k93_whole_sums_pass_steps) (n := 63) (k := 10) (x := "_law_script") (g := Nv.run_law) rfl (by decide) rfl ⟨rfl, by decide, by decide⟩ (fun w h Y => PySem.W.kIn_of Y) ?F Nv.law_true
  case F =>
    intro w mg fa h KX G hmg
    refine' Nv.go_93 KX G hmg ?c0 ?T
    (case c0 => k_is)
    case T =>
      refine' { b_abs := ?f0, b_all := ?f1, b_bool := ?f2, b_dict := ?f3, b_int := ?f4, b_isinstance := ?f5, b_len := ?f6, b_max := ?f7, b_min := ?f8, b_range := ?f9, b_repr := ?f10, b_sorted := ?f11, b_sum := ?f12, b_tuple := ?f13, a_PRIMES := ?f14, Live_fl := ?f15, Live_cl := ?f16, Live_gl := ?f17, Live_n0 := ?f18, Live_n1 := ?f19, Live_n2 := ?f20, Live_n3 := ?f21, Live_ic := ?f22, d_is_integer := ?f23, d_is_modulus := ?f24, d_are_pairs := ?f25, d_is_of_modulus := ?f26, d_is_a_rule := ?f27, d_is_a_row := ?f28, d_need_rule := ?f29, d_need_row := ?f30, d_need_same := ?f31, d_collected := ?f32, d_plus := ?f33, d_behind := ?f34, d_step := ?f35, d_added := ?f36, d_places_apart := ?f37, d_Live__init := ?f38, d_Live_row := ?f39, d_Live_modulus := ?f40, d_Live__eq := ?f41, d_Live_done := ?f42, d_Live_step := ?f43, d_Live_add := ?f44, d_Live_move := ?f45, d_Live_count := ?f46, d_Live_total := ?f47, d_Live_unlike_places := ?f48, d_law_pot := ?f49, d_law_draw := ?f50, d_law_modulus := ?f51, d_law_terms := ?f52, d_law_great := ?f53, d_law_base := ?f54, d_law_short_row := ?f55, d_law_same := ?f56, d_law_against := ?f57, d_law_places := ?f58, d_law_sums_right := ?f59, d_law_unlike_right := ?f60, d_law_rules_right := ?f61, d_law := ?f62, l_step_rules := ?f63, k_added_1_0 := ?f64, k_step_rules_1_0 := ?f65 }
      (case f0 => exact mg_none_of KX G (by k_is))
      (case f1 => exact mg_none_of KX G (by k_is))
      (case f2 => exact mg_none_of KX G (by k_is))
      (case f3 => exact mg_none_of KX G (by k_is))
      (case f4 => exact mg_none_of KX G (by k_is))
      (case f5 => exact mg_none_of KX G (by k_is))
      (case f6 => exact mg_none_of KX G (by k_is))
      (case f7 => exact mg_none_of KX G (by k_is))
      (case f8 => exact mg_none_of KX G (by k_is))
      (case f9 => exact mg_none_of KX G (by k_is))
      (case f10 => exact mg_none_of KX G (by k_is))
      (case f11 => exact mg_none_of KX G (by k_is))
      (case f12 => exact mg_none_of KX G (by k_is))
      (case f13 => exact mg_none_of KX G (by k_is))
      (case f14 => (refine' ⟨_, mg_of KX G ?a, ⟨⟨_, _, ?l, ?e⟩, ?nd, ?ns⟩⟩; (case a => k_is); (case l => (conv => lhs; whnf)); (case e => first | rfl | decide +kernel); (case nd => decide); (case ns => rfl)))
      (case f15 => rfl)
      (case f16 => (refine' Nv.cls_of rfl ?cl; (case cl => (refine' ⟨?p1, ?p2, ?p3, ?p4⟩; (case p1 => k_is); (case p2 => k_is); (case p3 => k_is); (case p4 => k_is)))))
      (case f17 => exact mg_of KX G (by k_is))
      (case f18 => (refine' Nv.na_of rfl ?a; (case a => k_is)))
      (case f19 => (refine' Nv.na_of rfl ?a; (case a => k_is)))
      (case f20 => (refine' Nv.na_of rfl ?a; (case a => k_is)))
      (case f21 => (refine' Nv.na_of rfl ?a; (case a => k_is)))
      (case f22 => (refine' Nv.ic_of rfl ?cl ?a ?b ?c ?d; (case cl => (refine' ⟨?p1, ?p2, ?p3, ?p4⟩; (case p1 => k_is); (case p2 => k_is); (case p3 => k_is); (case p4 => k_is))); (case a => k_is); (case b => k_is); (case c => k_is); (case d => k_is)))
      (case f23 => (refine' Nv.DF.mk' KX G ?a ?l ?c ?k ?b; (case a => k_is); (case l => k_is); (case c => k_is); (case k => k_is); (case b => (intro us hl; match us, hl with | [_], _ => rfl))))
      (case f24 => (refine' Nv.DF.mk' KX G ?a ?l ?c ?k ?b; (case a => k_is); (case l => k_is); (case c => k_is); (case k => k_is); (case b => (intro us hl; match us, hl with | [_], _ => rfl))))
      (case f25 => (refine' Nv.DF.mk' KX G ?a ?l ?c ?k ?b; (case a => k_is); (case l => k_is); (case c => k_is); (case k => k_is); (case b => (intro us hl; match us, hl with | [_, _], _ => rfl))))
      (case f26 => (refine' Nv.DF.mk' KX G ?a ?l ?c ?k ?b; (case a => k_is); (case l => k_is); (case c => k_is); (case k => k_is); (case b => (intro us hl; match us, hl with | [_], _ => rfl))))
      (case f27 => (refine' Nv.DF.mk' KX G ?a ?l ?c ?k ?b; (case a => k_is); (case l => k_is); (case c => k_is); (case k => k_is); (case b => (intro us hl; match us, hl with | [_], _ => rfl))))
      (case f28 => (refine' Nv.DF.mk' KX G ?a ?l ?c ?k ?b; (case a => k_is); (case l => k_is); (case c => k_is); (case k => k_is); (case b => (intro us hl; match us, hl with | [_], _ => rfl))))
      (case f29 => (refine' Nv.DF.mk' KX G ?a ?l ?c ?k ?b; (case a => k_is); (case l => k_is); (case c => k_is); (case k => k_is); (case b => (intro us hl; match us, hl with | [_], _ => rfl))))
      (case f30 => (refine' Nv.DF.mk' KX G ?a ?l ?c ?k ?b; (case a => k_is); (case l => k_is); (case c => k_is); (case k => k_is); (case b => (intro us hl; match us, hl with | [_], _ => rfl))))
      (case f31 => (refine' Nv.DF.mk' KX G ?a ?l ?c ?k ?b; (case a => k_is); (case l => k_is); (case c => k_is); (case k => k_is); (case b => (intro us hl; match us, hl with | [_, _], _ => rfl))))
      (case f32 => (refine' Nv.DF.mk' KX G ?a ?l ?c ?k ?b; (case a => k_is); (case l => k_is); (case c => k_is); (case k => k_is); (case b => (intro us hl; match us, hl with | [_, _], _ => rfl))))
      (case f33 => (refine' Nv.DF.mk' KX G ?a ?l ?c ?k ?b; (case a => k_is); (case l => k_is); (case c => k_is); (case k => k_is); (case b => (intro us hl; match us, hl with | [_, _], _ => rfl))))
      (case f34 => (refine' Nv.DF.mk' KX G ?a ?l ?c ?k ?b; (case a => k_is); (case l => k_is); (case c => k_is); (case k => k_is); (case b => (intro us hl; match us, hl with | [_, _], _ => rfl))))
      (case f35 => (refine' Nv.DF.mk' KX G ?a ?l ?c ?k ?b; (case a => k_is); (case l => k_is); (case c => k_is); (case k => k_is); (case b => (intro us hl; match us, hl with | [_, _], _ => rfl))))
      (case f36 => (refine' Nv.DF.mk' KX G ?a ?l ?c ?k ?b; (case a => k_is); (case l => k_is); (case c => k_is); (case k => k_is); (case b => (intro us hl; match us, hl with | [_, _], _ => rfl))))
      (case f37 => (refine' Nv.DF.mk' KX G ?a ?l ?c ?k ?b; (case a => k_is); (case l => k_is); (case c => k_is); (case k => k_is); (case b => (intro us hl; match us, hl with | [_, _], _ => rfl))))
      (case f38 => (refine' Nv.IF.mk' rfl ?gl ?mk ?kc ?a ?i ?l ?c ?k ?b; (case gl => exact mg_of KX G (by k_is)); (case mk => k_is); (case kc => k_is); (case a => k_is); (case i => k_is); (case l => k_is); (case c => k_is); (case k => k_is); (case b => (intro us hl; match us, hl with | [_, _], _ => rfl))))
      (case f39 => (refine' Nv.PF.mk' rfl ?cl ?a ?g1 ?g2 ?g3 ?l ?c ?k ?b; (case cl => (refine' ⟨?p1, ?p2, ?p3, ?p4⟩; (case p1 => k_is); (case p2 => k_is); (case p3 => k_is); (case p4 => k_is))); (case a => k_is); (case g1 => k_is); (case g2 => k_is); (case g3 => k_is); (case l => k_is); (case c => k_is); (case k => k_is); (case b => (intro us hl; match us, hl with | [_], _ => rfl))))
      (case f40 => (refine' Nv.PF.mk' rfl ?cl ?a ?g1 ?g2 ?g3 ?l ?c ?k ?b; (case cl => (refine' ⟨?p1, ?p2, ?p3, ?p4⟩; (case p1 => k_is); (case p2 => k_is); (case p3 => k_is); (case p4 => k_is))); (case a => k_is); (case g1 => k_is); (case g2 => k_is); (case g3 => k_is); (case l => k_is); (case c => k_is); (case k => k_is); (case b => (intro us hl; match us, hl with | [_], _ => rfl))))
      (case f41 => (refine' Nv.QF.mk' rfl ?a ?i ?l ?c ?k ?b; (case a => k_is); (case i => k_is); (case l => k_is); (case c => k_is); (case k => k_is); (case b => (intro us hl; match us, hl with | [_, _], _ => rfl))))
      (case f42 => (refine' Nv.MF.mk' rfl ?cl ?nf ?a ?i ?l ?c ?k ?b; (case cl => (refine' ⟨?p1, ?p2, ?p3, ?p4⟩; (case p1 => k_is); (case p2 => k_is); (case p3 => k_is); (case p4 => k_is))); (case nf => decide); (case a => k_is); (case i => k_is); (case l => k_is); (case c => k_is); (case k => k_is); (case b => (intro us hl; match us, hl with | [_, _, _], _ => rfl))))
      (case f43 => (refine' Nv.MF.mk' rfl ?cl ?nf ?a ?i ?l ?c ?k ?b; (case cl => (refine' ⟨?p1, ?p2, ?p3, ?p4⟩; (case p1 => k_is); (case p2 => k_is); (case p3 => k_is); (case p4 => k_is))); (case nf => decide); (case a => k_is); (case i => k_is); (case l => k_is); (case c => k_is); (case k => k_is); (case b => (intro us hl; match us, hl with | [_, _], _ => rfl))))
      (case f44 => (refine' Nv.MF.mk' rfl ?cl ?nf ?a ?i ?l ?c ?k ?b; (case cl => (refine' ⟨?p1, ?p2, ?p3, ?p4⟩; (case p1 => k_is); (case p2 => k_is); (case p3 => k_is); (case p4 => k_is))); (case nf => decide); (case a => k_is); (case i => k_is); (case l => k_is); (case c => k_is); (case k => k_is); (case b => (intro us hl; match us, hl with | [_, _], _ => rfl))))
      (case f45 => (refine' Nv.MF.mk' rfl ?cl ?nf ?a ?i ?l ?c ?k ?b; (case cl => (refine' ⟨?p1, ?p2, ?p3, ?p4⟩; (case p1 => k_is); (case p2 => k_is); (case p3 => k_is); (case p4 => k_is))); (case nf => decide); (case a => k_is); (case i => k_is); (case l => k_is); (case c => k_is); (case k => k_is); (case b => (intro us hl; match us, hl with | [_, _], _ => rfl))))
      (case f46 => (refine' Nv.MF.mk' rfl ?cl ?nf ?a ?i ?l ?c ?k ?b; (case cl => (refine' ⟨?p1, ?p2, ?p3, ?p4⟩; (case p1 => k_is); (case p2 => k_is); (case p3 => k_is); (case p4 => k_is))); (case nf => decide); (case a => k_is); (case i => k_is); (case l => k_is); (case c => k_is); (case k => k_is); (case b => (intro us hl; match us, hl with | [_], _ => rfl))))
      (case f47 => (refine' Nv.MF.mk' rfl ?cl ?nf ?a ?i ?l ?c ?k ?b; (case cl => (refine' ⟨?p1, ?p2, ?p3, ?p4⟩; (case p1 => k_is); (case p2 => k_is); (case p3 => k_is); (case p4 => k_is))); (case nf => decide); (case a => k_is); (case i => k_is); (case l => k_is); (case c => k_is); (case k => k_is); (case b => (intro us hl; match us, hl with | [_], _ => rfl))))
      (case f48 => (refine' Nv.MF.mk' rfl ?cl ?nf ?a ?i ?l ?c ?k ?b; (case cl => (refine' ⟨?p1, ?p2, ?p3, ?p4⟩; (case p1 => k_is); (case p2 => k_is); (case p3 => k_is); (case p4 => k_is))); (case nf => decide); (case a => k_is); (case i => k_is); (case l => k_is); (case c => k_is); (case k => k_is); (case b => (intro us hl; match us, hl with | [_, _], _ => rfl))))
      (case f49 => (refine' Nv.DF.mk' KX G ?a ?l ?c ?k ?b; (case a => k_is); (case l => k_is); (case c => k_is); (case k => k_is); (case b => (intro us hl; match us, hl with | [_, _], _ => rfl))))
      (case f50 => (refine' Nv.DF.mk' KX G ?a ?l ?c ?k ?b; (case a => k_is); (case l => k_is); (case c => k_is); (case k => k_is); (case b => (intro us hl; match us, hl with | [_, _], _ => rfl))))
      (case f51 => (refine' Nv.DF.mk' KX G ?a ?l ?c ?k ?b; (case a => k_is); (case l => k_is); (case c => k_is); (case k => k_is); (case b => (intro us hl; match us, hl with | [_], _ => rfl))))
      (case f52 => (refine' Nv.DF.mk' KX G ?a ?l ?c ?k ?b; (case a => k_is); (case l => k_is); (case c => k_is); (case k => k_is); (case b => (intro us hl; match us, hl with | [_, _, _], _ => rfl))))
      (case f53 => (refine' Nv.DF.mk' KX G ?a ?l ?c ?k ?b; (case a => k_is); (case l => k_is); (case c => k_is); (case k => k_is); (case b => (intro us hl; match us, hl with | [_], _ => rfl))))
      (case f54 => (refine' Nv.DF.mk' KX G ?a ?l ?c ?k ?b; (case a => k_is); (case l => k_is); (case c => k_is); (case k => k_is); (case b => (intro us hl; match us, hl with | [_], _ => rfl))))
      (case f55 => (refine' Nv.DF.mk' KX G ?a ?l ?c ?k ?b; (case a => k_is); (case l => k_is); (case c => k_is); (case k => k_is); (case b => (intro us hl; match us, hl with | [_, _, _, _], _ => rfl))))
      (case f56 => (refine' Nv.DF.mk' KX G ?a ?l ?c ?k ?b; (case a => k_is); (case l => k_is); (case c => k_is); (case k => k_is); (case b => (intro us hl; match us, hl with | [_, _], _ => rfl))))
      (case f57 => (refine' Nv.DF.mk' KX G ?a ?l ?c ?k ?b; (case a => k_is); (case l => k_is); (case c => k_is); (case k => k_is); (case b => (intro us hl; match us, hl with | [_, _, _], _ => rfl))))
      (case f58 => (refine' Nv.DF.mk' KX G ?a ?l ?c ?k ?b; (case a => k_is); (case l => k_is); (case c => k_is); (case k => k_is); (case b => (intro us hl; match us, hl with | [_], _ => rfl))))
      (case f59 => (refine' Nv.DF.mk' KX G ?a ?l ?c ?k ?b; (case a => k_is); (case l => k_is); (case c => k_is); (case k => k_is); (case b => (intro us hl; match us, hl with | [_, _, _, _], _ => rfl))))
      (case f60 => (refine' Nv.DF.mk' KX G ?a ?l ?c ?k ?b; (case a => k_is); (case l => k_is); (case c => k_is); (case k => k_is); (case b => (intro us hl; match us, hl with | [_, _], _ => rfl))))
      (case f61 => (refine' Nv.DF.mk' KX G ?a ?l ?c ?k ?b; (case a => k_is); (case l => k_is); (case c => k_is); (case k => k_is); (case b => (intro us hl; match us, hl with | [_, _, _], _ => rfl))))
      (case f62 => (refine' Nv.DF.mk' KX G ?a ?l ?c ?k ?b; (case a => k_is); (case l => k_is); (case c => k_is); (case k => k_is); (case b => (intro us hl; match us, hl with | [_], _ => rfl))))
      (case f63 => exact (mg_of KX G (by k_is)).trans (mg_of KX G (by k_is)).symm)
      (case f64 => (refine' Nv.DK.mk' "added" Nv.s_added KX G ?a ?l ?b; (case a => k_is); (case l => k_is); (case b => exact Nv.kb_of (Nv.gk_1_0_b fun _ _ => rfl) Nv.gk_1_0_v)))
      (case f65 => (refine' Nv.DK.mk' "step" Nv.s_step KX G ?a ?l ?b; (case a => k_is); (case l => k_is); (case b => exact Nv.kb_of (Nv.gk_1_0_b fun _ _ => rfl) Nv.gk_1_0_v)))
