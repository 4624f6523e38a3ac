import PyProof.Rows.All
import Wide.All
import OpenK.AllK
import Wide.FinOn
import Lean
import PySem.Challenge.RW_nm0142_03
set_option autoImplicit false
set_option linter.unusedVariables false
set_option tactic.hygienic false
set_option maxRecDepth 100000
set_option maxHeartbeats 4000000
set_option bootstrap.genMatcherCode false
set_option genSizeOf false
set_option compiler.extract_closed false
set_option genInjectivity false
set_option genCtorIdx false
set_option genSizeOfSpec false
namespace Mine.Internal
section
inductive MV where
 | none
 | bool (b : Bool)
 | int (i : Int)
 | str (k : Nat)
 | tup (l : List MV)
 | ref (a : Nat)
noncomputable def MV.ctorIdx (x : MV) : Nat := @MV.casesOn (fun Z => Nat) x 0 (fun Z => 1) (fun Z => 2) (fun Z => 3) (fun Z => 4) (fun Z => 5)
set_option genInjectivity true in
inductive MObj where
 | list (fz : Bool) (vs : List MV)
 | dict (fz : Bool) (es : List (MV × MV))
 | inst (c : Nat) (d : Nat)
noncomputable def MObj.ctorIdx (x : MObj) : Nat := @MObj.casesOn (fun Z => Nat) x (fun Z Z => 0) (fun Z Z => 1) (fun Z Z => 2)
abbrev MH := List MObj
structure MExc where
 why : MV
 fn : MV
 at_ : MV
inductive R (α : Type) where
 | ok (a : α) (H : MH)
 | exc (x : MExc) (H : MH)
 | bad
noncomputable def R.ctorIdx {α : Type} (x : R α) : Nat := @R.casesOn α (fun Z => Nat) x (fun Z Z => 0) (fun Z Z => 1) 2
noncomputable def R.bind {α β : Type} : R α → (α → MH → R β) → R β
 | .ok a H, f => f a H
 | .exc x H, _ => .exc x H
 | .bad, _ => .bad
noncomputable def optR {α : Type} (H : MH) : Option α → R α
 | some a => .ok a H
 | none => .bad
abbrev Loc := Nat → Option MV
noncomputable def upd (ρ : Loc) (x : Nat) (v : MV) : Loc := fun y => if y = x then some v else ρ y
set_option genCtorIdx true in
inductive BOp where | add | sub | mul | fdiv | fmod
 deriving DecidableEq
set_option genCtorIdx true in
inductive COp where | eq | ne | lt | le | gt | ge | is | isnot | isin | notin
 deriving DecidableEq
set_option genCtorIdx true in
inductive Bi where | len | abs | list | tuple
 deriving DecidableEq
set_option genCtorIdx true in
inductive IK where | val | range | enum
 deriving DecidableEq
inductive CE where
 | con (v : MV)
 | loc (x : Nat)
 | glob (g : Nat)
 | bin (op : BOp) (a b : CE)
 | not (a : CE)
 | bool (isAnd : Bool) (es : List CE)
 | cmp (a : CE) (ops : List COp) (bs : List CE)
 | ite (t a b : CE)
 | list (es : List CE)
 | tup (es : List CE)
 | dict (kvs : List CE)
 | attr (o : CE) (k : Nat)
 | sub (o i : CE)
 | slFrom (o a : CE)
 | slTo (o b : CE)
 | callF (f : Nat) (args : List CE)
 | callC (c : Nat) (args : List CE)
 | callB (b : Bi) (a : CE)
 | callM (o : CE) (k : Nat) (args : List CE)
 | comp (elt : CE) (x : Nat) (k : IK) (src : List CE) (conds : List CE)
noncomputable def CE.ctorIdx (x : CE) : Nat := @CE.casesOn (fun Z => Nat) x (fun Z => 0) (fun Z => 1) (fun Z => 2) (fun Z Z Z => 3) (fun Z => 4) (fun Z Z => 5) (fun Z Z Z => 6) (fun Z Z Z => 7) (fun Z => 8) (fun Z => 9) (fun Z => 10) (fun Z Z => 11) (fun Z Z => 12) (fun Z Z => 13) (fun Z Z => 14) (fun Z Z => 15) (fun Z Z => 16) (fun Z Z => 17) (fun Z Z Z => 18) (fun Z Z Z Z Z => 19)
inductive CS where
 | expr (e : CE)
 | asg (x : Nat) (e : CE)
 | asgT (xs : List Nat) (e : CE)
 | setA (o : CE) (k : Nat) (e : CE)
 | setI (o i e : CE)
 | augI (o i : CE) (op : BOp) (e : CE)
 | ifs (t : CE) (b o : List CS)
 | whl (t : CE) (b : List CS)
 | for (xs : List Nat) (uq : Bool) (k : IK) (src : List CE) (b : List CS)
 | ret (e : CE)
 | raise (a b c : CE)
 | try (b : List CS) (x : Nat) (h : List CS)
noncomputable def CS.ctorIdx (x : CS) : Nat := @CS.casesOn (fun Z => Nat) x (fun Z => 0) (fun Z Z => 1) (fun Z Z => 2) (fun Z Z Z => 3) (fun Z Z Z => 4) (fun Z Z Z Z => 5) (fun Z Z Z => 6) (fun Z Z => 7) (fun Z Z Z Z Z => 8) (fun Z => 9) (fun Z Z Z => 10) (fun Z Z Z => 11)
inductive MFlow where | next | ret (v : MV)
noncomputable def MFlow.ctorIdx (x : MFlow) : Nat := @MFlow.casesOn (fun Z => Nat) x 0 (fun Z => 1)
inductive RS where
 | ok (f : MFlow) (ρ : Loc) (H : MH)
 | exc (x : MExc) (ρ : Loc) (H : MH)
 | bad
noncomputable def RS.ctorIdx (x : RS) : Nat := @RS.casesOn (fun Z => Nat) x (fun Z Z Z => 0) (fun Z Z Z => 1) 2
noncomputable def R.then {α : Type} (ρ : Loc) : R α → (α → MH → RS) → RS
 | .ok a H, f => f a H
 | .exc x H, _ => .exc x ρ H
 | .bad, _ => .bad
noncomputable def RS.calm : RS → RS
 | .ok f _ H => .ok f (fun Z => none) H
 | .exc _ _ _ => .bad
 | .bad => .bad
noncomputable def exc3 (ρ : Loc) (H : MH) : List MV → RS
 | [x, y, z] => .exc ⟨x, y, z⟩ ρ H
 | _ => .bad
noncomputable def RS.seq : RS → (Loc → MH → RS) → RS
 | .ok .next ρ H, k => k ρ H
 | .ok (.ret v) ρ H, _ => .ok (.ret v) ρ H
 | .exc x ρ H, _ => .exc x ρ H
 | .bad, _ => .bad
noncomputable def sizeL : Nat := 16777216
noncomputable def prim : MV → Bool
 | .none => true
 | .int _ => true
 | .str _ => true
 | _ => false
noncomputable def primEq : MV → MV → Bool
 | .none, .none => true
 | .int a, .int b => a == b
 | .str a, .str b => a == b
 | _, _ => false
noncomputable def primsEq : List MV → List MV → Bool
 | [], [] => true
 | a :: as, b :: bs => primEq a b && primsEq as bs
 | _, _ => false
inductive Vw where
 | p (v : MV)
 | t (l : List MV)
 | l (l : List MV)
noncomputable def Vw.ctorIdx (x : Vw) : Nat := @Vw.casesOn (fun Z => Nat) x (fun Z => 0) (fun Z => 1) (fun Z => 2)
noncomputable def MObj.list? : MObj → Option (List MV)
 | .list _ l => some l
 | _ => none
noncomputable def MObj.listW? : MObj → Option (List MV)
 | .list false l => some l
 | _ => none
noncomputable def MObj.dictR? : MObj → Option (List (MV × MV))
 | .dict true l => some l
 | _ => none
noncomputable def MObj.dictW? : MObj → Option (List (MV × MV))
 | .dict false l => some l
 | _ => none
noncomputable def MObj.inst? : MObj → Option (Nat × Nat)
 | .inst c d => some (c, d)
 | _ => none
noncomputable def view (H : MH) : MV → Option Vw
 | .none => some (.p .none)
 | .int i => some (.p (.int i))
 | .str k => some (.p (.str k))
 | .tup l => if l.all prim then some (.t l) else none
 | .ref i => (H[i]?.bind MObj.list?).bind fun l => if l.all prim then some (.l l) else none
 | .bool _ => none
noncomputable def views (H : MH) : List MV → Option (List Vw)
 | [] => some []
 | v :: r => (view H v).bind fun a => (views H r).map fun b => a :: b
noncomputable def vwEq : Vw → Vw → Bool
 | .p a, .p b => primEq a b
 | .t a, .t b => primsEq a b
 | .l a, .l b => primsEq a b
 | _, _ => false
noncomputable def mEq (H : MH) (a b : MV) : Option Bool := (view H a).bind fun x => (view H b).map fun y => vwEq x y
noncomputable def keyEq : MV → MV → Bool
 | .str a, .str b => a == b
 | .int a, .int b => a == b
 | _, _ => false
noncomputable def isS : MV → Bool
 | .str _ => true
 | _ => false
noncomputable def dGet (k : MV) : List (MV × MV) → Option MV
 | [] => none
 | (a, v) :: r => if keyEq a k then some v else dGet k r
noncomputable def dSet (k v : MV) : List (MV × MV) → List (MV × MV)
 | [] => [(k, v)]
 | (a, u) :: r => if keyEq a k then (a, v) :: r else (a, u) :: dSet k v r
noncomputable def mIn (H : MH) : MV → MV → Option Bool
 | v, .tup l => (view H v).bind fun x => (views H l).map fun ys => ys.any fun y => vwEq y x
 | .int k, .ref i => (H[i]?.bind MObj.dictR?).map fun es => (dGet (.int k) es).isSome
 | _, _ => none
noncomputable def int2 : MV → MV → Option (Int × Int)
 | .int a, .int b => some (a, b)
 | _, _ => none
noncomputable def cmpI (a b : Int) : COp → Option Bool
 | .lt => some (decide (a < b))
 | .le => some (decide (a ≤ b))
 | .gt => some (decide (a > b))
 | .ge => some (decide (a ≥ b))
 | _ => none
noncomputable def isN : MV → Bool
 | .none => true
 | _ => false
noncomputable def mComp (H : MH) : COp → MV → MV → Option Bool
 | .eq, a, b => mEq H a b
 | .ne, a, b => (mEq H a b).map (!·)
 | .is, a, b => if isN b = true then some (isN a) else none
 | .isin, a, b => mIn H a b
 | op, a, b => (int2 a b).bind fun p => cmpI p.1 p.2 op
noncomputable def mCompR (op : COp) (a b : MV) (H : MH) : R Bool := optR H (mComp H op a b)
noncomputable def alloc (o : MObj) (H : MH) : R MV := .ok (.ref H.length) (H ++ [o])
noncomputable def newList (vs : List MV) (H : MH) : R MV := if vs.length ≤ sizeL then alloc (.list false vs) H else .bad
noncomputable def newTup (vs : List MV) (H : MH) : R MV := if vs.length ≤ sizeL then .ok (.tup vs) H else .bad
noncomputable def mAdd (H : MH) : MV → MV → R MV
 | .int a, .int b => .ok (.int (a + b)) H
 | .tup a, .tup b => newTup (a ++ b) H
 | .ref i, .ref j => (optR H (H[i]?.bind MObj.listW?)).bind fun a H => (optR H (H[j]?.bind MObj.listW?)).bind fun b H => newList (a ++ b) H
 | _, _ => .bad
noncomputable def arith (a b : Int) (H : MH) : BOp → R MV
 | .sub => .ok (.int (a - b)) H
 | .mul => if a.natAbs < 1000000000000 ∧ b.natAbs < 1000000000000 then .ok (.int (a * b)) H else .bad
 | .fdiv => if 0 < b ∧ b < 1000000000 then .ok (.int (a / b)) H else .bad
 | .fmod => if 0 < b ∧ b < 1000000000 then .ok (.int (a % b)) H else .bad
 | .add => .bad
noncomputable def mBin (H : MH) : BOp → MV → MV → R MV
 | .add, a, b => mAdd H a b
 | op, a, b => (optR H (int2 a b)).bind fun p H => arith p.1 p.2 H op
noncomputable def idx (k : Int) (n : Nat) : Option Nat :=
 if 0 ≤ k then (if k < n then some k.toNat else none) else (if 0 ≤ k + n then some (k + n).toNat else none)
noncomputable def mSub (H : MH) : MV → MV → R MV
 | .tup l, .int k => optR H ((idx k l.length).bind fun j => l[j]?)
 | .ref i, .int k => optR H ((H[i]?.bind MObj.list?).bind fun l => (idx k l.length).bind fun j => l[j]?)
 | .ref i, .str k => optR H ((H[i]?.bind MObj.dictW?).bind fun es => dGet (.str k) es)
 | _, _ => .bad
noncomputable def mSetI (H : MH) : MV → MV → MV → Option MH
 | .ref i, .int k, v => (H[i]?.bind MObj.listW?).bind fun l => if 0 ≤ k ∧ k < l.length then some (H.set i (.list false (l.set k.toNat v))) else none
 | .ref i, .str k, v => (H[i]?.bind MObj.dictW?).bind fun es => if es.length < 1000 then some (H.set i (.dict false (dSet (.str k) v es))) else none
 | _, _, _ => none
set_option genCtorIdx true in
inductive LM where | append | pop | extend | reverse
 deriving DecidableEq
structure Code where
 meth : Nat → Nat → Option Nat
 lm : Nat → Option LM
 glob : Nat → Option MV
 init : Nat → Option Nat
 excC : Nat
 excK : Nat × Nat × Nat
noncomputable def mAttr (P : Code) (H : MH) : MV → Nat → R MV
 | .ref i, k => optR H ((H[i]?.bind MObj.inst?).bind fun c => (H[c.2]?.bind MObj.dictW?).bind fun es => if P.meth c.1 k = none then dGet (.str k) es else none)
 | _, _ => .bad
noncomputable def mSetA (P : Code) (H : MH) : MV → Nat → MV → Option MH
 | .ref i, k, v => (H[i]?.bind MObj.inst?).bind fun c => (H[c.2]?.bind MObj.dictW?).bind fun es => if (P.meth c.1 k = none ∧ c.1 ≠ P.excC) ∧ es.length < 900 then some (H.set c.2 (.dict false (dSet (.str k) v es))) else none
 | _, _, _ => none
noncomputable def seqOf (H : MH) : MV → Option (List MV)
 | .tup l => some l
 | .ref i => H[i]?.bind MObj.list?
 | _ => none
noncomputable def refInt : MV → MV → Option (Nat × Int)
 | .ref i, .int k => some (i, k)
 | _, _ => none
noncomputable def mSl (H : MH) (a b : MV) (f : List MV → Int → Option (List MV)) : R MV := (optR H ((refInt a b).bind fun p => (H[p.1]?.bind MObj.list?).bind fun l => f l p.2)).bind newList
noncomputable def mSlFrom (H : MH) (a b : MV) : R MV := mSl H a b fun l k => if 0 ≤ k ∧ k ≤ l.length then some (l.drop k.toNat) else none
noncomputable def mSlTo (H : MH) (a b : MV) : R MV := mSl H a b fun l k => if 0 ≤ k ∧ k ≤ 16777216 then some (l.take k.toNat) else none
noncomputable def mBi (H : MH) : Bi → MV → R MV
 | .len, v => optR H ((seqOf H v).map fun l => .int l.length)
 | .abs, .int a => .ok (.int (if a < 0 then -a else a)) H
 | .list, v => (optR H (seqOf H v)).bind newList
 | .tuple, v => (optR H (seqOf H v)).bind newTup
 | _, _ => .bad
noncomputable def mLM (H : MH) (i : Nat) (l : List MV) : LM → List MV → R MV
 | .append, [v] => if l.length < sizeL then .ok .none (H.set i (.list false (l ++ [v]))) else .bad
 | .extend, [v] => (optR H (seqOf H v)).bind fun m H => if l.length + m.length ≤ sizeL then .ok .none (H.set i (.list false (l ++ m))) else .bad
 | .pop, [] => (optR H l.getLast?).bind fun v H => .ok v (H.set i (.list false l.dropLast))
 | .reverse, [] => .ok .none (H.set i (.list false l.reverse))
 | _, _ => .bad
abbrev Orc := Nat → List MV → MH → R MV
section
variable (P : Code) (C : Orc) (N : Nat) (rz : Bool)
inductive MK where
 | lm (m : LM) (i : Nat)
 | fn (f : Nat)
noncomputable def MK.ctorIdx (x : MK) : Nat := @MK.casesOn (fun Z => Nat) x (fun Z Z => 0) (fun Z => 1)
noncomputable def kindAt (H : MH) (k n i : Nat) : MObj → Option MK
 | .list false _ => if n ≤ 1 then (P.lm k).map fun m => .lm m i else none
 | .inst c d => (H[d]?.bind MObj.dictW?).bind fun es => if c ≠ P.excC ∧ dGet (.str k) es = none then (P.meth c k).map .fn else none
 | _ => none
noncomputable def mKind (H : MH) (o : MV) (k n : Nat) : Option MK := match o with
 | .ref i => H[i]?.bind (kindAt P H k n i)
 | _ => none
noncomputable def mMeth (m : MK) (o : MV) (args : List MV) (H : MH) : R MV := match m with
 | .lm m i => (optR H (H[i]?.bind MObj.listW?)).bind fun l H => mLM H i l m args
 | .fn f => C f (o :: args) H
noncomputable def mNew (c : Nat) (args : List MV) (H : MH) : R MV := if c = P.excC then .bad else (optR H (P.init c)).bind fun f Z =>
 (C f (.ref (H.length + 1) :: args) (H ++ [.dict false [], .inst c H.length])).bind fun v H' => if isN v = true then .ok (.ref (H.length + 1)) H' else .bad
noncomputable def cut (ρ : Loc) : Loc := fun y => if y < 1000 then ρ y else none
noncomputable def upds (ρ : Loc) : List Nat → List MV → Option Loc
 | [], [] => some ρ
 | x :: xs, v :: vs => upds (upd ρ x v) xs vs
 | _, _ => none
noncomputable def bindT (ρ : Loc) (xs : List Nat) (uq : Bool) (v : MV) : Option Loc := match uq, xs, v with
 | false, [x], v => some (upd ρ x v)
 | true, xs, .tup l => upds ρ xs l
 | _, _, _ => none
inductive Src where
 | seq (l : List MV)
 | lst (i : Nat)
 | enl (i : Nat)
noncomputable def Src.ctorIdx (x : Src) : Nat := @Src.casesOn (fun Z => Nat) x (fun Z => 0) (fun Z => 1) (fun Z => 2)
noncomputable def Src.isEn : Src → Bool
 | .enl _ => true
 | _ => false
noncomputable def Src.seq? : Src → Option (List MV)
 | .seq l => some l
 | _ => none
noncomputable def rangeL (a b : Int) : List MV := (List.range (b - a).toNat).map fun (j : Nat) => MV.int (a + j)
noncomputable def rangeD (a b : Int) : List MV := (List.range (a - b).toNat).map fun (j : Nat) => MV.int (a - j)
noncomputable def mSrc (H : MH) : IK → List MV → Option Src
 | .val, [.tup l] => some (.seq l)
 | .val, [.ref i] => (H[i]?.bind MObj.list?).map fun Z => .lst i
 | .range, [.int n] => if -16777216 ≤ n ∧ n ≤ 16777216 then some (.seq (rangeL 0 n)) else none
 | .range, [.int a, .int b] => if 0 ≤ a ∧ a ≤ 16777216 ∧ -16777216 ≤ b ∧ b ≤ 16777216 then some (.seq (rangeL a b)) else none
 | .range, [.int a, .int b, .int c] => if -1 ≤ a ∧ a ≤ 16777216 ∧ b = -1 ∧ c = -1 then some (.seq (rangeD a b)) else none
 | .enum, [.ref i] => (H[i]?.bind MObj.list?).map fun Z => .enl i
 | _, _ => none
noncomputable def compS (f : MV → MH → R (Option MV)) : List MV → MH → R (List MV)
 | [], H => .ok [] H
 | v :: vs, H => (f v H).bind fun r H₁ => (compS f vs H₁).bind fun rs H₂ => .ok (r.toList ++ rs) H₂
noncomputable def R.still {α : Type} : R α → R α
 | .exc _ _ => .bad
 | r => r
noncomputable def toB : MV → MH → R Bool
 | .bool b, H => .ok b H
 | _, _ => .bad
noncomputable def mkPairs : List MV → Option (List (MV × MV))
 | [] => some []
 | k :: v :: r => (mkPairs r).map ((k, v) :: ·)
 | _ => none
noncomputable def mkDict (vs : List MV) : Option (List (MV × MV)) := (mkPairs vs).bind fun es => if es.length ≤ 15 ∧ es.all (fun e => isS e.1) = true then some (es.foldl (fun ds kv => dSet kv.1 kv.2 ds) []) else none
mutual
noncomputable def mE : CE → Loc → MH → R MV
 | .con v, _, H => .ok v H
 | .loc x, ρ, H => optR H (ρ x)
 | .glob g, _, H => optR H (P.glob g)
 | .bin op a b, ρ, H => (mE a ρ H).bind fun x H => (mE b ρ H).bind fun y H => mBin H op x y
 | .not a, ρ, H => (mE a ρ H).bind fun x H => (toB x H).bind fun b H => .ok (.bool (!b)) H
 | .bool k es, ρ, H => (mBool k es ρ H).bind fun b H => .ok (.bool b) H
 | .cmp a ops bs, ρ, H => (mE a ρ H).bind fun x H => (mChain x ops bs ρ H).bind fun b H => .ok (.bool b) H
 | .ite t a b, ρ, H => (mE t ρ H).bind fun x H => (toB x H).bind fun c H => if c then mE a ρ H else mE b ρ H
 | .list es, ρ, H => (mEs es ρ H).bind fun vs H => newList vs H
 | .tup es, ρ, H => (mEs es ρ H).bind fun vs H => newTup vs H
 | .dict kvs, ρ, H => (mEs kvs ρ H).bind fun vs H => (optR H (mkDict vs)).bind fun ds H => alloc (.dict false ds) H
 | .attr o k, ρ, H => (mE o ρ H).bind fun x H => mAttr P H x k
 | .sub o i, ρ, H => (mE o ρ H).bind fun x H => (mE i ρ H).bind fun y H => mSub H x y
 | .slFrom o a, ρ, H => (mE o ρ H).bind fun x H => (mE a ρ H).bind fun y H => mSlFrom H x y
 | .slTo o b, ρ, H => (mE o ρ H).bind fun x H => (mE b ρ H).bind fun y H => mSlTo H x y
 | .callF f args, ρ, H => (mEs args ρ H).bind fun vs H => C f vs H
 | .callC c args, ρ, H => (mEs args ρ H).bind fun vs H => mNew P C c vs H
 | .callB b a, ρ, H => (mE a ρ H).bind fun v H => mBi H b v
 | .callM o k args, ρ, H => (mE o ρ H).bind fun x H => (optR H (mKind P H x k args.length)).bind fun m H => (mEs args ρ H).bind fun vs H => mMeth C m x vs H
 | .comp elt x k src conds, ρ, H => if rz = false then .bad else (mEs src ρ H).bind fun vs H => (optR H ((mSrc H k vs).bind Src.seq?)).bind fun l H => (compS (fun v H => ((mBool true conds (upd (cut ρ) x v) H).bind fun c H => if c then (mE elt (upd (cut ρ) x v) H).bind fun r H => .ok (some r) H else .ok none H).still) l H).bind newList
noncomputable def mEs : List CE → Loc → MH → R (List MV)
 | [], _, H => .ok [] H
 | e :: es, ρ, H => (mE e ρ H).bind fun v H => (mEs es ρ H).bind fun vs H => .ok (v :: vs) H
noncomputable def mBool : Bool → List CE → Loc → MH → R Bool
 | k, [], _, H => .ok k H
 | k, e :: es, ρ, H => (mE e ρ H).bind fun v H => (toB v H).bind fun b H => if b = k then mBool k es ρ H else .ok b H
noncomputable def mChain : MV → List COp → List CE → Loc → MH → R Bool
 | x, [op], [b], ρ, H => (mE b ρ H).bind fun y H => mCompR op x y H
 | x, op :: ops, b :: bs, ρ, H => (mE b ρ H).bind fun y H => (mCompR op x y H).bind fun c H => if c then mChain y ops bs ρ H else .ok false H
 | _, _, _, _, _ => .bad
end
noncomputable def whlR (t : Loc → MH → R Bool) (b : Loc → MH → RS) : Nat → Loc → MH → RS
 | 0, _, _ => .bad
 | n + 1, ρ, H => (t ρ H).then ρ fun c H => if c then (b ρ H).seq (whlR t b n) else .ok .next ρ H
noncomputable def forS (xs : List Nat) (uq : Bool) (b : Loc → MH → RS) : List MV → Loc → MH → RS
 | [], ρ, H => .ok .next ρ H
 | v :: vs, ρ, H => (optR H (bindT ρ xs uq v)).then ρ fun ρ H => (b ρ H).seq (forS xs uq b vs)
noncomputable def forI (xs : List Nat) (uq : Bool) (b : Loc → MH → RS) (en : Bool) (i : Nat) : Nat → Nat → Loc → MH → RS
 | 0, _, _, _ => .bad
 | n + 1, j, ρ, H => (optR H (H[i]?.bind MObj.list?)).then ρ fun l H => match l[j]? with
   | some v => (optR H (bindT ρ xs uq (if en then .tup [.int j, v] else v))).then ρ fun ρ H => (b ρ H).seq (forI xs uq b en i n (j + 1))
   | none => .ok .next ρ H
noncomputable def forR (xs : List Nat) (uq : Bool) (b : Loc → MH → RS) : Src → Loc → MH → RS
 | .seq l, ρ, H => forS xs uq b l ρ H
 | .lst i, ρ, H => forI xs uq b false i N 0 ρ H
 | .enl i, ρ, H => if uq = false then .bad else forI xs uq b true i N 0 ρ H
end
section
variable (P : Code) (C : Bool → Orc) (N : Nat)
mutual
noncomputable def mS : CS → Bool → Loc → MH → RS
 | .expr e, rz, ρ, H => (mE P (C rz) rz e ρ H).then ρ fun Z H => .ok .next ρ H
 | .asg x e, rz, ρ, H => (mE P (C rz) rz e ρ H).then ρ fun v H => .ok .next (upd ρ x v) H
 | .asgT xs e, rz, ρ, H => if rz = false then .bad else (mE P (C rz) rz e ρ H).then ρ fun v H => (optR H (bindT ρ xs true v)).then ρ fun ρ H => .ok .next ρ H
 | .setA o k e, rz, ρ, H => (mE P (C rz) rz e ρ H).then ρ fun v H => (mE P (C rz) rz o ρ H).then ρ fun x H => (optR H (mSetA P H x k v)).then ρ fun H Z => .ok .next ρ H
 | .setI o i e, rz, ρ, H => (mE P (C rz) rz e ρ H).then ρ fun v H => (mE P (C rz) rz o ρ H).then ρ fun x H => (mE P (C rz) rz i ρ H).then ρ fun k H => (optR H (mSetI H x k v)).then ρ fun H Z => .ok .next ρ H
 | .augI o i op e, rz, ρ, H => (mE P (C rz) rz o ρ H).then ρ fun x H => (mE P (C rz) rz i ρ H).then ρ fun k H => (mSub H x k).then ρ fun a H => (mE P (C rz) rz e ρ H).then ρ fun b H =>
     (match a, b with | .int _, .int _ => mBin H op a b | _, _ => .bad).then ρ fun v H => (optR H (mSetI H x k v)).then ρ fun H Z => .ok .next ρ H
 | .ifs t b o, rz, ρ, H => (mE P (C rz) rz t ρ H).then ρ fun v H => (toB v H).then ρ fun c H => if c then mSs b rz ρ H else mSs o rz ρ H
 | .whl t b, rz, ρ, H => whlR (fun ρ H => (mE P (C rz) rz t ρ H).bind toB) (fun ρ H => mSs b rz ρ H) N ρ H
 | .for xs uq k src b, rz, ρ, H => if rz = false then .bad else (mEs P (C rz) rz src ρ H).then ρ fun vs H => (optR H (mSrc H k vs)).then ρ fun sr H => forR N xs uq (fun ρ H => mSs b rz ρ H) sr ρ H
 | .ret e, rz, ρ, H => (mE P (C rz) rz e ρ H).then ρ fun v H => .ok (.ret v) ρ H
 | .raise a b c, rz, ρ, H => if rz = false then .bad else (mEs P (C rz) rz [a, b, c] ρ H).then ρ fun vs H => exc3 ρ H vs
 | .try b x h, rz, ρ, H => match mSs b rz ρ H with
   | .exc e ρ H => (mSs h false (upd ρ x (.ref (H.length + 1))) (H ++ [.dict false [(.str P.excK.1, e.why), (.str P.excK.2.1, e.fn), (.str P.excK.2.2, e.at_)], .inst P.excC H.length])).calm
   | .ok f ρ H => .ok f ρ H
   | .bad => .bad
noncomputable def mSs : List CS → Bool → Loc → MH → RS
 | [], _, ρ, H => .ok .next ρ H
 | s :: ss, rz, ρ, H => (mS s rz ρ H).seq fun ρ H => mSs ss rz ρ H
end
end
structure Fn where
 params : List Nat
 body : List CS
noncomputable def RS.out : RS → R MV
 | .ok (.ret v) _ H => .ok v H
 | .ok .next _ H => .ok .none H
 | .exc x _ H => .exc x H
 | .bad => .bad
noncomputable def mCall (P : Code) (F : Nat → Option Fn) (N : Nat) : Nat → Bool → Orc
 | 0 => fun Z Z Z Z => .bad
 | d + 1 => fun rz f args H => (optR H (F f)).bind fun fn H => (optR H (upds (fun Z => none) fn.params args)).bind fun ρ H => (mSs P (mCall P F N d) N fn.body rz ρ H).out
theorem nle {a b : Nat} (h : Nat.ble a b = true) : a ≤ b := Nat.le_of_ble_eq_true h
theorem ar_dn {n l : Nat} (h : 0 < n) : n - 1 - l < n := Nat.lt_of_le_of_lt (Nat.sub_le _ _) (Nat.sub_one_lt_of_lt h)
theorem ar_dnI {n l : Nat} (h : l < n) : (n : Int) - 1 - l = ((n - 1 - l : Nat) : Int) := by
 rw [Int.ofNat_sub (Nat.le_sub_one_of_lt h), Int.ofNat_sub (Nat.succ_le_of_lt (Nat.zero_lt_of_lt h))]; rfl
theorem ar_turn {b L D n : Nat} (h1 : b < L) (h2 : n = L - b) (h3 : D = L - 1) : D - b < n := by
 subst h2; subst h3; exact Nat.sub_lt_sub_right (Nat.le_sub_one_of_lt h1) (Nat.sub_one_lt_of_lt h1)
theorem ar_le {b L D : Nat} (h1 : b < L) (h3 : D = L - 1) : b ≤ D := h3 ▸ Nat.le_sub_one_of_lt h1
theorem ar_N {a b N K : Nat} (hN : 2000000 ≤ N) (h : a ≤ K) (hk : Nat.ble (K + 1) 2000000 = true) : a - b < N :=
 Nat.lt_of_le_of_lt (Nat.sub_le _ _) (Nat.lt_of_le_of_lt h (Nat.lt_of_lt_of_le (nle hk) hN))
theorem ar_ne {i n a : Nat} (h : n ≤ i) (h1 : a < n) : ¬ i = a := Nat.ne_of_gt (Nat.lt_of_lt_of_le h1 h)
theorem ar_mod {n : Nat} (h1 : 0 < n) (h2 : n ≤ 4000) : 0 < (n : Int) ∧ (n : Int) < 1000000000 :=
 ⟨Int.ofNat_lt.mpr h1, Int.ofNat_lt.mpr (Nat.lt_of_le_of_lt h2 (nle rfl))⟩
theorem ar_rg {a b : Int} : (if a < b then b - a else 0) = ((b - a).toNat : Int) := by
 by_cases h : a < b
 · rw [if_pos h]; exact (Int.toNat_of_nonneg (Int.sub_nonneg_of_le (Int.le_of_lt h))).symm
 · rw [if_neg h, Int.toNat_eq_zero.mpr (Int.sub_nonpos_of_le (Int.not_lt.mp h))]; rfl
theorem ar_63 {k : Int} {n : Nat} {a b : Prop} (h : n ≤ 16777216) (q : (0 ≤ k ∧ a ∧ k < n) ∨ (k < 0 ∧ -(n : Int) ≤ k ∧ b)) : -2 ^ 63 ≤ k ∧ k < 2 ^ 63 := by
 rcases q with q | q
 · exact ⟨Int.le_trans (by decide) q.1, Int.lt_of_lt_of_le q.2.2 (Int.le_trans (Int.ofNat_le.mpr h) (by decide))⟩
 · exact ⟨Int.le_trans (by decide) (Int.le_trans (Int.neg_le_neg (Int.ofNat_le.mpr h)) q.2.1), Int.lt_trans q.1 (by decide)⟩
theorem ar_nat {x : Int} {n m : Nat} (h : 0 < x ∧ x < n) (hm : n.ble m = true) : x.natAbs < m :=
 Int.ofNat_lt.mp (by rw [Int.natAbs_of_nonneg (Int.le_of_lt h.1)]; exact Int.lt_of_lt_of_le h.2 (Int.ofNat_le.mpr (nle hm)))
theorem ar_gt {a b n : Nat} : (n : Int) < (a : Int) - (b : Int) ↔ b + n < a :=
 ⟨fun h => Int.ofNat_lt.mp (Int.add_lt_of_lt_sub_left h), fun h => Int.lt_sub_left_of_add_lt (Int.ofNat_lt.mpr h)⟩
end
section
open PySem (Pos Str Scope NameKind Expr Stmt Const Operator UnaryOp BoolOp CmpOp Comprehension ExceptHandler Arguments Arg Program)
structure CT where
 «strs» : List Str
 funs : List (Str × Nat)
 clss : List (Str × Nat)
 globs : List (Str × Nat)
 exc : Str
noncomputable def findIx (x : Str) : List Str → Nat → Option Nat
 | [], _ => none
 | y :: ys, n => if x == y then some n else findIx x ys (n + 1)
noncomputable def CT.str (T : CT) (x : Str) : Option Nat := findIx x T.strs 0
abbrev VM := List (Str × Nat)
noncomputable def cConst (T : CT) : Const → Option MV
 | .none => some .none
 | .bool b => some (.bool b)
 | .int i => some (.int i)
 | .str s => (T.str s).map .str
 | _ => none
noncomputable def isVar (sc : Scope) (x : Str) : Bool := !(x == ("__debug__" : Str)) && match sc.names.lookup x with
 | some .local => true
 | some .cell => true
 | some .free => true
 | _ => false
noncomputable def isGlob (sc : Scope) (x : Str) : Bool := !(x == ("__debug__" : Str)) && sc.names.lookup x == some .globalImplicit
noncomputable def cName (T : CT) (sc : Scope) (vm : VM) (x : Str) : Option CE :=
 if isVar sc x then (vm.lookup x).map .loc
 else if isGlob sc x then (T.globs.lookup x).map .glob else none
noncomputable def cBop : Operator → Option BOp
 | .Add => some .add
 | .Sub => some .sub
 | .Mult => some .mul
 | .FloorDiv => some .fdiv
 | .Mod => some .fmod
 | _ => none
noncomputable def cCop : CmpOp → COp
 | .Eq => .eq
 | .NotEq => .ne
 | .Lt => .lt
 | .LtE => .le
 | .Gt => .gt
 | .GtE => .ge
 | .Is => .is
 | .IsNot => .isnot
 | .In => .isin
 | .NotIn => .notin
noncomputable def biL : List (Str × Bi) := [("len", .len), ("abs", .abs), ("list", .list), ("tuple", .tuple)]
noncomputable def cBi (x : Str) : Option Bi := biL.lookup x
noncomputable def mapO {α β : Type} (f : α → Option β) : List α → Option (List β)
 | [] => some []
 | a :: r => (f a).bind fun b => (mapO f r).map fun bs => b :: bs
noncomputable def cTgt1 (sc : Scope) (vm : VM) : Expr → Option Nat
 | .Name x _ => if isVar sc x then vm.lookup x else none
 | _ => none
noncomputable def cTgt (sc : Scope) (vm : VM) : Expr → Option (List Nat × Bool)
 | .Name x p => (cTgt1 sc vm (.Name x p)).map fun n => ([n], false)
 | .Tuple es _ _ => (mapO (cTgt1 sc vm) es).map fun ns => (ns, true)
 | _ => none
noncomputable def nmOf : Expr → List Str
 | .Name n _ => [n]
 | _ => []
noncomputable def tgtNames : Expr → List Str
 | .Tuple es _ _ => es.flatMap nmOf
 | e => nmOf e
noncomputable def compVM (vm : VM) : List (Str × NameKind) → Nat → VM
 | [], _ => []
 | (x, .local) :: r, n => (x, n) :: compVM vm r (n + 1)
 | (x, .free) :: r, n => (match vm.lookup x with
   | some k => if k < 1000 then (x, k) :: compVM vm r (n + 1) else compVM vm r (n + 1)
   | none => compVM vm r (n + 1))
 | _ :: r, n => compVM vm r (n + 1)
noncomputable def cNeg : CE → Option CE
 | .con (.int i) => some (.con (.int (-i)))
 | _ => none
noncomputable def plainBase : Expr → Bool
 | .Call (.Name _ _) [] [] _ => false
 | _ => true
noncomputable def callName : Expr → Option (Str × Pos × List Expr × Pos)
 | .Call (.Name f p) args [] q => some (f, p, args, q)
 | _ => none
noncomputable def srcOf (sc : Scope) (e : Expr) : IK × List Expr := ((callName e).bind fun x => if isGlob sc x.1 && x.1 == "range" then some (.range, x.2.2.1) else if isGlob sc x.1 && x.1 == "enumerate" then some (.enum, x.2.2.1) else none).getD (.val, [e])
noncomputable def interleave {α : Type} : List (Option α) → List α → Option (List α)
 | [], [] => some []
 | some k :: ks, v :: vs => (interleave ks vs).map fun r => k :: v :: r
 | _, _ => none
noncomputable def one? : List CE → Option CE
 | [c] => some c
 | _ => none
noncomputable def callOf (T : CT) (f : Str) (cs : List CE) : Option CE := match T.funs.lookup f with
 | some k => some (.callF k cs)
 | none => match T.clss.lookup f with
   | some k => some (.callC k cs)
   | none => (cBi f).bind fun b => (one? cs).map fun c => .callB b c
noncomputable def compChk (sc : Scope) (vm : VM) (sc' : Scope) (vm' : VM) (tgt : Expr) : Bool :=
 decide (sc'.kind = .function) && ((tgtNames tgt).all (fun x => sc'.names.lookup x == some .local) && (sc'.names.all (fun x => x.2 != .cell && (sc'.names.lookup x.1 == some x.2 && (x.2 != .free || (sc.names.lookup x.1 == some .cell || sc.names.lookup x.1 == some .free)))) &&
   (vm'.all (fun p => (sc'.names.lookup p.1 == some .local && decide (1000 ≤ p.2)) || (sc'.names.lookup p.1 == some .free && (vm.lookup p.1 == some p.2 && decide (p.2 < 1000)))) &&
     (decide ((sc'.names.map (·.1)).Nodup) && decide (vm'.Pairwise fun x y => x.2 ≠ y.2)))))
noncomputable def cE (T : CT) : Nat → Scope → VM → Expr → Option CE
 | 0, _, _, _ => none
 | n + 1, sc, vm, e => match e with
   | .Constant c _ _ => (cConst T c).map .con
   | .Name x _ => cName T sc vm x
   | .BinOp l op r _ => (cE T n sc vm l).bind fun a => (cE T n sc vm r).bind fun b => (cBop op).map fun o => .bin o a b
   | .UnaryOp .USub x _ => (cE T n sc vm x).bind cNeg
   | .UnaryOp .Not x _ => (cE T n sc vm x).map .not
   | .BoolOp op es _ => if es.isEmpty then none else (mapO (cE T n sc vm) es).map fun cs => .bool (match op with | .And => true | .Or => false) cs
   | .Compare a ops bs _ => if ops.length ≠ bs.length then none else (cE T n sc vm a).bind fun x => (mapO (cE T n sc vm) bs).map fun ys => .cmp x (ops.map cCop) ys
   | .IfExp t a b _ => (cE T n sc vm t).bind fun x => (cE T n sc vm a).bind fun y => (cE T n sc vm b).map fun z => .ite x y z
   | .List es _ => (mapO (cE T n sc vm) es).map .list
   | .Tuple es _ _ => (mapO (cE T n sc vm) es).map .tup
   | .Dict ks vs _ => if 15 < ks.length then none else (interleave ks vs).bind fun kvs => (mapO (cE T n sc vm) kvs).map .dict
   | .Attribute o m _ => if plainBase o = false then none else (cE T n sc vm o).bind fun x => (T.str m).map fun k => .attr x k
   | .Subscript o (.Slice (some a) none none _) _ => (cE T n sc vm o).bind fun x => (cE T n sc vm a).map fun y => .slFrom x y
   | .Subscript o (.Slice none (some b) none _) _ => (cE T n sc vm o).bind fun x => (cE T n sc vm b).map fun y => .slTo x y
   | .Subscript _ (.Slice _ _ _ _) _ => none
   | .Subscript o i _ => (cE T n sc vm o).bind fun x => (cE T n sc vm i).map fun y => .sub x y
   | .Call (.Name f _) args [] _ => if isGlob sc f then (mapO (cE T n sc vm) args).bind fun cs =>
       callOf T f cs else none
   | .Call (.Attribute o m apos) args [] pos => if plainBase o = false ∨ 25 < args.length ∨ (apos.endLine == pos.line) = false then none else (cE T n sc vm o).bind fun x => (T.str m).bind fun k => (mapO (cE T n sc vm) args).map fun cs => .callM x k cs
   | .ListComp elt [⟨tgt, iter, ifs, 0⟩] sc' _ =>
       let vm' := compVM vm sc'.names 1000
       if compChk sc vm sc' vm' tgt = false then none else
       (cTgt1 sc' vm' tgt).bind fun x => (mapO (cE T n sc vm) (srcOf sc iter).2).bind fun src => (mapO (cE T n sc' vm') ifs).bind fun cs => (cE T n sc' vm' elt).map fun c =>
         .comp c x (srcOf sc iter).1 src cs
   | _ => none
noncomputable def swapBad : Expr → Bool
 | .Tuple vs _ _ => vs.all (PySem.constantsAlone 8) && !vs.all (PySem.foldedForSure 8)
 | _ => false
noncomputable def cS (T : CT) : Nat → Scope → VM → Stmt → Option CS
 | 0, _, _, _ => none
 | n + 1, sc, vm, s => match s with
   | .Expr (.ListComp _ _ _ _) _ => none
   | .Expr e _ => (cE T n sc vm e).map .expr
   | .Assign [.Name x p] e _ => (cTgt1 sc vm (.Name x p)).bind fun k => (cE T n sc vm e).map fun c => .asg k c
   | .Assign [.Tuple es _ _] e _ => if swapBad e = true ∨ ¬ (tgtNames (.Tuple es 0 default)).Nodup then none else (mapO (cTgt1 sc vm) es).bind fun ks => (cE T n sc vm e).map fun c => .asgT ks c
   | .Assign [.Attribute o m _] e _ => (cE T n sc vm o).bind fun x => (T.str m).bind fun k => (cE T n sc vm e).map fun c => .setA x k c
   | .Assign [.Subscript o (.Slice _ _ _ _) _] _ _ => none
   | .Assign [.Subscript o i _] e _ => (cE T n sc vm o).bind fun x => (cE T n sc vm i).bind fun y => (cE T n sc vm e).map fun c => .setI x y c
   | .AugAssign (.Subscript o (.Slice _ _ _ _) _) _ _ _ => none
   | .AugAssign (.Subscript o i _) op e _ => (cE T n sc vm o).bind fun x => (cE T n sc vm i).bind fun y => (cBop op).bind fun b => if b ≠ .add ∧ b ≠ .sub then none else (cE T n sc vm e).map fun c => .augI x y b c
   | .If t b o _ => (cE T n sc vm t).bind fun c => (mapO (cS T n sc vm) b).bind fun b => (mapO (cS T n sc vm) o).map fun o => .ifs c b o
   | .While t b [] _ => (cE T n sc vm t).bind fun c => (mapO (cS T n sc vm) b).map fun b => .whl c b
   | .For tgt iter b [] _ => (cTgt sc vm tgt).bind fun xs => (mapO (cE T n sc vm) (srcOf sc iter).2).bind fun src => (mapO (cS T n sc vm) b).map fun b => .for xs.1 xs.2 (srcOf sc iter).1 src b
   | .Return (some e) _ => (cE T n sc vm e).map .ret
   | .Raise (some (.Call (.Name x _) [a, b, c] [] _)) none _ => if isGlob sc x && x == T.exc then (cE T n sc vm a).bind fun a => (cE T n sc vm b).bind fun b => (cE T n sc vm c).map fun c => .raise a b c else none
   | .Try (b₀ :: b) [.ExceptHandler (some (.Name x _)) (some y) (h₀ :: h) _] [] [] _ => if isGlob sc x && x == T.exc && sc.names.lookup y == some .local then (cTgt1 sc vm (.Name y default)).bind fun k => (mapO (cS T n sc vm) (b₀ :: b)).bind fun b => (mapO (cS T n sc vm) (h₀ :: h)).map fun h => .try b k h else none
   | _ => none
noncomputable def numbered : List (Str × NameKind) → Nat → VM
 | [], _ => []
 | (x, .globalImplicit) :: r, n => numbered r n
 | (x, _) :: r, n => (x, n) :: numbered r (n + 1)
noncomputable def cFn (T : CT) (params : Arguments) (body : List Stmt) (sc : Scope) : Option Fn :=
 if (params.posonlyargs.isEmpty && params.vararg.isNone && params.kwonlyargs.isEmpty && params.kwarg.isNone && sc.names.all fun x => x.2 != .free) = true ∧ (params.args.map (·.arg)).Nodup ∧ (sc.names.map (·.1)).Nodup ∧ (numbered sc.names 0).Pairwise (fun x y => x.2 ≠ y.2) then
   let vm := numbered sc.names 0
   (mapO (fun (a : Arg) => if isVar sc a.arg then vm.lookup a.arg else none) params.args).bind fun ps => (mapO (cS T 60 sc vm) body).map fun b => ⟨ps, b⟩
 else none
open PySem (Str Scope NameKind Expr Stmt Const Operator UnaryOp BoolOp CmpOp Comprehension ExceptHandler Arguments Arg Program)
noncomputable def defsOf : List Stmt → List (Arguments × List Stmt × Scope)
 | [] => []
 | .FunctionDef _ a b _ _ _ sc _ _ _ :: r => (a, b, sc) :: defsOf r
 | .ClassDef _ _ _ b _ _ _ _ _ _ _ :: r => (b.filterMap fun | .FunctionDef _ a b _ _ _ sc _ _ _ => some (a, b, sc) | _ => none) ++ defsOf r
 | _ :: r => defsOf r
noncomputable def codeOf (T : CT) (p : Program) : List (Option Fn) := (defsOf p.main.body).map fun x => cFn T x.1 x.2.1 x.2.2
theorem nn {α : Type} {c : α} {G : Prop} (h : (none : Option α) = some c) : G := nomatch h
theorem bindS {α β : Type} {o : Option α} {f : α → Option β} {c : β} {G : Prop} (h : o.bind f = some c) (k : ∀ a, o = some a → f a = some c → G) : G := by
 cases o with
 | none => exact nn h
 | some a => exact k a rfl h
theorem mapS {α β : Type} {o : Option α} {f : α → β} {c : β} {G : Prop} (h : o.map f = some c) (k : ∀ a, o = some a → f a = c → G) : G := by
 cases o with
 | none => exact nn h
 | some a => exact k a rfl (Option.some.inj h)
theorem consO {α β : Type} {f : α → Option β} {a : α} {r : List α} {c : List β} {G : Prop} (h : mapO f (a :: r) = some c) (k : ∀ b bs, f a = some b → mapO f r = some bs → c = b :: bs → G) : G :=
 bindS h fun b e h => mapS h fun bs e' h => k b bs e e' h.symm
theorem iteN {α : Type} {p : Prop} {i : Decidable p} {b : Option α} {c : α} {G : Prop} (h : (if p then none else b) = some c) (k : ¬ p → b = some c → G) : G := by
 by_cases q : p
 · rw [if_pos q] at h; exact nn h
 · rw [if_neg q] at h; exact k q h
theorem iteS {α : Type} {p : Prop} {i : Decidable p} {b : Option α} {c : α} {G : Prop} (h : (if p then b else none) = some c) (k : p → b = some c → G) : G := by
 by_cases q : p
 · rw [if_pos q] at h; exact k q h
 · rw [if_neg q] at h; exact nn h
theorem lstS {H : MH} {i : Nat} {l : List MV} {G : Prop} (h : H[i]?.bind MObj.list? = some l) (k : ∀ fz, H[i]? = some (.list fz l) → G) : G := bindS h fun o e q => by
 cases o with
 | list fz m => cases q; exact k fz e
 | _ => exact nn q
theorem lswS {H : MH} {i : Nat} {l : List MV} {G : Prop} (h : H[i]?.bind MObj.listW? = some l) (k : H[i]? = some (.list false l) → G) : G := bindS h fun o e q => by
 cases o with
 | list fz m => cases fz <;> cases q; exact k e
 | _ => exact nn q
theorem dcwS {H : MH} {i : Nat} {l : List (MV × MV)} {G : Prop} (h : H[i]?.bind MObj.dictW? = some l) (k : H[i]? = some (.dict false l) → G) : G := bindS h fun o e q => by
 cases o with
 | dict fz m => cases fz <;> cases q; exact k e
 | _ => exact nn q
theorem dcrS {H : MH} {i : Nat} {l : List (MV × MV)} {G : Prop} (h : H[i]?.bind MObj.dictR? = some l) (k : H[i]? = some (.dict true l) → G) : G := bindS h fun o e q => by
 cases o with
 | dict fz m => cases fz <;> cases q; exact k e
 | _ => exact nn q
theorem insS {H : MH} {i : Nat} {c : Nat × Nat} {G : Prop} (h : H[i]?.bind MObj.inst? = some c) (k : H[i]? = some (.inst c.1 c.2) → G) : G := bindS h fun o e q => by
 cases o with
 | inst a b => cases q; exact k e
 | _ => exact nn q
theorem i2S {a b : MV} {p : Int × Int} {G : Prop} (h : int2 a b = some p) (k : a = .int p.1 → b = .int p.2 → G) : G := by
 cases a with
 | int a => cases b with
   | int b => cases h; exact k rfl rfl
   | _ => exact nn h
 | _ => exact nn h
theorem riS {a b : MV} {p : Nat × Int} {G : Prop} (h : refInt a b = some p) (k : a = .ref p.1 → b = .int p.2 → G) : G := by
 cases a with
 | ref a => cases b with
   | int b => cases h; exact k rfl rfl
   | _ => exact nn h
 | _ => exact nn h
theorem isNS {a : MV} (h : isN a = true) : a = .none := by
 cases a with
 | none => rfl
 | _ => exact nomatch h
theorem nb {G : Prop} (h : false = true) : G := nomatch h
theorem andT {a b : Bool} {G : Prop} (h : (a && b) = true) (k : a = true → b = true → G) : G := k (Bool.and_eq_true_iff.mp h).1 (Bool.and_eq_true_iff.mp h).2
theorem hide {G : Prop} (h : ∀ g : Prop, (G → g) → g) : G := h G id
section
variable {P : Code} {C : Orc} {N : Nat} {rz : Bool} {ρ : Loc} {H : MH}
theorem qE_not {a : CE} : mE P C rz (.not a) ρ H = (mE P C rz a ρ H).bind fun x H => (toB x H).bind fun b H => .ok (.bool (!b)) H := rfl
theorem qE_cmp {a : CE} {ops : List COp} {bs : List CE} : mE P C rz (.cmp a ops bs) ρ H = (mE P C rz a ρ H).bind fun x H => (mChain P C rz x ops bs ρ H).bind fun b H => .ok (.bool b) H := rfl
theorem qE_ite {t a b : CE} : mE P C rz (.ite t a b) ρ H = (mE P C rz t ρ H).bind fun x H => (toB x H).bind fun c H => if c then mE P C rz a ρ H else mE P C rz b ρ H := rfl
theorem qE_dict {es : List CE} : mE P C rz (.dict es) ρ H = (mEs P C rz es ρ H).bind fun vs H => (optR H (mkDict vs)).bind fun ds H => alloc (.dict false ds) H := rfl
theorem qEs {e : CE} {es : List CE} : mEs P C rz (e :: es) ρ H = (mE P C rz e ρ H).bind fun v H => (mEs P C rz es ρ H).bind fun vs H => .ok (v :: vs) H := rfl
end
section
variable {P : Code} {C : Bool → Orc} {N : Nat} {rz : Bool} {ρ : Loc} {H : MH}
theorem qS_asg {x : Nat} {e : CE} : mS P C N (.asg x e) rz ρ H = (mE P (C rz) rz e ρ H).then ρ fun v H => .ok .next (upd ρ x v) H := rfl
theorem qS_ifs {t : CE} {b o : List CS} : mS P C N (.ifs t b o) rz ρ H = (mE P (C rz) rz t ρ H).then ρ fun v H => (toB v H).then ρ fun c H => if c then mSs P C N b rz ρ H else mSs P C N o rz ρ H := rfl
theorem qS_try {b h : List CS} {x : Nat} : mS P C N (.try b x h) rz ρ H = match mSs P C N b rz ρ H with
   | .exc e ρ H => (mSs P C N h false (upd ρ x (.ref (H.length + 1))) (H ++ [.dict false [(.str P.excK.1, e.why), (.str P.excK.2.1, e.fn), (.str P.excK.2.2, e.at_)], .inst P.excC H.length])).calm
   | .ok f ρ H => .ok f ρ H
   | .bad => .bad := rfl
end
end
section
open PySem PySem.W PySem.Calls PyProof.Rows
structure Cx where
 prog : Program
 w : World
 K : Frag
 base : Heap
 os : OsState
 T : CT
 P : Code
 F : Nat → Option Fn
 fn : Nat → Option Addr
 cls : Nat → Option Addr
 μ₀ : List Addr
abbrev Cx.M (X : Cx) : Model := model X.prog X.w
section
variable (S : List Str) (μ : List Addr) (h : Heap)
mutual
noncomputable def RV : MV → Value → Prop
 | .none, v => v = .none
 | .bool b, v => v = .bool b
 | .int i, v => ∃ t, v = .int i t
 | .str k, v => ∃ x t, S[k]? = some x ∧ v = .str x t
 | .tup l, v => ∃ a items n, v = .ref a ∧ IsT h a items n ∧ items.size ≤ sizeLine ∧ RVs l items.toList
 | .ref i, v => ∃ a, μ[i]? = some a ∧ v = .ref a
noncomputable def RVs : List MV → List Value → Prop
 | [], vs => vs = []
 | m :: ms, vs => ∃ v r, vs = v :: r ∧ RV m v ∧ RVs ms r
end
end
variable {S : List Str} {μ ν : List Addr} {h h' : Heap}
theorem RVs.nil : RVs S μ h [] [] := rfl
theorem rvs_nil {vs : List Value} (e : RVs S μ h [] vs) : vs = [] := e
theorem rvs_cons {m : MV} {l : List MV} {vs : List Value} (e : RVs S μ h (m :: l) vs) : ∃ v r, vs = v :: r ∧ RV S μ h m v ∧ RVs S μ h l r := e
theorem RVs.cons {m : MV} {v : Value} {l : List MV} {vs : List Value} (a : RV S μ h m v) (b : RVs S μ h l vs) : RVs S μ h (m :: l) (v :: vs) := ⟨v, vs, rfl, a, b⟩
theorem RVs.fold {R : List MV → List Value → Prop} (h0 : R [] []) (h1 : ∀ m v l vs, RV S μ h m v → RVs S μ h l vs → R l vs → R (m :: l) (v :: vs)) {l : List MV} : ∀ {vs : List Value}, RVs S μ h l vs → R l vs := by
 induction l with
 | nil => intro vs e; cases rvs_nil e; exact h0
 | cons m l ih => intro vs e; obtain ⟨v, r, rfl, a, b⟩ := rvs_cons e; exact h1 m v l r a b (ih b)
theorem RVs.length {l : List MV} {vs : List Value} (x : RVs S μ h l vs) : vs.length = l.length := RVs.fold (R := fun l vs => vs.length = l.length) rfl (fun Z Z Z Z Z Z e => congrArg (· + 1) e) x
theorem RVs.get {l : List MV} {vs : List Value} {j : Nat} {m : MV} (x : RVs S μ h l vs) : l[j]? = some m → ∃ v, vs[j]? = some v ∧ RV S μ h m v :=
 RVs.fold (R := fun l vs => ∀ j, l[j]? = some m → ∃ v, vs[j]? = some v ∧ RV S μ h m v) (fun Z e => nn e) (fun Z v Z Z a Z ih j e => by
   cases j with
   | zero => cases e; exact ⟨v, rfl, a⟩
   | succ j => exact ih j e) x j
theorem RVs.append {l l' : List MV} {vs vs' : List Value} (x : RVs S μ h l vs) (y : RVs S μ h l' vs') : RVs S μ h (l ++ l') (vs ++ vs') :=
 RVs.fold (R := fun l vs => RVs S μ h (l ++ l') (vs ++ vs')) y (fun Z Z Z Z a Z ih => RVs.cons a ih) x
theorem RVs.drop {l : List MV} {vs : List Value} (k : Nat) (x : RVs S μ h l vs) : RVs S μ h (l.drop k) (vs.drop k) :=
 RVs.fold (R := fun l vs => ∀ k, RVs S μ h (l.drop k) (vs.drop k)) (fun k => by cases k <;> exact RVs.nil) (fun Z Z Z Z a b ih k => by
   cases k with
   | zero => exact RVs.cons a b
   | succ k => exact ih k) x k
theorem RVs.take {l : List MV} {vs : List Value} (k : Nat) (x : RVs S μ h l vs) : RVs S μ h (l.take k) (vs.take k) :=
 RVs.fold (R := fun l vs => ∀ k, RVs S μ h (l.take k) (vs.take k)) (fun k => by cases k <;> exact RVs.nil) (fun Z Z Z Z a Z ih k => by
   cases k with
   | zero => exact RVs.nil
   | succ k => exact RVs.cons a (ih k)) x k
theorem RVs.reverse {l : List MV} {vs : List Value} (x : RVs S μ h l vs) : RVs S μ h l.reverse vs.reverse :=
 RVs.fold (R := fun l vs => RVs S μ h l.reverse vs.reverse) RVs.nil (fun Z Z Z Z a Z ih => by
   rw [List.reverse_cons, List.reverse_cons]; exact RVs.append ih (RVs.cons a RVs.nil)) x
theorem RVs.set {l : List MV} {vs : List Value} (j : Nat) {m : MV} {v : Value} (x : RVs S μ h l vs) (y : RV S μ h m v) : RVs S μ h (l.set j m) (vs.set j v) :=
 RVs.fold (R := fun l vs => ∀ j, RVs S μ h (l.set j m) (vs.set j v)) (fun Z => RVs.nil) (fun Z Z Z Z a b ih j => by
   cases j with
   | zero => exact RVs.cons y b
   | succ j => exact RVs.cons a (ih j)) x j
noncomputable def TKeep (h h' : Heap) : Prop := ∀ a items n, IsT h a items n → IsT h' a items n
theorem TKeep.refl (h : Heap) : TKeep h h := fun Z Z Z x => x
noncomputable def MExt (μ μ' : List Addr) : Prop := ∀ (i : Nat) (a : Addr), μ[i]? = some a → μ'[i]? = some a
theorem MExt.refl (μ : List Addr) : MExt μ μ := fun Z Z e => e
theorem MExt.app (μ ν : List Addr) : MExt μ (μ ++ ν) := fun i a e => by
 rw [List.getElem?_append_left (List.getElem?_eq_some_iff.mp e).1]; exact e
mutual
theorem RV.mono {μ' : List Addr} (hμ : MExt μ μ') (ht : TKeep h h') : ∀ {m : MV} {v : Value}, RV S μ h m v → RV S μ' h' m v
 | .none, _, x => x
 | .bool _, _, x => x
 | .int _, _, x => x
 | .str _, _, x => x
 | .tup l, _, ⟨a, items, n, e, i, z, r⟩ => ⟨a, items, n, e, ht _ _ _ i, z, RVs.mono hμ ht r⟩
 | .ref i, _, ⟨a, e, q⟩ => ⟨a, hμ _ _ e, q⟩
theorem RVs.mono {μ' : List Addr} (hμ : MExt μ μ') (ht : TKeep h h') : ∀ {l : List MV} {vs : List Value}, RVs S μ h l vs → RVs S μ' h' l vs
 | [], _, x => by cases rvs_nil x; exact RVs.nil
 | _ :: _, _, x => by
   obtain ⟨v, r, rfl, a, b⟩ := rvs_cons x
   exact RVs.cons (RV.mono hμ ht a) (RVs.mono hμ ht b)
end
noncomputable def RSs (S : List Str) (μ : List Addr) (h : Heap) : List (MV × MV) → List (Str × Value) → Prop
 | [], kvs => kvs = []
 | (k, v) :: r, kvs => ∃ j x u t, k = .str j ∧ S[j]? = some x ∧ kvs = (x, u) :: t ∧ RV S μ h v u ∧ RSs S μ h r t
noncomputable def RIs (S : List Str) (μ : List Addr) (h : Heap) : List (MV × MV) → List (Int × Value) → Prop
 | [], kvs => kvs = []
 | (k, v) :: r, kvs => ∃ j u t, k = .int j ∧ kvs = (j, u) :: t ∧ RV S μ h v u ∧ RIs S μ h r t
noncomputable def RO (X : Cx) (μ : List Addr) (h : Heap) (a : Addr) : MObj → Prop
 | .list _ vs => ∃ items n, IsL h a items n ∧ RVs X.T.strs μ h vs items.toList ∧ items.size ≤ sizeLine
 | .dict false es => es.length ≤ 1000 ∧ ∃ kvs, h.DictOf (strKind X.prog X.w) a kvs ∧ RSs X.T.strs μ h es kvs
 | .dict true es => ∃ kvs, h.DictOf (intKind X.prog X.w) a kvs ∧ RIs X.T.strs μ h es kvs
 | .inst c d => ∃ ox ca da, h.get? a = some ox ∧ X.cls c = some ca ∧ ox.cls = .ref ca ∧ notCls ox = true ∧ ox.dict = some da ∧ μ[d]? = some da
theorem RSs.mono {μ' : List Addr} (hμ : MExt μ μ') (ht : TKeep h h') : ∀ {es : List (MV × MV)} {kvs : List (Str × Value)}, RSs S μ h es kvs → RSs S μ' h' es kvs
 | [], _, x => x
 | (_, _) :: _, _, x => by
   obtain ⟨j, y, u, t, e1, e2, e3, e4, e5⟩ := x
   exact ⟨j, y, u, t, e1, e2, e3, e4.mono hμ ht, RSs.mono hμ ht e5⟩
theorem RIs.mono {μ' : List Addr} (hμ : MExt μ μ') (ht : TKeep h h') : ∀ {es : List (MV × MV)} {kvs : List (Int × Value)}, RIs S μ h es kvs → RIs S μ' h' es kvs
 | [], _, x => x
 | (_, _) :: _, _, x => by
   obtain ⟨j, u, t, e1, e3, e4, e5⟩ := x
   exact ⟨j, u, t, e1, e3, e4.mono hμ ht, RIs.mono hμ ht e5⟩
theorem dictOf_keeps {prog : Program} {w : World} {K : Type} [DecidableEq K] {knd : KeyKind prog w K} {a : Addr} {kvs : List (K × Value)} (x : h.DictOf knd a kvs) (ha : h'.get? a = h.get? a) : h'.DictOf knd a kvs := by
 obtain ⟨o, es, ep, ho, r⟩ := x
 exact ⟨o, es, ep, ha.trans ho, r⟩
noncomputable def IsTupO (o : Obj) : Prop := o.cls = .type "tuple" ∧ ∃ xs n, o.data = .seq xs n
noncomputable def TuKeep (h h' : Heap) : Prop := ∀ b o, h.get? b = some o → IsTupO o → h'.get? b = some o
theorem TuKeep.t (x : TuKeep h h') : TKeep h h' := fun Z Z Z e => x _ _ e ⟨rfl, _, _, rfl⟩
theorem TuKeep.refl (h : Heap) : TuKeep h h := fun Z Z e Z => e
theorem RO.mono {X : Cx} {μ' : List Addr} {a : Addr} (hμ : MExt μ μ') (ht : TuKeep h h') (ha : h'.get? a = h.get? a) : ∀ {o : MObj}, RO X μ h a o → RO X μ' h' a o
 | .list _ vs, x => by
   obtain ⟨items, n, i, r, z⟩ := x
   exact ⟨items, n, ha.trans i, r.mono hμ ht.t, z⟩
 | .dict false _, x => ⟨x.1, x.2.imp fun Z q => ⟨dictOf_keeps q.1 ha, q.2.mono hμ ht.t⟩⟩
 | .dict true _, x => Exists.imp (fun Z q => ⟨dictOf_keeps q.1 ha, q.2.mono hμ ht.t⟩) x
 | .inst c d, x => by
   obtain ⟨ox, ca, da, e1, e2, e3, e4, e5, e6⟩ := x
   exact ⟨ox, ca, da, ha.trans e1, e2, e3, e4, e5, hμ _ _ e6⟩
theorem RO.kind {X : Cx} {a : Addr} {o : MObj} (x : RO X μ h a o) : ∃ ox, h.get? a = some ox ∧ ¬ IsTupO ox := by
 cases o with
 | list fz vs => obtain ⟨items, n, i, _, _⟩ := x; exact ⟨_, i, by simp [IsTupO]⟩
 | dict fz es =>
   have key : ∃ o, h.get? a = some o ∧ o.cls = .type "dict" := by
     cases fz with
     | false => obtain ⟨_, _, ⟨o, _, _, ho, hx, _⟩, _⟩ := x; exact ⟨o, ho, hx.1⟩
     | true => obtain ⟨_, ⟨o, _, _, ho, hx, _⟩, _⟩ := x; exact ⟨o, ho, hx.1⟩
   exact key.imp fun o q => ⟨q.1, fun z => by rw [z.1] at q; exact nomatch q.2⟩
 | inst c d =>
   obtain ⟨ox, ca, da, e1, e2, e3, e4, e5, e6⟩ := x
   exact ⟨ox, e1, by simp [IsTupO, e3]⟩
noncomputable abbrev fls (envs : List Env) : List Addr := envs.filterMap (·.frame)
noncomputable def FrOk (base h : Heap) (envs : List Env) : Prop := ∀ env ∈ envs, env.scope.kind ≠ .module ∧ ∃ L o es ep, env.frame = some L ∧ base.get? L = none ∧ h.get? L = some o ∧ o.data = .dict es ep
theorem FrOk.fun {base h : Heap} : ∀ {envs : List Env}, FrOk base h envs → h.FunFrames base envs
 | [], _ => trivial
 | e :: r, x => by
   obtain ⟨a, L, o, es, ep, b1, b2, b3, b4⟩ := x e (.head _)
   exact ⟨a, ⟨L, o, b1, b2, b3, fun vs q => by rw [b4] at q; cases q⟩, FrOk.fun fun e' m => x e' (.tail _ m)⟩
noncomputable def MObj.fz : MObj → Bool
 | .list f _ => f
 | .dict f _ => f
 | .inst _ _ => false
structure St (X : Cx) (envs : List Env) (μ : List Addr) (H : MH) (s : Shared) : Prop where
 len : μ.length = H.length
 nd : μ.Nodup
 obj : ∀ (i : Nat) (o : MObj) (a : Addr), H[i]? = some o → μ[i]? = some a → RO X μ s.heap a o
 stays : X.base.StaysIn s.heap
 new : ∀ (i : Nat) (o : MObj) (a : Addr), H[i]? = some o → μ[i]? = some a → (o.fz = true ∧ a ∈ X.μ₀) ∨ X.base.get? a = none
 frs : FrOk X.base s.heap envs
 fl : ∀ a ∈ fls envs, a ∉ μ
 gens : s.gens = #[]
 os : s.os = X.os
 m₀ : ∃ ν, μ = X.μ₀ ++ ν
noncomputable def Keep (μ ex fl : List Addr) (h h' : Heap) : Prop := ∀ b o, h.get? b = some o →
 (b ∉ μ → b ∉ ex → b ∉ fl → h'.get? b = some o) ∧ (b ∈ fl → b ∉ ex → b ∉ μ → ∃ sl, h'.get? b = some { o with slots := sl }) ∧ ∃ o', h'.get? b = some o'
theorem Keep.refl (μ ex fl : List Addr) (h : Heap) : Keep μ ex fl h h := fun b o e => ⟨fun Z Z Z => e, fun Z Z Z => ⟨o.slots, e⟩, o, e⟩
theorem Keep.trans {ex fl : List Addr} {h₁ h₂ h₃ : Heap} (x : Keep μ ex fl h₁ h₂) (hν : ∀ a ∈ ν, h₁.get? a = none) (y : Keep (μ ++ ν) ex fl h₂ h₃) : Keep μ ex fl h₁ h₃ := by
 intro b o e
 obtain ⟨x1, x2, o', x3⟩ := x b o e
 have nm : b ∉ μ → b ∉ μ ++ ν := fun n q => by
   rcases List.mem_append.mp q with q | q
   · exact n q
   · rw [hν _ q] at e; cases e
 refine ⟨fun a1 a2 a3 => (y b o (x1 a1 a2 a3)).1 (nm a1) a2 a3, fun a1 a2 a3 => ?_, (y b o' x3).2.2⟩
 obtain ⟨sl, e1⟩ := x2 a1 a2 a3
 obtain ⟨sl', e2⟩ := (y _ _ e1).2.1 a1 a2 (nm a3)
 exact ⟨sl', e2⟩
theorem Keep.mono {ex ex' fl : List Addr} (x : Keep μ ex fl h h') (hs : ∀ a ∈ ex, a ∈ ex') : Keep μ ex' fl h h' := fun b o e =>
 ⟨fun a1 a2 a3 => (x b o e).1 a1 (fun q => a2 (hs _ q)) a3, fun a1 a2 a3 => (x b o e).2.1 a1 (fun q => a2 (hs _ q)) a3, (x b o e).2.2⟩
structure Aft (X : Cx) (envs : List Env) (ex : List Addr) (μ : List Addr) (s : Shared) (μ' : List Addr) (H' : MH) (s' : Shared) : Prop where
 st : St X envs μ' H' s'
 ext : ∃ ν, μ' = μ ++ ν ∧ ∀ a ∈ ν, s.heap.get? a = none
 keep : Keep μ ex (fls envs) s.heap s'.heap
theorem Aft.refl {X : Cx} {envs : List Env} {ex : List Addr} {H : MH} {s : Shared} (x : St X envs μ H s) : Aft X envs ex μ s μ H s :=
 ⟨x, ⟨[], (List.append_nil _).symm, fun Z m => nomatch m⟩, Keep.refl _ _ _ _⟩
theorem Aft.trans {X : Cx} {envs : List Env} {ex : List Addr} {μ₁ μ₂ μ₃ : List Addr} {H₂ H₃ : MH} {s₁ s₂ s₃ : Shared} (x : Aft X envs ex μ₁ s₁ μ₂ H₂ s₂) (y : Aft X envs ex μ₂ s₂ μ₃ H₃ s₃) : Aft X envs ex μ₁ s₁ μ₃ H₃ s₃ := by
 obtain ⟨ν, rfl, h1⟩ := x.ext
 obtain ⟨ν', rfl, h2⟩ := y.ext
 refine ⟨y.st, ⟨ν ++ ν', List.append_assoc .., fun a m => ?_⟩, x.keep.trans h1 y.keep⟩
 rcases List.mem_append.mp m with m | m
 · exact h1 a m
 · cases q : s₁.heap.get? a with
   | none => rfl
   | some o =>
     obtain ⟨o', e⟩ := (x.keep a o q).2.2
     rw [h2 a m] at e; cases e
theorem Aft.mono {X : Cx} {envs : List Env} {ex ex' : List Addr} {μ' : List Addr} {H' : MH} {s s' : Shared} (x : Aft X envs ex μ s μ' H' s') (hs : ∀ a ∈ ex, a ∈ ex') : Aft X envs ex' μ s μ' H' s' :=
 ⟨x.st, x.ext, x.keep.mono hs⟩
theorem Aft.mext {X : Cx} {envs : List Env} {ex : List Addr} {μ' : List Addr} {H' : MH} {s s' : Shared} (x : Aft X envs ex μ s μ' H' s') : MExt μ μ' := by
 obtain ⟨ν, rfl, _⟩ := x.ext
 exact MExt.app _ _
theorem St.tup_not {X : Cx} {envs : List Env} {H : MH} {s : Shared} (x : St X envs μ H s) {b : Addr} {o : Obj} (e : s.heap.get? b = some o) (c : IsTupO o) : b ∉ μ := fun m => by
 obtain ⟨i, hi, q⟩ := List.getElem_of_mem m
 have hi' : i < H.length := x.len ▸ hi
 obtain ⟨ox, e1, e2⟩ := RO.kind (x.obj i H[i] b (List.getElem?_eq_getElem hi') (by rw [List.getElem?_eq_getElem hi, q]))
 rw [e] at e1; cases e1; exact e2 c
theorem St.tup_nofl {X : Cx} {envs : List Env} {H : MH} {s : Shared} (x : St X envs μ H s) {b : Addr} {o : Obj} (e : s.heap.get? b = some o) (c : IsTupO o) : b ∉ fls envs := fun m => by
 obtain ⟨env, he, hf⟩ := List.mem_filterMap.mp m
 obtain ⟨_, L, o', es, ep, b1, _, b3, b4⟩ := x.frs env he
 rw [hf] at b1; cases b1
 rw [e] at b3; cases b3
 obtain ⟨_, xs, n, d⟩ := c
 rw [d] at b4; cases b4
noncomputable def NoTup (h : Heap) (ex : List Addr) : Prop := ∀ a ∈ ex, ∀ o, h.get? a = some o → ¬ IsTupO o
theorem NoTup.nil : NoTup h [] := fun Z m => nomatch m
theorem Keep.tu {X : Cx} {envs : List Env} {H : MH} {s : Shared} {ex : List Addr} (x : St X envs μ H s) (k : Keep μ ex (fls envs) s.heap h') (hex : NoTup s.heap ex) : TuKeep s.heap h' := fun b o e c =>
 (k b o e).1 (x.tup_not e c) (fun m => hex b m o e c) (x.tup_nofl e c)
theorem Aft.tu {X : Cx} {envs : List Env} {H : MH} {ex : List Addr} {μ' : List Addr} {H' : MH} {s s' : Shared} (x : St X envs μ H s) (y : Aft X envs ex μ s μ' H' s') (hex : NoTup s.heap ex) : TuKeep s.heap s'.heap := y.keep.tu x hex
theorem Aft.rv {X : Cx} {envs : List Env} {H : MH} {ex : List Addr} {μ' : List Addr} {H' : MH} {s s' : Shared} {m : MV} {v : Value} (x : St X envs μ H s) (y : Aft X envs ex μ s μ' H' s') (hex : NoTup s.heap ex)
   (r : RV X.T.strs μ s.heap m v) : RV X.T.strs μ' s'.heap m v := r.mono y.mext (y.tu x hex).t
end
section
open PySem PySem.W PySem.Calls PyProof.Rows
variable {X : Cx} {envs : List Env} {μ : List Addr} {H : MH} {s : Shared}
theorem St.at (x : St X envs μ H s) {i : Nat} {o : MObj} (e : H[i]? = some o) : ∃ a, μ[i]? = some a ∧ RO X μ s.heap a o := by
 have hi := (List.getElem?_eq_some_iff.mp e).1
 have hi' : i < μ.length := x.len ▸ hi
 exact ⟨μ[i], List.getElem?_eq_getElem hi', x.obj i o _ e (List.getElem?_eq_getElem hi')⟩
theorem St.at' (x : St X envs μ H s) {i : Nat} {a : Addr} {o : MObj} (ha : μ[i]? = some a) (e : H[i]? = some o) : RO X μ s.heap a o := by
 obtain ⟨_, ha', r⟩ := x.at e
 cases ha.symm.trans ha'
 exact r
theorem St.mem (x : St X envs μ H s) {a : Addr} (m : a ∈ μ) : ∃ (i : Nat) (o : MObj), H[i]? = some o ∧ μ[i]? = some a ∧ RO X μ s.heap a o := by
 obtain ⟨i, hi, q⟩ := List.getElem_of_mem m
 have hi' : i < H.length := x.len ▸ hi
 exact ⟨i, H[i], List.getElem?_eq_getElem hi', by rw [List.getElem?_eq_getElem hi, q], x.obj i _ _ (List.getElem?_eq_getElem hi') (by rw [List.getElem?_eq_getElem hi, q])⟩
theorem St.in_dom (x : St X envs μ H s) {a : Addr} (m : a ∈ μ) : ∃ o, s.heap.get? a = some o := by
 obtain ⟨i, o, _, _, r⟩ := x.mem m
 obtain ⟨ox, e, _⟩ := r.kind
 exact ⟨ox, e⟩
theorem St.idx_inj (x : St X envs μ H s) {i j : Nat} {a : Addr} (e : μ[i]? = some a) (e' : μ[j]? = some a) : i = j := by
 obtain ⟨hi, q⟩ := List.getElem?_eq_some_iff.mp e
 obtain ⟨hj, q'⟩ := List.getElem?_eq_some_iff.mp e'
 have P := List.pairwise_iff_getElem.mp x.nd
 rcases Nat.lt_trichotomy i j with h | h | h
 · exact absurd (q.trans q'.symm) (P i j hi hj h)
 · exact h
 · exact absurd (q'.trans q.symm) (P j i hj hi h)
theorem St.base_lt (x : St X envs μ H s) : X.base.get? s.heap.objs.size = none := by
 cases q : X.base.get? s.heap.objs.size with
 | none => rfl
 | some o => exact absurd (Heap.lt_size (x.stays _ _ q)) (Nat.lt_irrefl _)
theorem Aft.quiet (x : St X envs μ H s) {ex : List Addr} {h' : Heap} {t : Nat} {d : Drawn}
   (k : ∀ b o, s.heap.get? b = some o → b ∉ ex → (b ∉ fls envs → h'.get? b = some o) ∧ (b ∈ fls envs → ∃ sl, h'.get? b = some { o with slots := sl }))
   (hm : ∀ a ∈ ex, a ∉ μ) (hn : NoTup s.heap ex) (hb : ∀ a ∈ ex, X.base.get? a = none) (hx : ∀ a ∈ ex, ∀ o, s.heap.get? a = some o → ∃ o', h'.get? a = some o')
   (hf : ∀ a ∈ ex, a ∈ fls envs → ∃ o es ep, h'.get? a = some o ∧ o.data = .dict es ep) :
   Aft X envs ex μ s μ H { s with heap := h', toks := t, drawn := d } := by
 have K : Keep μ ex (fls envs) s.heap h' := fun b o e => by
   refine ⟨fun Z a2 a3 => (k b o e a2).1 a3, fun a1 a2 Z => (k b o e a2).2 a1, ?_⟩
   by_cases q : b ∈ ex
   · exact hx b q o e
   · by_cases q' : b ∈ fls envs
     · obtain ⟨sl, z⟩ := (k b o e q).2 q'; exact ⟨_, z⟩
     · exact ⟨o, (k b o e q).1 q'⟩
 have T : TuKeep s.heap h' := K.tu x hn
 refine ⟨⟨x.len, x.nd, fun i o a e1 e2 => ?_, fun b o e => ?_, x.new, fun env he => ?_, x.fl, x.gens, x.os, x.m₀⟩, ⟨[], (List.append_nil _).symm, fun Z m => nomatch m⟩, K⟩
 · have r := x.obj i o a e1 e2
   obtain ⟨ox, q, _⟩ := r.kind
   have ma : a ∈ μ := List.mem_of_getElem? e2
   refine r.mono (MExt.refl _) T ?_
   rw [q, (K a ox q).1 |> fun f => (k a ox q (fun m => hm a m ma)).1 (fun m => x.fl a m ma)]
 · have q := x.stays b o e
   have nx : b ∉ ex := fun m => by rw [hb b m] at e; cases e
   by_cases q' : b ∈ fls envs
   · obtain ⟨env, he, hf'⟩ := List.mem_filterMap.mp q'
     obtain ⟨_, L, o', es, ep, b1, b2, b3, b4⟩ := x.frs env he
     rw [hf'] at b1; cases b1
     rw [b2] at e; cases e
   · exact (k b o q nx).1 q'
 · obtain ⟨a0, L, o', es, ep, b1, b2, b3, b4⟩ := x.frs env he
   have mL : L ∈ fls envs := List.mem_filterMap.mpr ⟨env, he, b1⟩
   refine ⟨a0, L, ?_⟩
   by_cases q : L ∈ ex
   · obtain ⟨o2, es2, ep2, c1, c2⟩ := hf L q mL
     exact ⟨o2, es2, ep2, b1, b2, c1, c2⟩
   · obtain ⟨sl, z⟩ := (k L o' b3 q).2 mL
     exact ⟨_, es, ep, b1, b2, z, b4⟩
theorem Aft.keepAll (x : St X envs μ H s) {h' : Heap} {t : Nat} {d : Drawn} (k : ∀ b o, s.heap.get? b = some o → h'.get? b = some o) : Aft X envs [] μ s μ H { s with heap := h', toks := t, drawn := d } :=
 Aft.quiet x (fun b o e Z => ⟨fun Z => k b o e, fun Z => ⟨o.slots, k b o e⟩⟩) (fun Z m => nomatch m) NoTup.nil (fun Z m => nomatch m) (fun Z m => nomatch m) (fun Z m => nomatch m)
theorem Aft.tok (x : St X envs μ H s) {t : Nat} : Aft X envs [] μ s μ H { s with toks := t } := Aft.keepAll x fun Z Z e => e
theorem Aft.push (x : St X envs μ H s) {o : Obj} {t : Nat} : Aft X envs [] μ s μ H { s with heap := s.heap.push o, toks := t } := Aft.keepAll x fun Z Z e => Heap.get?_push_of_some _ e
theorem Aft.new (x : St X envs μ H s) {h' : Heap} {t : Nat} {a : Addr} {mo : MObj} (k : ∀ b o, s.heap.get? b = some o → h'.get? b = some o) (ha : s.heap.get? a = none) (hb : X.base.get? a = none)
   (r : RO X (μ ++ [a]) h' a mo) : Aft X envs [] μ s (μ ++ [a]) (H ++ [mo]) { s with heap := h', toks := t } := by
 have A := Aft.keepAll x (h' := h') (t := t) (d := s.drawn) k
 have nm : a ∉ μ := fun m => by obtain ⟨o, e⟩ := x.in_dom m; rw [ha] at e; cases e
 refine ⟨⟨by simp [x.len], ?_, fun i o' a' e1 e2 => ?_, A.st.stays, fun i o' a' e1 e2 => ?_, A.st.frs, fun a' m q => ?_, x.gens, x.os, ?_⟩, ⟨_, rfl, fun a' m => ?_⟩, A.keep⟩
 · exact List.nodup_append.mpr ⟨x.nd, by simp, fun a' ha' b hb => by rw [List.mem_singleton.mp hb]; exact fun q => nm (q ▸ ha')⟩
 · rcases Nat.lt_or_ge i μ.length with hi | hi
   · rw [List.getElem?_append_left hi] at e2
     rw [List.getElem?_append_left (x.len ▸ hi)] at e1
     exact (A.st.obj i o' a' e1 e2).mono (MExt.app _ _) (TuKeep.refl _) rfl
   · rw [List.getElem?_append_right hi] at e2
     rw [List.getElem?_append_right (x.len ▸ hi), ← x.len] at e1
     cases q : i - μ.length with
     | zero =>
       rw [q] at e1 e2
       simp only [List.getElem?_cons_zero, Option.some.injEq] at e1 e2
       subst e1 e2; exact r
     | succ j => rw [q] at e2; simp at e2
 · rcases Nat.lt_or_ge i μ.length with hi | hi
   · rw [List.getElem?_append_left hi] at e2
     rw [List.getElem?_append_left (x.len ▸ hi)] at e1
     exact x.new i o' a' e1 e2
   · rw [List.getElem?_append_right hi] at e2
     cases q : i - μ.length with
     | zero =>
       rw [q] at e2
       simp only [List.getElem?_cons_zero, Option.some.injEq] at e2
       subst e2; exact .inr hb
     | succ j => rw [q] at e2; simp at e2
 · rcases List.mem_append.mp q with q | q
   · exact x.fl a' m q
   · obtain ⟨env, he, hf'⟩ := List.mem_filterMap.mp m
     obtain ⟨_, L, o', es, ep, b1, b2, b3, b4⟩ := x.frs env he
     rw [hf'] at b1; cases b1
     rw [List.mem_singleton.mp q, ha] at b3; cases b3
 · obtain ⟨ν, e⟩ := x.m₀
   exact ⟨ν ++ [a], by rw [e, List.append_assoc]⟩
 · rw [List.mem_singleton.mp m]; exact ha
theorem no_size (h : Heap) : h.get? h.objs.size = none := by
 cases q : h.get? h.objs.size with
 | none => rfl
 | some o => exact absurd (Heap.lt_size q) (Nat.lt_irrefl _)
theorem Aft.alloc (x : St X envs μ H s) {o : Obj} {t : Nat} {mo : MObj} (_hf : o.isFreed = false)
   (r : RO X (μ ++ [s.heap.objs.size]) (s.heap.push o) s.heap.objs.size mo) : Aft X envs [] μ s (μ ++ [s.heap.objs.size]) (H ++ [mo]) { s with heap := s.heap.push o, toks := t } :=
 Aft.new x (fun Z Z e => Heap.get?_push_of_some _ e) (no_size _) x.base_lt r
theorem Aft.upd (x : St X envs μ H s) {h' : Heap} {t : Nat} {i : Nat} {a : Addr} {mo mo' : MObj} (e1 : H[i]? = some mo) (e2 : μ[i]? = some a) (hz : mo.fz = false) (hz' : mo'.fz = false)
   (k : ∀ b o, s.heap.get? b = some o → b ≠ a → h'.get? b = some o) (r : RO X μ h' a mo') : Aft X envs [] μ s μ (H.set i mo') { s with heap := h', toks := t } := by
 have ma : a ∈ μ := List.mem_of_getElem? e2
 obtain ⟨oa, qa, ta⟩ := (x.obj i mo a e1 e2).kind
 obtain ⟨oa', qa', ta'⟩ := r.kind
 have K : Keep μ [] (fls envs) s.heap h' := fun b o e => by
   by_cases q : b = a
   · subst q
     exact ⟨fun n => absurd ma n, fun Z Z n => absurd ma n, oa', qa'⟩
   · exact ⟨fun Z Z Z => k b o e q, fun Z Z Z => ⟨o.slots, k b o e q⟩, o, k b o e q⟩
 have T : TuKeep s.heap h' := K.tu x NoTup.nil
 have nb : X.base.get? a = none := (x.new i mo a e1 e2).resolve_left (by rw [hz]; exact fun q => nomatch q.1)
 refine ⟨⟨by simp [x.len], x.nd, fun j o' b f1 f2 => ?_, fun b o e => ?_, fun j o' b f1 f2 => ?_, fun env he => ?_, x.fl, x.gens, x.os, x.m₀⟩, ⟨[], (List.append_nil _).symm, fun Z m => nomatch m⟩, K⟩
 · by_cases q : j = i
   · subst q
     rw [e2] at f2; cases f2
     rw [List.getElem?_set_self (List.getElem?_eq_some_iff.mp e1).1] at f1; cases f1
     exact r
   · rw [List.getElem?_set_ne (Ne.symm q)] at f1
     have r' := x.obj j o' b f1 f2
     obtain ⟨ob, qb, _⟩ := r'.kind
     refine r'.mono (MExt.refl _) T ?_
     rw [qb]; exact k b ob qb fun z => q (x.idx_inj (z ▸ f2) e2)
 · exact k b o (x.stays b o e) fun z => by rw [z, nb] at e; cases e
 · by_cases q : j = i
   · subst q
     rw [e2] at f2; cases f2
     exact .inr nb
   · rw [List.getElem?_set_ne (Ne.symm q)] at f1
     exact x.new j o' b f1 f2
 · obtain ⟨a0, L, o', es, ep, b1, b2, b3, b4⟩ := x.frs env he
   exact ⟨a0, L, o', es, ep, b1, b2, k L o' b3 fun z => x.fl L (List.mem_filterMap.mpr ⟨env, he, b1⟩) (z ▸ ma), b4⟩
end
section
open PySem PySem.W PySem.Calls PyProof.Rows
structure Ar (A : Around) (d : Nat) (envs : List Env) (rz : Bool) : Prop where
 frames : A.frames = some envs
 depth : A.depth + 4 * d ≤ 900
 units : A.units + 64 + 32 * d ≤ 9000
 hand : rz = true → A.handled = none
noncomputable def exL (env : Env) : List Addr := env.locals :: env.cells.map (·.2)
structure EnvOk (env : Env) (sc : Scope) (vm : VM) (envs : List Env) : Prop where
 kind : env.scope.kind = .function
 locv : ∀ n, sc.names.lookup n = some .local → env.kindOf n = some .local
 cellv : ∀ n, (sc.names.lookup n = some .cell ∨ sc.names.lookup n = some .free) → env.kindOf n = some .cell ∧ ∃ c, env.cells.lookup n = some c
 globs : ∀ n, isGlob sc n = true → env.kindOf n = some .globalImplicit
 globals : env.globals = mainGlobals
 builtins : env.builtins = builtinsNs
 apart : env.cells.Pairwise fun x y => x.2 ≠ y.2
 inj : ∀ n n' x, vm.lookup n = some x → vm.lookup n' = some x → n = n'
 head : ∃ e₀ out, envs = e₀ :: out ∧ env.frame = e₀.frame
structure LocR (X : Cx) (env : Env) (vm : VM) (μ : List Addr) (ρ : Loc) (h : Heap) : Prop where
 nm : ∀ a ∈ exL env, a ∉ μ
 nb : ∀ a ∈ exL env, X.base.get? a = none
 loc : ∃ m, h.Ns env.locals m ∧ ∀ n x mv, vm.lookup n = some x → ρ x = some mv → env.kindOf n = some .local → ∃ v, m n = some v ∧ RV X.T.strs μ h mv v
 cell : ∀ n c, (n, c) ∈ env.cells → ∃ v, h.IsCell c v ∧ (env.cells.lookup n = some c → ∀ x mv, vm.lookup n = some x → ρ x = some mv → env.kindOf n = some .cell → ∃ u, v = some u ∧ RV X.T.strs μ h mv u)
theorem ns_slots {h h' : Heap} {L : Addr} {m : Str → Option Value} (n : h.Ns L m) (k : ∀ o, h.get? L = some o → ∃ sl, h'.get? L = some { o with slots := sl }) : h'.Ns L m := by
 obtain ⟨o, es, ep, a, b, c⟩ := n
 obtain ⟨sl, e⟩ := k o a
 exact ⟨_, es, ep, e, b, c⟩
variable {X : Cx} {envs : List Env} {μ : List Addr} {H : MH} {s : Shared} {env : Env} {vm : VM} {ρ : Loc}
theorem mem_of_lookup' {α : Type} {l : List (Str × α)} {n : Str} {c : α} (h : l.lookup n = some c) : (n, c) ∈ l := mem_of_lookup h
theorem LocR.aftx (x : St X envs μ H s) (L : LocR X env vm μ ρ s.heap) {ex μ' : List Addr} {H' : MH} {s' : Shared} (A : Aft X envs ex μ s μ' H' s') (hd : ∀ a ∈ exL env, a ∉ ex) (hnt : NoTup s.heap ex) : LocR X env vm μ' ρ s'.heap := by
 have T := A.tu x hnt
 have M := A.mext
 have ndom : ∀ a ∈ exL env, ∃ o, s.heap.get? a = some o := fun a m => by
   rcases List.mem_cons.mp m with rfl | m
   · obtain ⟨m', ⟨o, es, ep, e, _⟩, _⟩ := L.loc; exact ⟨o, e⟩
   · obtain ⟨⟨n, c⟩, hm, rfl⟩ := List.mem_map.mp m
     obtain ⟨v, ⟨o, e, _⟩, _⟩ := L.cell n c hm
     exact ⟨o, e⟩
 obtain ⟨ν, rfl, fr⟩ := A.ext
 refine ⟨fun a m q => ?_, L.nb, ?_, fun n c hc => ?_⟩
 · rcases List.mem_append.mp q with q | q
   · exact L.nm a m q
   · obtain ⟨o, e⟩ := ndom a m
     rw [fr a q] at e; cases e
 · obtain ⟨m, hn, r⟩ := L.loc
   refine ⟨m, ns_slots hn fun o e => ?_, fun n x mv h1 h2 h3 => ?_⟩
   · have nm := L.nm env.locals (.head _)
     by_cases q : env.locals ∈ fls envs
     · exact (A.keep _ o e).2.1 q (hd _ (.head _)) nm
     · exact ⟨o.slots, (A.keep _ o e).1 nm (hd _ (.head _)) q⟩
   · obtain ⟨v, a, b⟩ := r n x mv h1 h2 h3
     exact ⟨v, a, b.mono M T.t⟩
 · obtain ⟨v, ⟨o, e, d⟩, r⟩ := L.cell n c hc
   have nm := L.nm c (List.mem_cons_of_mem _ (List.mem_map.mpr ⟨_, hc, rfl⟩))
   have nf : c ∉ fls envs := fun m => by
     obtain ⟨env', he, hf⟩ := List.mem_filterMap.mp m
     obtain ⟨_, L', o', es, ep, b1, _, b3, b4⟩ := x.frs env' he
     rw [hf] at b1; cases b1
     rw [e] at b3; cases b3
     rw [d] at b4; cases b4
   refine ⟨v, ⟨o, (A.keep _ o e).1 nm (hd _ (List.mem_cons_of_mem _ (List.mem_map.mpr ⟨_, hc, rfl⟩))) nf, d⟩, fun h0 y mv h1 h2 h3 => ?_⟩
   obtain ⟨u, a, b⟩ := r h0 y mv h1 h2 h3
   exact ⟨u, a, b.mono M T.t⟩
theorem LocR.aft (x : St X envs μ H s) (L : LocR X env vm μ ρ s.heap) {μ' : List Addr} {H' : MH} {s' : Shared} (A : Aft X envs [] μ s μ' H' s') : LocR X env vm μ' ρ s'.heap :=
 L.aftx x A (fun Z Z m => nomatch m) NoTup.nil
structure Tb0 (h : Heap) (e : Addr) (vs : Array Value) (T : Addr) (oT : Obj) (ts : Array Value) (v : Value) : Prop where
 at_ : vs[1]? = some (.ref T)
 ne : T ≠ e
 obj : h.get? T = some oT
 data : oT.data = .fields ts
 fl : ts[3]? = some v
noncomputable def FlV (envs : List Env) (v : Value) : Prop := v = .none ∨ ∃ F, (envs.head?.bind (·.frame)) = some F ∧ v = rawInt F
inductive FlT (X : Cx) (envs : List Env) (h₀ : Heap) (μ : List Addr) (h : Heap) (e : Addr) (vs : Array Value) : Prop
 | none (q : vs[1]? = some .none)
 | some {T : Addr} {oT : Obj} {ts : Array Value} {v : Value} (b : Tb0 h e vs T oT ts v) (new : h₀.get? T = .none) (nm : T ∉ μ) (nb : X.base.get? T = .none) (hv : FlV envs v)
structure FlO (X : Cx) (envs : List Env) (h₀ : Heap) (μ : List Addr) (h : Heap) (x : MExc) (e : Addr) (oe : Obj) (vs : Array Value) (dx : Addr) (kvs : List (Str × Value)) : Prop where
 obj : h.get? e = some oe
 cls : ∃ ca, oe.cls = .ref ca ∧ X.cls X.P.excC = some ca
 data : oe.data = .fields vs
 dict : oe.dict = some dx
 size : 1 < vs.size
 tb : FlT X envs h₀ μ h e vs
 dnew : h₀.get? dx = none
 dm : dx ∉ μ
 db : X.base.get? dx = none
 dobj : h.DictOf (strKind X.prog X.w) dx kvs
 dr : RSs X.T.strs μ h [(.str X.P.excK.1, x.why), (.str X.P.excK.2.1, x.fn), (.str X.P.excK.2.2, x.at_)] kvs
structure Flies (X : Cx) (envs : List Env) (h₀ : Heap) (μ : List Addr) (h : Heap) (x : MExc) (e : Addr) : Prop where
 new : h₀.get? e = none
 nm : e ∉ μ
 nb : X.base.get? e = none
 obj : ∃ oe vs dx kvs, FlO X envs h₀ μ h x e oe vs dx kvs
noncomputable def PostG {α β : Type} (X : Cx) (envs : List Env) (ex μ : List Addr) (s : Shared) (rel : List Addr → Heap → α → β → Prop) (r : R α) (Q : β → Shared → Prop) (E : Value → Shared → Prop) : Prop := match r with
 | .bad => False
 | .ok v H' => ∀ u μ' s', Aft X envs ex μ s μ' H' s' → rel μ' s'.heap v u → Q u s'
 | .exc x H' => ∀ e μ' s', Aft X envs ex μ s μ' H' s' → Flies X envs s.heap μ' s'.heap x e → E (.ref e) s'
abbrev relV (X : Cx) : List Addr → Heap → MV → Value → Prop := fun μ h m v => RV X.T.strs μ h m v
abbrev relVs (X : Cx) : List Addr → Heap → List MV → List Value → Prop := fun μ h m v => RVs X.T.strs μ h m v
abbrev relB : List Addr → Heap → Bool → Bool → Prop := fun Z Z a b => a = b
theorem Flies.older {h₀ h₁ h : Heap} {x : MExc} {e : Addr} (f : Flies X envs h₁ μ h x e) (k : ∀ b, h₁.get? b = none → h₀.get? b = none) : Flies X envs h₀ μ h x e := by
 obtain ⟨a, b, c, oe, vs, dx, kvs, g⟩ := f
 exact ⟨k _ a, b, c, oe, vs, dx, kvs, g.obj, g.cls, g.data, g.dict, g.size, by
   cases g.tb with
   | none q => exact .none q
   | some b n m nb hv => exact .some b (k _ n) m nb hv, k _ g.dnew, g.dm, g.db, g.dobj, g.dr⟩
theorem Aft.dom {ex : List Addr} {μ' : List Addr} {H' : MH} {s' : Shared} (A : Aft X envs ex μ s μ' H' s') {b : Addr} (e : s'.heap.get? b = none) : s.heap.get? b = none := by
 cases q : s.heap.get? b with
 | none => rfl
 | some o => obtain ⟨o', z⟩ := (A.keep b o q).2.2; rw [e] at z; cases z
theorem PostG.step {α β : Type} {rel : List Addr → Heap → α → β → Prop} {r : R α} {Q : β → Shared → Prop} {E : Value → Shared → Prop} {ex μ₁ : List Addr} {H₁ : MH} {s₁ : Shared}
   (A : Aft X envs ex μ s μ₁ H₁ s₁) (P : PostG X envs ex μ s rel r Q E) : PostG X envs ex μ₁ s₁ rel r Q E := by
 cases r with
 | bad => exact P.elim
 | ok v H' => exact fun u μ' s' A' R => P u μ' s' (A.trans A') R
 | exc x H' => exact fun e μ' s' A' R => P e μ' s' (A.trans A') (R.older fun b q => A.dom q)
theorem PostG.bind {α β γ δ : Type} {rel : List Addr → Heap → α → β → Prop} {rel' : List Addr → Heap → γ → δ → Prop} {r : R α} {f : α → MH → R γ} {Q : β → Shared → Prop} {Q' : δ → Shared → Prop} {E : Value → Shared → Prop} {ex : List Addr}
   (P : PostG X envs ex μ s rel' (r.bind f) Q' E)
   (k : ∀ a b μ₁ H₁ s₁, r = .ok a H₁ → Aft X envs ex μ s μ₁ H₁ s₁ → rel μ₁ s₁.heap a b → PostG X envs ex μ₁ s₁ rel' (f a H₁) Q' E → Q b s₁) :
   PostG X envs ex μ s rel r Q E := by
 cases r with
 | bad => exact P.elim
 | ok v H' => exact fun u μ' s' A R => k v u μ' H' s' rfl A R (PostG.step (r := f v H') A P)
 | exc x H' => exact P
theorem PostG.ok {α β : Type} {rel : List Addr → Heap → α → β → Prop} {v : α} {H' : MH} {u : β} {Q : β → Shared → Prop} {E : Value → Shared → Prop} {ex μ' : List Addr} {s' : Shared}
   (P : PostG X envs ex μ s rel (.ok v H') Q E) (A : Aft X envs ex μ s μ' H' s') (R : rel μ' s'.heap v u) : Q u s' := P u μ' s' A R
theorem PostG.opt {α β γ : Type} {ex : List Addr} {rel : List Addr → Heap → α → β → Prop} {Q : β → Shared → Prop} {E : Value → Shared → Prop} {o : Option γ} {f : γ → MH → R α} {G : Prop} (P : PostG X envs ex μ s rel ((optR H o).bind f) Q E)
   (k : ∀ a, o = some a → PostG X envs ex μ s rel (f a H) Q E → G) : G := by
 cases o with
 | none => exact P.elim
 | some a => exact k a rfl P
theorem PostG.opt0 {α β : Type} {ex : List Addr} {rel : List Addr → Heap → α → β → Prop} {Q : β → Shared → Prop} {E : Value → Shared → Prop} {o : Option α} {G : Prop} (P : PostG X envs ex μ s rel (optR H o) Q E)
   (k : ∀ a, o = some a → PostG X envs ex μ s rel (.ok a H) Q E → G) : G := by
 cases o with
 | none => exact P.elim
 | some a => exact k a rfl P
theorem PostG.ite {α β : Type} {ex : List Addr} {rel : List Addr → Heap → α → β → Prop} {Q : β → Shared → Prop} {E : Value → Shared → Prop} {p : Prop} {i : Decidable p} {r : R α} {G : Prop} (P : PostG X envs ex μ s rel (if p then r else .bad) Q E) (k : p → PostG X envs ex μ s rel r Q E → G) : G := by
 by_cases q : p
 · rw [if_pos q] at P; exact k q P
 · rw [if_neg q] at P; exact P.elim
theorem PostG.iten {α β : Type} {ex : List Addr} {rel : List Addr → Heap → α → β → Prop} {Q : β → Shared → Prop} {E : Value → Shared → Prop} {p : Prop} {i : Decidable p} {r : R α} {G : Prop} (P : PostG X envs ex μ s rel (if p then .bad else r) Q E) (k : ¬ p → PostG X envs ex μ s rel r Q E → G) : G := by
 by_cases q : p
 · rw [if_pos q] at P; exact P.elim
 · rw [if_neg q] at P; exact k q P
theorem PostG.assoc {α β γ δ : Type} {ex : List Addr} {rel : List Addr → Heap → α → β → Prop} {Q : β → Shared → Prop} {E : Value → Shared → Prop} {r : R γ} {f : γ → MH → R δ} {g : δ → MH → R α} (P : PostG X envs ex μ s rel ((r.bind f).bind g) Q E) :
   PostG X envs ex μ s rel (r.bind fun a H => (f a H).bind g) Q E := by
 cases r <;> exact P
end
section
open PySem PySem.W PySem.Calls PyProof.Rows
variable {X : Cx} {envs : List Env} {μ : List Addr} {H : MH} {s : Shared} {A : Around} {Q : Value → Shared → Prop} {E : Value → Shared → Prop} {d : Nat} {rz : Bool}
theorem sizeL_eq : sizeL = sizeLine := by decide +kernel
theorem rv_int {S : List Str} {h : Heap} {i : Int} {v : Value} (x : RV S μ h (.int i) v) : ∃ t, v = .int i t := x
theorem rv_int_ {S : List Str} {h : Heap} {i : Int} {t : Tok} : RV S μ h (.int i) (.int i t) := ⟨t, rfl⟩
theorem rv_bool {S : List Str} {h : Heap} {b : Bool} {v : Value} (x : RV S μ h (.bool b) v) : v = .bool b := x
theorem rv_bool_ {S : List Str} {h : Heap} {b : Bool} : RV S μ h (.bool b) (.bool b) := rfl
theorem rv_none {S : List Str} {h : Heap} {v : Value} (x : RV S μ h .none v) : v = .none := x
theorem rv_none_ {S : List Str} {h : Heap} : RV S μ h .none .none := rfl
theorem rv_tup {S : List Str} {h : Heap} {l : List MV} {v : Value} (x : RV S μ h (.tup l) v) : ∃ a items n, v = .ref a ∧ IsT h a items n ∧ items.size ≤ sizeLine ∧ RVs S μ h l items.toList := x
theorem rv_tup_ {S : List Str} {h : Heap} {l : List MV} {a : Addr} {items : Array Value} {n : Nat} (i : IsT h a items n) (z : items.size ≤ sizeLine) (r : RVs S μ h l items.toList) : RV S μ h (.tup l) (.ref a) := ⟨a, items, n, rfl, i, z, r⟩
theorem rv_ref {S : List Str} {h : Heap} {i : Nat} {v : Value} (x : RV S μ h (.ref i) v) : ∃ a, μ[i]? = some a ∧ v = .ref a := x
theorem rv_ref_ {S : List Str} {h : Heap} {i : Nat} {a : Addr} (e : μ[i]? = some a) : RV S μ h (.ref i) (.ref a) := ⟨a, e, rfl⟩
theorem rv_str {S : List Str} {h : Heap} {k : Nat} {v : Value} (x : RV S μ h (.str k) v) : ∃ y t, S[k]? = some y ∧ v = .str y t := x
theorem St.list (x : St X envs μ H s) {i : Nat} {fz : Bool} {l : List MV} (e : H[i]? = some (.list fz l)) :
   ∃ a items n, μ[i]? = some a ∧ IsL s.heap a items n ∧ RVs X.T.strs μ s.heap l items.toList ∧ items.size ≤ sizeLine := by
 obtain ⟨a, ha, items, n, r⟩ := x.at e
 exact ⟨a, items, n, ha, r⟩
theorem St.listA (x : St X envs μ H s) {i : Nat} {a : Addr} {fz : Bool} {l : List MV} (ha : μ[i]? = some a) (e : H[i]? = some (.list fz l)) : ∃ items n, IsL s.heap a items n ∧ RVs X.T.strs μ s.heap l items.toList ∧ items.size ≤ sizeLine := x.at' ha e
theorem isL_list {h : Heap} {a : Addr} {items : Array Value} {n : Nat} (x : IsL h a items n) : h.IsList a items := ⟨_, x, rfl, n, rfl⟩
theorem isT_tup {h : Heap} {a : Addr} {items : Array Value} {n : Nat} (x : IsT h a items n) : IsTup h a items := ⟨_, x, rfl, n, rfl⟩
theorem post_list (x : St X envs μ H s) {vs : List MV} {items : List Value} {t : Nat} (P : PostG X envs [] μ s (relV X) (newList vs H) Q E)
   (r : RVs X.T.strs μ s.heap vs items) : items.length ≤ sizeLine ∧ Q (.ref s.heap.objs.size) { s with heap := s.heap.push { cls := .type "list", data := .seq items.toArray }, toks := t } := by
 refine P.ite fun hs P => ?_
 have hl : items.length ≤ sizeLine := by rw [r.length, ← sizeL_eq]; exact hs
 refine ⟨hl, P _ _ _ (Aft.alloc x (o := { cls := .type "list", data := .seq items.toArray }) (mo := .list false vs) (t := t) rfl ⟨_, 0, Heap.get?_push_size _ rfl,
   r.mono (MExt.app _ _) (fun Z Z Z e => Heap.get?_push_of_some _ e), hl⟩) (rv_ref_ ?_)⟩
 rw [← x.len, List.getElem?_append_right (Nat.le_refl _), Nat.sub_self]; rfl
theorem post_tup (x : St X envs μ H s) {vs : List MV} {items : List Value} {t : Nat} (P : PostG X envs [] μ s (relV X) (newTup vs H) Q E)
   (r : RVs X.T.strs μ s.heap vs items) : items.length ≤ sizeLine ∧ Q (.ref s.heap.objs.size) { s with heap := s.heap.push { cls := .type "tuple", data := .seq items.toArray }, toks := t } := by
 refine P.ite fun hs P => ?_
 have hl : items.length ≤ sizeLine := by rw [r.length, ← sizeL_eq]; exact hs
 exact ⟨hl, P _ _ _ (Aft.push x (o := { cls := .type "tuple", data := .seq items.toArray }) (t := t)) (rv_tup_ (n := 0) (Heap.get?_push_size _ rfl) hl (r.mono (MExt.refl _) (fun Z Z Z e => Heap.get?_push_of_some _ e)))⟩
theorem intBits_small {a : Int} (h : a.natAbs < 1000000000000) : Builtin.Int.intBits a ≤ 64 := by
 have h2 := Int.ofNat_lt.mpr h
 exact PySem.intBits_le_64 (Int.neg_lt_of_neg_lt (Int.lt_of_le_of_lt (Int.natAbs_neg a ▸ Int.le_natAbs) (Int.lt_trans h2 (by decide)))) (Int.lt_of_le_of_lt Int.le_natAbs (Int.lt_trans h2 (by decide)))
theorem sim_add_tup (x : St X envs μ H s) {as bs : List MV} {u v : Value} (ru : RV X.T.strs μ s.heap (.tup as) u) (rv : RV X.T.strs μ s.heap (.tup bs) v)
   (P : PostG X envs [] μ s (relV X) (newTup (as ++ bs) H) Q E) : wpAny X.M A (binaryOp .Add u v) Q E s := by
 obtain ⟨t, xs, n, rfl, ht, z1, r1⟩ := rv_tup ru
 obtain ⟨b, ys, n2, rfl, hb, z2, r2⟩ := rv_tup rv
 refine P.ite fun hs P0 => ?_
 have l1 : xs.size = as.length := r1.length
 have l2 : ys.size = bs.length := r2.length
 by_cases hv : xs = #[]
 · subst hv
   cases List.length_eq_zero_iff.mp l1.symm
   exact concat_meets ⟨_, ht, rfl⟩ ⟨_, hb, rfl⟩ noFill_tuple_add seq_tuple_add PySem.F.slot_tuple_add PySem.F.entry_tuple_add (PySem.F.args_tuple_add_2 _ _)
     (tuple_addW0 t b #[] ys n n2 none none #[] #[] rfl) ⟨ht, hb, P0 _ _ _ (Aft.refl x) (rv_tup_ hb z2 r2)⟩
 · have hv := fun e => hv (Array.isEmpty_iff.mp e)
   by_cases hw : ys = #[]
   · subst hw
     cases List.length_eq_zero_iff.mp l2.symm
     rw [List.append_nil] at P0
     exact concat_meets ⟨_, ht, rfl⟩ ⟨_, hb, rfl⟩ noFill_tuple_add seq_tuple_add PySem.F.slot_tuple_add PySem.F.entry_tuple_add (PySem.F.args_tuple_add_2 _ _)
       (tuple_addW1 t b xs #[] n n2 none none #[] #[] hv rfl) ⟨ht, hb, P0 _ _ _ (Aft.refl x) (rv_tup_ ht z1 r1)⟩
   · have := (post_tup x (t := s.toks) P (r1.append r2)).2
     rw [show (xs.toList ++ ys.toList).toArray = xs ++ ys by simp] at this
     refine PySem.P.add_tuple ht hb hv (fun e => hw (Array.isEmpty_iff.mp e)) this ?_
     rw [l1, l2, ← List.length_append, ← sizeL_eq]; exact hs
noncomputable def bopOf : BOp → Operator
 | .add => .Add
 | .sub => .Sub
 | .mul => .Mult
 | .fdiv => .FloorDiv
 | .fmod => .Mod
theorem sim_add (x : St X envs μ H s) {a b : MV} {u v : Value} (ru : RV X.T.strs μ s.heap a u) (rv : RV X.T.strs μ s.heap b v)
   (P : PostG X envs [] μ s (relV X) (mAdd H a b) Q E) : wpAny X.M A (binaryOp .Add u v) Q E s := by
 cases a <;> cases b <;> first | exact P.elim | skip
 · obtain ⟨t, rfl⟩ := ru
   obtain ⟨t', rfl⟩ := rv
   exact PySem.P.add_int (P _ _ _ (Aft.tok x) rv_int_)
 · exact sim_add_tup x ru rv P
 · refine PostG.opt P fun l1 e1 P => PostG.opt P fun l2 e2 P => lswS e1 fun e1 => lswS e2 fun e2 => ?_
   obtain ⟨a, xs, n, ha, ia, ra, _⟩ := x.list e1
   obtain ⟨b, ys, n2, hb, ib, rb, _⟩ := x.list e2
   obtain ⟨_, q, rfl⟩ := ru
   cases ha.symm.trans q
   obtain ⟨_, q, rfl⟩ := rv
   cases hb.symm.trans q
   obtain ⟨h1, h2⟩ := post_list x (t := s.toks) P (ra.append rb)
   rw [show (xs.toList ++ ys.toList).toArray = xs ++ ys by simp] at h2
   rw [List.length_append] at h1
   exact PySem.P.add_list ia ib h2 h1
theorem sim_bin (x : St X envs μ H s) {op : BOp} {a b : MV} {u v : Value} (ru : RV X.T.strs μ s.heap a u) (rv : RV X.T.strs μ s.heap b v)
   (P : PostG X envs [] μ s (relV X) (mBin H op a b) Q E) : wpAny X.M A (binaryOp (bopOf op) u v) Q E s := by
 by_cases ho : op = .add
 · subst ho; exact sim_add x ru rv P
 · have P : PostG X envs [] μ s (relV X) ((optR H (int2 a b)).bind fun p H => arith p.1 p.2 H op) Q E := by
     cases op with
     | add => exact absurd rfl ho
     | _ => exact P
   refine PostG.opt P fun p e P => i2S e fun e1 e2 => ?_
   subst e1 e2
   obtain ⟨t, rfl⟩ := ru
   obtain ⟨t', rfl⟩ := rv
   cases op with
   | add => exact P.elim
   | sub => exact PySem.P.sub_int (P _ _ _ (Aft.tok x) rv_int_)
   | mul => exact PostG.ite P fun h1 P => PySem.P.mul_int (P _ _ _ (Aft.tok x) rv_int_) (IntMulOk.of_left (intBits_small h1.1))
   | fdiv =>
     refine PostG.ite P fun h1 P => floordiv_int (Int.ne_of_gt h1.1) ?_ (.inl (PyProof.noPylong_small (ar_nat (n := 1000000000) h1 rfl)))
     rw [Int.fdiv_eq_ediv_of_nonneg _ (Int.le_of_lt h1.1)]
     exact P _ _ _ (Aft.tok x) rv_int_
   | fmod =>
     refine PostG.ite P fun h1 P => mod_int' (Int.ne_of_gt h1.1) ?_
     rw [Int.fmod_eq_emod_of_nonneg _ (Int.le_of_lt h1.1)]
     exact P _ _ _ (Aft.tok x) rv_int_
noncomputable def pdp (S : List Str) : MV → PyData
 | .int i => .int i
 | .str k => .str (S.getD k (Str.ofString ""))
 | _ => .none
noncomputable def pdV (S : List Str) : Vw → PyData
 | .p v => pdp S v
 | .t l => .tuple (l.map (pdp S))
 | .l l => .list (l.map (pdp S))
noncomputable def okp (S : List Str) : MV → Prop
 | .str k => k < S.length
 | _ => True
noncomputable def okV (S : List Str) : Vw → Prop
 | .p v => prim v = true ∧ okp S v
 | .t l => ∀ v ∈ l, prim v = true ∧ okp S v
 | .l l => ∀ v ∈ l, prim v = true ∧ okp S v
section
variable {S : List Str} {h : Heap}
theorem rd_prim {m : MV} {v : Value} (p : prim m = true) (r : RV S μ h m v) : Reads h v (pdp S m) [] ∧ okp S m := by
 cases m with
 | none => cases rv_none r; exact ⟨.none, trivial⟩
 | int i => obtain ⟨t, rfl⟩ := rv_int r; exact ⟨.int _ _, trivial⟩
 | str k =>
   obtain ⟨y, t, e, rfl⟩ := rv_str r
   have : S.getD k (Str.ofString "") = y := by rw [List.getD_eq_getElem?_getD, e]; rfl
   exact ⟨this ▸ Reads.str (S.getD k (Str.ofString "")) t, (List.getElem?_eq_some_iff.mp e).1⟩
 | _ => exact nb p
theorem rd_prims {l : List MV} {vs : List Value} (p : l.all prim = true) (r : RVs S μ h l vs) : ReadsAll h vs (l.map (pdp S)) [] ∧ ∀ v ∈ l, prim v = true ∧ okp S v :=
 RVs.fold (R := fun l vs => l.all prim = true → ReadsAll h vs (l.map (pdp S)) [] ∧ ∀ v ∈ l, prim v = true ∧ okp S v) (fun Z => ⟨.nil, fun Z m => nomatch m⟩) (fun m v l vs a Z ih p => andT p fun p1 p2 =>
   ⟨.cons (rd_prim p1 a).1 (ih p2).1, fun w hw => by
     cases hw with
     | head => exact ⟨p1, (rd_prim p1 a).2⟩
     | tail _ hw => exact (ih p2).2 w hw⟩) r p
theorem view_reads (x : St X envs μ H s) {a : MV} {w : Vw} {u : Value} (e : view H a = some w) (r : RV X.T.strs μ s.heap a u) : (∃ as, Reads s.heap u (pdV X.T.strs w) as) ∧ okV X.T.strs w := by
 have pr : prim a = true → w = .p a → (∃ as, Reads s.heap u (pdV X.T.strs w) as) ∧ okV X.T.strs w := fun p q => by
   subst q; have := rd_prim p r; exact ⟨⟨_, this.1⟩, p, this.2⟩
 cases a with
 | bool b => exact nn e
 | tup l =>
   refine iteS e fun p e => ?_
   cases e
   obtain ⟨b, items, n, rfl, i, _, q⟩ := rv_tup r
   have := rd_prims p q
   exact ⟨⟨_, .tuple i rfl rfl this.1⟩, this.2⟩
 | ref i =>
   refine bindS e fun l hl e => lstS hl fun fz hl => iteS e fun p e => ?_
   cases e
   obtain ⟨b, items, n, hb, ib, q, _⟩ := x.list hl
   obtain ⟨_, z, rfl⟩ := rv_ref r
   cases hb.symm.trans z
   have := rd_prims p q
   exact ⟨⟨_, .list ib rfl rfl this.1⟩, this.2⟩
 | _ => exact pr rfl (Option.some.inj e).symm
theorem lay_p (hS : ∀ y ∈ S, PyData.strOk y = true) {m : MV} (o : okp S m) : (pdp S m).canLay0 = true ∧ (pdp S m).depth = 0 := by
 cases m with
 | str k =>
   have o' : k < S.length := o
   refine ⟨?_, rfl⟩
   show PyData.strOk (S.getD k (Str.ofString "")) = true
   rw [List.getD_eq_getElem?_getD, List.getElem?_eq_getElem o']
   exact hS _ (List.getElem_mem o')
 | _ => exact ⟨rfl, rfl⟩
theorem lay_ps (hS : ∀ y ∈ S, PyData.strOk y = true) : ∀ {l : List MV}, (∀ v ∈ l, prim v = true ∧ okp S v) → PyData.canLayAll0 (l.map (pdp S)) = true ∧ PyData.depthAll (l.map (pdp S)) = 0
 | [], _ => ⟨rfl, rfl⟩
 | m :: ms, h => by
   have a := lay_p hS (h m (.head _)).2
   have b := lay_ps hS fun v hv => h v (.tail _ hv)
   exact ⟨Bool.and_eq_true_iff.mpr ⟨a.1, b.1⟩, show max _ _ = 0 by rw [a.2, b.2]; rfl⟩
theorem lay_V (hS : ∀ y ∈ S, PyData.strOk y = true) {w : Vw} (o : okV S w) : (pdV S w).canLay0 = true ∧ (pdV S w).depth ≤ 1 := by
 cases w with
 | p v => have := lay_p hS o.2; exact ⟨this.1, by show (pdp S v).depth ≤ 1; lia⟩
 | t l => have := lay_ps hS o; exact ⟨this.1, show PyData.depthAll _ + 1 ≤ 1 by rw [this.2]; exact Nat.le_refl _⟩
 | l l => have := lay_ps hS o; exact ⟨this.1, show PyData.depthAll _ + 1 ≤ 1 by rw [this.2]; exact Nat.le_refl _⟩
set_option tactic.hygienic true in
theorem eqv_p (hn : S.Nodup) {a b : MV} (pa : prim a = true ∧ okp S a) (pb : prim b = true ∧ okp S b) : PyData.eqv (pdp S a) (pdp S b) = primEq a b := by
 cases a <;> cases b <;> first | exact nb pa.1 | exact nb pb.1 | rfl | skip
 rename_i j k
 have o1 : j < S.length := pa.2
 have o2 : k < S.length := pb.2
 show (S.getD j (Str.ofString "") == S.getD k (Str.ofString "")) = (j == k)
 rw [List.getD_eq_getElem?_getD, List.getD_eq_getElem?_getD, List.getElem?_eq_getElem o1, List.getElem?_eq_getElem o2]
 show (S[j] == S[k]) = (j == k)
 by_cases q : j = k
 · subst q; rw [beq_self_eq_true, beq_self_eq_true]
 · have : S[j] ≠ S[k] := fun z => by
     have P := List.pairwise_iff_getElem.mp hn
     rcases Nat.lt_or_gt_of_ne q with h | h
     · exact P j k o1 o2 h z
     · exact P k j o2 o1 h z.symm
   rw [beq_eq_false_iff_ne.mpr this, beq_eq_false_iff_ne.mpr q]
theorem eqv_ps (hn : S.Nodup) : ∀ {as bs : List MV}, (∀ v ∈ as, prim v = true ∧ okp S v) → (∀ v ∈ bs, prim v = true ∧ okp S v) → PyData.eqvAll (as.map (pdp S)) (bs.map (pdp S)) = primsEq as bs
 | [], [], _, _ => rfl
 | [], _ :: _, _, _ => rfl
 | _ :: _, [], _, _ => rfl
 | a :: as, b :: bs, ha, hb => by
   show (PyData.eqv (pdp S a) (pdp S b) && PyData.eqvAll (as.map (pdp S)) (bs.map (pdp S))) = (primEq a b && primsEq as bs)
   rw [eqv_p hn (ha a (.head _)) (hb b (.head _)), eqv_ps hn (fun v hv => ha v (.tail _ hv)) fun v hv => hb v (.tail _ hv)]
theorem eqv_V (hn : S.Nodup) {a b : Vw} (ha : okV S a) (hb : okV S b) : PyData.eqv (pdV S a) (pdV S b) = vwEq a b := by
 cases a with
 | p a => cases b with
   | p b => exact eqv_p hn ha hb
   | t b => cases a <;> first | exact nb ha.1 | rfl
   | l b => cases a <;> first | exact nb ha.1 | rfl
 | t a => cases b with
   | p b => cases b <;> first | exact nb hb.1 | rfl
   | t b => exact eqv_ps hn ha hb
   | l b => rfl
 | l a => cases b with
   | p b => cases b <;> first | exact nb hb.1 | rfl
   | t b => rfl
   | l b => exact eqv_ps hn ha hb
end
structure StrsOk (S : List Str) : Prop where
 nodup : S.Nodup
 ok : ∀ y ∈ S, PyData.strOk y = true
theorem shaped_V {S : List Str} (hS : StrsOk S) {w : Vw} (o : okV S w) : SeqAt.shaped (pdV S w) = true := by
 have := lay_V hS.ok o
 unfold SeqAt.shaped
 rw [this.1, Bool.true_and, decide_eq_true_eq]; lia
theorem views_reads (hS : StrsOk X.T.strs) (x : St X envs μ H s) {l : List MV} {vs : List Value} {ws : List Vw} (e : views H l = some ws) (r : RVs X.T.strs μ s.heap l vs) :
   (∃ as, ReadsAll s.heap vs (ws.map (pdV X.T.strs)) as) ∧ (∀ w ∈ ws, okV X.T.strs w) ∧ PyData.canLayAll0 (ws.map (pdV X.T.strs)) = true ∧ PyData.depthAll (ws.map (pdV X.T.strs)) ≤ 1 :=
 RVs.fold (R := fun l vs => ∀ ws, views H l = some ws → (∃ as, ReadsAll s.heap vs (ws.map (pdV X.T.strs)) as) ∧ (∀ w ∈ ws, okV X.T.strs w) ∧ PyData.canLayAll0 (ws.map (pdV X.T.strs)) = true ∧ PyData.depthAll (ws.map (pdV X.T.strs)) ≤ 1)
   (fun ws e => by cases e; exact ⟨⟨_, .nil⟩, (fun Z m => nomatch m), rfl, Nat.zero_le _⟩) (fun m v l vs a Z ih ws e => by
     refine bindS e fun w e1 e => mapS e fun ws' e2 e => ?_
     subst e
     obtain ⟨⟨as, q1⟩, q2⟩ := view_reads x e1 a
     obtain ⟨⟨bs, p1⟩, p2, p3, p4⟩ := ih _ e2
     have l := lay_V hS.ok q2
     refine ⟨⟨_, .cons q1 p1⟩, fun w' m => ?_, Bool.and_eq_true_iff.mpr ⟨l.1, p3⟩, Nat.max_le.mpr ⟨l.2, p4⟩⟩
     cases m with
     | head => exact q2
     | tail _ m => exact p2 _ m) r ws e
theorem any_V {S : List Str} (hS : StrsOk S) {w : Vw} (o : okV S w) : ∀ {ws : List Vw}, (∀ y ∈ ws, okV S y) → ((ws.map (pdV S)).any fun y => PyData.eqv y (pdV S w)) = ws.any fun y => vwEq y w
 | [], _ => rfl
 | y :: ws, h => by
   rw [List.map_cons, List.any_cons, List.any_cons, eqv_V hS.nodup (h y (.head _)) o, any_V hS o fun z m => h z (.tail _ m)]
end
section
open PySem PySem.W PySem.Calls PyProof.Rows
variable {X : Cx} {envs : List Env} {μ : List Addr} {H : MH} {s : Shared} {A : Around} {Q : Value → Shared → Prop} {E : Value → Shared → Prop} {d : Nat} {rz : Bool}
noncomputable def copOf : COp → CmpOp
 | .eq => .Eq
 | .ne => .NotEq
 | .lt => .Lt
 | .le => .LtE
 | .gt => .Gt
 | .ge => .GtE
 | .is => .Is
 | .isnot => .IsNot
 | .isin => .In
 | .notin => .NotIn
theorem valueAt_cons {K : Type} [DecidableEq K] (a : K) (u : Value) (r : List (K × Value)) (k : K) : valueAt ((a, u) :: r) k = if a = k then some u else valueAt r k := by
 unfold valueAt
 rw [List.find?_cons]
 by_cases h : a = k
 · rw [decide_eq_true h, if_pos h]; rfl
 · rw [decide_eq_false h, if_neg h]
theorem nodup_ne {S : List Str} (hn : S.Nodup) {j k : Nat} {y x : Str} (e' : S[j]? = some y) (e : S[k]? = some x) (q : ¬ j = k) : y ≠ x := fun z => by
 subst z
 obtain ⟨o1, z1⟩ := List.getElem?_eq_some_iff.mp e'
 exact q ((List.getElem?_inj o1 hn).mp (e'.trans e.symm))
noncomputable def Hit (S : List Str) (μ : List Addr) (h : Heap) : Option MV → Option Value → Prop
 | some v, some u => RV S μ h v u
 | none, none => True
 | _, _ => False
theorem Hit.some' {S : List Str} {h : Heap} {v : MV} {q : Option Value} (x : Hit S μ h (some v) q) : ∃ u, q = some u ∧ RV S μ h v u := by
 cases q with
 | none => exact x.elim
 | some u => exact ⟨u, rfl, x⟩
theorem Hit.is {S : List Str} {h : Heap} {p : Option MV} {q : Option Value} (x : Hit S μ h p q) : p.isSome = q.isSome := by
 cases p <;> cases q <;> first | rfl | exact x.elim
theorem Hit.none' {S : List Str} {h : Heap} {q : Option Value} (x : Hit S μ h none q) : q = none := by
 cases q with
 | none => rfl
 | some u => exact x.elim
theorem rss_get {S : List Str} (hn : S.Nodup) {h : Heap} {k : Nat} {x : Str} (e : S[k]? = some x) {es : List (MV × MV)} : ∀ {kvs : List (Str × Value)}, RSs S μ h es kvs → Hit S μ h (dGet (.str k) es) (valueAt kvs x) := by
 induction es with
 | nil => intro kvs r; cases (show kvs = [] from r); exact trivial
 | cons p es ih =>
   intro kvs r
   obtain ⟨j, y, u, t, e1, e', rfl, rv, r'⟩ := r
   rw [valueAt_cons]
   show Hit S μ h (if keyEq p.1 (.str k) = true then some p.2 else dGet (.str k) es) _
   rw [e1]
   by_cases q : j = k
   · subst q
     cases e.symm.trans e'
     rw [if_pos rfl, if_pos (show keyEq (.str j) (.str j) = true from beq_self_eq_true j)]
     exact rv
   · rw [if_neg (nodup_ne hn e' e q), if_neg (show ¬ keyEq (.str j) (.str k) = true from fun z => q (beq_iff_eq.mp z))]
     exact ih r'
theorem ris_get {S : List Str} {h : Heap} {k : Int} {es : List (MV × MV)} : ∀ {kvs : List (Int × Value)}, RIs S μ h es kvs → Hit S μ h (dGet (.int k) es) (valueAt kvs k) := by
 induction es with
 | nil => intro kvs r; cases (show kvs = [] from r); exact trivial
 | cons p es ih =>
   intro kvs r
   obtain ⟨j, u, t, e1, rfl, rv, r'⟩ := r
   rw [valueAt_cons]
   show Hit S μ h (if keyEq p.1 (.int k) = true then some p.2 else dGet (.int k) es) _
   rw [e1]
   by_cases q : j = k
   · rw [if_pos q, if_pos (show keyEq (.int j) (.int k) = true from beq_iff_eq.mpr q)]; exact rv
   · rw [if_neg q, if_neg (show ¬ keyEq (.int j) (.int k) = true from fun z => q (beq_iff_eq.mp z))]
     exact ih r'
theorem mapOf_of {prog : Program} {w : World} {K : Type} [DecidableEq K] {knd : KeyKind prog w K} {h : Heap} {a : Addr} {kvs : List (K × Value)} (x : h.DictOf knd a kvs) : h.MapOf knd a (valueAt kvs) := by
 obtain ⟨o, es, ep, ho, hx, hd, hk, hp, _⟩ := x
 refine ⟨o, es, ep, ho, hx, hd, hk, fun k => ?_⟩
 unfold findBy
 rw [← Array.find?_toList]
 exact hp.find k
structure XOk (X : Cx) : Prop where
 K : X.K.In X.base
 nolim : X.base.NoLimit
 sOk : StrsOk X.T.strs
 mods : ∃ o, X.base.get? sysModules = some o
 m0 : ∀ a ∈ X.μ₀, a ≠ sysModules
theorem not_mods (hX : XOk X) (x : St X envs μ H s) {i : Nat} {a : Addr} {mo : MObj} (e1 : H[i]? = some mo) (e2 : μ[i]? = some a) : (a == sysModules) = false := by
 refine beq_eq_false_iff_ne.mpr fun q => ?_
 rcases x.new i mo a e1 e2 with f | f
 · exact hX.m0 a f.2 q
 · obtain ⟨o, z⟩ := hX.mods
   rw [q, z] at f; cases f
abbrev GivesB (X : Cx) (envs : List Env) (μ : List Addr) (H : MH) (s : Shared) (b : Bool) (Q : Value → Shared → Prop) : Prop := ∀ s', Aft X envs [] μ s μ H s' → Q (.bool b) s'
theorem sim_in (hX : XOk X) (hu : A.units + 66 < cLine) (x : St X envs μ H s) {a b : MV} {u v : Value} {r : Bool} (ru : RV X.T.strs μ s.heap a u) (rv : RV X.T.strs μ s.heap b v)
   (e : mIn H a b = some r) (P : ∀ s', Aft X envs [] μ s μ H s' → Q (.bool r) s') : wpAny X.M A (compareOp .In u v) Q E s := by
 cases b with
 | tup l =>
   have e : ((view H a).bind fun x => (views H l).map fun ys => ys.any fun y => vwEq y x) = some r := by cases a <;> exact e
   refine bindS e fun w e1 e => mapS e fun ws e2 e => ?_
   subst e
   obtain ⟨⟨as, r1⟩, o1⟩ := view_reads x e1 ru
   obtain ⟨t, items, n, rfl, i, _, q⟩ := rv_tup rv
   obtain ⟨⟨bs, r2⟩, o2, l2, d2⟩ := views_reads hX.sOk x e2 q
   refine SeqAt.in_tuple_reads (.tuple i rfl rfl r2) r1 l2 (lay_V hX.sOk.ok o1).1 (Nat.lt_of_le_of_lt (Nat.add_le_add_left (Nat.le_trans (Nat.min_le_left _ _) d2) _) (Nat.lt_of_le_of_lt (Nat.add_le_add_left (show 2 ≤ 66 by decide) A.units) hu)) ?_
   rw [any_V hX.sOk o1 o2]; exact P _ (Aft.refl x)
 | ref i =>
   cases a with
   | int k =>
     refine mapS e fun es he e => dcrS he fun he => ?_
     subst e
     obtain ⟨b, hb, rfl⟩ := rv_ref rv
     obtain ⟨b', hb', kvs, D, r⟩ := x.at he
     cases hb.symm.trans hb'
     obtain ⟨t, rfl⟩ := rv_int ru
     have hkey : (intKind X.prog X.w).is k (.int k t) = true := by simp [PySem.intKind, Value.isInt]
     rw [(ris_get (k := k) r).is] at P
     exact wpAny_in_of hkey (not_mods hX x he hb) (mapOf_of D) (P _ (Aft.tok x))
   | _ => exact nn e
 | _ => cases a <;> exact nn e
theorem eq_views {H : MH} {a b : MV} {r : Bool} {G : Prop} (e : mEq H a b = some r) (k : ∀ w y, view H a = some w → view H b = some y → vwEq w y = r → G) : G :=
 bindS e fun w e1 e => mapS e fun y e2 e => k w y e1 e2 e
theorem sim_eq (hX : XOk X) (hu : A.units + 66 < cLine) (x : St X envs μ H s) {a b : MV} {u v : Value} {r : Bool} (ru : RV X.T.strs μ s.heap a u) (rv : RV X.T.strs μ s.heap b v)
   (e : mEq H a b = some r) : (Q (.bool r) s → wpAny X.M A (compareOp .Eq u v) Q E s) ∧ (Q (.bool (!r)) s → wpAny X.M A (compareOp .NotEq u v) Q E s) :=
 eq_views e fun w y e1 e2 e => by
   subst e
   obtain ⟨⟨as, r1⟩, o1⟩ := view_reads x e1 ru
   obtain ⟨⟨bs, r2⟩, o2⟩ := view_reads x e2 rv
   have h1 := shaped_V hX.sOk o1
   have h2 := shaped_V hX.sOk o2
   have q := eqv_V hX.sOk.nodup o1 o2
   exact ⟨fun P => eq_dataH r1 r2 h1 h2 (Nat.lt_of_le_of_lt (Nat.add_le_add_left (by decide) _) hu) (q.symm ▸ P), fun P => ne_dataH r1 r2 h1 h2 (Nat.lt_of_le_of_lt (Nat.add_le_add_left (by decide) _) hu) (q.symm ▸ P)⟩
theorem rv_isN {a : MV} {u : Value} (ru : RV X.T.strs μ s.heap a u) : (u == .none) = isN a := by
 cases a with
 | none => cases ru; rfl
 | bool b => cases ru; rfl
 | int i => obtain ⟨t, rfl⟩ := ru; rfl
 | str k => obtain ⟨y, t, _, rfl⟩ := ru; rfl
 | tup l => obtain ⟨t, _, _, rfl, _⟩ := ru; rfl
 | ref i => obtain ⟨t, _, rfl⟩ := ru; rfl
theorem sim_comp (hX : XOk X) (hu : A.units + 66 < cLine) (x : St X envs μ H s) {op : COp} {a b : MV} {u v : Value} {r : Bool} (ru : RV X.T.strs μ s.heap a u) (rv : RV X.T.strs μ s.heap b v)
   (e : mComp H op a b = some r) (P : ∀ s', Aft X envs [] μ s μ H s' → Q (.bool r) s') : wpAny X.M A (compareOp (copOf op) u v) Q E s := by
 have hi : ((int2 a b).bind fun p => cmpI p.1 p.2 op) = some r → wpAny X.M A (compareOp (copOf op) u v) Q E s := fun e => bindS e fun p e0 e => i2S e0 fun e1 e2 => by
   subst e1 e2
   obtain ⟨t, rfl⟩ := rv_int ru
   obtain ⟨t', rfl⟩ := rv_int rv
   have P := P _ (Aft.refl x)
   cases op with
   | lt => cases e; exact PySem.P.lt_int P
   | le => cases e; exact PySem.P.le_int P
   | gt => cases e; exact PySem.P.gt_int P
   | ge => cases e; exact PySem.P.ge_int P
   | _ => exact nn e
 cases op with
 | eq => exact (sim_eq hX hu x ru rv e).1 (P _ (Aft.refl x))
 | ne => exact mapS e fun k e' k2 => (sim_eq hX hu x ru rv e').2 (k2 ▸ P _ (Aft.refl x))
 | is =>
   refine iteS e fun hb e => ?_
   cases isNS hb
   rw [rv_none rv]
   refine is_none ?_
   rw [rv_isN ru, Option.some.inj e]; exact P _ (Aft.refl x)
 | isin => exact sim_in hX hu x ru rv e P
 | _ => exact hi e
end
section
open PySem PySem.W PySem.Calls PyProof.Rows
variable {X : Cx} {envs : List Env} {μ : List Addr} {H : MH} {s : Shared} {A : Around} {Q : Value → Shared → Prop} {E : Value → Shared → Prop} {d : Nat} {rz : Bool}
theorem sub_ops (slice : Expr) (o i : Value) : ∃ ops, subscripted slice false o i = operate ops (getItem o i) := by
 cases slice with
 | Slice l u st p => cases st with
   | none => exact ⟨[i, o], rfl⟩
   | some e => exact ⟨[o, i], rfl⟩
 | _ => exact ⟨[o, i], rfl⟩
theorem idx_seq {k : Int} {n j : Nat} (e : idx k n = some j) : seqIndex? k n = some j ∧ j < n ∧ ((0 ≤ k ∧ k.toNat = j ∧ k < n) ∨ (k < 0 ∧ -(n : Int) ≤ k ∧ (k + n).toNat = j)) := by
 unfold idx at e
 unfold seqIndex?
 by_cases h : 0 ≤ k
 · rw [if_pos h] at e
   refine iteS e fun h2 e => ?_
   cases e
   rw [if_neg (Int.not_lt.mpr h)]
   exact ⟨if_pos (Bool.and_eq_true_iff.mpr ⟨decide_eq_true h, decide_eq_true h2⟩), (Int.toNat_lt h).mpr h2, .inl ⟨h, rfl, h2⟩⟩
 · rw [if_neg h] at e
   refine iteS e fun h2 e => ?_
   cases e
   rw [if_pos (Int.not_le.mp h)]
   have hx : k + (n : Int) < n := by lia
   exact ⟨if_pos (Bool.and_eq_true_iff.mpr ⟨decide_eq_true h2, decide_eq_true hx⟩), (Int.toNat_lt h2).mpr hx, .inr ⟨Int.not_le.mp h, by lia, rfl⟩⟩
abbrev Item (X : Cx) (A : Around) (value slice : Expr) (u v : Value) (Q : Value → Shared → Prop) (E : Value → Shared → Prop) (s : Shared) : Prop := wpAny X.M A (getItem u v) Q E s ∧ wpAny X.M A (subscriptTail value slice u v) Q E s
theorem item_at {k : Int} {l : List MV} {w : MV} {items : Array Value} (h : Heap) (e : ((idx k l.length).bind fun j => l[j]?) = some w) (r : RVs X.T.strs μ h l items.toList) : ∃ j y, idx k items.size = some j ∧ items[j]? = some y ∧ RV X.T.strs μ h w y :=
 bindS e fun j ej ew => by
   obtain ⟨y, ey, ry⟩ := r.get ew
   have ln : items.size = l.length := r.length
   exact ⟨j, y, ln ▸ ej, Array.getElem?_toList ▸ ey, ry⟩
theorem item_tup (x : St X envs μ H s) {l : List MV} {k : Int} {u v : Value} {value slice : Expr} (ru : RV X.T.strs μ s.heap (.tup l) u) (rv : RV X.T.strs μ s.heap (.int k) v)
   (P : PostG X envs [] μ s (relV X) (mSub H (.tup l) (.int k)) Q E) : Item X A value slice u v Q E s := by
 obtain ⟨t, items, n, rfl, it, z, r⟩ := ru
 obtain ⟨tk, rfl⟩ := rv
 refine PostG.opt0 P fun w e P => ?_
 obtain ⟨j, y, ej, ey, ry⟩ := item_at s.heap e r
 obtain ⟨q1, q2, q3⟩ := idx_seq ej
 rw [sizeLine_eq] at z
 have g : wpAny X.M A (getItem (.ref t) (.int k tk)) Q E s := PySem.P.getItem_tuple it (ar_63 z q3).1 (ar_63 z q3).2 q1 ey (P _ _ _ (Aft.refl x) ry)
 obtain ⟨ops, ho⟩ := sub_ops slice (.ref t) (.int k tk)
 exact ⟨g, tail_any (isT_tup it).typeIs slot_tuple_getitem.lookup g ho⟩
theorem item_list (x : St X envs μ H s) {i : Nat} {k : Int} {u v : Value} {value slice : Expr} (ru : RV X.T.strs μ s.heap (.ref i) u) (rv : RV X.T.strs μ s.heap (.int k) v)
   (P : PostG X envs [] μ s (relV X) (mSub H (.ref i) (.int k)) Q E) : Item X A value slice u v Q E s := by
 obtain ⟨tk, rfl⟩ := rv
 refine PostG.opt0 P fun w e P => bindS e fun l hl e => lstS hl fun fz hl => ?_
 obtain ⟨a, ha, rfl⟩ := ru
 obtain ⟨items, n, il, r, z⟩ := x.listA ha hl
 obtain ⟨j, y, ej, ey, ry⟩ := item_at s.heap e r
 obtain ⟨q1, q2, q3⟩ := idx_seq ej
 have P := P _ _ _ (Aft.refl x) ry
 rw [sizeLine_eq] at z
 have g : wpAny X.M A (getItem (.ref a) (.int k tk)) Q E s := by
   rcases q3 with ⟨p1, p2, p3⟩ | ⟨p1, p2, p3⟩
   · exact wpAny_getItem_list (isL_list il) p1 (by lia) (p2.symm ▸ ey) P
   · exact wpAny_getItem_list_neg (isL_list il) p1 p2 (by lia) (p3.symm ▸ ey) P
 obtain ⟨ops, ho⟩ := sub_ops slice (.ref a) (.int k tk)
 exact ⟨g, tail_any (isL_list il).typeIs slot_list_getitem.lookup g ho⟩
theorem item_dict (hX : XOk X) (x : St X envs μ H s) {i k : Nat} {u v : Value} {value slice : Expr} (ru : RV X.T.strs μ s.heap (.ref i) u) (rv : RV X.T.strs μ s.heap (.str k) v)
   (P : PostG X envs [] μ s (relV X) (mSub H (.ref i) (.str k)) Q E) : Item X A value slice u v Q E s := by
 obtain ⟨y, t, ey, rfl⟩ := rv
 refine PostG.opt0 P fun w e P => bindS e fun es he ew => dcwS he fun he => ?_
 obtain ⟨a, ha, rfl⟩ := ru
 obtain ⟨_, kvs, D, r⟩ := x.at' ha he
 obtain ⟨u', q, g⟩ := (ew ▸ rss_get hX.sOk.nodup ey r : Hit _ _ _ (some w) _).some'
 have hkey : (PySem.strKind X.prog X.w).is y (.str y t) = true := beq_self_eq_true y
 have gi : wpAny X.M A (getItem (.ref a) (.str y t)) Q E s := wpAny_getItem_of hkey (mapOf_of D) q (P _ _ _ (Aft.tok x) g)
 obtain ⟨ops, ho⟩ := sub_ops slice (.ref a) (.str y t)
 exact ⟨gi, tail_any (mapOf_of D).typeIs slot_dict_getitem.lookup gi ho⟩
theorem sim_item (hX : XOk X) (x : St X envs μ H s) {a b : MV} {u v : Value} {value slice : Expr} (ru : RV X.T.strs μ s.heap a u) (rv : RV X.T.strs μ s.heap b v)
   (P : PostG X envs [] μ s (relV X) (mSub H a b) Q E) : Item X A value slice u v Q E s := by
 cases a with
 | tup l => cases b with
   | int k => exact item_tup x ru rv P
   | _ => exact P.elim
 | ref i => cases b with
   | int k => exact item_list x ru rv P
   | str k => exact item_dict hX x ru rv P
   | _ => exact P.elim
 | _ => cases b <;> exact P.elim
theorem slice_take (items : Array Value) {k : Int} (h0 : 0 ≤ k) : slicePick items none (some k) none = (items.toList.take k.toNat).toArray := by
 obtain ⟨b, rfl⟩ := Int.eq_ofNat_of_zero_le h0
 by_cases h : b ≤ items.size
 · exact slicePick_upto items b h
 · have e : slicePick items none (some (b : Int)) none = slicePick items none (some ((items.size : Nat) : Int)) none := by
     unfold slicePick sliceBounds
     have h1 : ¬ ((b : Int) < 0) := Int.not_lt.mpr (Int.natCast_nonneg b)
     have h2 : ¬ ((items.size : Int) < 0) := Int.not_lt.mpr (Int.natCast_nonneg _)
     have h3 : min (b : Int) (items.size : Int) = items.size := Int.min_eq_right (Int.ofNat_le.mpr (Nat.le_of_not_le h))
     have h4 : min (items.size : Int) (items.size : Int) = items.size := Int.min_self _
     simp [h1, h2, h3, h4]
   rw [e, slicePick_upto items items.size (Nat.le_refl _)]
   have : items.toList.take items.size = items.toList := by rw [← Array.length_toList, List.take_length]
   rw [this, List.take_of_length_le (by rw [Array.length_toList, Int.toNat_natCast]; exact Nat.le_of_not_le h)]
theorem sim_sl (x : St X envs μ H s) {i : Nat} {u vl vu : Value} {value : Expr} {sl : Addr} {sp : Expr} {lo hi : Option Int} {l l' : List MV} (ru : RV X.T.strs μ s.heap (.ref i) u) (hl : H[i]?.bind MObj.list? = some l)
   (hs : s.heap.IsSliceOf sl vl vu .none) (pl : IsPart vl lo) (pu : IsPart vu hi) (hf : ∀ xs : Array Value, RVs X.T.strs μ s.heap l xs.toList → ∃ ys, slicePick xs lo hi none = List.toArray ys ∧ RVs X.T.strs μ s.heap l' ys)
   (P : PostG X envs [] μ s (relV X) (newList l' H) Q E) : wpAny X.M A (subscriptTail value sp u (.ref sl)) Q E s := lstS hl fun fz hl => by
 obtain ⟨a, ha, rfl⟩ := ru
 obtain ⟨items, n, il, r, z⟩ := x.listA ha hl
 obtain ⟨ys, e, r'⟩ := hf items r
 have P' := (post_list x (t := s.toks) P r').2
 rw [← e] at P'
 obtain ⟨ops, ho⟩ := sub_ops sp (.ref a) (.ref sl)
 exact tail_any (isL_list il).typeIs slot_list_getitem.lookup (wpAny_getItem_list_slice (isL_list il) hs pl pu .none (fun e => nomatch e) P' z) ho
theorem sim_slFrom (x : St X envs μ H s) {a b : MV} {u v : Value} {value : Expr} {sl : Addr} {sp : Expr} (ru : RV X.T.strs μ s.heap a u) (rv : RV X.T.strs μ s.heap b v)
   (hs : s.heap.IsSliceOf sl v .none .none) (P : PostG X envs [] μ s (relV X) (mSlFrom H a b) Q E) : wpAny X.M A (subscriptTail value sp u (.ref sl)) Q E s :=
 PostG.opt P fun Z e P => bindS e fun p e1 e => bindS e fun l hl e => iteS e fun hk e9 => riS e1 fun e1 e2 => by
   subst e1 e2
   cases e9
   obtain ⟨tk, rfl⟩ := rv
   obtain ⟨j, hj⟩ := Int.eq_ofNat_of_zero_le hk.1
   rw [hj] at hs P hk
   refine sim_sl x ru hl hs (.int _ _) .none (fun xs r => ⟨_, slicePick_from xs j ?_, r.drop j⟩) P
   have : xs.size = l.length := r.length
   lia
theorem sim_slTo (x : St X envs μ H s) {a b : MV} {u v : Value} {value : Expr} {sl : Addr} {sp : Expr} (ru : RV X.T.strs μ s.heap a u) (rv : RV X.T.strs μ s.heap b v)
   (hs : s.heap.IsSliceOf sl .none v .none) (P : PostG X envs [] μ s (relV X) (mSlTo H a b) Q E) : wpAny X.M A (subscriptTail value sp u (.ref sl)) Q E s :=
 PostG.opt P fun Z e P => bindS e fun p e1 e => bindS e fun l hl e => iteS e fun hk e9 => riS e1 fun e1 e2 => by
   subst e1 e2
   cases e9
   obtain ⟨tk, rfl⟩ := rv
   exact sim_sl x ru hl hs .none (.int _ _) (fun xs r => ⟨_, slice_take xs hk.1, r.take _⟩) P
end
section
open PySem PySem.W PySem.Calls PyProof.Rows
variable {X : Cx} {envs : List Env} {μ : List Addr} {H : MH} {s : Shared} {A : Around} {E : Value → Shared → Prop} {d : Nat} {rz : Bool}
section
variable {prog : Program} {w : World}
theorem setItem_exact {l : Addr} {items : Array Value} {n : Nat} {k : Int} {t : Tok} {v : Value} {Q : Unit → Shared → Prop} (hl : IsL s.heap l items n)
   (h0 : 0 ≤ k) (hj : k < items.size) (hz : items.size ≤ sizeLine)
   (hQ : Q () { s with heap := s.heap.update l (Obj.mapSeq (·.setIfInBounds k.toNat v)) }) :
   wpAny (model prog w) A (setItem (.ref l) (.int k t) v) Q E s := by
 have hl' := isL_list hl
 have hd : ({ cls := .type "list", dict := none, data := .seq items n, slots := #[] } : Obj).data = .seq items n := rfl
 rw [sizeLine_eq] at hz
 unfold setItem
 try with_reducible refine wpAny_holding ?_
 first | refine wpAny_bind (wpAny_pure ?_) | skip
 refine wpAny_bind (wpAny_sequenceKey hl'.typeIs (by decide) ?_)
 refine wpAny_bind (wpAny_callSpecial?_slot (name := Str.ofString "__setitem__") hl'.typeIs slot_list_setitem
   (wpAny_call_entry slot_list_setitem hl'.typeIs entry_list_setitem ?_ (args_list_setitem _ _ _)))
 show wpAny _ _ (Builtin.List.listSubscript? (.int k t) >>= _) _ _ s
 refine wpAny_bind (wpAny_listSubscript_int (fitsIndex_of h0 (by lia)) ?_)
 obtain ⟨j, rfl⟩ := Int.eq_ofNat_of_zero_le h0
 have hj : j < items.size := Int.ofNat_lt.mp hj
 show wpAny _ _ ((seqItemAt l j >>= fun r => pure (r.map (j, ·))) >>= _) _ _ s
 refine wpAny_bind (wpAny_bind (wpAny_seqItemAt hl hd (wpAny_pure ?_)))
 rw [Array.getElem?_eq_getElem hj]
 show wpAny _ _ (setSeqItemAt l j v >>= _) _ _ s
 refine wpAny_bind (wpAny_setSeqItemAt hl hd ?_)
 first
   | exact wpAny_bind (wpAny_pure (wpAny_pure ⟨.none, rfl, wpAny_pure hQ⟩))
   | exact wpAny_pure ⟨.none, rfl, wpAny_pure hQ⟩
end
noncomputable def storedL {K : Type} [DecidableEq K] (k : K) (v : Value) : List (K × Value) → List (K × Value)
 | [] => [(k, v)]
 | (a, u) :: r => if a = k then (a, v) :: r else (a, u) :: storedL k v r
theorem stored_eq {K : Type} [DecidableEq K] (k : K) (v : Value) {kvs : List (K × Value)} : (kvs.map (·.1)).Nodup → stored kvs k v = storedL k v kvs := by
 induction kvs with
 | nil => intro _; rfl
 | cons p r ih =>
   obtain ⟨a, u⟩ := p
   intro hn
   rw [List.map_cons, List.nodup_cons] at hn
   have ih := ih hn.2
   unfold stored at ih ⊢
   show _ = if a = k then (a, v) :: r else (a, u) :: storedL k v r
   by_cases h : a = k
   · subst h
     have := map_store_of_not_mem r a v hn.1
     simp [this]
   · rw [if_neg h, List.any_cons, decide_eq_false h, Bool.false_or, ← ih]
     by_cases q : (r.any fun x => decide (x.1 = k)) = true
     · rw [if_pos q, if_pos q, List.map_cons, if_neg h]
     · rw [if_neg q, if_neg q]; rfl
theorem dSet_cons {k v : MV} {p : MV × MV} {r : List (MV × MV)} : dSet k v (p :: r) = if keyEq p.1 k = true then (p.1, v) :: r else p :: dSet k v r := rfl
theorem storedL_cons {K : Type} [DecidableEq K] {k : K} {v : Value} {p : K × Value} {r : List (K × Value)} : storedL k v (p :: r) = if p.1 = k then (p.1, v) :: r else p :: storedL k v r := rfl
theorem rss_set {S : List Str} (hS : S.Nodup) {h : Heap} {k : Nat} {x : Str} {v : MV} {u : Value} (e : S[k]? = some x) (rv : RV S μ h v u) {es : List (MV × MV)} : ∀ {kvs : List (Str × Value)}, RSs S μ h es kvs →
   RSs S μ h (dSet (.str k) v es) (storedL x u kvs) := by
 induction es with
 | nil => intro kvs r; cases (show kvs = [] from r); exact ⟨k, x, u, [], rfl, e, rfl, rv, rfl⟩
 | cons p es ih =>
   intro kvs r
   obtain ⟨a, v'⟩ := p
   obtain ⟨j, y, u', t, rfl, e', rfl, rv', r'⟩ := r
   rw [dSet_cons, storedL_cons]
   by_cases q : j = k
   · subst q
     cases e.symm.trans e'
     rw [if_pos rfl, if_pos (show keyEq (.str j) (.str j) = true from beq_self_eq_true j)]
     exact ⟨j, x, u, t, rfl, e, rfl, rv, r'⟩
   · rw [if_neg (show ¬ (y, u').1 = x from nodup_ne hS e' e q), if_neg (show ¬ keyEq (.str j) (.str k) = true from fun z => q (beq_iff_eq.mp z))]
     exact ⟨j, y, u', _, rfl, e', rfl, rv', ih r'⟩
theorem rss_len {S : List Str} {h : Heap} {es : List (MV × MV)} : ∀ {kvs : List (Str × Value)}, RSs S μ h es kvs → kvs.length = es.length := by
 induction es with
 | nil => intro kvs r; cases (show kvs = [] from r); rfl
 | cons p es ih => intro kvs r; obtain ⟨_, _, _, t, _, _, rfl, _, r'⟩ := r; exact congrArg (· + 1) (ih r')
theorem dSet_len (k v : MV) (es : List (MV × MV)) : (dSet k v es).length ≤ es.length + 1 := by
 induction es with
 | nil => exact Nat.le_refl _
 | cons p r ih =>
   rw [dSet_cons]
   by_cases q : keyEq p.1 k = true
   · rw [if_pos q]; exact Nat.le_succ _
   · rw [if_neg q]; exact Nat.succ_le_succ ih
theorem isL_upd {h : Heap} {l : Addr} {items : Array Value} {n : Nat} (x : IsL h l items n) (f : Array Value → Array Value) : ∃ n', IsL (h.update l (Obj.mapSeq f)) l (f items) n' := ⟨_, x.update f⟩
theorem notTupO {o : Obj} {T : String} (hc : o.cls = .type T) (hT : T ≠ "tuple") : ¬ IsTupO o := fun c => hT (by have := c.1; rw [hc] at this; exact Value.type.inj this)
theorem tk_but {h h' : Heap} {a : Addr} {ox : Obj} (ho : h.get? a = some ox) (hox : ¬ IsTupO ox) (k : ∀ b, b ≠ a → h'.get? b = h.get? b) : TKeep h h' := fun b its m i2 =>
 (k b fun q => by subst q; cases ho.symm.trans i2; exact hox ⟨rfl, _, _, rfl⟩).trans i2
theorem sim_setI (hX : XOk X) (x : St X envs μ H s) {a b c : MV} {u v y : Value} {H' : MH} {Q : Unit → Shared → Prop} (ru : RV X.T.strs μ s.heap a u) (rv : RV X.T.strs μ s.heap b v) (ry : RV X.T.strs μ s.heap c y)
   (e : mSetI H a b c = some H') (P : ∀ s', Aft X envs [] μ s μ H' s' → Q () s') : wpAny X.M A (setItem u v y) Q E s := by
 cases a with
 | ref i =>
   obtain ⟨a, ha, rfl⟩ := rv_ref ru
   cases b with
   | int k =>
     obtain ⟨tk, rfl⟩ := rv_int rv
     refine bindS e fun l hl e => lswS hl fun hl => iteS e fun hk e => ?_
     cases e
     obtain ⟨items, n, il, r, z⟩ := x.listA ha hl
     have ln : items.size = l.length := r.length
     have oth : ∀ b, b ≠ a → (s.heap.update a (Obj.mapSeq (·.setIfInBounds k.toNat y))).get? b = s.heap.get? b := fun b hb => Heap.get?_update_other _ _ (Ne.symm hb)
     refine setItem_exact il hk.1 (by rw [ln]; exact hk.2) z (P _ (Aft.upd x hl ha rfl rfl (t := s.toks) (fun b o e hb => (oth b hb).trans e) ?_))
     obtain ⟨n', i'⟩ := isL_upd il (·.setIfInBounds k.toNat y)
     refine ⟨_, n', i', ?_, Array.size_setIfInBounds.symm ▸ z⟩
     rw [Array.toList_setIfInBounds]
     exact (r.set _ ry).mono (MExt.refl _) (tk_but il (notTupO rfl (by decide)) oth)
   | str k =>
     obtain ⟨z, t, ez, rfl⟩ := rv_str rv
     refine bindS e fun es he e => dcwS he fun he => iteS e fun hk e => ?_
     cases e
     have rb := x.at' ha he
     obtain ⟨ox, ho, hox⟩ := rb.kind
     obtain ⟨_, kvs, D, r⟩ := rb
     obtain ⟨_, ds, _, _, _, _, _, hp, hn⟩ := id D
     refine wpAny_setItem_pairs (show (PySem.strKind X.prog X.w).is z (.str z t) = true from beq_self_eq_true z) D (fun h' D' hs => P _ (Aft.upd x he ha rfl rfl (fun b o e hb => (hs.2 b hb).trans e) ⟨Nat.le_trans (dSet_len _ _ _) hk, _, D', ?_⟩))
       (by rw [rss_len r, sizeLine_eq]; lia)
     rw [stored_eq _ _ hn]
     exact (rss_set hX.sOk.nodup ez ry r).mono (MExt.refl _) (tk_but ho hox hs.2)
   | _ => exact nn e
 | _ => cases b <;> exact nn e
end
section
open PySem PySem.W PySem.Calls PyProof.Rows
variable {X : Cx} {envs : List Env} {μ : List Addr} {H : MH} {s : Shared} {A : Around} {E : Value → Shared → Prop} {d : Nat} {rz : Bool}
structure ClsOk (X : Cx) : Prop where
 base : ∀ c ca, X.cls c = some ca → c ≠ X.P.excC → ∀ nm, plainGet X.K ca nm = true
 hasD : ∀ c ca, X.cls c = some ca → hasDictIn X.K ca = true
 get : ∀ c ca nm, X.cls c = some ca → findIn X.K (.ref ca) nm = some none → ∀ {A : Around} {s : Shared} {Q E : Value → Shared → Prop} {a : Addr} {ox : Obj} {ds : List DictEntry} {n : Nat} {v : Value} {expr : Bool}, X.K.In s.heap → InstAt s.heap a ox ca (some (dictOf ds n)) →
   lookIn nm (dictOf ds n) = some (some v) → handedIn v = true → Q v { s with toks := s.toks + 1 } → wpAny X.M A (getAttr (.ref a) nm expr) Q E s
 names : ∀ c ca k nm, X.cls c = some ca → X.T.strs[k]? = some nm → (X.P.meth c k = none → findIn X.K (.ref ca) nm = some none) ∧
   ∀ f, X.P.meth c k = some f → ∃ fa, X.fn f = some fa ∧ findIn X.K (.ref ca) nm = some (some (.ref fa)) ∧ isFn X.K (.ref fa) = true
 sets : ∀ c ca, X.cls c = some ca → c ≠ X.P.excC → plainOver X.K ca = true ∧ findIn X.K (.ref ca) "__setattr__" = some (some (.builtin "object.__setattr__")) ∧ makesIn X.K ca = true
 inits : ∀ c ca f, X.cls c = some ca → c ≠ X.P.excC → X.P.init c = some f → ∃ fa, X.fn f = some fa ∧ findIn X.K (.ref ca) "__init__" = some (some (.ref fa)) ∧ typeIn X.K (.ref fa) = some (.type "function")
section
variable {prog : Program} {w : World} {h : Heap}
theorem dictOf_obj {a : Addr} {kvs : List (Str × Value)} (x : h.DictOf (PySem.strKind prog w) a kvs) :
   ∃ ds n, h.get? a = some (dictOf ds n) ∧ KeysOf (PySem.strKind prog w) ds.toArray ∧ Pairs (PySem.strKind prog w) ds kvs ∧ (kvs.map (·.1)).Nodup := by
 obtain ⟨⟨c, dd, dt, sl⟩, es, ep, ho, ⟨e1, e2, e3⟩, hd, hk, hp, hn⟩ := x
 cases e1; cases e2; cases e3; cases hd
 exact ⟨es.toList, ep, ho, hk, hp, hn⟩
theorem of_dictOf {a : Addr} {kvs : List (Str × Value)} {ds : List DictEntry} {n : Nat} (e : h.get? a = some (dictOf ds n)) (hk : KeysOf (PySem.strKind prog w) ds.toArray) (hp : Pairs (PySem.strKind prog w) ds kvs)
   (hn : (kvs.map (·.1)).Nodup) : h.DictOf (PySem.strKind prog w) a kvs := ⟨_, ds.toArray, n, e, ⟨rfl, rfl, rfl⟩, rfl, hk, hp, hn⟩
theorem look_dictOf {kvs : List (Str × Value)} {ds : List DictEntry} {n : Nat} (hk : KeysOf (PySem.strKind prog w) ds.toArray) (hp : Pairs (PySem.strKind prog w) ds kvs) (nm : Str) :
   lookIn nm (dictOf ds n) = some (valueAt kvs nm) := by
 rw [lookIn_dict]
 have hf := hp.find nm
 have e : (fun e : DictEntry => e.key.isStr nm) = fun e => (PySem.strKind prog w).is nm e.key := funext fun e => isStr_of nm e.key
 unfold getL
 rw [e]
 cases q : ds.find? fun e => (PySem.strKind prog w).is nm e.key with
 | some en => rw [q] at hf; exact congrArg some hf
 | none =>
   rw [q] at hf
   have : ds.any (·.refKey) = false := List.any_eq_false.mpr fun en hm => by
     obtain ⟨k, hk1, _⟩ := hk en (by simpa using hm)
     obtain ⟨t, ht⟩ := Value.isStrOf_shape hk1
     simp [DictEntry.refKey, ht]
   rw [← hf, this]; rfl
theorem putL_cons {nm : Str} {hsh : Int} {k v : Value} {e : DictEntry} {r : List DictEntry} : putL nm hsh k v (e :: r) = if e.key.isStr nm = true then ⟨e.hash, e.key, v⟩ :: r else e :: putL nm hsh k v r := rfl
theorem pairs_put {nm : Str} {hsh : Int} {t : Tok} {v : Value} {ds : List DictEntry} {kvs : List (Str × Value)} (p : Pairs (PySem.strKind prog w) ds kvs) : Pairs (PySem.strKind prog w) (putL nm hsh (.str nm t) v ds) (storedL nm v kvs) := by
 induction p with
 | nil => exact .cons (beq_self_eq_true nm) rfl .nil
 | @cons e kv ds kvs h1 h2 r ih =>
   have his : (e.key.isStr nm = true) ↔ kv.1 = nm := by
     rw [isStr_of, show Value.isStrOf nm e.key = (PySem.strKind prog w).is nm e.key from rfl, KeyKind.is_eq_decide h1 nm, decide_eq_true_iff]
     exact eq_comm
   rw [putL_cons, storedL_cons]
   by_cases q : kv.1 = nm
   · rw [if_pos (his.mpr q), if_pos q]; exact .cons h1 rfl r
   · rw [if_neg (fun z => q (his.mp z)), if_neg q]; exact .cons h1 h2 ih
theorem keys_put {nm : Str} {t : Tok} {v : Value} {ds : List DictEntry} (h : ∀ e ∈ ds, ∃ k, (PySem.strKind prog w).is k e.key = true ∧ e.hash = (PySem.strKind prog w).hash k) :
   ∀ e ∈ putL nm (PyData.keyHash w.params nm) (.str nm t) v ds, ∃ k, (PySem.strKind prog w).is k e.key = true ∧ e.hash = (PySem.strKind prog w).hash k := by
 induction ds with
 | nil => intro e m; cases List.mem_singleton.mp m; exact ⟨nm, beq_self_eq_true nm, rfl⟩
 | cons a ds ih =>
   intro e m
   rw [putL_cons] at m
   by_cases q : a.key.isStr nm = true
   · rw [if_pos q] at m
     cases m with
     | head => exact h a (.head _)
     | tail _ m => exact h e (.tail _ m)
   · rw [if_neg q] at m
     cases m with
     | head => exact h _ (.head _)
     | tail _ m => exact ih (fun e m => h e (.tail _ m)) e m
theorem storedL_mem {K : Type} [DecidableEq K] {k x : K} {v : Value} {kvs : List (K × Value)} (m : x ∈ (storedL k v kvs).map (·.1)) : x = k ∨ x ∈ kvs.map (·.1) := by
 induction kvs with
 | nil => exact .inl (List.mem_singleton.mp m)
 | cons p r ih =>
   rw [storedL_cons] at m
   by_cases q : p.1 = k
   · rw [if_pos q] at m; exact .inr m
   · rw [if_neg q] at m
     cases m with
     | head => exact .inr (.head _)
     | tail _ m => exact (ih m).imp id fun q => .tail _ q
theorem storedL_nodup {K : Type} [DecidableEq K] {k : K} {v : Value} {kvs : List (K × Value)} (hn : (kvs.map (·.1)).Nodup) : ((storedL k v kvs).map (·.1)).Nodup := by
 induction kvs with
 | nil => exact List.nodup_cons.mpr ⟨(fun m => nomatch m), List.nodup_nil⟩
 | cons p r ih =>
   have hn := List.nodup_cons.mp hn
   rw [storedL_cons]
   by_cases q : p.1 = k
   · rw [if_pos q]; exact List.nodup_cons.mpr hn
   · rw [if_neg q]; exact List.nodup_cons.mpr ⟨fun m => (storedL_mem m).elim q hn.1, ih hn.2⟩
theorem putL_len (nm : Str) (hsh : Int) (k v : Value) (ds : List DictEntry) : (putL nm hsh k v ds).length ≤ ds.length + 1 := by
 induction ds with
 | nil => exact Nat.le_refl _
 | cons e r ih =>
   rw [putL_cons]
   by_cases q : e.key.isStr nm = true
   · rw [if_pos q]; exact Nat.le_succ _
   · rw [if_neg q]; exact Nat.succ_le_succ ih
theorem osa_exact {K : Frag} {x C dx : Addr} {ox : Obj} {ds : List DictEntry} {n : Nat} {name : Str} {v : Value} {tk : Tok} {R : Result → Shared → Prop} (Xs : K.In s.heap) (I : InstAt s.heap x ox C (some (dictOf ds n))) (hd : ox.dict = some dx)
   (hp : plainOver K C = true) (ht : takerIn K C name = some none) (hh : hasDictIn K C = true) (hl : (lookIn name (dictOf ds n)).isSome = true) (hz : ds.length ≤ 900)
   (h : R (.ok (.ret .none)) { s with heap := s.heap.update dx (Obj.putName name (PyData.keyHash w.params name) (.str name s.toks) v), toks := s.toks + 1 }) :
   codeAny (model prog w) A (.call (.builtin "object.__setattr__") ⟨[.ref x, .str name tk, v], []⟩) R s := by
 refine osa_open Xs I hp ht fun b => ?_
 obtain ⟨cd, hc, hd'⟩ := any_some hh
 have D : s.heap.get? dx = some (dictOf ds n) := by
   have := I.dict
   rw [hd] at this
   exact this
 have e := putName_dict name (PyData.keyHash w.params name) (.str name s.toks) v ds n
 have D' : (s.heap.update dx (Obj.putName name (PyData.keyHash w.params name) (.str name s.toks) v)).get? dx = some (dictOf (putL name (PyData.keyHash w.params name) (.str name s.toks) v ds) (putN name ds n)) :=
   e ▸ Heap.get?_update_self _ D (by rw [e]; rfl)
 obtain ⟨hx, hcl, hn, -⟩ := I
 obtain ⟨oc, odi, oda, osl⟩ := ox
 dsimp only at hcl hd
 subst hcl hd
 refine wpAny_bind (wpAny_pure (wpAny_bind (wpAny_bind (wpAny_loadPart hx (wpAny_bind ((looks_clsIn Xs hc).here ?_))))))
 rw [hd']
 refine wpAny_pure (a := some dx) (wpAny_bind (wpAny_pure (wpAny_bind ?_)))
 unfold nsSet
 refine wpAny_bind (wpAny_bind (wpAny_askSetting (wpAny_pure (wpAny_bind (wpAny_mkText (wpAny_bind (wpAny_loadPart D ?_)))))))
 dsimp only
 have c : (!ds.toArray.any (·.key.isStr name) && ds.toArray.any (·.refKey)) = false := by
   rw [← Array.any_toList, ← Array.any_toList]
   cases q : List.find? (fun x => x.key.isStr name) ds with
   | some en => rw [List.any_eq_true.mpr ⟨en, List.mem_of_find?_eq_some q, List.find?_some q⟩]; rfl
   | none =>
     cases z : ds.any (·.refKey) with
     | false => simp [z]
     | true => rw [lookIn_dict] at hl; unfold getL at hl; rw [q] at hl; simp [z] at hl
 rw [aRefKeyMayBeTheName_at, c]
 refine wpAny_updatePart D ?_
 refine wpAny_bind (wpAny_lookBehind D' (pastItsLine_dict (by
   have := putL_len name (PyData.keyHash w.params name) (.str name s.toks) v ds
   rw [List.size_toArray, sizeLine_eq]; lia)) ?_)
 exact wpAny_pure h
theorem setAttr_exact {K : Frag} {x C dx : Addr} {ox : Obj} {ds : List DictEntry} {n : Nat} {name : Str} {v : Value} {Q : Unit → Shared → Prop} (Xs : K.In s.heap) (I : InstAt s.heap x ox C (some (dictOf ds n))) (hd : ox.dict = some dx)
   (hs : findIn K (.ref C) "__setattr__" = some (some (.builtin "object.__setattr__"))) (hp : plainOver K C = true) (ht : takerIn K C name = some none) (hh : hasDictIn K C = true) (hl : (lookIn name (dictOf ds n)).isSome = true)
   (hz : ds.length ≤ 900)
   (h : Q () { s with heap := s.heap.update dx (Obj.putName name (PyData.keyHash w.params name) (.str name (s.toks + 1)) v), toks := s.toks + 2 }) :
   wpAny (model prog w) A (setAttr (.ref x) name v) Q E s :=
 set_plain Xs I hs (osa_exact (s := { s with toks := s.toks + 1 }) Xs I hd hp ht hh hl hz h)
end
theorem St.inst (x : St X envs μ H s) {i : Nat} {c dI : Nat} (e : H[i]? = some (.inst c dI)) : ∃ a ox ca da, μ[i]? = some a ∧ s.heap.get? a = some ox ∧ X.cls c = some ca ∧ ox.cls = .ref ca ∧ notCls ox = true ∧ ox.dict = some da ∧ μ[dI]? = some da := by
 obtain ⟨a, ha, ox, ca, da, r⟩ := x.at e
 exact ⟨a, ox, ca, da, ha, r⟩
inductive InstD (X : Cx) (μ : List Addr) (s : Shared) (i c dI : Nat) (es : List (MV × MV)) : Prop
 | mk (a : Addr) (ox : Obj) (ca da : Addr) (kvs : List (Str × Value)) (ds : List DictEntry) (n : Nat) (ha : μ[i]? = some a) (hc : X.cls c = some ca) (I : InstAt s.heap a ox ca (some (dictOf ds n))) (hd : ox.dict = some da) (hm : μ[dI]? = some da)
   (ho : s.heap.get? da = some (dictOf ds n)) (hK : KeysOf (PySem.strKind X.prog X.w) ds.toArray) (hP : Pairs (PySem.strKind X.prog X.w) ds kvs) (hN : (kvs.map (·.1)).Nodup) (r : RSs X.T.strs μ s.heap es kvs)
theorem St.instD (x : St X envs μ H s) {i c dI : Nat} {es : List (MV × MV)} (hi : H[i]? = some (.inst c dI)) (he : H[dI]? = some (.dict false es)) : InstD X μ s i c dI es := by
 obtain ⟨a, ox, ca, da, ha, e1, e2, e3, e4, e5, e6⟩ := x.inst hi
 obtain ⟨_, hd, _, kvs, D, r⟩ := x.at he
 cases e6.symm.trans hd
 obtain ⟨ds, n, ho, hK, hP, hN⟩ := dictOf_obj D
 exact .mk a ox ca da kvs ds n ha e2 ⟨e1, e3, e4, by rw [e5]; exact ho⟩ e5 hd ho hK hP hN r
theorem get_plain {X : Cx} {ca : Addr} {nm : Str} (h1 : plainGet X.K ca nm = true) (h2 : hasDictIn X.K ca = true) (z : findIn X.K (.ref ca) nm = some none) {A : Around} {s : Shared} {Q E : Value → Shared → Prop} {a : Addr} {ox : Obj} {ds : List DictEntry} {n : Nat} {v : Value} {expr : Bool} (Xs : X.K.In s.heap) (I : InstAt s.heap a ox ca (some (dictOf ds n)))
   (hl : lookIn nm (dictOf ds n) = some (some v)) (hh : handedIn v = true) (q : Q v { s with toks := s.toks + 1 }) : wpAny X.M A (getAttr (.ref a) nm expr) Q E s :=
 get_value Xs I (plainGet_of h1).1 (findObj_own h2 z rfl hl) hh q
theorem rv_handed {m : MV} {v : Value} (g : RV X.T.strs μ s.heap m v) : handedIn v = true := by
 cases m with
 | none => cases g; rfl
 | bool b => cases g; rfl
 | int i => obtain ⟨t, rfl⟩ := g; rfl
 | str k => obtain ⟨y, t, _, rfl⟩ := g; rfl
 | tup l => obtain ⟨t, _, _, rfl, _⟩ := g; rfl
 | ref i => obtain ⟨t, _, rfl⟩ := g; rfl
theorem sim_attr (hX : XOk X) (hC : ClsOk X) (x : St X envs μ H s) {a : MV} {k : Nat} {nm : Str} {u : Value} {expr : Bool} {Q : Value → Shared → Prop} (ek : X.T.strs[k]? = some nm) (ru : RV X.T.strs μ s.heap a u)
   (P : PostG X envs [] μ s (relV X) (mAttr X.P H a k) Q E) : wpAny X.M A (getAttr u nm expr) Q E s := by
 cases a with
 | ref i =>
   refine PostG.opt0 P fun v e P => bindS e fun c hi e => bindS e fun es he e => iteS e fun hm ev => ?_
   obtain ⟨a, ox, ca, da, kvs, ds, n, ha, hc, I, hd, -, ho, hK, hP, hN, r⟩ := insS hi fun hi => dcwS he fun he => x.instD hi he
   obtain ⟨_, ha', rfl⟩ := ru
   cases ha.symm.trans ha'
   obtain ⟨u', q, g⟩ := (ev ▸ rss_get hX.sOk.nodup ek r : Hit _ _ _ (some v) _).some'
   exact hC.get c.1 ca nm hc ((hC.names c.1 ca _ nm hc ek).1 hm) (hX.K.keeps x.stays) I (q ▸ look_dictOf hK hP nm) (rv_handed g) (P _ _ _ (Aft.tok x) g)
 | _ => exact P.elim
theorem sim_setA (hX : XOk X) (hC : ClsOk X) (x : St X envs μ H s) {a c : MV} {k : Nat} {nm : Str} {u y : Value} {H' : MH} {Q : Unit → Shared → Prop} (ek : X.T.strs[k]? = some nm) (ru : RV X.T.strs μ s.heap a u) (ry : RV X.T.strs μ s.heap c y)
   (e : mSetA X.P H a k c = some H') (P : ∀ s', Aft X envs [] μ s μ H' s' → Q () s') : wpAny X.M A (setAttr u nm y) Q E s := by
 cases a with
 | ref i =>
   refine bindS e fun cc hi e => bindS e fun es he e => insS hi fun hi => dcwS he fun he => iteS e fun hk e => ?_
   cases e
   obtain ⟨a, ox, ca, da, kvs, ds, n, ha, hc, I, hd, hm, ho, hK, hP, hN, r⟩ := x.instD hi he
   obtain ⟨_, ha', rfl⟩ := ru
   cases ha.symm.trans ha'
   obtain ⟨p1, p2, p3⟩ := hC.sets cc.1 ca hc hk.1.2
   have hlen : ds.length ≤ 900 := by rw [hP.length, rss_len r]; exact Nat.le_of_lt hk.2
   have eo := putName_dict nm (PyData.keyHash X.w.params nm) (.str nm (s.toks + 1)) y ds n
   have D' : (s.heap.update da (Obj.putName nm (PyData.keyHash X.w.params nm) (.str nm (s.toks + 1)) y)).get? da = some (dictOf (putL nm (PyData.keyHash X.w.params nm) (.str nm (s.toks + 1)) y ds) (putN nm ds n)) :=
     eo ▸ Heap.get?_update_self _ ho (by rw [eo]; rfl)
   have oth : ∀ b, b ≠ da → (s.heap.update da (Obj.putName nm (PyData.keyHash X.w.params nm) (.str nm (s.toks + 1)) y)).get? b = s.heap.get? b := fun b hb => Heap.get?_update_other _ _ (Ne.symm hb)
   exact setAttr_exact (hX.K.keeps x.stays) I hd p2 p1 (by unfold takerIn; rw [(hC.names cc.1 ca _ nm hc ek).1 hk.1.1]; rfl) (hC.hasD cc.1 ca hc) (by rw [look_dictOf hK hP]; rfl) hlen
     (P _ (Aft.upd x he hm rfl rfl (t := s.toks + 2) (fun b o e hb => (oth b hb).trans e) ⟨Nat.le_trans (dSet_len _ _ _) (Nat.le_trans hk.2 (by decide)), _, of_dictOf D' (fun en m => keys_put (fun en m => hK en (by simpa using m)) en (by simpa using m)) (pairs_put hP) (storedL_nodup hN),
       (rss_set hX.sOk.nodup ek ry r).mono (MExt.refl _) (tk_but ho (notTupO rfl (by decide)) oth)⟩))
 | _ => exact nn e
end
section
open PySem PySem.W PySem.Calls PyProof.Rows
variable {X : Cx} {envs : List Env} {μ : List Addr} {H : MH} {s : Shared} {A : Around} {E : Value → Shared → Prop} {d : Nat} {rz : Bool} {Q : Value → Shared → Prop}
noncomputable def biV : Bi → Value
 | .len => .builtin "len"
 | .abs => .builtin "abs"
 | .list => .type "list"
 | .tuple => .type "tuple"
inductive SeqR (X : Cx) (μ : List Addr) (s : Shared) (H : MH) (a : MV) (l : List MV) (u : Value) : Prop
 | tup (t : Addr) (items : Array Value) (n : Nat) (e : u = .ref t) (ht : IsT s.heap t items n) (ha : a = .tup l) (z : items.size ≤ sizeLine) (r : RVs X.T.strs μ s.heap l items.toList)
 | lst (t : Addr) (items : Array Value) (n i : Nat) (fz : Bool) (e : u = .ref t) (ht : IsL s.heap t items n) (ha : a = .ref i) (hi : μ[i]? = some t) (hl : H[i]? = some (.list fz l)) (z : items.size ≤ sizeLine) (r : RVs X.T.strs μ s.heap l items.toList)
theorem seqOf_rv (x : St X envs μ H s) {a : MV} {l : List MV} {u : Value} (e : seqOf H a = some l) (ru : RV X.T.strs μ s.heap a u) : SeqR X μ s H a l u := by
 cases a with
 | tup m =>
   cases e
   obtain ⟨t, items, n, e, it, z, r⟩ := ru
   exact .tup t items n e it rfl z r
 | ref i =>
   obtain ⟨a, ha, e2⟩ := ru
   refine lstS e fun fz hm => ?_
   obtain ⟨items, n, il, r, z⟩ := x.listA ha hm
   exact .lst a items n i fz e2 il rfl ha hm z r
 | _ => exact nn e
theorem new_list (x : St X envs μ H s) {l : List MV} {t : Addr} {T : String} {items : Array Value} {n : Nat} (ht : s.heap.get? t = some { cls := .type T, dict := none, data := .seq items n, slots := #[] }) (hT : T = "list" ∨ T = "tuple") (z : items.size ≤ sizeLine) (r : RVs X.T.strs μ s.heap l items.toList)
   (P : PostG X envs [] μ s (relV X) (newList l H) Q E) : wpAny X.M A (call (.type "list") [.ref t]) Q E s := by
 refine call_list_seq (hsz := z) t hT ht rfl rfl fun h' c' hk hD => PostG.ite P fun Z P => ?_
 refine P _ _ _ (Aft.new x (h' := h') (t := s.toks) (a := s.heap.objs.size) (mo := .list false l) hk (no_size _) x.base_lt ⟨items, c', hD, r.mono (MExt.app _ _) (fun Z Z Z e => hk _ _ e), z⟩) (rv_ref_ ?_)
 rw [← x.len, List.getElem?_append_right (Nat.le_refl _), Nat.sub_self]; rfl
theorem size_lt {n : Nat} (z : n ≤ sizeLine) : (n : Int) < 2 ^ 63 := by rw [sizeLine_eq] at z; lia
theorem sim_bi (x : St X envs μ H s) {b : Bi} {a : MV} {u : Value} (ru : RV X.T.strs μ s.heap a u)
   (P : PostG X envs [] μ s (relV X) (mBi H b a) Q E) : wpAny X.M A (call (biV b) [u]) Q E s := by
 cases b with
 | len =>
   refine PostG.opt0 P fun Z e P => mapS e fun l hl e => ?_
   subst e
   cases seqOf_rv x hl ru with
   | tup t items n e ht _ z r => subst e; rw [show l.length = items.size from r.length.symm] at P; exact PyProof.Rows.len_tuple (isT_tup ht) (size_lt z) (P _ _ _ (Aft.tok x) rv_int_)
   | lst t items n i fz e ht _ _ _ z r => subst e; rw [show l.length = items.size from r.length.symm] at P; exact PyProof.Rows.len_list (isL_list ht) (size_lt z) (P _ _ _ (Aft.tok x) rv_int_)
 | abs =>
   cases a with
   | int i => obtain ⟨t, rfl⟩ := ru; exact call_abs_int fun u tk => P _ _ _ (Aft.tok x) rv_int_
   | _ => exact P.elim
 | list =>
   refine PostG.opt P fun l hl P => ?_
   cases seqOf_rv x hl ru with
   | tup t items n e ht _ z r => subst e; exact new_list x ht (.inr rfl) z r P
   | lst t items n i fz e ht _ _ _ z r => subst e; exact new_list x ht (.inl rfl) z r P
 | tuple =>
   refine PostG.opt P fun l hl P => PostG.ite P fun Z P => ?_
   cases seqOf_rv x hl ru with
   | tup t items n e ht _ z r => subst e; exact call_tuple_tup (isT_tup ht) (P _ _ _ (Aft.refl x) (rv_tup_ ht z r))
   | lst t items n i fz e ht _ _ _ z r =>
     subst e
     exact PySem.call_tuple_list (isL_list ht) (fun h' hk => P _ _ _ (Aft.keepAll x (h' := h'.push { cls := .type "tuple", data := .seq items }) (t := s.toks) (d := s.drawn) fun b o e => Heap.get?_push_of_some _ (hk b o e))
       (rv_tup_ (n := 0) (Heap.get?_push_size _ rfl) z (r.mono (MExt.refl _) fun b its m e => Heap.get?_push_of_some _ (hk _ _ e)))) z
noncomputable def lmN : LM → String
 | .append => "list.append"
 | .pop => "list.pop"
 | .extend => "list.extend"
 | .reverse => "list.reverse"
theorem listTooLong_no {n : Nat} (h : n ≤ sizeLine) : Builtin.List.listTooLong n = false := by
 unfold Builtin.List.listTooLong
 rw [decide_eq_false (Nat.not_lt.mpr h)]
theorem Aft.lst (x : St X envs μ H s) {i : Nat} {a : Addr} {l l' : List MV} {items : Array Value} {n t : Nat} (e : H[i]? = some (.list false l)) (ha : μ[i]? = some a) (il : IsL s.heap a items n) (f : Array Value → Array Value)
   (r : RVs X.T.strs μ s.heap l' (f items).toList) (z : (f items).size ≤ sizeLine) :
   Aft X envs [] μ s μ (H.set i (.list false l')) { s with heap := s.heap.update a (Obj.mapSeq f), toks := t } := by
 obtain ⟨n', i'⟩ := isL_upd il f
 have oth : ∀ b, b ≠ a → (s.heap.update a (Obj.mapSeq f)).get? b = s.heap.get? b := fun b hb => Heap.get?_update_other _ _ (Ne.symm hb)
 exact Aft.upd x e ha rfl rfl (fun b o e hb => (oth b hb).trans e) ⟨_, n', i', r.mono (MExt.refl _) (tk_but il (notTupO rfl (by decide)) oth), z⟩
theorem getLast_eq {l : List MV} {v : MV} (e : l.getLast? = some v) : l[l.length - 1]? = some v := by rw [← e, List.getLast?_eq_getElem?]
theorem tkeep_upd {h : Heap} {a : Addr} {items : Array Value} {n : Nat} (il : IsL h a items n) (f : Obj → Obj) : TKeep h (h.update a f) := tk_but il (notTupO rfl (by decide)) fun Z hb => Heap.get?_update_other _ _ (Ne.symm hb)
theorem sim_lm0 (x : St X envs μ H s) {i : Nat} {a : Addr} {l : List MV} {m : LM} {pos : Pos} (e : H[i]? = some (.list false l)) (ha : μ[i]? = some a) (P : PostG X envs [] μ s (relV X) (mLM H i l m []) Q E) :
   wpAny X.M A (callWith pos (.builtin (lmN m)) [.ref a] [] []) Q E s := by
 obtain ⟨items, n, il, r, z⟩ := x.listA ha e
 cases m with
 | pop =>
   refine PostG.opt P fun v hv P => ?_
   obtain ⟨y, ey, ry⟩ := r.get (getLast_eq hv)
   have ln : items.size = l.length := r.length
   rw [← ln, Array.getElem?_toList] at ey
   have e2 : (items.eraseIdxIfInBounds (items.size - 1)).toList = items.toList.dropLast := by
     rw [Array.toList_eraseIdxIfInBounds, ← Array.length_toList, List.eraseIdx_length_sub_one]
   refine PySem.P.pop_list il ey (P _ _ _ (Aft.lst x e ha il (fun xs => xs.eraseIdxIfInBounds (items.size - 1)) (t := s.toks) ?_ ?_) (ry.mono (MExt.refl _) (tkeep_upd il _))) z
   · rw [e2, List.dropLast_eq_take, List.dropLast_eq_take, r.length]
     exact r.take _
   · refine Nat.le_trans ?_ z
     rw [← Array.length_toList, e2, List.length_dropLast, Array.length_toList]; exact Nat.sub_le _ _
 | reverse =>
   refine PySem.P.reverse_list il (P _ _ _ (Aft.lst x e ha il (fun xs => xs.reverse) (t := s.toks) ?_ (Array.size_reverse.symm ▸ z)) rv_none_) z
   rw [Array.toList_reverse]; exact r.reverse
 | _ => exact P.elim
theorem sim_lm1 {i : Nat} {a : Addr} {m : LM} {pos : Pos} {t : Sem Value}
   (h : wpAny X.M A t (fun v s₁ => ∃ μ₁ H₁ l b, St X envs μ₁ H₁ s₁ ∧ H₁[i]? = some (.list false l) ∧ μ₁[i]? = some a ∧ RV X.T.strs μ₁ s₁.heap b v ∧ PostG X envs [] μ₁ s₁ (relV X) (mLM H₁ i l m [b]) Q E) E s) :
   wpAny X.M A (callWith pos (.builtin (lmN m)) [.ref a] [(false, t)] []) Q E s := by
 cases m with
 | append =>
   refine PySem.P.append_list (wpAny_mono h (fun v s₁ h₁ => ?_) fun Z Z e => e)
   obtain ⟨μ₁, H₁, l, b, x, e, ha, rv, P⟩ := h₁
   obtain ⟨items, n, il, r, z⟩ := x.listA ha e
   refine PostG.ite P fun hz P => ⟨items, n, z, il, P _ _ _ (Aft.lst x e ha il (fun xs => xs.push v) (t := s₁.toks) ?_ ?_) rv_none_⟩
   · rw [Array.toList_push]; exact r.append (RVs.cons rv RVs.nil)
   · rw [Array.size_push, show items.size = l.length from r.length, ← sizeL_eq]; exact hz
 | extend =>
   refine seqMethod1_meets F.slot_list_extend F.entry_list_extend (wpAny_mono h (fun v s₁ h₁ => ?_) fun Z Z e => e)
   obtain ⟨μ₁, H₁, l, b, x, e, ha, rv, P⟩ := h₁
   obtain ⟨items, n, il, r, z⟩ := x.listA ha e
   refine PostG.opt P fun l2 hl P => PostG.ite P fun hz P => ?_
   have key : ∀ (items2 : Array Value), RVs X.T.strs μ₁ s₁.heap l2 items2.toList → (items.size + items2.size ≤ sizeLine + 1) ∧ ¬(!items.isEmpty && Builtin.List.listTooLong (items.size + items2.size)) = true ∧
       Q .none { s₁ with heap := s₁.heap.update a (Obj.mapSeq fun xs => xs ++ items2), toks := s₁.toks } := fun items2 r2 => by
     have hz : items.size + items2.size ≤ sizeLine := by rw [show items.size = l.length from r.length, show items2.size = l2.length from r2.length, ← sizeL_eq]; exact hz
     refine ⟨Nat.le_succ_of_le hz, fun q => andT q fun Z q => (by rw [listTooLong_no hz] at q; exact nb q), P _ _ _ (Aft.lst x e ha il (fun xs => xs ++ items2) (t := s₁.toks) (l' := l ++ l2) ?_ ?_) rv_none_⟩
     · rw [Array.toList_append]; exact r.append r2
     · rw [Array.size_append]; exact hz
   refine ⟨⟨_, il, rfl⟩, F.args_list_extend_2 _ _, ?_⟩
   cases seqOf_rv x hl rv with
   | tup t2 items2 n2 e2 ht _ z2 r2 => subst e2; exact ⟨_, AutoSeq1.list_extend_list_tuple_0 a items n t2 items2 n2 (key _ r2).2.1 z (key _ r2).1, il, ht, (key _ r2).2.2⟩
   | lst t2 items2 n2 i fz e2 ht _ _ _ z2 r2 => subst e2; exact ⟨_, AutoSeq1.list_extend_list_list_0 a items n t2 items2 n2 (key _ r2).2.1 z (key _ r2).1, il, ht, (key _ r2).2.2⟩
 | _ =>
   refine callWith_builtin (by rfl) (evalArgs_plain (spliced_cons (wpAny_mono h (fun v s₁ h₁ => ?_) fun Z Z e => e)))
   obtain ⟨μ₁, H₁, l, b, x, e, ha, rv, P⟩ := h₁
   exact P.elim
end
section
open PySem PySem.W PySem.Calls PyProof.Rows
variable {X : Cx} {envs : List Env} {μ : List Addr} {H : MH} {s : Shared} {A : Around} {E : Value → Shared → Prop} {d : Nat} {rz : Bool} {sc : Scope} {vm : VM} {env : Env} {ρ : Loc}
theorem isVar_cases (he : EnvOk env sc vm envs) {n : Str} (h : isVar sc n = true) : env.kindOf n = some .local ∨ (env.kindOf n = some .cell ∧ ∃ c, env.cells.lookup n = some c) := by
 have h := (Bool.and_eq_true_iff.mp h).2
 cases q : sc.names.lookup n with
 | none => rw [q] at h; exact nb h
 | some k =>
   rw [q] at h
   cases k with
   | «local» => exact .inl (he.locv n q)
   | cell => exact .inr (he.cellv n (.inl q))
   | free => exact .inr (he.cellv n (.inr q))
   | _ => exact nb h
theorem sim_load (he : EnvOk env sc vm envs) (L : LocR X env vm μ ρ s.heap) {n : Str} {k : Nat} {mv : MV} {Q : Value → Shared → Prop} (hn : isVar sc n = true) (hk : vm.lookup n = some k) (hr : ρ k = some mv)
   (P : ∀ v, RV X.T.strs μ s.heap mv v → Q v s) : wpAny X.M A (loadName env n) Q E s := by
 have hf : env.scope.kind = .function := he.kind
 rcases isVar_cases he hn with q | ⟨q, c, hc⟩
 · obtain ⟨m, hns, r⟩ := L.loc
   obtain ⟨v, e, rv⟩ := r n k mv hk hr q
   exact wpAny_loadName_local hf q hns e (P v rv)
 · obtain ⟨v, hv, r⟩ := L.cell n c (mem_of_lookup' hc)
   obtain ⟨u, rfl, rv⟩ := r hc k mv hk hr q
   exact wpAny_loadName_cell hf q hc hv (P u rv)
theorem cell_ne (L : LocR X env vm μ ρ s.heap) {n : Str} {c : Addr} (hc : (n, c) ∈ env.cells) : c ≠ env.locals := fun q => by
 obtain ⟨m, ⟨o, es, ep, e, d, _⟩, _⟩ := L.loc
 obtain ⟨v, ⟨o', e', d'⟩, _⟩ := L.cell n c hc
 rw [q, e] at e'; cases e'
 rw [d] at d'; cases d'
theorem cell_nofl (x : St X envs μ H s) (L : LocR X env vm μ ρ s.heap) {n : Str} {c : Addr} (hc : (n, c) ∈ env.cells) : c ∉ fls envs := fun m => by
 obtain ⟨env', he, hf⟩ := List.mem_filterMap.mp m
 obtain ⟨_, L', o', es, ep, b1, _, b3, b4⟩ := x.frs env' he
 rw [hf] at b1; cases b1
 obtain ⟨v, ⟨o, e, d⟩, r⟩ := L.cell n c hc
 rw [e] at b3; cases b3
 rw [d] at b4; cases b4
theorem exL_dom (L : LocR X env vm μ ρ s.heap) {a : Addr} (m : a ∈ exL env) : ∃ o, s.heap.get? a = some o ∧ ¬ IsTupO o := by
 rcases List.mem_cons.mp m with rfl | m
 · obtain ⟨m', ⟨o, es, ep, e, d, _⟩, _⟩ := L.loc
   exact ⟨o, e, fun c => by obtain ⟨_, xs, n, q⟩ := c; rw [d] at q; cases q⟩
 · obtain ⟨⟨n, c⟩, hm, rfl⟩ := List.mem_map.mp m
   obtain ⟨v, ⟨o, e, d⟩, _⟩ := L.cell n c hm
   exact ⟨o, e, fun c => by obtain ⟨_, xs, n, q⟩ := c; rw [d] at q; cases q⟩
theorem exL_notup (L : LocR X env vm μ ρ s.heap) : NoTup s.heap (exL env) := fun a m o e => by
 obtain ⟨o', e', t⟩ := exL_dom L m
 rw [e] at e'; cases e'; exact t
theorem Aft.locSet (x : St X envs μ H s) (L : LocR X env vm μ ρ s.heap) {a : Addr} {h' : Heap} {t : Nat} (ha : a ∈ exL env) (hs : Heap.SameBut a s.heap h') (hd : ∃ o, h'.get? a = some o)
   (hf : a ∈ fls envs → ∃ o es ep, h'.get? a = some o ∧ o.data = .dict es ep) : Aft X envs [a] μ s μ H { s with heap := h', toks := t } := by
 refine Aft.quiet x (ex := [a]) (fun b o e nb => ?_) (fun b m => L.nm b (List.mem_singleton.mp m ▸ ha)) (fun b m => exL_notup L b (List.mem_singleton.mp m ▸ ha)) (fun b m => L.nb b (List.mem_singleton.mp m ▸ ha)) (fun b m o e => ?_) (fun b m q => ?_)
 · have : b ≠ a := fun q => nb (q ▸ List.mem_singleton.mpr rfl)
   have k : h'.get? b = some o := (hs.2 b this).trans e
   exact ⟨fun Z => k, fun Z => ⟨o.slots, k⟩⟩
 · by_cases q : b = a
   · subst q; exact hd
   · exact ⟨o, (hs.2 b q).trans e⟩
 · by_cases z : b = a
   · subst z; exact hf q
   · obtain ⟨env', he, hf'⟩ := List.mem_filterMap.mp q
     obtain ⟨_, L', o', es, ep, b1, _, b3, b4⟩ := x.frs env' he
     rw [hf'] at b1; cases b1
     exact ⟨o', es, ep, (hs.2 b z).trans b3, b4⟩
theorem LocR.upd_eq {k k' : Nat} {mv mv' : MV} (q : k' = k) (h : upd ρ k mv k' = some mv') : mv = mv' := by
 subst q; exact Option.some.inj ((if_pos rfl).symm.trans h)
theorem LocR.upd_ne {k k' : Nat} {mv mv' : MV} (q : k' ≠ k) (h : upd ρ k mv k' = some mv') : ρ k' = some mv' := (if_neg q).symm.trans h
theorem store_loc (he : EnvOk env sc vm envs) (x : St X envs μ H s) (L : LocR X env vm μ ρ s.heap) {n : Str} {k : Nat} {mv : MV} {v : Value} {Q : Unit → Shared → Prop} (q : env.kindOf n = some .local) (hk : vm.lookup n = some k)
   (rv : RV X.T.strs μ s.heap mv v) (P : ∀ s', Aft X envs [env.locals] μ s μ H s' → LocR X env vm μ (upd ρ k mv) s'.heap → Q () s') : wpAny X.M A (storeName env n v) Q E s := by
 have M := MExt.refl μ
 have ne : ∀ n' k', vm.lookup n' = some k' → n' ≠ n → k' ≠ k := fun n' k' h1 h2 q => h2 (he.inj n' n k (q ▸ h1) hk)
 obtain ⟨m, hns, r⟩ := L.loc
 refine wpAny_storeName_local q hns (fun h' hn' hs' => ?_) (by rw [he.kind]; rfl)
 have A' := Aft.locSet x L (t := s.toks + 1) (.head _) hs' (by obtain ⟨o, _, _, e, _⟩ := hn'; exact ⟨o, e⟩) (fun Z => by obtain ⟨o, es, ep, e, d, _⟩ := hn'; exact ⟨o, es, ep, e, d⟩)
 have T := (A'.tu x (fun b m => exL_notup L b (by rw [List.mem_singleton.mp m]; exact .head _))).t
 refine P _ A' ⟨L.nm, L.nb, ⟨_, hn', fun n' k' mv' h1 h2 h3 => ?_⟩, fun n' c hc => ?_⟩
 · by_cases z : n' = n
   · subst z
     cases LocR.upd_eq (Option.some.inj (h1.symm.trans hk)) h2
     exact ⟨v, if_pos rfl, rv.mono M T⟩
   · obtain ⟨u, a, b⟩ := r n' k' mv' h1 (LocR.upd_ne (ne n' k' h1 z) h2) h3
     exact ⟨u, (if_neg z).trans a, b.mono M T⟩
 · obtain ⟨u, hu, r'⟩ := L.cell n' c hc
   refine ⟨u, hu.sameBut hs' (cell_ne L hc), fun h0 k' mv' h1 h2 h3 => ?_⟩
   have z : n' ≠ n := fun z => by subst z; cases q.symm.trans h3
   obtain ⟨u', a, b⟩ := r' h0 k' mv' h1 (LocR.upd_ne (ne n' k' h1 z) h2) h3
   exact ⟨u', a, b.mono M T⟩
theorem store_cell (he : EnvOk env sc vm envs) (x : St X envs μ H s) (L : LocR X env vm μ ρ s.heap) {n : Str} {k : Nat} {mv : MV} {v : Value} {c : Addr} {Q : Unit → Shared → Prop} (q : env.kindOf n = some .cell) (hc : env.cells.lookup n = some c) (hk : vm.lookup n = some k)
   (rv : RV X.T.strs μ s.heap mv v) (P : ∀ s', Aft X envs [c] μ s μ H s' → LocR X env vm μ (upd ρ k mv) s'.heap → Q () s') : wpAny X.M A (storeName env n v) Q E s := by
 have M := MExt.refl μ
 have ne : ∀ n' k', vm.lookup n' = some k' → n' ≠ n → k' ≠ k := fun n' k' h1 h2 q => h2 (he.inj n' n k (q ▸ h1) hk)
 have mc : (n, c) ∈ env.cells := mem_of_lookup' hc
 have mx : c ∈ exL env := List.mem_cons_of_mem _ (List.mem_map.mpr ⟨_, mc, rfl⟩)
 obtain ⟨v₀, hv, r⟩ := L.cell n c mc
 refine wpAny_storeName_cell he.kind q hc hv fun h' hc' hs' => ?_
 have A' := Aft.locSet x L (t := s.toks) mx hs' (by obtain ⟨o, e, _⟩ := hc'; exact ⟨o, e⟩) (fun m => absurd m (cell_nofl x L mc))
 have T := (A'.tu x (fun b m => exL_notup L b (by rw [List.mem_singleton.mp m]; exact mx))).t
 refine P _ A' ⟨L.nm, L.nb, ?_, fun n' c2 hc2 => ?_⟩
 · obtain ⟨m, hns, r⟩ := L.loc
   refine ⟨m, hns.sameBut hs' (Ne.symm (cell_ne L mc)), fun n' k' mv' h1 h2 h3 => ?_⟩
   have z : n' ≠ n := fun z => by subst z; cases q.symm.trans h3
   obtain ⟨u', a, b⟩ := r n' k' mv' h1 (LocR.upd_ne (ne n' k' h1 z) h2) h3
   exact ⟨u', a, b.mono M T⟩
 · by_cases z : c2 = c
   · subst z
     cases name_of_addr he.apart hc2 mc
     refine ⟨some v, hc', fun Z k' mv' h1 h2 Z => ?_⟩
     cases LocR.upd_eq (Option.some.inj (h1.symm.trans hk)) h2
     exact ⟨v, rfl, rv.mono M T⟩
   · obtain ⟨u, hu, r'⟩ := L.cell n' c2 hc2
     refine ⟨u, hu.sameBut hs' z, fun h0 k' mv' h1 h2 h3 => ?_⟩
     have z' : n' ≠ n := fun z' => z (by subst z'; exact Option.some.inj (h0.symm.trans hc))
     obtain ⟨u', a, b⟩ := r' h0 k' mv' h1 (LocR.upd_ne (ne n' k' h1 z') h2) h3
     exact ⟨u', a, b.mono M T⟩
theorem sim_store (he : EnvOk env sc vm envs) (x : St X envs μ H s) (L : LocR X env vm μ ρ s.heap) {n : Str} {k : Nat} {mv : MV} {v : Value} {Q : Unit → Shared → Prop} (hn : isVar sc n = true) (hk : vm.lookup n = some k)
   (rv : RV X.T.strs μ s.heap mv v) (P : ∀ s' a, a ∈ exL env → (env.kindOf n = some .local → a = env.locals) → Aft X envs [a] μ s μ H s' → LocR X env vm μ (upd ρ k mv) s'.heap → Q () s') : wpAny X.M A (storeName env n v) Q E s := by
 rcases isVar_cases he hn with q | ⟨q, c, hc⟩
 · exact store_loc he x L q hk rv fun s' A' L' => P s' _ (.head _) (fun Z => rfl) A' L'
 · exact store_cell he x L q hc hk rv fun s' A' L' => P s' _ (List.mem_cons_of_mem _ (List.mem_map.mpr ⟨_, mem_of_lookup' hc, rfl⟩)) (fun z => nomatch q.symm.trans z) A' L'
end
section
open PySem PySem.W PySem.Calls PyProof.Rows
variable {X : Cx} {envs : List Env} {μ : List Addr} {H : MH} {s : Shared} {A : Around} {E E' : Value → Shared → Prop} {d : Nat} {rz : Bool} {sc : Scope} {vm : VM} {env : Env} {ρ : Loc}
inductive ItAt (X : Cx) (μ : List Addr) (h : Heap) (I : Addr) : List Addr → Src → Nat → Prop
 | tup {l : List MV} {t : Addr} {items : Array Value} {n j : Nat} (i : IsT h t items n) (r : RVs X.T.strs μ h l items.toList) (q : h.IsTupleIter I t j) : ItAt X μ h I [I] (.seq l) j
 | rng {l : List MV} {a st : Int} {n j : Nat} (hl : ∀ i : Nat, l[i]? = if i < n then some (.int (a + st * i)) else none) (q : IsRangeIter h I (a + st * j) ((n : Int) - j) st) : ItAt X μ h I [I] (.seq l) j
 | lst {i : Nat} {ax : Addr} {j : Nat} (e : μ[i]? = some ax) (q : h.IsListIter I ax j) : ItAt X μ h I [I] (.lst i) j
 | enl {i : Nat} {ax it : Addr} {old : Value} {j : Nat} (e : μ[i]? = some ax) (q : IsEnum h I it j old) (p : h.IsListIter it ax j) (ne : I ≠ it) : ItAt X μ h I [I, it] (.enl i) j
noncomputable def Loose (X : Cx) (envs : List Env) (μ : List Addr) (h : Heap) (ex : List Addr) : Prop := ∀ a ∈ ex, a ∉ μ ∧ a ∉ fls envs ∧ X.base.get? a = none ∧ ∃ o, h.get? a = some o ∧ ¬ IsTupO o
theorem Loose.aft {ex ex' : List Addr} (L : Loose X envs μ s.heap ex) {μ' : List Addr} {H' : MH} {s' : Shared} (A : Aft X envs ex' μ s μ' H' s') (hd : ∀ a ∈ ex, a ∉ ex') : Loose X envs μ' s'.heap ex ∧ ∀ a ∈ ex, s'.heap.get? a = s.heap.get? a := by
 have k : ∀ a ∈ ex, s'.heap.get? a = s.heap.get? a := fun a m => by
   obtain ⟨a1, a2, a3, o, a4, _⟩ := L a m
   rw [a4]; exact (A.keep a o a4).1 a1 (hd a m) a2
 refine ⟨fun a m => ?_, k⟩
 obtain ⟨a1, a2, a3, o, a4, a5⟩ := L a m
 refine ⟨fun q => ?_, a2, a3, o, (k a m).trans a4, a5⟩
 obtain ⟨ν, rfl, h⟩ := A.ext
 rcases List.mem_append.mp q with q | q
 · exact a1 q
 · rw [h a q] at a4; cases a4
theorem ItAt.aft {I : Addr} {ex ex' : List Addr} {sr : Src} {j : Nat} (x : St X envs μ H s) (it : ItAt X μ s.heap I ex sr j) (L : Loose X envs μ s.heap ex) {μ' : List Addr} {H' : MH} {s' : Shared} (A : Aft X envs ex' μ s μ' H' s')
   (hd : ∀ a ∈ ex, a ∉ ex') (hn : NoTup s.heap ex') : ItAt X μ' s'.heap I ex sr j := by
 have k := (L.aft A hd).2
 have M := A.mext
 have T := A.tu x hn
 cases it with
 | tup i r q => obtain ⟨o, q1, q2⟩ := q; exact .tup (T.t _ _ _ i) (r.mono M T.t) ⟨o, (k I (.head _)).trans q1, q2⟩
 | rng hl q => exact .rng hl ((k I (.head _)).trans q)
 | lst e q => obtain ⟨o, q1, q2⟩ := q; exact .lst (M _ _ e) ⟨o, (k I (.head _)).trans q1, q2⟩
 | enl e q p ne => obtain ⟨o, q1, q2⟩ := p; exact .enl (M _ _ e) ((k I (.head _)).trans q) ⟨o, (k _ (.tail _ (.head _))).trans q1, q2⟩ ne
noncomputable def srcAt (H : MH) : Src → Nat → Option (Option MV)
 | .seq l, j => some l[j]?
 | .lst i, j => (H[i]?.bind MObj.list?).map fun l => l[j]?
 | .enl i, j => (H[i]?.bind MObj.list?).map fun l => l[j]?.map fun v => .tup [.int j, v]
theorem range_at {f : Nat → MV} {n j : Nat} : ((List.range n).map f)[j]? = if j < n then some (f j) else none := by
 rw [List.getElem?_map]
 by_cases h : j < n
 · rw [List.getElem?_range h, if_pos h]; rfl
 · rw [List.getElem?_eq_none (List.length_range ▸ Nat.le_of_not_lt h), if_neg h]; rfl
noncomputable def tgtOf (uq : Bool) (target : Expr) : Prop := match uq, target with
 | false, .Name _ _ => True
 | true, .Tuple _ _ _ => True
 | _, _ => False
theorem letOwned_quiet {target : Expr} {uq : Bool} (ht : tgtOf uq target) {I : Addr} {o : Obj} {T : String} {v : Value} {Q : Unit → Shared → Prop} (ho : s.heap.get? I = some o) (hc : o.cls = .type T)
   (hT : (["enumerate", "zip", "dict_itemiterator", "dict_reverseitemiterator", "odict_iterator", "itertools.zip_longest", "itertools.pairwise"].contains T) = false) (q : Q () s) :
   wpAny X.M A (letOwnedTupleGo target (.ref I) v) Q E s := by
 cases uq <;> cases target <;> first | exact ht.elim | exact wpAny_pure q | skip
 unfold letOwnedTupleGo
 cases v with
 | ref a =>
   refine wpAny_bind (wpAny_load ho ?_)
   obtain ⟨c, dd, dt, sl⟩ := o
   dsimp only at hc ⊢
   subst hc
   cases dt with
   | fields vs =>
     dsimp only
     rw [hT, Bool.false_and, if_neg (by decide)]
     exact wpAny_pure q
   | _ => exact wpAny_pure q
 | _ => exact wpAny_pure q
theorem Aft.exSet (x : St X envs μ H s) {ex : List Addr} (L : Loose X envs μ s.heap ex) {h' : Heap} {t : Nat} (k : ∀ b o, s.heap.get? b = some o → b ∉ ex → h'.get? b = some o) (hx : ∀ a ∈ ex, ∃ o, h'.get? a = some o) :
   Aft X envs ex μ s μ H { s with heap := h', toks := t } :=
 Aft.quiet x (fun b o e nb => ⟨fun Z => k b o e nb, fun Z => ⟨o.slots, k b o e nb⟩⟩) (fun a m => (L a m).1) (fun a m o e => by obtain ⟨_, _, _, o', e', t⟩ := L a m; rw [e] at e'; cases e'; exact t) (fun a m => (L a m).2.2.1)
   (fun a m Z Z => hx a m) (fun a m q => absurd q (L a m).2.1)
theorem Loose.notup {ex : List Addr} (L : Loose X envs μ s.heap ex) : NoTup s.heap ex := fun a m o e => by obtain ⟨_, _, _, o', e', t⟩ := L a m; rw [e] at e'; cases e'; exact t
abbrev Turn (X : Cx) (A : Around) (target : Expr) (I : Addr) (F : Shared → Prop) (Q E E' : Value → Shared → Prop) (s : Shared) : Prop :=
 wpAny X.M A (pyNext (.ref I)) (fun r s₁ => match r with | none => F s₁ | some u => wpAny X.M A (letOwnedTupleGo target (.ref I) u) (fun Z s₁' => Q u s₁') E' s₁) E s
theorem next_tup {uq : Bool} {target : Expr} (ht : tgtOf uq target) {I t : Addr} {items : Array Value} {n j : Nat} {u : Value} (i : IsT s.heap t items n) (q : s.heap.IsTupleIter I t j) (eu : items[j]? = some u) {F : Shared → Prop} {Q : Value → Shared → Prop}
   (P : ∀ h', h'.IsTupleIter I t (j + 1) → (∃ o, h'.get? I = some o) → Heap.SameBut I s.heap h' → Q u { s with heap := h' }) : Turn X A target I F Q E E' s :=
 wpAny_pyNext_tuple_item q (isT_tup i) eu fun h' hit hs => by
   obtain ⟨o, ho, hc, _⟩ := id hit
   exact letOwned_quiet ht (s := { s with heap := h' }) ho hc (by decide) (P h' hit ⟨o, ho⟩ hs)
theorem next_lst {uq : Bool} {target : Expr} (ht : tgtOf uq target) {I t : Addr} {items : Array Value} {n j : Nat} {u : Value} (i : IsL s.heap t items n) (q : s.heap.IsListIter I t j) (eu : items[j]? = some u) {F : Shared → Prop} {Q : Value → Shared → Prop}
   (P : ∀ h', h'.IsListIter I t (j + 1) → (∃ o, h'.get? I = some o) → Heap.SameBut I s.heap h' → Q u { s with heap := h' }) : Turn X A target I F Q E E' s :=
 wpAny_pyNext_list_item q (isL_list i) eu fun h' hit hs => by
   obtain ⟨o, ho, hc, _⟩ := id hit
   exact letOwned_quiet ht (s := { s with heap := h' }) ho hc (by decide) (P h' hit ⟨o, ho⟩ hs)
theorem next_enl {target : Expr} (ht : tgtOf true target) {I it t : Addr} {old : Value} {items : Array Value} {n j : Nat} {u : Value} (i : IsL s.heap t items n) (q : IsEnum s.heap I it j old) (p : s.heap.IsListIter it t j) (ne : I ≠ it) (eu : items[j]? = some u) {F : Shared → Prop} {Q : Value → Shared → Prop}
   (P : ∀ h' old', IsEnum h' I it ((j + 1 : Nat) : Int) old' → h'.IsListIter it t (j + 1) → IsT h' s.heap.objs.size #[.int j s.toks, u] 0 → (∀ b o, b ≠ I → b ≠ it → s.heap.get? b = some o → h'.get? b = some o) → Q (.ref s.heap.objs.size) { s with heap := h', toks := s.toks + 1 }) : Turn X A target I F Q E E' s := by
 cases target <;> first | exact ht.elim | skip
 refine wpAny_pyNext_enum_item q p (isL_list i) eu ne fun h₁ heo hit₁ ht₁ hz₁ hk₁ => wpAny_letOwnedTupleGo_enum heo fun h₂ he₂ hs₂ => ?_
 replace hs₂ : Heap.SameBut I h₁ h₂ := hs₂
 exact P h₂ _ he₂ (by obtain ⟨o, e, r⟩ := hit₁; exact ⟨o, (hs₂.2 it (Ne.symm ne)).trans e, r⟩) ((hs₂.2 _ (Nat.ne_of_gt (Heap.lt_size q))).trans ht₁) fun b o n1 n2 e => hs₂.extBut b o n1 (hk₁ b o n1 n2 e)
theorem sim_next_item {uq : Bool} {target : Expr} (ht : tgtOf uq target) (x : St X envs μ H s) {I : Addr} {ex : List Addr} {sr : Src} {j : Nat} {v : MV} (it : ItAt X μ s.heap I ex sr j) (L : Loose X envs μ s.heap ex) (hu : sr.isEn = true → uq = true)
   (hv : srcAt H sr j = some (some v)) {F : Shared → Prop} {Q : Value → Shared → Prop}
   (P : ∀ u s', Aft X envs ex μ s μ H s' → ItAt X μ s'.heap I ex sr (j + 1) → RV X.T.strs μ s'.heap v u → Q u s') : Turn X A target I F Q E E' s := by
 have one : ∀ {h' : Heap} {t : Nat}, ex = [I] → (∃ o, h'.get? I = some o) → Heap.SameBut I s.heap h' → Aft X envs ex μ s μ H { s with heap := h', toks := t } := fun e ho hs => by
   subst e
   exact Aft.exSet x L (fun b o e nb => (hs.2 b (fun q => nb (q ▸ .head _))).trans e) (fun a m => by rw [List.mem_singleton.mp m]; exact ho)
 cases it with
 | tup i r q =>
   obtain ⟨u, eu, ru⟩ := r.get (Option.some.inj hv)
   exact next_tup ht i q (Array.getElem?_toList ▸ eu) fun h' hit ho hs => by
     have A' := one (t := s.toks) rfl ho hs
     have T := (A'.tu x L.notup).t
     exact P _ _ A' (.tup (T _ _ _ i) (r.mono (MExt.refl μ) T) hit) (ru.mono (MExt.refl μ) T)
 | @rng l a st n j hl q =>
   refine iteS ((hl j).symm.trans (Option.some.inj hv)) fun hj e => ?_
   cases e
   refine wpAny_pyNext_range_item q (by lia) fun h' hit hs => ?_
   refine letOwned_quiet ht (s := { s with heap := h', toks := s.toks + 1 }) hit rfl (by decide) (P _ _ (one rfl ⟨_, hit⟩ hs) (.rng hl ?_) rv_int_)
   have e1 : a + st * ((j + 1 : Nat) : Int) = a + st * j + st := by rw [Int.natCast_add, Int.mul_add, Int.add_assoc, Int.natCast_one, Int.mul_one]
   have e2 : (n : Int) - ((j + 1 : Nat) : Int) = (n : Int) - j - 1 := by lia
   rw [e1, e2]; exact hit
 | lst e q =>
   refine mapS hv fun l hl hv => lstS hl fun fz hl => ?_
   obtain ⟨_, items, n, ha, il, r, z⟩ := x.list hl
   cases ha.symm.trans e
   obtain ⟨u, eu, ru⟩ := r.get hv
   exact next_lst ht il q (Array.getElem?_toList ▸ eu) fun h' hit ho hs => by
     have A' := one (t := s.toks) rfl ho hs
     exact P _ _ A' (.lst e hit) (ru.mono (MExt.refl μ) (A'.tu x L.notup).t)
 | @enl i ax it old j e q p ne =>
   cases hu rfl
   refine mapS hv fun l hl hv => lstS hl fun fz hl => mapS hv fun v' hw e' => ?_
   subst e'
   obtain ⟨_, items, n, ha, il, r, z⟩ := x.list hl
   cases ha.symm.trans e
   obtain ⟨u, eu, ru⟩ := r.get hw
   exact next_enl ht il q p ne (Array.getElem?_toList ▸ eu) fun h' old' he hp ht' k => by
     have A' : Aft X envs [I, it] μ s μ H { s with heap := h', toks := s.toks + 1 } := Aft.exSet x L (fun b o e nb => k b o (fun q => nb (q ▸ .head _)) (fun q => nb (q ▸ .tail _ (.head _))) e) (fun a m => by
       cases m with
       | head => exact ⟨_, he⟩
       | tail _ m => rw [List.mem_singleton.mp m]; obtain ⟨o, e, _⟩ := hp; exact ⟨o, e⟩)
     exact P _ _ A' (.enl e he hp ne) (rv_tup_ ht' (by rw [sizeLine_eq]; exact nle rfl) (RVs.cons rv_int_ (RVs.cons (ru.mono (MExt.refl μ) (A'.tu x L.notup).t) RVs.nil)))
theorem none_at {h : Heap} {l : List MV} {items : Array Value} {j : Nat} (r : RVs X.T.strs μ h l items.toList) (e : l[j]? = none) : items[j]? = none :=
 Array.getElem?_eq_none ((show items.size = l.length from r.length) ▸ List.getElem?_eq_none_iff.mp e)
theorem sim_next_end (hh : A.handled = none) (x : St X envs μ H s) {I : Addr} {ex : List Addr} {sr : Src} {j : Nat} (it : ItAt X μ s.heap I ex sr j)
   (hv : srcAt H sr j = some none) {F : Shared → Prop} {G : Value → Shared → Prop} (P : ∀ h', (∀ b o, s.heap.get? b = some o → b ∉ ex → h'.get? b = some o) → F { s with heap := h' }) :
   wpAny X.M A (pyNext (.ref I)) (fun r s₁ => match r with | none => F s₁ | some u => G u s₁) E s := by
 have one : ∀ {b : Addr} {h' : Heap}, b ∈ ex → Heap.ExtBut b s.heap h' → F { s with heap := h' } := fun {c h'} hc hs => P h' fun b o e nb => hs b o (fun q => nb (q ▸ hc)) e
 cases it with
 | tup i r q => exact wpAny_pyNext_tuple_end hh q (isT_tup i) (none_at r (Option.some.inj hv)) fun h' he => one (.head _) he
 | @rng l a st n j hl q =>
   have hj : ¬ j < n := fun h => nn (((if_pos h).symm.trans ((hl j).symm.trans (Option.some.inj hv))).symm)
   exact wpAny_pyNext_range_end hh q (by lia) fun h' he => one (.head _) he
 | lst e q =>
   refine mapS hv fun l hl hv => lstS hl fun fz hl => ?_
   obtain ⟨_, items, n, ha, il, r, z⟩ := x.list hl
   cases ha.symm.trans e
   exact wpAny_pyNext_list_end hh q (isL_list il) (none_at r hv) fun h' he => one (.head _) he
 | enl e q p ne =>
   refine mapS hv fun l hl hv => lstS hl fun fz hl => ?_
   obtain ⟨_, items, n, ha, il, r, z⟩ := x.list hl
   cases ha.symm.trans e
   exact wpAny_pyNext_enum_end hh q p (isL_list il) (none_at r (Option.map_eq_none_iff.mp hv)) fun h' he => one (.tail _ (.head _)) he
theorem Aft.drop {ex ex' μ' : List Addr} {H' : MH} {s' : Shared} (A₀ : Aft X envs ex μ s μ' H' s') (L : Loose X envs μ' s'.heap ex') (hf : ∀ a ∈ ex', s.heap.get? a = none) {h' : Heap}
   (k : ∀ b o, s'.heap.get? b = some o → b ∉ ex' → h'.get? b = some o) : Aft X envs ex μ s μ' H' { s' with heap := h' } := by
 have x := A₀.st
 have km : ∀ a ∈ μ', ∀ o, s'.heap.get? a = some o → h'.get? a = some o := fun a m o e => k a o e fun q => (L a q).1 m
 have T : TuKeep s'.heap h' := fun b o e c => k b o e fun q => by obtain ⟨_, _, _, o', e', t⟩ := L b q; rw [e] at e'; cases e'; exact t c
 refine ⟨⟨x.len, x.nd, fun i o a e1 e2 => ?_, fun b o e => ?_, x.new, fun env he => ?_, x.fl, x.gens, x.os, x.m₀⟩, A₀.ext, fun b o e => ?_⟩
 · have r := x.obj i o a e1 e2
   obtain ⟨ox, q, _⟩ := r.kind
   exact r.mono (MExt.refl _) T (by rw [q]; exact km a (List.mem_of_getElem? e2) ox q)
 · exact k b o (x.stays b o e) fun q => by rw [(L b q).2.2.1] at e; cases e
 · obtain ⟨a0, L', o', es, ep, b1, b2, b3, b4⟩ := x.frs env he
   exact ⟨a0, L', o', es, ep, b1, b2, k L' o' b3 fun q => (L L' q).2.1 (List.mem_filterMap.mpr ⟨env, he, b1⟩), b4⟩
 · have nb : b ∉ ex' := fun q => by rw [hf b q] at e; cases e
   obtain ⟨k1, k2, o', k3⟩ := A₀.keep b o e
   refine ⟨fun a1 a2 a3 => k b o (k1 a1 a2 a3) nb, fun a1 a2 a3 => ?_, o', k b o' k3 nb⟩
   obtain ⟨sl, q⟩ := k2 a1 a2 a3
   exact ⟨sl, k b _ q nb⟩
theorem Aft.fresh {ex ex' μ' : List Addr} {H' : MH} {s' : Shared} (A₀ : Aft X envs ex μ s μ' H' s') (hf : ∀ a ∈ ex, a ∈ ex' ∨ s.heap.get? a = none) : Aft X envs ex' μ s μ' H' s' :=
 ⟨A₀.st, A₀.ext, fun b o e => by
   have nx : b ∉ ex' → b ∉ ex := fun n q => (hf b q).elim n fun z => by rw [z] at e; cases e
   exact ⟨fun a1 a2 a3 => (A₀.keep b o e).1 a1 (nx a2) a3, fun a1 a2 a3 => (A₀.keep b o e).2.1 a1 (nx a2) a3, (A₀.keep b o e).2.2⟩⟩
theorem Aft.adopt {ex μ' : List Addr} {H' : MH} {s' : Shared} (A₀ : Aft X envs ex μ s μ' H' s') {D : Addr} {mo : MObj} (hd : s.heap.get? D = none) (hm : D ∉ μ') (hl : D ∉ fls envs) (hb : X.base.get? D = none)
   (r : RO X (μ' ++ [D]) s'.heap D mo) : Aft X envs ex μ s (μ' ++ [D]) (H' ++ [mo]) s' := by
 have x := A₀.st
 refine ⟨⟨by simp [x.len], ?_, fun i o' a' e1 e2 => ?_, x.stays, fun i o' a' e1 e2 => ?_, x.frs, fun a' m q => ?_, x.gens, x.os, ?_⟩, ?_, fun b o e => ?_⟩
 · exact List.nodup_append.mpr ⟨x.nd, by simp, fun a' ha' b hb => by rw [List.mem_singleton.mp hb]; exact fun q => hm (q ▸ ha')⟩
 · rcases Nat.lt_or_ge i μ'.length with hi | hi
   · rw [List.getElem?_append_left hi] at e2
     rw [List.getElem?_append_left (x.len ▸ hi)] at e1
     exact (x.obj i o' a' e1 e2).mono (MExt.app _ _) (TuKeep.refl _) rfl
   · rw [List.getElem?_append_right hi] at e2
     rw [List.getElem?_append_right (x.len ▸ hi), ← x.len] at e1
     cases q : i - μ'.length with
     | zero =>
       rw [q] at e1 e2
       simp only [List.getElem?_cons_zero, Option.some.injEq] at e1 e2
       subst e1 e2; exact r
     | succ j => rw [q] at e2; simp at e2
 · rcases Nat.lt_or_ge i μ'.length with hi | hi
   · rw [List.getElem?_append_left hi] at e2
     rw [List.getElem?_append_left (x.len ▸ hi)] at e1
     exact x.new i o' a' e1 e2
   · rw [List.getElem?_append_right hi] at e2
     cases q : i - μ'.length with
     | zero =>
       rw [q] at e2
       simp only [List.getElem?_cons_zero, Option.some.injEq] at e2
       subst e2; exact .inr hb
     | succ j => rw [q] at e2; simp at e2
 · rcases List.mem_append.mp q with q | q
   · exact x.fl a' m q
   · rw [List.mem_singleton.mp q] at m; exact hl m
 · obtain ⟨ν, e⟩ := x.m₀
   exact ⟨ν ++ [D], by rw [e, List.append_assoc]⟩
 · obtain ⟨ν, rfl, h⟩ := A₀.ext
   refine ⟨ν ++ [D], List.append_assoc .., fun a m => ?_⟩
   rcases List.mem_append.mp m with m | m
   · exact h a m
   · rw [List.mem_singleton.mp m]; exact hd
 · exact A₀.keep b o e
end
section
open PySem PySem.W PySem.Calls PyProof.Rows
noncomputable def lmS : LM → Str
 | .append => "append"
 | .pop => "pop"
 | .extend => "extend"
 | .reverse => "reverse"
structure GOk (X : Cx) : Prop where
 globs : ∀ n g mv, X.T.globs.lookup n = some g → X.P.glob g = some mv → ∃ v, nsIn X.K mainGlobals n = some (some v) ∧ RV X.T.strs X.μ₀ X.base mv v
 funs : ∀ n k, X.T.funs.lookup n = some k → ∃ fa, nsIn X.K mainGlobals n = some (some (.ref fa)) ∧ X.fn k = some fa ∧ keepIn X.K (.ref fa) = true
 clss : ∀ n k, X.T.clss.lookup n = some k → ∃ ca, nsIn X.K mainGlobals n = some (some (.ref ca)) ∧ X.cls k = some ca ∧ keepIn X.K (.ref ca) = true
 bis : ∀ n b, cBi n = some b → nsIn X.K mainGlobals n = some none ∧ ∃ m, X.base.Ns builtinsNs m ∧ m n = some (biV b)
 range : nsIn X.K mainGlobals "range" = some none ∧ ∃ m, X.base.Ns builtinsNs m ∧ m "range" = some (.type "range")
 enum : nsIn X.K mainGlobals "enumerate" = some none ∧ ∃ m, X.base.Ns builtinsNs m ∧ m "enumerate" = some (.type "enumerate")
 meths : ∀ f fa, X.fn f = some fa → keepIn X.K (.ref fa) = true
 lms : ∀ k m, X.P.lm k = some m → X.T.strs[k]? = some (lmS m)
structure ArC (A : Around) (d : Nat) (envs : List Env) (rz : Bool) : Prop where
 frames : A.frames = some envs
 depth : A.depth + 4 * d ≤ 903
 units : A.units + 40 + 32 * d ≤ 9000
 hand : rz = true → A.handled = none
theorem Ar.c {A : Around} {d : Nat} {envs : List Env} {rz : Bool} (x : Ar A d envs rz) : ArC A d envs rz := ⟨x.frames, Nat.le_trans x.depth (nle rfl), Nat.le_trans (Nat.add_le_add_right (Nat.add_le_add_left (nle rfl) _) _) x.units, x.hand⟩
theorem Ar.cl66 {A : Around} {d : Nat} {envs : List Env} {rz : Bool} (x : Ar A d envs rz) : A.units + 66 < cLine :=
 Nat.lt_of_le_of_lt (Nat.add_le_add_right (Nat.le_trans (Nat.le_trans (Nat.le_add_right _ _) (Nat.le_add_right _ _)) x.units) 66) (show _ < 9900 from nle rfl)
theorem Ar.dep {a b x : Nat} (h : a + x ≤ 900) (h2 : b ≤ 2) : a + b + x ≤ 903 := Nat.add_right_comm a b x ▸ Nat.le_trans (Nat.add_le_add h h2) (nle rfl)
theorem Ar.uni {a b x : Nat} (h : a + 64 + x ≤ 9000) (h2 : b ≤ 8) : a + b + 40 + x ≤ 9000 :=
 Nat.le_trans (Nat.add_le_add_right (Nat.add_assoc a b 40 ▸ Nat.add_le_add_left (Nat.le_trans (Nat.add_le_add_right h2 40) (nle rfl)) a) x) h
noncomputable def backTo' (Q E : Value → Shared → Prop) (r : Result) (s' : Shared) : Prop := match r with
 | .ok (.ret v) => Q v s'
 | .ok _ => False
 | .error e => E e s'
noncomputable def OrcOk (X : Cx) (C : Orc) (d : Nat) (rz : Bool) : Prop := ∀ (A : Around) (envs : List Env) (f : Nat) (fa : Addr) (args : List MV) (vals : List Value) (μ : List Addr) (H : MH) (s : Shared) (Q E : Value → Shared → Prop),
 X.fn f = some fa → ArC A d envs rz → St X envs μ H s → RVs X.T.strs μ s.heap args vals → PostG X envs [] μ s (relV X) (C f args H) Q E → codeAny X.M A (.call (.ref fa) ⟨vals, []⟩) (backTo' Q E) s
theorem wpAny_callO {X : Cx} {A : Around} {f : Value} {vals : List Value} {s : Shared} {Q E : Value → Shared → Prop} (h : codeAny X.M A (.call f ⟨vals, []⟩) (backTo' Q E) s) : wpAny X.M A (call f vals) Q E s :=
 wpAny_call (codeAny_mono h fun r s' z => by rcases r with e | (v | _ | _ | _) <;> exact z)
noncomputable def SimE (X : Cx) (C : Orc) (rz : Bool) (d n : Nat) : Prop := ∀ (sc : Scope) (vm : VM) (e : Expr) (c : CE), cE X.T n sc vm e = some c →
 ∀ (A : Around) (envs : List Env) (env : Env) (μ : List Addr) (H : MH) (s : Shared) (ρ : Loc) (Q E : Value → Shared → Prop), Ar A d envs rz → EnvOk env sc vm envs → St X envs μ H s → LocR X env vm μ ρ s.heap →
 PostG X envs [] μ s (relV X) (mE X.P C rz c ρ H) Q E → wpAny X.M A (eval e env) Q E s
noncomputable def SimT (X : Cx) (C : Orc) (rz : Bool) (d n : Nat) : Prop := ∀ (sc : Scope) (vm : VM) (e : Expr) (c : CE), cE X.T n sc vm e = some c →
 ∀ (A : Around) (envs : List Env) (env : Env) (μ : List Addr) (H : MH) (s : Shared) (ρ : Loc) (Q : Bool → Shared → Prop) (E : Value → Shared → Prop), Ar A d envs rz → EnvOk env sc vm envs → St X envs μ H s → LocR X env vm μ ρ s.heap →
 PostG X envs [] μ s relB ((mE X.P C rz c ρ H).bind toB) Q E → wpAny X.M A (isTrue e env (eval e env)) Q E s
variable {X : Cx} {C : Orc} {N : Nat} {rz : Bool} {d n : Nat} {sc : Scope} {vm : VM} {A : Around} {envs : List Env} {env : Env} {μ : List Addr} {H : MH} {s : Shared} {ρ : Loc} {Q E : Value → Shared → Prop}
theorem not_dbg {b c : Bool} (h : (!b && c) = true) : b = false := by
 cases b with
 | true => exact nb h
 | false => rfl
theorem isVar_dbg {x : Str} (h : isVar sc x = true) : (x == ("__debug__" : Str)) = false := not_dbg h
theorem isGlob_dbg {x : Str} (h : isGlob sc x = true) : (x == ("__debug__" : Str)) = false := not_dbg h
theorem ld_glob (hX : XOk X) (x : St X envs μ H s) (he : EnvOk env sc vm envs) {nm : Str} {p : Pos} {v : Value} (hg : isGlob sc nm = true) (e : nsIn X.K mainGlobals nm = some (some v)) (P : Q v s) : wpAny X.M A (eval (.Name nm p) env) Q E s := by
 refine Name_function_global he.kind (he.globs nm hg) ?_ (isGlob_dbg hg)
 unfold loadGlobal
 rw [he.globals]
 exact wpAny_bind ((looks_nsIn (hX.K.keeps x.stays) e).here (wpAny_pure P))
theorem ld_bi (hX : XOk X) (x : St X envs μ H s) (he : EnvOk env sc vm envs) {nm : Str} {p : Pos} {v : Value} (hg : isGlob sc nm = true) (e : nsIn X.K mainGlobals nm = some none ∧ ∃ m, X.base.Ns builtinsNs m ∧ m nm = some v) (P : Q v s) : wpAny X.M A (eval (.Name nm p) env) Q E s := by
 refine Name_function_global he.kind (he.globs nm hg) ?_ (isGlob_dbg hg)
 unfold loadGlobal
 rw [he.globals, he.builtins]
 refine wpAny_bind ((looks_nsIn (hX.K.keeps x.stays) e.1).here ?_)
 obtain ⟨_, m, hm, hv⟩ := e
 refine wpAny_bind (wpAny_nsGet (hm.keeps x.stays) ?_)
 rw [hv]
 exact wpAny_pure P
theorem tkeep_base (x : St X envs μ H s) : TKeep X.base s.heap := fun a items n i => x.stays _ _ i
theorem mext_base (x : St X envs μ H s) : MExt X.μ₀ μ := by obtain ⟨ν, rfl⟩ := x.m₀; exact MExt.app _ _
theorem sim_name (hX : XOk X) (hG : GOk X) (x : St X envs μ H s) (he : EnvOk env sc vm envs) (L : LocR X env vm μ ρ s.heap) {nm : Str} {p : Pos} {c : CE} (h : cName X.T sc vm nm = some c)
   (P : PostG X envs [] μ s (relV X) (mE X.P C rz c ρ H) Q E) : wpAny X.M A (eval (.Name nm p) env) Q E s := by
 unfold cName at h
 by_cases hv : isVar sc nm = true
 · rw [if_pos hv] at h
   refine mapS h fun k hk e => ?_
   subst e
   exact PostG.opt0 P fun mv hr P => wpAny_Name (sim_load he L hv hk hr fun v rv => P _ _ _ (Aft.refl x) rv) (isVar_dbg hv)
 · rw [if_neg hv] at h
   refine iteS h fun hg h => mapS h fun k hk e => ?_
   subst e
   refine PostG.opt0 P fun mv hr P => ?_
   obtain ⟨v, e, r⟩ := hG.globs _ _ _ hk hr
   exact ld_glob hX x he hg e (P _ _ _ (Aft.refl x) (r.mono (mext_base x) (tkeep_base x)))
theorem starEach_cons {T : CT} {e : Expr} {c : CE} (h : cE T n sc vm e = some c) (rest : List Expr) : starEach (e :: rest) env = (false, eval e env) :: starEach rest env := by
 cases e <;> first | rfl | (cases n <;> exact nn h)
theorem not_behind {T : CT} {e : Expr} {c : CE} (h : cE T n sc vm e = some c) (op : CmpOp) : behindInMarks op e = false := by
 cases e <;> first | rfl | (cases n <;> exact nn h)
theorem sim_args (IH : SimE X C rz d n) (hA : Ar A d envs rz) (he : EnvOk env sc vm envs) {pos : Pos} {es : List Expr} : ∀ {cs : List CE} {μ : List Addr} {H : MH} {s : Shared} {Q : List Value → Shared → Prop}, mapO (cE X.T n sc vm) es = some cs →
   St X envs μ H s → LocR X env vm μ ρ s.heap → PostG X envs [] μ s (relVs X) (mEs X.P C rz cs ρ H) Q E → wpAny X.M A (spliced (backTo pos (starEach es env))) Q E s := by
 induction es with
 | nil => intro cs μ H s Q h x L P; cases h; exact spliced_nil (P _ _ _ (Aft.refl x) RVs.nil)
 | cons e es ih =>
   intro cs μ H s Q h x L P
   refine consO h fun b bs h1 h2 ec => ?_
   subst ec
   rw [starEach_cons h1]
   exact spliced_cons (IH _ _ _ _ h1 _ _ _ _ _ _ _ _ _ hA he x L (PostG.bind P fun a u μ₁ H₁ s₁ Z A' R P' => ih h2 A'.st (L.aft x A') (PostG.bind P' fun as us μ₂ H₂ s₂ Z A'' R' P'' =>
     P''.ok (Aft.refl A''.st) (RVs.cons (A''.rv A'.st NoTup.nil R) R'))))
theorem any_back {pos : Pos} {T : CT} {es : List Expr} : ∀ {cs : List CE}, mapO (cE T n sc vm) es = some cs → ((backTo pos (starEach es env)).any fun x => x.1) = false := by
 induction es with
 | nil => intro cs h; rfl
 | cons e es ih =>
   intro cs h
   refine consO h fun b bs h1 h2 Z => ?_
   rw [starEach_cons h1]
   exact (Bool.false_or _).trans (ih h2)
theorem sim_callK (hX : XOk X) (IH : SimE X C rz d n) (hA : Ar A d envs rz) (he : EnvOk env sc vm envs) {pos : Pos} {es : List Expr} {cs : List CE} {f : Value} {first : List Value} (h : mapO (cE X.T n sc vm) es = some cs) (hk : keepIn X.K f = true)
   (x : St X envs μ H s) (L : LocR X env vm μ ρ s.heap)
   (P : PostG X envs [] μ s (relVs X) (mEs X.P C rz cs ρ H) (fun vs s₁ => (∃ μ₁ H₁, St X envs μ₁ H₁ s₁) → wpAny X.M A (call f (first ++ vs)) Q E s₁) E) :
   wpAny X.M A (callWith pos f first (backTo pos (starEach es env)) []) Q E s := by
 cases es with
 | nil => cases h; exact callWith_K0 (hX.K.keeps x.stays) hk (P _ _ _ (Aft.refl x) RVs.nil ⟨_, _, x⟩)
 | cons e es =>
   refine consO h fun b bs h1 h2 Z => callWith_K (hX.K.keeps x.stays) hk (sim_args IH hA he h x L ?_) (starEach_cons h1 es) (any_back h2)
   revert P
   cases mEs X.P C rz cs ρ H with
   | bad => exact fun P => P
   | ok v H' => exact fun P u μ' s' A' R => ⟨hX.K.keeps A'.st.stays, P u μ' s' A' R ⟨_, _, A'.st⟩⟩
   | exc xc H' => exact fun P => P
theorem looks_mach {M : Model} {h : Heap} {v : Value} (hv : ∀ a, v ≠ .ref a) : Looks M h (keeperOf v) .machine := by
 refine Looks.of_pure ?_
 cases v <;> first | rfl | exact absurd rfl (hv _)
theorem sim_callB (IH : SimE X C rz d n) (hA : Ar A d envs rz) (he : EnvOk env sc vm envs) {pos : Pos} {e : Expr} {c : CE} {f : Value} (hf : ∀ a, f ≠ .ref a) (h : cE X.T n sc vm e = some c)
   (x : St X envs μ H s) (L : LocR X env vm μ ρ s.heap) (P : PostG X envs [] μ s (relV X) (mE X.P C rz c ρ H) (fun v s₁ => wpAny X.M A (call f [v]) Q E s₁) E) :
   wpAny X.M A (callWith pos f [] (backTo pos (starEach [e] env)) []) Q E s := by
 rw [starEach_cons h]
 refine callWith_of (P := fun Z => True) rfl (fun h Z => ⟨.machine, .inr (.inl rfl), looks_mach hf⟩) ?_
 exact evalArgs_plain (spliced_cons (wpAny_mono (IH _ _ _ _ h _ _ _ _ _ _ _ _ _ hA he x L P) (fun v s₁ h₁ => spliced_nil ⟨trivial, h₁⟩) fun Z Z q => q))
theorem copOf_cCop (op : CmpOp) : copOf (cCop op) = op := by cases op <;> rfl
theorem lastMarks_no {T : CT} {ops : List CmpOp} : ∀ {es : List Expr} {cs : List CE}, mapO (cE T n sc vm) es = some cs → lastMarks ops es = false := by
 induction ops with
 | nil => intro es cs _; cases es <;> rfl
 | cons op ops ih =>
   intro es cs h
   cases es with
   | nil => cases ops <;> rfl
   | cons e es =>
     refine consO h fun b bs h1 h2 Z => ?_
     cases ops with
     | nil => cases es with
       | nil => exact not_behind h1 op
       | cons => rfl
     | cons op' ops => exact ih h2
abbrev relBV : List Addr → Heap → Bool → Value → Prop := fun Z Z b v => v = .bool b
theorem sim_link (hX : XOk X) (hu : A.units + 66 < cLine) (x : St X envs μ H s) {op : CmpOp} {a b : MV} {u v : Value} {Q : Value → Shared → Prop} (ru : RV X.T.strs μ s.heap a u) (rv : RV X.T.strs μ s.heap b v)
   (P : PostG X envs [] μ s relB (mCompR (cCop op) a b H) (fun r s' => Q (.bool r) s') E) : wpAny X.M A (compareOp op u v) Q E s :=
 PostG.opt0 P fun r e P => copOf_cCop op ▸ sim_comp hX hu x ru rv e fun s' A' => P r μ s' A' rfl
theorem PostG.boolV {r : Mine.Internal.R Bool} (P : PostG X envs [] μ s relBV r Q E) : PostG X envs [] μ s relB r (fun b s' => Q (.bool b) s') E := by
 cases r with
 | bad => exact P
 | ok b H' => exact fun u μ' s' A R => by cases R; exact P _ _ _ A rfl
 | exc => exact P
theorem sim_chain (hX : XOk X) (IH : SimE X C rz d n) (hA : Ar A d envs rz) (he : EnvOk env sc vm envs) {pos : Pos} (es : List Expr) : ∀ {cs : List CE} {ops : List CmpOp} {μ : List Addr} {H : MH} {s : Shared} {a : MV} {u : Value} {Q : Value → Shared → Prop}, mapO (cE X.T n sc vm) es = some cs →
   ops.length = es.length → St X envs μ H s → LocR X env vm μ ρ s.heap → RV X.T.strs μ s.heap a u → PostG X envs [] μ s relBV (mChain X.P C rz a (ops.map cCop) cs ρ H) Q E → wpAny X.M A (compareChain pos u ops (evalEach es env)) Q E s := by
 induction es with
 | nil =>
   intro cs ops μ H s a u Q h hl x L ru P
   cases h
   cases ops with
   | nil => exact P.elim
   | cons => exact nomatch hl
 | cons e es ih =>
   intro cs ops μ H s a u Q h hl x L ru P
   refine consO h fun b bs h1 h2 ec => ?_
   subst ec
   cases ops with
   | nil => exact nomatch hl
   | cons op ops =>
   have hl := Nat.succ.inj hl
   cases es with
   | nil =>
     cases h2
     cases ops with
     | cons => exact nomatch hl
     | nil =>
     have P : PostG X envs [] μ s relBV ((mE X.P C rz b ρ H).bind fun y H => mCompR (cCop op) a y H) Q E := P
     exact chain_last (IH _ _ _ _ h1 _ _ _ _ _ _ _ _ _ hA he x L (PostG.bind P fun b v μ₁ H₁ s₁ Z A' R P' => sim_link hX hA.cl66 A'.st (A'.rv x NoTup.nil ru) R P'.boolV))
   | cons e' es =>
     cases ops with
     | nil => exact nomatch hl
     | cons op' ops =>
     refine consO h2 fun c' cs' h3 h4 ec => ?_
     subst ec
     have P : PostG X envs [] μ s relBV ((mE X.P C rz b ρ H).bind fun y H => (mCompR (cCop op) a y H).bind fun c H => if c then mChain X.P C rz y ((op' :: ops).map cCop) (c' :: cs') ρ H else .ok false H) Q E := P
     refine chain_link (IH _ _ _ _ h1 _ _ _ _ _ _ _ _ _ hA he x L (PostG.bind P fun b v μ₁ H₁ s₁ Z A' R P' => sim_link hX hA.cl66 A'.st (A'.rv x NoTup.nil ru) R (PostG.bind P' fun r r' μ₂ H₂ s₂ Z A'' R'' P'' => ?_)))
     cases R''
     refine wpAny_truthy_bool ?_
     cases r with
     | true => exact ih h2 hl A''.st ((L.aft x A').aft A'.st A'') (A''.rv A'.st NoTup.nil R) P''
     | false => exact PostG.ok P'' (Aft.refl A''.st) rfl
end
section
open PySem PySem.W PySem.Calls PyProof.Rows
variable {X : Cx} {C : Orc} {N : Nat} {rz : Bool} {d n : Nat} {sc : Scope} {vm : VM} {A : Around} {envs : List Env} {env : Env} {μ : List Addr} {H : MH} {s : Shared} {ρ : Loc} {Q E : Value → Shared → Prop}
theorem PostG.boolT {r : R Bool} {Q : Bool → Shared → Prop} (P : PostG X envs [] μ s relB ((r.bind fun b H => .ok (.bool b) H).bind toB) Q E) : PostG X envs [] μ s relB r Q E := by
 cases r with
 | bad => exact P
 | ok v H' => exact P
 | exc x H' => exact P
theorem PostG.boolE {r : R Bool} (P : PostG X envs [] μ s (relV X) (r.bind fun b H => .ok (.bool b) H) Q E) : PostG X envs [] μ s relBV r Q E := by
 cases r with
 | bad => exact P
 | ok v H' => exact fun u μ' s' A R => P u μ' s' A (by cases R; exact rv_bool_)
 | exc x H' => exact P
theorem mem_of_post {α β : Type} {rel : List Addr → Heap → α → β → Prop} {r : R α} {Q Q' : β → Shared → Prop} (P : PostG X envs [] μ s rel r Q E) (k : ∀ u s', Q u s' → Q' u s') : PostG X envs [] μ s rel r Q' E := by
 cases r with
 | bad => exact P
 | ok v H' => exact fun u μ' s' A R => k _ _ (P u μ' s' A R)
 | exc x H' => exact P
theorem PostG.toB {a : MV} {u : Value} {α : Type} {β : Type} {rel : List Addr → Heap → α → β → Prop} {f : Bool → MH → R α} {Q : β → Shared → Prop} {G : Prop} (r : RV X.T.strs μ s.heap a u) (P : PostG X envs [] μ s rel ((toB a H).bind f) Q E) (k : ∀ b, u = .bool b → PostG X envs [] μ s rel (f b H) Q E → G) : G := by
 cases a with
 | bool b => exact k b r P
 | _ => exact P.elim
theorem toB_ok {a : MV} {u : Value} {μ' : List Addr} {H' : MH} {s' : Shared} {Q : Bool → Shared → Prop} (x : St X envs μ' H' s') (r : RV X.T.strs μ' s'.heap a u) (P : PostG X envs [] μ' s' relB (toB a H') Q E) : ∃ b, u = .bool b ∧ a = .bool b ∧ Q b s' := by
 cases a with
 | bool b => exact ⟨b, r, rfl, PostG.ok P (Aft.refl x) rfl⟩
 | _ => exact P.elim
noncomputable def opB : BoolOp → Bool
 | .And => true
 | .Or => false
theorem sim_bool (IH : SimE X C rz d n) (hA : Ar A d envs rz) (he : EnvOk env sc vm envs) {pos : Pos} {op : BoolOp} (es : List Expr) : ∀ {cs : List CE} {μ : List Addr} {H : MH} {s : Shared} {Q : Value → Shared → Prop}, mapO (cE X.T n sc vm) es = some cs → es ≠ [] →
   St X envs μ H s → LocR X env vm μ ρ s.heap → PostG X envs [] μ s relBV (mBool X.P C rz (opB op) cs ρ H) Q E → wpAny X.M A (boolOp pos op (evalEach es env)) Q E s := by
 induction es with
 | nil => intro _ _ _ _ _ _ h; exact absurd rfl h
 | cons e es ih =>
   intro cs μ H s Q h _ x L P
   refine consO h fun b bs h1 h2 ec => ?_
   subst ec
   have P : PostG X envs [] μ s relBV ((mE X.P C rz b ρ H).bind fun v H => (toB v H).bind fun t H => if t = opB op then mBool X.P C rz (opB op) bs ρ H else .ok t H) Q E := P
   cases es with
   | nil =>
     cases h2
     refine IH _ _ _ _ h1 _ _ _ _ _ _ _ _ _ hA he x L (PostG.bind P fun a u μ₁ H₁ s₁ e0 A' R P' => PostG.toB R P' fun t e P2 => ?_)
     subst e
     by_cases ht : t = opB op
     · rw [if_pos ht] at P2; subst ht; exact PostG.ok P2 (Aft.refl A'.st) rfl
     · rw [if_neg ht] at P2; exact PostG.ok P2 (Aft.refl A'.st) rfl
   | cons e' es =>
     show wpAny X.M A (do
       let v ← eval e env
       standAt pos
       let t ← holding [v] (truthy v)
       match op, t with
       | .And, false | .Or, true => pure v
       | _, _ => boolOp pos op (evalEach (e' :: es) env)) Q E s
     refine wpAny_bind (IH _ _ _ _ h1 _ _ _ _ _ _ _ _ _ hA he x L (PostG.bind P fun a u μ₁ H₁ s₁ e0 A' R P' => PostG.toB R P' fun t e P2 => ?_))
     subst e
     refine wpAny_bind (wpAny_standAt (wpAny_bind (wpAny_holding (wpAny_truthy_bool ?_))))
     have st : t = opB op → wpAny X.M A (boolOp pos op (evalEach (e' :: es) env)) Q E s₁ := fun ht => by rw [if_pos ht] at P2; exact ih h2 (fun z => nomatch z) A'.st (L.aft x A') P2
     have go : ¬ t = opB op → wpAny X.M A (pure (Value.bool t)) Q E s₁ := fun ht => by rw [if_neg ht] at P2; exact wpAny_pure (PostG.ok P2 (Aft.refl A'.st) rfl)
     cases op <;> cases t
     · exact go (fun z => nomatch z)
     · exact st rfl
     · exact st rfl
     · exact go (fun z => nomatch z)
theorem sim_allTrue (IH : SimT X C rz d n) (hA : Ar A d envs rz) (he : EnvOk env sc vm envs) {op : BoolOp} (es : List Expr) : ∀ {cs : List CE} {μ : List Addr} {H : MH} {s : Shared} {Q : Bool → Shared → Prop}, mapO (cE X.T n sc vm) es = some cs →
   St X envs μ H s → LocR X env vm μ ρ s.heap → PostG X envs [] μ s relB (mBool X.P C rz (opB op) cs ρ H) Q E → wpAny X.M A (allTrue op es env) Q E s := by
 induction es with
 | nil =>
   intro cs μ H s Q h x L P
   cases h
   have q : Q (opB op) s := PostG.ok P (Aft.refl x) rfl
   cases op
   · exact wpAny_allTrue_And_nil q
   · exact wpAny_allTrue_Or_nil q
 | cons e es ih =>
   intro cs μ H s Q h x L P
   refine consO h fun b bs h1 h2 ec => ?_
   subst ec
   have P1 : PostG X envs [] μ s relB (((mE X.P C rz b ρ H).bind toB).bind fun t H => if t = opB op then mBool X.P C rz (opB op) bs ρ H else .ok t H) Q E := by
     have P : PostG X envs [] μ s relB ((mE X.P C rz b ρ H).bind fun v H => (toB v H).bind fun t H => if t = opB op then mBool X.P C rz (opB op) bs ρ H else .ok t H) Q E := P
     revert P
     cases mE X.P C rz b ρ H <;> exact fun P => P
   have g := IH _ _ _ _ h1 _ _ _ _ _ _ _ _ _ hA he x L (PostG.bind P1 (Q := fun t s₁ => if t = opB op then wpAny X.M A (allTrue op es env) Q E s₁ else Q t s₁) (rel := relB) fun t u μ₁ H₁ s₁ Z A' R P' => by
     cases R
     by_cases ht : t = opB op
     · rw [if_pos ht] at P' ⊢
       exact ih h2 A'.st (L.aft x A') P'
     · rw [if_neg ht] at P' ⊢
       exact PostG.ok P' (Aft.refl A'.st) rfl)
   cases op
   · refine wpAny_allTrue_And_cons (wpAny_mono g (fun t s₁ h₁ => ?_) fun Z Z q => q)
     cases t <;> exact h₁
   · refine wpAny_allTrue_Or_cons (wpAny_mono g (fun t s₁ h₁ => ?_) fun Z Z q => q)
     cases t <;> exact h₁
theorem tc_weight (a : Addr) (l : List Value) : (PySem.Code.builtin "type.__call__" ⟨.ref a :: l, []⟩).weight ≤ 2 := by
 have : (PySem.Code.builtin "type.__call__" ⟨.ref a :: l, []⟩).weight = 1 := by kernel_rfl
 rw [this]; decide
theorem tc_units (a : Args) : (PySem.Code.builtin "type.__call__" a).cUnits ≤ 8 := by
 have : (PySem.Code.builtin "type.__call__" a).cUnits = (PySem.Code.builtin "type.__call__" ⟨[], []⟩).cUnits := rfl
 rw [this]; decide +kernel
theorem new_aft (x : St X envs μ H s) {c : Nat} {ca : Addr} {tk : Tok} (hc : X.cls c = some ca) : Aft X envs [] μ s ((μ ++ [s.heap.objs.size]) ++ [s.heap.objs.size + 1]) (H ++ [.dict false [], .inst c H.length]) { s with heap := (s.heap.push emptyDict).push (instObj ca s.heap.objs.size), toks := tk } ∧
   ((μ ++ [s.heap.objs.size]) ++ [s.heap.objs.size + 1])[H.length + 1]? = some (s.heap.objs.size + 1) := by
 have A1 := Aft.alloc x (o := emptyDict) (t := tk) (mo := .dict false []) rfl ⟨Nat.zero_le _, [], Heap.DictOf.new _, rfl⟩
 have A2 := Aft.alloc A1.st (o := instObj ca s.heap.objs.size) (t := tk) (mo := .inst c H.length) rfl ⟨instObj ca s.heap.objs.size, ca, s.heap.objs.size, Heap.get?_push_size _ rfl, hc, rfl, rfl, rfl, by
   rw [List.getElem?_append_left (by simp [x.len]), List.getElem?_append_right (by rw [x.len]; exact Nat.le_refl _), x.len, Nat.sub_self]; rfl⟩
 have A3 := A1.trans A2
 rw [List.append_assoc H, show ({ s with heap := s.heap.push emptyDict, toks := tk } : Shared).heap.objs.size = s.heap.objs.size + 1 from Heap.size_push ..] at A3
 exact ⟨A3, by rw [List.getElem?_append_right (by simp [x.len])]; simp [x.len]⟩
theorem sim_new (hX : XOk X) (hC : ClsOk X) (hO : OrcOk X C d rz) (hA : Ar A d envs rz) (x : St X envs μ H s) {c : Nat} {ca : Addr} {args : List MV} {vals : List Value} (hc : X.cls c = some ca) (rv : RVs X.T.strs μ s.heap args vals)
   (P : PostG X envs [] μ s (relV X) (mNew X.P C c args H) Q E) : wpAny X.M A (call (.ref ca) vals) Q E s := by
 refine PostG.iten P fun hne P => PostG.opt P fun f hf P => ?_
 obtain ⟨fa, h1, h2, h3⟩ := hC.inits c ca f hc hne hf
 have Xs := hX.K.keeps x.stays
 refine wpAny_call (make_core (makes_of Xs (hC.sets c ca hc hne).2.2) (looks_findIn Xs h2) (fun self => bind_fn Xs self h3) (.inl rfl) ?_)
 obtain ⟨A3, e⟩ := new_aft x (tk := s.toks) hc
 have hr : RV X.T.strs ((μ ++ [s.heap.objs.size]) ++ [s.heap.objs.size + 1]) ((s.heap.push emptyDict).push (instObj ca s.heap.objs.size)) (.ref (H.length + 1)) (.ref (s.heap.objs.size + 1)) := rv_ref_ e
 have hz : (s.heap.push emptyDict).objs.size = s.heap.objs.size + 1 := Heap.size_push ..
 refine codeAny_mono (hO (A.under (.builtin "type.__call__" ⟨.ref ca :: vals, []⟩)) envs f fa (.ref (H.length + 1) :: args) (.ref (s.heap.objs.size + 1) :: vals) _ _ _ (fun v s' => v = .none ∧ Q (.ref (s.heap.objs.size + 1)) s') E h1
   ⟨hA.frames, Ar.dep hA.depth (tc_weight ca vals), Ar.uni hA.units (tc_units ⟨.ref ca :: vals, []⟩), hA.hand⟩ A3.st (RVs.cons hr (rv.mono A3.mext (A3.tu x NoTup.nil).t))
     (PostG.bind (PostG.step A3 P) fun a b μ₁ H₁ s₁ Z A' R P' => PostG.ite P' fun hn P' => by
       cases isNS hn
       exact ⟨rv_none R, PostG.ok P' (Aft.refl A'.st) (A'.rv A3.st NoTup.nil hr)⟩)) fun r s' z => ?_
 rcases r with e | (v | _ | _ | _) <;> first | exact z | exact z.elim
end
section
open PySem PySem.W PySem.Calls PyProof.Rows
variable {X : Cx} {C : Orc} {N : Nat} {rz : Bool} {d n : Nat} {sc : Scope} {vm : VM} {A : Around} {envs : List Env} {env : Env} {μ : List Addr} {H : MH} {s : Shared} {ρ : Loc} {Q E : Value → Shared → Prop}
set_option tactic.hygienic true in
theorem attributeBase_plain {o : Expr} {nm : Str} {w : Sem Value} (h : plainBase o = true) : attributeBase o nm env w = w := by
 cases o <;> try rfl
 rename_i f args kws pos
 cases f <;> try rfl
 cases args <;> try rfl
 cases kws <;> try rfl
 cases h
theorem eval_meth {o : Expr} {nm : Str} {apos pos : Pos} {args : List Expr} (hb : plainBase o = true) (hl : args.length ≤ 25) (hp : (apos.endLine == pos.line) = true) (ha : ((backTo pos (starEach args env)).all fun x => !x.1) = true) :
   eval (.Call (.Attribute o nm apos) args [] pos) env = (do
     let ov ← eval o env
     standAt apos.atName
     let (f, first) ← holding [ov] (getMethod ov nm (do return (← importBound o env).getD true))
     callWith pos f first (backTo pos (starEach args env)) []) := by
 rw [arm_eval_Call, attributeBase_plain hb]
 have hf : methodCallForm (args.length + ([] : List Keyword).length) (backTo pos (starEach args env)) (backToKw pos (keywordEach [] env)) = true := by
   unfold methodCallForm
   have : decide (args.length + ([] : List Keyword).length + (if (backToKw pos (keywordEach [] env)).isEmpty = true then 0 else 1) < 30) = true := decide_eq_true (by
     have : (if (backToKw pos (keywordEach [] env)).isEmpty = true then 0 else 1) = 0 := rfl
     rw [this]; exact Nat.lt_of_le_of_lt hl (nle rfl))
   rw [ha, this]; rfl
 have hm : ∀ ov, methodCall o nm apos pos env ov (args.length + ([] : List Keyword).length) (backTo pos (starEach args env)) (backToKw pos (keywordEach [] env)) = (do
     let (f, first) ← holding [ov] (getMethod ov nm (do return (← importBound o env).getD true))
     callWith pos f first (backTo pos (starEach args env)) []) := fun ov => by
   unfold methodCall
   rw [hf]
   unfold calleeOf methodCallPos
   rw [hp]; rfl
 exact congrArg (fun f => eval o env >>= f) (funext fun ov => congrArg (fun z => standAt apos.atName >>= fun Z => z) (hm ov))
theorem all_back {pos : Pos} {T : CT} {es : List Expr} {cs : List CE} (h : mapO (cE T n sc vm) es = some cs) : ((backTo pos (starEach es env)).all fun x => !x.1) = true := by
 have := List.any_eq_false.mp (any_back (env := env) (pos := pos) h)
 exact List.all_eq_true.mpr fun x hx => (congrArg Bool.not (Bool.eq_false_iff.mpr (this x hx)) : _)
theorem lm_facts : ∀ m : LM, Slot "list" (lmS m) (lmN m) ∧ typeOf (.builtin (lmN m)) = pure (.type "method_descriptor")
 | .append => ⟨PySem.F.slot_list_append, PySem.F.type_list_append⟩
 | .pop => ⟨PySem.F.slot_list_pop, PySem.F.type_list_pop⟩
 | .extend => ⟨PySem.F.slot_list_extend, PySem.F.type_list_extend⟩
 | .reverse => ⟨PySem.F.slot_list_reverse, PySem.F.type_list_reverse⟩
theorem meth_list (IH : SimE X C rz d n) (hA : Ar A d envs rz) (he : EnvOk env sc vm envs) {pos : Pos} {args : List Expr} {cs : List CE} {i : Nat} {l : List MV} {m : LM} {ad : Addr} (hl : cs.length ≤ 1) (has : mapO (cE X.T n sc vm) args = some cs) (x : St X envs μ H s) (L : LocR X env vm μ ρ s.heap)
   (ha : μ[i]? = some ad) (hl' : H[i]? = some (.list false l)) (P : PostG X envs [] μ s (relV X) ((mEs X.P C rz cs ρ H).bind fun vs H => (optR H (H[i]?.bind MObj.listW?)).bind fun l H => mLM H i l m vs) Q E) :
   wpAny X.M A (callWith pos (.builtin (lmN m)) [.ref ad] (backTo pos (starEach args env)) []) Q E s := by
 cases args with
 | nil =>
   cases has
   refine PostG.opt P fun l2 e P => sim_lm0 x hl' ha ?_
   rw [hl'] at e; cases e; exact P
 | cons e es =>
   refine consO has fun b bs h1 h2 ec => ?_
   subst ec
   cases es with
   | cons e' es => exact consO h2 fun b' bs' Z Z ec => absurd hl (by rw [ec]; exact Nat.not_succ_le_self 1 ∘ fun q => Nat.le_trans (Nat.le_add_left 2 _) q)
   | nil =>
     cases h2
     rw [starEach_cons h1]
     have P3 : PostG X envs [] μ s (relV X) ((mE X.P C rz b ρ H).bind fun v H => (optR H (H[i]?.bind MObj.listW?)).bind fun l H => mLM H i l m [v]) Q E := by
       revert P
       rw [qEs]
       cases mE X.P C rz b ρ H <;> exact fun P => P
     exact sim_lm1 (envs := envs) (i := i) (IH _ _ _ _ h1 _ _ _ _ _ _ _ _ _ hA he x L (PostG.bind P3 fun a v μ₂ H₂ s₂ e0 A'' R' P4 => PostG.opt P4 fun l2 hl2 P4 => lswS hl2 fun hl2 =>
       ⟨μ₂, H₂, l2, a, A''.st, hl2, A''.mext _ _ ha, R', P4⟩))
theorem sim_meth (hX : XOk X) (hC : ClsOk X) (hG : GOk X) (hO : OrcOk X C d rz) (IH : SimE X C rz d n) (hA : Ar A d envs rz) (he : EnvOk env sc vm envs) {o : Expr} {nm : Str} {apos pos : Pos} {args : List Expr} {co : CE} {cs : List CE} {k : Nat}
   (hb : plainBase o = true) (hl : args.length ≤ 25) (hp : (apos.endLine == pos.line) = true) (ho : cE X.T n sc vm o = some co) (hs : X.T.strs[k]? = some nm) (has : mapO (cE X.T n sc vm) args = some cs)
   (x : St X envs μ H s) (L : LocR X env vm μ ρ s.heap) (P : PostG X envs [] μ s (relV X) (mE X.P C rz (.callM co k cs) ρ H) Q E) : wpAny X.M A (eval (.Call (.Attribute o nm apos) args [] pos) env) Q E s := by
 refine MethodCall_ (IH _ _ _ _ ho _ _ _ _ _ _ _ _ _ hA he x L (PostG.bind P fun a u μ₁ H₁ s₁ e0 A' R P' => PostG.opt P' fun mk hmk P2 => ?_)) (eval_meth hb hl hp (all_back has))
 have x₁ := A'.st
 have L₁ := L.aft x A'
 cases a with
 | ref i =>
   obtain ⟨ad, ha, rfl⟩ := rv_ref R
   refine bindS hmk fun o ho hmk => ?_
   cases o with
   | list fz l => cases fz with
     | true => exact nn hmk
     | false =>
       refine iteS hmk fun hle hmk => mapS hmk fun m hm em => ?_
       subst em
       obtain ⟨sl, ty⟩ := lm_facts m
       cases hs.symm.trans (hG.lms _ _ hm)
       obtain ⟨items, nn, il, r, z⟩ := x₁.listA ha ho
       exact getMethod_builtin ⟨_, il, rfl⟩ PySem.F.plainAttrs_list sl ty (fun a e => by cases e; exact ⟨_, il, rfl⟩) (meth_list IH hA he hle has x₁ L₁ ha ho P2)
   | inst c dI =>
     refine bindS hmk fun es hes hmk => iteS hmk fun hc2 hmk => mapS hmk fun f hf em => ?_
     subst em
     obtain ⟨_, ox, ca, da, kvs, ds, nn, ha', hc, I, hd, hm, ho', hK, hP, hN, r⟩ := dcwS hes fun hes => x₁.instD ho hes
     cases ha.symm.trans ha'
     obtain ⟨fa, hfa, hfi, hfn⟩ := (hC.names c ca _ nm hc hs).2 f hf
     have b := plainGet_of (hC.base c ca hc hc2.1 nm)
     have g : Hit X.T.strs μ₁ s₁.heap (dGet (.str k) es) (valueAt kvs nm) := rss_get hX.sOk.nodup hs r
     rw [hc2.2] at g
     refine method_fn (hX.K.keeps x₁.stays) I b.1 b.2 hfi (beq_iff_eq.mp hfn) (by show (lookIn nm (dictOf ds nn)).map _ = _; rw [look_dictOf hK hP, g.none']; rfl) ?_
     exact sim_callK hX IH hA he has (hG.meths _ _ hfa) x₁ L₁ (PostG.bind P2 fun vs us μ₂ H₂ s₂ e0 A'' R' P4 => fun Z =>
       wpAny_callO (hO A envs f fa _ _ _ _ _ Q E hfa hA.c A''.st (RVs.cons (rv_ref_ (A''.mext _ _ ha)) R') P4))
   | _ => exact nn hmk
 | _ => exact nn hmk
end
section
open PySem PySem.W PySem.Calls PyProof.Rows
variable {X : Cx} {C : Orc} {N : Nat} {rz : Bool} {d n : Nat} {sc : Scope} {vm : VM} {A : Around} {envs : List Env} {env : Env} {μ : List Addr} {H : MH} {s : Shared} {ρ : Loc} {Q E : Value → Shared → Prop}
theorem new_nofl (x : St X envs μ H s) {a : Addr} (h : s.heap.get? a = none) : a ∉ fls envs := fun m => by
 obtain ⟨env', he, hf⟩ := List.mem_filterMap.mp m
 obtain ⟨_, L', o', es, ep, b1, _, b3, b4⟩ := x.frs env' he
 cases b1.symm.trans hf
 exact nn (h.symm.trans b3)
theorem new_nomu (x : St X envs μ H s) {a : Addr} (h : s.heap.get? a = none) : a ∉ μ := fun m => by
 obtain ⟨o, e⟩ := x.in_dom m
 exact nn (h.symm.trans e)
noncomputable def pairUp : List Value → List (Value × Value)
 | k :: v :: r => (k, v) :: pairUp r
 | _ => []
theorem isS_str {m : MV} (h : isS m = true) : ∃ j, m = .str j := by
 cases m with
 | str j => exact ⟨j, rfl⟩
 | _ => exact nb h
theorem mkPairs_rel {prog : Program} {w : World} {S : List Str} (hS : S.Nodup) {h : Heap} : ∀ {ms : List MV} {vs : List Value} {ps : List (MV × MV)}, RVs S μ h ms vs → mkPairs ms = some ps → (ps.all fun e => isS e.1) = true →
   ∃ kvs, Carries (PySem.strKind prog w) (pairUp vs) kvs ∧ ∀ es acc, RSs S μ h es acc → (acc.map (·.1)).Nodup → RSs S μ h (ps.foldl (fun ds kv => dSet kv.1 kv.2 ds) es) (merged acc kvs)
 | [], _, _, r, e, _ => by cases e; cases rvs_nil r; exact ⟨[], trivial, fun es acc r Z => r⟩
 | [_], _, _, _, e, _ => nn e
 | k :: v :: ms, vs, ps, r, e, ha => by
   refine mapS e fun ps' e' e => ?_
   subst e
   obtain ⟨uk, r1, rfl, rk, r⟩ := rvs_cons r
   obtain ⟨uv, r2, rfl, rv, rr⟩ := rvs_cons r
   refine andT ha fun ha1 ha2 => ?_
   obtain ⟨kvs, hc, hm⟩ := mkPairs_rel (prog := prog) (w := w) hS rr e' ha2
   obtain ⟨j, rfl⟩ := isS_str ha1
   obtain ⟨y, t, ey, rfl⟩ := rv_str rk
   refine ⟨(y, uv) :: kvs, ⟨beq_self_eq_true y, rfl, hc⟩, fun es acc r hn => ?_⟩
   show RSs S μ h (ps'.foldl _ (dSet (.str j) v es)) (merged (stored acc y uv) kvs)
   rw [stored_eq y uv hn]
   exact hm _ _ (rss_set hS ey rv r) (storedL_nodup hn)
theorem foldl_len (ps : List (MV × MV)) : ∀ es : List (MV × MV), (ps.foldl (fun ds kv => dSet kv.1 kv.2 ds) es).length ≤ es.length + ps.length := by
 induction ps with
 | nil => intro es; exact Nat.le_refl _
 | cons p ps ih =>
   intro es
   refine Nat.le_trans (ih (dSet p.1 p.2 es)) (Nat.le_trans (Nat.add_le_add_right (dSet_len p.1 p.2 es) _) ?_)
   rw [Nat.add_assoc, Nat.add_comm 1]; exact Nat.le_refl _
theorem interS {α : Type} {ks : List (Option α)} {vs kvs : List α} {G : Prop} (h : interleave ks vs = some kvs) (k0 : ks = [] → vs = [] → kvs = [] → G) (k1 : ∀ k ks' v vs' kvs', ks = some k :: ks' → vs = v :: vs' → kvs = k :: v :: kvs' → interleave ks' vs' = some kvs' → G) : G := by
 cases ks with
 | nil => cases vs with
   | nil => cases h; exact k0 rfl rfl rfl
   | cons => exact nn h
 | cons k ks => cases k with
   | none => exact nn h
   | some k => cases vs with
     | nil => exact nn h
     | cons v vs => exact mapS h fun kvs' h' e => k1 _ _ _ _ _ rfl rfl e.symm h'
theorem sim_pairs (IH : SimE X C rz d n) (hA : Ar A d envs rz) (he : EnvOk env sc vm envs) {pos : Pos} {ks : List (Option Expr)} : ∀ {vs : List Expr} {kvs : List Expr} {cs : List CE} {μ : List Addr} {H : MH} {s : Shared} {Q : List (Value × Value) → Shared → Prop}, interleave ks vs = some kvs → mapO (cE X.T n sc vm) kvs = some cs →
   St X envs μ H s → LocR X env vm μ ρ s.heap → PostG X envs [] μ s (relVs X) (mEs X.P C rz cs ρ H) (fun us s' => Q (pairUp us) s') E → wpAny X.M A (evalPairs (pairTrees ks vs env pos)) Q E s := by
 induction ks with
 | nil =>
   intro vs kvs cs μ H s Q hi h x L P
   refine interS hi (fun Z e1 e2 => ?_) fun Z Z Z Z Z e => nomatch e
   subst e1 e2
   cases h
   exact pairTrees_nil_walk (P _ _ _ (Aft.refl x) RVs.nil)
 | cons k ks ih =>
   intro vs kvs cs μ H s Q hi h x L P
   refine interS hi (fun e => nomatch e) fun k' ks' v vs' kvs' e1 e2 e3 hi' => ?_
   cases e1
   subst e2 e3
   refine consO h fun ck cs1 h1 h2 ec => consO h2 fun cv cs2 h3 h4 ec2 => ?_
   subst ec2
   subst ec
   exact pairTrees_cons_walk (IH _ _ _ _ h1 _ _ _ _ _ _ _ _ _ hA he x L (PostG.bind P fun a u μ₁ H₁ s₁ e0 A1 R1 P2 =>
     IH _ _ _ _ h3 _ _ _ _ _ _ _ _ _ hA he A1.st (L.aft x A1) (PostG.bind (PostG.assoc P2) fun b u' μ₂ H₂ s₂ e0 A2 R2 P3 =>
       ih hi' h4 A2.st ((L.aft x A1).aft A1.st A2) (PostG.bind (PostG.assoc P3) fun r us μ₃ H₃ s₃ e0 A3 R3 P4 =>
         PostG.ok (Q := fun us s' => Q (pairUp us) s') (rel := relVs X) P4 (Aft.refl A3.st) (RVs.cons (A3.rv A2.st NoTup.nil (A2.rv A1.st NoTup.nil R1)) (RVs.cons (A3.rv A2.st NoTup.nil R2) R3))))))
theorem inter_facts {α : Type} {ks : List (Option α)} : ∀ {vs kvs : List α}, interleave ks vs = some kvs → ks.all (·.isSome) = true ∧ ks.length = vs.length := by
 induction ks with
 | nil => intro vs kvs h; exact interS h (fun Z e Z => by subst e; exact ⟨rfl, rfl⟩) fun Z Z Z Z Z e => nomatch e
 | cons k ks ih =>
   intro vs kvs h
   refine interS h (fun e => nomatch e) fun k' ks' v vs' kvs' e1 e2 e3 h' => ?_
   cases e1
   subst e2
   exact ⟨(ih h').1, congrArg (· + 1) (ih h').2⟩
theorem sim_dict (hX : XOk X) (IH : SimE X C rz d n) (hA : Ar A d envs rz) (he : EnvOk env sc vm envs) {pos : Pos} {ks : List (Option Expr)} {vs : List Expr} {kvs : List Expr} {cs : List CE} (hl : ks.length ≤ 15) (hi : interleave ks vs = some kvs) (h : mapO (cE X.T n sc vm) kvs = some cs)
   (x : St X envs μ H s) (L : LocR X env vm μ ρ s.heap) (P : PostG X envs [] μ s (relV X) (mE X.P C rz (.dict cs) ρ H) Q E) : wpAny X.M A (eval (.Dict ks vs pos) env) Q E s := by
 obtain ⟨f1, f2⟩ := inter_facts hi
 cases ks with
 | nil =>
   refine interS hi (fun Z e1 e2 => ?_) fun Z Z Z Z Z e => nomatch e
   subst e1 e2
   cases h
   exact wpAny_Dict_empty (P _ _ _ (Aft.alloc x (o := { cls := .type "dict", data := .dict #[] }) (t := s.toks) (mo := .dict false []) rfl ⟨Nat.zero_le _, [], Heap.DictOf.new _, rfl⟩)
     (rv_ref_ (by rw [← x.len, List.getElem?_append_right (Nat.le_refl _), Nat.sub_self]; rfl)))
 | cons k ks =>
   have hD : s.heap.get? s.heap.objs.size = none := no_size _
   have A1 := Aft.push x (o := { cls := .type "dict", data := .dict #[] }) (t := s.toks)
   have L0 : Loose X envs μ (s.heap.push { cls := .type "dict", data := .dict #[] }) [s.heap.objs.size] := fun a m => by
     rw [List.mem_singleton.mp m]
     exact ⟨new_nomu x hD, new_nofl x hD, x.base_lt, _, Heap.get?_push_size _ rfl, notTupO rfl (by decide)⟩
   refine wpAny_Dict_walk (knd := PySem.strKind X.prog X.w) f1 f2 (fun z => nomatch z) hl (sim_pairs IH hA he hi h A1.st (L.aft x A1) (PostG.bind (PostG.step A1 P) fun ms us μ₁ H₁ s₁ e0 A2 R2 P2 =>
     PostG.opt P2 fun ds hds P2 => bindS hds fun ps hp hds => iteS hds fun hc hds => ?_))
   cases hds
   obtain ⟨kv, c1, c2⟩ := mkPairs_rel (prog := X.prog) (w := X.w) hX.sOk.nodup R2 hp hc.2
   obtain ⟨L1, k1⟩ := L0.aft A2 (fun a Z m => nomatch m)
   refine ⟨kv, c1, dictOf_keeps (Heap.DictOf.new _) (k1 _ (.head _)), fun h' hd' hs' => ?_⟩
   have A3 : Aft X envs [s.heap.objs.size] μ₁ s₁ μ₁ H₁ { s₁ with heap := h', toks := s₁.toks + (pairUp us).length } :=
     Aft.exSet A2.st L1 (fun b o e nb => (hs'.2 b (fun q => nb (q ▸ .head _))).trans e) (fun a m => by rw [List.mem_singleton.mp m]; obtain ⟨o, _, _, e, _⟩ := hd'; exact ⟨o, e⟩)
   have T3 := (A3.tu A2.st L1.notup).t
   have A4 := (A2.mono (ex' := [s.heap.objs.size]) (fun Z m => nomatch m)).trans A3
   have A5 := (((A1.mono (ex' := [s.heap.objs.size]) (fun Z m => nomatch m)).trans A4).fresh (ex' := []) (fun a m => .inr (by rw [List.mem_singleton.mp m]; exact hD))).adopt (D := s.heap.objs.size) (mo := .dict false (ps.foldl (fun ds kv => dSet kv.1 kv.2 ds) [])) hD (L1 _ (.head _)).1 (L1 _ (.head _)).2.1 x.base_lt
     ⟨Nat.le_trans (foldl_len ps []) (by rw [List.length_nil, Nat.zero_add]; exact Nat.le_trans hc.1 (by decide)), _, hd', (c2 [] [] rfl List.nodup_nil).mono (MExt.app _ _) T3⟩
   have P3 : PostG X envs [] μ s (relV X) (alloc (.dict false (ps.foldl (fun ds kv => dSet kv.1 kv.2 ds) [])) H₁) Q E := by
     rw [qE_dict, e0] at P
     exact PostG.opt (f := fun ds H => alloc (.dict false ds) H) P fun ds e P => by
       cases (show mkDict ms = some _ by unfold mkDict; rw [hp]; exact if_pos hc).symm.trans e
       exact P
   exact P3 _ _ _ A5 (rv_ref_ (by rw [← A2.st.len, List.getElem?_append_right (Nat.le_refl _), Nat.sub_self]; rfl))
end
section
open PySem PySem.W PySem.Calls PyProof.Rows
variable {X : Cx} {C : Orc} {N : Nat} {rz : Bool} {d n : Nat} {sc : Scope} {vm : VM} {A : Around} {envs : List Env} {env : Env} {μ : List Addr} {H : MH} {s : Shared} {ρ : Loc} {Q E : Value → Shared → Prop}
theorem sim_callT (IH : SimE X C rz d n) (hA : Ar A d envs rz) (he : EnvOk env sc vm envs) {pos : Pos} {es : List Expr} {cs : List CE} {f : Value} (hf : ∀ a, f ≠ .ref a) (h : mapO (cE X.T n sc vm) es = some cs) (h0 : es ≠ [])
   (x : St X envs μ H s) (L : LocR X env vm μ ρ s.heap) (P : PostG X envs [] μ s (relVs X) (mEs X.P C rz cs ρ H) (fun vs s₁ => wpAny X.M A (call f vs) Q E s₁) E) :
   wpAny X.M A (callWith pos f [] (backTo pos (starEach es env)) []) Q E s := by
 refine callWith_of (P := fun Z => True) ((Bool.or_false _).trans (any_back h)) (fun h Z => ⟨.machine, .inr (.inl rfl), looks_mach hf⟩) ?_
 cases es with
 | nil => exact absurd rfl h0
 | cons e es =>
   have key := sim_args IH hA he (pos := pos) h x L (Q := fun vs s₁ => True ∧ wpAny X.M A (call f vs) Q E s₁) (E := E) (mem_of_post P fun u s' q => ⟨trivial, q⟩)
   refine consO h fun b bs h1 Z Z => ?_
   rw [starEach_cons h1] at key ⊢
   exact evalArgs_plain key
abbrev relIt (X : Cx) (envs : List Env) (h₀ : Heap) : List Addr → Heap → Src → Value → Prop := fun μ h sr v => ∃ I ex, v = .ref I ∧ ItAt X μ h I ex sr 0 ∧ Loose X envs μ h ex ∧ ∀ a ∈ ex, h₀.get? a = none
theorem small_dn {a : Int} (h0 : -1 ≤ a) (h1 : a ≤ 16777216) : Builtin.Range.small a (-1) (-1) = true ∧ Builtin.Range.rangeSize a (-1) (-1) = ((a - -1).toNat : Int) := by
 have e3 : ((a - -1).toNat : Int) = a - -1 := Int.toNat_of_nonneg (Int.sub_nonneg_of_le h0)
 have e : Builtin.Range.rangeSize a (-1) (-1) = ((a - -1).toNat : Int) := by
   unfold Builtin.Range.rangeSize
   simp only [show ¬ ((-1 : Int) > 0) by decide, if_false, show (- (-1) : Int) = 1 by decide, Int.ediv_one]
   by_cases h : a > -1
   · rw [if_pos h, e3]; exact Int.sub_add_cancel _ _
   · rw [if_neg h, Int.le_antisymm (Int.not_lt.mp h) h0]; rfl
 refine ⟨?_, e⟩
 unfold Builtin.Range.small
 rw [e]
 simp only [Builtin.Range.rangeFitsLong, Bool.and_eq_true, Bool.or_eq_true, decide_eq_true_eq, beq_iff_eq, show ¬ ((-1 : Int) > 0) by decide, if_false]
 exact ⟨⟨⟨⟨⟨Int.le_trans (by decide) h0, Int.lt_of_le_of_lt h1 (by decide)⟩, by decide⟩, by decide⟩, Int.le_trans (by decide) (Int.natCast_nonneg _), by rw [e3]; exact Int.lt_of_le_of_lt (Int.sub_le_sub_right h1 _) (by decide)⟩, .inr (by decide)⟩
theorem iter_new (x : St X envs μ H s) {o : Obj} {T : String} (_hf : o.isFreed = false) (hc : o.cls = .type T) (hT : T ≠ "tuple") : Aft X envs [] μ s μ H { s with heap := s.heap.push o } ∧ Loose X envs μ (s.heap.push o) [s.heap.objs.size] ∧ s.heap.get? s.heap.objs.size = none := by
 have hD : s.heap.get? s.heap.objs.size = none := no_size _
 refine ⟨Aft.push x (t := s.toks), fun a m => ?_, hD⟩
 rw [List.mem_singleton.mp m]
 exact ⟨new_nomu x hD, new_nofl x hD, x.base_lt, o, Heap.get?_push_size _ _hf, notTupO hc hT⟩
theorem sim_range (x : St X envs μ H s) {a b c : Int} {t u v : Tok} {l : List MV} {m : Nat} {r : Addr} {h₀ : Heap} (hr : IsRange s.heap r a b c t u v) (hs : Builtin.Range.small a b c = true)
   (hm : Builtin.Range.rangeSize a b c = (m : Int)) (hl : ∀ i : Nat, l[i]? = if i < m then some (.int (a + c * i)) else none) (h0 : ∀ a, s.heap.get? a = none → h₀.get? a = none)
   (P : PostG X envs [] μ s (relIt X envs h₀) (.ok (.seq l) H) Q E) : wpAny X.M A (pyIter (.ref r)) Q E s := by
 obtain ⟨A1, L1, hD⟩ := iter_new x (o := { cls := .type "range_iterator", data := .fields #[rawInt a, rawInt (Builtin.Range.rangeSize a b c), rawInt c] }) rfl rfl (by decide)
 refine wpAny_pyIter_range hr hs (P _ _ _ A1 ⟨_, _, rfl, .rng hl ?_, L1, fun a m => by rw [List.mem_singleton.mp m]; exact h0 _ hD⟩)
 have g := Heap.get?_push_size s.heap (o := { cls := .type "range_iterator", data := .fields #[rawInt a, rawInt (Builtin.Range.rangeSize a b c), rawInt c] }) rfl
 show _ = _
 rw [Int.natCast_zero, Int.mul_zero, Int.add_zero, Int.sub_zero, ← hm]
 exact g
theorem up_at {a b : Int} (i : Nat) : (rangeL a b)[i]? = if i < (b - a).toNat then some (.int (a + 1 * i)) else none := by rw [Int.one_mul]; exact range_at
theorem dn_at {a b : Int} (i : Nat) : (rangeD a b)[i]? = if i < (a - b).toNat then some (.int (a + -1 * i)) else none := by rw [Int.neg_one_mul, ← Int.sub_eq_add_neg]; exact range_at
theorem callName_eq {e : Expr} {x : Str × Pos × List Expr × Pos} (h : callName e = some x) : e = .Call (.Name x.1 x.2.1) x.2.2.1 [] x.2.2.2 := by
 cases e with
 | Call f args kw q => cases f with
   | Name f p => cases kw with
     | nil => cases h; rfl
     | cons => exact nn h
   | _ => exact nn h
 | _ => exact nn h
theorem srcOf_cases (sc : Scope) (iter : Expr) : (∃ f p args q, iter = .Call (.Name f p) args [] q ∧ isGlob sc f = true ∧ ((f = ("range" : Str) ∧ srcOf sc iter = (.range, args)) ∨ (f = ("enumerate" : Str) ∧ srcOf sc iter = (.enum, args)))) ∨ srcOf sc iter = (.val, [iter]) := by
 unfold srcOf
 cases h : (callName iter).bind fun x => if isGlob sc x.1 && x.1 == "range" then some (IK.range, x.2.2.1) else if isGlob sc x.1 && x.1 == "enumerate" then some (IK.enum, x.2.2.1) else none with
 | none => exact .inr rfl
 | some k =>
   refine .inl (bindS h fun x e h => ⟨x.1, x.2.1, x.2.2.1, x.2.2.2, callName_eq e, ?_⟩)
   by_cases h1 : (isGlob sc x.1 && x.1 == "range") = true
   · rw [if_pos h1] at h; cases h; exact andT h1 fun h1 h2 => ⟨h1, .inl ⟨beq_iff_eq.mp h2, rfl⟩⟩
   · rw [if_neg h1] at h; exact iteS h fun h1 h => by cases h; exact andT h1 fun h1 h2 => ⟨h1, .inr ⟨beq_iff_eq.mp h2, rfl⟩⟩
noncomputable def mSrcR (k : IK) (vs : List MV) (H : MH) : R Src := optR H (mSrc H k vs)
theorem one_eval {e : Expr} {cs : List CE} (h : mapO (cE X.T n sc vm) [e] = some cs) : ∃ c, cs = [c] ∧ cE X.T n sc vm e = some c :=
 consO h fun b bs h1 h2 ec => by cases h2; exact ⟨b, ec, h1⟩
theorem mEs_one {c : CE} {β : Type} {rel : List Addr → Heap → β → Value → Prop} {f : MV → MH → R β} {g : List MV → MH → R β} (hg : ∀ v H, g [v] H = f v H) (P : PostG X envs [] μ s rel ((mEs X.P C rz [c] ρ H).bind g) Q E) :
   PostG X envs [] μ s rel ((mE X.P C rz c ρ H).bind f) Q E := by
 revert P
 show PostG X envs [] μ s rel (((mE X.P C rz c ρ H).bind fun v H => .ok [v] H).bind g) Q E → _
 cases mE X.P C rz c ρ H with
 | ok v H1 => show PostG X envs [] μ s rel (g [v] H1) Q E → PostG X envs [] μ s rel (f v H1) Q E; rw [hg]; exact fun P => P
 | bad => exact fun P => P
 | exc => exact fun P => P
theorem mSrc_range {vs : List MV} {sr : Src} (e : mSrc H .range vs = some sr) : (∃ n : Int, vs = [.int n] ∧ -16777216 ≤ n ∧ n ≤ 16777216 ∧ sr = .seq (rangeL 0 n)) ∨
   (∃ a b : Int, vs = [.int a, .int b] ∧ 0 ≤ a ∧ a ≤ 16777216 ∧ -16777216 ≤ b ∧ b ≤ 16777216 ∧ sr = .seq (rangeL a b)) ∨ (∃ a : Int, vs = [.int a, .int (-1), .int (-1)] ∧ -1 ≤ a ∧ a ≤ 16777216 ∧ sr = .seq (rangeD a (-1))) := by
 refine hide fun g k => ?_
 generalize hv : vs = vs' at e
 cases vs' with
 | nil => exact nn e
 | cons v1 vs' =>
 cases v1 <;> first | exact nn e | skip
 cases vs' with
 | nil => exact iteS e fun h e => k (.inl ⟨_, hv, h.1, h.2, (Option.some.inj e).symm⟩)
 | cons v2 vs' =>
 cases v2 <;> first | exact nn e | skip
 cases vs' with
 | nil => exact iteS e fun h e => k (.inr (.inl ⟨_, _, hv, h.1, h.2.1, h.2.2.1, h.2.2.2, (Option.some.inj e).symm⟩))
 | cons v3 vs' =>
 cases v3 <;> first | exact nn e | skip
 cases vs' with
 | cons => exact nn e
 | nil =>
   refine iteS e fun h e2 => k (.inr (.inr ?_))
   clear e
   obtain ⟨h1, h2, rfl, rfl⟩ := h
   exact ⟨_, hv, h1, h2, (Option.some.inj e2).symm⟩
theorem mSrc_enum {vs : List MV} {sr : Src} (e : mSrc H .enum vs = some sr) : ∃ i fz l, vs = [.ref i] ∧ H[i]? = some (.list fz l) ∧ sr = .enl i := by
 cases vs with
 | nil => exact nn e
 | cons v vs =>
 cases v <;> first | exact nn e | skip
 cases vs with
 | cons => exact nn e
 | nil =>
   exact mapS e fun l hl e => lstS hl fun fz hl => ⟨_, fz, l, rfl, hl, e.symm⟩
theorem mSrc_val {v : MV} {sr : Src} (e : mSrc H .val [v] = some sr) : (∃ l, v = .tup l ∧ sr = .seq l) ∨ ∃ i fz l, v = .ref i ∧ H[i]? = some (.list fz l) ∧ sr = .lst i := by
 cases v with
 | tup l => exact .inl ⟨l, rfl, (Option.some.inj e).symm⟩
 | ref i =>
   exact mapS e fun l hl e => lstS hl fun fz hl => .inr ⟨i, fz, l, rfl, hl, e.symm⟩
 | _ => exact nn e
theorem src_range (x : St X envs μ H s) {vs : List MV} {us : List Value} {sr : Src} {h₀ : Heap} (h0 : ∀ a, s.heap.get? a = none → h₀.get? a = none) (R1 : RVs X.T.strs μ s.heap vs us) (e : mSrc H .range vs = some sr)
   (P : PostG X envs [] μ s (relIt X envs h₀) (.ok sr H) Q E) : wpAny X.M A (call (.type "range") us) (fun xv s₁ => wpAny X.M A (pyIter xv) Q E s₁) E s := by
 have up : ∀ {a b : Int} {t u v : Tok} {tk : Nat}, 0 ≤ a → a ≤ 16777216 → -16777216 ≤ b → b ≤ 16777216 → sr = .seq (rangeL a b) → wpAny X.M A (pyIter (.ref s.heap.objs.size)) Q E { s with heap := s.heap.push { cls := .type "range", data := .fields #[.int a t, .int b u, .int 1 v] }, toks := tk } := fun {a b t u v tk} h1 h2 h3 h4 es => by
   subst es
   have A2 := Aft.push x (o := { cls := .type "range", data := .fields #[.int a t, .int b u, .int 1 v] }) (t := tk)
   exact sim_range A2.st (IsRange.new _ _ _ _ _ _ _) (small_one (Int.le_trans (by decide) h1) (Int.lt_of_le_of_lt h2 (by decide)) (Int.le_trans (by decide) h3) (Int.lt_of_le_of_lt h4 (by decide))) ((rangeSize_one a b).trans ar_rg) up_at (fun a e => h0 a (A2.dom e)) (PostG.step A2 P)
 rcases mSrc_range e with ⟨n', rfl, hn0, hn, rfl⟩ | ⟨a, b, rfl, h1, h2, h3, h4, rfl⟩ | ⟨a, rfl, h1, h2, rfl⟩
 · obtain ⟨u, r, rfl, ⟨t, rfl⟩, rfl⟩ := R1
   exact call_range_1 (up (by decide) (by decide) hn0 hn rfl)
 · obtain ⟨u, r, rfl, ⟨t, rfl⟩, u', r', rfl, ⟨t', rfl⟩, rfl⟩ := R1
   exact call_range_2 (up h1 h2 h3 h4 rfl)
 · obtain ⟨u, r, rfl, ⟨t, rfl⟩, u', r', rfl, ⟨t', rfl⟩, u2, r2, rfl, ⟨t2, rfl⟩, rfl⟩ := R1
   have A2 := Aft.push x (o := { cls := .type "range", data := .fields #[.int a t, .int (-1) t', .int (-1) t2] }) (t := s.toks)
   obtain ⟨q1, q2⟩ := small_dn h1 h2
   exact call_range_3 (by decide) (sim_range A2.st (IsRange.new _ _ _ _ _ _ _) q1 q2 dn_at (fun a e => h0 a (A2.dom e)) (PostG.step A2 P)) (.inl (PyProof.noPylong_small (by decide)))
theorem src_enum (x : St X envs μ H s) {vs : List MV} {us : List Value} {sr : Src} {h₀ : Heap} (h0 : ∀ a, s.heap.get? a = none → h₀.get? a = none) (R1 : RVs X.T.strs μ s.heap vs us) (e : mSrc H .enum vs = some sr)
   (P : PostG X envs [] μ s (relIt X envs h₀) (.ok sr H) Q E) : wpAny X.M A (call (.type "enumerate") us) (fun xv s₁ => wpAny X.M A (pyIter xv) Q E s₁) E s := by
 obtain ⟨i, fz, l, rfl, hi, rfl⟩ := mSrc_enum e
 obtain ⟨u, r, rfl, ⟨ad, ha, rfl⟩, rfl⟩ := R1
 obtain ⟨items, n', il, r, z⟩ := x.listA ha hi
 have hD := no_size s.heap
 have no : ∀ {h : Heap}, (∀ o, h.get? (s.heap.objs.size + 1) = some o → s.heap.get? (s.heap.objs.size + 1) = some o) → h.get? (s.heap.objs.size + 1) = none := fun {h} k => by
   cases q : h.get? (s.heap.objs.size + 1) with
   | none => rfl
   | some o => exact absurd (Heap.lt_size (k o q)) (Nat.not_lt.mpr (Nat.le_succ _))
 have hD' : s.heap.get? (s.heap.objs.size + 1) = none := no fun Z q => q
 have hb' : X.base.get? (s.heap.objs.size + 1) = none := no fun Z q => x.stays _ _ q
 refine call_enumerate_1 il fun h' he' hit' hz' hk' => wpAny_pyIter_enum he' (P _ _ _ (Aft.keepAll x (h' := h') (t := s.toks) (d := s.drawn) hk') ⟨_, _, rfl, .enl ha he' hit' (Nat.succ_ne_self _), fun a m => ?_, fun a m => ?_⟩)
 · cases m with
   | head => exact ⟨new_nomu x hD', new_nofl x hD', hb', _, he', notTupO rfl (by decide)⟩
   | tail _ m =>
     rw [List.mem_singleton.mp m]
     obtain ⟨o, e1, e2, _⟩ := hit'
     exact ⟨new_nomu x hD, new_nofl x hD, x.base_lt, o, e1, notTupO e2 (by decide)⟩
 · cases m with
   | head => exact h0 _ hD'
   | tail _ m => rw [List.mem_singleton.mp m]; exact h0 _ hD
theorem src_val (x : St X envs μ H s) {a : MV} {u : Value} {sr : Src} {h₀ : Heap} (h0 : ∀ a, s.heap.get? a = none → h₀.get? a = none) (R1 : RV X.T.strs μ s.heap a u) (e : mSrc H .val [a] = some sr)
   (P : PostG X envs [] μ s (relIt X envs h₀) (.ok sr H) Q E) : wpAny X.M A (pyIter u) Q E s := by
 rcases mSrc_val e with ⟨l, rfl, rfl⟩ | ⟨i, fz, l, rfl, hi, rfl⟩
 · obtain ⟨t, items, n', rfl, it, z, r⟩ := rv_tup R1
   obtain ⟨A2, L2, hD⟩ := iter_new x (o := { cls := .type "tuple_iterator", data := .fields #[.ref t, .int 0 0] }) rfl rfl (by decide)
   have T2 := (A2.tu x NoTup.nil).t
   exact wpAny_pyIter_tuple (isT_tup it) (P _ _ _ A2 ⟨_, _, rfl, .tup (T2 _ _ _ it) (r.mono (MExt.refl _) T2) ⟨_, Heap.get?_push_size _ rfl, rfl, rfl⟩, L2, fun a m => by rw [List.mem_singleton.mp m]; exact h0 _ hD⟩)
 · obtain ⟨ad, ha, rfl⟩ := rv_ref R1
   obtain ⟨items, n', il, r, z⟩ := x.listA ha hi
   obtain ⟨A2, L2, hD⟩ := iter_new x (o := { cls := .type "list_iterator", data := .fields #[.ref ad, .int 0 0] }) rfl rfl (by decide)
   exact wpAny_pyIter_list (isL_list il) (P _ _ _ A2 ⟨_, _, rfl, .lst ha ⟨_, Heap.get?_push_size _ rfl, rfl, rfl⟩, L2, fun a m => by rw [List.mem_singleton.mp m]; exact h0 _ hD⟩)
theorem sim_src (hX : XOk X) (hG : GOk X) (IH : SimE X C rz d n) (hA : Ar A d envs rz) (he : EnvOk env sc vm envs) {iter : Expr} {src : List CE} (h : mapO (cE X.T n sc vm) (srcOf sc iter).2 = some src)
   (x : St X envs μ H s) (L : LocR X env vm μ ρ s.heap) (P : PostG X envs [] μ s (relIt X envs s.heap) ((mEs X.P C rz src ρ H).bind (mSrcR (srcOf sc iter).1)) Q E) :
   wpAny X.M A (eval iter env) (fun xv s₁ => wpAny X.M A (pyIter xv) Q E s₁) E s := by
 rcases srcOf_cases sc iter with ⟨f, p, args, q, rfl, hg, hk⟩ | e
 · rw [arm_eval_Call_Name']
   have h0 : ∀ k, mSrc H k [] = none → srcOf sc (.Call (.Name f p) args [] q) = (k, args) → args ≠ [] := fun k hk' e h0 => by
     subst h0
     rw [e] at h P
     cases h
     exact PostG.opt0 (show PostG X envs [] μ s (relIt X envs s.heap) (optR H (mSrc H k [])) Q E from P) fun sr e Z => nn (hk'.symm.trans e)
   rcases hk with ⟨rfl, e⟩ | ⟨rfl, e⟩
   · have h0 := h0 _ rfl e
     rw [e] at h P
     exact wpAny_bind (ld_bi hX x he hg hG.range (sim_callT IH hA he (fun a e => nomatch e) h h0 x L (PostG.bind P fun vs us μ₁ H₁ s₁ e0 A1 R1 P1 => PostG.opt0 P1 fun sr e P2 => src_range A1.st (fun a e => A1.dom e) R1 e P2)))
   · have h0 := h0 _ rfl e
     rw [e] at h P
     exact wpAny_bind (ld_bi hX x he hg hG.enum (sim_callT IH hA he (fun a e => nomatch e) h h0 x L (PostG.bind P fun vs us μ₁ H₁ s₁ e0 A1 R1 P1 => PostG.opt0 P1 fun sr e P2 => src_enum A1.st (fun a e => A1.dom e) R1 e P2)))
 · rw [e] at h P
   obtain ⟨c, rfl, hc⟩ := one_eval h
   exact IH _ _ _ _ hc _ _ _ _ _ _ _ _ _ hA he x L (PostG.bind (mEs_one (f := fun v H => mSrcR .val [v] H) (fun v H => rfl) P) fun a u μ₁ H₁ s₁ e0 A1 R1 P2 => PostG.opt0 P2 fun sr e P2 => src_val A1.st (fun a e => A1.dom e) R1 e P2)
end
section
open PySem PySem.W PySem.Calls PyProof.Rows
variable {X : Cx} {C : Orc} {N : Nat} {rz : Bool} {d n : Nat} {sc : Scope} {vm : VM} {A : Around} {envs : List Env} {env : Env} {μ : List Addr} {H : MH} {s : Shared} {ρ : Loc} {Q E : Value → Shared → Prop}
noncomputable def ExOk (env : Env) (ns : List Str) (ex : List Addr) : Prop := (∀ a ∈ ex, a ∈ exL env) ∧ ((∀ n ∈ ns, env.kindOf n = some .local) → ∀ a ∈ ex, a = env.locals)
theorem cTgt1_name {e : Expr} {k : Nat} (h : cTgt1 sc vm e = some k) : ∃ n p, e = .Name n p ∧ isVar sc n = true ∧ vm.lookup n = some k := by
 cases e with
 | Name n p => exact iteS h fun hv h => ⟨n, p, rfl, hv, h⟩
 | _ => exact nn h
theorem updsS {ρ ρ' : Loc} {xs : List Nat} {vs : List MV} {G : Prop} (h : upds ρ xs vs = some ρ') (k0 : xs = [] → vs = [] → ρ = ρ' → G) (k1 : ∀ x xs' v vs', xs = x :: xs' → vs = v :: vs' → upds (upd ρ x v) xs' vs' = some ρ' → G) : G := by
 cases xs with
 | nil => cases vs with
   | nil => exact k0 rfl rfl (Option.some.inj h)
   | cons => exact nn h
 | cons x xs => cases vs with
   | nil => exact nn h
   | cons v vs => exact k1 _ _ _ _ rfl rfl h
theorem sim_upds (he : EnvOk env sc vm envs) {es : List Expr} : ∀ {xs : List Nat} {vs : List MV} {us : List Value} {ρ ρ' : Loc} {s : Shared} {Q : Unit → Shared → Prop}, mapO (cTgt1 sc vm) es = some xs → upds ρ xs vs = some ρ' → St X envs μ H s → LocR X env vm μ ρ s.heap →
   RVs X.T.strs μ s.heap vs us → (∀ s' ex, ExOk env (es.flatMap nmOf) ex → Aft X envs ex μ s μ H s' → LocR X env vm μ ρ' s'.heap → Q () s') → wpAny X.M A (assignInOrder ((assignEach es env).map (·.2)) us) Q E s := by
 induction es with
 | nil =>
   intro xs vs us ρ ρ' s Q h hu x L r P
   cases h
   refine updsS hu (fun Z e1 e2 => ?_) fun Z Z Z Z e => nomatch e
   subst e1 e2
   cases rvs_nil r
   exact wpAny_assignInOrder_none (P s [] ⟨fun Z m => (nomatch m), fun Z Z m => (nomatch m)⟩ (Aft.refl x) L)
 | cons e es ih =>
   intro xs vs us ρ ρ' s Q h hu x L r P
   refine consO h fun k ks h1 h2 ec => updsS hu (fun z => nomatch z.symm.trans ec) fun k' ks' v vs' e1 e2 hu' => ?_
   cases ec.symm.trans e1
   subst e2
   obtain ⟨nm, p, rfl, hv, hk⟩ := cTgt1_name h1
   obtain ⟨u, us', rfl, ru, rr⟩ := rvs_cons r
   refine wpAny_assignInOrder_more (t := fun v => assign (.Name nm p) env v) (wpAny_assign_Name (sim_store he x L hv hk ru fun s₁ a ma hl A1 L1 => ?_))
   have hn : NoTup s.heap [a] := fun b m => exL_notup L b (by rw [List.mem_singleton.mp m]; exact ma)
   refine ih h2 hu' A1.st L1 (rr.mono (MExt.refl _) (A1.tu x hn).t) fun s' ex ok A2 L2 => P s' (a :: ex) ⟨fun b m => ?_, fun hall b m => ?_⟩ ((A1.mono (fun b m => by rw [List.mem_singleton.mp m]; exact .head _)).trans (A2.mono fun b m => .tail _ m)) L2
   · cases m with
     | head => exact ma
     | tail _ m => exact ok.1 b m
   · cases m with
     | head => exact hl (hall nm (.head _))
     | tail _ m => exact ok.2 (fun n' m' => hall n' (.tail _ m')) b m
theorem each_len (es : List Expr) : (assignEach es env).length = es.length := by
 induction es with
 | nil => rfl
 | cons e es ih => cases e <;> exact congrArg (· + 1) ih
theorem mapO_len {α β : Type} {f : α → Option β} {as : List α} : ∀ {bs : List β}, mapO f as = some bs → bs.length = as.length := by
 induction as with
 | nil => intro bs h; cases h; rfl
 | cons a as ih => intro bs h; exact consO h fun b bs' h1 h2 e => by rw [e]; exact congrArg (· + 1) (ih h2)
theorem upds_len {xs : List Nat} : ∀ {vs : List MV} {ρ ρ' : Loc}, upds ρ xs vs = some ρ' → xs.length = vs.length := by
 induction xs with
 | nil => intro vs ρ ρ' h; exact updsS h (fun Z e Z => by rw [e]; rfl) fun Z Z Z Z e => nomatch e
 | cons x xs ih => intro vs ρ ρ' h; exact updsS h (fun e => nomatch e) fun x' xs' v vs' e1 e2 h' => by cases e1; rw [e2]; exact congrArg (· + 1) (ih h')
theorem each_nostar {es : List Expr} : ∀ {xs : List Nat}, mapO (cTgt1 sc vm) es = some xs → (assignEach es env).findIdx? (·.1) = none := by
 induction es with
 | nil => intro xs h; rfl
 | cons e es ih =>
   intro xs h
   refine consO h fun k ks h1 h2 Z => ?_
   obtain ⟨nm, p, rfl, hv, hk⟩ := cTgt1_name h1
   show ((false, assign (.Name nm p) env) :: assignEach es env).findIdx? (·.1) = none
   rw [List.findIdx?_cons, if_neg (fun z => nb z), ih h2]; rfl
theorem tgtS {e : Expr} {xs : List Nat × Bool} {G : Prop} (h : cTgt sc vm e = some xs) (k0 : ∀ nm p k, e = .Name nm p → isVar sc nm = true → vm.lookup nm = some k → xs = ([k], false) → G)
   (k1 : ∀ es c p ks, e = .Tuple es c p → mapO (cTgt1 sc vm) es = some ks → xs = (ks, true) → G) : G := by
 cases e with
 | Name nm p =>
   refine mapS h fun k hk e => ?_
   obtain ⟨nm', p', e1, hv, hk⟩ := cTgt1_name hk
   cases e1
   exact k0 nm p k rfl hv hk e.symm
 | Tuple es c p => exact mapS h fun ks hk e => k1 es c p ks rfl hk e.symm
 | _ => exact nn h
theorem tgt_form {e : Expr} {xs : List Nat × Bool} (h : cTgt sc vm e = some xs) : tgtOf xs.2 e :=
 tgtS h (fun nm p k e Z Z e2 => by subst e e2; trivial) fun es c p ks e Z e2 => by subst e e2; trivial
theorem sim_bind (hh : A.handled = none) (he : EnvOk env sc vm envs) {e : Expr} {xs : List Nat × Bool} {v : MV} {u : Value} {ρ' : Loc} {Q : Unit → Shared → Prop} (h : cTgt sc vm e = some xs) (hb : bindT ρ xs.1 xs.2 v = some ρ') (x : St X envs μ H s) (L : LocR X env vm μ ρ s.heap)
   (ru : RV X.T.strs μ s.heap v u) (P : ∀ s' ex, ExOk env (tgtNames e) ex → Aft X envs ex μ s μ H s' → LocR X env vm μ ρ' s'.heap → Q () s') : wpAny X.M A (assign e env u) Q E s := by
 refine tgtS h (fun nm p k e hv hk e2 => ?_) fun es c p ks e hk e2 => ?_
 · subst e e2
   cases hb
   exact wpAny_assign_Name (sim_store he x L hv hk ru fun s₁ a ma hl A1 L1 => P s₁ [a] ⟨fun b m => by rw [List.mem_singleton.mp m]; exact ma, fun hall b m => by rw [List.mem_singleton.mp m]; exact hl (hall nm (.head _))⟩ A1 L1)
 · subst e e2
   cases v with
   | tup l =>
     obtain ⟨t, items, n', rfl, it, z, r⟩ := rv_tup ru
     have ln : items.size = l.length := r.length
     refine wpAny_assign_Tuple hh (isT_tup it) (by rw [each_len, ← mapO_len hk, upds_len hb, ln]) (each_nostar hk) fun h' hx => ?_
     have A1 := Aft.keepAll x (h' := h') (t := s.toks) (d := s.drawn) (fun b o e => hx b o (Nat.ne_of_lt (Heap.lt_size e)) e)
     exact sim_upds he hk hb A1.st (L.aft x A1) (r.mono (MExt.refl _) (A1.tu x NoTup.nil).t) fun s' ex ok A2 L2 => P s' ex ok ((A1.mono fun Z m => nomatch m).trans A2) L2
   | _ => exact nn hb
end
section
open PySem PySem.W PySem.Calls PyProof.Rows
variable {X : Cx} {C : Orc} {N : Nat} {rz : Bool} {d n : Nat} {sc : Scope} {vm : VM} {A : Around} {envs : List Env} {env : Env} {μ : List Addr} {H : MH} {s : Shared} {ρ : Loc} {Q E : Value → Shared → Prop}
theorem sim_self {I : Addr} {ex : List Addr} {sr : Src} {j : Nat} (it : ItAt X μ s.heap I ex sr j) (q : Q (.ref I) s) : wpAny X.M A (pyIter (.ref I)) Q E s := by
 cases it with
 | tup i r a4 => exact wpAny_pyIter_tupleiter a4 q
 | rng hl a2 => exact wpAny_pyIter_rangeiter a2 q
 | lst e a2 => exact wpAny_pyIter_listiter a2 q
 | enl e a2 p ne => exact wpAny_pyIter_enum a2 q
section
variable {prog : Program} {w : World} {A : Around} {E : Value → Shared → Prop} {R : Result → Shared → Prop} {s : Shared}
theorem codeAny_compLoop_gen {elt target iter : Expr} {ifs : List Expr} {scope : Scope} {pos : Pos} {it acc : Value} {env : Env} (I : Nat → Shared → Prop)
   (turn : ∀ n s, I n s → wpAny (model prog w) A (pyNext it) (fun r s₁ => match r with
     | none => R (.ok .next) s₁
     | some v => wpAny (model prog w) A (letOwnedTupleGo target it v) (fun Z s₁' => wpAny (model prog w) A (assign target env v) (fun Z s₂ =>
         wpAny (model prog w) A (forIn ifs true fun c r => if r = true then do let ok ← isTrue c env (eval c env); pure (ForInStep.yield ok) else pure (ForInStep.yield r)) (fun ok s₃ =>
           if ok = true then wpAny (model prog w) A (eval elt env) (fun x s₄ =>
             wpAny (model prog w) A (call (.builtin "list.append") [acc, x]) (fun Z s₅ => ∃ m, m < n ∧ I m s₅) (notedBy (model prog w) A env fun e s' => R (.error e) s') s₄) (notedBy (model prog w) A env fun e s' => R (.error e) s') s₃
           else ∃ m, m < n ∧ I m s₃) (notedBy (model prog w) A env fun e s' => R (.error e) s') s₂) (notedBy (model prog w) A env fun e s' => R (.error e) s') s₁') (notedBy (model prog w) A env fun e s' => R (.error e) s') s₁) (notedBy (model prog w) A env fun e s' => R (.error e) s') s)
   (n : Nat) (h : I n s) : codeAny (model prog w) A (.compLoop (.ListComp elt [⟨target, iter, ifs, 0⟩] scope pos) 0 it acc env) R s := by
 refine codeAny_loop rfl I (fun n s hI => ?_) n h
 show wpAny _ A ((compTurn (.ListComp elt [⟨target, iter, ifs, 0⟩] scope pos) 0 it acc env).onRaise (fun x => do noteFrame x env; theTreesLotGoes x)) _ _ s
 refine wpAny_noted ?_
 rw [compTurn_list]
 refine wpAny_bind (wpAny_standAt (wpAny_bind (wpAny_mono (turn n s hI) (fun r s₁ h₁ => ?_) fun Z Z h' => h')))
 cases r with
 | none => exact wpAny_pure h₁
 | some v =>
   refine wpAny_bind (wpAny_mono h₁ (fun Z s₁' h₁' => ?_) fun Z Z h' => h')
   refine wpAny_bind (wpAny_mono h₁' (fun Z s₂ h₂ => wpAny_bind (wpAny_mono h₂ (fun ok s₃ h₃ => ?_) fun Z Z h' => h')) fun Z Z h' => h')
   cases ok with
   | false => exact wpAny_pure ⟨rfl, h₃⟩
   | true =>
     exact wpAny_bind (wpAny_bind (wpAny_mono h₃ (fun x s₄ h₄ => wpAny_bind (wpAny_mono h₄ (fun Z s₅ h₅ => wpAny_pure (wpAny_pure ⟨rfl, h₅⟩)) fun Z Z h' => h')) fun Z Z h' => h'))
end
theorem sim_tests (IH : SimT X C rz d n) (hA : Ar A d envs rz) (he : EnvOk env sc vm envs) (es : List Expr) : ∀ {cs : List CE} {μ : List Addr} {H : MH} {s : Shared} {Q : Bool → Shared → Prop}, mapO (cE X.T n sc vm) es = some cs →
   St X envs μ H s → LocR X env vm μ ρ s.heap → PostG X envs [] μ s relB (mBool X.P C rz true cs ρ H) Q E →
   wpAny X.M A (forIn es true fun c r => if r = true then do let ok ← isTrue c env (eval c env); pure (ForInStep.yield ok) else pure (ForInStep.yield r)) Q E s := by
 have no : ∀ (es : List Expr) {s : Shared} {Q : Bool → Shared → Prop}, Q false s → wpAny X.M A (forIn es false fun c r => if r = true then do let ok ← isTrue c env (eval c env); pure (ForInStep.yield ok) else pure (ForInStep.yield r)) Q E s := by
   intro es
   induction es with
   | nil => intro s Q q; exact wpAny_pure q
   | cons e es ih =>
     intro s Q q
     rw [List.forIn_cons]
     exact wpAny_bind (wpAny_pure (ih q))
 induction es with
 | nil =>
   intro cs μ H s Q h x L P
   cases h
   exact wpAny_pure (PostG.ok (v := true) P (Aft.refl x) rfl)
 | cons e es ih =>
   intro cs μ H s Q h x L P
   refine consO h fun b bs h1 h2 ec => ?_
   subst ec
   have P1 : PostG X envs [] μ s relB (((mE X.P C rz b ρ H).bind toB).bind fun t H => if t = true then mBool X.P C rz true bs ρ H else .ok t H) Q E := by
     have P : PostG X envs [] μ s relB ((mE X.P C rz b ρ H).bind fun v H => (toB v H).bind fun t H => if t = true then mBool X.P C rz true bs ρ H else .ok t H) Q E := P
     revert P
     cases mE X.P C rz b ρ H <;> exact fun P => P
   rw [List.forIn_cons, if_pos rfl]
   refine wpAny_bind (wpAny_bind (IH _ _ _ _ h1 _ _ _ _ _ _ _ _ _ hA he x L (PostG.bind P1 fun t u μ₁ H₁ s₁ e0 A' R P' => ?_)))
   cases R
   refine wpAny_pure ?_
   cases t with
   | true => exact ih h2 A'.st (L.aft x A') P'
   | false => exact no es (PostG.ok (v := false) P' (Aft.refl A'.st) rfl)
noncomputable def meas : Src → Nat → Nat → Nat
 | .seq l, j, _ => l.length - j
 | .lst _, _, n => n
 | .enl _, _, n => n
theorem LocR.less {μ : List Addr} {h : Heap} {ρ' : Loc} (L : LocR X env vm μ ρ h) (k : ∀ x v, ρ' x = some v → ρ x = some v) : LocR X env vm μ ρ' h := by
 refine ⟨L.nm, L.nb, ?_, fun n c hc => ?_⟩
 · obtain ⟨m, hn, r⟩ := L.loc
   exact ⟨m, hn, fun n x mv h1 h2 h3 => r n x mv h1 (k x mv h2) h3⟩
 · obtain ⟨v, hv, r⟩ := L.cell n c hc
   exact ⟨v, hv, fun h0 x mv h1 h2 h3 => r h0 x mv h1 (k x mv h2) h3⟩
theorem look_eq {α : Type} {y : Str} {v : α} {r : List (Str × α)} : List.lookup y ((y, v) :: r) = some v := by rw [List.lookup_cons, beq_self_eq_true]
theorem look_ne {α : Type} {y n : Str} {v : α} {r : List (Str × α)} (h : n ≠ y) : List.lookup n ((y, v) :: r) = r.lookup n := by
 rw [List.lookup_cons, beq_eq_false_iff_ne.mpr h]
end
section
open PySem PySem.W PySem.Calls PyProof.Rows
variable {X : Cx} {C : Orc} {N : Nat} {rz : Bool} {d n : Nat} {sc : Scope} {vm : VM} {A : Around} {envs : List Env} {env : Env} {μ : List Addr} {H : MH} {s : Shared} {ρ : Loc} {Q E : Value → Shared → Prop}
theorem bind_noexc {α β : Type} {r : Mine.Internal.R α} {f : α → MH → Mine.Internal.R β} (h : ∀ x H', r ≠ .exc x H') (h2 : ∀ a H x H', f a H ≠ .exc x H') : ∀ x H', r.bind f ≠ .exc x H' := by
 cases r with
 | ok v H1 => exact h2 v H1
 | bad => exact fun Z Z e => nomatch e
 | exc x H1 => exact absurd rfl (h x H1)
theorem compS_noexc {f : MV → MH → Mine.Internal.R (Option MV)} (hf : ∀ v H x H', f v H ≠ .exc x H') (l : List MV) : ∀ (H : MH) x H', compS f l H ≠ .exc x H' := by
 induction l with
 | nil => exact fun Z Z Z e => nomatch e
 | cons v l ih => exact fun H => bind_noexc (hf v H) fun a H => bind_noexc (ih H) fun Z Z Z Z e => nomatch e
theorem still_noexc {α : Type} (r : Mine.Internal.R α) : ∀ x H', r.still ≠ .exc x H' := by cases r <;> exact fun Z Z e => nomatch e
noncomputable def clFrom (cs : List (Str × Addr)) : List (Str × NameKind) → List (Str × Addr) → List (Str × Addr)
 | [], acc => acc
 | (n, k) :: r, acc => if k == .free then clFrom cs r ((n, (cs.lookup n).getD 0) :: acc) else clFrom cs r acc
theorem clFrom_cons {cs : List (Str × Addr)} {n : Str} {k : NameKind} {r : List (Str × NameKind)} {acc : List (Str × Addr)} : clFrom cs ((n, k) :: r) acc = if k == .free then clFrom cs r ((n, (cs.lookup n).getD 0) :: acc) else clFrom cs r acc := rfl
theorem closure_go (f : Str × NameKind → List (Str × Addr) → Sem (ForInStep (List (Str × Addr)))) (hf : ∀ n k cs, f (n, k) cs = if k == .free then (do let a ← cellOf env n; pure (.yield ((n, a) :: cs))) else pure (.yield cs)) (names : List (Str × NameKind)) :
   ∀ (acc : List (Str × Addr)), (∀ x ∈ names, x.2 = .free → ∃ c, env.cells.lookup x.1 = some c) → forIn names acc f = (pure (clFrom env.cells names acc) : Sem (List (Str × Addr))) := by
 induction names with
 | nil => intro acc _; rfl
 | cons p r ih =>
   intro acc h
   obtain ⟨n, k⟩ := p
   rw [List.forIn_cons, hf, clFrom_cons]
   have ih := fun acc => ih acc fun x m => h x (.tail _ m)
   by_cases hk : (k == .free) = true
   · obtain ⟨c, hc⟩ := h (n, k) (.head _) (beq_iff_eq.mp hk)
     rw [if_pos hk, if_pos hk]
     unfold cellOf
     rw [show env.cells.lookup n = some c from hc]
     exact ih _
   · rw [if_neg hk, if_neg hk]
     exact ih _
theorem closureFor_eq {scope : Scope} (h : ∀ x ∈ scope.names, x.2 = .free → ∃ c, env.cells.lookup x.1 = some c) : closureFor scope env = pure (clFrom env.cells scope.names []) := by
 simp only [closureFor]
 rw [closure_go _ (fun n k cs => by cases hk : k == NameKind.free <;> simp [hk]) scope.names [] h]
 rfl
theorem clFrom_mem (cs : List (Str × Addr)) (p : Str × Addr) (names : List (Str × NameKind)) : ∀ (acc : List (Str × Addr)), p ∈ clFrom cs names acc → p ∈ acc ∨ ((p.1, NameKind.free) ∈ names ∧ p.2 = (cs.lookup p.1).getD 0) := by
 induction names with
 | nil => exact fun Z h => .inl h
 | cons a r ih =>
   intro acc h
   obtain ⟨n, k⟩ := a
   rw [clFrom_cons] at h
   by_cases hk : (k == .free) = true
   · rw [if_pos hk] at h
     cases beq_iff_eq.mp hk
     rcases ih _ h with q | ⟨q1, q2⟩
     · cases q with
       | head => exact .inr ⟨.head _, rfl⟩
       | tail _ q => exact .inl q
     · exact .inr ⟨.tail _ q1, q2⟩
   · rw [if_neg hk] at h
     exact (ih _ h).imp id fun q => ⟨.tail _ q.1, q.2⟩
theorem clFrom_keep (cs : List (Str × Addr)) {n : Str} (names : List (Str × NameKind)) : ∀ (acc : List (Str × Addr)), (n, NameKind.free) ∉ names → (clFrom cs names acc).lookup n = acc.lookup n := by
 induction names with
 | nil => exact fun Z Z => rfl
 | cons a r ih =>
   intro acc h
   obtain ⟨m, k⟩ := a
   have hr : (n, NameKind.free) ∉ r := fun q => h (.tail _ q)
   rw [clFrom_cons]
   by_cases hk : (k == .free) = true
   · rw [if_pos hk, ih _ hr, look_ne (fun q => h (by cases beq_iff_eq.mp hk; rw [q]; exact .head _))]
   · rw [if_neg hk]; exact ih _ hr
theorem clFrom_look (cs : List (Str × Addr)) {n : Str} (names : List (Str × NameKind)) : ∀ (acc : List (Str × Addr)), (n, NameKind.free) ∈ names → (clFrom cs names acc).lookup n = some ((cs.lookup n).getD 0) := by
 induction names with
 | nil => exact fun Z h => nomatch h
 | cons a r ih =>
   intro acc h
   obtain ⟨m, k⟩ := a
   rw [clFrom_cons]
   by_cases hr : (n, NameKind.free) ∈ r
   · by_cases hk : (k == .free) = true
     · rw [if_pos hk]; exact ih _ hr
     · rw [if_neg hk]; exact ih _ hr
   · cases h with
     | head => rw [if_pos (by decide), clFrom_keep cs r _ hr, look_eq]
     | tail _ h => exact absurd h hr
theorem clFrom_apart (cs : List (Str × Addr)) (hc : cs.Pairwise fun x y => x.2 ≠ y.2) (names : List (Str × NameKind)) : ∀ (acc : List (Str × Addr)), (names.map (·.1)).Nodup → (∀ x ∈ names, x.2 = .free → ∃ c, cs.lookup x.1 = some c) →
   (∀ p ∈ acc, cs.lookup p.1 = some p.2 ∧ ∀ k, (p.1, k) ∉ names) → (acc.Pairwise fun x y => x.2 ≠ y.2) → (clFrom cs names acc).Pairwise fun x y => x.2 ≠ y.2 := by
 induction names with
 | nil => exact fun Z Z Z Z h => h
 | cons a r ih =>
   intro acc hn hf ha hp
   obtain ⟨m, k⟩ := a
   have hn := List.nodup_cons.mp hn
   have hf' : ∀ x ∈ r, x.2 = .free → ∃ c, cs.lookup x.1 = some c := fun x q => hf x (.tail _ q)
   have ha' : ∀ p ∈ acc, cs.lookup p.1 = some p.2 ∧ ∀ k, (p.1, k) ∉ r := fun p q => ⟨(ha p q).1, fun k z => (ha p q).2 k (.tail _ z)⟩
   rw [clFrom_cons]
   by_cases hk : (k == .free) = true
   · rw [if_pos hk]
     cases beq_iff_eq.mp hk
     obtain ⟨c, e⟩ := hf _ (.head _) rfl
     have e : cs.lookup m = some c := e
     rw [e]
     refine ih _ hn.2 hf' (fun p q => ?_) (List.pairwise_cons.mpr ⟨fun p q z => ?_, hp⟩)
     · cases q with
       | head => exact ⟨e, fun k q => hn.1 (List.mem_map.mpr ⟨_, q, rfl⟩)⟩
       | tail _ q => exact ha' p q
     · have z : c = p.2 := z
       exact (ha p q).2 .free (name_of_addr hc (mem_of_lookup' e) (z.symm ▸ mem_of_lookup' (ha p q).1) ▸ .head _)
   · rw [if_neg hk]
     exact ih _ hn.2 hf' ha' hp
end
section
open PySem PySem.W PySem.Calls PyProof.Rows
variable {X : Cx} {C : Orc} {N : Nat} {rz : Bool} {d n : Nat} {sc : Scope} {vm : VM} {A : Around} {envs : List Env} {env : Env} {μ : List Addr} {H : MH} {s : Shared} {ρ : Loc} {Q E : Value → Shared → Prop}
structure CompOk (sc : Scope) (vm : VM) (sc' : Scope) (vm' : VM) (tgt : Expr) : Prop where
 kind : sc'.kind = .function
 tgt : ∀ x ∈ tgtNames tgt, sc'.names.lookup x = some .local
 nocell : ∀ x ∈ sc'.names, x.2 ≠ .cell
 look : ∀ x ∈ sc'.names, sc'.names.lookup x.1 = some x.2
 free : ∀ x ∈ sc'.names, x.2 = .free → sc.names.lookup x.1 = some .cell ∨ sc.names.lookup x.1 = some .free
 vms : ∀ p ∈ vm', (sc'.names.lookup p.1 = some .local ∧ 1000 ≤ p.2) ∨ (sc'.names.lookup p.1 = some .free ∧ vm.lookup p.1 = some p.2 ∧ p.2 < 1000)
 nodup : (sc'.names.map (·.1)).Nodup
 apart : vm'.Pairwise fun x y => x.2 ≠ y.2
theorem orT {a b : Bool} (h : (a || b) = true) : a = true ∨ b = true := Bool.or_eq_true_iff.mp h
theorem andP {a b : Bool} (h : (a && b) = true) : a = true ∧ b = true := Bool.and_eq_true_iff.mp h
theorem CompOk.of {sc sc' : Scope} {vm vm' : VM} {tgt : Expr} (h : ¬ compChk sc vm sc' vm' tgt = false) : CompOk sc vm sc' vm' tgt := by
 obtain ⟨h1, h⟩ := andP (Bool.of_not_eq_false h)
 obtain ⟨h2, h⟩ := andP h
 obtain ⟨h3, h⟩ := andP h
 obtain ⟨h4, h⟩ := andP h
 obtain ⟨h5, h6⟩ := andP h
 have h3 := List.all_eq_true.mp h3
 refine ⟨of_decide_eq_true h1, fun x m => beq_iff_eq.mp (List.all_eq_true.mp h2 x m), fun x m => bne_iff_ne.mp (andP (h3 x m)).1, fun x m => beq_iff_eq.mp (andP (andP (h3 x m)).2).1, fun x m e => ?_, fun p m => ?_, of_decide_eq_true h5, of_decide_eq_true h6⟩
 · refine (orT (andP (andP (h3 x m)).2).2).elim (fun q => absurd e (bne_iff_ne.mp q)) fun q => (orT q).imp beq_iff_eq.mp beq_iff_eq.mp
 · refine (orT (List.all_eq_true.mp h4 p m)).imp (fun q => ?_) fun q => ?_
   · exact ⟨beq_iff_eq.mp (andP q).1, of_decide_eq_true (andP q).2⟩
   · exact ⟨beq_iff_eq.mp (andP q).1, beq_iff_eq.mp (andP (andP q).2).1, of_decide_eq_true (andP (andP q).2).2⟩
theorem relabel_look {env : Env} (hk : env.scope.kind = .function) (x : Str) {names : List (Str × NameKind)} :
   (names.map fun (n, k) => if (k == NameKind.free && env.scope.kind == .function && env.kindOf n == some .cell) then (n, NameKind.cell) else (n, k)).lookup x =
   (names.lookup x).map fun k => if k = .free ∧ env.kindOf x = some .cell then .cell else k := by
 induction names with
 | nil => rfl
 | cons p r ih =>
   obtain ⟨n, k⟩ := p
   rw [List.map_cons]
   dsimp only
   have iff : (k == NameKind.free && env.scope.kind == .function && env.kindOf n == some .cell) = true ↔ (k = .free ∧ env.kindOf n = some .cell) := by
     rw [hk, Bool.and_eq_true, Bool.and_eq_true, beq_iff_eq]
     exact ⟨fun q => ⟨q.1.1, beq_iff_eq.mp q.2⟩, fun q => ⟨⟨q.1, rfl⟩, beq_iff_eq.mpr q.2⟩⟩
   by_cases q : x = n
   · subst q
     rw [look_eq, Option.map_some]
     by_cases c : k = .free ∧ env.kindOf x = some .cell
     · rw [if_pos (iff.mpr c), if_pos c, look_eq]
     · rw [if_neg (fun z => c (iff.mp z)), if_neg c, look_eq]
   · rw [look_ne q]
     by_cases c : (k == NameKind.free && env.scope.kind == .function && env.kindOf n == some .cell) = true
     · rw [if_pos c, look_ne q]; exact ih
     · rw [if_neg c, look_ne q]; exact ih
theorem relabel_kind {env : Env} (hk : env.scope.kind = .function) {scope : Scope} {cl : List (Str × Addr)} {Ca : Addr} (x : Str) : (compEnvC scope cl Ca env).kindOf x = (scope.names.lookup x).map fun k => if k = .free ∧ env.kindOf x = some .cell then .cell else k :=
 relabel_look hk x
theorem free_cell (he : EnvOk env sc vm envs) {sc' : Scope} {vm' : VM} {tgt : Expr} (ok : CompOk sc vm sc' vm' tgt) : ∀ x ∈ sc'.names, x.2 = .free → env.kindOf x.1 = some .cell ∧ ∃ c, env.cells.lookup x.1 = some c := fun x m e => he.cellv _ (ok.free x m e)
theorem cenv_ok (he : EnvOk env sc vm envs) {sc' : Scope} {vm' : VM} {tgt : Expr} (ok : CompOk sc vm sc' vm' tgt) {Ca : Addr} : EnvOk (compEnvC sc' (clFrom env.cells sc'.names []) Ca env) sc' vm' envs where
 kind := ok.kind
 locv := fun nm h => by rw [relabel_kind he.kind, h]; rfl
 cellv := fun nm h => by
   rcases h with h | h
   · exact absurd rfl (ok.nocell _ (mem_of_lookup' h))
   · have m := mem_of_lookup' h
     obtain ⟨a, b⟩ := free_cell he ok _ m rfl
     refine ⟨?_, _, clFrom_look _ _ _ m⟩
     rw [relabel_kind he.kind, h]
     exact congrArg some (if_pos ⟨rfl, a⟩)
 globs := fun nm h => by
   rw [relabel_kind he.kind, beq_iff_eq.mp (andP h).2]; rfl
 globals := he.globals
 builtins := he.builtins
 apart := clFrom_apart _ he.apart _ _ ok.nodup (fun x m e => (free_cell he ok x m e).2) (fun Z m => nomatch m) .nil
 inj := fun a b x h1 h2 => name_of_addr ok.apart (mem_of_lookup' h1) (mem_of_lookup' h2)
 head := he.head
theorem cl_sub (he : EnvOk env sc vm envs) {sc' : Scope} {vm' : VM} {tgt : Expr} (ok : CompOk sc vm sc' vm' tgt) {nm : Str} {c : Addr} (h : (nm, c) ∈ clFrom env.cells sc'.names []) : env.cells.lookup nm = some c ∧ (nm, NameKind.free) ∈ sc'.names := by
 rcases clFrom_mem _ _ _ _ h with q | ⟨q1, q2⟩
 · exact nomatch q
 · obtain ⟨_, c', e⟩ := free_cell he ok _ q1 rfl
   have q2 : c = (env.cells.lookup nm).getD 0 := q2
   rw [show env.cells.lookup nm = some c' from e] at q2 ⊢
   exact ⟨congrArg some q2.symm, q1⟩
theorem cenv_loc (he : EnvOk env sc vm envs) {sc' : Scope} {vm' : VM} {tgt : Expr} (ok : CompOk sc vm sc' vm' tgt) (L : LocR X env vm μ ρ s.heap) {Ca : Addr} {m : Str → Option Value} (hn : s.heap.Ns Ca m) (hm : Ca ∉ μ) (hb : X.base.get? Ca = none) :
   LocR X (compEnvC sc' (clFrom env.cells sc'.names []) Ca env) vm' μ (cut ρ) s.heap := by
 have inE : ∀ nm c, (nm, c) ∈ clFrom env.cells sc'.names [] → (nm, c) ∈ env.cells := fun nm c h => mem_of_lookup' (cl_sub he ok h).1
 have sub : ∀ a ∈ (clFrom env.cells sc'.names []).map (·.2), a ∈ exL env := fun a ma => by
   obtain ⟨⟨nm, c⟩, h1, rfl⟩ := List.mem_map.mp ma
   exact List.mem_cons_of_mem _ (List.mem_map.mpr ⟨_, inE _ _ h1, rfl⟩)
 refine ⟨fun a ma => ?_, fun a ma => ?_, ⟨m, hn, fun nm x mv h1 h2 h3 => ?_⟩, fun nm c hc => ?_⟩
 · cases ma with
   | head => exact hm
   | tail _ ma => exact L.nm _ (sub a ma)
 · cases ma with
   | head => exact hb
   | tail _ ma => exact L.nb _ (sub a ma)
 · refine iteS h2 fun hx Z => ?_
   rcases ok.vms _ (mem_of_lookup' h1) with ⟨_, q⟩ | ⟨q, _, _⟩
   · exact absurd hx (Nat.not_lt.mpr q)
   · rw [relabel_kind he.kind, q] at h3
     exact nomatch (congrArg some (if_pos ⟨rfl, (free_cell he ok _ (mem_of_lookup' q) rfl).1⟩)).symm.trans h3
 · obtain ⟨v, hv, r⟩ := L.cell nm c (inE _ _ hc)
   refine ⟨v, hv, fun h0 x mv h1 h2 h3 => ?_⟩
   obtain ⟨q1, q2⟩ := cl_sub he ok hc
   refine iteS h2 fun hx h2 => ?_
   rcases ok.vms _ (mem_of_lookup' h1) with ⟨_, q⟩ | ⟨q, q', _⟩
   · exact absurd hx (Nat.not_lt.mpr q)
   · exact r q1 x mv q' h2 (free_cell he ok _ q2 rfl).1
end
section
open PySem PySem.W PySem.Calls PyProof.Rows
variable {X : Cx} {C : Orc} {N : Nat} {rz : Bool} {d n : Nat} {sc : Scope} {vm : VM} {A : Around} {envs : List Env} {env : Env} {μ : List Addr} {H : MH} {s : Shared} {ρ : Loc} {Q E : Value → Shared → Prop}
abbrev relC (X : Cx) (envs : List Env) (h₀ : Heap) : List Addr → Heap → MV → Value × Addr → Prop := fun μ h mv p => RV X.T.strs μ h mv p.1 ∧ Loose X envs μ h [p.2] ∧ h₀.get? p.2 = none ∧ ∃ m, h.Ns p.2 m
noncomputable def compF (P : Code) (C : Orc) (rz : Bool) (ρ : Loc) (k : Nat) (cs : List CE) (c : CE) (v : MV) (H : MH) : Mine.Internal.R (Option MV) := ((mBool P C rz true cs (upd (cut ρ) k v) H).bind fun b H => if b then (mE P C rz c (upd (cut ρ) k v) H).bind fun r H => .ok (some r) H else .ok none H).still
theorem compF_noexc {P : Code} {k : Nat} {cs : List CE} {c : CE} : ∀ v H x H', compF P C rz ρ k cs c v H ≠ .exc x H' := fun Z Z => still_noexc _
theorem Loose.aft' {ls ex μ' : List Addr} {H' : MH} {s' : Shared} (L : Loose X envs μ s.heap ls) (A : Aft X envs ex μ s μ' H' s') (k : ∀ a ∈ ls, a ∈ ex → ∃ o, s'.heap.get? a = some o ∧ ¬ IsTupO o) : Loose X envs μ' s'.heap ls := fun a m => by
 obtain ⟨a1, a2, a3, o, a4, a5⟩ := L a m
 refine ⟨fun q => ?_, a2, a3, ?_⟩
 · obtain ⟨ν, rfl, h⟩ := A.ext
   exact (List.mem_append.mp q).elim a1 fun q => nn ((h a q).symm.trans a4)
 · by_cases q : a ∈ ex
   · exact k a m q
   · exact ⟨o, (A.keep a o a4).1 a1 q a2, a5⟩
theorem Loose.keep {ls ex μ' : List Addr} {H' : MH} {s' : Shared} (L : Loose X envs μ s.heap ls) (A : Aft X envs ex μ s μ' H' s') {a : Addr} (m : a ∈ ls) (q : a ∉ ex) : s'.heap.get? a = s.heap.get? a := by
 obtain ⟨a1, a2, a3, o, a4, a5⟩ := L a m
 exact ((A.keep a o a4).1 a1 q a2).trans a4.symm
theorem ItAt.dom {h : Heap} {I : Addr} {ex : List Addr} {sr : Src} {j : Nat} (it : ItAt X μ h I ex sr j) : ∀ a ∈ ex, ∃ o, h.get? a = some o ∧ ¬ IsTupO o := by
 have one : ∀ {J : Addr}, (∃ o, h.get? J = some o ∧ ¬ IsTupO o) → ∀ a ∈ [J], ∃ o, h.get? a = some o ∧ ¬ IsTupO o := fun q a m => by rw [List.mem_singleton.mp m]; exact q
 cases it with
 | tup i r q => obtain ⟨o, e, c, _⟩ := q; exact one ⟨o, e, notTupO c (by decide)⟩
 | rng hl q => exact one ⟨_, q, notTupO rfl (by decide)⟩
 | lst e q => obtain ⟨o, e, c, _⟩ := q; exact one ⟨o, e, notTupO c (by decide)⟩
 | enl e q p ne =>
   intro a m
   cases m with
   | head => exact ⟨_, q, notTupO rfl (by decide)⟩
   | tail _ m => obtain ⟨o, e, c, _⟩ := p; exact one ⟨o, e, notTupO c (by decide)⟩ a m
structure Parts (X : Cx) (envs : List Env) (cenv : Env) (vm' : VM) (I D : Addr) (ex : List Addr) (sr : Src) (μ : List Addr) (h : Heap) (ρ : Loc) (j : Nat) (rs : List MV) (items : Array Value) (n : Nat) : Prop where
 it : ItAt X μ h I ex sr j
 L : LocR X cenv vm' μ ρ h
 Ls : Loose X envs μ h (cenv.locals :: D :: ex)
 hD : IsL h D items n
 hr : RVs X.T.strs μ h rs items.toList
section
variable {cenv : Env} {vm' : VM} {I D : Addr} {ex : List Addr} {sr : Src} {j : Nat} {rs : List MV} {items : Array Value} {m : Nat}
theorem Parts.step (x : St X envs μ H s) (p : Parts X envs cenv vm' I D ex sr μ s.heap ρ j rs items m) {ex' μ' : List Addr} {H' : MH} {s' : Shared} (A : Aft X envs ex' μ s μ' H' s') {ρ' : Loc} (L' : LocR X cenv vm' μ' ρ' s'.heap)
   (h1 : ∀ a ∈ ex', a = cenv.locals) (d1 : D ≠ cenv.locals) (d3 : cenv.locals ∉ ex) : Parts X envs cenv vm' I D ex sr μ' s'.heap ρ' j rs items m := by
 have nt : NoTup s.heap ex' := fun a q => h1 a q ▸ p.Ls.notup _ (.head _)
 have nD : D ∉ ex' := fun q => d1 (h1 D q)
 have Lx : Loose X envs μ s.heap ex := fun a q => p.Ls a (.tail _ (.tail _ q))
 refine ⟨p.it.aft x Lx A (fun a q z => d3 (h1 a z ▸ q)) nt, L', p.Ls.aft' A fun a Z q => ?_, (p.Ls.keep A (.tail _ (.head _)) nD).trans p.hD, p.hr.mono A.mext (A.tu x nt).t⟩
 obtain ⟨m', ⟨o, es, ep, e, e2, _⟩, _⟩ := L'.loc
 exact ⟨o, h1 a q ▸ e, fun c => by obtain ⟨_, xs', n2, z⟩ := c; exact nomatch e2.symm.trans z⟩
theorem Parts.aft (x : St X envs μ H s) (p : Parts X envs cenv vm' I D ex sr μ s.heap ρ j rs items m) {μ' : List Addr} {H' : MH} {s' : Shared} (A : Aft X envs [] μ s μ' H' s') (d1 : D ≠ cenv.locals) (d3 : cenv.locals ∉ ex) : Parts X envs cenv vm' I D ex sr μ' s'.heap ρ j rs items m :=
 p.step x A (p.L.aft x A) (fun Z q => nomatch q) d1 d3
theorem Parts.next (x : St X envs μ H s) (p : Parts X envs cenv vm' I D ex sr μ s.heap ρ j rs items m) {μ' : List Addr} {H' : MH} {s' : Shared} (A : Aft X envs ex μ s μ' H' s') (it : ItAt X μ' s'.heap I ex sr (j + 1)) (d2 : D ∉ ex) (d4 : ∀ a ∈ exL cenv, a ∉ ex) : Parts X envs cenv vm' I D ex sr μ' s'.heap ρ (j + 1) rs items m := by
 have Lx : Loose X envs μ s.heap ex := fun a q => p.Ls a (.tail _ (.tail _ q))
 exact ⟨it, p.L.aftx x A d4 Lx.notup, p.Ls.aft' A fun a Z q => it.dom a q, (p.Ls.keep A (.tail _ (.head _)) d2).trans p.hD, p.hr.mono A.mext (A.tu x Lx.notup).t⟩
theorem Parts.push (x : St X envs μ H s) (p : Parts X envs cenv vm' I D ex sr μ s.heap ρ j rs items m) {h' : Heap} {r : MV} {u : Value} (ru : RV X.T.strs μ s.heap r u) (hs : Heap.SameBut D s.heap h') (hg : IsL h' D (items.push u) (m + 1)) (d2 : D ∉ ex) (d4 : ∀ a ∈ exL cenv, a ≠ D) :
   Aft X envs [D] μ s μ H { s with heap := h' } ∧ Parts X envs cenv vm' I D ex sr μ h' ρ j (rs ++ [r]) (items.push u) (m + 1) := by
 have LD : Loose X envs μ s.heap [D] := fun a q => by rw [List.mem_singleton.mp q]; exact p.Ls D (.tail _ (.head _))
 have A : Aft X envs [D] μ s μ H { s with heap := h' } := Aft.exSet x LD (t := s.toks) (fun b o e nb => (hs.2 b (fun q => nb (q ▸ .head _))).trans e) (fun a q => by rw [List.mem_singleton.mp q]; exact ⟨_, hg⟩)
 have T := (A.tu x LD.notup).t
 have Lx : Loose X envs μ s.heap ex := fun a q => p.Ls a (.tail _ (.tail _ q))
 refine ⟨A, p.it.aft x Lx A (fun a q z => d2 (List.mem_singleton.mp z ▸ q)) LD.notup, p.L.aftx x A (fun a q z => d4 a q (List.mem_singleton.mp z)) LD.notup, p.Ls.aft' A fun a Z q => ⟨_, List.mem_singleton.mp q ▸ hg, notTupO rfl (by decide)⟩, hg, ?_⟩
 rw [Array.toList_push]
 exact (p.hr.mono (MExt.refl _) T).append (RVs.cons (ru.mono (MExt.refl _) T) RVs.nil)
end
inductive CInv (X : Cx) (envs : List Env) (μ : List Addr) (s : Shared) (cenv : Env) (vm' : VM) (ρ : Loc) (I D : Addr) (ex : List Addr) (f : MV → MH → Mine.Internal.R (Option MV)) (l : List MV) (Q : Value × Addr → Shared → Prop) (E : Value → Shared → Prop) : Nat → Shared → Prop
 | mk {j m : Nat} {μ' : List Addr} {H' : MH} {rs : List MV} {items : Array Value} {s' : Shared} {ρ' : Loc} (A : Aft X envs (cenv.locals :: D :: ex) μ s μ' H' s') (p : Parts X envs cenv vm' I D ex (.seq l) μ' s'.heap ρ' j rs items m) (k : ∀ x v, cut ρ x = some v → ρ' x = some v)
   (P : PostG X envs [] μ s (relC X envs s.heap) ((compS f (l.drop j) H').bind fun rest H => newList (rs ++ rest) H) Q E) : CInv X envs μ s cenv vm' ρ I D ex f l Q E (l.length - j) s'
theorem comp_end (hh : A.handled = none) {cenv : Env} {vm' : VM} {I D : Addr} {ex : List Addr} {l : List MV} {j m : Nat} {rs : List MV} {items : Array Value} {μ' : List Addr} {H' : MH} {s' : Shared} {ρ' : Loc} {QC : Value × Addr → Shared → Prop} {R : Shared → Prop} {G : Value → Shared → Prop} {E' : Value → Shared → Prop}
   (Aw : Aft X envs (cenv.locals :: D :: ex) μ s μ' H' s') (p : Parts X envs cenv vm' I D ex (.seq l) μ' s'.heap ρ' j rs items m) (e1 : l[j]? = none) (d1 : D ≠ cenv.locals) (d2 : D ∉ ex) (d3 : cenv.locals ∉ ex) (fr : ∀ a ∈ cenv.locals :: D :: ex, s.heap.get? a = none)
   (P : PostG X envs [] μ s (relC X envs s.heap) (newList rs H') QC E') (hR : ∀ s', QC (.ref D, cenv.locals) s' → R s') :
   wpAny X.M A (pyNext (.ref I)) (fun r s₁ => match r with | none => R s₁ | some u => G u s₁) E s' := by
 have x := Aw.st
 refine PostG.ite P fun hz P => sim_next_end hh x p.it (congrArg some e1) fun h' k => hR _ ?_
 have Lx : Loose X envs μ' s'.heap ex := fun a q => p.Ls a (.tail _ (.tail _ q))
 have LD := p.Ls D (.tail _ (.head _))
 have A1 := (Aw.fresh (ex' := []) (fun a m => .inr (fr a m))).drop Lx (fun a m => fr a (.tail _ (.tail _ m))) k
 have TK : TKeep s'.heap h' := fun a its n i2 => k a _ i2 fun q => Lx.notup a q _ i2 ⟨rfl, _, _, rfl⟩
 have A2 := A1.adopt (D := D) (mo := .list false rs) (fr D (.tail _ (.head _))) LD.1 LD.2.1 LD.2.2.1 ⟨items, m, k D _ p.hD d2, p.hr.mono (MExt.app _ _) TK, (show items.size = rs.length from p.hr.length) ▸ sizeL_eq ▸ hz⟩
 obtain ⟨mm, hm, _⟩ := p.L.loc
 obtain ⟨c1, c2, c3, o, c4, c5⟩ := p.Ls cenv.locals (.head _)
 refine P (.ref D, cenv.locals) _ _ A2 ⟨rv_ref_ ?_, fun a q => ?_, fr _ (.head _), mm, hm.at' fun o e => k _ o e d3⟩
 · rw [← x.len, List.getElem?_append_right (Nat.le_refl _), Nat.sub_self]; rfl
 · rw [List.mem_singleton.mp q]
   exact ⟨fun q => (List.mem_append.mp q).elim c1 fun q => d1 (List.mem_singleton.mp q).symm, c2, c3, o, k _ o c4 d3, c5⟩
set_option tactic.hygienic true in
theorem comp_loop (hh : A.handled = none) (IHE : SimE X C rz d n) (IHT : SimT X C rz d n) (hA : Ar A d envs rz) {sc' : Scope} {vm' : VM} {cenv : Env} (heC : EnvOk cenv sc' vm' envs) {nm : Str} {pn : Pos} {elt iter : Expr} {ifs : List Expr} {scope : Scope} {pos : Pos}
   {kx : Nat} {cs : List CE} {c : CE} (hv : isVar sc' nm = true) (hk : vm'.lookup nm = some kx) (hcs : mapO (cE X.T n sc' vm') ifs = some cs) (hc : cE X.T n sc' vm' elt = some c) (hloc : cenv.kindOf nm = some .local) (hbig : 1000 ≤ kx)
   {l : List MV} {I D : Addr} {ex : List Addr} {RR : Result → Shared → Prop} {μ₄ : List Addr} {H₄ : MH} {s₄ : Shared} {QC : Value × Addr → Shared → Prop}
   (A0 : Aft X envs [] μ s μ₄ H₄ s₄) (p0 : Parts X envs cenv vm' I D ex (.seq l) μ₄ s₄.heap (cut ρ) 0 [] #[] 0) (fr : ∀ a ∈ cenv.locals :: D :: ex, s.heap.get? a = none)
   (d1 : D ≠ cenv.locals) (d2 : D ∉ ex) (d3 : cenv.locals ∉ ex) (d4 : ∀ a ∈ exL cenv, a ∉ ex ∧ a ≠ D)
   (P : PostG X envs [] μ s (relC X envs s.heap) ((compS (compF X.P C rz ρ kx cs c) l H₄).bind newList) QC E) (hR : ∀ s', QC (.ref D, cenv.locals) s' → RR (.ok .next) s') :
   codeAny X.M A (.compLoop (.ListComp elt [⟨.Name nm pn, iter, ifs, 0⟩] scope pos) 0 (.ref I) (.ref D) cenv) RR s₄ := by
 refine codeAny_compLoop_gen (CInv X envs μ s cenv vm' ρ I D ex (compF X.P C rz ρ kx cs c) l QC E) ?_ _ (.mk (A0.mono fun Z m => nomatch m) p0 (fun Z Z h => h) P)
 rintro _ s' ⟨Aw, p, kc, Pr⟩
 rename_i j m μ' H' rs items ρ'
 have x := Aw.st
 cases hj : l[j]? with
 | none =>
   rw [List.drop_eq_nil_of_le (List.getElem?_eq_none_iff.mp hj)] at Pr
   have Pr : PostG X envs [] μ s (relC X envs s.heap) (newList (rs ++ []) H') QC E := Pr
   rw [List.append_nil] at Pr
   exact comp_end hh Aw p hj d1 d2 d3 fr Pr hR
 | some v =>
 obtain ⟨hlt, hj'⟩ := List.getElem?_eq_some_iff.mp hj
 rw [List.drop_eq_getElem_cons hlt, hj'] at Pr
 have Pr := PostG.assoc Pr
 have hm : l.length - (j + 1) < l.length - j := Nat.sub_succ_lt_self _ _ hlt
 have Lx : Loose X envs μ' s'.heap ex := fun a q => p.Ls a (.tail _ (.tail _ q))
 refine sim_next_item (uq := false) (target := .Name nm pn) trivial x p.it Lx (fun e => nomatch e) (congrArg some hj) fun u s₁ A1 it1 ru => ?_
 have p1 := p.next x A1 it1 d2 fun a m => (d4 a m).1
 refine wpAny_assign_Name (store_loc heC A1.st p1.L hloc hk ru fun s₂ A2 L2 => ?_)
 have L2 : LocR X cenv vm' μ' (upd (cut ρ) kx v) s₂.heap := L2.less fun y w h => by
   unfold upd at h ⊢
   by_cases q : y = kx
   · rw [if_pos q] at h ⊢; exact h
   · rw [if_neg q] at h ⊢; exact kc y w h
 have p2 := p1.step A1.st A2 L2 (fun a m => List.mem_singleton.mp m) d1 d3
 have A02 := (Aw.trans (A1.mono fun a m => .tail _ (.tail _ m))).trans (A2.mono (ex' := cenv.locals :: D :: ex) fun a m => by rw [List.mem_singleton.mp m]; exact .head _)
 have keep : ∀ y w, cut ρ y = some w → upd (cut ρ) kx v y = some w := fun y w h => by
   have ne : y ≠ kx := fun q => iteS h fun h1 Z => absurd hbig (Nat.not_le.mpr (by rw [← q]; exact h1))
   exact (if_neg ne).trans h
 have Pr : PostG X envs [] μ s (relC X envs s.heap) (((mBool X.P C rz true cs (upd (cut ρ) kx v) H').bind fun b H => if b then (mE X.P C rz c (upd (cut ρ) kx v) H).bind fun r H => .ok (some r) H else .ok none H).still.bind fun a H => ((compS (compF X.P C rz ρ kx cs c) (l.drop (j + 1)) H).bind fun rs₁ H => .ok (a.toList ++ rs₁) H).bind fun rest H => newList (rs ++ rest) H) QC E := Pr
 refine sim_tests IHT hA heC ifs hcs A2.st L2 ?_
 cases hb : mBool X.P C rz true cs (upd (cut ρ) kx v) H' with
 | bad => rw [hb] at Pr; exact Pr.elim
 | exc => rw [hb] at Pr; exact Pr.elim
 | ok b H2 =>
 rw [hb] at Pr
 intro b' μ₃ s₃ A3 R3
 cases R3
 have p3 := p2.aft A2.st A3 d1 d3
 have A03 := A02.trans (A3.mono (ex' := cenv.locals :: D :: ex) fun Z m => nomatch m)
 cases b with
 | false => exact ⟨_, hm, .mk A03 p3 keep (PostG.assoc Pr)⟩
 | true =>
   rw [if_pos rfl]
   refine IHE _ _ _ _ hc _ _ _ _ _ _ _ _ _ hA heC A3.st p3.L ?_
   have Pr : PostG X envs [] μ s (relC X envs s.heap) ((((mE X.P C rz c (upd (cut ρ) kx v) H2).bind fun r H => Mine.Internal.R.ok (some r) H).still).bind _) QC E := Pr
   cases hel : mE X.P C rz c (upd (cut ρ) kx v) H2 with
   | bad => rw [hel] at Pr; exact Pr.elim
   | exc => rw [hel] at Pr; exact Pr.elim
   | ok r H3 =>
   rw [hel] at Pr
   have Pr : PostG X envs [] μ s (relC X envs s.heap) ((compS (compF X.P C rz ρ kx cs c) (l.drop (j + 1)) H3).bind fun rest H => newList (rs ++ ([r] ++ rest)) H) QC E := PostG.assoc Pr
   have e : (fun rest (H : MH) => newList (rs ++ ([r] ++ rest)) H) = fun rest (H : MH) => newList ((rs ++ [r]) ++ rest) H := by funext rest H; rw [List.append_assoc]
   rw [e] at Pr
   intro u4 μ₅ s₅ A5 R5
   have p5 := p3.aft A3.st A5 d1 d3
   have hz : (rs ++ [r]).length ≤ sizeL := by
     revert Pr
     cases q : compS (compF X.P C rz ρ kx cs c) (l.drop (j + 1)) H3 with
     | ok rest H4 => exact fun Pr => PostG.ite Pr fun hz Z => Nat.le_trans (by rw [List.length_append (bs := rest)]; exact Nat.le_add_right _ _) hz
     | bad => exact fun P => P.elim
     | exc => exact absurd q (compS_noexc compF_noexc _ _ _ _)
   refine append_at p5.hD (fun h' hs' hg' => ?_) ((show items.size = rs.length from p5.hr.length) ▸ sizeL_eq ▸ Nat.le_trans (by rw [List.length_append]; exact Nat.le_add_right _ _) hz)
   obtain ⟨A6, p6⟩ := p5.push A5.st R5 hs' hg' d2 fun a m => (d4 a m).2
   exact ⟨_, hm, .mk ((A03.trans (A5.mono (ex' := cenv.locals :: D :: ex) fun Z m => nomatch m)).trans (A6.mono fun a m => by rw [List.mem_singleton.mp m]; exact .tail _ (.head _))) p6 keep Pr⟩
end
section
open PySem PySem.W PySem.Calls PyProof.Rows
variable {X : Cx} {C : Orc} {N : Nat} {rz : Bool} {d n : Nat} {sc : Scope} {vm : VM} {A : Around} {envs : List Env} {env : Env} {μ : List Addr} {H : MH} {s : Shared} {ρ : Loc} {Q E : Value → Shared → Prop}
theorem comp_shape {c : CE} {kx : Nat} {k : IK} {src cs : List CE} {β : Type} {rel : List Addr → Heap → MV → β → Prop} {Q : β → Shared → Prop} (P : PostG X envs [] μ s rel (mE X.P C rz (.comp c kx k src cs) ρ H) Q E) :
   rz = true ∧ PostG X envs [] μ s rel (((mEs X.P C rz src ρ H).bind (mSrcR k)).bind fun sr H => (optR H sr.seq?).bind fun l H => (compS (compF X.P C rz ρ kx cs c) l H).bind newList) Q E := by
 refine PostG.iten P fun hz P => ⟨Bool.of_not_eq_false hz, ?_⟩
 revert P
 cases mEs X.P C rz src ρ H with
 | bad => exact fun P => P
 | exc => exact fun P => P
 | ok vs H1 =>
   show PostG X envs [] μ s rel ((optR H1 ((mSrc H1 k vs).bind Src.seq?)).bind _) Q E → PostG X envs [] μ s rel ((optR H1 (mSrc H1 k vs)).bind _) Q E
   cases mSrc H1 k vs <;> exact fun P => P
theorem seqS {sr : Src} {l : List MV} (h : sr.seq? = some l) : sr = .seq l := by
 cases sr with
 | seq l' => exact congrArg Src.seq (Option.some.inj h)
 | _ => exact nn h
theorem sim_lc (hX : XOk X) (hG : GOk X) (IHE : SimE X C rz d n) (IHT : SimT X C rz d n) (hA : Ar A d envs rz) (he : EnvOk env sc vm envs) {sc' : Scope} {vm' : VM} {tgt elt iter : Expr} {ifs : List Expr} {pos : Pos}
   {kx : Nat} {src cs : List CE} {c : CE} (ok : CompOk sc vm sc' vm' tgt) (hT : cTgt1 sc' vm' tgt = some kx) (hsrc : mapO (cE X.T n sc vm) (srcOf sc iter).2 = some src)
   (hcs : mapO (cE X.T n sc' vm') ifs = some cs) (hc : cE X.T n sc' vm' elt = some c) (x : St X envs μ H s) (L : LocR X env vm μ ρ s.heap) {RR : Value → Addr → Result → Shared → Prop}
   (P : PostG X envs [] μ s (relC X envs s.heap) (mE X.P C rz (.comp c kx (srcOf sc iter).1 src cs) ρ H) (fun p s' => RR p.1 p.2 (.ok .next) s') E) :
   wpAny X.M A (eval iter env) (fun xv s₁ => wpAny X.M A (pyIter xv) (fun it s₂ => wpAny X.M A (PySem.newList []) (fun acc s₃ =>
     wpAny X.M A (newFunctionEnv sc' env.globals (clFrom env.cells sc'.names []) [] env.qual none .none (some env)) (fun cenv s₄ =>
       codeAny X.M A (.compStart (.ListComp elt [⟨tgt, iter, ifs, 0⟩] sc' pos) 0 it acc { cenv with scope := relabel sc' env }) (RR acc cenv.locals) s₄) E s₃) E s₂) E s₁) E s := by
 obtain ⟨rfl, P⟩ := comp_shape P
 obtain ⟨nm, pn, rfl, hv, hk⟩ := cTgt1_name hT
 refine sim_src hX hG IHE hA he hsrc x L (PostG.bind P fun sr it μ₂ H₂ s₂ e0 A2 R2 Z => ?_)
 rw [e0] at P
 refine PostG.opt (o := sr.seq?) P fun l el P => ?_
 cases seqS el
 obtain ⟨I, ex, rfl, hit, Lx, fX⟩ := R2
 have x₂ := A2.st
 obtain ⟨A3, LD3, _⟩ := iter_new x₂ (o := { cls := .type "list", dict := none, data := .seq ([] : List Value).toArray }) rfl rfl (by decide)
 refine wpAny_newObj_type (wpAny_newFunctionEnv ok.nocell (fun y m => nomatch m) (fun h₁ hn hs => ?_) ok.kind)
 have x₃ := A3.st
 generalize hH3 : s₂.heap.push { cls := .type "list", dict := none, data := .seq ([] : List Value).toArray } = H3 at *
 have hz3 : H3.objs.size = s₂.heap.objs.size + 1 := by rw [← hH3, Heap.size_push]
 have hCn : H3.get? H3.objs.size = none := no_size _
 have k4 : ∀ b o, H3.get? b = some o → h₁.get? b = some o := fun b o e => (hs.2 b (Nat.ne_of_lt (Heap.lt_size e))).trans (Heap.get?_push_of_some _ e)
 have A4 := Aft.keepAll x₃ (h' := h₁) (t := s₂.toks + ([] : List (Str × Value)).length) (d := s₂.drawn) k4
 have dom2 : ∀ a, s₂.heap.get? a = none → s.heap.get? a = none := fun a e => A2.dom e
 have inx : ∀ a ∈ ex, a < s₂.heap.objs.size := fun a m => by obtain ⟨_, _, _, o, e, _⟩ := Lx a m; exact Heap.lt_size e
 have fr : ∀ a ∈ H3.objs.size :: s₂.heap.objs.size :: ex, s.heap.get? a = none := fun a m => by
   rcases List.mem_cons.mp m with rfl | m
   · exact dom2 _ (A3.dom hCn)
   · rcases List.mem_cons.mp m with rfl | m
     · exact dom2 _ (no_size _)
     · exact fX a m
 have Ls : Loose X envs μ₂ h₁ (H3.objs.size :: s₂.heap.objs.size :: ex) := fun a m => by
   rcases List.mem_cons.mp m with rfl | m
   · obtain ⟨o, es, ep, q, q2, _⟩ := hn
     exact ⟨new_nomu x₃ hCn, new_nofl x₃ hCn, x₃.base_lt, o, q, fun c => by obtain ⟨_, xs', n2, z⟩ := c; exact nomatch q2.symm.trans z⟩
   · rcases List.mem_cons.mp m with rfl | m
     · exact (LD3.aft' A4 (fun Z Z m => nomatch m)) _ (.head _)
     · exact ((Lx.aft' A3 (fun Z Z m => nomatch m)).aft' A4 (fun Z Z m => nomatch m)) a m
 have d1 : s₂.heap.objs.size ≠ H3.objs.size := by rw [hz3]; exact Nat.ne_of_lt (Nat.lt_succ_self _)
 have d2 : s₂.heap.objs.size ∉ ex := fun m => Nat.lt_irrefl _ (inx _ m)
 have d3 : H3.objs.size ∉ ex := fun m => by have := inx _ m; rw [hz3] at this; exact Nat.lt_irrefl _ (Nat.lt_of_succ_lt this)
 have LE := cenv_loc he ok (((L.aft x A2).aft x₂ A3).aft x₃ A4) (Ca := H3.objs.size) hn (Ls _ (.head _)).1 (Ls _ (.head _)).2.2.1
 have hC := cenv_ok he ok (Ca := H3.objs.size)
 have it4 := (hit.aft x₂ Lx A3 (fun Z Z m => nomatch m) NoTup.nil).aft x₃ (Lx.aft' A3 (fun Z Z m => nomatch m)) A4 (fun Z Z m => nomatch m) NoTup.nil
 have loop : codeAny X.M A (.compLoop (.ListComp elt [⟨.Name nm pn, iter, ifs, 0⟩] sc' pos) 0 (.ref I) (.ref s₂.heap.objs.size) (compEnvC sc' (clFrom env.cells sc'.names []) H3.objs.size env)) (RR (.ref s₂.heap.objs.size) H3.objs.size)
     { s₂ with heap := h₁, toks := s₂.toks + ([] : List (Str × Value)).length } := by
   refine comp_loop (cenv := compEnvC sc' (clFrom env.cells sc'.names []) H3.objs.size env) (hA.hand rfl) IHE IHT hA hC hv hk hcs hc (hC.locv nm (ok.tgt nm (.head _))) ?_ ((A2.trans A3).trans A4) ⟨it4, LE, Ls, k4 _ _ (by rw [← hH3]; exact Heap.get?_push_size _ rfl), RVs.nil⟩ fr d1 d2 d3 (fun a m => ?_)
     P fun s' q => q
   · rcases ok.vms _ (mem_of_lookup' hk) with ⟨_, q⟩ | ⟨q, _⟩
     · exact q
     · exact nomatch (ok.tgt nm (.head _)).symm.trans q
   · rcases List.mem_cons.mp m with rfl | m
     · exact ⟨d3, Ne.symm d1⟩
     · obtain ⟨⟨nm', ca⟩, m1, rfl⟩ := List.mem_map.mp m
       obtain ⟨o, e, _⟩ := exL_dom L (a := ca) (List.mem_cons_of_mem _ (List.mem_map.mpr ⟨_, mem_of_lookup' (cl_sub he ok m1).1, rfl⟩))
       have ne : ∀ b, s.heap.get? b = none → ca ≠ b := fun b z q => nn ((q ▸ z : s.heap.get? ca = none).symm.trans e)
       exact ⟨fun q => ne _ (fX _ q) rfl, ne _ (fr _ (.tail _ (.head _)))⟩
 exact codeAny_compStart_list loop (sim_self it4 loop)
end
section
open PySem PySem.W PySem.Calls PyProof.Rows
variable {X : Cx} {C : Orc} {N : Nat} {rz : Bool} {d n : Nat} {sc : Scope} {vm : VM} {A : Around} {envs : List Env} {env : Env} {μ : List Addr} {H : MH} {s : Shared} {ρ : Loc} {Q E : Value → Shared → Prop}
theorem findIx_get {x : Str} {l : List Str} : ∀ {k j : Nat}, findIx x l k = some j → ∃ i, j = k + i ∧ l[i]? = some x := by
 induction l with
 | nil => intro k j h; exact nn h
 | cons y ys ih =>
   intro k j h
   have h : (if (x == y) = true then some k else findIx x ys (k + 1)) = some j := h
   by_cases q : (x == y) = true
   · rw [if_pos q] at h; cases h; exact ⟨0, rfl, congrArg some (beq_iff_eq.mp q).symm⟩
   · rw [if_neg q] at h
     obtain ⟨i, e, e2⟩ := ih h
     exact ⟨i + 1, by rw [e, Nat.add_assoc, Nat.add_comm 1], e2⟩
theorem str_get {T : CT} {x : Str} {k : Nat} (h : T.str x = some k) : T.strs[k]? = some x := by
 obtain ⟨i, e, e2⟩ := findIx_get h
 rw [e, Nat.zero_add]; exact e2
theorem bop_of {op : Operator} {o : BOp} (h : cBop op = some o) : bopOf o = op := by
 cases op <;> first | exact nn h | (cases h; rfl)
theorem folded_ok {iter : Expr} {src : List CE} (h : mapO (cE X.T n sc vm) (srcOf sc iter).2 = some src) (v : Value) : foldedSetIterable iter env v = pure v := by
 rcases srcOf_cases sc iter with ⟨f, p, args, q, rfl, _, _⟩ | e
 · rfl
 · rw [e] at h
   obtain ⟨c, _, hc⟩ := one_eval h
   cases iter <;> first | rfl | (cases n <;> exact nn hc)
theorem sim_const {c : Const} {mv : MV} {k : Nat} {p : Pos} (h : cConst X.T c = some mv) (x : St X envs μ H s) (P : PostG X envs [] μ s (relV X) (.ok mv H) Q E) : wpAny X.M A (eval (.Constant c k p) env) Q E s := by
 cases c with
 | none => cases h; exact wpAny_pure (P _ _ _ (Aft.refl x) rv_none_)
 | bool b => cases h; exact wpAny_pure (P _ _ _ (Aft.refl x) rv_bool_)
 | int i => cases h; exact (fun Z Z Z => P _ _ _ (Aft.tok x) rv_int_ : wpAny X.M A (mkInt i) Q E s)
 | str y => exact mapS h fun j hj e => (fun Z Z Z => P _ _ _ (Aft.tok x) (e ▸ ⟨y, _, str_get hj, rfl⟩) : wpAny X.M A (mkText y) Q E s)
 | _ => exact nn h
theorem negS {c c' : CE} {G : Prop} (h : cNeg c = some c') (k : ∀ i, c = .con (.int i) → c' = .con (.int (-i)) → G) : G := by
 cases c with
 | con v => cases v with
   | int i => exact k i rfl (Option.some.inj h).symm
   | _ => exact nn h
 | _ => exact nn h
theorem sim_slE (IH : SimE X C rz d n) (hA : Ar A d envs rz) (he : EnvOk env sc vm envs) {o i : Expr} {co ci : CE} {p pos : Pos} (h1 : cE X.T n sc vm o = some co) (h2 : cE X.T n sc vm i = some ci) (x : St X envs μ H s) (L : LocR X env vm μ ρ s.heap) :
   (PostG X envs [] μ s (relV X) ((mE X.P C rz co ρ H).bind fun a H => (mE X.P C rz ci ρ H).bind fun b H => mSlFrom H a b) Q E → wpAny X.M A (eval (.Subscript o (.Slice (some i) none none p) pos) env) Q E s) ∧
   (PostG X envs [] μ s (relV X) ((mE X.P C rz co ρ H).bind fun a H => (mE X.P C rz ci ρ H).bind fun b H => mSlTo H a b) Q E → wpAny X.M A (eval (.Subscript o (.Slice none (some i) none p) pos) env) Q E s) := by
 refine ⟨fun P => ?_, fun P => ?_⟩
 · refine Subscript_ (IH _ _ _ _ h1 _ _ _ _ _ _ _ _ _ hA he x L (PostG.bind P fun a u μ₁ H₁ s₁ e0 A1 R1 P1 => ?_))
   refine wpAny_Slice ?_
   rw [evalPart_some]
   refine IH _ _ _ _ h2 _ _ _ _ _ _ _ _ _ hA he A1.st (L.aft x A1) (PostG.bind P1 fun b v μ₂ H₂ s₂ e0 A2 R2 P2 => ?_)
   refine wpAny_pure (wpAny_pure ?_)
   have A3 := Aft.push A2.st (o := { cls := .type "slice", data := .fields #[v, .none, .none] }) (t := s₂.toks)
   exact sim_slFrom A3.st (A3.rv A2.st NoTup.nil (A2.rv A1.st NoTup.nil R1)) (A3.rv A2.st NoTup.nil R2) (Heap.IsSliceOf.new _ _ _ _) (PostG.step A3 P2)
 · refine Subscript_ (IH _ _ _ _ h1 _ _ _ _ _ _ _ _ _ hA he x L (PostG.bind P fun a u μ₁ H₁ s₁ e0 A1 R1 P1 => ?_))
   refine wpAny_Slice (wpAny_pure ?_)
   rw [evalPart_some]
   refine IH _ _ _ _ h2 _ _ _ _ _ _ _ _ _ hA he A1.st (L.aft x A1) (PostG.bind P1 fun b v μ₂ H₂ s₂ e0 A2 R2 P2 => ?_)
   refine wpAny_pure ?_
   have A3 := Aft.push A2.st (o := { cls := .type "slice", data := .fields #[.none, v, .none] }) (t := s₂.toks)
   exact sim_slTo A3.st (A3.rv A2.st NoTup.nil (A2.rv A1.st NoTup.nil R1)) (A3.rv A2.st NoTup.nil R2) (Heap.IsSliceOf.new _ _ _ _) (PostG.step A3 P2)
theorem sim_lcE (hX : XOk X) (hG : GOk X) (IHE : SimE X C rz d n) (IHT : SimT X C rz d n) (hA : Ar A d envs rz) (he : EnvOk env sc vm envs) {sc' : Scope} {vm' : VM} {tgt elt iter : Expr} {ifs : List Expr} {pos : Pos}
   {kx : Nat} {src cs : List CE} {c : CE} (ok : CompOk sc vm sc' vm' tgt) (hT : cTgt1 sc' vm' tgt = some kx) (hsrc : mapO (cE X.T n sc vm) (srcOf sc iter).2 = some src)
   (hcs : mapO (cE X.T n sc' vm') ifs = some cs) (hc : cE X.T n sc' vm' elt = some c) (x : St X envs μ H s) (L : LocR X env vm μ ρ s.heap)
   (P : PostG X envs [] μ s (relV X) (mE X.P C rz (.comp c kx (srcOf sc iter).1 src cs) ρ H) Q E) : wpAny X.M A (eval (.ListComp elt [⟨tgt, iter, ifs, 0⟩] sc' pos) env) Q E s := by
 rw [eval_ListComp]
 refine wpAny_comprehension_free (use := none) rfl (folded_ok hsrc) (closureFor_eq fun y m e => (free_cell he ok y m e).2) ok.kind (fun y m e => by rw [ok.look y m, e])
   (sim_lc hX hG IHE IHT hA he ok hT hsrc hcs hc x L (RR := fun acc Ca r s' => compPost X.M A E none Q acc Ca r s') ?_)
 revert P
 cases mE X.P C rz (.comp c kx (srcOf sc iter).1 src cs) ρ H with
 | bad => exact fun P => P
 | exc => exact fun P => P
 | ok v H' =>
   intro P p μ' s' A' R
   obtain ⟨rv, LC, fC, m, hm⟩ := R
   refine ⟨m, hm, fun h' hs' => ?_⟩
   have A2 := A'.drop LC (fun a m => by rw [List.mem_singleton.mp m]; exact fC) (h' := h') fun b o e nb => (hs'.2 b (fun q => nb (q ▸ .head _))).trans e
   refine P _ _ _ A2 (rv.mono (MExt.refl _) fun a its k i2 => ?_)
   have : a ≠ p.2 := fun q => LC.notup p.2 (.head _) _ (q ▸ i2) ⟨rfl, _, _, rfl⟩
   exact (hs'.2 a this).trans i2
theorem attr_eval {o : Expr} {nm : Str} {pos : Pos} (hb : plainBase o = true) : eval (.Attribute o nm pos) env = (do
     let ov ← eval o env
     standAt pos.atName
     let r ← holding [ov] (getAttr ov nm true)
     letTemporaryGo o ov r
     pure r) := by rw [arm_eval_Attribute, attributeBase_plain hb]
end
section
open PySem PySem.W PySem.Calls PyProof.Rows
variable {X : Cx} {C : Orc} {N : Nat} {rz : Bool} {d n : Nat} {sc : Scope} {vm : VM} {A : Around} {envs : List Env} {env : Env} {μ : List Addr} {H : MH} {s : Shared} {ρ : Loc} {Q E : Value → Shared → Prop}
structure Facts (X : Cx) : Prop where
 x : XOk X
 c : ClsOk X
 g : GOk X
theorem mapG {α : Type} {o : Option α} {f : α → CE} {c : CE} {G : Prop} (h : o.map f = some c) (P : PostG X envs [] μ s (relV X) (mE X.P C rz c ρ H) Q E) (k : ∀ a, o = some a → PostG X envs [] μ s (relV X) (mE X.P C rz (f a) ρ H) Q E → G) : G := mapS h fun a e e2 => k a e (e2.symm ▸ P)
theorem sim_cmp (F : Facts X) (IHE : SimE X C rz d n) (hA : Ar A d envs rz) (he : EnvOk env sc vm envs) {a : Expr} {ops : List CmpOp} {bs : List Expr} {p : Pos} {ca : CE} {cs : List CE} (hl : ops.length = bs.length) (h1 : cE X.T n sc vm a = some ca) (h2 : mapO (cE X.T n sc vm) bs = some cs)
   (x : St X envs μ H s) (L : LocR X env vm μ ρ s.heap) (P : PostG X envs [] μ s relBV ((mE X.P C rz ca ρ H).bind fun v H => mChain X.P C rz v (ops.map cCop) cs ρ H) Q E) : wpAny X.M A (eval (.Compare a ops bs p) env) Q E s := by
 show wpAny X.M A (do compareChain p (← eval a env) ops (markedEach ops bs (evalEach bs env))) Q E s
 rw [markedEach_of_false _ _ _ (lastMarks_no h2)]
 refine wpAny_bind (IHE _ _ _ _ h1 _ _ _ _ _ _ _ _ _ hA he x L (PostG.bind P fun v u μ₁ H₁ s₁ e0 A1 R1 P1 => ?_))
 exact sim_chain F.x IHE hA he bs h2 hl A1.st (L.aft x A1) R1 P1
theorem sim_binop (IHE : SimE X C rz d n) (hA : Ar A d envs rz) (he : EnvOk env sc vm envs) {l r : Expr} {op : Operator} {p : Pos} {a b c : CE} (h1 : cE X.T n sc vm l = some a) (h2 : cE X.T n sc vm r = some b) (h3 : ((cBop op).map fun o => CE.bin o a b) = some c)
   (x : St X envs μ H s) (L : LocR X env vm μ ρ s.heap) (P : PostG X envs [] μ s (relV X) (mE X.P C rz c ρ H) Q E) : wpAny X.M A (eval (.BinOp l op r p) env) Q E s := by
 refine mapS h3 fun o ho e => ?_
 subst e
 refine wpAny_BinOp (IHE _ _ _ _ h1 _ _ _ _ _ _ _ _ _ hA he x L (PostG.bind P fun u v μ₁ H₁ s₁ e0 A1 R1 P1 =>
   IHE _ _ _ _ h2 _ _ _ _ _ _ _ _ _ hA he A1.st (L.aft x A1) (PostG.bind P1 fun u' v' μ₂ H₂ s₂ e0 A2 R2 P2 => bop_of ho ▸ sim_bin (A := A) A2.st (A2.rv A1.st NoTup.nil R1) R2 P2)))
theorem cE_item {T : CT} {n : Nat} {o i : Expr} {p : Pos} {c : CE} (hi : ∀ a b c d, i ≠ .Slice a b c d) (h : cE T (n + 1) sc vm (.Subscript o i p) = some c) : ((cE T n sc vm o).bind fun x => (cE T n sc vm i).map fun y => CE.sub x y) = some c := by
 cases i <;> first | exact h | exact absurd rfl (hi _ _ _ _)
inductive LcI (T : CT) (n : Nat) (sc : Scope) (vm : VM) (gens : List Comprehension) (sc' : Scope) (elt : Expr) (c : CE) : Prop
 | mk (tgt iter : Expr) (ifs : List Expr) (kx : Nat) (src cs : List CE) (c₀ : CE) (e : gens = [⟨tgt, iter, ifs, 0⟩]) (ok : CompOk sc vm sc' (compVM vm sc'.names 1000) tgt) (h1 : cTgt1 sc' (compVM vm sc'.names 1000) tgt = some kx)
   (h2 : mapO (cE T n sc vm) (srcOf sc iter).2 = some src) (h3 : mapO (cE T n sc' (compVM vm sc'.names 1000)) ifs = some cs) (h4 : cE T n sc' (compVM vm sc'.names 1000) elt = some c₀) (ec : .comp c₀ kx (srcOf sc iter).1 src cs = c)
theorem cE_lc {T : CT} {n : Nat} {elt : Expr} {gens : List Comprehension} {sc' : Scope} {p : Pos} {c : CE} (h : cE T (n + 1) sc vm (.ListComp elt gens sc' p) = some c) : LcI T n sc vm gens sc' elt c := by
 cases gens with
 | nil => exact nn h
 | cons g gs =>
 cases g with
 | mk tgt iter ifs a =>
 cases a with
 | negSucc => cases gs <;> exact nn h
 | ofNat a =>
 cases a with
 | succ => cases gs <;> exact nn h
 | zero =>
 cases gs with
 | cons => exact nn h
 | nil =>
   exact iteN h fun hok h => bindS h fun kx h1 h => bindS h fun src h2 h => bindS h fun cs h3 h => mapS h fun c' h4 e => .mk tgt iter ifs kx src cs c' rfl (CompOk.of hok) h1 h2 h3 h4 e
theorem callOfS {T : CT} {f : Str} {cs : List CE} {c : CE} {G : Prop} (h : callOf T f cs = some c) (k0 : ∀ k, T.funs.lookup f = some k → c = .callF k cs → G) (k1 : ∀ k, T.clss.lookup f = some k → c = .callC k cs → G) (k2 : ∀ b c1, cBi f = some b → cs = [c1] → c = .callB b c1 → G) : G := by
 unfold callOf at h
 cases hk : T.funs.lookup f with
 | some k => rw [hk] at h; exact k0 k hk (Option.some.inj h).symm
 | none =>
   rw [hk] at h
   cases hk : T.clss.lookup f with
   | some k => rw [hk] at h; exact k1 k hk (Option.some.inj h).symm
   | none =>
     rw [hk] at h
     refine bindS h fun b hb h => mapS h fun c1 hc ec => ?_
     cases cs with
     | nil => exact nn hc
     | cons c2 cs => cases cs with
       | cons => exact nn hc
       | nil => exact k2 b c1 hb (congrArg (fun c => [c]) (Option.some.inj hc)) ec.symm
theorem one_arg {T : CT} {args : List Expr} {c1 : CE} (h : mapO (cE T n sc vm) args = some [c1]) : ∃ e, args = [e] ∧ cE T n sc vm e = some c1 := by
 cases args with
 | nil => exact nomatch Option.some.inj h
 | cons e es =>
   refine consO h fun b' bs h2 h3 ec => ?_
   cases ec
   cases es with
   | cons e' es => exact consO h3 fun Z Z Z Z ec => nomatch ec
   | nil => exact ⟨e, rfl, h2⟩
theorem sim_callN (F : Facts X) (hO : OrcOk X C d rz) (IHE : SimE X C rz d n) (hA : Ar A d envs rz) (he : EnvOk env sc vm envs) {f : Str} {p pos : Pos} {args : List Expr} {c : CE} (h : cE X.T (n + 1) sc vm (.Call (.Name f p) args [] pos) = some c)
   (x : St X envs μ H s) (L : LocR X env vm μ ρ s.heap) (P : PostG X envs [] μ s (relV X) (mE X.P C rz c ρ H) Q E) : wpAny X.M A (eval (.Call (.Name f p) args [] pos) env) Q E s := by
 refine iteS h fun hg h => bindS h fun cs h1 h => ?_
 rw [arm_eval_Call_Name']
 refine callOfS h (fun k hk e => ?_) (fun k hk e => ?_) fun b c1 hb e1 e => ?_
 · rw [e] at P
   obtain ⟨fa, g1, g2, g3⟩ := F.g.funs _ _ hk
   exact wpAny_bind (ld_glob F.x x he hg g1 (sim_callK F.x IHE hA he h1 g3 x L (PostG.bind P fun vs us μ₁ H₁ s₁ e0 A1 R1 P1 => fun Z => wpAny_callO (hO A envs k fa _ _ _ _ _ Q E g2 hA.c A1.st R1 P1))))
 · rw [e] at P
   obtain ⟨ca, g1, g2, g3⟩ := F.g.clss _ _ hk
   exact wpAny_bind (ld_glob F.x x he hg g1 (sim_callK F.x IHE hA he h1 g3 x L (PostG.bind P fun vs us μ₁ H₁ s₁ e0 A1 R1 P1 => fun Z => sim_new F.x F.c hO hA A1.st g2 R1 P1)))
 · rw [e] at P
   rw [e1] at h1
   obtain ⟨e, rfl, h2⟩ := one_arg h1
   exact wpAny_bind (ld_bi F.x x he hg (F.g.bis _ _ hb) (sim_callB IHE hA he (by cases b <;> exact fun a e => nomatch e) h2 x L (PostG.bind P fun v u μ₁ H₁ s₁ e0 A1 R1 P1 => sim_bi A1.st R1 P1)))
theorem simE_succ (F : Facts X) (hO : OrcOk X C d rz) (IHE : SimE X C rz d n) (IHT : SimT X C rz d n) : SimE X C rz d (n + 1) := by
 intro sc vm e c h A envs env μ H s ρ Q E hA he x L P
 cases e with
 | Constant =>
   refine mapG h P fun mv hm P => ?_
   exact sim_const hm x P
 | Name => exact sim_name F.x F.g x he L h P
 | BinOp l op r p =>
   refine bindS h fun a h1 h => ?_
   refine bindS h fun b h2 h => ?_
   exact sim_binop IHE hA he h1 h2 h x L P
 | UnaryOp op e p =>
   cases op with
   | USub =>
     refine bindS h fun a h1 h => negS h fun i e1 e2 => ?_
     subst e1 e2
     refine wpAny_UnaryOp (IHE _ _ _ _ h1 _ _ _ _ _ _ _ _ _ hA he x L fun u μ₁ s₁ A1 R1 => ?_)
     obtain ⟨t, rfl⟩ := rv_int R1
     exact neg_int (P _ _ _ (A1.trans (Aft.tok A1.st)) rv_int_)
   | Not =>
     refine mapG h P fun a h1 P => ?_
     refine wpAny_UnaryOp (IHE _ _ _ _ h1 _ _ _ _ _ _ _ _ _ hA he x L (PostG.bind P fun a u μ₁ H₁ s₁ e0 A1 R1 P1 => ?_))
     refine PostG.toB R1 P1 fun b e P1 => ?_
     subst e
     exact wpAny_holding (wpAny_bind (wpAny_truthy_bool (wpAny_pure (PostG.ok (v := MV.bool (!b)) P1 (Aft.refl A1.st) rv_bool_))))
   | _ => exact nn h
 | BoolOp op es p =>
   refine iteN h fun hne h => ?_
   refine mapG h P fun cs h1 P => ?_
   have P2 := PostG.boolE P
   rw [arm_eval_BoolOp]
   refine sim_bool IHE hA he es h1 (fun q => hne (by rw [q]; rfl)) x L ?_
   cases op <;> exact P2
 | Compare e ops bs p =>
   refine iteN h fun hl h => ?_
   refine bindS h fun a h1 h => ?_
   refine mapG h P fun cs h2 P => ?_
   refine sim_cmp F IHE hA he (Classical.not_not.mp hl) h1 h2 x L (PostG.boolE (r := _) ?_)
   rw [qE_cmp] at P
   revert P
   cases mE X.P C rz a ρ H <;> exact fun P => P
 | IfExp t e1 e2 p =>
   refine bindS h fun a h1 h => ?_
   refine bindS h fun b h2 h => ?_
   refine mapG h P fun b' h3 P => ?_
   have P1 : PostG X envs [] μ s (relV X) (((mE X.P C rz a ρ H).bind toB).bind fun t H => if t = true then mE X.P C rz b ρ H else mE X.P C rz b' ρ H) Q E := by
     rw [qE_ite] at P
     revert P
     cases mE X.P C rz a ρ H <;> exact fun P => P
   refine wpAny_IfExp (IHT _ _ _ _ h1 _ _ _ _ _ _ _ _ _ hA he x L (PostG.bind P1 fun t u μ₁ H₁ s₁ e0 A1 R1 P2 => ?_))
   cases R1
   cases t with
   | true => exact IHE _ _ _ _ h2 _ _ _ _ _ _ _ _ _ hA he A1.st (L.aft x A1) P2
   | false => exact IHE _ _ _ _ h3 _ _ _ _ _ _ _ _ _ hA he A1.st (L.aft x A1) P2
 | List es p =>
   refine mapG h P fun cs h1 P => ?_
   exact wpAny_List (sim_args IHE hA he h1 x L (PostG.bind P fun vs us μ₁ H₁ s₁ e0 A1 R1 P1 => post_list A1.st (t := s₁.toks) P1 R1))
 | Tuple es k p =>
   refine mapG h P fun cs h1 P => ?_
   exact wpAny_Tuple (sim_args IHE hA he h1 x L (PostG.bind P fun vs us μ₁ H₁ s₁ e0 A1 R1 P1 => post_tup A1.st (t := s₁.toks) P1 R1))
 | Dict ks vs p =>
   refine iteN h fun hl h => ?_
   refine bindS h fun kvs h1 h => ?_
   refine mapG h P fun cs h2 P => ?_
   exact sim_dict F.x IHE hA he (Nat.le_of_not_lt hl) h1 h2 x L P
 | Attribute o m p =>
   refine iteN h fun hb h => ?_
   refine bindS h fun a h1 h => ?_
   refine mapG h P fun k h2 P => ?_
   exact Attribute_any_ (IHE _ _ _ _ h1 _ _ _ _ _ _ _ _ _ hA he x L (PostG.bind P fun a u μ₁ H₁ s₁ e0 A1 R1 P1 => sim_attr F.x F.c A1.st (str_get h2) R1 P1)) (attr_eval (Bool.of_not_eq_false hb))
 | Subscript o i p =>
   by_cases hi : ∃ a b c d, i = .Slice a b c d
   · obtain ⟨lo, up, st, q, rfl⟩ := hi
     cases lo with
     | none =>
       cases up with
       | none => exact nn h
       | some up =>
         cases st with
         | some => exact nn h
         | none =>
           refine bindS h fun a h1 h => ?_
           refine mapG h P fun b h2 P => ?_
           exact (sim_slE IHE hA he h1 h2 x L).2 P
     | some lo =>
       cases up with
       | some => exact nn h
       | none =>
         cases st with
         | some => exact nn h
         | none =>
           refine bindS h fun a h1 h => ?_
           refine mapG h P fun b h2 P => ?_
           exact (sim_slE IHE hA he h1 h2 x L).1 P
   · refine bindS (cE_item (fun a b c d q => hi ⟨a, b, c, d, q⟩) h) fun a h1 h => ?_
     refine mapG h P fun b h2 P => ?_
     refine Subscript_ (IHE _ _ _ _ h1 _ _ _ _ _ _ _ _ _ hA he x L (PostG.bind P fun a u μ₁ H₁ s₁ e0 A1 R1 P1 => ?_))
     refine IHE _ _ _ _ h2 _ _ _ _ _ _ _ _ _ hA he A1.st (L.aft x A1) (PostG.bind P1 fun b v μ₂ H₂ s₂ e0 A2 R2 P2 => ?_)
     exact (sim_item F.x A2.st (A2.rv A1.st NoTup.nil R1) R2 P2).2
 | Call g args ks pos =>
   cases g with
   | Name f p =>
     cases ks with
     | cons => exact nn h
     | nil => exact sim_callN F hO IHE hA he h x L P
   | Attribute o m q =>
     cases ks with
     | cons => exact nn h
     | nil =>
       refine iteN h fun hb h => ?_
       rw [not_or, not_or] at hb
       refine bindS h fun a h1 h => ?_
       refine bindS h fun k h2 h => ?_
       refine mapG h P fun cs h3 P => ?_
       exact sim_meth F.x F.c F.g hO IHE hA he (Bool.of_not_eq_false hb.1) (Nat.le_of_not_lt hb.2.1) (Bool.of_not_eq_false hb.2.2) h1 (str_get h2) h3 x L P
   | _ => exact nn h
 | ListComp elt gens sc' p =>
   obtain ⟨tgt, iter, ifs, xs, src, cs, c₀, rfl, ok, g1, g2, g3, g4, rfl⟩ := cE_lc h
   exact sim_lcE F.x F.g IHE IHT hA he ok g1 g2 g3 g4 x L P
 | _ => exact nn h
end
section
open PySem PySem.W PySem.Calls PyProof.Rows
variable {X : Cx} {C : Orc} {N : Nat} {rz : Bool} {d n : Nat} {sc : Scope} {vm : VM} {A : Around} {envs : List Env} {env : Env} {μ : List Addr} {H : MH} {s : Shared} {ρ : Loc} {Q E : Value → Shared → Prop}
theorem sim_tchain (hX : XOk X) (IH : SimE X C rz d n) (hA : Ar A d envs rz) (he : EnvOk env sc vm envs) {pos : Pos} (es : List Expr) : ∀ {cs : List CE} {ops : List CmpOp} {μ : List Addr} {H : MH} {s : Shared} {a : MV} {u : Value} {Q : Bool → Shared → Prop}, mapO (cE X.T n sc vm) es = some cs →
   ops.length = es.length → St X envs μ H s → LocR X env vm μ ρ s.heap → RV X.T.strs μ s.heap a u → PostG X envs [] μ s relB (mChain X.P C rz a (ops.map cCop) cs ρ H) Q E → wpAny X.M A (testChain pos u ops (evalEach es env)) Q E s := by
 induction es with
 | nil =>
   intro cs ops μ H s a u Q h hl x L ru P
   cases h
   cases ops with
   | nil => exact P.elim
   | cons => exact nomatch hl
 | cons e es ih =>
   intro cs ops μ H s a u Q h hl x L ru P
   refine consO h fun b bs h1 h2 ec => ?_
   subst ec
   cases ops with
   | nil => exact nomatch hl
   | cons op ops =>
   have hl := Nat.succ.inj hl
   cases es with
   | nil =>
     cases h2
     cases ops with
     | cons => exact nomatch hl
     | nil =>
     have P : PostG X envs [] μ s relB ((mE X.P C rz b ρ H).bind fun y H => mCompR (cCop op) a y H) Q E := P
     exact test_last (IH _ _ _ _ h1 _ _ _ _ _ _ _ _ _ hA he x L (PostG.bind P fun b v μ₁ H₁ s₁ Z A' R P' => sim_link (Q := fun c s₂ => wpAny X.M A (truthy c) Q E s₂) hX hA.cl66 A'.st (A'.rv x NoTup.nil ru) R (mem_of_post P' fun r s' q => wpAny_truthy_bool q)))
   | cons e' es =>
     cases ops with
     | nil => exact nomatch hl
     | cons op' ops =>
     refine consO h2 fun c' cs' h3 h4 ec => ?_
     subst ec
     have P : PostG X envs [] μ s relB ((mE X.P C rz b ρ H).bind fun y H => (mCompR (cCop op) a y H).bind fun c H => if c then mChain X.P C rz y ((op' :: ops).map cCop) (c' :: cs') ρ H else .ok false H) Q E := P
     refine test_link (IH _ _ _ _ h1 _ _ _ _ _ _ _ _ _ hA he x L (PostG.bind P fun b v μ₁ H₁ s₁ Z A' R P' => sim_link hX hA.cl66 A'.st (A'.rv x NoTup.nil ru) R (PostG.bind P' fun r r' μ₂ H₂ s₂ Z A'' R'' P'' => ?_)))
     cases R''
     refine wpAny_truthy_bool ?_
     cases r with
     | true => exact ih h2 hl A''.st ((L.aft x A').aft A'.st A'') (A''.rv A'.st NoTup.nil R) P''
     | false => exact PostG.ok P'' (Aft.refl A''.st) rfl
theorem mapT {α : Type} {o : Option α} {f : α → CE} {c : CE} {G : Prop} {Q : Bool → Shared → Prop} (h : o.map f = some c) (P : PostG X envs [] μ s relB ((mE X.P C rz c ρ H).bind toB) Q E) (k : ∀ a, o = some a → PostG X envs [] μ s relB ((mE X.P C rz (f a) ρ H).bind toB) Q E → G) : G := mapS h fun a e e2 => k a e (e2.symm ▸ P)
noncomputable def special : Expr → Bool
 | .UnaryOp .Not _ _ => true
 | .BoolOp _ _ _ => true
 | .IfExp _ _ _ _ => true
 | .Compare _ _ _ _ => true
 | _ => false
set_option tactic.hygienic true in
theorem isT_value {e : Expr} {whole : Sem Value} (h : special e = false) : isTrue e env whole = (do let v ← whole; standAt e.pos; holding [v] (truthy v)) := by
 cases e <;> first | rfl | (cases h; done) | skip
 rename_i op _ _
 cases op <;> first | rfl | cases h
theorem simT_succ (F : Facts X) (hO : OrcOk X C d rz) (IHE : SimE X C rz d n) (IHT : SimT X C rz d n) : SimT X C rz d (n + 1) := by
 intro sc vm e c h A envs env μ H s ρ Q E hA he x L P
 by_cases hs : special e = false
 · have IHE1 := simE_succ F hO IHE IHT
   refine wpAny_isTrue_value (IHE1 _ _ _ _ h _ _ _ _ _ _ _ _ _ hA he x L (PostG.bind P fun a u μ₁ H₁ s₁ e0 A1 R1 P1 => ?_)) (isT_value hs)
   obtain ⟨b, e, _, q⟩ := toB_ok A1.st R1 P1
   subst e
   exact wpAny_truthy_bool q
 · cases e with
   | UnaryOp op e p =>
     cases op with
     | Not =>
       refine mapT h P fun a h1 P => ?_
       rw [qE_not] at P
       refine wpAny_isTrue_Not (IHT _ _ _ _ h1 _ _ _ _ _ _ _ _ _ hA he x L ?_)
       revert P
       cases mE X.P C rz a ρ H with
       | bad => exact fun P => P
       | exc => exact fun P => P
       | ok v H1 =>
         cases v <;> first | exact fun P => P | skip
         exact fun P u μ' s' A' R => by cases R; exact P _ _ _ A' rfl
     | _ => exact absurd rfl hs
   | BoolOp op es p =>
     refine iteN h fun Z h => ?_
     refine mapT h P fun cs h1 P => ?_
     have P2 := PostG.boolT P
     refine wpAny_isTrue_BoolOp (sim_allTrue IHT hA he es h1 x L ?_)
     cases op <;> exact P2
   | Compare a ops bs p =>
     refine iteN h fun hl h => ?_
     refine bindS h fun ca h1 h => ?_
     refine mapT h P fun cs h2 P => ?_
     have P2 : PostG X envs [] μ s relB ((mE X.P C rz ca ρ H).bind fun v H => mChain X.P C rz v (ops.map cCop) cs ρ H) Q E := by
       refine PostG.boolT (r := _) ?_
       rw [qE_cmp] at P
       revert P
       cases mE X.P C rz ca ρ H <;> exact fun P => P
     rw [arm_isTrue_Compare, markedEach_of_false _ _ _ (lastMarks_no h2)]
     refine wpAny_bind (IHE _ _ _ _ h1 _ _ _ _ _ _ _ _ _ hA he x L (PostG.bind P2 fun v u μ₁ H₁ s₁ e0 A1 R1 P1 => ?_))
     exact sim_tchain F.x IHE hA he bs h2 (Classical.not_not.mp hl) A1.st (L.aft x A1) R1 P1
   | IfExp t e1 e2 p =>
     refine bindS h fun a h1 h => ?_
     refine bindS h fun b h2 h => ?_
     refine mapT h P fun b' h3 P => ?_
     have P1 : PostG X envs [] μ s relB (((mE X.P C rz a ρ H).bind toB).bind fun t H => (if t = true then mE X.P C rz b ρ H else mE X.P C rz b' ρ H).bind toB) Q E := by
       rw [qE_ite] at P
       revert P
       cases mE X.P C rz a ρ H with
       | bad => exact fun P => P
       | exc => exact fun P => P
       | ok v H1 => cases v <;> exact fun P => P
     rw [arm_isTrue_IfExp]
     refine wpAny_bind (IHT _ _ _ _ h1 _ _ _ _ _ _ _ _ _ hA he x L (PostG.bind P1 fun t u μ₁ H₁ s₁ e0 A1 R1 P2 => ?_))
     cases R1
     cases t with
     | true => exact IHT _ _ _ _ h2 _ _ _ _ _ _ _ _ _ hA he A1.st (L.aft x A1) P2
     | false => exact IHT _ _ _ _ h3 _ _ _ _ _ _ _ _ _ hA he A1.st (L.aft x A1) P2
   | _ => exact absurd rfl hs
theorem simE_all (F : Facts X) (hO : OrcOk X C d rz) (n : Nat) : SimE X C rz d n ∧ SimT X C rz d n := by
 induction n with
 | zero => exact ⟨fun Z Z Z Z h => (nomatch h), fun Z Z Z Z h => (nomatch h)⟩
 | succ n ih => exact ⟨simE_succ F hO ih.1 ih.2, simT_succ F hO ih.1 ih.2⟩
end
section
open PySem PySem.W PySem.Calls PyProof.Rows
variable {X : Cx} {C : Orc} {N : Nat} {rz : Bool} {d n : Nat} {sc : Scope} {vm : VM} {A : Around} {envs : List Env} {env : Env} {μ : List Addr} {H : MH} {s : Shared} {ρ : Loc} {Q E : Value → Shared → Prop}
inductive NObj (h : Heap) (e : Addr) (oe : Obj) (vs : Array Value) (T₀ : Option Addr) (v3 : Value) (h' : Heap) : Prop
 | mk {oe' : Obj} {vs' : Array Value} {T : Addr} {oT : Obj} {ts : Array Value} (obj : h'.get? e = some oe') (cls : oe'.cls = oe.cls) (dict : oe'.dict = oe.dict) (data : oe'.data = .fields vs') (size : vs'.size = vs.size) (b : Tb0 h' e vs' T oT ts v3) (old : h.get? T = none ∨ some T = T₀)
structure Noted (h : Heap) (fl : List Addr) (e : Addr) (oe : Obj) (vs : Array Value) (T₀ : Option Addr) (v3 : Value) (h' : Heap) : Prop where
 keep : ∀ b o, h.get? b = some o → b ≠ e → some b ≠ T₀ → (b ∉ fl → h'.get? b = some o) ∧ (b ∈ fl → ∃ sl, h'.get? b = some { o with slots := sl })
 obj : NObj h e oe vs T₀ v3 h'
theorem dict_mapFields (o : Obj) (f : Array Value → Array Value) : (o.mapFields f).dict = o.dict := by
 obtain ⟨c, dd, dt, sl⟩ := o
 cases dt <;> rfl
theorem fun_nofields {base : Heap} {l : List Env} {h : Heap} (hl : h.FunFrames base l) {b : Addr} (hb : b ∈ fls l) {o : Obj} (ho : h.get? b = some o) : ∀ vs, o.data ≠ .fields vs := by
 obtain ⟨_, o', ho', hd⟩ := hl.mem hb
 rw [ho] at ho'; cases ho'; exact hd
theorem note_entry {base : Heap} {out : List Env} {L e : Addr} {oe : Obj} {vs : Array Value} {head : Value} {hadNext : Bool} {Q : Unit → Shared → Prop} {M : Model} {E : Value → Shared → Prop} (hfr : A.frames = some (env :: out)) (hl : s.heap.FunFrames base (env :: out)) (hf : env.frame = some L)
   (he : s.heap.get? e = some oe) (hd : oe.data = .fields vs) (hsz : 1 < vs.size) (h : ∀ h', Noted s.heap (fls (env :: out)) e oe vs none (rawInt L) h' → Q () { s with heap := h' }) :
   wpAny M A (do let a ← frameOf env; let pl ← entryPlaceOf L hadNext; let b ← EntryCells.newEntry head a .none (rawInt L) .none pl; setField (.ref e) 1 b) Q E s := by
 have hene : e ∉ fls (env :: out) := fun hm => fun_nofields hl hm he _ hd
 refine wpAny_bind (wpAny_frameOf_fun hfr hl hf fun h₁ hs₁ => ?_)
 refine wpAny_bind (wpAny_entryPlaceOf fun pl hpl => ?_)
 unfold EntryCells.newEntry newFields
 refine wpAny_bind (wpAny_newObj_type ?_ (hpl.sizeOk5 _ _ _ _ _))
 have he₁ : h₁.get? e = some oe := (hs₁.2.1 e hene).trans he
 have he₂ := Heap.get?_push_of_some (h := h₁) { cls := .type "traceback", dict := none, data := .fields ([head, .ref L, .none, rawInt L, .none] ++ (if pl.isEmpty then List.replicate 6 Value.none else pl)).toArray } he₁
 refine wpAny_setField he₂ hd hsz (h _ ?_)
 have hTe : h₁.objs.size ≠ e := Nat.ne_of_gt (Heap.lt_size he₁)
 have hd₃ := Obj.data_mapFields hd (·.setIfInBounds 1 (Value.ref h₁.objs.size))
 have he₃ := Heap.get?_update_self (Obj.mapFields (·.setIfInBounds 1 (Value.ref h₁.objs.size))) he₂ (Obj.isFreed_of_fields hd₃)
 have hT₃ := (Heap.get?_update_other (h₁.push { cls := .type "traceback", dict := none, data := .fields ([head, .ref L, .none, rawInt L, .none] ++ (if pl.isEmpty then List.replicate 6 Value.none else pl)).toArray })
   (Obj.mapFields (·.setIfInBounds 1 (Value.ref h₁.objs.size))) (Ne.symm hTe)).trans (Heap.get?_push_size h₁ rfl)
 have keep : ∀ b o, b ≠ e → h₁.get? b = some o →
     ((h₁.push { cls := .type "traceback", dict := none, data := .fields ([head, .ref L, .none, rawInt L, .none] ++ (if pl.isEmpty then List.replicate 6 Value.none else pl)).toArray }).update e (Obj.mapFields (·.setIfInBounds 1 (Value.ref h₁.objs.size)))).get? b = some o :=
   fun b o hbe hb => by
     rw [Heap.get?_update_other _ _ (Ne.symm hbe)]
     exact Heap.get?_push_of_some _ hb
 refine ⟨fun b o ho hbe Z => ⟨fun hb => keep b o hbe ((hs₁.2.1 b hb).trans ho), fun Z => ?_⟩, .mk he₃ (Obj.cls_mapFields _ _) (dict_mapFields _ _) hd₃ (by simp) ⟨by simp [hsz], hTe, hT₃, rfl, by first | (simp; done) | (rcases hpl with rfl | ⟨_, _, _, _, _, _, _, rfl⟩ <;> simp)⟩ (.inl ?_)⟩
 · obtain ⟨sl, hs⟩ := hs₁.2.2 b o ho
   exact ⟨sl, keep b _ hbe hs⟩
 · cases q : s.heap.get? h₁.objs.size with
   | none => rfl
   | some o => obtain ⟨sl, z⟩ := hs₁.2.2 _ o q; exact absurd (Heap.lt_size z) (Nat.lt_irrefl _)
set_option tactic.hygienic true in
theorem note_more {base : Heap} {out : List Env} {L e T : Addr} {oe oT : Obj} {vs ts : Array Value} {head : Value} {hadNext : Bool} {Q : Unit → Shared → Prop} {M : Model} {E : Value → Shared → Prop} (hfr : A.frames = some (env :: out)) (hl : s.heap.FunFrames base (env :: out)) (hf : env.frame = some L)
   (he : s.heap.get? e = some oe) (hd : oe.data = .fields vs) (b : Tb0 s.heap e vs T oT ts .none) (h : ∀ h', Noted s.heap (fls (env :: out)) e oe vs (some T) (rawInt L) h' → Q () { s with heap := h' }) :
   wpAny M A (do let a ← frameOf env; let pl ← entryPlaceOf L hadNext; let b ← EntryCells.newEntry head a .none (rawInt L) .none pl; setField (.ref e) 1 b) Q E { s with heap := s.heap.update T (Obj.mapFields (·.setIfInBounds 3 Value.none)) } := by
 have other : ∀ b, b ≠ T → (s.heap.update T (Obj.mapFields (·.setIfInBounds 3 Value.none))).get? b = s.heap.get? b := fun b hb => Heap.get?_update_other _ _ (Ne.symm hb)
 have noT : ∀ c o, s.heap.get? c = some o → (∀ vs, o.data ≠ .fields vs) → c ≠ T := fun c o hb hnf q => by
   subst q; cases b.obj.symm.trans hb; exact hnf ts b.data
 refine note_entry hfr (hl.of_keeps fun b o hb hnf => ⟨o, (other b (noT b o hb hnf)).trans hb, rfl⟩) hf ((other e (Ne.symm b.ne)).trans he) hd (Array.getElem?_eq_some_iff.mp b.at_).1 fun h' n => h h' ⟨fun c o ho hbe hbT => ?_, ?_⟩
 · exact n.keep c o ((other c (fun q => hbT (congrArg some q))).trans ho) hbe (fun q => nomatch q)
 · obtain ⟨a1, a2, a3, a4, a5, a6, a7⟩ := n.obj
   rename_i oe' vs' T' oT' ts'
   refine .mk a1 a2 a3 a4 a5 a6 ?_
   by_cases q : T' = T
   · exact .inr (congrArg some q)
   · exact .inl ((other T' q).symm.trans (a7.resolve_right (fun z => nomatch z)))
set_option tactic.hygienic true in
theorem note_core {base : Heap} {out : List Env} {L e : Addr} {oe : Obj} {vs : Array Value} {Q : Unit → Shared → Prop} {M : Model} {E : Value → Shared → Prop} (hfr : A.frames = some (env :: out)) (hl : s.heap.FunFrames base (env :: out)) (hf : env.frame = some L)
   (he : s.heap.get? e = some oe) (hd : oe.data = .fields vs) {h₀ : Heap} {envs : List Env} (hT : FlT X envs h₀ μ s.heap e vs) (hL : envs.head?.bind (·.frame) = some L)
   (h : ∀ h' T₀, Noted s.heap (fls (env :: out)) e oe vs T₀ (rawInt L) h' → (∀ T, T₀ = some T → vs[1]? = some (.ref T)) → Q () { s with heap := h' }) : wpAny M A (noteFrame (.ref e) env) Q E s := by
 unfold noteFrame
 simp only [hf]
 cases hT with
 | none h1 =>
   refine wpAny_bind (wpAny_field he hd h1 ?_)
   rw [if_neg (by decide)]
   exact note_entry hfr hl hf he hd (Array.getElem?_eq_some_iff.mp h1).1 fun h' n => h h' none n (fun T e => nomatch e)
 | @some T oT ts v b _ _ _ hv =>
   refine wpAny_bind (wpAny_field he hd b.at_ ?_)
   rw [if_pos (show (Value.ref T != Value.none) = true from rfl)]
   refine wpAny_bind (wpAny_field b.obj b.data b.fl ?_)
   rcases hv with rfl | ⟨F, hF, rfl⟩
   · rw [if_neg (show ¬ ((Value.none == rawInt L) = true) from fun z => nb z)]
     exact wpAny_bind (wpAny_setField b.obj b.data (Array.getElem?_eq_some_iff.mp b.fl).1 (note_more hfr hl hf he hd b fun h' n => h h' (some T) n (fun T' e => by cases e; exact b.at_)))
   · cases hL.symm.trans hF
     rw [if_pos (show (rawInt L == rawInt L) = true from by simp)]
     exact wpAny_pure (h s.heap (some T) ⟨fun b o ho Z Z => ⟨fun Z => ho, fun Z => ⟨o.slots, ho⟩⟩, .mk he rfl rfl hd rfl b (.inr rfl)⟩ (fun T' e => by cases e; exact b.at_))
theorem flight_core {e : Addr} {oe : Obj} {vs : Array Value} {T : Addr} {oT : Obj} {ts : Array Value} {v : Value} {fr : Option Addr} {Q : Unit → Shared → Prop} {M : Model} {E : Value → Shared → Prop} {fl : List Addr} (he : s.heap.get? e = some oe) (hd : oe.data = .fields vs)
   (b : Tb0 s.heap e vs T oT ts v) (h : ∀ h', Noted s.heap fl e oe vs (some T) (fr.elim .none fun f => rawInt f) h' → Q () { s with heap := h' }) : wpAny M A (setFlight (.ref e) fr) Q E s := by
 have hsz3 : 3 < ts.size := (Array.getElem?_eq_some_iff.mp b.fl).1
 have other : ∀ b, b ≠ T → (s.heap.update T (Obj.mapFields (·.setIfInBounds 3 (fr.elim Value.none fun f => rawInt f)))).get? b = s.heap.get? b := fun b hb => Heap.get?_update_other _ _ (Ne.symm hb)
 have hd3 := Obj.data_mapFields b.data (·.setIfInBounds 3 (fr.elim Value.none fun f => rawInt f))
 unfold setFlight
 refine wpAny_bind (wpAny_field he hd b.at_ ?_)
 rw [if_pos (show (Value.ref T != Value.none) = true from rfl)]
 refine wpAny_setField b.obj b.data hsz3 (h _ ⟨fun c o ho hbe hbT => ?_, .mk ((other e (Ne.symm b.ne)).trans he) rfl rfl hd rfl ⟨b.at_, b.ne, Heap.get?_update_self _ b.obj (Obj.isFreed_of_fields hd3), hd3, by simp [hsz3]⟩ (.inr rfl)⟩)
 have k := (other c (fun q => hbT (congrArg some q))).trans ho
 exact ⟨fun Z => k, fun Z => ⟨o.slots, k⟩⟩
end
section
open PySem PySem.W PySem.Calls PyProof.Rows
variable {X : Cx} {C : Orc} {N : Nat} {rz : Bool} {d n : Nat} {sc : Scope} {vm : VM} {A : Around} {envs : List Env} {env : Env} {μ : List Addr} {H : MH} {s : Shared} {ρ : Loc} {Q E : Value → Shared → Prop}
theorem LocR.slots {h h' : Heap} (L : LocR X env vm μ ρ h) (k : ∀ a ∈ exL env, ∀ o, h.get? a = some o → ∃ sl, h'.get? a = some { o with slots := sl }) (T : TKeep h h') : LocR X env vm μ ρ h' := by
 refine ⟨L.nm, L.nb, ?_, fun n c hc => ?_⟩
 · obtain ⟨m, hn, r⟩ := L.loc
   refine ⟨m, ns_slots hn fun o e => k _ (.head _) o e, fun n x mv h1 h2 h3 => ?_⟩
   obtain ⟨v, a, b⟩ := r n x mv h1 h2 h3
   exact ⟨v, a, b.mono (MExt.refl _) T⟩
 · obtain ⟨v, ⟨o, e, q⟩, r⟩ := L.cell n c hc
   obtain ⟨sl, e'⟩ := k c (List.mem_cons_of_mem _ (List.mem_map.mpr ⟨_, hc, rfl⟩)) o e
   refine ⟨v, ⟨_, e', q⟩, fun h0 x mv h1 h2 h3 => ?_⟩
   obtain ⟨u, a, b⟩ := r h0 x mv h1 h2 h3
   exact ⟨u, a, b.mono (MExt.refl _) T⟩
structure NoteAt (X : Cx) (h₀ : Heap) (μ : List Addr) (h : Heap) (e : Addr) (T₀ : Option Addr) : Prop where
 e₀ : h₀.get? e = none
 em : e ∉ μ
 eb : X.base.get? e = none
 eo : ∃ o vs, h.get? e = some o ∧ o.data = .fields vs
 t : ∀ T, T₀ = some T → h₀.get? T = none ∧ T ∉ μ ∧ X.base.get? T = none ∧ ∃ o vs, h.get? T = some o ∧ o.data = .fields vs
theorem NoteAt.ne {h₀ h : Heap} {e : Addr} {T₀ : Option Addr} (n : NoteAt X h₀ μ h e T₀) {b : Addr} {o : Obj} (hb : h.get? b = some o) (hd : ∀ vs, o.data ≠ .fields vs) : b ≠ e ∧ some b ≠ T₀ := by
 refine ⟨fun q => ?_, fun q => ?_⟩
 · obtain ⟨o', vs, e1, e2⟩ := n.eo
   subst q; cases e1.symm.trans hb; exact hd vs e2
 · obtain ⟨_, _, _, o', vs, e1, e2⟩ := n.t b q.symm
   cases e1.symm.trans hb; exact hd vs e2
theorem NoteAt.ne0 {h₀ h : Heap} {e : Addr} {T₀ : Option Addr} (n : NoteAt X h₀ μ h e T₀) {b : Addr} {o : Obj} (hb : h₀.get? b = some o) : b ≠ e ∧ some b ≠ T₀ :=
 ⟨fun q => nn ((q ▸ n.e₀ : h₀.get? b = none).symm.trans hb), fun q => nn ((n.t b q.symm).1.symm.trans hb)⟩
theorem NoteAt.neB {h₀ h : Heap} {e : Addr} {T₀ : Option Addr} (n : NoteAt X h₀ μ h e T₀) {b : Addr} {o : Obj} (hb : X.base.get? b = some o) : b ≠ e ∧ some b ≠ T₀ :=
 ⟨fun q => nn ((q ▸ n.eb : X.base.get? b = none).symm.trans hb), fun q => nn ((n.t b q.symm).2.2.1.symm.trans hb)⟩
theorem NoteAt.tu {h₀ h h' : Heap} {e : Addr} {T₀ : Option Addr} {oe : Obj} {vs : Array Value} {v3 : Value} (n : NoteAt X h₀ μ h e T₀) (hn : Noted h (fls envs) e oe vs T₀ v3 h') (hf : ∀ b o, h.get? b = some o → IsTupO o → b ∉ fls envs) : TuKeep h h' := fun b o hb c => by
 obtain ⟨q1, q2⟩ := n.ne hb (fun vs q => by obtain ⟨_, xs, n, z⟩ := c; exact nomatch z.symm.trans q)
 exact (hn.keep b o hb q1 q2).1 (hf b o hb c)
theorem Aft.noted {μ₀ : List Addr} {s₀ : Shared} {ex : List Addr} (A₀ : Aft X envs ex μ₀ s₀ μ H s) {h' : Heap} {e : Addr} {T₀ : Option Addr} {oe : Obj} {vs : Array Value} {v3 : Value} (n : NoteAt X s₀.heap μ s.heap e T₀)
   (hn : Noted s.heap (fls envs) e oe vs T₀ v3 h') : Aft X envs ex μ₀ s₀ μ H { s with heap := h' } := by
 have x := A₀.st
 have T : TuKeep s.heap h' := n.tu hn fun b o hb c => x.tup_nofl hb c
 refine ⟨⟨x.len, x.nd, fun i o a e1 e2 => ?_, fun b o hb => ?_, x.new, fun env he => ?_, x.fl, x.gens, x.os, x.m₀⟩, A₀.ext, fun b o hb => ?_⟩
 · have r := x.obj i o a e1 e2
   obtain ⟨ox, q, _⟩ := r.kind
   have ma := List.mem_of_getElem? e2
   refine r.mono (MExt.refl _) T ?_
   rw [q]
   exact (hn.keep a ox q (fun z => n.em (z ▸ ma)) (fun z => (n.t a z.symm).2.1 ma)).1 (fun m => x.fl a m ma)
 · obtain ⟨q1, q2⟩ := n.neB hb
   refine (hn.keep b o (x.stays b o hb) q1 q2).1 fun m => ?_
   obtain ⟨env, he, hf⟩ := List.mem_filterMap.mp m
   obtain ⟨_, L', o', es, ep, b1, b2, b3, b4⟩ := x.frs env he
   cases hf.symm.trans b1
   exact nn (b2.symm.trans hb)
 · obtain ⟨a0, L', o', es, ep, b1, b2, b3, b4⟩ := x.frs env he
   obtain ⟨q1, q2⟩ := n.ne b3 (fun vs q => nomatch b4.symm.trans q)
   obtain ⟨sl, z⟩ := (hn.keep L' o' b3 q1 q2).2 (List.mem_filterMap.mpr ⟨env, he, b1⟩)
   exact ⟨a0, L', _, es, ep, b1, b2, z, b4⟩
 · obtain ⟨q1, q2⟩ := n.ne0 hb
   obtain ⟨k1, k2, o', k3⟩ := A₀.keep b o hb
   refine ⟨fun a1 a2 a3 => (hn.keep b o (k1 a1 a2 a3) q1 q2).1 a3, fun a1 a2 a3 => ?_, ?_⟩
   · obtain ⟨sl, z⟩ := k2 a1 a2 a3
     obtain ⟨sl', z'⟩ := (hn.keep b _ z q1 q2).2 a1
     exact ⟨sl', z'⟩
   · by_cases m : b ∈ fls envs
     · obtain ⟨sl', z'⟩ := (hn.keep b _ k3 q1 q2).2 m
       exact ⟨_, z'⟩
     · exact ⟨o', (hn.keep b _ k3 q1 q2).1 m⟩
theorem LocR.noted (x : St X envs μ H s) (L : LocR X env vm μ ρ s.heap) {h₀ h' : Heap} {e : Addr} {T₀ : Option Addr} {oe : Obj} {vs : Array Value} {v3 : Value} (n : NoteAt X h₀ μ s.heap e T₀) (hn : Noted s.heap (fls envs) e oe vs T₀ v3 h') : LocR X env vm μ ρ h' := by
 refine L.slots (fun a m o ho => ?_) (n.tu hn fun b o hb c => x.tup_nofl hb c).t
 have nf : ∀ vs, o.data ≠ .fields vs := fun vs q => by
   cases m with
   | head =>
     obtain ⟨m', ⟨o', es, ep, e', d, _⟩, _⟩ := L.loc
     cases e'.symm.trans ho; exact nomatch d.symm.trans q
   | tail _ m =>
     obtain ⟨⟨n, c⟩, hm, rfl⟩ := List.mem_map.mp m
     obtain ⟨v, ⟨o', e', d⟩, _⟩ := L.cell n c hm
     cases e'.symm.trans ho; exact nomatch d.symm.trans q
 obtain ⟨q1, q2⟩ := n.ne ho nf
 by_cases mf : a ∈ fls envs
 · exact (hn.keep a o ho q1 q2).2 mf
 · exact ⟨o.slots, (hn.keep a o ho q1 q2).1 mf⟩
theorem Flies.at {h₀ : Heap} {xc : MExc} {e : Addr} {oe : Obj} {vs : Array Value} {dx : Addr} {kvs : List (Str × Value)} (f : Flies X envs h₀ μ s.heap xc e) (g : FlO X envs h₀ μ s.heap xc e oe vs dx kvs) {T₀ : Option Addr} (hT : ∀ T, T₀ = some T → vs[1]? = some (.ref T)) :
   NoteAt X h₀ μ s.heap e T₀ := by
 refine ⟨f.new, f.nm, f.nb, ⟨oe, vs, g.obj, g.data⟩, fun T q => ?_⟩
 have h1 := hT T q
 cases g.tb with
 | none q => cases h1.symm.trans q
 | some b n m nb _ => cases h1.symm.trans b.at_; exact ⟨n, m, nb, _, _, b.obj, b.data⟩
inductive FlB (X : Cx) (envs : List Env) (h₀ : Heap) (μ : List Addr) (h : Heap) (x : MExc) (e : Addr) (v : Value) : Prop
 | mk {oe : Obj} {vs : Array Value} {dx : Addr} {kvs : List (Str × Value)} {T : Addr} {oT : Obj} {ts : Array Value} (f : Flies X envs h₀ μ h x e) (g : FlO X envs h₀ μ h x e oe vs dx kvs) (b : Tb0 h e vs T oT ts v)
set_option tactic.hygienic true in
theorem Flies.noted {s₀ : Shared} (x : St X envs μ H s) (dom : ∀ b, s.heap.get? b = none → s₀.heap.get? b = none) (nofl : ∀ b, s₀.heap.get? b = none → b ∉ fls envs) {xc : MExc} {e : Addr} {oe : Obj} {vs : Array Value} {dx : Addr} {kvs : List (Str × Value)}
   (f : Flies X envs s₀.heap μ s.heap xc e) (g : FlO X envs s₀.heap μ s.heap xc e oe vs dx kvs) {T₀ : Option Addr} (n : NoteAt X s₀.heap μ s.heap e T₀) {v3 : Value} {h' : Heap} (hn : Noted s.heap (fls envs) e oe vs T₀ v3 h')
   (hv : FlV envs v3) : FlB X envs s₀.heap μ h' xc e v3 := by
 have TK := n.tu hn fun b o hb c => x.tup_nofl hb c
 obtain ⟨a1, a2, a3, a4, a5, b, a8⟩ := hn.obj
 rename_i oe' vs' T oT ts
 have tT : s₀.heap.get? T = none ∧ T ∉ μ ∧ X.base.get? T = none := by
   rcases a8 with q | q
   · refine ⟨dom T q, new_nomu x q, ?_⟩
     cases z : X.base.get? T with
     | none => rfl
     | some o => exact nn (q.symm.trans (x.stays _ _ z))
   · obtain ⟨b1, b2, b3, _⟩ := n.t T q.symm
     exact ⟨b1, b2, b3⟩
 obtain ⟨ca, c1, c2⟩ := g.cls
 obtain ⟨o, es, ep, ho, _, hx, _⟩ := id g.dobj
 obtain ⟨q1, q2⟩ := n.ne ho fun vs q => nomatch hx.symm.trans q
 have kd : h'.get? dx = s.heap.get? dx := ((hn.keep dx o ho q1 q2).1 (nofl _ g.dnew)).trans ho.symm
 have G : FlO X envs s₀.heap μ h' xc e oe' vs' dx kvs := ⟨a1, ⟨ca, a2.trans c1, c2⟩, a4, a3.trans g.dict, a5.symm ▸ g.size, .some b tT.1 tT.2.1 tT.2.2 hv, g.dnew, g.dm, g.db, dictOf_keeps g.dobj kd, g.dr.mono (MExt.refl _) TK.t⟩
 exact .mk ⟨f.new, f.nm, f.nb, oe', vs', dx, kvs, G⟩ G b
abbrev ExcP (X : Cx) (envs : List Env) (env : Env) (vm : VM) (ex μ : List Addr) (s : Shared) (x : MExc) (ρ : Loc) (H : MH) (E : Value → Shared → Prop) : Prop :=
 ∀ e μ' s', Aft X envs ex μ s μ' H s' → LocR X env vm μ' ρ s'.heap → Flies X envs s.heap μ' s'.heap x e → E (.ref e) s'
theorem ExcP.after {μ₀ : List Addr} {H₀ : MH} {s₀ : Shared} {ex : List Addr} (x₀ : St X envs μ₀ H₀ s₀) (A0 : Aft X envs ex μ₀ s₀ μ H s) (Lr : LocR X env vm μ ρ s.heap) {xc : MExc} {e : Addr} {oe : Obj} {vs : Array Value} {dx : Addr} {kvs : List (Str × Value)}
   (f : Flies X envs s₀.heap μ s.heap xc e) (g : FlO X envs s₀.heap μ s.heap xc e oe vs dx kvs) {T₀ : Option Addr} (hT : ∀ T, T₀ = some T → vs[1]? = some (.ref T)) {v3 : Value} {h' : Heap} (hn : Noted s.heap (fls envs) e oe vs T₀ v3 h') (hv : FlV envs v3) :
   Aft X envs ex μ₀ s₀ μ H { s with heap := h' } ∧ LocR X env vm μ ρ h' ∧ FlB X envs s₀.heap μ h' xc e v3 := by
 have n := f.at g hT
 exact ⟨A0.noted n hn, Lr.noted A0.st n hn, Flies.noted A0.st (fun b q => A0.dom q) (fun b q => new_nofl x₀ q) f g n hn hv⟩
theorem ExcP.note {μ₀ : List Addr} {H₀ : MH} {s₀ : Shared} {ex : List Addr} {out : List Env} {L : Addr} (hfr : A.frames = some (env :: out)) (hf : env.frame = some L) (x₀ : St X (env :: out) μ₀ H₀ s₀) {xc : MExc} {H' : MH} {ρ' : Loc}
   {G E'' : Value → Shared → Prop} (P : ∀ e μ' s', Aft X (env :: out) ex μ₀ s₀ μ' H' s' → LocR X env vm μ' ρ' s'.heap → FlB X (env :: out) s₀.heap μ' s'.heap xc e (rawInt L) → G (.ref e) s') :
   ∀ e μ' s', Aft X (env :: out) ex μ₀ s₀ μ' H' s' → LocR X env vm μ' ρ' s'.heap → Flies X (env :: out) s₀.heap μ' s'.heap xc e → wpAny X.M A (noteFrame (.ref e) env) (fun Z s'' => G (.ref e) s'') E'' s' := by
 intro e μ' s' A0 Lr f
 obtain ⟨oe, vs, dx, kvs, g⟩ := f.obj
 refine note_core (base := X.base) hfr A0.st.frs.fun hf g.obj g.data g.tb hf fun h' T₀ hn hT => ?_
 obtain ⟨a, l, b⟩ := ExcP.after x₀ A0 Lr f g hT hn (.inr ⟨L, hf, rfl⟩)
 exact P e μ' _ a l b
theorem ExcP.loop {μ₀ : List Addr} {H₀ : MH} {s₀ : Shared} {ex : List Addr} {out : List Env} {L : Addr} (hfr : A.frames = some (env :: out)) (hf : env.frame = some L) (x₀ : St X (env :: out) μ₀ H₀ s₀) {xc : MExc} {H' : MH} {ρ' : Loc}
   (P : ExcP X (env :: out) env vm ex μ₀ s₀ xc ρ' H' E) : ExcP X (env :: out) env vm ex μ₀ s₀ xc ρ' H' (notedBy X.M A env (cameBackBy X.M A env E)) := by
 refine ExcP.note (G := cameBackBy X.M A env E) hfr hf x₀ fun e μ' s' A0 Lr z => ?_
 obtain ⟨f, g, b⟩ := z
 unfold cameBackBy
 refine wpAny_bind (wpAny_field g.obj g.data b.at_ ?_)
 rw [if_neg (by exact fun z => nb z), hf]
 refine flight_core (fl := fls (env :: out)) g.obj g.data b fun h' hn => ?_
 obtain ⟨a, l, ⟨f', _, _⟩⟩ := ExcP.after x₀ A0 Lr f g (fun T' q => by cases q; exact b.at_) hn (.inr ⟨L, hf, rfl⟩)
 exact P e μ' _ a l f'
theorem ExcP.leave {μ₀ : List Addr} {H₀ : MH} {s₀ : Shared} {ex : List Addr} {out : List Env} {L : Addr} (hfr : A.frames = some (env :: out)) (hf : env.frame = some L) (x₀ : St X (env :: out) μ₀ H₀ s₀) {xc : MExc} {H' : MH} {ρ' : Loc} {G E' : Value → Shared → Prop}
   (P : ∀ e μ' s', Aft X (env :: out) ex μ₀ s₀ μ' H' s' → Flies X (env :: out) s₀.heap μ' s'.heap xc e → (∀ (envs' : List Env), Flies X envs' s₀.heap μ' s'.heap xc e) → G (.ref e) s') :
   ExcP X (env :: out) env vm ex μ₀ s₀ xc ρ' H' (fun e s' => wpAny X.M A (leaving env e) (fun Z s'' => G e s'') E' s') := by
 intro e μ' s' A0 Lr f
 unfold leaving
 refine wpAny_bind (ExcP.note (vm := vm) (G := fun e s' => wpAny X.M A (setFlight e none) (fun Z s'' => G e s'') E' s') hfr hf x₀ (fun e μ' s' A0 Lr z => ?_) e μ' s' A0 Lr f)
 obtain ⟨f, g, b⟩ := z
 refine flight_core (fl := fls (env :: out)) g.obj g.data b fun h' hn => ?_
 obtain ⟨a, l, ⟨f', g', b'⟩⟩ := ExcP.after x₀ A0 Lr f g (fun T' q => by cases q; exact b.at_) hn (.inl rfl)
 exact P e μ' _ a f' fun envs' => ⟨f'.new, f'.nm, f'.nb, _, _, _, _, g'.obj, g'.cls, g'.data, g'.dict, g'.size, by
   cases g'.tb with
   | none q => exact .none q
   | some b n m nb _ => cases b.at_.symm.trans b'.at_; exact .some b' n m nb (.inl rfl), g'.dnew, g'.dm, g'.db, g'.dobj, g'.dr⟩
end
section
open PySem PySem.W PySem.Calls PyProof.Rows
variable {X : Cx} {C : Bool → Orc} {N : Nat} {rz : Bool} {d n : Nat} {sc : Scope} {vm : VM} {A : Around} {envs out : List Env} {env : Env} {μ : List Addr} {H : MH} {s : Shared} {ρ : Loc} {Q : Flow → Shared → Prop} {E : Value → Shared → Prop}
noncomputable def RFl (X : Cx) (μ : List Addr) (h : Heap) : MFlow → Flow → Prop
 | .next, f => f = .next
 | .ret mv, f => ∃ v, f = .ret v ∧ RV X.T.strs μ h mv v
noncomputable def PostS (X : Cx) (envs : List Env) (env : Env) (vm : VM) (μ : List Addr) (s : Shared) (r : RS) (Q : Flow → Shared → Prop) (E : Value → Shared → Prop) : Prop := match r with
 | .bad => False
 | .ok f ρ' H' => ∀ fl μ' s', Aft X envs (exL env) μ s μ' H' s' → LocR X env vm μ' ρ' s'.heap → RFl X μ' s'.heap f fl → Q fl s'
 | .exc x ρ' H' => ExcP X envs env vm (exL env) μ s x ρ' H' E
theorem PostS.step {r : RS} {μ₁ : List Addr} {H₁ : MH} {s₁ : Shared} (A₁ : Aft X envs (exL env) μ s μ₁ H₁ s₁) (P : PostS X envs env vm μ s r Q E) : PostS X envs env vm μ₁ s₁ r Q E := by
 cases r with
 | bad => exact P.elim
 | ok f ρ' H' => exact fun fl μ' s' A' L' R => P fl μ' s' (A₁.trans A') L' R
 | exc x ρ' H' => exact fun e μ' s' A' L' F => P e μ' s' (A₁.trans A') L' (F.older fun b q => A₁.dom q)
theorem PostS.then {α β : Type} {rel : List Addr → Heap → α → β → Prop} {r : Mine.Internal.R α} {f : α → MH → RS} {Q' : β → Shared → Prop} (x : St X envs μ H s) (L : LocR X env vm μ ρ s.heap) (P : PostS X envs env vm μ s (r.then ρ f) Q E)
   (k : ∀ a b μ₁ H₁ s₁, r = .ok a H₁ → Aft X envs [] μ s μ₁ H₁ s₁ → rel μ₁ s₁.heap a b → PostS X envs env vm μ₁ s₁ (f a H₁) Q E → Q' b s₁) : PostG X envs [] μ s rel r Q' E := by
 cases r with
 | bad => exact P.elim
 | ok v H' => exact fun u μ' s' A' R => k v u μ' H' s' rfl A' R (PostS.step (r := f v H') (A'.mono fun Z m => nomatch m) P)
 | exc xc H' => exact fun e μ' s' A' F => P e μ' s' (A'.mono fun Z m => nomatch m) (L.aft x A') F
theorem PostS.ok {f : MFlow} {ρ' : Loc} {H' : MH} {fl : Flow} {μ' : List Addr} {s' : Shared} (P : PostS X envs env vm μ s (.ok f ρ' H') Q E) (A' : Aft X envs (exL env) μ s μ' H' s') (L' : LocR X env vm μ' ρ' s'.heap) (R : RFl X μ' s'.heap f fl) : Q fl s' := P fl μ' s' A' L' R
theorem PostS.seq {r : RS} {f : Loc → MH → RS} {Q' : Flow → Shared → Prop} (P : PostS X envs env vm μ s (r.seq f) Q E) (k : ∀ ρ' H' μ' s', Aft X envs (exL env) μ s μ' H' s' → LocR X env vm μ' ρ' s'.heap → PostS X envs env vm μ' s' (f ρ' H') Q E → Q' .next s')
   (k2 : ∀ u s', Q (.ret u) s' → Q' (.ret u) s') : PostS X envs env vm μ s r Q' E := by
 cases r with
 | bad => exact P
 | exc xc ρ' H' => exact P
 | ok fl ρ' H' =>
   cases fl with
   | next => exact fun fl μ' s' A' L' R => by cases R; exact k ρ' H' μ' s' A' L' (PostS.step (r := f ρ' H') A' P)
   | ret v => exact fun fl μ' s' A' L' R => by obtain ⟨u, e, q⟩ := R; subst e; exact k2 u s' (P _ μ' s' A' L' ⟨u, rfl, q⟩)
theorem PostS.opt {γ : Type} {o : Option γ} {f : γ → MH → RS} {H' : MH} {G : Prop} (P : PostS X envs env vm μ s ((optR H' o).then ρ f) Q E) (k : ∀ a, o = some a → PostS X envs env vm μ s (f a H') Q E → G) : G := by
 cases o with
 | none => exact P.elim
 | some a => exact k a rfl P
theorem PostS.iten {p : Prop} {i : Decidable p} {r : RS} {G : Prop} (P : PostS X envs env vm μ s (if p then .bad else r) Q E) (k : ¬ p → PostS X envs env vm μ s r Q E → G) : G := by
 by_cases q : p
 · rw [if_pos q] at P; exact P.elim
 · rw [if_neg q] at P; exact k q P
noncomputable def SimS (X : Cx) (C : Bool → Orc) (N d n : Nat) : Prop := ∀ (rz : Bool) (sc : Scope) (vm : VM) (st : Stmt) (c : CS), cS X.T n sc vm st = some c →
 ∀ (A : Around) (out : List Env) (env : Env) (μ : List Addr) (H : MH) (s : Shared) (ρ : Loc) (Q : Flow → Shared → Prop) (E : Value → Shared → Prop), Ar A d (env :: out) rz → EnvOk env sc vm (env :: out) → (∃ L, env.frame = some L) → St X (env :: out) μ H s →
 LocR X env vm μ ρ s.heap → PostS X (env :: out) env vm μ s (mS X.P C N c rz ρ H) Q E → wpAny X.M A (exec st env) Q E s
theorem no_inter (he : EnvOk env sc vm envs) : interactive env = false := by
 unfold interactive
 rw [he.kind]; rfl
theorem swaps_not {e : Expr} {t : Option Expr} {l : Nat} (h : ∀ a b c d, e ≠ .ListComp a b c d) {T : CT} {c : CE} (hc : cE T n sc vm e = some c) : swapsWith e t l env = pure false := by
 cases e <;> first | rfl | exact absurd rfl (h _ _ _ _) | (cases n <;> exact nn hc)
theorem sim_execs (IH : SimS X C N d n) (hA : Ar A d (env :: out) rz) (he : EnvOk env sc vm (env :: out)) (hf : ∃ L, env.frame = some L) (ss : List Stmt) : ∀ {cs : List CS} {μ : List Addr} {H : MH} {s : Shared} {ρ : Loc}, mapO (cS X.T n sc vm) ss = some cs →
   St X (env :: out) μ H s → LocR X env vm μ ρ s.heap → PostS X (env :: out) env vm μ s (mSs X.P C N cs rz ρ H) Q E → wpAny X.M A (execs ss env) Q E s := by
 induction ss with
 | nil =>
   intro cs μ H s ρ h x L P
   cases h
   exact wpAny_execs_nil (PostS.ok P (Aft.refl x) L rfl)
 | cons st ss ih =>
   intro cs μ H s ρ h x L P
   refine consO h fun b bs h1 h2 ec => ?_
   subst ec
   exact wpAny_execs_cons (IH rz _ _ _ _ h1 _ _ _ _ _ _ _ _ _ hA he hf x L (PostS.seq P (fun ρ' H' μ' s' A' L' P' => ih h2 A'.st L' P') fun u s' q => q))
structure Facts2 (X : Cx) (C : Bool → Orc) (N d : Nat) : Prop where
 f : Facts X
 o : ∀ rz, OrcOk X (C rz) d rz
theorem Facts2.e (F : Facts2 X C N d) {rz : Bool} {n : Nat} : SimE X (C rz) rz d n := (simE_all F.f (F.o rz) n).1
theorem Facts2.t (F : Facts2 X C N d) {rz : Bool} {n : Nat} : SimT X (C rz) rz d n := (simE_all F.f (F.o rz) n).2
section
variable (F : Facts2 X C N d) (hA : Ar A d (env :: out) rz) (he : EnvOk env sc vm (env :: out)) (hf : ∃ L, env.frame = some L) (x : St X (env :: out) μ H s) (L : LocR X env vm μ ρ s.heap)
include F hA he x L
theorem sim_sExpr {e : Expr} {c : CE} {pos : Pos} (hne : ∀ a b c d, e ≠ .ListComp a b c d) (h : cE X.T n sc vm e = some c) (P : PostS X (env :: out) env vm μ s (mS X.P C N (.expr c) rz ρ H) Q E) : wpAny X.M A (exec (.Expr e pos) env) Q E s := by
 refine wpAny_Expr_any (F.e _ _ _ _ h _ _ _ _ _ _ _ _ _ hA he x L (PostS.then x L P fun a b μ₁ H₁ s₁ e0 A1 R1 P1 => ?_)) (no_inter he) (swaps_not hne h)
 exact P1.ok (Aft.refl A1.st) (L.aft x A1) rfl
theorem sim_sRet {e : Expr} {c : CE} {pos : Pos} (h : cE X.T n sc vm e = some c) (P : PostS X (env :: out) env vm μ s (mS X.P C N (.ret c) rz ρ H) Q E) : wpAny X.M A (exec (.Return (some e) pos) env) Q E s := by
 refine wpAny_Return_some (F.e _ _ _ _ h _ _ _ _ _ _ _ _ _ hA he x L (PostS.then x L P fun a b μ₁ H₁ s₁ e0 A1 R1 P1 => ?_))
 exact P1.ok (Aft.refl A1.st) (L.aft x A1) ⟨b, rfl, R1⟩
theorem store_end {nm : Str} {k : Nat} {v : MV} {u : Value} {μ₁ : List Addr} {H₁ : MH} {s₁ : Shared} (hv : isVar sc nm = true) (hk : vm.lookup nm = some k) (A1 : Aft X (env :: out) [] μ s μ₁ H₁ s₁) (R1 : RV X.T.strs μ₁ s₁.heap v u)
   (P : PostS X (env :: out) env vm μ₁ s₁ (.ok .next (upd ρ k v) H₁) Q E) : wpAny X.M A (storeName env nm u) (fun Z => Q .next) E s₁ := by
 have L1 := L.aft x A1
 exact sim_store he A1.st L1 hv hk R1 fun s₂ a ma Z A2 L2 => P.ok (A2.mono fun b m => by rw [List.mem_singleton.mp m]; exact ma) L2 rfl
theorem sim_sAsg {e : Expr} {c : CE} {nm : Str} {p pos : Pos} {k : Nat} (hne : ∀ a b c d, e ≠ .ListComp a b c d) (hv : isVar sc nm = true) (hk : vm.lookup nm = some k) (h : cE X.T n sc vm e = some c)
   (P : PostS X (env :: out) env vm μ s (mS X.P C N (.asg k c) rz ρ H) Q E) : wpAny X.M A (exec (.Assign [.Name nm p] e pos) env) Q E s := by
 refine wpAny_Assign_Name (F.e _ _ _ _ h _ _ _ _ _ _ _ _ _ hA he x L (PostS.then x L P fun a b μ₁ H₁ s₁ e0 A1 R1 P1 => ?_)) (swaps_not hne h)
 exact store_end F hA he x L hv hk A1 R1 P1
theorem sim_sAsgC {sc' : Scope} {tgt elt iter : Expr} {ifs : List Expr} {cp p pos : Pos} {nm : Str} {k : Nat} {vm' : VM} {kx : Nat} {src cs : List CE} {c : CE} (hv : isVar sc nm = true) (hk : vm.lookup nm = some k)
   (ok : CompOk sc vm sc' vm' tgt) (hT : cTgt1 sc' vm' tgt = some kx) (hsrc : mapO (cE X.T n sc vm) (srcOf sc iter).2 = some src)
   (hcs : mapO (cE X.T n sc' vm') ifs = some cs) (hc : cE X.T n sc' vm' elt = some c)
   (P : PostS X (env :: out) env vm μ s (mS X.P C N (.asg k (.comp c kx (srcOf sc iter).1 src cs)) rz ρ H) Q E) : wpAny X.M A (exec (.Assign [.Name nm p] (.ListComp elt [⟨tgt, iter, ifs, 0⟩] sc' cp) pos) env) Q E s := by
 rw [qS_asg] at P
 obtain ⟨b, hb⟩ : ∃ b, swapsWith (.ListComp elt [⟨tgt, iter, ifs, 0⟩] sc' cp) (some (.Name nm p)) pos.line env = pure b := ⟨_, rfl⟩
 cases b with
 | false =>
   refine wpAny_Assign_Name (sim_lcE F.f.x F.f.g F.e F.t hA he ok hT hsrc hcs hc x L (PostS.then x L P fun a b μ₁ H₁ s₁ e0 A1 R1 P1 => ?_)) hb
   exact store_end F hA he x L hv hk A1 R1 P1
 | true =>
   rw [exec_Assign_Name_used _ _ _ _ hb]
   refine wpAny_bind (wpAny_standAt (wpAny_bind ?_))
   rw [arm_evalThenUse_ListComp]
   refine wpAny_bind (wpAny_mono (wpAny_comprehension_free (use := some (assign (.Name nm p) env)) (Q := fun Z s' => Q .next s') rfl (folded_ok hsrc) (closureFor_eq fun y m e => (free_cell he ok y m e).2) ok.kind (fun y m e => by rw [ok.look y m, e])
     (sim_lc F.f.x F.f.g F.e F.t hA he ok hT hsrc hcs hc x L (RR := fun acc Ca r s' => compPost X.M A E (some (assign (.Name nm p) env)) (fun Z s' => Q .next s') acc Ca r s') (PostS.then x L P fun mv pr μ₁ H₁ s₁ e0 A1 R1 P1 => ?_)))
     (fun Z s' hq => wpAny_pure (wpAny_pure hq)) fun Z Z e => e)
   obtain ⟨rv, LC, fC, m, hm⟩ := R1
   have L1 := L.aft x A1
   have hCE : ∀ a ∈ exL env, a ≠ pr.2 := fun a ma q => by
     obtain ⟨o, e, _⟩ := exL_dom L ma
     exact nn ((q ▸ fC : s.heap.get? a = none).symm.trans e)
   show wpAny X.M A (assign (.Name nm p) env pr.1) _ E s₁
   refine wpAny_assign_Name (sim_store he A1.st L1 hv hk rv fun s₂ a ma Z A2 L2 => ?_)
   obtain ⟨LC2, kC2⟩ := LC.aft A2 (fun b mb q => hCE a ma (by rw [List.mem_singleton.mp mb] at q; exact (List.mem_singleton.mp q).symm))
   refine ⟨m, hm.at' fun o e => (kC2 _ (.head _)).trans e, fun h' hs' => ?_⟩
   have A12 := ((A1.mono (ex' := exL env) (fun Z m => nomatch m)).trans (A2.mono (ex' := exL env) fun b m => by rw [List.mem_singleton.mp m]; exact ma))
   have k3 : ∀ b o, s₂.heap.get? b = some o → b ∉ [pr.2] → h'.get? b = some o := fun b o e nb => (hs'.2 b (fun q => nb (q ▸ .head _))).trans e
   have A3 := A12.drop LC2 (fun a m => by rw [List.mem_singleton.mp m]; exact fC) k3
   have TK : TKeep s₂.heap h' := fun a its n i2 => k3 a _ i2 fun q => LC2.notup a q _ i2 ⟨rfl, _, _, rfl⟩
   have L3 : LocR X env vm μ₁ (upd ρ k mv) h' := L2.slots (fun b mb o e => ⟨o.slots, k3 b o e fun q => hCE b mb (List.mem_singleton.mp q)⟩) TK
   rw [e0] at P
   have P : PostS X (env :: out) env vm μ s (.ok .next (upd ρ k mv) H₁) Q E := P
   exact P.ok A3 L3 rfl
end
end
section
open PySem PySem.W PySem.Calls PyProof.Rows
variable {X : Cx} {C : Bool → Orc} {N : Nat} {rz : Bool} {d n : Nat} {sc : Scope} {vm : VM} {A : Around} {envs out : List Env} {env : Env} {μ : List Addr} {H : MH} {s : Shared} {ρ : Loc} {Q : Flow → Shared → Prop} {E : Value → Shared → Prop}
theorem sim_names (he : EnvOk env sc vm envs) {ns : List Str} : ∀ {xs : List Nat} {vs : List MV} {us : List Value} {ρ ρ' : Loc} {s : Shared} {Q : Unit → Shared → Prop}, (∀ nm ∈ ns, isVar sc nm = true) → mapO (fun nm => vm.lookup nm) ns = some xs → upds ρ xs vs = some ρ' → St X envs μ H s → LocR X env vm μ ρ s.heap →
   RVs X.T.strs μ s.heap vs us → (∀ s', Aft X envs (exL env) μ s μ H s' → LocR X env vm μ ρ' s'.heap → Q () s') → wpAny X.M A (assignInOrder (ns.map fun nm => bindName env nm) us) Q E s := by
 induction ns with
 | nil =>
   intro xs vs us ρ ρ' s Q hv h hu x L r P
   cases h
   refine updsS hu (fun Z e1 e2 => ?_) fun Z Z Z Z e => nomatch e
   subst e1 e2
   cases rvs_nil r
   exact wpAny_assignInOrder_none (P s (Aft.refl x) L)
 | cons nm ns ih =>
   intro xs vs us ρ ρ' s Q hv h hu x L r P
   refine consO h fun k ks h1 h2 ec => updsS hu (fun z => nomatch z.symm.trans ec) fun k' ks' v vs' e1 e2 hu' => ?_
   cases ec.symm.trans e1
   subst e2
   obtain ⟨u, us', rfl, ru, rr⟩ := rvs_cons r
   refine wpAny_assignInOrder_more (t := fun v => bindName env nm v) (wpAny_bindName (sim_store he x L (hv nm (.head _)) h1 ru fun s₁ a ma hl A1 L1 => ?_))
   have hn : NoTup s.heap [a] := fun b m => exL_notup L b (by rw [List.mem_singleton.mp m]; exact ma)
   exact ih (fun y m => hv y (.tail _ m)) h2 hu' A1.st L1 (rr.mono (MExt.refl _) (A1.tu x hn).t) fun s' A2 L2 => P s' ((A1.mono (fun b m => by rw [List.mem_singleton.mp m]; exact ma)).trans A2) L2
theorem upds_keep {x : Nat} {xs : List Nat} : ∀ {vs : List MV} {ρ ρ' : Loc}, upds ρ xs vs = some ρ' → x ∉ xs → ρ' x = ρ x := by
 induction xs with
 | nil => intro vs ρ ρ' h _; exact updsS h (fun Z Z e => by rw [e]) fun Z Z Z Z e => nomatch e
 | cons y xs ih =>
   intro vs ρ ρ' h hx
   refine updsS h (fun e => nomatch e) fun x' xs' v vs' e1 e2 h' => ?_
   cases e1
   have ne : x ≠ y := fun q => hx (by rw [q]; exact .head _)
   exact (ih h' fun m => hx (.tail _ m)).trans (if_neg ne)
theorem upds_spec {xs : List Nat} : ∀ {vs : List MV} {ρ ρ' : Loc}, upds ρ xs vs = some ρ' → xs.Nodup → ∀ (i : Nat) (x : Nat) (v : MV), xs[i]? = some x → vs[i]? = some v → ρ' x = some v := by
 induction xs with
 | nil => intro vs ρ ρ' _ _ i x v h _; exact nn h
 | cons y xs ih =>
   intro vs ρ ρ' h hn i x v hx hv
   refine updsS h (fun e => nomatch e) fun x' xs' w vs' e1 e2 h' => ?_
   cases e1
   subst e2
   have hn := List.nodup_cons.mp hn
   cases i with
   | zero => cases hx; cases hv; exact (upds_keep h' hn.1).trans (if_pos rfl)
   | succ i => exact ih h' hn.2 i x v hx hv
theorem upds_some {xs : List Nat} : ∀ {vs : List MV} {ρ : Loc}, xs.length = vs.length → ∃ ρ', upds ρ xs vs = some ρ' := by
 induction xs with
 | nil => intro vs ρ h; cases vs with
   | nil => exact ⟨ρ, rfl⟩
   | cons => exact nomatch h
 | cons y xs ih => intro vs ρ h; cases vs with
   | nil => exact nomatch h
   | cons w vs => exact ih (ρ := upd ρ y w) (Nat.succ.inj h)
theorem upds_rev {xs : List Nat} {vs : List MV} {ρ ρ' : Loc} (h : upds ρ xs vs = some ρ') (hn : xs.Nodup) : ∃ ρ'', upds ρ xs.reverse vs.reverse = some ρ'' ∧ ∀ x v, ρ' x = some v → ρ'' x = some v := by
 have hl := upds_len h
 obtain ⟨ρ'', h2⟩ := upds_some (ρ := ρ) (show xs.reverse.length = vs.reverse.length by simp [hl])
 refine ⟨ρ'', h2, fun x v hv => ?_⟩
 by_cases m : x ∈ xs
 · obtain ⟨i, hi, e⟩ := List.getElem_of_mem m
   have hi' : i < vs.length := hl ▸ hi
   have e1 : xs[i]? = some x := by rw [List.getElem?_eq_getElem hi, e]
   have e2 : vs[i]? = some vs[i] := List.getElem?_eq_getElem hi'
   cases hv.symm.trans (upds_spec h hn i x _ e1 e2)
   refine upds_spec h2 (List.pairwise_reverse.mpr (hn.imp fun q => Ne.symm q)) (xs.length - 1 - i) x _ ?_ ?_
   · rw [List.getElem?_reverse (Nat.sub_one_sub_lt_of_lt hi), Nat.sub_sub_self (Nat.le_sub_one_of_lt hi)]; exact e1
   · rw [hl, List.getElem?_reverse (Nat.sub_one_sub_lt_of_lt hi'), Nat.sub_sub_self (Nat.le_sub_one_of_lt hi')]; exact e2
 · rw [upds_keep h2 (fun q => m (List.mem_reverse.mp q)), ← upds_keep h m]; exact hv
theorem swaps_tup {e : Expr} {es : List Expr} {k : Nat} {p : Pos} {l : Nat} : swapsWith e (some (.Tuple es k p)) l env = pure false := by cases e <;> rfl
theorem names_filter {g : Expr → Option Str} (h1 : ∀ e y, g e = some y → nmOf e = [y]) {es : List Expr} : (es.filterMap g).length = es.length → es.filterMap g = es.flatMap nmOf := by
 induction es with
 | nil => intro _; rfl
 | cons e es ih =>
   intro h
   cases q : g e with
   | some y =>
     rw [List.filterMap_cons, q] at h ⊢
     rw [List.flatMap_cons, h1 e y q, ih (Nat.succ.inj h)]; rfl
   | none =>
     rw [List.filterMap_cons, q] at h
     exact absurd (List.length_filterMap_le g es) (Nat.not_le.mpr (by rw [show (es.filterMap g).length = es.length + 1 from h]; exact Nat.lt_succ_self _))
theorem ite_or {α : Type} {p : Prop} {i : Decidable p} {a b c d : α} (h1 : a = c ∨ a = d) (h2 : b = c ∨ b = d) : (if p then a else b) = c ∨ (if p then a else b) = d := by
 by_cases q : p
 · rw [if_pos q]; exact h1
 · rw [if_neg q]; exact h2
theorem ite_or' {α : Type} {p : Prop} {i : Decidable p} {a b c d : α} (h1 : p → a = c ∨ a = d) (h2 : ¬ p → b = c ∨ b = d) : (if p then a else b) = c ∨ (if p then a else b) = d := by
 by_cases q : p
 · rw [if_pos q]; exact h1 q
 · rw [if_neg q]; exact h2 q
theorem swapped_cases {es : List Expr} {k : Nat} {p : Pos} {e : Expr} (hb : swapBad e = false) : swappedStores [.Tuple es k p] e env = pure none ∨ swappedStores [.Tuple es k p] e env = pure (some (tgtNames (.Tuple es k p))) := by
 by_cases he : ∃ vs k' p', e = .Tuple vs k' p'
 · obtain ⟨vs, k', p', rfl⟩ := he
   have hb : (vs.all (constantsAlone 8) && !vs.all (foldedForSure 8)) = false := hb
   refine ite_or (.inl rfl) (ite_or (.inl rfl) ?_)
   refine ite_or' (fun Z => .inl rfl) fun hn => ite_or' (fun Z => .inl rfl) fun hf => ite_or' (fun hc => ?_) fun Z => .inr ?_
   · rw [hc, Bool.true_and, Bool.not_eq_false'] at hb
     exact absurd hb hf
   · rw [Bool.or_eq_true, not_or] at hn
     refine congrArg (fun l => (pure (some l) : Sem (Option (List Str)))) (names_filter (fun e y q => ?_) (Classical.not_not.mp fun z => hn.1 (bne_iff_ne.mpr z)))
     cases e with
     | Name id pos => exact iteS q fun Z q => congrArg (fun z => [z]) (Option.some.inj q)
     | _ => exact nn q
 · left
   cases e <;> first | rfl | exact absurd ⟨_, _, _, rfl⟩ he
end
section
open PySem PySem.W PySem.Calls PyProof.Rows
variable {X : Cx} {C : Bool → Orc} {N : Nat} {rz : Bool} {d n : Nat} {sc : Scope} {vm : VM} {A : Around} {envs out : List Env} {env : Env} {μ : List Addr} {H : MH} {s : Shared} {ρ : Loc} {Q : Flow → Shared → Prop} {E : Value → Shared → Prop}
theorem slot_name {k : Nat} {ns : List Str} : ∀ {ks : List Nat}, mapO (fun nm => vm.lookup nm) ns = some ks → k ∈ ks → ∃ y ∈ ns, vm.lookup y = some k := by
 induction ns with
 | nil => intro ks h m; cases h; exact nomatch m
 | cons y ns ih =>
   intro ks h m
   refine consO h fun k' ks2 g1 g2 e => ?_
   subst e
   cases m with
   | head => exact ⟨y, .head _, g1⟩
   | tail _ m =>
     obtain ⟨z, z1, z2⟩ := ih g2 m
     exact ⟨z, .tail _ z1, z2⟩
theorem mapO_mk {α β : Type} {f : α → Option β} {a : α} {r : List α} {b : β} {bs : List β} (h : f a = some b) (h' : mapO f r = some bs) : mapO f (a :: r) = some (b :: bs) := by
 show ((f a).bind fun b => (mapO f r).map fun bs => b :: bs) = _
 rw [h, h']; rfl
theorem slots_nodup (hi : ∀ n n' x, vm.lookup n = some x → vm.lookup n' = some x → n = n') {es : List Expr} : ∀ {ks : List Nat}, mapO (cTgt1 sc vm) es = some ks → (es.flatMap nmOf).Nodup →
   ks.Nodup ∧ mapO (fun nm => vm.lookup nm) (es.flatMap nmOf) = some ks ∧ ∀ nm ∈ es.flatMap nmOf, isVar sc nm = true := by
 induction es with
 | nil => intro ks h _; cases h; exact ⟨.nil, rfl, fun Z m => nomatch m⟩
 | cons e es ih =>
   intro ks h hn
   refine consO h fun k ks' h1 h2 ec => ?_
   subst ec
   obtain ⟨nm, p, rfl, hv, hk⟩ := cTgt1_name h1
   have hn := List.nodup_cons.mp hn
   obtain ⟨a, b, c⟩ := ih h2 hn.2
   refine ⟨List.nodup_cons.mpr ⟨fun m => ?_, a⟩, mapO_mk hk b, fun y m => ?_⟩
   · obtain ⟨y, y1, y2⟩ := slot_name b m
     exact hn.1 (hi nm y k hk y2 ▸ y1)
   · cases m with
     | head => exact hv
     | tail _ m => exact c y m
theorem mapO_app {α β : Type} {f : α → Option β} {as as' : List α} {bs' : List β} (h' : mapO f as' = some bs') : ∀ {bs : List β}, mapO f as = some bs → mapO f (as ++ as') = some (bs ++ bs') := by
 induction as with
 | nil => intro bs h; cases h; exact h'
 | cons a as ih => intro bs h; exact consO h fun b bs2 h1 h2 e => by rw [e]; exact mapO_mk h1 (ih h2)
theorem mapO_rev {α β : Type} {f : α → Option β} {as : List α} : ∀ {bs : List β}, mapO f as = some bs → mapO f as.reverse = some bs.reverse := by
 induction as with
 | nil => intro bs h; cases h; rfl
 | cons a as ih =>
   intro bs h
   refine consO h fun b bs2 h1 h2 e => ?_
   rw [e, List.reverse_cons, List.reverse_cons]
   exact mapO_app (mapO_mk h1 rfl) (ih h2)
section
variable (F : Facts2 X C N d) (hA : Ar A d (env :: out) rz) (he : EnvOk env sc vm (env :: out)) (hf : ∃ L, env.frame = some L) (x : St X (env :: out) μ H s) (L : LocR X env vm μ ρ s.heap)
include F hA he x L
theorem sim_sAsgT {e : Expr} {c : CE} {es : List Expr} {k : Nat} {p pos : Pos} {ks : List Nat} (hb : swapBad e = false) (hnd : (tgtNames (.Tuple es 0 default)).Nodup) (hk : mapO (cTgt1 sc vm) es = some ks) (h : cE X.T n sc vm e = some c)
   (P : PostS X (env :: out) env vm μ s (mS X.P C N (.asgT ks c) rz ρ H) Q E) : wpAny X.M A (exec (.Assign [.Tuple es k p] e pos) env) Q E s := by
 refine PostS.iten P fun hrz P => ?_
 have hh : A.handled = none := hA.hand (Bool.of_not_eq_false hrz)
 rw [arm_exec_Assign]
 refine wpAny_bind (wpAny_standAt (wpAny_bind ?_))
 rw [show swapsWithSole [.Tuple es k p] e pos.line env = pure false from (swaps_tup : swapsWith e (some (.Tuple es k p)) pos.line env = pure false)]
 refine wpAny_pure ?_
 rw [if_neg (by decide)]
 refine wpAny_bind (F.e _ _ _ _ h _ _ _ _ _ _ _ _ _ hA he x L (PostS.then x L P fun v u μ₁ H₁ s₁ e0 A1 R1 P1 => ?_))
 have L1 := L.aft x A1
 have x₁ := A1.st
 refine PostS.opt P1 fun ρ' hbd P9 => ?_
 rcases swapped_cases (k := k) (p := p) (es := es) (env := env) hb with q | q <;> rw [q]
 · refine wpAny_bind (wpAny_pure ?_)
   unfold assignStores
   refine wpAny_bind ?_
   show wpAny X.M A (assign (.Tuple es k p) env u) _ E s₁
   exact sim_bind hh he (xs := (ks, true)) (by show (mapO (cTgt1 sc vm) es).map (fun ns => (ns, true)) = _; rw [hk]; rfl) hbd x₁ L1 R1 fun s' ex okx A2 L2 => wpAny_pure (PostS.ok P9 (A2.mono okx.1) L2 rfl)
 · refine wpAny_bind (wpAny_pure ?_)
   cases v with
   | tup l =>
     obtain ⟨t, items, n', rfl, it, z, r⟩ := rv_tup R1
     obtain ⟨s1, s2, s3⟩ := slots_nodup he.inj hk hnd
     unfold assignStores
     refine wpAny_bind (wpAny_rule (wpAny_bind ?_))
     rw [show (tgtNames (.Tuple es k p)).length = items.size by rw [show items.size = l.length from r.length, ← upds_len hbd, mapO_len s2]; rfl]
     refine wpAny_unpackItems_tuple hh (isT_tup it) fun h' hx => ?_
     have A2 := Aft.keepAll x₁ (h' := h') (t := s₁.toks) (d := s₁.drawn) (fun b o e => hx b o (Nat.ne_of_lt (Heap.lt_size e)) e)
     obtain ⟨ρ'', u1, u2⟩ := upds_rev hbd s1
     exact wpAny_bind (sim_names he (ns := (tgtNames (.Tuple es k p)).reverse) (fun y m => s3 y (List.mem_reverse.mp m)) (mapO_rev s2) u1 A2.st (L1.aft x₁ A2) ((r.mono (MExt.refl _) (A2.tu x₁ NoTup.nil).t).reverse) fun s' A3 L3 =>
       wpAny_pure (PostS.ok P9 ((A2.mono fun Z m => nomatch m).trans A3) (L3.less u2) rfl))
   | _ => exact nn hbd
theorem sim_sAttr {e o : Expr} {c co : CE} {nm : Str} {k : Nat} {p pos : Pos} (h1 : cE X.T n sc vm o = some co) (hk : X.T.strs[k]? = some nm) (h : cE X.T n sc vm e = some c)
   (P : PostS X (env :: out) env vm μ s (mS X.P C N (.setA co k c) rz ρ H) Q E) : wpAny X.M A (exec (.Assign [.Attribute o nm p] e pos) env) Q E s := by
 refine plainObj_wpAny_Assign_Attribute (F.e _ _ _ _ h _ _ _ _ _ _ _ _ _ hA he x L (PostS.then x L P fun v u μ₁ H₁ s₁ e0 A1 R1 P1 => ?_)) (by cases e <;> rfl)
 have L1 := L.aft x A1
 exact F.e _ _ _ _ h1 _ _ _ _ _ _ _ _ _ hA he A1.st L1 (PostS.then A1.st L1 P1 fun a w μ₂ H₂ s₂ e0 A2 R2 P2 => PostS.opt P2 fun H' hs P2 =>
   sim_setA F.f.x F.f.c A2.st hk R2 (A2.rv A1.st NoTup.nil R1) hs fun s' A3 => PostS.ok P2 (A3.mono fun Z m => nomatch m) ((L1.aft A1.st A2).aft A2.st A3) rfl)
theorem sim_sItem {e o i : Expr} {c co ci : CE} {p pos : Pos} (h1 : cE X.T n sc vm o = some co) (h2 : cE X.T n sc vm i = some ci) (h : cE X.T n sc vm e = some c)
   (P : PostS X (env :: out) env vm μ s (mS X.P C N (.setI co ci c) rz ρ H) Q E) : wpAny X.M A (exec (.Assign [.Subscript o i p] e pos) env) Q E s := by
 refine wpAny_Assign_Subscript (F.e _ _ _ _ h _ _ _ _ _ _ _ _ _ hA he x L (PostS.then x L P fun v u μ₁ H₁ s₁ e0 A1 R1 P1 => ?_)) (by cases e <;> rfl)
 have L1 := L.aft x A1
 refine F.e _ _ _ _ h1 _ _ _ _ _ _ _ _ _ hA he A1.st L1 (PostS.then A1.st L1 P1 fun a w μ₂ H₂ s₂ e0 A2 R2 P2 => ?_)
 have L2 := L1.aft A1.st A2
 exact F.e _ _ _ _ h2 _ _ _ _ _ _ _ _ _ hA he A2.st L2 (PostS.then A2.st L2 P2 fun b y μ₃ H₃ s₃ e0 A3 R3 P3 => PostS.opt P3 fun H' hs P3 =>
   sim_setI F.f.x A3.st (A3.rv A2.st NoTup.nil R2) R3 (A3.rv A2.st NoTup.nil (A2.rv A1.st NoTup.nil R1)) hs fun s' A4 => PostS.ok P3 (A4.mono fun Z m => nomatch m) ((L2.aft A2.st A3).aft A3.st A4) rfl)
theorem aug_int {op : BOp} (ho : ¬ (op ≠ .add ∧ op ≠ .sub)) {a b : Int} {t t' : Tok} {Q' : Value → Shared → Prop} (P : PostG X (env :: out) [] μ s (relV X) (mBin H op (.int a) (.int b)) Q' E) : wpAny X.M A (inplaceOp (bopOf op) (.int a t) (.int b t')) Q' E s := by
 cases op with
 | add =>
   have P : PostG X (env :: out) [] μ s (relV X) (.ok (.int (a + b)) H) Q' E := P
   exact AutoIntOps.iadd_0 (P _ _ _ (Aft.tok x) rv_int_)
 | sub =>
   have P : PostG X (env :: out) [] μ s (relV X) (.ok (.int (a - b)) H) Q' E := P
   exact AutoIntOps.isub_0 (P _ _ _ (Aft.tok x) rv_int_)
 | _ => exact absurd ⟨by decide, by decide⟩ ho
theorem sim_sAug {e o i : Expr} {c co ci : CE} {op : Operator} {b : BOp} {p pos : Pos} (hi : ∀ a b c d, i ≠ .Slice a b c d) (h1 : cE X.T n sc vm o = some co) (h2 : cE X.T n sc vm i = some ci) (hb : cBop op = some b) (hb2 : ¬ (b ≠ .add ∧ b ≠ .sub)) (h : cE X.T n sc vm e = some c)
   (P : PostS X (env :: out) env vm μ s (mS X.P C N (.augI co ci b c) rz ρ H) Q E) : wpAny X.M A (exec (.AugAssign (.Subscript o i p) op e pos) env) Q E s := by
 refine wpAny_AugAssign_Subscript_any (F.e _ _ _ _ h1 _ _ _ _ _ _ _ _ _ hA he x L (PostS.then x L P fun ov u μ₁ H₁ s₁ e0 A1 R1 P1 => ?_)) (fun ov iv new => by cases i <;> first | rfl | exact absurd rfl (hi _ _ _ _))
 have L1 := L.aft x A1
 refine F.e _ _ _ _ h2 _ _ _ _ _ _ _ _ _ hA he A1.st L1 (PostS.then A1.st L1 P1 fun iv w μ₂ H₂ s₂ e0 A2 R2 P2 => ?_)
 have L2 := L1.aft A1.st A2
 have Ru2 := A2.rv A1.st NoTup.nil R1
 refine (sim_item (value := o) (slice := i) F.f.x A2.st Ru2 R2 (PostS.then A2.st L2 P2 fun old y μ₃ H₃ s₃ e0 A3 R3 P3 => ?_)).1
 have L3 := L2.aft A2.st A3
 refine F.e _ _ _ _ h _ _ _ _ _ _ _ _ _ hA he A3.st L3 (PostS.then A3.st L3 P3 fun v z μ₄ H₄ s₄ e0 A4 R4 P4 => ?_)
 have L4 := L3.aft A3.st A4
 have R3' := A4.rv A3.st NoTup.nil R3
 cases old <;> first | exact P4.elim | skip
 cases v <;> first | exact P4.elim | skip
 obtain ⟨t1, rfl⟩ := rv_int R3'
 obtain ⟨t2, rfl⟩ := rv_int R4
 rw [← bop_of hb]
 refine aug_int (A := A) F hA he A4.st L4 (t := t1) (t' := t2) hb2 (PostS.then (rel := relV X) A4.st L4 P4 fun v5 z5 μ₅ H₅ s₅ e0 A5 R5 P5 => ?_)
 refine PostS.opt P5 fun H' hs P5 => ?_
 have Ru5 := A5.rv A4.st NoTup.nil (A4.rv A3.st NoTup.nil (A3.rv A2.st NoTup.nil Ru2))
 have Ri5 := A5.rv A4.st NoTup.nil (A4.rv A3.st NoTup.nil (A3.rv A2.st NoTup.nil R2))
 exact sim_setI F.f.x A5.st Ru5 Ri5 R5 hs fun s' A6 => PostS.ok P5 (A6.mono fun Z m => nomatch m) ((L4.aft A4.st A5).aft A5.st A6) rfl
theorem sim_sIf (IH : SimS X C N d n) (hf : ∃ L, env.frame = some L) {t : Expr} {b o : List Stmt} {c : CE} {cb co : List CS} {pos : Pos} (h1 : cE X.T n sc vm t = some c) (h2 : mapO (cS X.T n sc vm) b = some cb) (h3 : mapO (cS X.T n sc vm) o = some co)
   (P : PostS X (env :: out) env vm μ s (mS X.P C N (.ifs c cb co) rz ρ H) Q E) : wpAny X.M A (exec (.If t b o pos) env) Q E s := by
 rw [qS_ifs] at P
 have P1 : PostS X (env :: out) env vm μ s (((mE X.P (C rz) rz c ρ H).bind toB).then ρ fun b H => if b then mSs X.P C N cb rz ρ H else mSs X.P C N co rz ρ H) Q E := by
   revert P
   cases mE X.P (C rz) rz c ρ H with
   | bad => exact fun P => P
   | exc => exact fun P => P
   | ok v H1 => cases v <;> exact fun P => P
 refine wpAny_If (F.t _ _ _ _ h1 _ _ _ _ _ _ _ _ _ hA he x L (PostS.then x L P1 fun v u μ₁ H₁ s₁ e0 A1 R1 P2 => ?_))
 cases R1
 cases v with
 | true => exact sim_execs IH hA he hf b h2 A1.st (L.aft x A1) P2
 | false => exact sim_execs IH hA he hf o h3 A1.st (L.aft x A1) P2
end
end
section
open PySem PySem.W PySem.Calls PyProof.Rows
variable {X : Cx} {C : Bool → Orc} {N : Nat} {rz : Bool} {d n : Nat} {sc : Scope} {vm : VM} {A : Around} {envs out : List Env} {env : Env} {μ : List Addr} {H : MH} {s : Shared} {ρ : Loc} {Q : Flow → Shared → Prop} {E : Value → Shared → Prop}
theorem PostS.loop {L : Addr} (hfr : A.frames = some (env :: out)) (hf : env.frame = some L) (x : St X (env :: out) μ H s) {r : RS} (P : PostS X (env :: out) env vm μ s r Q E) : PostS X (env :: out) env vm μ s r Q (notedBy X.M A env (cameBackBy X.M A env E)) := by
 cases r with
 | bad => exact P
 | ok f ρ' H' => exact P
 | exc xc ρ' H' => exact ExcP.loop hfr hf x P
theorem PostS.body {r : RS} {f : Loc → MH → RS} {Q' : Flow → Shared → Prop} {E2 : Value → Shared → Prop} {μ' : List Addr} {H' : MH} {s' : Shared} (A0 : Aft X envs (exL env) μ s μ' H' s') (P : PostS X envs env vm μ s (r.seq f) Q E) (PE : PostS X envs env vm μ' s' (r.seq f) Q E2)
   (k : ∀ ρ2 H2 μ3 s3, Aft X envs (exL env) μ' s' μ3 H2 s3 → LocR X env vm μ3 ρ2 s3.heap → PostS X envs env vm μ s (f ρ2 H2) Q E → Q' .next s3) (k2 : ∀ u s3, Q (.ret u) s3 → Q' (.ret u) s3) : PostS X envs env vm μ' s' r Q' E2 := by
 cases r with
 | bad => exact P.elim
 | exc xc ρ2 H2 => exact PE
 | ok fl ρ2 H2 =>
   cases fl with
   | next => exact fun fl μ3 s3 A3 L3 R3 => by cases R3; exact k ρ2 H2 μ3 s3 A3 L3 P
   | ret v => exact fun fl μ3 s3 A3 L3 R3 => by obtain ⟨w, e, q⟩ := R3; subst e; exact k2 w s3 (P _ μ3 s3 (A0.trans A3) L3 ⟨w, rfl, q⟩)
inductive WInv (X : Cx) (envs : List Env) (env : Env) (vm : VM) (μ : List Addr) (s : Shared) (t : Loc → MH → Mine.Internal.R Bool) (b : Loc → MH → RS) (Q : Flow → Shared → Prop) (E : Value → Shared → Prop) (k : Nat) (s' : Shared) : Prop
 | mk {μ' : List Addr} {H' : MH} {ρ' : Loc} (A : Aft X envs (exL env) μ s μ' H' s') (L : LocR X env vm μ' ρ' s'.heap) (P : PostS X envs env vm μ s (whlR t b k ρ' H') Q E)
section
variable (F : Facts2 X C N d) (hA : Ar A d (env :: out) rz) (he : EnvOk env sc vm (env :: out)) (hf : ∃ L, env.frame = some L) (x : St X (env :: out) μ H s) (L : LocR X env vm μ ρ s.heap)
include F hA he hf x L
set_option tactic.hygienic true in
theorem sim_sWhile (IH : SimS X C N d n) {t : Expr} {b : List Stmt} {c : CE} {cb : List CS} {pos : Pos} (h1 : cE X.T n sc vm t = some c) (h2 : mapO (cS X.T n sc vm) b = some cb)
   (P : PostS X (env :: out) env vm μ s (mS X.P C N (.whl c cb) rz ρ H) Q E) : wpAny X.M A (exec (.While t b [] pos) env) Q E s := by
 obtain ⟨Lf, hLf⟩ := hf
 refine wpAny_While (codeAny_whileLoop (WInv X (env :: out) env vm μ s (fun ρ H => (mE X.P (C rz) rz c ρ H).bind toB) (fun ρ H => mSs X.P C N cb rz ρ H) Q E) ?_ N (.mk (Aft.refl x) L P))
 rintro k s' ⟨A', L', P'⟩
 rename_i μ' H' ρ'
 cases k with
 | zero => exact P'.elim
 | succ k =>
 have PE := (PostS.loop (A := A) hA.frames hLf x P').step A'
 refine F.t _ _ _ _ h1 _ _ _ _ _ _ _ _ _ hA he A'.st L' (PostS.then A'.st L' PE fun v u μ₁ H₁ s₁ e0 A1 R1 P1 => ?_)
 cases R1
 have L1 := L'.aft A'.st A1
 have A01 := A'.trans (A1.mono (ex' := exL env) fun Z m => nomatch m)
 have P' : PostS X (env :: out) env vm μ s ((((mE X.P (C rz) rz c ρ' H').bind toB)).then ρ' fun tt H => if tt then _ else _) Q E := P'
 have e0 : ((mE X.P (C rz) rz c ρ' H').bind toB) = .ok v H₁ := e0
 rw [e0] at P'
 cases v with
 | false => exact wpAny_execs_nil (PostS.ok (f := .next) P' A01 L1 rfl)
 | true => exact sim_execs IH hA he ⟨Lf, hLf⟩ b h2 A1.st L1 (PostS.body A01 P' P1 (fun ρ2 H2 μ2 s2 A2 L2 P2 => ⟨k, Nat.lt_succ_self _, .mk (A01.trans A2) L2 P2⟩) fun u s3 q => q)
end
noncomputable def forRest (b : Loc → MH → RS) (xs : List Nat) (uq : Bool) : Src → Nat → Nat → Loc → MH → RS
 | .seq l, j, _, ρ, H => forS xs uq b (l.drop j) ρ H
 | .lst i, j, n, ρ, H => forI xs uq b false i n j ρ H
 | .enl i, j, n, ρ, H => if uq = false then .bad else forI xs uq b true i n j ρ H
theorem forR_rest {b : Loc → MH → RS} {xs : List Nat} {uq : Bool} {sr : Src} : forR N xs uq b sr ρ H = forRest b xs uq sr 0 N ρ H := by cases sr <;> rfl
inductive FStep (b : Loc → MH → RS) (xs : List Nat) (uq : Bool) (sr : Src) (j k : Nat) (ρ : Loc) (H : MH) : Prop
 | bad (e : forRest b xs uq sr j k ρ H = .bad)
 | done (e1 : srcAt H sr j = some none) (e : forRest b xs uq sr j k ρ H = .ok .next ρ H)
 | item {v : MV} {k' : Nat} (e1 : srcAt H sr j = some (some v)) (hu : sr.isEn = true → uq = true) (hm : meas sr (j + 1) k' < meas sr j k)
     (e : forRest b xs uq sr j k ρ H = (optR H (bindT ρ xs uq v)).then ρ fun ρ H => (b ρ H).seq (forRest b xs uq sr (j + 1) k'))
inductive IStep (b : Loc → MH → RS) (xs : List Nat) (uq en : Bool) (i j k : Nat) (ρ : Loc) (H : MH) : Prop
 | bad (e : forI xs uq b en i k j ρ H = .bad)
 | done {l : List MV} (hl : H[i]?.bind MObj.list? = some l) (hv : l[j]? = none) (e : forI xs uq b en i k j ρ H = .ok .next ρ H)
 | item {l : List MV} {v : MV} {k' : Nat} (hl : H[i]?.bind MObj.list? = some l) (hv : l[j]? = some v) (hk : k' < k) (e : forI xs uq b en i k j ρ H = (optR H (bindT ρ xs uq (if en then .tup [.int j, v] else v))).then ρ fun ρ H => (b ρ H).seq (forI xs uq b en i k' (j + 1)))
theorem forI_step (b : Loc → MH → RS) (xs : List Nat) (uq en : Bool) (i j k : Nat) (ρ : Loc) (H : MH) : IStep b xs uq en i j k ρ H := by
 cases k with
 | zero => exact .bad rfl
 | succ k =>
   have e : forI xs uq b en i (k + 1) j ρ H = (optR H (H[i]?.bind MObj.list?)).then ρ fun l H => match l[j]? with
     | some v => (optR H (bindT ρ xs uq (if en then .tup [.int j, v] else v))).then ρ fun ρ H => (b ρ H).seq (forI xs uq b en i k (j + 1))
     | none => .ok .next ρ H := rfl
   cases hl : H[i]?.bind MObj.list? with
   | none => rw [hl] at e; exact .bad e
   | some l =>
     rw [hl] at e
     have e : forI xs uq b en i (k + 1) j ρ H = match l[j]? with
       | some v => (optR H (bindT ρ xs uq (if en then .tup [.int j, v] else v))).then ρ fun ρ H => (b ρ H).seq (forI xs uq b en i k (j + 1))
       | none => .ok .next ρ H := e
     cases hv : l[j]? with
     | none => rw [hv] at e; exact .done hl hv e
     | some v => rw [hv] at e; exact .item hl hv (Nat.lt_succ_self _) e
theorem forRest_step (b : Loc → MH → RS) (xs : List Nat) (uq : Bool) (sr : Src) (j k : Nat) (ρ : Loc) (H : MH) : FStep b xs uq sr j k ρ H := by
 have map : ∀ {α β : Type} {o : Option α} {a : α} {f : α → β}, o = some a → o.map f = some (f a) := fun e => by rw [e]; rfl
 cases sr with
 | seq l =>
   by_cases h : j < l.length
   · refine .item (v := l[j]) (k' := k) (congrArg some (List.getElem?_eq_getElem h)) (fun e => nomatch e) (Nat.sub_succ_lt_self _ _ h) ?_
     show forS xs uq b (l.drop j) ρ H = _
     rw [List.drop_eq_getElem_cons h]; rfl
   · refine .done (congrArg some (List.getElem?_eq_none (Nat.le_of_not_lt h))) ?_
     show forS xs uq b (l.drop j) ρ H = _
     rw [List.drop_eq_nil_of_le (Nat.le_of_not_lt h)]; rfl
 | lst i =>
   cases forI_step b xs uq false i j k ρ H with
   | bad e => exact .bad e
   | done hl hv e => exact .done ((map hl).trans (congrArg some hv)) e
   | item hl hv hk e => exact .item ((map hl).trans (congrArg some hv)) (fun e => nomatch e) hk e
 | enl i =>
   cases uq with
   | false => exact .bad rfl
   | true =>
     cases forI_step b xs true true i j k ρ H with
     | bad e => exact .bad e
     | done hl hv e => exact .done ((map hl).trans (congrArg some (by rw [hv]; rfl))) e
     | item hl hv hk e => exact .item ((map hl).trans (congrArg some (by rw [hv]; rfl))) (fun Z => rfl) hk e
inductive FInv (X : Cx) (envs : List Env) (env : Env) (vm : VM) (μ : List Addr) (s : Shared) (b : Loc → MH → RS) (xs : List Nat) (uq : Bool) (sr : Src) (I : Addr) (ex : List Addr) (Q : Flow → Shared → Prop) (E : Value → Shared → Prop) : Nat → Shared → Prop
 | mk {j fuel : Nat} {μ' : List Addr} {H' : MH} {ρ' : Loc} {s' : Shared} (A : Aft X envs (exL env) μ s μ' H' s') (it : ItAt X μ' s'.heap I ex sr j) (L : LocR X env vm μ' ρ' s'.heap) (Lx : Loose X envs μ' s'.heap ex)
     (P : PostS X envs env vm μ s (forRest b xs uq sr j fuel ρ' H') Q E) : FInv X envs env vm μ s b xs uq sr I ex Q E (meas sr j fuel) s'
theorem for_shape {xs : List Nat} {uq : Bool} {k : IK} {src : List CE} {cb : List CS} (P : PostS X envs env vm μ s (mS X.P C N (.for xs uq k src cb) rz ρ H) Q E) : rz = true ∧
   PostS X envs env vm μ s (((mEs X.P (C rz) rz src ρ H).bind (mSrcR k)).then ρ fun sr H => forR N xs uq (fun ρ H => mSs X.P C N cb rz ρ H) sr ρ H) Q E := by
 refine PostS.iten P fun hrz P => ⟨Bool.of_not_eq_false hrz, ?_⟩
 revert P
 cases mEs X.P (C rz) rz src ρ H with
 | bad => exact fun P => P
 | exc => exact fun P => P
 | ok vs H1 => exact fun P => P
section
variable (F : Facts2 X C N d) (hA : Ar A d (env :: out) rz) (he : EnvOk env sc vm (env :: out)) (hf : ∃ L, env.frame = some L) (x : St X (env :: out) μ H s) (L : LocR X env vm μ ρ s.heap)
include F hA he hf x L
set_option tactic.hygienic true in
theorem sim_sFor (IH : SimS X C N d n) {tgt iter : Expr} {b : List Stmt} {xs : List Nat × Bool} {src : List CE} {cb : List CS} {pos : Pos} (hT : cTgt sc vm tgt = some xs) (hsrc : mapO (cE X.T n sc vm) (srcOf sc iter).2 = some src) (h2 : mapO (cS X.T n sc vm) b = some cb)
   (P : PostS X (env :: out) env vm μ s (mS X.P C N (.for xs.1 xs.2 (srcOf sc iter).1 src cb) rz ρ H) Q E) : wpAny X.M A (exec (.For tgt iter b [] pos) env) Q E s := by
 obtain ⟨rfl, P⟩ := for_shape P
 have hh : A.handled = none := hA.hand rfl
 obtain ⟨Lf, hLf⟩ := hf
 refine wpAny_For (sim_src F.f.x F.f.g F.e hA he hsrc x L (PostS.then x L P fun sr itv μ₂ H₂ s₂ e0 A2 R2 Z => ?_)) (folded_ok hsrc)
 obtain ⟨I, ex, rfl, hit, Lx, fX⟩ := R2
 rw [e0] at P
 have P : PostS X (env :: out) env vm μ s (forR N xs.1 xs.2 (fun ρ H => mSs X.P C N cb true ρ H) sr ρ H₂) Q E := P
 rw [forR_rest] at P
 have dE : ∀ a ∈ exL env, a ∉ ex := fun a m q => by
   obtain ⟨o, e, _⟩ := exL_dom L m
   exact nn ((fX a q).symm.trans e)
 refine codeAny_forLoop_any (FInv X (env :: out) env vm μ s (fun ρ H => mSs X.P C N cb true ρ H) xs.1 xs.2 sr I ex Q E) ?_ _ (.mk (A2.mono (fun Z m => nomatch m)) hit (L.aft x A2) Lx P)
 rintro _ s' ⟨A', it, L', Lx, P'⟩
 rename_i j fuel μ' H' ρ'
 have x' := A'.st
 cases forRest_step (fun ρ H => mSs X.P C N cb true ρ H) xs.1 xs.2 sr j fuel ρ' H' with
 | bad e => rw [e] at P'; exact P'.elim
 | done e1 e2 =>
   rw [e2] at P'
   refine sim_next_end hh x' it e1 fun h' k => ?_
   have TK : TKeep s'.heap h' := fun a its m i2 => k a _ i2 fun q => Lx.notup a q _ i2 ⟨rfl, _, _, rfl⟩
   exact wpAny_execs_nil (PostS.ok P' (A'.drop Lx fX k) (L'.slots (fun a m o e => ⟨o.slots, k a o e (dE a m)⟩) TK) rfl)
 | @item v k' e1 e2 e3 e4 =>
   rw [e4] at P'
   refine PostS.opt P' fun ρ1 hb P' => sim_next_item (tgt_form hT) x' it Lx e2 e1 fun u s₁ A1 it1 ru => ?_
   have L1 := L'.aftx x' A1 dE Lx.notup
   have Lx1 : Loose X (env :: out) μ' s₁.heap ex := Lx.aft' A1 fun a Z q => it1.dom a q
   have A01 := ((A'.mono (ex' := ex ++ exL env) (fun a m => List.mem_append.mpr (.inr m))).trans (A1.mono fun a m => List.mem_append.mpr (.inl m))).fresh (ex' := exL env) fun a m => (List.mem_append.mp m).elim (fun q => .inr (fX a q)) .inl
   refine sim_bind hh he hT hb A1.st L1 ru fun s₂ exb okb A2 L2 => ?_
   have dB : ∀ a ∈ ex, a ∉ exb := fun a m q => dE a (okb.1 a q) m
   have it2 := it1.aft A1.st Lx1 A2 dB fun a m => exL_notup L1 a (okb.1 a m)
   have Lx2 := Lx1.aft' A2 fun a m q => absurd q (dB a m)
   have A02 := A01.trans (A2.mono okb.1)
   exact sim_execs IH hA he ⟨Lf, hLf⟩ b h2 A2.st L2 (PostS.body A02 P' ((PostS.loop (A := A) hA.frames hLf x P').step A02) (fun ρ3 H3 μ3 s3 A3 L3 P3 =>
     have dX : ∀ a ∈ ex, a ∉ exL env := fun a m q => dE a q m
     ⟨_, e3, .mk (A02.trans A3) (it2.aft A2.st Lx2 A3 dX (exL_notup L2)) L3 (Lx2.aft' A3 fun a m q => absurd q (dX a m)) P3⟩) fun u s3 q => q)
end
end
section
open PySem PySem.W PySem.Calls PyProof.Rows
theorem zip_look {names : List Str} : ∀ {ns : List Str} {vals : List Value}, ns.length = vals.length → ns.Nodup → (ns.filterMap fun n => ((ns.zip vals).lookup n).map (n, ·)) = ns.zip vals ∧ ∀ n ∈ ns, ((ns.zip vals).lookup n).isSome = true := by
 let _ := names
 have cong : ∀ (ns : List Str) (l l' : List (Str × Value)), (∀ n ∈ ns, l.lookup n = l'.lookup n) → (ns.filterMap fun n => (l.lookup n).map (n, ·)) = ns.filterMap fun n => (l'.lookup n).map (n, ·) := by
   intro ns
   induction ns with
   | nil => intro _ _ _; rfl
   | cons a ns ih =>
     intro l l' h
     rw [List.filterMap_cons, List.filterMap_cons, h a (.head _), ih l l' fun n m => h n (.tail _ m)]
 intro ns
 induction ns with
 | nil => intro vals h _; exact ⟨rfl, fun Z m => nomatch m⟩
 | cons a ns ih =>
   intro vals h hn
   cases vals with
   | nil => simp at h
   | cons v vals =>
   rw [List.nodup_cons] at hn
   obtain ⟨i1, i2⟩ := ih (vals := vals) (by simpa using h) hn.2
   have e : ∀ n ∈ ns, List.lookup n ((a :: ns).zip (v :: vals)) = (ns.zip vals).lookup n := fun n m => by
     rw [List.zip_cons_cons, look_ne (fun q => hn.1 (by rw [← q]; exact m))]
   refine ⟨?_, fun n m => ?_⟩
   · rw [List.filterMap_cons, List.zip_cons_cons, look_eq]
     simp only [Option.map_some]
     rw [← List.zip_cons_cons, cong ns _ _ e, i1]; rfl
   · rcases List.mem_cons.mp m with rfl | m
     · rw [List.zip_cons_cons, look_eq]; rfl
     · rw [e n m]; exact i2 n m
theorem not_miss {α β : Type} {f : α → Bool} {l : List α} {e : List β} (m : l.filter f = []) (he : e = []) : ¬ (!((l.take (l.length - e.length)).filter f).isEmpty) = true := by
 subst he
 rw [List.length_nil, Nat.sub_zero, List.take_length, m]
 exact fun q => nomatch q
theorem forNil {α β : Type} {l : List α} {s : β} {f : α → β → Sem (ForInStep β)} (h : l = []) : forIn l s f = (pure s : Sem β) := by subst h; rfl
theorem zipNil {α β : Type} {l : List α} {e : List β} (h : e = []) : l.zip e = [] := by subst h; exact List.zip_nil_right
theorem pureEq {l l' : List (Str × Value)} (h : l = l') : (pure l : Sem (List (Str × Value))) = pure l' := by rw [h]
theorem bindArgs_plain {fd : FuncData} {vals : List Value} (h1 : fd.params.posonlyargs = []) (h2 : fd.params.vararg = none) (h3 : fd.params.kwonlyargs = []) (h4 : fd.params.kwarg = none) (h5 : fd.defaults = .none)
   (hn : (fd.params.args.map (·.arg)).Nodup) (hl : fd.params.args.length = vals.length) : bindArgs fd ⟨vals, []⟩ = pure ((fd.params.args.map (·.arg)).zip vals) := by
 obtain ⟨z1, z2⟩ := zip_look (names := []) (ns := fd.params.args.map (·.arg)) (vals := vals) (by simpa using hl) hn
 have m : ((fd.params.args.map (·.arg)).filter fun n => (((fd.params.args.map (·.arg)).zip vals).lookup n).isNone) = [] := by
   rw [List.filter_eq_nil_iff]
   intro n m
   have := z2 n m
   cases q : ((fd.params.args.map (·.arg)).zip vals).lookup n with
   | none => rw [q] at this; cases this
   | some v => simp
 have hlen : (fd.params.args.map (·.arg)).length = vals.length := by rw [List.length_map]; exact hl
 have z := (congrArg (List.filterMap fun n => (((fd.params.args.map (·.arg)).zip vals).lookup n).map (n, ·)) (List.append_nil _)).trans z1
 clear z1 z2 hl hn
 obtain ⟨nm, qn, params, body, sc, gl, clo, defs, kwd, doc, pm, an, co, ct, bi⟩ := fd
 obtain ⟨po, as, va, ko, kd, kw, de⟩ := params
 cases h1; cases h2; cases h3; cases h4; cases h5
 refine (if_neg (fun q => absurd (of_decide_eq_true (andP q).1) (Nat.not_lt.mpr (Nat.le_of_eq hlen.symm)))).trans ?_
 refine (if_neg (not_miss m List.drop_nil)).trans ?_
 refine (congrArg (· >>= _) (forNil (zipNil List.drop_nil))).trans ?_
 exact pureEq z
end
section
open PySem PySem.W PySem.Calls PyProof.Rows
variable {X : Cx} {N : Nat} {rz : Bool} {d n : Nat} {sc : Scope} {vm : VM} {A : Around} {envs out : List Env} {env : Env} {μ : List Addr} {H : MH} {s : Shared} {ρ : Loc} {Q E : Value → Shared → Prop}
theorem none_look {α : Type} {nm : Str} {l : List (Str × α)} (h : nm ∉ l.map (·.1)) : l.lookup nm = none := by
 cases z : l.lookup nm with
 | none => rfl
 | some w => exact absurd (List.mem_map.mpr ⟨_, mem_of_lookup' z, rfl⟩) h
theorem bindL_look {kindOf : Str → Option NameKind} {nm : Str} (hk : kindOf nm = some .local) {binds : List (Str × Value)} : ∀ {m : Str → Option Value}, (binds.map (·.1)).Nodup → bindL kindOf binds m nm = (binds.lookup nm).or (m nm) := by
 induction binds with
 | nil => intro m _; rfl
 | cons p r ih =>
   intro m hn
   obtain ⟨a, v⟩ := p
   have hn := List.nodup_cons.mp hn
   show bindL kindOf r _ nm = _
   rw [ih hn.2]
   by_cases q : nm = a
   · subst q
     rw [look_eq, none_look hn.1, if_pos hk]; exact if_pos rfl
   · rw [look_ne q]
     congr 1
     by_cases z : kindOf a = some .local
     · rw [if_pos z]; exact if_neg q
     · rw [if_neg z]
theorem bindC_look {kindOf : Str → Option NameKind} {nm : Str} (hk : kindOf nm ≠ some .local) {binds : List (Str × Value)} : ∀ {m : Str → Option Value}, (binds.map (·.1)).Nodup → bindC kindOf binds m nm = (binds.lookup nm).or (m nm) := by
 induction binds with
 | nil => intro m _; rfl
 | cons p r ih =>
   intro m hn
   obtain ⟨a, v⟩ := p
   have hn := List.nodup_cons.mp hn
   show bindC kindOf r _ nm = _
   rw [ih hn.2]
   by_cases q : nm = a
   · subst q
     rw [look_eq, none_look hn.1, if_neg hk]; exact if_pos rfl
   · rw [look_ne q]
     congr 1
     by_cases z : kindOf a = some .local
     · rw [if_pos z]
     · rw [if_neg z]; exact if_neg q
theorem cellsFrom_cons {a : Str} {kd : NameKind} {r : List (Str × NameKind)} {k : Nat} {acc : List (Str × Addr)} : cellsFrom k ((a, kd) :: r) acc = if kd == .cell then cellsFrom (k + 1) r ((a, k) :: acc) else cellsFrom k r acc := rfl
theorem cellsFrom_keep {nm : Str} {names : List (Str × NameKind)} : ∀ {k : Nat} {acc : List (Str × Addr)}, nm ∉ names.map (·.1) → (cellsFrom k names acc).lookup nm = acc.lookup nm := by
 induction names with
 | nil => intro k acc _; rfl
 | cons p r ih =>
   intro k acc h
   obtain ⟨a, kd⟩ := p
   have hr : nm ∉ r.map (·.1) := fun q => h (.tail _ q)
   rw [cellsFrom_cons]
   by_cases q : (kd == .cell) = true
   · rw [if_pos q, ih hr, look_ne (fun q => h (by rw [q]; exact .head _))]
   · rw [if_neg q, ih hr]
theorem cellsFrom_some {nm : Str} {names : List (Str × NameKind)} : ∀ {k : Nat} {acc : List (Str × Addr)}, (names.map (·.1)).Nodup → (nm, NameKind.cell) ∈ names → ∃ c, (cellsFrom k names acc).lookup nm = some c := by
 induction names with
 | nil => intro k acc _ h; exact nomatch h
 | cons p r ih =>
   intro k acc hn h
   obtain ⟨a, kd⟩ := p
   have hn := List.nodup_cons.mp hn
   rw [cellsFrom_cons]
   cases h with
   | head => rw [if_pos (by decide), cellsFrom_keep hn.1, look_eq]; exact ⟨_, rfl⟩
   | tail _ e =>
     by_cases q : (kd == .cell) = true
     · rw [if_pos q]; exact ih hn.2 e
     · rw [if_neg q]; exact ih hn.2 e
theorem cellsFrom_look {p : Str × Addr} {names : List (Str × NameKind)} : ∀ {k : Nat} {acc : List (Str × Addr)}, (names.map (·.1)).Nodup → (∀ p ∈ acc, acc.lookup p.1 = some p.2 ∧ p.1 ∉ names.map (·.1)) → p ∈ cellsFrom k names acc → (cellsFrom k names acc).lookup p.1 = some p.2 := by
 induction names with
 | nil => intro k acc _ h m; exact (h p m).1
 | cons a r ih =>
   intro k acc hn h m
   obtain ⟨a, kd⟩ := a
   have hn := List.nodup_cons.mp hn
   have h' : ∀ p ∈ acc, p.1 ∉ r.map (·.1) := fun p' m' z => (h p' m').2 (.tail _ z)
   rw [cellsFrom_cons] at m ⊢
   by_cases q : (kd == .cell) = true
   · rw [if_pos q] at m ⊢
     refine ih hn.2 (fun p' m' => ?_) m
     cases m' with
     | head => exact ⟨look_eq, hn.1⟩
     | tail _ m' => exact ⟨(look_ne fun z => (h p' m').2 (by rw [z]; exact .head _)).trans (h p' m').1, h' p' m'⟩
   · rw [if_neg q] at m ⊢
     exact ih hn.2 (fun p' m' => ⟨(h p' m').1, h' p' m'⟩) m
end
section
open PySem PySem.W PySem.Calls PyProof.Rows
variable {X : Cx} {N : Nat} {rz : Bool} {d n : Nat} {sc : Scope} {vm : VM} {A : Around} {envs out : List Env} {env : Env} {μ : List Addr} {H : MH} {s : Shared} {ρ : Loc} {Q E : Value → Shared → Prop}
noncomputable abbrev slotOf (sc : Scope) (vm : VM) (a : Arg) : Option Nat := if isVar sc a.arg then vm.lookup a.arg else none
theorem param_var {as : List Arg} : ∀ {ks : List Nat}, mapO (slotOf sc vm) as = some ks → ∀ a ∈ as, isVar sc a.arg = true := by
 induction as with
 | nil => intro ks _ a m; exact nomatch m
 | cons b as ih =>
   intro ks h a m
   refine consO h fun k ks' q1 q2 Z => ?_
   cases m with
   | head => exact iteS q1 fun h Z => h
   | tail _ m => exact ih q2 a m
theorem params_look {S : List Str} {h : Heap} (hi : ∀ n n' x, vm.lookup n = some x → vm.lookup n' = some x → n = n') {nm : Str} {x : Nat} {mv : MV} (hv : vm.lookup nm = some x) {ps : List Arg} : ∀ {ks : List Nat} {args : List MV} {vals : List Value} {ρ ρ' : Loc}, mapO (slotOf sc vm) ps = some ks → upds ρ ks args = some ρ' → RVs S μ h args vals → (ps.map (·.arg)).Nodup →
   ρ' x = some mv → (∃ v, ((ps.map (·.arg)).zip vals).lookup nm = some v ∧ RV S μ h mv v) ∨ ρ x = some mv := by
 induction ps with
 | nil =>
   intro ks args vals ρ ρ' h1 h2 _ _ hx
   cases h1
   exact updsS h2 (fun Z Z e => .inr (e.symm ▸ hx)) fun Z Z Z Z e => nomatch e
 | cons p ps ih =>
   intro ks args vals ρ ρ' h1 h2 hr hn hx
   refine consO h1 fun k ks' g1 g2 ec => updsS h2 (fun z => nomatch z.symm.trans ec) fun k' ks'' a as e1 e2 h2' => ?_
   cases ec.symm.trans e1
   subst e2
   refine iteS g1 fun Z g1 => ?_
   obtain ⟨v, vs, rfl, ra, rr⟩ := rvs_cons hr
   have hn := List.nodup_cons.mp hn
   rcases ih g2 h2' rr hn.2 hx with ⟨w, e, r⟩ | e
   · have hne : nm ≠ p.arg := fun q => hn.1 (by have m := (List.of_mem_zip (mem_of_lookup' e)).1; rw [q] at m; exact m)
     exact .inl ⟨w, (look_ne hne).trans e, r⟩
   · by_cases q : x = k
     · cases hi nm p.arg x hv (q ▸ g1)
       cases (if_pos q).symm.trans e
       exact .inl ⟨v, look_eq, ra⟩
     · exact .inr ((if_neg q).symm.trans e)
inductive FnI (X : Cx) (fa : Addr) (fn : Fn) : Prop
 | mk {o : Obj} {fd : FuncData} {body : List Stmt} (lk : X.K.lookup fa = some o) (data : o.data = .func fd) (bd : fd.body = .stmts body) (cf : cFn X.T fd.params body fd.scope = some fn) (clo : fd.closure = []) (de : fd.defaults = .none) (gl : fd.globals = mainGlobals) (bu : fd.builtins = builtinsNs)
     (co : fd.scope.isCoroutine = false) (ge : fd.scope.isGenerator = false) (ki : fd.scope.kind = .function) (cr : X.base.CodeRec fd.code fd.qualname)
structure FnOk (X : Cx) : Prop where
 fn : ∀ f fa fn, X.fn f = some fa → X.F f = some fn → FnI X fa fn
inductive CFn (T : CT) (params : Arguments) (body : List Stmt) (sc : Scope) (fn : Fn) : Prop
 | mk (p1 : params.posonlyargs = []) (p2 : params.vararg = none) (p3 : params.kwonlyargs = []) (p4 : params.kwarg = none) (p5 : ∀ x ∈ sc.names, x.2 ≠ .free) (c2 : (params.args.map (·.arg)).Nodup) (c3 : (sc.names.map (·.1)).Nodup) (c4 : (numbered sc.names 0).Pairwise fun x y => x.2 ≠ y.2)
     (g1 : mapO (slotOf sc (numbered sc.names 0)) params.args = some fn.params) (g2 : mapO (cS T 60 sc (numbered sc.names 0)) body = some fn.body)
theorem CFn.of {T : CT} {params : Arguments} {body : List Stmt} {sc : Scope} {fn : Fn} (h : cFn T params body sc = some fn) : CFn T params body sc fn := by
 refine iteS h fun hc h => bindS h fun ps g1 h => mapS h fun cb g2 e => ?_
 subst e
 obtain ⟨c1, c2, c3, c4⟩ := hc
 obtain ⟨c1, p5⟩ := andP c1
 obtain ⟨c1, p4⟩ := andP c1
 obtain ⟨c1, p3⟩ := andP c1
 obtain ⟨p1, p2⟩ := andP c1
 exact .mk (List.isEmpty_iff.mp p1) (Option.isNone_iff_eq_none.mp p2) (List.isEmpty_iff.mp p3) (Option.isNone_iff_eq_none.mp p4) (fun x m => bne_iff_ne.mp (List.all_eq_true.mp p5 x m)) c2 c3 c4 g1 g2
theorem Aft.pop {L : Addr} (x : St X out μ H s) (hL : env.frame = some L) {s₁ : Shared} (k : ∀ b o, s.heap.get? b = some o → s₁.heap.get? b = some o) (hE : ∀ a ∈ exL env, s.heap.get? a = none) (hF : s.heap.get? L = none) {μ' : List Addr} {H' : MH} {s' : Shared}
   (A' : Aft X (env :: out) (exL env) μ s₁ μ' H' s') : Aft X out [] μ s μ' H' s' := by
 have y := A'.st
 have dom : ∀ a, s₁.heap.get? a = none → s.heap.get? a = none := fun a e => by
   cases q : s.heap.get? a with
   | none => rfl
   | some o => exact nn (e.symm.trans (k a o q))
 have fe : fls (env :: out) = L :: fls out := by show List.filterMap _ _ = _; rw [List.filterMap_cons, hL]
 refine ⟨⟨y.len, y.nd, y.obj, y.stays, y.new, fun e m => y.frs e (.tail _ m), fun a m => y.fl a (by rw [fe]; exact .tail _ m), y.gens, y.os, y.m₀⟩, ?_, fun b o e => ?_⟩
 · obtain ⟨ν, e1, e2⟩ := A'.ext
   exact ⟨ν, e1, fun a m => dom a (e2 a m)⟩
 · have nE : b ∉ exL env := fun m => nn ((hE b m).symm.trans e)
   obtain ⟨k1, k2, k3⟩ := A'.keep b o (k b o e)
   rw [fe] at k1 k2
   refine ⟨fun a1 Z a3 => k1 a1 nE (fun m => ?_), fun a1 Z a3 => k2 (.tail _ a1) nE a3, k3⟩
   cases m with
   | head => exact nn (hF.symm.trans e)
   | tail _ q => exact a3 q
theorem var_kinds {nm : Str} (p5 : ∀ x ∈ sc.names, x.2 ≠ .free) (h : isVar sc nm = true) : sc.names.lookup nm = some .local ∨ sc.names.lookup nm = some .cell := by
 have h := (andP h).2
 cases q : sc.names.lookup nm with
 | none => rw [q] at h; exact nb h
 | some k =>
   rw [q] at h
   cases k with
   | «local» => exact .inl rfl
   | cell => exact .inr rfl
   | free => exact absurd rfl (p5 _ (mem_of_lookup' q))
   | _ => exact nb h
structure InFn (X : Cx) (out : List Env) (env : Env) (vm : VM) (sc : Scope) (μ : List Addr) (H : MH) (s s₁ : Shared) (ρ : Loc) (L : Addr) : Prop where
 ok : EnvOk env sc vm (env :: out)
 fr : env.frame = some L
 st : St X (env :: out) μ H s₁
 loc : LocR X env vm μ ρ s₁.heap
 ex : ∀ a ∈ exL env, s.heap.get? a = none
 fresh : s.heap.get? L = none
 keep : ∀ b o, s.heap.get? b = some o → s₁.heap.get? b = some o
theorem in_fn (x : St X out μ H s) {fd : FuncData} {fa : Addr} {vals : List Value} {args : List MV} {ks : List Nat} (f6 : fd.globals = mainGlobals) (f7 : fd.builtins = builtinsNs) (f10 : fd.scope.kind = .function) (p5 : ∀ x ∈ fd.scope.names, x.2 ≠ .free) (c2 : (fd.params.args.map (·.arg)).Nodup)
   (c3 : (fd.scope.names.map (·.1)).Nodup) (c4 : (numbered fd.scope.names 0).Pairwise fun x y => x.2 ≠ y.2) (g1 : mapO (slotOf fd.scope (numbered fd.scope.names 0)) fd.params.args = some ks) (hu : upds (fun Z => none) ks args = some ρ) (rv : RVs X.T.strs μ s.heap args vals)
   (bn : (((fd.params.args.map (·.arg)).zip vals).map (·.1)).Nodup) {s₁ : Shared} (ic : InCallC s (callEnvC fd s.heap.objs.size fa).locals (bindL (callEnvC fd s.heap.objs.size fa).kindOf ((fd.params.args.map (·.arg)).zip vals) fun Z => none) (callEnvC fd s.heap.objs.size fa).cells
     (bindC (callEnvC fd s.heap.objs.size fa).kindOf ((fd.params.args.map (·.arg)).zip vals) fun Z => none) s₁) : InFn X out (callEnvC fd s.heap.objs.size fa) (numbered fd.scope.names 0) fd.scope μ H s s₁ ρ s.heap.objs.size := by
 have inj : ∀ n n' x, (numbered fd.scope.names 0).lookup n = some x → (numbered fd.scope.names 0).lookup n' = some x → n = n' := fun a b x h1 h2 => name_of_addr c4 (mem_of_lookup' h1) (mem_of_lookup' h2)
 obtain ⟨h', tk, es₁, k1⟩ := ic.done
 subst es₁
 have A1 := Aft.keepAll x (h' := h') (t := tk) (d := s.drawn) k1
 have fresh : ∀ {h : Heap}, (∀ b o, h.get? b = some o → s.heap.get? b = some o) → ∀ a, s.heap.objs.size ≤ a → h.get? a = none := fun {h} k a ha => by
   cases q : h.get? a with
   | none => rfl
   | some o => exact absurd (Heap.lt_size (k a o q)) (Nat.not_lt.mpr ha)
 have fresh0 := fresh (h := s.heap) fun Z Z q => q
 have bfresh := fresh (h := X.base) x.stays
 have exge : ∀ a ∈ exL (callEnvC fd s.heap.objs.size fa), s.heap.objs.size ≤ a := fun a m => by
   cases m with
   | head => exact Nat.le_refl _
   | tail _ m =>
     obtain ⟨⟨nm, c⟩, hm, rfl⟩ := List.mem_map.mp m
     exact Nat.le_of_lt (ic.above nm c hm)
 have hns := ic.toInCall.ns
 have look : ∀ (nm : Str) (y : Nat) (mv : MV), (numbered fd.scope.names 0).lookup nm = some y → ρ y = some mv → ∃ v, ((fd.params.args.map (·.arg)).zip vals).lookup nm = some v ∧ RV X.T.strs μ h' mv v := fun nm y mv h1 h2 =>
   (params_look inj h1 g1 hu rv c2 h2).elim (fun ⟨v, a, b⟩ => ⟨v, a, b.mono (MExt.refl _) (A1.tu x NoTup.nil).t⟩) fun q => nomatch q
 refine ⟨⟨f10, fun nm h => h, fun nm h => ?_, fun nm h => beq_iff_eq.mp (andP h).2, f6, f7, ic.apart, inj, _, out, rfl, rfl⟩, rfl, ?_, ⟨fun a m => new_nomu x (fresh0 a (exge a m)), fun a m => bfresh a (exge a m), ⟨_, hns, fun nm y mv h1 h2 h3 => ?_⟩, fun nm c hc => ?_⟩, fun a m => fresh0 a (exge a m), fresh0 _ (Nat.le_refl _), k1⟩
 · rcases h with h | h
   · obtain ⟨c, e⟩ := cellsFrom_some (k := s.heap.objs.size + 1) (acc := []) c3 (mem_of_lookup' h)
     exact ⟨h, c, e⟩
   · exact absurd rfl (p5 _ (mem_of_lookup' h))
 · have y := A1.st
   refine ⟨y.len, y.nd, y.obj, y.stays, y.new, fun e m => ?_, fun a m => ?_, y.gens, y.os, y.m₀⟩
   · cases m with
     | head =>
       obtain ⟨o', es, ep, q1, q2, _⟩ := hns
       exact ⟨by show fd.scope.kind ≠ _; rw [f10]; exact (fun z => nomatch z), _, o', es, ep, rfl, bfresh _ (Nat.le_refl _), q1, q2⟩
     | tail _ m => exact y.frs e m
   · have m : a ∈ s.heap.objs.size :: fls out := m
     cases m with
     | head => exact new_nomu x (fresh0 _ (Nat.le_refl _))
     | tail _ m => exact y.fl a m
 · obtain ⟨v, a, b⟩ := look nm y mv h1 h2
   exact ⟨v, by rw [bindL_look h3 bn, a]; rfl, b⟩
 · refine ⟨_, ic.cell nm c (cellsFrom_look (p := (nm, c)) (k := s.heap.objs.size + 1) (acc := []) c3 (fun Z m => nomatch m) hc), fun Z y mv h1 h2 h3 => ?_⟩
   obtain ⟨v, a, b⟩ := look nm y mv h1 h2
   exact ⟨v, by rw [bindC_look (by rw [h3]; exact fun z => nomatch z) bn, a]; rfl, b⟩
set_option tactic.hygienic true in
theorem call_step (hX : XOk X) (hFn : FnOk X) {F : Nat → Option Fn} (hF : F = X.F) (IH : ∀ n, SimS X (mCall X.P F N d) N d n) (rz : Bool) : OrcOk X (mCall X.P F N (d + 1) rz) (d + 1) rz := by
 subst hF
 intro A out f fa args vals μ H s Q E hfa hA x rv P
 refine PostG.opt P fun fn hf P => PostG.opt P fun ρ hu P => ?_
 obtain ⟨f1, f2, f3, f4, f5, f5', f6, f7, f8, f9, f10, f11⟩ := hFn.fn f fa fn hfa hf
 rename_i o fd body
 obtain ⟨p1, p2, p3, p4, p5, c2, c3, c4, g1, g2⟩ := CFn.of f4
 have hlen : fd.params.args.length = vals.length := by rw [← mapO_len g1, upds_len hu, rv.length]
 have cr : s.heap.CodeRec fd.code fd.qualname := by
   obtain ⟨c, oc, vs, t, a1, a2, a3⟩ := f11
   exact ⟨c, oc, vs, t, a1, x.stays _ _ a2, a3⟩
 have bn : ((((fd.params.args.map (·.arg)).zip vals)).map (·.1)).Nodup := by
   rw [List.map_fst_zip (by rw [List.length_map, hlen]; exact Nat.le_refl _)]; exact c2
 refine codeAny_call_cells (Nat.lt_of_le_of_lt (Nat.le_trans (Nat.le_add_right _ _) hA.depth) (nle rfl)) (hX.K.keeps x.stays fa o f1) f2 (hX.nolim.keeps x.stays) cr f3 (bindArgs_plain p1 p2 p3 p4 f5' c2 hlen) f5 (fun y m => ?_) (fun s₁ ic => ?_) f8 f9 f10
 · obtain ⟨a, ma, e⟩ := List.mem_map.mp (List.of_mem_zip (a := y.1) (b := y.2) m).1
   refine (var_kinds p5 (e ▸ param_var g1 a ma : isVar fd.scope y.1 = true)).imp id fun q => ⟨q, ?_⟩
   obtain ⟨c, e⟩ := cellsFrom_some (k := s.heap.objs.size + 1) (acc := []) c3 (mem_of_lookup' q)
   rw [e]; rfl
 have I := in_fn x f6 f7 f10 p5 c2 c3 c4 g1 hu rv bn ic
 have hAr : Ar (A.deeper (callEnvC fd s.heap.objs.size fa)) d (callEnvC fd s.heap.objs.size fa :: out) rz := ⟨Around.frames_deeper hA.frames, by have := hA.depth; show A.depth + 1 + _ ≤ _; lia, by have := hA.units; show A.units + 3 + _ + _ ≤ _; lia, hA.hand⟩
 refine sim_execs (X := X) (N := N) (d := d) (IH 60) hAr I.ok ⟨_, I.fr⟩ body g2 I.st I.loc ?_
 revert P
 cases mSs X.P (mCall X.P X.F N d) N fn.body rz ρ H with
 | bad => exact fun P => P.elim
 | ok fl ρ' H' =>
   cases fl with
   | next => exact fun P fl' μ' s' A' L' R => by cases R; exact P _ _ _ (A'.pop x I.fr I.keep I.ex I.fresh) rv_none_
   | ret v => exact fun P fl' μ' s' A' L' R => by obtain ⟨u, rfl, R⟩ := R; exact P _ _ _ (A'.pop x I.fr I.keep I.ex I.fresh) R
 | exc xc ρ' H' =>
   intro P
   refine ExcP.leave hAr.frames I.fr I.st (G := fun e s'' => backTo' Q E (.error e) s'') fun e μ' s' A' f fa => P e μ' s' (A'.pop x I.fr I.keep I.ex I.fresh) ((fa out).older fun b q => ?_)
   cases z : s.heap.get? b with
   | none => rfl
   | some o => exact nn (q.symm.trans (I.keep b o z))
theorem calls_all (hX : XOk X) (hFn : FnOk X) (IH : ∀ (d n : Nat), (∀ rz, OrcOk X (mCall X.P X.F N d rz) d rz) → SimS X (mCall X.P X.F N d) N d n) : ∀ d rz, OrcOk X (mCall X.P X.F N d rz) d rz
 | 0, _ => fun Z Z Z Z Z Z Z Z Z Z Z Z Z Z Z P => P.elim
 | d + 1, rz => call_step hX hFn rfl (fun n => IH d n (calls_all hX hFn IH d)) rz
end
section
open PySem PySem.W PySem.Calls PyProof.Rows
variable {X : Cx} {C : Bool → Orc} {N : Nat} {rz : Bool} {d n : Nat} {sc : Scope} {vm : VM} {A : Around} {envs out : List Env} {env : Env} {μ : List Addr} {H : MH} {s : Shared} {ρ : Loc} {Q : Flow → Shared → Prop} {E : Value → Shared → Prop}
structure ExcN (X : Cx) (ca : Addr) : Prop where
 glob : nsIn X.K mainGlobals X.T.exc = some (some (.ref ca))
 cls : X.cls X.P.excC = some ca
 keep : keepIn X.K (.ref ca) = true
 ty : typeIn X.K (.ref ca) = some (.type "type")
 notTy : subIn X.K (.ref ca) (.type "type") = some false
 base : subIn X.K (.ref ca) (.type "BaseException") = some true
 self : subIn X.K (.ref ca) (.ref ca) = some true
structure ExcOk (X : Cx) : Prop where
 name : ∃ ca, ExcN X ca
 isCls : ∀ {ca : Addr}, X.cls X.P.excC = some ca → isClsIn X.K ca = true
 made : ∀ {A : Around} {envs : List Env} {d : Nat} {μ : List Addr} {H : MH} {s : Shared} {x1 x2 x3 : MV} {u v w : Value} {ca : Addr} {Q E : Value → Shared → Prop}, Ar A d envs true → St X envs μ H s → X.cls X.P.excC = some ca → RV X.T.strs μ s.heap x1 u → RV X.T.strs μ s.heap x2 v → RV X.T.strs μ s.heap x3 w →
   (∀ e oe vs dx kvs s', Aft X envs [] μ s μ H s' → Flies X envs s.heap μ s'.heap ⟨x1, x2, x3⟩ e → FlO X envs s.heap μ s'.heap ⟨x1, x2, x3⟩ e oe vs dx kvs → vs[1]? = some .none → Q (.ref e) s') → wpAny X.M A (call (.ref ca) [u, v, w]) Q E s
inductive Thrown (X : Cx) (ca : Addr) (E : Value → Shared → Prop) (v : Value) (s₁ : Shared) : Prop
 | mk {e : Addr} {oe : Obj} {vs : Array Value} (ev : v = .ref e) (Xs : X.K.In s₁.heap) (he : s₁.heap.get? e = some oe) (hc : oe.cls = .ref ca) (hd : oe.data = .fields vs) (hv : vs[1]? = some .none) (hE : E (.ref e) s₁)
set_option tactic.hygienic true in
theorem thrown {ca : Addr} {t : Sem Value} (hh : A.handled = none) (h1 : typeIn X.K (.ref ca) = some (.type "type")) (h3 : subIn X.K (.ref ca) (.type "BaseException") = some true)
   (h : wpAny X.M A t (fun v s₁ => Thrown X ca E v s₁) E s) : wpAny X.M A (raiseStmt env (some t) none) Q E s := by
 unfold raiseStmt
 refine wpAny_bind (wpAny_mono h (fun v s₁ h₁ => ?_) fun Z Z x => x)
 obtain ⟨rfl, Xs, he, hc, hd, hv, hE⟩ := h₁
 rename_i e oe vs
 have L0 : Looks X.M s₁.heap (typeOf (.ref e)) (.ref ca) := hc ▸ (Looks.ld he).andThen .now
 have L2 : Looks X.M s₁.heap (isInstance (.ref e) (.type "BaseException")) true := L0.andThen (looks_subIn Xs h3)
 have LT : Looks X.M s₁.heap (isType (.ref e)) false := by
   obtain ⟨c, dd, dt, sl⟩ := oe
   have hd : dt = .fields vs := hd
   subst hd
   exact (Looks.ld he).andThen .now
 refine wpAny_bind (wpAny_pure ?_)
 refine wpAny_bind (wpAny_holding ?_)
 unfold excFromValue isExcClass
 refine wpAny_bind (wpAny_bind (LT.here (wpAny_pure ?_)))
 rw [if_neg (by decide)]
 refine wpAny_bind (L2.here ?_)
 rw [if_pos rfl]
 refine wpAny_pure ?_
 dsimp only
 refine wpAny_bind (LT.here ?_)
 rw [if_neg (by decide)]
 refine wpAny_bind ?_
 unfold raisedInstance
 refine wpAny_bind (L0.here (wpAny_bind ((looks_typeIn Xs h1).here ?_)))
 rw [if_pos (by decide)]
 refine wpAny_pure ?_
 refine wpAny_bind ?_
 unfold setFlight
 refine wpAny_bind (wpAny_field he hd hv ?_)
 rw [if_neg (by decide)]
 exact wpAny_pure (wpAny_raiseNew_none hh hE)
theorem exc3S {vs : List MV} {G : Prop} (P : PostS X envs env vm μ s (exc3 ρ H vs) Q E) (k : ∀ x y z, vs = [x, y, z] → PostS X envs env vm μ s (.exc ⟨x, y, z⟩ ρ H) Q E → G) : G := by
 match vs, P with
 | [x, y, z], P => exact k x y z rfl P
 | [], P => exact P.elim
 | [_], P => exact P.elim
 | [_, _], P => exact P.elim
 | _ :: _ :: _ :: _ :: _, P => exact P.elim
theorem sim_sRaise (F : Facts2 X C N d) (EO : ExcOk X) (hA : Ar A d (env :: out) rz) (he : EnvOk env sc vm (env :: out)) (x : St X (env :: out) μ H s) (L : LocR X env vm μ ρ s.heap) {a b c : Expr} {ca cb cc : CE} {np cpos pos : Pos} (hg : isGlob sc X.T.exc = true)
   (h1 : cE X.T n sc vm a = some ca) (h2 : cE X.T n sc vm b = some cb) (h3 : cE X.T n sc vm c = some cc)
   (P : PostS X (env :: out) env vm μ s (mS X.P C N (.raise ca cb cc) rz ρ H) Q E) : wpAny X.M A (exec (.Raise (some (.Call (.Name X.T.exc np) [a, b, c] [] cpos)) none pos) env) Q E s := by
 refine PostS.iten P fun hrz P => ?_
 cases Bool.of_not_eq_false hrz
 obtain ⟨cl, N⟩ := EO.name
 rw [arm_exec_Raise]
 refine wpAny_bind (wpAny_standAt (thrown (ca := cl) (hA.hand rfl) N.ty N.base ?_))
 show wpAny X.M A (do let v ← eval (.Call (.Name X.T.exc np) [a, b, c] [] cpos) env; standAt pos; pure v) _ E s
 rw [arm_eval_Call_Name']
 refine wpAny_bind (wpAny_bind (ld_glob F.f.x x he hg N.glob ?_))
 have hm : mapO (cE X.T n sc vm) [a, b, c] = some [ca, cb, cc] := mapO_mk h1 (mapO_mk h2 (mapO_mk h3 rfl))
 refine sim_callK (Q := fun v s₁ => wpAny X.M A (do standAt pos; pure v) _ E s₁) F.f.x F.e hA he hm N.keep x L (PostS.then x L P fun vs us μ₁ H₁ s₁ e0 A1 R1 P2 => fun Z => exc3S P2 fun x1 x2 x3 e P2 => ?_)
 subst e
 obtain ⟨u, r1, rfl, ru, v, r2, rfl, rv, w, r3, rfl, rw', rfl⟩ := R1
 show wpAny X.M A (call (.ref cl) [u, v, w]) _ E s₁
 refine EO.made hA A1.st N.cls ru rv rw' fun e oe vs dx kvs s' A2 f g hv => wpAny_bind (wpAny_standAt (wpAny_pure ?_))
 obtain ⟨ca', c1, c2⟩ := g.cls
 cases N.cls.symm.trans c2
 exact .mk rfl (F.f.x.K.keeps A2.st.stays) g.obj c1 g.data hv (P2 e _ _ (A2.mono fun Z m => nomatch m) ((L.aft x A1).aft A1.st A2) f)
end
section
open PySem PySem.W PySem.Calls PyProof.Rows
variable {X : Cx} {C : Bool → Orc} {N : Nat} {rz : Bool} {d n : Nat} {sc : Scope} {vm : VM} {A : Around} {envs out : List Env} {env : Env} {μ : List Addr} {H : MH} {s : Shared} {ρ : Loc} {Q : Flow → Shared → Prop} {E : Value → Shared → Prop}
theorem LocR.mu {μ' : List Addr} {h : Heap} (L : LocR X env vm μ ρ h) (hm : ∀ a ∈ exL env, a ∉ μ') (M : MExt μ μ') : LocR X env vm μ' ρ h := by
 refine ⟨hm, L.nb, ?_, fun n c hc => ?_⟩
 · obtain ⟨m, hn, r⟩ := L.loc
   exact ⟨m, hn, fun n x mv h1 h2 h3 => (r n x mv h1 h2 h3).imp fun v q => ⟨q.1, q.2.mono M (TKeep.refl _)⟩⟩
 · obtain ⟨v, hv, r⟩ := L.cell n c hc
   exact ⟨v, hv, fun h0 x mv h1 h2 h3 => (r h0 x mv h1 h2 h3).imp fun v q => ⟨q.1, q.2.mono M (TKeep.refl _)⟩⟩
theorem exc_matches {ca e : Addr} {oe : Obj} {Q : Bool → Shared → Prop} (h1 : typeIn X.K (.ref ca) = some (.type "type")) (hcl : isClsIn X.K ca = true) (h3 : subIn X.K (.ref ca) (.type "BaseException") = some true) (h4 : subIn X.K (.ref ca) (.ref ca) = some true)
   (Xs : X.K.In s.heap) (he : s.heap.get? e = some oe) (hc : oe.cls = .ref ca) (q : Q true s) : wpAny X.M A (excMatches (.ref e) (.ref ca)) Q E s := by
 have L0 : Looks X.M s.heap (typeOf (.ref e)) (.ref ca) := hc ▸ (Looks.ld he).andThen .now
 have LI : Looks X.M s.heap (isInstance (.ref ca) (.type "tuple")) false := (looks_typeIn Xs h1).andThen (Looks.of_pure tc_notTuple)
 have LT : Looks X.M s.heap (isType (.ref ca)) true := by
   unfold isClsIn clsIn at hcl
   cases ho : X.K.lookup ca with
   | none => rw [ho] at hcl; exact nb hcl
   | some o =>
     rw [ho] at hcl
     obtain ⟨c, dd, da, sl⟩ := o
     cases da with
     | cls cd => exact (Looks.ld (Xs _ _ ho)).andThen .now
     | _ => exact nb hcl
 have LE : Looks X.M s.heap (isExcClass (.ref ca)) true := by
   unfold isExcClass
   refine LT.andThen ?_
   rw [if_pos rfl]
   exact looks_subIn Xs h3
 unfold excMatches
 refine wpAny_bind (LI.here (wpAny_bind (wpAny_pure ?_)))
 dsimp only
 refine wpAny_bind ?_
 rw [List.forIn_cons]
 refine wpAny_bind (wpAny_bind (LE.here ?_))
 rw [if_neg (by decide)]
 refine wpAny_pure ?_
 dsimp only
 rw [List.forIn_nil]
 refine wpAny_pure ?_
 refine wpAny_bind (L0.here ?_)
 refine wpAny_bind ?_
 rw [List.forIn_cons]
 refine wpAny_bind (wpAny_bind ((looks_subIn Xs h4).here ?_))
 rw [if_pos rfl]
 exact wpAny_pure (wpAny_pure (wpAny_pure q))
theorem exc_adopt {ex μ' : List Addr} {H' : MH} {s' : Shared} {xc : MExc} {e : Addr} {oe : Obj} {vs : Array Value} {dx : Addr} {kvs : List (Str × Value)} (x : St X envs μ H s) (A3 : Aft X envs ex μ s μ' H' s') (L3 : LocR X env vm μ' ρ s'.heap) (hd : ∀ a ∈ exL env, ∃ o, s.heap.get? a = some o)
   (f : Flies X envs s.heap μ' s'.heap xc e) (g : FlO X envs s.heap μ' s'.heap xc e oe vs dx kvs) :
   Aft X envs ex μ s (μ' ++ [dx] ++ [e]) (H' ++ [.dict false [(.str X.P.excK.1, xc.why), (.str X.P.excK.2.1, xc.fn), (.str X.P.excK.2.2, xc.at_)], .inst X.P.excC H'.length]) s' ∧ LocR X env vm (μ' ++ [dx] ++ [e]) ρ s'.heap ∧ (μ' ++ [dx] ++ [e])[H'.length + 1]? = some e := by
 obtain ⟨ca, c3, c4⟩ := g.cls
 have hde : e ≠ dx := fun q => by
   obtain ⟨o, es, ep, ho, _, hx, _⟩ := g.dobj
   cases (q ▸ g.obj : s'.heap.get? dx = some oe).symm.trans ho
   exact nomatch hx.symm.trans g.data
 have x3 := A3.st
 have A4 := A3.adopt (D := dx) (mo := .dict false [(.str X.P.excK.1, xc.why), (.str X.P.excK.2.1, xc.fn), (.str X.P.excK.2.2, xc.at_)]) g.dnew g.dm (new_nofl x g.dnew) g.db ⟨nle rfl, kvs, g.dobj, g.dr.mono (MExt.app _ _) (TKeep.refl _)⟩
 have A5 := A4.adopt (D := e) (mo := .inst X.P.excC H'.length) f.new (fun m => (List.mem_append.mp m).elim f.nm fun m => hde (List.mem_singleton.mp m)) (new_nofl x f.new) f.nb ⟨oe, ca, dx, g.obj, c4, c3, by
     obtain ⟨c, dd, dt, sl⟩ := oe
     cases g.data; rfl, g.dict, by
     rw [List.getElem?_append_left (by simp [x3.len]), List.getElem?_append_right (by rw [x3.len]; exact Nat.le_refl _), x3.len, Nat.sub_self]; rfl⟩
 rw [List.append_assoc H'] at A5
 refine ⟨A5, L3.mu (fun a ma q => ?_) (fun i a e1 => MExt.app _ _ i a (MExt.app _ _ i a e1)), by rw [List.getElem?_append_right (by simp [x3.len])]; simp [x3.len]⟩
 obtain ⟨o, e1⟩ := hd a ma
 refine (List.mem_append.mp q).elim (fun q => (List.mem_append.mp q).elim (L3.nm a ma) fun q => ?_) fun q => ?_
 · exact nn ((List.mem_singleton.mp q ▸ g.dnew : s.heap.get? a = none).symm.trans e1)
 · exact nn ((List.mem_singleton.mp q ▸ f.new : s.heap.get? a = none).symm.trans e1)
theorem suite_end (he : EnvOk env sc vm envs) {y : Str} {hp : Pos} {f8 : MFlow} {fl : Flow} {ρ8 : Loc} (hl : sc.names.lookup y = some .local) {μ8 : List Addr} {H8 : MH} {s8 : Shared} (A8 : Aft X envs (exL env) μ s μ8 H8 s8) (L8 : LocR X env vm μ8 ρ8 s8.heap) (R8 : RFl X μ8 s8.heap f8 fl)
   (P : PostS X envs env vm μ s (.ok f8 (fun Z => none) H8) Q E) : wpAny X.M A (do bindName env y .none; unbindBehindTheSuite env y hp) (fun Z s9 => Q fl s9) E s8 := by
 obtain ⟨m8, hn8, _⟩ := L8.loc
 refine wpAny_nameGoes (he.locv y hl) hn8 (by rw [he.kind]; rfl) fun h9 m9 hn9 hs9 => ?_
 have A9 := Aft.locSet A8.st L8 (t := s8.toks + 1) (.head _) hs9 (by obtain ⟨o, _, _, q, _⟩ := hn9; exact ⟨o, q⟩) (fun Z => by obtain ⟨o, es, ep, q, q2, _⟩ := hn9; exact ⟨o, es, ep, q, q2⟩)
 have T9 := A9.tu A8.st (fun b m => exL_notup L8 b (by rw [List.mem_singleton.mp m]; exact .head _))
 have L9 : LocR X env vm μ8 (fun Z => none) h9 := ⟨L8.nm, L8.nb, ⟨m9, hn9, fun Z Z Z Z q => nomatch q⟩, fun nm c hc => (L8.cell nm c hc).imp fun v q => ⟨q.1.sameBut hs9 (cell_ne L8 hc), fun Z Z Z Z q => nomatch q⟩⟩
 refine PostS.ok P (A8.trans (A9.mono fun b m => by rw [List.mem_singleton.mp m]; exact .head _)) L9 ?_
 cases f8 with
 | next => exact R8
 | ret v => obtain ⟨w, q, r⟩ := R8; exact ⟨w, q, r.mono (MExt.refl _) T9.t⟩
theorem sim_sTry (F : Facts2 X C N d) (EO : ExcOk X) (IH : SimS X C N d n) (hA : Ar A d (env :: out) rz) (he : EnvOk env sc vm (env :: out)) (hf : ∃ L, env.frame = some L) (x : St X (env :: out) μ H s) (L : LocR X env vm μ ρ s.heap)
   {b₀ h₀ : Stmt} {b h : List Stmt} {y : Str} {np hp pos : Pos} {k : Nat} {cb ch : List CS} (hg : isGlob sc X.T.exc = true) (hv : isVar sc y = true) (hl : sc.names.lookup y = some .local) (hk : vm.lookup y = some k) (h1 : mapO (cS X.T n sc vm) (b₀ :: b) = some cb) (h2 : mapO (cS X.T n sc vm) (h₀ :: h) = some ch)
   (P : PostS X (env :: out) env vm μ s (mS X.P C N (.try cb k ch) rz ρ H) Q E) : wpAny X.M A (exec (.Try (b₀ :: b) [.ExceptHandler (some (.Name X.T.exc np)) (some y) (h₀ :: h) hp] [] [] pos) env) Q E s := by
 obtain ⟨Lf, hLf⟩ := hf
 obtain ⟨cl, EN⟩ := EO.name
 refine wpAny_Try_except (sim_execs IH hA he ⟨Lf, hLf⟩ (b₀ :: b) h1 x L ?_)
 rw [qS_try] at P
 revert P
 cases mSs X.P C N cb rz ρ H with
 | bad => exact fun P => P
 | ok f ρ' H' =>
   cases f with
   | next => exact fun P fl μ' s' A' L' R => by cases R; exact wpAny_execs_nil (P _ μ' s' A' L' rfl)
   | ret v => exact fun P fl μ' s' A' L' R => by obtain ⟨w, rfl, r⟩ := R; exact P _ μ' s' A' L' ⟨w, rfl, r⟩
 | exc xc ρ' H' =>
   intro P
   refine ExcP.note (G := fun e s₂ => wpAny X.M A (setFlight e none) (fun Z s₃ => wpAny X.M A (handleBy e env [.ExceptHandler (some (.Name X.T.exc np)) (some y) (h₀ :: h) hp]) Q E s₃) E s₂) hA.frames hLf x fun e μ' s' A' L' z => ?_
   obtain ⟨f, g, b1⟩ := z
   refine flight_core (fl := fls (env :: out)) g.obj g.data b1 fun hh hn => ?_
   obtain ⟨A2, L2, ⟨f', g', b2⟩⟩ := ExcP.after x A' L' f g (fun T' q => by cases q; exact b1.at_) hn (.inl rfl)
   refine wpAny_handleBy_cons (codeAny_handlers_test ?_) (fun q => nomatch q)
   refine ld_glob F.f.x A2.st he hg EN.glob ?_
   obtain ⟨ca', c1, c2⟩ := g'.cls
   cases EN.cls.symm.trans c2
   refine exc_matches EN.ty (EO.isCls EN.cls) EN.base EN.self (F.f.x.K.keeps A2.st.stays) g'.obj c1 ?_
   show codeAny X.M (A.mark (some (.ref e))) _ _ _
   refine codeAny_handlers_suite_as (flight_core (fl := fls (env :: out)) g'.obj g'.data b2 fun hh2 hn2 => ?_)
   obtain ⟨A3, L3, ⟨f3, g3, _⟩⟩ := ExcP.after (s := { s' with heap := hh }) x A2 L2 f' g' (fun T' q => by cases q; exact b2.at_) hn2 (.inl rfl)
   obtain ⟨A5, L5, e5⟩ := exc_adopt x A3 L3 (fun a m => (exL_dom L m).imp fun o q => q.1) f3 g3
   refine sim_store he A5.st L5 hv hk (mv := .ref (H'.length + 1)) (rv_ref_ e5) fun s₆ a ma Z A6 L6 => ?_
   have A06 := A5.trans (A6.mono (ex' := exL env) fun b m => by rw [List.mem_singleton.mp m]; exact ma)
   have hA' : Ar (A.mark (some (.ref e))) d (env :: out) false := ⟨hA.frames, hA.depth, hA.units, fun q => nomatch q⟩
   refine sim_execs IH hA' he ⟨Lf, hLf⟩ (h₀ :: h) h2 A6.st L6 ?_
   have P : PostS X (env :: out) env vm μ s (mSs X.P C N ch false (upd ρ' k (.ref (H'.length + 1))) (H' ++ [.dict false [(.str X.P.excK.1, xc.why), (.str X.P.excK.2.1, xc.fn), (.str X.P.excK.2.2, xc.at_)], .inst X.P.excC H'.length])).calm Q E := P
   revert P
   cases mSs X.P C N ch false (upd ρ' k (.ref (H'.length + 1))) (H' ++ [.dict false [(.str X.P.excK.1, xc.why), (.str X.P.excK.2.1, xc.fn), (.str X.P.excK.2.2, xc.at_)], .inst X.P.excC H'.length]) with
   | bad => exact fun P => P.elim
   | exc => exact fun P => P.elim
   | ok f8 ρ8 H8 => exact fun P fl μ8 s8 A8 L8 R8 => suite_end he hl (A06.trans A8) L8 R8 P
end
section
open PySem PySem.W PySem.Calls PyProof.Rows
variable {X : Cx} {C : Bool → Orc} {N : Nat} {rz : Bool} {d n : Nat}
theorem cS_expr {T : CT} {sc : Scope} {vm : VM} {e : Expr} {p : Pos} {c : CS} (hne : ∀ a b c d, e ≠ .ListComp a b c d) (h : cS T (n + 1) sc vm (.Expr e p) = some c) : (cE T n sc vm e).map CS.expr = some c := by
 cases e <;> first | exact h | exact absurd rfl (hne _ _ _ _)
theorem cS_asgI {T : CT} {sc : Scope} {vm : VM} {o i e : Expr} {q p : Pos} {c : CS} (h : cS T (n + 1) sc vm (.Assign [.Subscript o i q] e p) = some c) : ((cE T n sc vm o).bind fun x => (cE T n sc vm i).bind fun y => (cE T n sc vm e).map fun c => CS.setI x y c) = some c := by
 cases i <;> first | exact h | exact nn h
set_option tactic.hygienic true in
theorem cS_two {T : CT} {sc : Scope} {vm : VM} {t t' : Expr} {ts : List Expr} {e : Expr} {p : Pos} : cS T (n + 1) sc vm (.Assign (t :: t' :: ts) e p) = none := by
 cases t <;> first | rfl | skip
 rename_i o i q
 cases i <;> rfl
theorem cS_aug {T : CT} {sc : Scope} {vm : VM} {o i e : Expr} {q p : Pos} {op : Operator} {c : CS} (h : cS T (n + 1) sc vm (.AugAssign (.Subscript o i q) op e p) = some c) : (∀ a b c d, i ≠ .Slice a b c d) ∧ ((cE T n sc vm o).bind fun x => (cE T n sc vm i).bind fun y => (cBop op).bind fun b => if b ≠ .add ∧ b ≠ .sub then none else (cE T n sc vm e).map fun c => CS.augI x y b c) = some c := by
 refine ⟨fun a b c d q => ?_, ?_⟩
 · subst q; exact nn h
 · cases i <;> first | exact h | exact nn h
set_option tactic.hygienic true in
theorem cS_raise {T : CT} {sc : Scope} {vm : VM} {e : Option Expr} {f : Option Expr} {p : Pos} {c : CS} {G : Prop} (h : cS T (n + 1) sc vm (.Raise e f p) = some c) (z : ∀ q a b c₁ p', e = some (.Call (.Name T.exc q) [a, b, c₁] [] p') → f = none → isGlob sc T.exc = true →
   ((cE T n sc vm a).bind fun a => (cE T n sc vm b).bind fun b => (cE T n sc vm c₁).map fun c => CS.raise a b c) = some c → G) : G := by
 generalize he : e = e' at h
 generalize hf : f = f' at h
 cases e' with
 | none => exact nn h
 | some e' =>
   cases e' <;> first | exact nn h | skip
   rename_i g as ks q
   cases g <;> first | exact nn h | skip
   rcases as with _ | ⟨a, _ | ⟨b, _ | ⟨c', _ | ⟨d, as⟩⟩⟩⟩ <;> first | exact nn h | skip
   cases ks <;> first | exact nn h | skip
   cases f' <;> first | exact nn h | skip
   refine iteS h fun hg hz => ?_
   rename_i x _
   have e2 : x = T.exc := eq_of_beq (andP hg).2
   exact z _ _ _ _ _ (he.trans (by rw [e2])) hf (e2 ▸ (andP hg).1) hz
set_option tactic.hygienic true in
theorem cS_try {T : CT} {sc : Scope} {vm : VM} {b : List Stmt} {hs : List ExceptHandler} {o f : List Stmt} {p : Pos} {c : CS} {G : Prop} (h : cS T (n + 1) sc vm (.Try b hs o f p) = some c) (z : ∀ b₀ b₁ q y h₀ h₁ p', b = b₀ :: b₁ → hs = [.ExceptHandler (some (.Name T.exc q)) (some y) (h₀ :: h₁) p'] → o = [] → f = [] → isGlob sc T.exc = true → sc.names.lookup y = some .local →
   ((cTgt1 sc vm (.Name y default)).bind fun k => (mapO (cS T n sc vm) (b₀ :: b₁)).bind fun b => (mapO (cS T n sc vm) (h₀ :: h₁)).map fun h => CS.try b k h) = some c → G) : G := by
 generalize e1 : b = b' at h
 generalize e2 : hs = hs' at h
 generalize e3 : o = o' at h
 generalize e4 : f = f' at h
 rcases b' with _ | ⟨b₀, b'⟩
 · exact nn h
 rcases hs' with _ | ⟨⟨ty, nm, hb, q⟩, hs'⟩
 · exact nn h
 rcases ty with _ | ty
 · exact nn h
 cases ty <;> first | exact nn h | skip
 rename_i x _
 cases nm <;> first | exact nn h | skip
 cases hb <;> first | exact nn h | skip
 cases hs' <;> first | exact nn h | skip
 cases o' <;> first | exact nn h | skip
 cases f' <;> first | exact nn h | skip
 refine iteS h fun hg hz => ?_
 have e5 : x = T.exc := eq_of_beq (andP (andP hg).1).2
 exact z _ _ _ _ _ _ _ e1 (e2.trans (by rw [e5])) e3 e4 (e5 ▸ (andP (andP hg).1).1) (eq_of_beq (andP hg).2) hz
theorem mapP {envs : List Env} {env : Env} {vm : VM} {μ : List Addr} {H : MH} {s : Shared} {ρ : Loc} {Q : Flow → Shared → Prop} {E : Value → Shared → Prop} {α : Type} {o : Option α} {f : α → CS} {c : CS} {G : Prop} (h : o.map f = some c) (P : PostS X envs env vm μ s (mS X.P C N c rz ρ H) Q E)
   (k : ∀ a, o = some a → PostS X envs env vm μ s (mS X.P C N (f a) rz ρ H) Q E → G) : G := mapS h fun a e e2 => k a e (e2.symm ▸ P)
theorem cTgt1_var {sc : Scope} {vm : VM} {nm : Str} {p : Pos} {k : Nat} (h : cTgt1 sc vm (.Name nm p) = some k) : isVar sc nm = true ∧ vm.lookup nm = some k := by
 obtain ⟨nm', q, e1, hv, hk⟩ := cTgt1_name h
 cases e1
 exact ⟨hv, hk⟩
theorem simS_succ (F : Facts2 X C N d) (EO : ExcOk X) (IH : SimS X C N d n) : SimS X C N d (n + 1) := by
 intro rz sc vm st c h A out env μ H s ρ Q E hA he hf x L P
 refine hide fun g z => ?_
 have z : ∀ st', st = st' → wpAny X.M A (exec st' env) Q E s → g := fun st' e q => z (e ▸ q)
 generalize hst : st = st' at h
 have z := z st' hst
 clear hst
 cases st' with
 | Expr e p =>
   by_cases hne : ∃ a b c d, e = .ListComp a b c d
   · obtain ⟨_, _, _, _, rfl⟩ := hne
     exact nn h
   · have hne := fun a b c d q => hne ⟨a, b, c, d, q⟩
     exact mapP (cS_expr hne h) P fun a h1 P => z (sim_sExpr F hA he x L hne h1 P)
 | Assign ts e p =>
   cases ts with
   | nil => exact nn h
   | cons t ts => cases ts with
     | cons => rw [cS_two] at h; exact nn h
     | nil => cases t with
       | Name nm q =>
         refine bindS h fun k h1 h => mapP h P fun c' h2 P => ?_
         obtain ⟨hv, hk⟩ := cTgt1_var h1
         by_cases hne : ∃ a b c d, e = .ListComp a b c d
         · obtain ⟨elt, gens, sc', cp, rfl⟩ := hne
           cases n with
           | zero => exact nn h2
           | succ n =>
           obtain ⟨tgt, iter, ifs, xs, src, cs, c₀, rfl, ok, g1, g2, g3, g4, rfl⟩ := cE_lc h2
           exact z (sim_sAsgC F hA he x L hv hk ok g1 g2 g3 g4 P)
         · exact z (sim_sAsg F hA he x L (fun a b c d q => hne ⟨a, b, c, d, q⟩) hv hk h2 P)
       | Tuple =>
         refine iteN h fun hc h => bindS h fun ks h1 h => mapP h P fun c' h2 P => ?_
         rw [not_or] at hc
         exact z (sim_sAsgT F hA he x L (Bool.of_not_eq_true hc.1) (Classical.not_not.mp hc.2) h1 h2 P)
       | Attribute o m q => exact bindS h fun co h1 h => bindS h fun k h2 h => mapP h P fun c' h3 P => z (sim_sAttr F hA he x L h1 (str_get h2) h3 P)
       | Subscript o i q => exact bindS (cS_asgI h) fun co h1 h => bindS h fun ci h2 h => mapP h P fun c' h3 P => z (sim_sItem F hA he x L h1 h2 h3 P)
       | _ => exact nn h
 | AugAssign t op e p =>
   cases t with
   | Subscript o i q =>
     have h := cS_aug h
     exact bindS h.2 fun co h1 h' => bindS h' fun ci h2 h' => bindS h' fun b h3 h' => iteN h' fun hb h' => mapP h' P fun c' h4 P => z (sim_sAug F hA he x L h.1 h1 h2 h3 hb h4 P)
   | _ => exact nn h
 | If t b o p => exact bindS h fun ct h1 h => bindS h fun cb h2 h => mapP h P fun co h3 P => z (sim_sIf F hA he x L IH hf h1 h2 h3 P)
 | While t b o p =>
   cases o with
   | cons => exact nn h
   | nil => exact bindS h fun ct h1 h => mapP h P fun cb h2 P => z (sim_sWhile F hA he hf x L IH h1 h2 P)
 | For t i b o p =>
   cases o with
   | cons => exact nn h
   | nil => exact bindS h fun xs h1 h => bindS h fun src h2 h => mapP h P fun cb h3 P => z (sim_sFor F hA he hf x L IH h1 h2 h3 P)
 | Return e p =>
   cases e with
   | some e => exact mapP h P fun c' h1 P => z (sim_sRet F hA he x L h1 P)
   | none => exact nn h
 | Raise e f p =>
   refine cS_raise h fun q a b c₁ p' e1 e2 hg h9 => ?_
   clear h
   subst e1 e2
   exact bindS h9 fun ca h1 h => bindS h fun cb h2 h => mapP h P fun cc h3 P => z (sim_sRaise F EO hA he x L hg h1 h2 h3 P)
 | Try b hs o f p =>
   refine cS_try h fun b₀ b₁ q y h₀ h₁ p' e1 e2 e3 e4 hg hl h9 => ?_
   clear h
   subst e1 e2 e3 e4
   refine bindS h9 fun k h1 h => bindS h fun cb h2 h => mapP h P fun ch h3 P => ?_
   obtain ⟨hv, hk⟩ := cTgt1_var h1
   exact z (sim_sTry F EO IH hA he hf x L hg hv hl hk h2 h3 P)
 | _ => exact nn h
theorem simS_all (F : Facts2 X C N d) (EO : ExcOk X) : ∀ n, SimS X C N d n
 | 0 => fun Z Z Z Z Z h => nomatch h
 | n + 1 => simS_succ F EO (simS_all F EO n)
theorem sound (F : Facts X) (Fn : FnOk X) (EO : ExcOk X) (N d : Nat) (rz : Bool) : OrcOk X (mCall X.P X.F N d rz) d rz :=
 calls_all F.x Fn (fun d n O => simS_all ⟨F, O⟩ EO n) d rz
end
section
set_option autoImplicit true
open PySem PySem.W PyProof.Rows
noncomputable def isNone : Value → Bool
 | .none => true
 | _ => false
noncomputable def isFunK : ScopeKind → Bool
 | .function => true
 | _ => false
noncomputable def okFd (K : Frag) (fd : FuncData) : Bool :=
 fd.closure.isEmpty && (isNone fd.defaults && (decide (fd.globals = mainGlobals) && (decide (fd.builtins = builtinsNs) && (!fd.scope.isCoroutine && (!fd.scope.isGenerator && (isFunK fd.scope.kind && codeIn K fd.code fd.qualname))))))
noncomputable def funcOf : Data → Option FuncData
 | .func fd => some fd
 | _ => none
noncomputable def stmtsOf : FuncBody → Option (List Stmt)
 | .stmts b => some b
 | _ => none
noncomputable def fnAt (T : CT) (K : Frag) (fa : Addr) : Option Fn := (K.lookup fa).bind fun o => (funcOf o.data).bind fun fd => (stmtsOf fd.body).bind fun b => if okFd K fd = true then cFn T fd.params b fd.scope else none
structure OkFd (K : Frag) (fd : FuncData) : Prop where
 clo : fd.closure = []
 de : fd.defaults = .none
 gl : fd.globals = mainGlobals
 bu : fd.builtins = builtinsNs
 co : fd.scope.isCoroutine = false
 ge : fd.scope.isGenerator = false
 ki : fd.scope.kind = .function
 cd : codeIn K fd.code fd.qualname = true
theorem isNoneS {v : Value} (h : isNone v = true) : v = .none := by
 cases v with
 | none => rfl
 | _ => exact nb h
theorem isFunS {v : ScopeKind} (h : isFunK v = true) : v = .function := by
 cases v with
 | function => rfl
 | _ => exact nb h
theorem funcS {d : Data} {fd : FuncData} (h : funcOf d = some fd) : d = .func fd := by
 cases d with
 | func fd' => exact congrArg Data.func (Option.some.inj h)
 | _ => exact nn h
theorem stmtsS {d : FuncBody} {b : List Stmt} (h : stmtsOf d = some b) : d = .stmts b := by
 cases d with
 | stmts b' => exact congrArg FuncBody.stmts (Option.some.inj h)
 | _ => exact nn h
theorem okFd_of {K : Frag} {fd : FuncData} (ok : okFd K fd = true) : OkFd K fd := by
 obtain ⟨c1, ok⟩ := andP ok
 obtain ⟨c2, ok⟩ := andP ok
 obtain ⟨c3, ok⟩ := andP ok
 obtain ⟨c4, ok⟩ := andP ok
 obtain ⟨c5, ok⟩ := andP ok
 obtain ⟨c6, ok⟩ := andP ok
 obtain ⟨c7, c8⟩ := andP ok
 exact ⟨List.isEmpty_iff.mp c1, isNoneS c2, of_decide_eq_true c3, of_decide_eq_true c4, (Bool.not_eq_true' _).mp c5, (Bool.not_eq_true' _).mp c6, isFunS c7, c8⟩
theorem fnOk_of (X : Cx) (hK : X.K.In X.base) (h : ∀ f fa, X.fn f = some fa → X.F f = fnAt X.T X.K fa) : FnOk X := ⟨fun f fa fn e1 e2 => bindS ((h f fa e1).symm.trans e2) fun o ho e2 => bindS e2 fun fd hd e2 => bindS e2 fun b hb e2 => iteS e2 fun ok e2 =>
 have c := okFd_of ok
 .mk ho (funcS hd) (stmtsS hb) e2 c.clo c.de c.gl c.bu c.co c.ge c.ki (codeRec_of hK c.cd)⟩
theorem allAt {l : List Bool} (h : l.all id = true) {i : Nat} {b : Bool} (e : l[i]? = some b) : b = true := List.all_eq_true.mp h b (List.mem_of_getElem? e)
theorem eqAt {α : Type} [BEq α] [LawfulBEq α] {l : List Bool} (h : l.all id = true) {i : Nat} {a b : α} (e : l[i]? = some (a == b)) : a = b := beq_iff_eq.mp (allAt h e)
end
section
set_option tactic.hygienic true
open PySem PySem.W PySem.Calls PyProof.Rows
structure Tb where
 ct : CT
 fnL : List Nat
 clsL : List (Nat × Nat)
 globV : List MV
 methL : List ((Nat × Nat) × Nat)
 initL : List (Nat × Nat)
 kn : Nat
 excK : Nat × Nat × Nat
noncomputable def lmOf : Nat → Option LM
 | 0 => some .append
 | 1 => some .pop
 | 2 => some .extend
 | 3 => some .reverse
 | _ => none
noncomputable def Tb.P (t : Tb) : Code := ⟨fun c k => t.methL.lookup (c, k), lmOf, fun g => t.globV[g]?, fun c => t.initL.lookup c, 1, t.excK⟩
noncomputable def Tb.F (t : Tb) (K : Frag) (f : Nat) : Option Fn := (t.fnL[f]?).bind (fnAt t.ct K)
noncomputable def Tb.X (t : Tb) (prog : Program) (w : World) (K : Frag) (s : Shared) (L : Addr) : Cx :=
 ⟨prog, w, K, s.heap, s.os, t.ct, t.P, t.F K, fun f => t.fnL[f]?, fun c => t.clsL.lookup c, [t.kn, L]⟩
noncomputable def anyO {α : Type} (o : Option α) (p : α → Bool) : Bool := match o with
 | some a => p a
 | none => false
noncomputable def allO {α : Type} (o : Option α) (p : α → Bool) : Bool := match o with
 | some a => p a
 | none => true
theorem anyS {α : Type} {o : Option α} {p : α → Bool} {G : Prop} (h : anyO o p = true) (k : ∀ a, o = some a → p a = true → G) : G := by
 cases o with
 | some a => exact k a rfl h
 | none => exact nb h
theorem allS {α : Type} {o : Option α} {p : α → Bool} {a : α} (h : allO o p = true) (e : o = some a) : p a = true := by subst e; exact h
noncomputable def itemsOf : Data → Option (Array Value)
 | .seq items _ => some items
 | _ => none
noncomputable def tupAt (K : Frag) (a : Addr) : Option (Array Value) := (K.lookup a).bind fun o => (itemsOf o.data).bind fun items => if o.cls == .type "tuple" && (o.dict.isNone && (o.slots.size == 0 && decide (items.size ≤ 1000))) then some items else none
theorem objT {o : Obj} {cl : Value} {di : Option Addr} {da : Data} {sl : Array (Option Value)} (h1 : o.cls = cl) (h2 : o.dict = di) (h3 : o.data = da) (h4 : o.slots = sl) : o = ⟨cl, di, da, sl⟩ := by
 cases o; cases h1; cases h2; cases h3; cases h4; rfl
theorem itemsS {d : Data} {items : Array Value} (h : itemsOf d = some items) : ∃ n, d = .seq items n := by
 cases d with
 | seq its n => exact ⟨n, congrArg (Data.seq · n) (Option.some.inj h)⟩
 | _ => exact nn h
theorem tupAt_of {K : Frag} {h : Heap} {a : Addr} {items : Array Value} (X : K.In h) (e : tupAt K a = some items) : ∃ n, IsT h a items n ∧ items.size ≤ sizeLine :=
 bindS e fun o ho e => bindS e fun its hi e => iteS e fun c e => by
   cases e
   obtain ⟨c1, c⟩ := andP c
   obtain ⟨c2, c⟩ := andP c
   obtain ⟨c3, c4⟩ := andP c
   obtain ⟨n, hd⟩ := itemsS hi
   exact ⟨n, (X _ _ ho).trans (congrArg some (objT (beq_iff_eq.mp c1) (Option.isNone_iff_eq_none.mp c2) hd (Array.eq_empty_of_size_eq_zero (beq_iff_eq.mp c3)))), Nat.le_trans (of_decide_eq_true c4) (by rw [sizeLine_eq]; decide)⟩
mutual
noncomputable def rvIn (K : Frag) (S : List Str) (kn : Nat) : MV → Value → Bool
 | .none, .none => true
 | .bool b, .bool c => b == c
 | .int i, .int j _ => i == j
 | .str k, .str x _ => S[k]? == some x
 | .tup l, .ref a => anyO (tupAt K a) fun items => rvsIn K S kn l items.toList
 | .ref 0, .ref a => a == kn
 | _, _ => false
noncomputable def rvsIn (K : Frag) (S : List Str) (kn : Nat) : List MV → List Value → Bool
 | [], [] => true
 | m :: ms, v :: vs => rvIn K S kn m v && rvsIn K S kn ms vs
 | _, _ => false
end
mutual
theorem rvIn_of {K : Frag} {S : List Str} {kn : Nat} {h : Heap} {μ : List Addr} (X : K.In h) (hμ : μ[0]? = some kn) : ∀ {m : MV} {v : Value}, rvIn K S kn m v = true → RV S μ h m v
 | .none, v, e => by cases v <;> first | exact rfl | exact nb e
 | .bool b, v, e => by
   cases v <;> first | exact nb e | skip
   rename_i c
   exact congrArg Value.bool (beq_iff_eq (a := b) (b := c) |>.mp e).symm
 | .int i, v, e => by
   cases v <;> first | exact nb e | skip
   rename_i c t
   exact ⟨t, congrArg (Value.int · t) (beq_iff_eq (a := i) (b := c) |>.mp e).symm⟩
 | .str k, v, e => by
   cases v <;> first | exact nb e | skip
   rename_i y t
   exact ⟨y, t, beq_iff_eq (a := S[k]?) (b := some y) |>.mp e, rfl⟩
 | .tup l, v, e => by
   cases v <;> first | exact nb e | skip
   rename_i a
   refine anyS e fun items ei e => ?_
   obtain ⟨n, i, z⟩ := tupAt_of X ei
   exact ⟨a, items, n, rfl, i, z, rvsIn_of X hμ e⟩
 | .ref i, v, e => by
   cases i with
   | succ => cases v <;> exact nb e
   | zero =>
     cases v <;> first | exact nb e | skip
     rename_i a
     exact ⟨kn, hμ, congrArg Value.ref (beq_iff_eq (a := a) (b := kn) |>.mp e)⟩
theorem rvsIn_of {K : Frag} {S : List Str} {kn : Nat} {h : Heap} {μ : List Addr} (X : K.In h) (hμ : μ[0]? = some kn) : ∀ {m : List MV} {v : List Value}, rvsIn K S kn m v = true → RVs S μ h m v
 | [], v, e => by cases v <;> first | exact rfl | exact nb e
 | m :: ms, v, e => by
   cases v with
   | nil => exact nb e
   | cons v vs => exact andT (a := rvIn K S kn m v) e fun e1 e2 => RVs.cons (rvIn_of X hμ e1) (rvsIn_of X hμ e2)
end
noncomputable def Tb.okCls (t : Tb) (K : Frag) : Bool := t.clsL.all fun c => hasDictIn K c.2 &&
 ((c.1 == 1 || (plainGet K c.2 "" && (plainOver K c.2 && (findIn K (.ref c.2) "__setattr__" == some (some (.builtin "object.__setattr__")) && (makesIn K c.2 &&
   allO (t.initL.lookup c.1) fun f => anyO t.fnL[f]? fun fa => findIn K (.ref c.2) "__init__" == some (some (.ref fa)) && typeIn K (.ref fa) == some (.type "function")))))) &&
 (t.ct.strs.zipIdx.all fun nk => match t.methL.lookup (c.1, nk.2) with
   | none => findIn K (.ref c.2) nk.1 == some none
   | some f => anyO t.fnL[f]? fun fa => findIn K (.ref c.2) nk.1 == some (some (.ref fa)) && isFn K (.ref fa)))
noncomputable def bisL : List Str := ["len", "abs", "list", "tuple", "range", "enumerate"]
noncomputable def Tb.okGlob (t : Tb) (K : Frag) : Bool := (t.ct.globs.all fun ng => allO t.globV[ng.2]? fun mv => anyO (nsIn K mainGlobals ng.1) fun o => anyO o fun v => rvIn K t.ct.strs t.kn mv v) &&
 ((t.ct.funs.all fun nk => anyO t.fnL[nk.2]? fun fa => nsIn K mainGlobals nk.1 == some (some (.ref fa)) && keepIn K (.ref fa)) &&
 ((t.ct.clss.all fun nk => anyO (t.clsL.lookup nk.2) fun ca => nsIn K mainGlobals nk.1 == some (some (.ref ca)) && keepIn K (.ref ca)) &&
 ((bisL.all fun n => nsIn K mainGlobals n == some none) && ((t.fnL.all fun fa => keepIn K (.ref fa)) &&
 ((List.range 4).all fun k => anyO (lmOf k) fun m => t.ct.strs[k]? == some (lmS m))))))
noncomputable def Tb.okStr (t : Tb) : Bool := decide t.ct.strs.Nodup && (t.ct.strs.all PyData.strOk && t.kn != sysModules)
theorem mem_of_lookupN {α β : Type} [BEq α] [LawfulBEq α] {n : α} {c : β} {l : List (α × β)} (h : l.lookup n = some c) : (n, c) ∈ l := by
 induction l with
 | nil => exact nn h
 | cons p r ih =>
   obtain ⟨a, b⟩ := p
   rw [List.lookup_cons] at h
   cases q : n == a with
   | true => rw [q] at h; cases h; rw [beq_iff_eq.mp q]; exact .head _
   | false => rw [q] at h; exact .tail _ (ih h)
theorem cBi_in {n : Str} {b : Bi} (e : cBi n = some b) : n ∈ bisL ∧ n ≠ "__name__" ∧ bootBuiltins n = some (biV b) := by
 have m := mem_of_lookupN (l := biL) e
 cases m with
 | head => exact ⟨by decide +kernel, by decide +kernel, by kernel_rfl⟩
 | tail _ m => cases m with
   | head => exact ⟨by decide +kernel, by decide +kernel, by kernel_rfl⟩
   | tail _ m => cases m with
     | head => exact ⟨by decide +kernel, by decide +kernel, by kernel_rfl⟩
     | tail _ m => cases m with
       | head => exact ⟨by decide +kernel, by decide +kernel, by kernel_rfl⟩
       | tail _ m => exact nomatch m
section
variable {t : Tb} {prog : Program} {w : World} {K : Frag} {s : Shared} {L : Addr}
theorem clsOk_of (hc : t.okCls K = true) (hg : ∀ ca nm, t.clsL.lookup 1 = some ca → findIn K (.ref ca) nm = some none → ∀ {A : Around} {s : Shared} {Q E : Value → Shared → Prop} {a : Addr} {ox : Obj} {ds : List DictEntry} {n : Nat} {v : Value} {expr : Bool}, K.In s.heap → InstAt s.heap a ox ca (some (dictOf ds n)) →
   lookIn nm (dictOf ds n) = some (some v) → handedIn v = true → Q v { s with toks := s.toks + 1 } → wpAny (model prog w) A (getAttr (.ref a) nm expr) Q E s) : ClsOk (t.X prog w K s L) := by
 have all : ∀ c ca, t.clsL.lookup c = some ca → _ := fun c ca h => andP (List.all_eq_true.mp hc _ (mem_of_lookupN h))
 have p2 : ∀ c ca, t.clsL.lookup c = some ca → c ≠ 1 → _ := fun c ca h n => (orT (andP (all c ca h).2).1).resolve_left fun q => n (beq_iff_eq.mp q)
 refine ⟨fun c ca h n nm => (andP (p2 c ca h n)).1, fun c ca h => (all c ca h).1, fun c ca nm h z => ?_, fun c ca k nm h hk => ?_, fun c ca h n => ?_, fun c ca f h n e => ?_⟩
 · by_cases n : c = 1
   · subst n; exact hg ca nm h z
   · exact get_plain (X := t.X prog w K s L) (nm := nm) (show plainGet K ca nm = true from (andP (p2 c ca h n)).1) (all c ca h).1 z
 · have q := List.all_eq_true.mp (andP (all c ca h).2).2 (nm, k) (List.mem_zipIdx_iff_getElem?.mpr hk)
   refine ⟨fun e => ?_, fun f e => ?_⟩
   · have e : t.methL.lookup (c, k) = none := e
     dsimp only at q
     rw [e] at q; exact beq_iff_eq.mp q
   · have e : t.methL.lookup (c, k) = some f := e
     dsimp only at q
     rw [e] at q
     exact anyS q fun fa hf q => ⟨fa, hf, beq_iff_eq.mp (andP q).1, (andP q).2⟩
 · have q := (andP (p2 c ca h n)).2
   exact ⟨(andP q).1, beq_iff_eq.mp (andP (andP q).2).1, (andP (andP (andP q).2).2).1⟩
 · exact anyS (allS (o := t.initL.lookup c) (a := f) (andP (andP (andP (andP (p2 c ca h n)).2).2).2).2 e) fun fa hf q => ⟨fa, hf, beq_iff_eq.mp (andP q).1, beq_iff_eq.mp (andP q).2⟩
theorem gOk_of (hK : K.In s.heap) (hg : t.okGlob K = true) {mb : Str → Option Value} (hb : s.heap.Ns builtinsNs mb) (hbb : ∀ x : Str, x ≠ "__name__" → mb x = bootBuiltins x) : GOk (t.X prog w K s L) := by
 obtain ⟨g1, hg⟩ := andP hg
 obtain ⟨g2, hg⟩ := andP hg
 obtain ⟨g3, hg⟩ := andP hg
 obtain ⟨g4, hg⟩ := andP hg
 obtain ⟨g5, g6⟩ := andP hg
 have b : ∀ n, n ∈ bisL → nsIn K mainGlobals n = some none := fun n m => beq_iff_eq.mp (List.all_eq_true.mp g4 n m)
 refine ⟨fun n g mv h1 h2 => ?_, fun n k h => ?_, fun n k h => ?_, fun n bi h => ?_, ⟨b _ (by decide +kernel), mb, hb, ?_⟩, ⟨b _ (by decide +kernel), mb, hb, ?_⟩, fun f fa h => ?_, fun k m h => ?_⟩
 · exact anyS (allS (o := t.globV[g]?) (a := mv) (List.all_eq_true.mp g1 _ (mem_of_lookupN h1)) h2) fun o eo q => anyS q fun v ev q => ⟨v, eo.trans (congrArg some ev), rvIn_of (μ := [t.kn, L]) hK rfl q⟩
 · exact anyS (List.all_eq_true.mp g2 _ (mem_of_lookupN h)) fun fa hf q => ⟨fa, beq_iff_eq.mp (andP q).1, hf, (andP q).2⟩
 · exact anyS (List.all_eq_true.mp g3 _ (mem_of_lookupN h)) fun fa hf q => ⟨fa, beq_iff_eq.mp (andP q).1, hf, (andP q).2⟩
 · obtain ⟨m, n1, n2⟩ := cBi_in h
   exact ⟨b _ m, mb, hb, (hbb _ n1).trans n2⟩
 · rw [hbb _ (by decide +kernel)]; kernel_rfl
 · rw [hbb _ (by decide +kernel)]; kernel_rfl
 · exact List.all_eq_true.mp g5 _ (List.mem_of_getElem? h)
 · have h : lmOf k = some m := h
   have hk : k < 4 := by
     rcases k with _ | _ | _ | _ | k <;> first | exact nn h | decide
   exact anyS (List.all_eq_true.mp g6 k (List.mem_range.mpr hk)) fun m' e q => by cases h.symm.trans e; exact beq_iff_eq.mp q
theorem xOk_of (hK : K.In s.heap) (hs : t.okStr = true) (hn : s.heap.NoLimit) {o : Obj} (hm : s.heap.get? sysModules = some o) (hL : L ≠ sysModules) : XOk (t.X prog w K s L) := by
 obtain ⟨s1, hs⟩ := andP hs
 obtain ⟨s2, s3⟩ := andP hs
 refine ⟨hK, hn, ⟨of_decide_eq_true s1, fun y m => List.all_eq_true.mp s2 y m⟩, ⟨o, hm⟩, fun a m => ?_⟩
 cases m with
 | head => exact bne_iff_ne.mp s3
 | tail _ m => rw [List.mem_singleton.mp m]; exact hL
theorem fnOk_t (hK : K.In s.heap) : FnOk (t.X prog w K s L) := fnOk_of _ hK fun f fa e => by
 show (t.fnL[f]?).bind _ = _
 rw [show t.fnL[f]? = some fa from e]; rfl
end
end
section
open PySem PySem.W PySem.Calls PyProof.Rows
noncomputable def intOf : MV → Option Int
 | .int i => some i
 | _ => none
noncomputable def keyInt : Value → Option Int
 | .int i _ => some i
 | _ => none
noncomputable def entsOf : Data → Option (Array DictEntry)
 | .dict es _ => some es
 | _ => none
theorem intOfS {m : MV} {i : Int} (h : intOf m = some i) : m = .int i := by
 cases m with
 | int j => exact congrArg MV.int (Option.some.inj h)
 | _ => exact nn h
theorem keyIntS {v : Value} {i : Int} (h : keyInt v = some i) : ∃ t, v = .int i t := by
 cases v with
 | int j t => exact ⟨t, congrArg (Value.int · t) (Option.some.inj h)⟩
 | _ => exact nn h
theorem entsS {d : Data} {es : Array DictEntry} (h : entsOf d = some es) : ∃ n, d = .dict es n := by
 cases d with
 | dict es n => exact ⟨n, congrArg (Data.dict · n) (Option.some.inj h)⟩
 | _ => exact nn h
noncomputable def risIn (K : Frag) (S : List Str) (kn : Nat) : List (MV × MV) → List DictEntry → Bool
 | [], [] => true
 | p :: r, e :: es => anyO (intOf p.1) fun i => anyO (keyInt e.key) fun j => i == j && (e.hash == hashInt j && (rvIn K S kn p.2 e.val && risIn K S kn r es))
 | _, _ => false
noncomputable def keysOf (ds : List (MV × MV)) : List Int := ds.map fun d => (intOf d.1).getD 0
noncomputable def dictInt (K : Frag) (S : List Str) (kn : Nat) (ds : List (MV × MV)) : Bool := anyO (K.lookup kn) fun o => anyO (entsOf o.data) fun es =>
 o.cls == .type "dict" && (o.dict.isNone && (o.slots.size == 0 && (risIn K S kn ds es.toList && decide (keysOf ds).Nodup)))
theorem risIn_of {K : Frag} {S : List Str} {kn : Nat} {h : Heap} {μ : List Addr} {prog : Program} {w : World} (X : K.In h) (hμ : μ[0]? = some kn) {ds : List (MV × MV)} : ∀ {es : List DictEntry}, risIn K S kn ds es = true →
   (∀ e ∈ es, ∃ k, (intKind prog w).is k e.key = true ∧ e.hash = (intKind prog w).hash k) ∧ ∃ kvs, Pairs (intKind prog w) es kvs ∧ RIs S μ h ds kvs ∧ kvs.map (·.1) = keysOf ds := by
 induction ds with
 | nil => intro es e; cases es with
   | nil => exact ⟨fun Z m => (nomatch m), [], Pairs.nil, rfl, rfl⟩
   | cons => exact nb e
 | cons p r ih => intro es e; cases es with
   | nil => exact nb e
   | cons en es =>
     refine anyS e fun i ei e => anyS e fun j ej e => andT e fun e1 e => andT e fun e2 e => andT e fun e3 e4 => ?_
     cases beq_iff_eq.mp e1
     obtain ⟨t, hk⟩ := keyIntS ej
     have is : (intKind prog w).is i en.key = true := by rw [hk]; exact beq_self_eq_true i
     obtain ⟨h1, kvs, h2, h3, h4⟩ := ih e4
     refine ⟨fun e m => ?_, (i, en.val) :: kvs, .cons is rfl h2, ⟨i, en.val, kvs, intOfS ei, rfl, rvIn_of X hμ e3, h3⟩, ?_⟩
     · cases m with
       | head => exact ⟨i, is, beq_iff_eq.mp e2⟩
       | tail _ m => exact h1 e m
     · show i :: kvs.map (·.1) = (intOf p.1).getD 0 :: keysOf r
       rw [ei, h4]; rfl
theorem rvs_ints {S : List Str} {μ : List Addr} {h : Heap} {vs : List Value} {ns : List Int} (r : IntsAre vs ns) : RVs S μ h (ns.map .int) vs := by
 induction r with
 | nil => exact RVs.nil
 | cons n t r ih => exact RVs.cons ⟨t, rfl⟩ ih
section
variable {t : Tb} {prog : Program} {w : World} {K : Frag} {s : Shared} {L : Addr}
theorem st_first {ds : List (MV × MV)} {vs : List Value} {ns : List Int} (hK : K.In s.heap) (hg : s.gens = #[]) (hd : dictInt K t.ct.strs t.kn ds = true)
   (hl : s.heap.get? L = some { cls := .type "list", data := .seq vs.toArray }) (hi : IntsAre vs ns) (hn : ns.length ≤ 1000) : St (t.X prog w K s L) [] [t.kn, L] [.dict true ds, .list true (ns.map .int)] s := by
 refine anyS hd fun o ho hd => anyS hd fun es he hd => andT hd fun d1 hd => andT hd fun d2 hd => andT hd fun d3 hd => andT hd fun d4 d5 => ?_
 obtain ⟨n, hda⟩ := entsS he
 have hkn : s.heap.get? t.kn = some ⟨.type "dict", none, .dict es n, #[]⟩ := (hK _ _ ho).trans (congrArg some (objT (beq_iff_eq.mp d1) (Option.isNone_iff_eq_none.mp d2) hda (Array.eq_empty_of_size_eq_zero (beq_iff_eq.mp d3))))
 have hne : t.kn ≠ L := fun q => by rw [q, hl] at hkn; exact nomatch Obj.mk.inj (Option.some.inj hkn) |>.2.2.1
 obtain ⟨k1, kvs, k2, k3, k4⟩ := risIn_of (prog := prog) (w := w) (μ := [t.kn, L]) hK rfl d4
 have rv := rvs_ints (S := t.ct.strs) (μ := [t.kn, L]) (h := s.heap) hi
 have hlen : vs.length = ns.length := rv.length.trans (List.length_map _)
 have two : ∀ {R : Nat → MObj → Addr → Prop}, R 0 (.dict true ds) t.kn → R 1 (.list true (ns.map .int)) L → ∀ (i : Nat) (o : MObj) (a : Addr), [MObj.dict true ds, .list true (ns.map .int)][i]? = some o → [t.kn, L][i]? = some a → R i o a := fun h0 h1 i o a e1 e2 => by
   rcases i with _ | _ | i
   · cases e1; cases e2; exact h0
   · cases e1; cases e2; exact h1
   · exact nn e1
 refine ⟨rfl, by simp [hne], two (R := fun Z o a => RO _ _ s.heap a o) ⟨kvs, ⟨_, es, n, hkn, ⟨rfl, rfl, rfl⟩, rfl, fun e m => k1 e (by simpa using m), k2, k4.symm ▸ of_decide_eq_true d5⟩, k3⟩ ⟨vs.toArray, 0, hl, rv, ?_⟩,
   fun Z Z e => e, two (R := fun Z o a => (o.fz = true ∧ a ∈ _) ∨ _) (.inl ⟨rfl, .head _⟩) (.inl ⟨rfl, .tail _ (.head _)⟩), fun Z m => (nomatch m), fun Z m => (nomatch m), hg, rfl, ⟨[], rfl⟩⟩
 rw [List.size_toArray, sizeLine_eq, hlen]; exact Nat.le_trans hn (by decide)
theorem go_law {N d f : Nat} {fa : Addr} {ds : List (MV × MV)} {ns : List Int} {H' : MH} {R : Result → Shared → Prop} (FX : Facts (t.X prog w K s L)) (Fn : FnOk (t.X prog w K s L)) (EO : ExcOk (t.X prog w K s L))
   (S0 : St (t.X prog w K s L) [] [t.kn, L] [.dict true ds, .list true (ns.map .int)] s) (hf : t.fnL[f]? = some fa) (hd : d ≤ 100)
   (run : mCall t.P (t.F K) N d true f [.ref 1] [.dict true ds, .list true (ns.map .int)] = .ok (.bool true) H')
   (hR : ∀ s', (∀ b o, s.heap.get? b = some o → s'.heap.get? b = some o) → s'.gens = #[] → s'.os = s.os → R (.ok (.ret (.bool true))) s') :
   codeAny (model prog w) callerA (.call (.ref fa) ⟨[.ref L], []⟩) R s := by
 have O := sound FX Fn EO N d true
 refine codeAny_mono (O callerA [] f fa [.ref 1] [.ref L] [t.kn, L] [.dict true ds, .list true (ns.map .int)] s (fun v s' => R (.ok (.ret v)) s') (fun Z Z => False) hf ⟨rfl, ?_, ?_, fun Z => rfl⟩ S0 ?_ ?_) ?_
 · show 1 + 300 + 4 * d ≤ 903; lia
 · show 4 + 40 + 32 * d ≤ 9000; lia
 · exact RVs.cons (rv_ref_ rfl) RVs.nil
 · show PostG _ _ _ _ _ _ (mCall t.P (t.F K) N d true f [.ref 1] [.dict true ds, .list true (ns.map .int)]) _ _
   rw [run]
   intro u μ' s' A rv
   rw [rv_bool rv]
   exact hR s' A.st.stays A.st.gens A.st.os
 · intro r s' q
   cases r with
   | ok c =>
     cases c with
     | ret v => exact q
     | _ => exact q.elim
   | error e => exact q.elim
end
end
section
open PySem PySem.W PySem.Calls
noncomputable def clsD : Data → Option ClassData
 | .cls cd => some cd
 | _ => none
theorem clsDS {d : Data} {cd : ClassData} (h : clsD d = some cd) : d = .cls cd := by
 cases d with
 | cls c => exact congrArg Data.cls (Option.some.inj h)
 | _ => exact nn h
noncomputable def refHd : List Value → Option (Addr × List Value)
 | .ref a :: l => some (a, l)
 | _ => none
theorem refHdS {l : List Value} {q : Addr × List Value} (h : refHd l = some q) : l = .ref q.1 :: q.2 := by
 cases l with
 | nil => exact nn h
 | cons v l => cases v with
   | ref a => cases h; rfl
   | _ => exact nn h
noncomputable def unc {α : Type} : List α → Option (α × List α)
 | a :: l => some (a, l)
 | [] => none
theorem uncS {α : Type} {l : List α} {q : α × List α} (h : unc l = some q) : l = q.1 :: q.2 := by
 cases l with
 | nil => exact nn h
 | cons a l => cases h; rfl
noncomputable def excClIn (K : Frag) (C : Addr) : Bool := anyO (K.lookup C) fun o => o.cls == .type "type" && anyO (clsD o.data) fun cd => anyO (refHd cd.mro) fun q => decide (o.slots.size = 6) && (o.slots.toList[4]? == some (some (.builtin "Exception.__new__")) && (q.1 == C && (!cd.hasDel && (q.2.contains (.type "Exception") && (!q.2.contains (.type "AttributeError") && !q.2.contains (.type "NameError"))))))
structure ExcAt (h : Heap) (C : Addr) (nm q : Str) (N : Addr) (bs bm : List Value) (hdct : Bool) (sn : List Str) (sub : List Value) (ab : Bool) (col : Option Bool) (dd : Option Addr) (k0 k1 k2 k3 k5 : Option Value) : Prop where
 at_ : h.get? C = some (excClassObj nm q C N bs bm hdct sn sub ab col dd k0 k1 k2 k3 k5 "Exception.__new__")
 exc : bm.contains (.type "Exception") = true
 noA : bm.contains (.type "AttributeError") = false
 noN : bm.contains (.type "NameError") = false
theorem cdT {cd : ClassData} {m : List Value} (h1 : cd.mro = m) (h2 : cd.hasDel = false) : cd = { cd with mro := m, hasDel := false } := by
 cases cd; cases h1; cases h2; rfl
theorem six {α : Type} {a : Array α} {v : α} (h : a.size = 6) (h4 : a.toList[4]? = some v) : ∃ k0 k1 k2 k3 k5, a.toList = [k0, k1, k2, k3, v, k5] := by
 obtain ⟨l⟩ := a
 have h : Nat.beq l.length 6 = true := Nat.beq_eq.mpr h
 rcases l with _ | ⟨k0, _ | ⟨k1, _ | ⟨k2, _ | ⟨k3, _ | ⟨k4, _ | ⟨k5, _ | ⟨k6, l⟩⟩⟩⟩⟩⟩⟩ <;> first | exact nb h | skip
 exact ⟨k0, k1, k2, k3, k5, by rw [Option.some.inj h4]⟩
theorem excAt_of {K : Frag} {h : Heap} {C : Addr} (X : K.In h) (e : excClIn K C = true) : ∃ nm q N bs bm hdct sn sub ab col dd k0 k1 k2 k3 k5, ExcAt h C nm q N bs bm hdct sn sub ab col dd k0 k1 k2 k3 k5 := by
 refine hide fun g kk => anyS e fun o ho b0 => ?_
 obtain ⟨e1, b1⟩ := andP b0
 refine anyS b1 fun cd hd b2 => anyS b2 fun q hm a0 => ?_
 obtain ⟨e2, a1⟩ := andP a0
 obtain ⟨e3, a2⟩ := andP a1
 obtain ⟨e4, a3⟩ := andP a2
 obtain ⟨e5, a4⟩ := andP a3
 obtain ⟨e6, a5⟩ := andP a4
 obtain ⟨e7, e8⟩ := andP a5
 clear b0 b1 b2 a0 a1 a2 a3 a4 a5 e
 obtain ⟨k0, k1, k2, k3, k5, hs⟩ := six (of_decide_eq_true e2) (eq_of_beq e3)
 have hm : cd.mro = .ref C :: q.2 := (refHdS hm).trans (by rw [eq_of_beq e4])
 have ho' : o = excClassObj cd.name cd.qualname C cd.ns cd.bases q.2 cd.hasDict cd.slotNames cd.subclasses cd.abstract cd.collection o.dict k0 k1 k2 k3 k5 "Exception.__new__" :=
   objT (eq_of_beq e1) rfl ((clsDS hd).trans (congrArg Data.cls (cdT hm (Bool.not_eq_true' _ ▸ e5)))) (Array.toList_inj.mp hs)
 exact kk ⟨_, _, _, _, _, _, _, _, _, _, _, k0, k1, k2, k3, k5, (X _ _ ho).trans (congrArg some ho'), e6, Bool.not_eq_true' _ ▸ e7, Bool.not_eq_true' _ ▸ e8⟩
section
variable {prog : Program} {w : World} {A : Around} {E : Value → Shared → Prop} {h : Heap} {g : Array GenState} {d : Drawn} {t : Nat} {os : OsState}
variable {nm q : Str} {C N : Addr} {bs bm : List Value} {hdct : Bool} {sn : List Str} {sub : List Value} {ab : Bool} {col : Option Bool} {dd : Option Addr} {k0 k1 k2 k3 k5 : Option Value}
theorem xc_isType {M : Model} (hC : h.get? C = some (excClassObj nm q C N bs bm hdct sn sub ab col dd k0 k1 k2 k3 k5 "Exception.__new__")) {Q : Bool → Shared → Prop} (hq : Q true ⟨h, g, d, t, os⟩) : wpAny M A (isType (.ref C)) Q E ⟨h, g, d, t, os⟩ := by
 unfold isType
 repeat (first | refine wpAny_loadPart_at hC ?_ | wp_step)
 exact hq
theorem xc_check {M : Model} (B : ExcAt h C nm q N bs bm hdct sn sub ab col dd k0 k1 k2 k3 k5) {rest : List Value} {Q : Unit → Shared → Prop} (hq : Q () ⟨h, g, d, t, os⟩) :
   wpAny M A (checkBuiltinCall "Exception.__new__" ⟨.ref C :: rest, []⟩) Q E ⟨h, g, d, t, os⟩ := by
 have F := PySem.F.excBase_Exception
 have hC := B.at_
 have hcont : (Value.ref C :: bm).contains (.type "Exception") = true := by rw [List.contains_cons, B.exc, Bool.or_true]
 have hstar := F.noStar
 unfold checkBuiltinCall
 rw [F.newKind, F.newSplit]
 show wpAny M A (if ("__new__" == "__new__") = true then _ else _) Q E _
 rw [if_pos (by rfl)]
 refine wpAny_bind (xc_isType hC ?_)
 show wpAny M A (if (!true) = true then _ else _) Q E _
 rw [if_neg (by decide)]
 refine wpAny_bind (wpAny_isSubtype_exc hC ?_)
 rw [hcont]
 show wpAny M A (if (!true) = true then _ else _) Q E _
 rw [if_neg (by decide)]
 refine wpAny_bind (wpAny_staticBase_exc hC ?_)
 refine wpAny_bind (wpAny_madeBy_exc hC ?_)
 show wpAny M A (if (Manifest.canonical "Exception.__new__" != Manifest.canonical "Exception.__new__") = true then _ else _) Q E _
 rw [if_neg (by rw [bne_self_eq_false]; decide), F.newRow]
 show wpAny M A (Bind.checkArgs "Exception.__new__" _ _) Q E _
 unfold Bind.checkArgs
 repeat (first | refine wpAny_loadPart_at hC ?_ | refine wpAny_staticBase_exc hC ?_ | simp only [Bool.false_eq_true, if_false] | wp_step)
 exact hq
noncomputable abbrev excObj (C : Addr) (dx : Option Addr) (t : Addr) : Obj := { cls := .ref C, dict := dx, data := .fields #[.ref t, .none, .none, .none, .bool false, .none] }
theorem xc_new {R : Result → Shared → Prop} (B : ExcAt h C nm q N bs bm hdct sn sub ab col dd k0 k1 k2 k3 k5) {rest : List Value}
   (hq : R (.ok (.ret (.ref (h.objs.size + 1)))) ⟨(h.push { cls := .type "tuple", data := .seq rest.toArray }).push (excObj C none h.objs.size), g, d, t, os⟩) (hrest : rest.length ≤ sizeLine) :
   codeAny (model prog w) A (.builtin "Exception.__new__" ⟨.ref C :: rest, []⟩) R ⟨h, g, d, t, os⟩ := by
 have F := PySem.F.excBase_Exception
 have hC := B.at_
 have hends := F.ends
 have hcB : (Value.ref C :: bm).contains (.type "Exception") = true := by rw [List.contains_cons, B.exc, Bool.or_true]
 have hcA : (Value.ref C :: bm).contains (.type "AttributeError") = false := by rw [List.contains_cons, B.noA]; rfl
 have hcN : (Value.ref C :: bm).contains (.type "NameError") = false := by rw [List.contains_cons, B.noN]; rfl
 refine codeAny_builtinAt F.entry ?_
 unfold Builtin.«BaseException.__new__»
 refine wpAt_bind ?_
 show wpAt _ _ _ (stack >>= _) _ _ _
 refine wpAt_bind (wpAt_stack fun p below => wpAt_of_wpAny ?_)
 wp_walk
 refine wpAt_of_wpAny ?_
 rw [F.owner]
 repeat (first | with_reducible refine wpAny_madeHere_exc F.canon hC ?_ | with_reducible refine wpAny_loadPart_at hC ?_ | (with_reducible refine wpAny_isSubtype_exc hC ?_; first | rw [hcB] | rw [hcA] | rw [hcN]) | wp_step)
 show R _ _
 rw [Heap.size_push]
 exact hq
theorem xc_call {fI : Addr} {rest : List Value} {Q : Value → Shared → Prop} (B : ExcAt h C nm q N bs bm hdct sn sub ab col dd k0 k1 k2 k3 k5) (hi : Looks (model prog w) h (typeLookup (.ref C) "__init__") (some (.ref fI)))
   (hb : ∀ self, Looks (model prog w) h (bindSpecial (.ref fI) self) (.ref fI, [self])) (hrest : rest.length ≤ sizeLine)
   (hq : wpAny (model prog w) (A.under (.builtin "type.__call__" ⟨.ref C :: rest, []⟩)) (call (.ref fI) (.ref (h.objs.size + 1) :: rest)) (fun r s' => r = .none ∧ Q (.ref (h.objs.size + 1)) s') E
     ⟨(h.push { cls := .type "tuple", data := .seq rest.toArray }).push (excObj C none h.objs.size), g, d, t, os⟩) :
   wpAny (model prog w) A (call (.ref C) rest) Q E ⟨h, g, d, t, os⟩ := by
 have F := PySem.F.excBase_Exception
 have hC := B.at_
 have f1 := tc_lookup
 have f2 := tc_bind (.ref C)
 have hT : (⟨h, g, d, t, os⟩ : Shared).TypeIs (.ref C) "type" := ⟨_, hC, rfl⟩
 refine wpAny_call (codeAny_of_tree ?_)
 show wpAny _ _ (callAny (.ref C) _) _ _ _
 repeat (any_goals (first | assumption | with_reducible refine wpAny_loadPart_at hC ?_ | wp_step))
 refine ⟨rfl, ?_⟩
 refine codeAny_call_builtin_at (Code.quiet_builtin _ (by decide +kernel)) entry_typeCall (wpAny_check_type_call_sub hC ?_)
 repeat (first | with_reducible refine wpAny_loadPart_at hC ?_ | with_reducible refine wpAny_madeBy_exc hC ?_ | wp_step)
 refine codeAny_call_builtin_code (Code.quiet_builtin _ F.quiet) (xc_check B ?_)
 refine xc_new B ?_ hrest
 show wpAny _ _ _ _ _ _
 have k : ∀ b o, h.get? b = some o → ((h.push { cls := .type "tuple", data := .seq rest.toArray }).push (excObj C none h.objs.size)).get? b = some o := fun b o e => Heap.get?_push_of_some _ (Heap.get?_push_of_some _ e)
 have hget : ((h.push { cls := .type "tuple", data := .seq rest.toArray }).push (excObj C none h.objs.size)).get? (h.objs.size + 1) = some (excObj C none h.objs.size) := by heap_get
 have hC₁ := k _ _ hC
 have hcC : (Value.ref C :: bm).contains (.ref C) = true := by simp
 unfold isInstance
 repeat (first | with_reducible refine wpAny_loadPart_at hget ?_ | (show wpAny _ _ (isSubtype (Value.ref C) (Value.ref C)) _ _ _; refine wpAny_isSubtype_exc hC₁ ?_; rw [hcC]) | wp_step)
 show wpAny _ _ (typeLookup (.ref C) _) _ _ _
 refine (hi.keeps k).at ?_
 refine wpAny_holding (wpAny_bind (((hb _).keeps k).at ?_))
 refine wpAny_bind (wpAny_mono hq (fun r s' hr => ?_) fun Z Z x => x)
 obtain ⟨rfl, hQ⟩ := hr
 wp_walk
 exact hQ
end
end
section
open PySem PySem.W PySem.Calls PyProof.Rows Builtin Builtin.ObjectAttr
section
variable {prog : Program} {w : World} {A : Around} {E : Value → Shared → Prop} {s : Shared} {K : Frag} {x C : Addr} {ox : Obj} {od : Option Obj} {name : Str}
theorem xga_bind (self : Value) : bindSpecial (.builtin "BaseException.__getattribute__") self = pure (.builtin "BaseException.__getattribute__", [self]) := PySem.F.excAttr_ValueError.ga.bind self
theorem xget {v : Value} {expr : Bool} {Q : Value → Shared → Prop} (X : K.In s.heap) (I : InstAt s.heap x ox C od) (hga : findIn K (.ref C) "__getattribute__" = some (some (.builtin "BaseException.__getattribute__")))
   (hk : findIn K (.ref C) "__getattr__" = some none) (hb : subIn K (.ref C) (.type "BaseException") = some true) (hf : findObj K C od name = some (.value v)) (hh : handedIn v = true) (h : Q v { s with toks := s.toks + 1 }) :
   wpAny (model prog w) A (getAttr (.ref x) name expr) Q E s := by
 obtain ⟨hp, g, d, t, os⟩ := s
 have L0 := I.type (M := model prog w)
 have L1 := looks_findIn (M := model prog w) X hga
 have L2 := looks_findIn (M := model prog w) X hk
 have L3 := looks_find (M := model prog w) X I hf
 unfold getAttr getAttrBy
 refine wpAny_bind (wpAny_mkText (wpAny_holding (wpAny_bind (L0.at (wpAny_bind (L1.at ?_))))))
 dsimp only
 rw [show (onTheHeap (Value.ref C) && Value.builtin "BaseException.__getattribute__" == Value.builtin "object.__getattribute__") = false from by rw [show (Value.builtin "BaseException.__getattribute__" == Value.builtin "object.__getattribute__") = false from by decide +kernel, Bool.and_false], if_neg (by decide)]
 unfold getAttrByItsOwn hookBefore
 rw [if_pos (show onTheHeap (Value.ref C) = true from rfl)]
 refine wpAny_bind (L2.at (wpAny_bind (wpAny_attempt (wpAny_holding ?_))))
 unfold callGetattribute
 rw [show (expr && onTheHeap (Value.builtin "BaseException.__getattribute__")) = false from Bool.and_false _, if_neg (by decide)]
 unfold boundAndCalled
 rw [xga_bind]
 refine wpAny_bind (wpAny_pure ?_)
 show wpAny _ _ (call (.builtin "BaseException.__getattribute__") [.ref x, .str name t]) _ _ _
 refine wpAny_call ?_
 refine codeAny_call_builtin PySem.F.excAttr_ValueError.ga.plain PySem.F.entry_bexc_ga ?_
 refine @check_slot (model prog w) _ _ ⟨hp, g, d, t + 1, os⟩ "BaseException.__getattribute__" "BaseException" "__getattribute__" (.ref x) [.str name t] [] _ (by decide +kernel) (by decide +kernel) (L0.andThen (looks_subIn X hb)) (PySem.F.args_bexc_ga (.ref x) (.str name t)) ?_
 unfold Builtin.«object.__getattribute__»
 refine wpAny_bind (wpAny_pure (wpAny_bind (wpAny_pure (wpAny_bind (L0.at (wpAny_bind (L3.at ?_)))))))
 refine wpAny_pure ?_
 show wpAny _ _ (handedOut v) _ _ _
 rw [handedOut_of hh]; exact wpAny_pure h
theorem store_in {dx : Addr} {ds : List DictEntry} {n : Nat} {v : Value} {tk : Tok} {Q : Fin → Shared → Prop} (D : s.heap.get? dx = some (dictOf ds n)) (hl : (lookIn name (dictOf ds n)).isSome = true) (hz : ds.length ≤ 900)
   (h : Q (.done (.ret .none)) { s with heap := s.heap.update dx (Obj.putName name (PyData.keyHash w.params name) (.str name s.toks) v), toks := s.toks + 1 }) :
   wpAny (model prog w) A (storeInDict dx (.str name tk) name v) Q E s := by
 have e := putName_dict name (PyData.keyHash w.params name) (.str name s.toks) v ds n
 have D' : (s.heap.update dx (Obj.putName name (PyData.keyHash w.params name) (.str name s.toks) v)).get? dx = some (dictOf (putL name (PyData.keyHash w.params name) (.str name s.toks) v ds) (putN name ds n)) :=
   e ▸ Heap.get?_update_self _ D (by rw [e]; rfl)
 refine wpAny_bind (wpAny_pure (wpAny_bind ?_))
 unfold nsSet
 refine wpAny_bind (wpAny_bind (wpAny_askSetting (wpAny_pure (wpAny_bind (wpAny_mkText (wpAny_bind (wpAny_loadPart D ?_)))))))
 dsimp only
 have c : (!ds.toArray.any (·.key.isStr name) && ds.toArray.any (·.refKey)) = false := by
   rw [← Array.any_toList, ← Array.any_toList]
   cases q : List.find? (fun x => x.key.isStr name) ds with
   | some en => rw [List.any_eq_true.mpr ⟨en, List.mem_of_find?_eq_some q, List.find?_some q⟩]; rfl
   | none =>
     cases z : ds.any (·.refKey) with
     | false => simp [z]
     | true => rw [lookIn_dict] at hl; unfold getL at hl; rw [q] at hl; simp [z] at hl
 rw [aRefKeyMayBeTheName_at, c]
 refine wpAny_updatePart D ?_
 refine wpAny_bind (wpAny_lookBehind D' (pastItsLine_dict (by
   have := putL_len name (PyData.keyHash w.params name) (.str name s.toks) v ds
   rw [List.size_toArray, sizeLine_eq]; lia)) ?_)
 exact wpAny_pure h
noncomputable def dropR : List Value → List Value
 | .ref _ :: l => dropR l
 | l => l
noncomputable def tyNm : Value → Option String
 | .type a => some a
 | _ => none
theorem tyNmS {v : Value} {a : String} (h : tyNm v = some a) : v = .type a := by
 cases v with
 | type b => cases h; rfl
 | _ => exact nn h
theorem dropR_eq {l : List Value} {m : List Value} : dropR l = m → m.contains (.type "object") = true → (∀ self, refuseLoop self "__setattr__" m = pure ()) → l.contains (.type "object") = true ∧ ∀ self, refuseLoop self "__setattr__" l = pure () := by
 induction l with
 | nil => exact fun e h1 h2 => by subst e; exact ⟨h1, h2⟩
 | cons v l ih =>
   cases v with
   | ref a =>
     intro e h1 h2
     obtain ⟨a1, a2⟩ := ih e h1 h2
     exact ⟨List.contains_cons.trans (by rw [a1, Bool.or_true]), fun self => (refuseLoop_ref _ _ _ _).trans (a2 self)⟩
   | _ => exact fun e h1 h2 => by subst e; exact ⟨h1, h2⟩
noncomputable def passIn (K : Frag) (C : Addr) : Bool := anyO (clsIn K C) fun cd => cd.hasDict && mapO tyNm (dropR cd.mro) == some ["Exception", "BaseException", "object"]
theorem pass_three (self : Value) : refuseLoop self "__setattr__" [.type "Exception", .type "BaseException", .type "object"] = pure () := by kernel_rfl
set_option tactic.hygienic true in
theorem pass_of (e : passIn K C = true) : ∃ cd, clsIn K C = some cd ∧ cd.hasDict = true ∧ cd.mro.isEmpty = false ∧ cd.mro.contains (.type "object") = true ∧ ∀ self, refuseLoop self "__setattr__" cd.mro = pure () := by
 refine hide fun g kk => anyS e fun cd hc e => ?_
 obtain ⟨e1, e⟩ := andP e
 have e := eq_of_beq e
 have hd : dropR cd.mro = [.type "Exception", .type "BaseException", .type "object"] := by
   generalize dropR cd.mro = m at e
   cases m with
   | nil => cases e
   | cons v1 m => refine consO e fun b bs h1 e q => ?_
                  cases q
                  cases m with
                  | nil => cases e
                  | cons v2 m => refine consO e fun b bs h2 e q => ?_
                                 cases q
                                 cases m with
                                 | nil => cases e
                                 | cons v3 m => refine consO e fun b bs h3 e q => ?_
                                                cases q
                                                cases m with
                                                | nil => rw [tyNmS h1, tyNmS h2, tyNmS h3]
                                                | cons v4 m => exact consO e fun b bs Z Z q => nomatch q
 obtain ⟨a1, a2⟩ := dropR_eq hd rfl pass_three
 refine kk ⟨cd, hc, e1, ?_, a1, a2⟩
 generalize cd.mro = m at a1
 cases m with
 | nil => exact nb a1
 | cons => rfl
theorem xset_open {v : Value} {Q : Unit → Shared → Prop} (X : K.In s.heap) (I : InstAt s.heap x ox C od) (hs : findIn K (.ref C) "__setattr__" = some (some (.builtin "object.__setattr__"))) (hp : passIn K C = true) (ht : findIn K (.ref C) name = some none)
   (h : wpAny (model prog w) A.in1 (storeInOwnDict (.ref x) (.ref C) (.str name s.toks) name v false) (fun fin s' => match fin with | .done (.ret _) => Q () s' | _ => False) E { s with toks := s.toks + 1 }) :
   wpAny (model prog w) A (setAttr (.ref x) name v) Q E s := by
 refine set_plain X I hs ?_
 have SF := PySem.F.store_object
 obtain ⟨cd, hc, h1, ne, ho, hpass⟩ := pass_of hp
 have sub : Looks (model prog w) s.heap (isInstance (.ref x) (.type "object")) true := I.type.andThen (looks_mroIn X (by unfold mroIn; rw [hc, Option.bind_some, if_neg (by rw [ne]; decide), ho]))
 refine codeAny_call_builtin SF.slot.plain SF.entry (@check_slot (model prog w) _ _ { s with toks := s.toks + 1 } "object.__setattr__" "object" "__setattr__" (.ref x) [.str name s.toks, v] [] _ SF.kind SF.split sub (SF.args (.ref x) (.str name s.toks) v) ?_)
 have hm : Looks (model prog w) s.heap (mroOf (.ref C)) cd.mro := (looks_clsIn X hc).andThen .now
 obtain ⟨hh, g, d, t, os⟩ := s
 have L0 := I.type (M := model prog w)
 have L1 := looks_findIn (M := model prog w) X ht
 rw [osa_eq, refuse_eq]
 refine wpAny_bind (wpAny_bind (L0.at (wpAny_bind (hm.at ?_))))
 rw [hpass]
 refine wpAny_pure (wpAny_bind (L0.at (wpAny_bind (L1.at (wpAny_bind (wpAny_pure ?_))))))
 refine wpAny_mono h (fun fin s' z => ?_) fun Z Z z => z
 rcases fin with (_ | _ | _ | _) | _ <;> first | exact z | exact z.elim
theorem xset_some {dx : Addr} {ds : List DictEntry} {n : Nat} {v : Value} {Q : Unit → Shared → Prop} (X : K.In s.heap) (I : InstAt s.heap x ox C (some (dictOf ds n))) (hd : ox.dict = some dx) (hs : findIn K (.ref C) "__setattr__" = some (some (.builtin "object.__setattr__")))
   (hp : passIn K C = true) (ht : findIn K (.ref C) name = some none) (hl : (lookIn name (dictOf ds n)).isSome = true) (hz : ds.length ≤ 900)
   (h : Q () { s with heap := s.heap.update dx (Obj.putName name (PyData.keyHash w.params name) (.str name (s.toks + 1)) v), toks := s.toks + 2 }) :
   wpAny (model prog w) A (setAttr (.ref x) name v) Q E s := by
 refine xset_open X I hs hp ht ?_
 obtain ⟨cd, hc, h1, ne, ho, hpass⟩ := pass_of hp
 have D : s.heap.get? dx = some (dictOf ds n) := by
   have := I.dict
   rw [hd] at this
   exact this
 obtain ⟨hx, hcl, hn, -⟩ := I
 obtain ⟨oc, odi, oda, osl⟩ := ox
 dsimp only at hcl hd
 subst hcl hd
 unfold storeInOwnDict
 refine wpAny_bind (wpAny_pure (wpAny_bind ?_))
 show wpAny _ _ (instanceDict x true) _ _ _
 refine wpAny_bind (wpAny_loadPart hx ?_)
 dsimp only
 obtain ⟨hh, g, d, t, os⟩ := s
 have LC := looks_clsIn (M := model prog w) X hc
 refine wpAny_bind (LC.at ?_)
 rw [h1]
 refine wpAny_pure (a := some dx) ?_
 exact store_in (s := ⟨hh, g, d, t + 1, os⟩) D hl hz h
theorem xset_none {v : Value} {vs : Array Value} {Q : Unit → Shared → Prop} (X : K.In s.heap) (I : InstAt s.heap x ox C none) (hd : ox.dict = none) (hv : ox.data = .fields vs) (hs : findIn K (.ref C) "__setattr__" = some (some (.builtin "object.__setattr__")))
   (hp : passIn K C = true) (ht : findIn K (.ref C) name = some none)
   (h : Q () { s with heap := ((s.heap.push { cls := .type "dict", data := .dict #[] }).update x fun o => { o with dict := some s.heap.objs.size }).update s.heap.objs.size (Obj.putName name (PyData.keyHash w.params name) (.str name (s.toks + 1)) v), toks := s.toks + 2 }) :
   wpAny (model prog w) A (setAttr (.ref x) name v) Q E s := by
 refine xset_open X I hs hp ht ?_
 obtain ⟨cd, hc, h1, ne, ho, hpass⟩ := pass_of hp
 obtain ⟨hx, hcl, hn, -⟩ := I
 obtain ⟨oc, odi, oda, osl⟩ := ox
 dsimp only at hcl hd hv
 subst hcl hd hv
 unfold storeInOwnDict
 refine wpAny_bind (wpAny_pure (wpAny_bind ?_))
 show wpAny _ _ (instanceDict x true) _ _ _
 refine wpAny_bind (wpAny_loadPart hx ?_)
 dsimp only
 obtain ⟨hh, g, d, t, os⟩ := s
 have LC := looks_clsIn (M := model prog w) X hc
 refine wpAny_bind (LC.at ?_)
 rw [h1]
 have hne : x ≠ hh.objs.size := Nat.ne_of_lt (Heap.lt_size hx)
 have D : ((hh.push { cls := .type "dict", data := .dict #[] }).update x fun o => { o with dict := some hh.objs.size }).get? hh.objs.size = some (dictOf [] 0) := by
   rw [Heap.get?_update_other _ _ hne]
   exact Heap.get?_push_size _ rfl
 have hx' := Heap.get?_push_of_some { cls := .type "dict", data := .dict #[] } hx
 show wpAny _ _ (PySem.alloc { cls := .type "dict", data := .dict #[] } >>= fun d => (update x fun o => { o with dict := some d }) >>= fun Z => dictMade (.ref C) x d) _ _ _
 refine wpAny_bind (wpAny_alloc (wpAny_bind (wpAny_update hx' (wpAny_pure ?_))))
 exact store_in (s := ⟨_, g, d, t + 1, os⟩) D rfl (by simp) h
end
end
section
open PySem PySem.W PySem.Calls PyProof.Rows
structure XSt (prog : Program) (w : World) (s : Shared) (C e : Addr) (fx : List Addr) (od : Option (Addr × List (Str × Value))) (s' : Shared) : Prop where
 same : ∃ h' tk, s' = { s with heap := h', toks := tk }
 keep : ∀ b o, s.heap.get? b = some o → s'.heap.get? b = some o
 en : s.heap.get? e = none
 obj : ∃ t, s'.heap.get? e = some (excObj C (od.map (·.1)) t)
 dict : ∀ dx kvs, od = some (dx, kvs) → s.heap.get? dx = none ∧ s'.heap.DictOf (strKind prog w) dx kvs ∧ dx ∉ fx ∧ dx ≠ e
 fxs : ∀ a ∈ fx, a ≠ e ∧ ∃ o, s'.heap.get? a = some o
noncomputable def kvOf : Option (Addr × List (Str × Value)) → List (Str × Value)
 | none => []
 | some p => p.2
structure XK (K : Frag) (C : Addr) : Prop where
 sa : findIn K (.ref C) "__setattr__" = some (some (.builtin "object.__setattr__"))
 pass : passIn K C = true
variable {prog : Program} {w : World} {A : Around} {E : Value → Shared → Prop} {s s' : Shared} {K : Frag} {C e : Addr} {fx : List Addr} {od : Option (Addr × List (Str × Value))}
theorem XSt.mono (x : XSt prog w s C e fx od s') {h' : Heap} {tk : Nat} (k : ∀ b o, s'.heap.get? b = some o → h'.get? b = some o) : XSt prog w s C e fx od { s' with heap := h', toks := tk } := by
 obtain ⟨⟨h₁, t₁, rfl⟩, k1, k2, ⟨t, k3⟩, k4, k5⟩ := x
 refine ⟨⟨h', tk, rfl⟩, fun b o e => k _ _ (k1 b o e), k2, ⟨t, k _ _ k3⟩, fun dx kvs q => ?_, fun a m => ⟨(k5 a m).1, ?_⟩⟩
 · obtain ⟨a1, ⟨o, es, ep, a2, a3⟩, a4⟩ := k4 dx kvs q
   exact ⟨a1, ⟨o, es, ep, k _ _ a2, a3⟩, a4⟩
 · obtain ⟨o, q⟩ := (k5 a m).2
   exact ⟨o, k _ _ q⟩
theorem XSt.fx_ (x : XSt prog w s C e fx od s') {fx' : List Addr} (h : ∀ a ∈ fx', a ≠ e ∧ (∀ dx kvs, od = some (dx, kvs) → dx ≠ a) ∧ ∃ o, s'.heap.get? a = some o) : XSt prog w s C e fx' od s' := by
 obtain ⟨k0, k1, k2, k3, k4, k5⟩ := x
 refine ⟨k0, k1, k2, k3, fun dx kvs q => ?_, fun a m => ⟨(h a m).1, (h a m).2.2⟩⟩
 obtain ⟨a1, a2, a3, a4⟩ := k4 dx kvs q
 exact ⟨a1, a2, fun m => (h dx m).2.1 dx kvs q rfl, a4⟩
theorem XSt.less (x : XSt prog w s C e fx od s') {fx' : List Addr} (h : ∀ a ∈ fx', a ∈ fx) : XSt prog w s C e fx' od s' :=
 x.fx_ fun a m => ⟨(x.fxs a (h a m)).1, fun dx kvs q z => (x.dict dx kvs q).2.2.1 (z ▸ h a m), (x.fxs a (h a m)).2⟩
theorem XSt.put (x : XSt prog w s C e fx od s') {h' : Heap} {tk : Nat} (old : ∀ b o, s'.heap.get? b = some o → b ≠ e → h'.get? b = some o) (he : ∃ t, h'.get? e = some (excObj C (od.map (·.1)) t)) : XSt prog w s C e fx od { s' with heap := h', toks := tk } := by
 obtain ⟨⟨h₁, t₁, e0⟩, k1, k2, _, k4, k5⟩ := x
 refine ⟨⟨h', tk, by rw [e0]⟩, fun b o q => old b o (k1 b o q) (fun z => by rw [z, k2] at q; cases q), k2, he, fun dx kvs q => ?_, fun a m => ⟨(k5 a m).1, ?_⟩⟩
 · obtain ⟨a1, ⟨o, es, ep, a2, a3⟩, a4, a5⟩ := k4 dx kvs q
   exact ⟨a1, ⟨o, es, ep, old _ _ a2 a5, a3⟩, a4, a5⟩
 · obtain ⟨o, q⟩ := (k5 a m).2
   exact ⟨o, old a o q (k5 a m).1⟩
theorem xset {nm : Str} {v : Value} {Q : Unit → Shared → Prop} (X : K.In s.heap) (k : XK K C) (ht : findIn K (.ref C) nm = some none) (x : XSt prog w s C e fx od s') (hz : (kvOf od).length ≤ 900)
   (h : ∀ dx s'', XSt prog w s C e fx (some (dx, storedL nm v (kvOf od))) s'' → (∀ a ∈ fx, s''.heap.get? a = s'.heap.get? a) → Q () s'') : wpAny (model prog w) A (setAttr (.ref e) nm v) Q E s' := by
 have X' := X.keeps x.keep
 obtain ⟨t, ho⟩ := x.obj
 cases od with
 | none =>
   have I : InstAt s'.heap e (excObj C none t) C none := ⟨ho, rfl, rfl, trivial⟩
   refine xset_none X' I rfl rfl k.sa k.pass ht (h s'.heap.objs.size _ ?_ ?_)
   · have hne : e ≠ s'.heap.objs.size := Nat.ne_of_lt (Heap.lt_size ho)
     have D : ((s'.heap.push { cls := .type "dict", data := .dict #[] }).update e fun o => { o with dict := some s'.heap.objs.size }).get? s'.heap.objs.size = some (dictOf [] 0) := by
       rw [Heap.get?_update_other _ _ hne]
       exact Heap.get?_push_size _ rfl
     have eo := putName_dict nm (PyData.keyHash w.params nm) (.str nm (s'.toks + 1)) v [] 0
     have D' := Heap.get?_update_self (Obj.putName nm (PyData.keyHash w.params nm) (.str nm (s'.toks + 1)) v) D (by rw [eo]; rfl)
     rw [eo] at D'
     have old : ∀ b o, s'.heap.get? b = some o → b ≠ e → (((s'.heap.push { cls := .type "dict", data := .dict #[] }).update e fun o => { o with dict := some s'.heap.objs.size }).update s'.heap.objs.size (Obj.putName nm (PyData.keyHash w.params nm) (.str nm (s'.toks + 1)) v)).get? b = some o := fun b o q hb => by
       rw [Heap.get?_update_other _ _ (Ne.symm (Nat.ne_of_lt (Heap.lt_size q))), Heap.get?_update_other _ _ (Ne.symm hb)]
       exact Heap.get?_push_of_some _ q
     obtain ⟨⟨h₁, t₁, e0⟩, k1, k2, _, _, k5⟩ := x
     refine ⟨⟨_, _, by rw [e0]⟩, fun b o q => old b o (k1 b o q) (fun z => by rw [z, k2] at q; cases q), k2, ⟨t, ?_⟩, fun dx kvs q => ?_, fun a m => ⟨(k5 a m).1, ?_⟩⟩
     · rw [Heap.get?_update_other _ _ (Ne.symm hne), Heap.get?_update_self _ (Heap.get?_push_of_some _ ho) rfl]; rfl
     · cases q
       refine ⟨?_, of_dictOf D' (fun en m => keys_put (ds := []) (fun en m => nomatch m) en (Array.mem_toList_iff.mpr m)) (pairs_put .nil) (storedL_nodup (kvs := []) List.Pairwise.nil), fun m => ?_, Ne.symm hne⟩
       · cases q : s.heap.get? s'.heap.objs.size with
         | none => rfl
         | some o => exact absurd (Heap.lt_size (k1 _ _ q)) (Nat.lt_irrefl _)
       · obtain ⟨o, q⟩ := (k5 _ m).2
         exact absurd (Heap.lt_size q) (Nat.lt_irrefl _)
     · obtain ⟨o, q⟩ := (k5 a m).2
       exact ⟨o, old a o q (k5 a m).1⟩
   · intro a m
     obtain ⟨n1, o, q⟩ := x.fxs a m
     rw [Heap.get?_update_other _ _ (Ne.symm (Nat.ne_of_lt (Heap.lt_size q))), Heap.get?_update_other _ _ (Ne.symm n1), q]
     exact Heap.get?_push_of_some _ q
 | some p =>
   obtain ⟨dx, kvs⟩ := p
   obtain ⟨d1, D, d3, d4⟩ := x.dict dx kvs rfl
   obtain ⟨ds, n, hd, hK, hP, hN⟩ := dictOf_obj D
   have I : InstAt s'.heap e (excObj C (some dx) t) C (some (dictOf ds n)) := ⟨ho, rfl, rfl, hd⟩
   refine xset_some X' I rfl k.sa k.pass ht (by rw [look_dictOf hK hP]; rfl) (by rw [hP.length]; exact hz) (h dx _ ?_ ?_)
   · have eo := putName_dict nm (PyData.keyHash w.params nm) (.str nm (s'.toks + 1)) v ds n
     have D' := Heap.get?_update_self (Obj.putName nm (PyData.keyHash w.params nm) (.str nm (s'.toks + 1)) v) hd (by rw [eo]; rfl)
     rw [eo] at D'
     have old : ∀ b o, s'.heap.get? b = some o → b ≠ dx → (s'.heap.update dx (Obj.putName nm (PyData.keyHash w.params nm) (.str nm (s'.toks + 1)) v)).get? b = some o := fun b o q hb => by
       rw [Heap.get?_update_other _ _ (Ne.symm hb)]; exact q
     obtain ⟨⟨h₁, t₁, e0⟩, k1, k2, _, _, k5⟩ := x
     refine ⟨⟨_, _, by rw [e0]⟩, fun b o q => old b o (k1 b o q) (fun z => by rw [z, d1] at q; cases q), k2, ⟨t, old _ _ ho (Ne.symm d4)⟩, fun dx' kvs' q => ?_, fun a m => ⟨(k5 a m).1, ?_⟩⟩
     · cases q
       exact ⟨d1, of_dictOf D' (fun en m => keys_put (fun en m => hK en (by simpa using m)) en (by simpa using m)) (pairs_put hP) (storedL_nodup hN), d3, d4⟩
     · obtain ⟨o, q⟩ := (k5 a m).2
       exact ⟨o, old a o q fun z => d3 (z ▸ m)⟩
   · intro a m
     rw [Heap.get?_update_other _ _ (fun z => d3 (by rw [z]; exact m))]
end
section
open PySem PySem.W PySem.Calls
variable {prog : Program} {w : World} {A : Around} {E : Value → Shared → Prop} {s s' : Shared} {K : Frag} {C e : Addr} {fx : List Addr} {od : Option (Addr × List (Str × Value))}
theorem exc_init {u : Value} {Q : Value → Shared → Prop} (X : K.In s.heap) (hB : excClIn K C = true) (hb : subIn K (.ref C) (.type "Exception") = some true) (x : XSt prog w s C e fx od s')
   (h : ∀ s'', XSt prog w s C e fx od s'' → (∀ a ∈ fx, s''.heap.get? a = s'.heap.get? a) → Q .none s'') : wpAny (model prog w) A (call (.builtin "Exception.__init__") [.ref e, u]) Q E s' := by
 have F := PySem.F.excBase_Exception
 have X' := X.keeps x.keep
 obtain ⟨t, ho⟩ := x.obj
 have L0 : Looks (model prog w) s'.heap (typeOf (.ref e)) (.ref C) := (Looks.ld ho).andThen .now
 obtain ⟨hp, g, d, tk, os⟩ := s'
 refine wpAny_call (codeAny_call_builtin F.init.plain F.initEntry ?_)
 have hshort := F.noStar
 obtain ⟨_, _, _, _, _, _, _, _, _, _, _, _, _, _, _, _, B⟩ := excAt_of (h := hp) X' hB
 have hC := B.at_
 have LI : Looks (model prog w) hp (isInstance (.ref e) (.type "Exception")) true := L0.andThen (looks_subIn X' hb)
 simp only [checkBuiltinCall, F.initKind, F.initSplit, F.initRow]
 refine wpAny_bind (LI.at ?_)
 repeat (first | with_reducible refine wpAny_loadPart_at hC ?_ | with_reducible refine wpAny_load hC ?_ | wp_step)
 refine h _ ?_ ?_
 · refine x.put (fun b o q hb => ?_) ⟨hp.objs.size, ?_⟩
   · rw [Heap.get?_update_other _ _ (Ne.symm hb)]
     exact Heap.get?_push_of_some _ q
   · rw [Heap.get?_update_self _ (Heap.get?_push_of_some _ ho) rfl]; rfl
 · intro a m
   obtain ⟨n1, o, q⟩ := x.fxs a m
   rw [Heap.get?_update_other _ _ (Ne.symm n1), q]
   exact Heap.get?_push_of_some _ q
end
section
open PySem PySem.W PySem.Calls PyProof.Rows
noncomputable def exprE : Stmt → Option Expr
 | .Expr e _ => some e
 | _ => none
noncomputable def asgE : Stmt → Option (List Expr × Expr)
 | .Assign ts e _ => some (ts, e)
 | _ => none
noncomputable def callE : Expr → Option (Expr × List Expr × Pos)
 | .Call f as [] pos => some (f, as, pos)
 | _ => none
noncomputable def attrE : Expr → Option (Expr × Str × Pos)
 | .Attribute e i p => some (e, i, p)
 | _ => none
noncomputable def nameE : Expr → Option Str
 | .Name a _ => some a
 | _ => none
noncomputable def superS (cls : Str) (st : Stmt) : Bool := anyO (exprE st) fun e => anyO (callE e) fun q => anyO (attrE q.1) fun r => nameE r.1 == some cls && (r.2.1 == "__init__" && (r.2.2.endLine == q.2.2.line && q.2.1.map nameE == [some ("self" : Str), some ("why" : Str)]))
noncomputable def setS (nm : Str) (st : Stmt) : Bool := anyO (asgE st) fun q => anyO (unc q.1) fun u => u.2.isEmpty && anyO (attrE u.1) fun r => nameE r.1 == some "self" && (r.2.1 == nm && nameE q.2 == some nm)
noncomputable def setsS : List Str → List Stmt → Bool
 | [], ss => ss.isEmpty
 | n :: ns, ss => anyO (unc ss) fun q => setS n q.1 && setsS ns q.2
noncomputable def headS : FuncBody → Option (Stmt × List Stmt)
 | .stmts ss => unc ss
 | _ => none
noncomputable def initL (ps : List Str) (cls : Str) (sets : List Str) (fd : FuncData) : List Bool := [
 fd.params.posonlyargs.isEmpty, fd.params.vararg.isNone, fd.params.kwonlyargs.isEmpty, fd.params.kwarg.isNone, fd.params.args.map (·.arg) == ps, decide ps.Nodup,
 ps.all fun p => fd.scope.names.lookup p == some .local && !(p == ("__debug__" : Str)), isGlob fd.scope cls,
 sets.all fun n => ps.contains n, ps.contains "self", ps.contains "why",
 anyO (headS fd.body) fun q => superS cls q.1 && setsS sets q.2]
noncomputable def initIn (K : Frag) (fa : Addr) (ps : List Str) (cls : Str) (sets : List Str) : Bool := anyO (K.lookup fa) fun o => anyO (funcOf o.data) fun fd => okFd K fd && (initL ps cls sets fd).all id
theorem headS_of {d : FuncBody} {q : Stmt × List Stmt} (h : headS d = some q) : d = .stmts (q.1 :: q.2) := by
 cases d with
 | stmts b => rw [uncS h]
 | _ => exact nn h
theorem exprES {st : Stmt} {e : Expr} (h : exprE st = some e) : ∃ p, st = .Expr e p := by
 cases st with
 | Expr e' p => exact ⟨p, congrArg (Stmt.Expr · p) (Option.some.inj h)⟩
 | _ => exact nn h
theorem asgES {st : Stmt} {q : List Expr × Expr} (h : asgE st = some q) : ∃ p, st = .Assign q.1 q.2 p := by
 cases st with
 | Assign a b p => cases h; exact ⟨p, rfl⟩
 | _ => exact nn h
theorem callES {e : Expr} {q : Expr × List Expr × Pos} (h : callE e = some q) : e = .Call q.1 q.2.1 [] q.2.2 := by
 cases e with
 | Call f as ks p => cases ks with
   | nil => cases h; rfl
   | cons => exact nn h
 | _ => exact nn h
theorem attrES {e : Expr} {q : Expr × Str × Pos} (h : attrE e = some q) : e = .Attribute q.1 q.2.1 q.2.2 := by
 cases e with
 | Attribute a b p => cases h; rfl
 | _ => exact nn h
theorem nameES {e : Expr} {a : Str} (h : nameE e = some a) : ∃ p, e = .Name a p := by
 cases e with
 | Name b p => cases h; exact ⟨p, rfl⟩
 | _ => exact nn h
section
variable {prog : Program} {w : World} {A : Around} {E : Value → Shared → Prop} {s s' : Shared} {K : Frag} {C e : Addr} {fx : List Addr} {od : Option (Addr × List (Str × Value))} {env : Env} {m : Str → Option Value}
theorem name_l {n : Str} {p : Pos} {v : Value} {Q : Value → Shared → Prop} (hf : env.scope.kind = .function) (hl : env.kindOf n = some .local) (hd : (n == ("__debug__" : Str)) = false) (hn : s'.heap.Ns env.locals m) (hv : m n = some v) (h : Q v s') :
   wpAny (model prog w) A (eval (.Name n p) env) Q E s' := wpAny_Name (wpAny_loadName_local hf hl hn hv h) hd
theorem inter_fn (hf : env.scope.kind = .function) : interactive env = false := by
 unfold interactive
 rw [hf]; rfl
theorem superS_inv {cls : Str} {st : Stmt} (h : superS cls st = true) : ∃ p apos p1 p2 pos spos, st = .Expr (.Call (.Attribute (.Name cls p) "__init__" apos) [.Name "self" p1, .Name "why" p2] [] pos) spos ∧ apos.endLine = pos.line := by
 refine hide fun g k => anyS h fun e h1 b1 => anyS b1 fun q h2 b2 => anyS b2 fun r h3 c0 => ?_
 obtain ⟨a1, c1⟩ := andP c0
 obtain ⟨a2, c2⟩ := andP c1
 obtain ⟨a3, c3⟩ := andP c2
 clear h b1 b2 c0 c1 c2
 obtain ⟨spos, e1⟩ := exprES h1
 obtain ⟨p, e4⟩ := nameES (eq_of_beq a1)
 obtain ⟨x, as, el, hx, d1⟩ := List.map_eq_cons_iff.mp (eq_of_beq c3)
 obtain ⟨y, as', el', hy, d2⟩ := List.map_eq_cons_iff.mp d1
 obtain ⟨p1, e5⟩ := nameES hx
 obtain ⟨p2, e6⟩ := nameES hy
 exact k ⟨p, r.2.2, p1, p2, q.2.2, spos, by rw [e1, callES h2, attrES h3, e4, eq_of_beq a2, el, el', List.map_eq_nil_iff.mp d2, e5, e6], eq_of_beq a3⟩
theorem setS_inv {nm : Str} {st : Stmt} (h : setS nm st = true) : ∃ p p1 p2 pos, st = .Assign [.Attribute (.Name "self" p) nm p1] (.Name nm p2) pos := by
 refine hide fun g k => anyS h fun q h1 b1 => anyS b1 fun u h2 c0 => ?_
 obtain ⟨a1, b2⟩ := andP c0
 refine anyS b2 fun r h3 c1 => ?_
 obtain ⟨a2, c2⟩ := andP c1
 obtain ⟨a3, c3⟩ := andP c2
 clear h b1 b2 c0 c1 c2
 obtain ⟨pos, e1⟩ := asgES h1
 obtain ⟨p, e4⟩ := nameES (eq_of_beq a2)
 obtain ⟨p2, e5⟩ := nameES (eq_of_beq c3)
 exact k ⟨p, r.2.2, p2, pos, by rw [e1, uncS h2, List.isEmpty_iff.mp a1, attrES h3, e4, eq_of_beq a3, e5]⟩
theorem super_exec {cls : Str} {st : Stmt} {cv f : Value} {u : Value} {Q : Flow → Shared → Prop} (hs : superS cls st = true) (hf : env.scope.kind = .function) (h1 : env.kindOf "self" = some .local) (h2 : env.kindOf "why" = some .local)
   (hn : ∀ tk, ({ s' with toks := tk } : Shared).heap.Ns env.locals m) (v1 : m "self" = some (.ref e)) (v2 : m "why" = some u)
   (hname : ∀ (p : Pos) (Q : Value → Shared → Prop), Q cv s' → wpAny (model prog w) A (eval (.Name cls p) env) Q E s')
   (hmeth : ∀ (pl : Sem Bool) (Q : Value × List Value → Shared → Prop), (∀ tk, Q (f, []) { s' with toks := tk }) → wpAny (model prog w) A (getMethod cv "__init__" pl) Q E s')
   (hwith : ∀ (p p1 p2 : Pos) (s'' : Shared) (Q : Value → Shared → Prop), (∃ tk, s'' = { s' with toks := tk }) → wpAny (model prog w) A (spliced (backTo p (starEach [.Name "self" p1, .Name "why" p2] env))) (fun vs s₁ => (∃ tk, s₁ = { s' with toks := tk }) ∧ wpAny (model prog w) A (call f ([] ++ vs)) Q E s₁) E s'' →
     wpAny (model prog w) A (callWith p f [] (backTo p (starEach [.Name "self" p1, .Name "why" p2] env)) []) Q E s'')
   (hcall : ∀ tk, wpAny (model prog w) A (call f [.ref e, u]) (fun Z s'' => Q .next s'') E { s' with toks := tk }) : wpAny (model prog w) A (exec st env) Q E s' := by
 obtain ⟨p, apos, p1, p2, pos, spos, rfl, hp⟩ := superS_inv hs
 clear hs
 refine wpAny_Expr_any (MethodCall_ (hname _ _ (hmeth _ _ fun tk => ?_)) (eval_meth rfl (by simp) (by simp [hp]) rfl)) (inter_fn hf) rfl
 refine hwith _ _ _ _ _ ⟨tk, rfl⟩ ?_
 show wpAny _ _ (spliced [(false, _), (false, _)]) _ _ _
 refine Calls.spliced_cons (name_l hf h1 (by decide +kernel) (hn tk) v1 (Calls.spliced_cons (name_l hf h2 (by decide +kernel) (hn tk) v2 (Calls.spliced_nil ⟨⟨tk, rfl⟩, ?_⟩))))
 exact hcall tk
theorem set_exec {nm : Str} {st : Stmt} {u : Value} {Q : Flow → Shared → Prop} (hs : setS nm st = true) (hf : env.scope.kind = .function) (h1 : env.kindOf "self" = some .local) (h2 : env.kindOf nm = some .local) (hd : (nm == ("__debug__" : Str)) = false)
   (hn : s'.heap.Ns env.locals m) (v1 : m "self" = some (.ref e)) (v2 : m nm = some u)
   (h : wpAny (model prog w) A (setAttr (.ref e) nm u) (fun Z => Q .next) E s') : wpAny (model prog w) A (exec st env) Q E s' := by
 obtain ⟨p, p1, p2, pos, rfl⟩ := setS_inv hs
 clear hs
 exact plainObj_wpAny_Assign_Attribute (name_l hf h2 hd hn v2 (name_l hf h1 (by decide +kernel) hn v1 h)) rfl
noncomputable def storedAll : List (Str × Value) → List (Str × Value) → List (Str × Value)
 | [], kvs => kvs
 | (n, v) :: r, kvs => storedAll r (storedL n v kvs)
theorem storedL_len {n : Str} {v : Value} {l : List (Str × Value)} : (storedL n v l).length ≤ l.length + 1 := by
 induction l with
 | nil => exact Nat.le_refl _
 | cons a r ih =>
   rw [storedL_cons]
   by_cases h : a.1 = n
   · rw [if_pos h]; exact Nat.le_succ _
   · rw [if_neg h]; exact Nat.succ_le_succ ih
noncomputable def odOf (nvs : List (Str × Value)) (od : Option (Addr × List (Str × Value))) (dx : Addr) : Option (Addr × List (Str × Value)) := match nvs with
 | [] => od
 | _ => some (dx, storedAll nvs (kvOf od))
noncomputable def pick (nvs : List (Str × Value)) (dx dx' : Addr) : Addr := match nvs with
 | [] => dx
 | _ => dx'
theorem odOf_cons {n : Str} {v : Value} {nvs : List (Str × Value)} {od : Option (Addr × List (Str × Value))} {dx dx' : Addr} : odOf nvs (some (dx, storedL n v (kvOf od))) dx' = odOf ((n, v) :: nvs) od (pick nvs dx dx') := by
 cases nvs <;> rfl
theorem sets_exec (X : K.In s.heap) (k : XK K C) {Q : Flow → Shared → Prop} (hf : env.scope.kind = .function) (h1 : env.kindOf "self" = some .local) (hL : env.locals ∈ fx) (v1 : m "self" = some (.ref e)) :
   ∀ {nvs : List (Str × Value)} {ss : List Stmt} {s' : Shared} {od : Option (Addr × List (Str × Value))}, setsS (nvs.map (·.1)) ss = true → (∀ nv ∈ nvs, env.kindOf nv.1 = some .local ∧ (nv.1 == ("__debug__" : Str)) = false ∧ m nv.1 = some nv.2 ∧ findIn K (.ref C) nv.1 = some none) →
     XSt prog w s C e fx od s' → s'.heap.Ns env.locals m → (kvOf od).length + nvs.length ≤ 900 →
     (∀ dx s'', XSt prog w s C e fx (odOf nvs od dx) s'' → (∀ a ∈ fx, s''.heap.get? a = s'.heap.get? a) → Q .next s'') → wpAny (model prog w) A (execs ss env) Q E s' := by
 intro nvs
 induction nvs with
 | nil =>
   intro ss s' od hs _ x _ _ h
   cases List.isEmpty_iff.mp hs
   exact wpAny_execs_nil (h 0 s' x fun Z Z => rfl)
 | cons nv nvs ih =>
   obtain ⟨n, v⟩ := nv
   intro ss s' od hs hm x hn hz h
   refine anyS hs fun q hu hs => ?_
   cases uncS hu
   obtain ⟨m1, m2, m3, m4⟩ := hm _ (.head _)
   have hz : (kvOf od).length + 1 + nvs.length ≤ 900 := Nat.le_trans (Nat.le_of_eq (by rw [Nat.add_assoc, Nat.add_comm 1]; rfl)) hz
   refine wpAny_execs_cons (set_exec (andP hs).1 hf h1 m1 m2 hn v1 m3 (xset X k m4 x (Nat.le_of_succ_le (Nat.le_trans (Nat.le_add_right _ _) hz)) fun dx s₁ x₁ hk => ?_))
   refine ih (andP hs).2 (fun nv q => hm nv (.tail _ q)) x₁ (ns_slots hn fun o q => ⟨o.slots, by rw [hk _ hL]; exact q⟩) (Nat.le_trans (Nat.add_le_add_right storedL_len _) hz) fun dx' s₂ x₂ hk₂ => ?_
   exact h (pick nvs dx dx') s₂ (Eq.mp (congrArg (XSt prog w s C e fx · s₂) odOf_cons) x₂) fun a ma => (hk₂ a ma).trans (hk a ma)
end
end
section
open PySem PySem.W PySem.Calls PyProof.Rows
structure EnvI (env : Env) (ps : List Str) (cls : Str) : Prop where
 kind : env.scope.kind = .function
 loc : ∀ p ∈ ps, env.kindOf p = some .local ∧ (p == ("__debug__" : Str)) = false
 glob : env.kindOf cls = some .globalImplicit ∧ (cls == ("__debug__" : Str)) = false
 globals : env.globals = mainGlobals
 builtins : env.builtins = builtinsNs
section
variable {prog : Program} {w : World} {A : Around} {E : Value → Shared → Prop} {s s' : Shared} {K : Frag} {C e fa : Addr} {fx : List Addr} {od : Option (Addr × List (Str × Value))}
theorem frame_in {ps : List Str} {cls : Str} {sets : List Str} {vals : List Value} {R : Result → Shared → Prop} (hi : initIn K fa ps cls sets = true) (X : K.In s.heap) (hlim : s.heap.NoLimit) (x : XSt prog w s C e fx od s') (hroom : A.depth < recursionLimit) (hl : ps.length = vals.length)
   (h : ∀ env s₁ m s0 ss, EnvI env ps cls → XSt prog w s C e (env.locals :: fx) od s₁ → s₁.heap.Ns env.locals m → (∀ n v, n ∈ ps → (ps.zip vals).lookup n = some v → m n = some v) → (∀ a ∈ fx, s₁.heap.get? a = s'.heap.get? a) → superS cls s0 = true → setsS sets ss = true →
     wpAny (model prog w) (A.deeper env) (execs (s0 :: ss) env) (fun f s'' => R (.ok (.ret (match f with | .ret v => v | _ => .none))) s'') (fun Z Z => False) s₁) : codeAny (model prog w) A (.call (.ref fa) ⟨vals, []⟩) R s' := by
 refine anyS hi fun o ho hi => anyS hi fun fd hfd hi => andT hi fun ok hi => ?_
 have c := okFd_of ok
 have p5 : fd.params.args.map (·.arg) = ps := eqAt (l := initL ps cls sets fd) hi (i := 4) rfl
 have p6 : ps.Nodup := of_decide_eq_true (allAt (l := initL ps cls sets fd) hi (i := 5) rfl)
 have p8 := andP (allAt (l := initL ps cls sets fd) hi (i := 7) rfl)
 refine anyS (allAt (l := initL ps cls sets fd) hi (i := 11) rfl) fun q hb p12 => ?_
 have hloc : ∀ p ∈ ps, fd.scope.names.lookup p = some .local ∧ (p == ("__debug__" : Str)) = false := fun p m => by
   have q := andP (List.all_eq_true.mp (allAt (l := initL ps cls sets fd) hi (i := 6) rfl) p m)
   exact ⟨beq_iff_eq.mp q.1, (Bool.not_eq_true' _).mp q.2⟩
 have hbind := bindArgs_plain (fd := fd) (vals := vals) (List.isEmpty_iff.mp (allAt (l := initL ps cls sets fd) hi (i := 0) rfl)) (Option.isNone_iff_eq_none.mp (allAt (l := initL ps cls sets fd) hi (i := 1) rfl)) (List.isEmpty_iff.mp (allAt (l := initL ps cls sets fd) hi (i := 2) rfl))
   (Option.isNone_iff_eq_none.mp (allAt (l := initL ps cls sets fd) hi (i := 3) rfl)) c.de (by rw [p5]; exact p6) (by rw [← hl, ← p5, List.length_map])
 rw [p5] at hbind
 refine codeAny_call_cells hroom (X.keeps x.keep fa o ho) (funcS hfd) (hlim.keeps x.keep) ((codeRec_of X c.cd).keeps x.keep) (headS_of hb) hbind c.clo (fun y m => .inl (hloc _ (List.of_mem_zip m).1).1) (fun s₁ ic => ?_) c.co c.ge c.ki
 obtain ⟨h', tk, es₁, k1⟩ := ic.done
 subst es₁
 have hns := ic.toInCall.ns
 have x1 := x.mono (tk := tk) k1
 have fresh : ∀ b o, s'.heap.get? b = some o → b ≠ s'.heap.objs.size := fun b o q => Nat.ne_of_lt (Heap.lt_size q)
 have x2 : XSt prog w s C e (s'.heap.objs.size :: fx) od { s' with heap := h', toks := tk } := x1.fx_ fun a ma => by
   cases ma with
   | head =>
     obtain ⟨o', _, _, q', _⟩ := hns
     refine ⟨?_, fun dx kvs q => ?_, o', q'⟩
     · obtain ⟨t, q⟩ := x.obj
       exact Ne.symm (fresh _ _ q)
     · obtain ⟨_, ⟨o', _, _, q', _⟩, _⟩ := x.dict dx kvs q
       exact fresh _ _ q'
   | tail _ ma =>
     refine ⟨(x.fxs a ma).1, fun dx kvs q z => (x.dict dx kvs q).2.2.1 (z ▸ ma), ?_⟩
     obtain ⟨o', q⟩ := (x.fxs a ma).2
     exact ⟨o', k1 _ _ q⟩
 refine wpAny_mono (h (callEnvC fd s'.heap.objs.size fa) _ _ q.1 q.2 ⟨c.ki, hloc, ⟨beq_iff_eq.mp p8.2, (Bool.not_eq_true' _).mp p8.1⟩, c.gl, c.bu⟩ x2 hns (fun n v m q => ?_) (fun a ma => ?_) (andP p12).1 (andP p12).2) (fun Z Z z => z) fun Z Z z => z.elim
 · rw [bindL_look (show (callEnvC fd s'.heap.objs.size fa).kindOf n = _ from (hloc n m).1) (by rw [List.map_fst_zip (by rw [hl]; exact Nat.le_refl _)]; exact p6), q]; rfl
 · obtain ⟨o', q⟩ := (x.fxs a ma).2
   exact (k1 _ _ q).trans q.symm
end
end
section
open PySem PySem.W PySem.Calls PyProof.Rows
noncomputable def ps2 : List Str := ["self", "why", "function", "at"]
noncomputable def ps1 : List Str := ["self", "why"]
noncomputable def valOf : CFound → Option Value
 | .val v => some v
 | _ => none
noncomputable def excL (K : Frag) (C : Addr) (nmB : Str) (B fI fB : Addr) : List Bool := [
 excClIn K C, findIn K (.ref C) "__init__" == some (some (.ref fI)), typeIn K (.ref fI) == some (.type "function"), initIn K fI ps2 nmB ["function", "at"],
 nsIn K mainGlobals nmB == some (some (.ref B)), readsIn K B (.type "type"), specialIn K (.ref B) "__getattribute__" == some (some (.builtin "type.__getattribute__")),
 anyO (findCls K (.ref B) (.type "type") "__init__") fun q => anyO (valOf q) fun v => v == .ref fB, keepIn K (.ref fB), initIn K fB ps1 "Exception" ["why"],
 nsIn K mainGlobals "Exception" == some none, findIn K (.ref C) "__setattr__" == some (some (.builtin "object.__setattr__")), passIn K C,
 findIn K (.ref C) "why" == some none, findIn K (.ref C) "function" == some none, findIn K (.ref C) "at" == some none, subIn K (.ref C) (.type "Exception") == some true]
noncomputable def excFacts (K : Frag) (C : Addr) (nmB : Str) (B fI fB : Addr) : Bool := (excL K C nmB B fI fB).all id
section
variable {prog : Program} {w : World} {A : Around} {E : Value → Shared → Prop} {s s' : Shared} {K : Frag} {C e : Addr} {fx : List Addr} {od : Option (Addr × List (Str × Value))}
theorem fc_exc (K : Frag) : findCls K (.type "Exception") (.type "type") "__init__" = some (.val (.builtin "Exception.__init__")) := by kernel_rfl
theorem exc_meth {pl : Sem Bool} {Q : Value × List Value → Shared → Prop} (X : K.In s'.heap) (h : ∀ tk, Q (.builtin "Exception.__init__", []) { s' with toks := tk }) : wpAny (model prog w) A (getMethod (.type "Exception") "__init__" pl) Q E s' := by
 have ht : Looks (model prog w) s'.heap (typeOf (.type "Exception")) (.type "type") := Looks.of_pure (by kernel_rfl)
 have hga : findIn K (.type "type") "__getattribute__" = some (some (.builtin "type.__getattribute__")) := by kernel_rfl
 unfold getMethod specialOf
 refine wpAny_bind (wpAny_bind (ht.here ((looks_findIn X hga).here ?_)))
 dsimp only
 rw [if_pos canon_tga]
 refine wpAny_bind ?_
 refine cls_open (mc := .type "type") (hook := none) X (Looks.of_pure (by kernel_rfl)) ht hga (Looks.of_pure (by kernel_rfl)) (by kernel_rfl) (fc_exc K) (wpAny_pure ?_)
 show wpAny _ _ (handedOut (.builtin "Exception.__init__")) _ _ _
 rw [handedOut_of (by decide +kernel)]
 exact wpAny_pure (wpAny_pure (h _))
theorem init_base {fB : Addr} {u : Value} {mb : Str → Option Value} {Q : Value → Shared → Prop} (X : K.In s.heap) (hlim : s.heap.NoLimit) (hmb : s.heap.Ns builtinsNs mb) (hme : mb "Exception" = some (.type "Exception")) (xk : XK K C) (hB : excClIn K C = true)
   (hb : subIn K (.ref C) (.type "Exception") = some true) (hi : initIn K fB ps1 "Exception" ["why"] = true) (hne : nsIn K mainGlobals "Exception" = some none) (hw : findIn K (.ref C) "why" = some none) (x : XSt prog w s C e fx none s') (hroom : A.depth < recursionLimit)
   (h : ∀ dx s'', XSt prog w s C e fx (some (dx, [("why", u)])) s'' → (∀ a ∈ fx, s''.heap.get? a = s'.heap.get? a) → Q .none s'') : wpAny (model prog w) A (call (.ref fB) [.ref e, u]) Q E s' := by
 refine wpAny_call (frame_in hi X hlim x hroom rfl fun env s₁ m s0 ss ev x₁ hn hm hk hs0 hss => ?_)
 have v1 : m "self" = some (.ref e) := hm _ _ (by decide +kernel) rfl
 have v2 : m "why" = some u := hm _ _ (by decide +kernel) rfl
 have l1 := ev.loc "self" (by decide +kernel)
 have l2 := ev.loc "why" (by decide +kernel)
 refine wpAny_execs_cons (super_exec (cv := .type "Exception") (f := .builtin "Exception.__init__") hs0 ev.kind l1.1 l2.1 (fun Z => hn) v1 v2 (fun p Q q => ?_) (fun pl Q q => exc_meth (X.keeps x₁.keep) q) (fun p p1 p2 s'' Q q hq => ?_) fun tk => ?_)
 · refine Name_function_global ev.kind ev.glob.1 ?_ ev.glob.2
   unfold loadGlobal
   rw [ev.globals, ev.builtins]
   refine wpAny_bind ((looks_nsIn (X.keeps x₁.keep) hne).here ?_)
   refine wpAny_bind (wpAny_nsGet (hmb.keeps x₁.keep) ?_)
   rw [hme]
   exact wpAny_pure q
 · refine callWith_builtin rfl (evalArgs_plain ?_)
   exact wpAny_mono hq (fun vs s₁ z => z.2) fun Z Z z => z
 · refine exc_init X hB hb (x₁.mono (tk := tk) fun Z Z e => e) fun s₂ x₂ k₂ => ?_
   have hn2 : s₂.heap.Ns env.locals m := ns_slots hn fun o q => ⟨o.slots, by rw [k₂ _ (.head _)]; exact q⟩
   refine sets_exec (nvs := [("why", u)]) X xk ev.kind l1.1 (.head _) v1 hss (fun nv q => ?_) x₂ hn2 (nle rfl) fun dx s₃ x₃ k₃ => ?_
   · rw [List.mem_singleton.mp q]; exact ⟨l2.1, l2.2, v2, hw⟩
   · exact h dx s₃ (x₃.less fun a m => .tail _ m) fun a ma => ((k₃ a (.tail _ ma)).trans (k₂ a (.tail _ ma))).trans (hk a ma)
theorem init_own {B fI fB : Addr} {nmB : Str} {u v y : Value} {mb : Str → Option Value} {Q : Value → Shared → Prop} (X : K.In s.heap) (hlim : s.heap.NoLimit) (hmb : s.heap.Ns builtinsNs mb) (hme : mb "Exception" = some (.type "Exception")) (hf : excFacts K C nmB B fI fB = true)
   (x : XSt prog w s C e fx none s') (hroom : A.depth + 2 < recursionLimit)
   (h : ∀ dx s'', XSt prog w s C e fx (some (dx, [("why", u), ("function", v), ("at", y)])) s'' → (∀ a ∈ fx, s''.heap.get? a = s'.heap.get? a) → Q .none s'') : wpAny (model prog w) A (call (.ref fI) [.ref e, u, v, y]) Q E s' := by
 have f4 : initIn K fI ps2 nmB ["function", "at"] = true := allAt (l := excL K C nmB B fI fB) hf (i := 3) rfl
 have fc : findCls K (.ref B) (.type "type") "__init__" = some (.val (.ref fB)) := anyS (allAt (l := excL K C nmB B fI fB) hf (i := 7) rfl) fun q e q2 => anyS q2 fun v e2 q2 => by
   rw [e]
   cases q with
   | val u => cases e2; rw [beq_iff_eq.mp q2]
   | _ => exact nn e2
 have xk : XK K C := ⟨eqAt (l := excL K C nmB B fI fB) hf (i := 11) rfl, allAt (l := excL K C nmB B fI fB) hf (i := 12) rfl⟩
 refine wpAny_call (frame_in f4 X hlim x (by lia) rfl fun env s₁ m s0 ss ev x₁ hn hm hk hs0 hss => ?_)
 have v1 : m "self" = some (.ref e) := hm _ _ (by decide +kernel) rfl
 have v2 : m "why" = some u := hm _ _ (by decide +kernel) rfl
 have v3 : m "function" = some v := hm _ _ (by decide +kernel) rfl
 have v4 : m "at" = some y := hm _ _ (by decide +kernel) rfl
 have l1 := ev.loc "self" (by decide +kernel)
 have l2 := ev.loc "why" (by decide +kernel)
 have l3 := ev.loc "function" (by decide +kernel)
 have l4 := ev.loc "at" (by decide +kernel)
 have X₁ := X.keeps x₁.keep
 refine wpAny_execs_cons (super_exec (cv := .ref B) (f := .ref fB) hs0 ev.kind l1.1 l2.1 (fun Z => hn) v1 v2 (fun p Q q => ?_) (fun pl Q q => method_cls X₁ (eqAt (l := excL K C nmB B fI fB) hf (i := 6) rfl) (cls_value X₁ (allAt (l := excL K C nmB B fI fB) hf (i := 5) rfl) fc rfl (q _))) (fun p p1 p2 s'' Q q hq => ?_) fun tk => ?_)
 · refine Name_function_global ev.kind ev.glob.1 ?_ ev.glob.2
   unfold loadGlobal
   rw [ev.globals]
   exact wpAny_bind ((looks_nsIn X₁ (eqAt (l := excL K C nmB B fI fB) hf (i := 4) rfl)).here (wpAny_pure q))
 · refine callWith_K X (allAt (l := excL K C nmB B fI fB) hf (i := 8) rfl) ?_
   refine wpAny_mono hq (fun vs s₂ z => ⟨?_, z.2⟩) fun Z Z z => z
   obtain ⟨tk, rfl⟩ := z.1
   exact X₁
 · refine init_base X hlim hmb hme xk (allAt (l := excL K C nmB B fI fB) hf (i := 0) rfl) (eqAt (l := excL K C nmB B fI fB) hf (i := 16) rfl) (allAt (l := excL K C nmB B fI fB) hf (i := 9) rfl) (eqAt (l := excL K C nmB B fI fB) hf (i := 10) rfl) (eqAt (l := excL K C nmB B fI fB) hf (i := 13) rfl) (x₁.mono (tk := tk) fun Z Z e => e) (by show A.depth + 1 < _; lia) fun dx s₂ x₂ k₂ => ?_
   have hn2 : s₂.heap.Ns env.locals m := ns_slots hn fun o q => ⟨o.slots, by rw [k₂ _ (.head _)]; exact q⟩
   refine sets_exec (nvs := [("function", v), ("at", y)]) X xk ev.kind l1.1 (.head _) v1 hss (fun nv q => ?_) x₂ hn2 (nle rfl) fun dx' s₃ x₃ k₃ => ?_
   · cases q with
     | head => exact ⟨l3.1, l3.2, v3, eqAt (l := excL K C nmB B fI fB) hf (i := 14) rfl⟩
     | tail _ q => rw [List.mem_singleton.mp q]; exact ⟨l4.1, l4.2, v4, eqAt (l := excL K C nmB B fI fB) hf (i := 15) rfl⟩
   · refine h dx' s₃ ?_ fun a ma => ((k₃ a (.tail _ ma)).trans (k₂ a (.tail _ ma))).trans (hk a ma)
     have := x₃.less (fx' := fx) fun a m => .tail _ m
     exact this
end
end
section
open PySem PySem.W PySem.Calls PyProof.Rows
noncomputable def Tb.excL (t : Tb) (K : Frag) (C : Addr) (nmB : Str) (B fI fB : Addr) : List Bool := [
 excFacts K C nmB B fI fB, t.clsL.lookup 1 == some C, nsIn K mainGlobals t.ct.exc == some (some (.ref C)), keepIn K (.ref C), typeIn K (.ref C) == some (.type "type"), subIn K (.ref C) (.type "type") == some false,
 subIn K (.ref C) (.type "BaseException") == some true, subIn K (.ref C) (.ref C) == some true, isClsIn K C, hasDictIn K C,
 findIn K (.ref C) "__getattribute__" == some (some (.builtin "BaseException.__getattribute__")), findIn K (.ref C) "__getattr__" == some none,
 t.ct.strs[t.excK.1]? == some "why", t.ct.strs[t.excK.2.1]? == some "function", t.ct.strs[t.excK.2.2]? == some "at"]
noncomputable def Tb.okExc (t : Tb) (K : Frag) (C : Addr) (nmB : Str) (B fI fB : Addr) : Bool := (t.excL K C nmB B fI fB).all id
section
variable {t : Tb} {prog : Program} {w : World} {K : Frag} {s : Shared} {L : Addr} {C B fI fB : Addr} {nmB : Str}
theorem get_exc (h : t.okExc K C nmB B fI fB = true) : ∀ ca nm, t.clsL.lookup 1 = some ca → findIn K (.ref ca) nm = some none → ∀ {A : Around} {s : Shared} {Q E : Value → Shared → Prop} {a : Addr} {ox : Obj} {ds : List DictEntry} {n : Nat} {v : Value} {expr : Bool}, K.In s.heap → InstAt s.heap a ox ca (some (dictOf ds n)) →
   lookIn nm (dictOf ds n) = some (some v) → handedIn v = true → Q v { s with toks := s.toks + 1 } → wpAny (model prog w) A (getAttr (.ref a) nm expr) Q E s := by
 intro ca nm e z A s Q E a ox ds n v expr X I hl hh q
 cases (eqAt (l := t.excL K C nmB B fI fB) h (i := 1) rfl).symm.trans e
 exact xget X I (eqAt (l := t.excL K C nmB B fI fB) h (i := 10) rfl) (eqAt (l := t.excL K C nmB B fI fB) h (i := 11) rfl) (eqAt (l := t.excL K C nmB B fI fB) h (i := 6) rfl) (findObj_own (allAt (l := t.excL K C nmB B fI fB) h (i := 9) rfl) z rfl hl) hh q
theorem exc_made {X : Cx} {envs : List Env} {μ : List Addr} {H : MH} {hp h' : Heap} {g : Array GenState} {dr : Drawn} {tk tk' : Tok} {os : OsState} {x1 x2 x3 : MV} {u v y : Value} {dx tt : Addr} (x : St X envs μ H ⟨hp, g, dr, tk, os⟩) (e : X.cls X.P.excC = some C)
   (h13 : X.T.strs[X.P.excK.1]? = some "why") (h14 : X.T.strs[X.P.excK.2.1]? = some "function") (h15 : X.T.strs[X.P.excK.2.2]? = some "at") (r1 : RV X.T.strs μ hp x1 u) (r2 : RV X.T.strs μ hp x2 v) (r3 : RV X.T.strs μ hp x3 y)
   (k2 : ∀ b o, hp.get? b = some o → h'.get? b = some o) (k3 : hp.get? (hp.objs.size + 1) = none) (k4 : h'.get? (hp.objs.size + 1) = some (excObj C (some dx) tt)) (d1 : hp.get? dx = none) (d2 : h'.DictOf (strKind X.prog X.w) dx [("why", u), ("function", v), ("at", y)]) :
   Aft X envs [] μ ⟨hp, g, dr, tk, os⟩ μ H ⟨h', g, dr, tk', os⟩ ∧ Flies X envs hp μ h' ⟨x1, x2, x3⟩ (hp.objs.size + 1) ∧ FlO X envs hp μ h' ⟨x1, x2, x3⟩ (hp.objs.size + 1) (excObj C (some dx) tt) #[.ref tt, .none, .none, .none, .bool false, .none] dx [("why", u), ("function", v), ("at", y)] := by
 have A1 : Aft X envs [] μ ⟨hp, g, dr, tk, os⟩ μ H ⟨h', g, dr, tk', os⟩ := Aft.keepAll x (h' := h') (t := tk') (d := dr) k2
 have bn : ∀ a, hp.get? a = none → X.base.get? a = none := fun a q => by
   cases z : X.base.get? a with
   | none => rfl
   | some o => exact nn (q.symm.trans (x.stays a o z))
 have T := (A1.tu x NoTup.nil).t
 have M := MExt.refl μ
 have F : FlO X envs hp μ h' ⟨x1, x2, x3⟩ (hp.objs.size + 1) (excObj C (some dx) tt) #[.ref tt, .none, .none, .none, .bool false, .none] dx [("why", u), ("function", v), ("at", y)] :=
   ⟨k4, ⟨C, rfl, e⟩, rfl, rfl, nle rfl, .none rfl, d1, new_nomu x d1, bn _ d1, d2,
     _, _, _, _, rfl, h13, rfl, r1.mono M T, _, _, _, _, rfl, h14, rfl, r2.mono M T, _, _, _, _, rfl, h15, rfl, r3.mono M T, rfl⟩
 exact ⟨A1, ⟨k3, new_nomu x k3, bn _ k3, _, _, _, _, F⟩, F⟩
theorem excOk_of (hx : XOk (t.X prog w K s L)) {mb : Str → Option Value} (hb : s.heap.Ns builtinsNs mb) (hbb : ∀ x : Str, x ≠ "__name__" → mb x = bootBuiltins x) (h : t.okExc K C nmB B fI fB = true) : ExcOk (t.X prog w K s L) := by
 have hme : mb "Exception" = some (.type "Exception") := by rw [hbb _ (by decide +kernel)]; kernel_rfl
 have h2 : t.clsL.lookup 1 = some C := eqAt (l := t.excL K C nmB B fI fB) h (i := 1) rfl
 refine ⟨⟨C, eqAt (l := t.excL K C nmB B fI fB) h (i := 2) rfl, h2, allAt (l := t.excL K C nmB B fI fB) h (i := 3) rfl, eqAt (l := t.excL K C nmB B fI fB) h (i := 4) rfl, eqAt (l := t.excL K C nmB B fI fB) h (i := 5) rfl, eqAt (l := t.excL K C nmB B fI fB) h (i := 6) rfl, eqAt (l := t.excL K C nmB B fI fB) h (i := 7) rfl⟩, fun e => ?_, ?_⟩
 · cases h2.symm.trans e; exact allAt (l := t.excL K C nmB B fI fB) h (i := 8) rfl
 · intro A envs d μ H s' x1 x2 x3 u v y ca Q E hA x e r1 r2 r3 P
   cases h2.symm.trans e
   have X' : K.In s'.heap := hx.K.keeps x.stays
   have hf : excFacts K C nmB B fI fB = true := allAt (l := t.excL K C nmB B fI fB) h (i := 0) rfl
   obtain ⟨hp, g, dr, tk, os⟩ := s'
   obtain ⟨_, _, _, _, _, _, _, _, _, _, _, _, _, _, _, _, Bx⟩ := excAt_of X' (allAt (l := excL K C nmB B fI fB) hf (i := 0) rfl)
   refine xc_call (fI := fI) Bx (looks_findIn X' (eqAt (l := excL K C nmB B fI fB) hf (i := 1) rfl)) (fun self => bind_fn X' self (eqAt (l := excL K C nmB B fI fB) hf (i := 2) rfl)) (by rw [sizeLine_eq]; exact nle rfl) ?_
   have k : ∀ b o, hp.get? b = some o → ((hp.push { cls := .type "tuple", data := .seq [u, v, y].toArray }).push (excObj C none hp.objs.size)).get? b = some o := fun b o e => Heap.get?_push_of_some _ (Heap.get?_push_of_some _ e)
   have hget : ((hp.push { cls := .type "tuple", data := .seq [u, v, y].toArray }).push (excObj C none hp.objs.size)).get? (hp.objs.size + 1) = some (excObj C none hp.objs.size) := by heap_get
   have x0 : XSt prog w ⟨hp, g, dr, tk, os⟩ C (hp.objs.size + 1) [] none ⟨(hp.push { cls := .type "tuple", data := .seq [u, v, y].toArray }).push (excObj C none hp.objs.size), g, dr, tk, os⟩ :=
     ⟨⟨_, _, rfl⟩, k, Heap.get?_none_of_le (Nat.le_succ _), ⟨_, hget⟩, fun Z Z q => (nomatch q), fun Z m => (nomatch m)⟩
   have dp := hA.depth
   have tw := tc_weight C [u, v, y]
   refine init_own (mb := mb) X' (hx.nolim.keeps x.stays) (hb.keeps x.stays) hme hf x0 (Nat.lt_of_le_of_lt (Nat.add_le_add_right (Nat.add_le_add (Nat.le_trans (Nat.le_add_right _ _) dp) tw) 2) (nle rfl)) fun dx s₂ x₂ Z => ⟨rfl, ?_⟩
   obtain ⟨⟨h', tk', rfl⟩, k2, k3, ⟨tt, k4⟩, k5, _⟩ := x₂
   obtain ⟨d1, d2, _, d4⟩ := k5 dx _ rfl
   obtain ⟨A1, f, F⟩ := exc_made (X := t.X prog w K s L) (tk' := tk') x e (eqAt (l := t.excL K C nmB B fI fB) h (i := 12) rfl) (eqAt (l := t.excL K C nmB B fI fB) h (i := 13) rfl) (eqAt (l := t.excL K C nmB B fI fB) h (i := 14) rfl) r1 r2 r3 k2 k3 k4 d1 d2
   exact P _ _ _ _ _ _ A1 f F rfl
end
end
section
open PySem PySem.W PyProof.Rows
noncomputable def strsL : List PySem.Str := [.ofString "append", .ofString "pop", .ofString "extend", .ofString "reverse", .ofString "__init__", .ofString "why", .ofString "function", .ofString "at", .ofString "label", .ofString "fail", .ofString "push", .ofString "push_all", .ofString "pop_any", .ofString "pop_all", .ofString "begin", .ofString "close", .ofString "kill", .ofString "target", .ofString "block_kind", .ofString "type_at", .ofString "func_at", .ofString "local_at", .ofString "check", .ofString "step", .ofString "more", .ofString "number", .ofString "control", .ofString "other", .ofString "end", .ofString "branch", .ofString "call", .ofString "local", .ofString "select", .ofString "plain", .ofString "i32", .ofString "i64", .ofString "funcref", .ofString "externref", .ofString "code", .ofString "params", .ofString "results", .ofString "height", .ofString "is_dead", .ofString "is_buried", .ofString "kinds", .ofString "funcs", .ofString "locals", .ofString "values", .ofString "blocks", .ofString "illegal opcode", .ofString "type mismatch", .ofString "unknown label", .ofString "unknown type", .ofString "unknown function", .ofString "unknown local", .ofString "else without if", .ofString "invalid result arity", .ofString "kind", .ofString "body", .ofString "stack", .ofString "live", .ofString "heights", .ofString "labels", .ofString "first", .ofString "left"]
noncomputable def funsL : List (PySem.Str × Nat) := [(.ofString "_wall", 0), (.ofString "is_kind", 1), (.ofString "block_kind", 2), (.ofString "number_kind", 3), (.ofString "is_block", 4), (.ofString "is_number_kind", 7), (.ofString "core_heights", 36), (.ofString "_law_next", 39), (.ofString "_law_arrow", 40), (.ofString "_law_emit", 41), (.ofString "_law_const", 42), (.ofString "_law_die", 43), (.ofString "_law_close", 44), (.ofString "_law_reset", 45), (.ofString "_law_block", 46), (.ofString "_law_jump", 47), (.ofString "_law_number_piece", 48), (.ofString "_law_list", 49), (.ofString "_law_heard", 50), (.ofString "law", 51), (.ofString "block_kind_kinds", 2)]
noncomputable def clssL : List (PySem.Str × Nat) := [(.ofString "Block", 2), (.ofString "StackCheck", 3), (.ofString "Func", 4)]
noncomputable def globsL : List (PySem.Str × Nat) := [(.ofString "I32", 0), (.ofString "I64", 1), (.ofString "FUNCREF", 2), (.ofString "EXTERNREF", 3), (.ofString "EMPTY", 4), (.ofString "KIND_NAMES", 5), (.ofString "BLOCK", 6), (.ofString "LOOP", 7), (.ofString "IF", 8), (.ofString "ELSE", 9), (.ofString "NUMBERS", 10), (.ofString "UNKNOWN", 11), (.ofString "FUNCTION", 12), (.ofString "_law_kinds", 13)]
noncomputable def globV : List MV := [.int (-1), .int (-2), .int (-16), .int (-17), .int (-64), .ref 0, .int 2, .int 3, .int 4, .int 5, .tup [.tup [.int 69, .int 69, .tup [.int (-1)], .tup [.int (-1)]], .tup [.int 70, .int 79, .tup [.int (-1), .int (-1)], .tup [.int (-1)]], .tup [.int 80, .int 80, .tup [.int (-2)], .tup [.int (-1)]], .tup [.int 81, .int 90, .tup [.int (-2), .int (-2)], .tup [.int (-1)]], .tup [.int 103, .int 105, .tup [.int (-1)], .tup [.int (-1)]], .tup [.int 106, .int 120, .tup [.int (-1), .int (-1)], .tup [.int (-1)]], .tup [.int 121, .int 123, .tup [.int (-2)], .tup [.int (-2)]], .tup [.int 124, .int 138, .tup [.int (-2), .int (-2)], .tup [.int (-2)]], .tup [.int 167, .int 167, .tup [.int (-2)], .tup [.int (-1)]], .tup [.int 172, .int 173, .tup [.int (-1)], .tup [.int (-2)]], .tup [.int 192, .int 193, .tup [.int (-1)], .tup [.int (-1)]], .tup [.int 194, .int 196, .tup [.int (-2)], .tup [.int (-2)]]], .int 0, .int (-1), .tup [.tup [.tup [], .tup []], .tup [.tup [.int (-1)], .tup [.int (-1)]], .tup [.tup [], .tup [.int (-2)]], .tup [.tup [.int (-1), .int (-2)], .tup [.int (-1)]]]]
noncomputable def methL : List ((Nat × Nat) × Nat) := [((1, 4), 6), ((2, 4), 8), ((2, 8), 9), ((3, 4), 10), ((3, 9), 11), ((3, 10), 12), ((3, 11), 13), ((3, 12), 14), ((3, 1), 15), ((3, 13), 16), ((3, 14), 17), ((3, 15), 18), ((3, 16), 19), ((3, 17), 20), ((3, 18), 21), ((3, 19), 22), ((3, 20), 23), ((3, 21), 24), ((3, 22), 25), ((3, 23), 26), ((3, 24), 27), ((3, 25), 28), ((3, 26), 29), ((3, 27), 30), ((3, 28), 31), ((3, 29), 32), ((3, 30), 33), ((3, 31), 34), ((3, 32), 35), ((4, 4), 37), ((4, 33), 38)]
noncomputable def ct : CT := ⟨strsL, funsL, clssL, globsL, "Invalid"⟩
noncomputable def fnL : List Nat := [21,29,36,80,87,101,121,133,147,154,175,182,189,196,203,210,217,224,231,238,245,252,259,266,273,280,287,294,301,308,315,322,329,336,343,350,364,378,385,412,419,426,433,440,447,454,461,466,473,480,487,494]
noncomputable def tb : Tb := ⟨ct, fnL, [(1, 124), (2, 157), (3, 353), (4, 388)], globV, methL, [(2, 8), (3, 10), (4, 37)], 22, (5, 6, 7)⟩
noncomputable abbrev d03 : List (MV × MV) := [(.int (-1), .str 34), (.int (-2), .str 35), (.int (-16), .str 36), (.int (-17), .str 37)]
noncomputable def FF (f : Nat) : Option Fn := ((codeOf ct PySem.Challenge.pw_nm0142_03)[f]?).join
theorem k_str : tb.okStr = true := by decide +kernel
end
section
noncomputable def R.wp {α : Type} (r : R α) (Q : α → MH → Prop) (E : MExc → MH → Prop) : Prop := match r with
 | .ok a H => Q a H
 | .exc x H => E x H
 | .bad => False
noncomputable def RS.wp (r : RS) (Q : MFlow → Loc → MH → Prop) (E : MExc → MH → Prop) : Prop := match r with
 | .ok f ρ H => Q f ρ H
 | .exc x _ H => E x H
 | .bad => False
theorem R.wp_bind {α β : Type} {r : R α} {f : α → MH → R β} {Q : β → MH → Prop} {E : MExc → MH → Prop} (h : r.wp (fun a H => (f a H).wp Q E) E) : (r.bind f).wp Q E := by
 cases r <;> exact h
theorem R.wp_then {α : Type} {ρ : Loc} {r : R α} {f : α → MH → RS} {Q : MFlow → Loc → MH → Prop} {E : MExc → MH → Prop} (h : r.wp (fun a H => (f a H).wp Q E) E) : (r.then ρ f).wp Q E := by
 cases r <;> exact h
theorem R.wp_mono {α : Type} {r : R α} {Q Q' : α → MH → Prop} {E E' : MExc → MH → Prop} (h : r.wp Q E) (q : ∀ a H, Q a H → Q' a H) (e : ∀ x H, E x H → E' x H) : r.wp Q' E' := by
 cases r <;> first | exact q _ _ h | exact e _ _ h | exact h
theorem RS.wp_mono {r : RS} {Q Q' : MFlow → Loc → MH → Prop} {E E' : MExc → MH → Prop} (h : r.wp Q E) (q : ∀ f ρ H, Q f ρ H → Q' f ρ H) (e : ∀ x H, E x H → E' x H) : r.wp Q' E' := by
 cases r <;> first | exact q _ _ _ h | exact e _ _ h | exact h
theorem R.wp_ok {α : Type} {r : R α} {Q : α → MH → Prop} (h : r.wp Q (fun Z Z => False)) : ∃ a H, r = .ok a H ∧ Q a H := by
 cases r with
 | ok a H => exact ⟨a, H, rfl, h⟩
 | exc => exact h.elim
 | bad => exact h.elim
theorem wp_opt {α β : Type} {o : Option α} {a : α} {H : MH} {f : α → MH → R β} {Q : β → MH → Prop} {E : MExc → MH → Prop} (e : o = some a) (q : (f a H).wp Q E) : ((optR H o).bind f).wp Q E := by subst e; exact q
theorem wp_optT {α : Type} {o : Option α} {a : α} {H : MH} {ρ : Loc} {f : α → MH → RS} {Q : MFlow → Loc → MH → Prop} {E : MExc → MH → Prop} (e : o = some a) (q : (f a H).wp Q E) : ((optR H o).then ρ f).wp Q E := by subst e; exact q
theorem wp_opt0 {α : Type} {o : Option α} {a : α} {H : MH} {Q : α → MH → Prop} {E : MExc → MH → Prop} (e : o = some a) (q : Q a H) : (optR H o).wp Q E := by subst e; exact q
theorem RS.wp_seq {r : RS} {f : Loc → MH → RS} {Q : MFlow → Loc → MH → Prop} {E : MExc → MH → Prop} (h : r.wp (fun fl ρ H => match fl with | .next => (f ρ H).wp Q E | fl => Q fl ρ H) E) : (r.seq f).wp Q E := by
 cases r with
 | bad => exact h
 | exc => exact h
 | ok fl ρ H => cases fl <;> exact h
noncomputable def tv (v : MV) (A B : Prop) : Prop := match v with
 | .bool true => A
 | .bool false => B
 | _ => False
theorem tv_toB {β : Type} {v : MV} {H : MH} {f : Bool → MH → R β} {Q : β → MH → Prop} {E : MExc → MH → Prop} (h : tv v ((f true H).wp Q E) ((f false H).wp Q E)) : ((toB v H).bind f).wp Q E := by
 cases v with
 | bool b => cases b <;> exact h
 | _ => exact h.elim
theorem tv_toBT {v : MV} {H : MH} {ρ : Loc} {f : Bool → MH → RS} {Q : MFlow → Loc → MH → Prop} {E : MExc → MH → Prop} (h : tv v ((f true H).wp Q E) ((f false H).wp Q E)) : ((toB v H).then ρ f).wp Q E := by
 cases v with
 | bool b => cases b <;> exact h
 | _ => exact h.elim
theorem tv_dec {p : Prop} [Decidable p] {A B : Prop} (h1 : p → A) (h2 : ¬ p → B) : tv (.bool (decide p)) A B := by
 by_cases h : p
 · rw [decide_eq_true h]; exact h1 h
 · rw [decide_eq_false h]; exact h2 h
theorem tv_ndec {p : Prop} [Decidable p] {A B : Prop} (h1 : ¬ p → A) (h2 : p → B) : tv (.bool (!decide p)) A B := by
 by_cases h : p
 · rw [decide_eq_true h]; exact h2 h
 · rw [decide_eq_false h]; exact h1 h
theorem tv_bool {b : Bool} {A B : Prop} (h1 : b = true → A) (h2 : b = false → B) : tv (.bool b) A B := by
 cases b
 · exact h2 rfl
 · exact h1 rfl
theorem tv_true {A B : Prop} (h : A) : tv (.bool true) A B := h
theorem tv_false {A B : Prop} (h : B) : tv (.bool false) A B := h
section
variable {P : Code} {C : Orc} {N : Nat} {ρ : Loc} {H : MH} {Q : MV → MH → Prop} {E : MExc → MH → Prop}
theorem wE_con {v : MV} (h : Q v H) : (mE P C true (.con v) ρ H).wp Q E := h
theorem wE_loc {x : Nat} {v : MV} (e : ρ x = some v) (h : Q v H) : (mE P C true (.loc x) ρ H).wp Q E := by
 show (optR H (ρ x)).wp Q E
 rw [e]; exact h
theorem wE_glob {g : Nat} {v : MV} (e : P.glob g = some v) (h : Q v H) : (mE P C true (.glob g) ρ H).wp Q E := by
 show (optR H (P.glob g)).wp Q E
 rw [e]; exact h
theorem wE_bin {op : BOp} {a b : CE} (h : (mE P C true a ρ H).wp (fun x H => (mE P C true b ρ H).wp (fun y H => (mBin H op x y).wp Q E) E) E) : (mE P C true (.bin op a b) ρ H).wp Q E := by
 exact R.wp_bind (R.wp_mono h (fun Z Z h => R.wp_bind h) fun Z Z h => h)
theorem wE_not {a : CE} (h : (mE P C true a ρ H).wp (fun x H => tv x (Q (.bool false) H) (Q (.bool true) H)) E) : (mE P C true (.not a) ρ H).wp Q E := by
 exact R.wp_bind (R.wp_mono h (fun v H h => tv_toB h) fun Z Z h => h)
theorem wE_ite {t a b : CE} (h : (mE P C true t ρ H).wp (fun x H => tv x ((mE P C true a ρ H).wp Q E) ((mE P C true b ρ H).wp Q E)) E) : (mE P C true (.ite t a b) ρ H).wp Q E := by
 exact R.wp_bind (R.wp_mono h (fun v H h => tv_toB h) fun Z Z h => h)
theorem wE_list {es : List CE} (h : (mEs P C true es ρ H).wp (fun vs H => (newList vs H).wp Q E) E) : (mE P C true (.list es) ρ H).wp Q E := by
 exact R.wp_bind h
theorem wE_tup {es : List CE} (h : (mEs P C true es ρ H).wp (fun vs H => (newTup vs H).wp Q E) E) : (mE P C true (.tup es) ρ H).wp Q E := by
 exact R.wp_bind h
theorem wE_dict {es : List CE} (h : (mEs P C true es ρ H).wp (fun vs H => ∃ ds, mkDict vs = some ds ∧ Q (.ref H.length) (H ++ [.dict false ds])) E) : (mE P C true (.dict es) ρ H).wp Q E := by
 exact R.wp_bind (R.wp_mono h (fun v H h => h.elim fun ds q => wp_opt q.1 q.2) fun Z Z h => h)
theorem wE_sub {o i : CE} (h : (mE P C true o ρ H).wp (fun x H => (mE P C true i ρ H).wp (fun y H => (mSub H x y).wp Q E) E) E) : (mE P C true (.sub o i) ρ H).wp Q E := by
 exact R.wp_bind (R.wp_mono h (fun Z Z h => R.wp_bind h) fun Z Z h => h)
theorem wE_slFrom {o i : CE} (h : (mE P C true o ρ H).wp (fun x H => (mE P C true i ρ H).wp (fun y H => (mSlFrom H x y).wp Q E) E) E) : (mE P C true (.slFrom o i) ρ H).wp Q E := by
 exact R.wp_bind (R.wp_mono h (fun Z Z h => R.wp_bind h) fun Z Z h => h)
theorem wE_slTo {o i : CE} (h : (mE P C true o ρ H).wp (fun x H => (mE P C true i ρ H).wp (fun y H => (mSlTo H x y).wp Q E) E) E) : (mE P C true (.slTo o i) ρ H).wp Q E := by
 exact R.wp_bind (R.wp_mono h (fun Z Z h => R.wp_bind h) fun Z Z h => h)
theorem wE_callF {f : Nat} {args : List CE} (h : (mEs P C true args ρ H).wp (fun vs H => (C f vs H).wp Q E) E) : (mE P C true (.callF f args) ρ H).wp Q E := by
 exact R.wp_bind h
theorem wE_callC {c : Nat} {args : List CE} (h : (mEs P C true args ρ H).wp (fun vs H => (mNew P C c vs H).wp Q E) E) : (mE P C true (.callC c args) ρ H).wp Q E := by
 exact R.wp_bind h
theorem wE_callB {b : Bi} {a : CE} (h : (mE P C true a ρ H).wp (fun v H => (mBi H b v).wp Q E) E) : (mE P C true (.callB b a) ρ H).wp Q E := by
 exact R.wp_bind h
theorem wE_callM {o : CE} {k : Nat} {args : List CE} (h : (mE P C true o ρ H).wp (fun x H => ∃ m, mKind P H x k args.length = some m ∧ (mEs P C true args ρ H).wp (fun vs H => (mMeth C m x vs H).wp Q E) E) E) : (mE P C true (.callM o k args) ρ H).wp Q E := by
 exact R.wp_bind (R.wp_mono h (fun v H h => h.elim fun m q => wp_opt q.1 (R.wp_bind q.2)) fun Z Z h => h)
theorem wE_bool {k : Bool} {es : List CE} (h : (mBool P C true k es ρ H).wp (fun b H => Q (.bool b) H) E) : (mE P C true (.bool k es) ρ H).wp Q E := by
 exact R.wp_bind h
theorem wE_cmp {a : CE} {ops : List COp} {bs : List CE} (h : (mE P C true a ρ H).wp (fun x H => (mChain P C true x ops bs ρ H).wp (fun b H => Q (.bool b) H) E) E) : (mE P C true (.cmp a ops bs) ρ H).wp Q E := by
 exact R.wp_bind (R.wp_mono h (fun Z Z h => R.wp_bind h) fun Z Z h => h)
theorem wEs_nil {Q : List MV → MH → Prop} (h : Q [] H) : (mEs P C true [] ρ H).wp Q E := h
theorem wEs_cons {e : CE} {es : List CE} {Q : List MV → MH → Prop} (h : (mE P C true e ρ H).wp (fun v H => (mEs P C true es ρ H).wp (fun vs H => Q (v :: vs) H) E) E) : (mEs P C true (e :: es) ρ H).wp Q E := by
 exact R.wp_bind (R.wp_mono h (fun Z Z h => R.wp_bind h) fun Z Z h => h)
theorem wB_nil {k : Bool} {Q : Bool → MH → Prop} (h : Q k H) : (mBool P C true k [] ρ H).wp Q E := h
theorem wB_and {e : CE} {es : List CE} {Q : Bool → MH → Prop} (h : (mE P C true e ρ H).wp (fun v H => tv v ((mBool P C true true es ρ H).wp Q E) (Q false H)) E) : (mBool P C true true (e :: es) ρ H).wp Q E := by
 exact R.wp_bind (R.wp_mono h (fun v H h => tv_toB h) fun Z Z h => h)
theorem wB_or {e : CE} {es : List CE} {Q : Bool → MH → Prop} (h : (mE P C true e ρ H).wp (fun v H => tv v (Q true H) ((mBool P C true false es ρ H).wp Q E)) E) : (mBool P C true false (e :: es) ρ H).wp Q E := by
 exact R.wp_bind (R.wp_mono h (fun v H h => tv_toB h) fun Z Z h => h)
theorem wC_one {x : MV} {op : COp} {b : CE} {Q : Bool → MH → Prop} (h : (mE P C true b ρ H).wp (fun y H => ∃ c, mComp H op x y = some c ∧ Q c H) E) : (mChain P C true x [op] [b] ρ H).wp Q E := by
 exact R.wp_bind (R.wp_mono h (fun v H h => h.elim fun c q => wp_opt0 q.1 q.2) fun Z Z h => h)
variable {C : Bool → Orc} {QS : MFlow → Loc → MH → Prop}
theorem wS_expr {e : CE} (h : (mE P (C true) true e ρ H).wp (fun Z H => QS .next ρ H) E) : (mS P C N (.expr e) true ρ H).wp QS E := by
 exact R.wp_then h
theorem wS_asg {x : Nat} {e : CE} (h : (mE P (C true) true e ρ H).wp (fun v H => QS .next (upd ρ x v) H) E) : (mS P C N (.asg x e) true ρ H).wp QS E := by
 exact R.wp_then h
theorem wS_asgT {xs : List Nat} {e : CE} (h : (mE P (C true) true e ρ H).wp (fun v H => ∃ ρ', bindT ρ xs true v = some ρ' ∧ QS .next ρ' H) E) : (mS P C N (.asgT xs e) true ρ H).wp QS E := by
 exact R.wp_then (R.wp_mono h (fun v H h => h.elim fun ρ' q => wp_optT q.1 q.2) fun Z Z h => h)
theorem wS_setA {o e : CE} {k : Nat} (h : (mE P (C true) true e ρ H).wp (fun v H => (mE P (C true) true o ρ H).wp (fun x H => ∃ H', mSetA P H x k v = some H' ∧ QS .next ρ H') E) E) : (mS P C N (.setA o k e) true ρ H).wp QS E := by
 exact R.wp_then (R.wp_mono h (fun v H h => R.wp_then (R.wp_mono h (fun x H h => h.elim fun H' q => wp_optT q.1 q.2) fun Z Z h => h)) fun Z Z h => h)
theorem wS_setI {o i e : CE} (h : (mE P (C true) true e ρ H).wp (fun v H => (mE P (C true) true o ρ H).wp (fun x H => (mE P (C true) true i ρ H).wp (fun k H => ∃ H', mSetI H x k v = some H' ∧ QS .next ρ H') E) E) E) : (mS P C N (.setI o i e) true ρ H).wp QS E := by
 exact R.wp_then (R.wp_mono h (fun v H h => R.wp_then (R.wp_mono h (fun x H h => R.wp_then (R.wp_mono h (fun k H h => h.elim fun H' q => wp_optT q.1 q.2) fun Z Z h => h)) fun Z Z h => h)) fun Z Z h => h)
theorem wS_augI {o i e : CE} {op : BOp} (h : (mE P (C true) true o ρ H).wp (fun x H => (mE P (C true) true i ρ H).wp (fun k H => (mSub H x k).wp (fun a H => (mE P (C true) true e ρ H).wp (fun b H =>
     ∃ i j, a = .int i ∧ b = .int j ∧ (mBin H op a b).wp (fun v H => ∃ H', mSetI H x k v = some H' ∧ QS .next ρ H') E) E) E) E) E) : (mS P C N (.augI o i op e) true ρ H).wp QS E := by
 refine R.wp_then (R.wp_mono h (fun x H h => R.wp_then (R.wp_mono h (fun k H h => R.wp_then (R.wp_mono h (fun a H h => R.wp_then (R.wp_mono h (fun b H h => ?_) fun Z Z h => h)) fun Z Z h => h)) fun Z Z h => h)) fun Z Z h => h)
 obtain ⟨i, j, rfl, rfl, h⟩ := h
 exact R.wp_then (R.wp_mono h (fun v H h => h.elim fun H' q => wp_optT q.1 q.2) fun Z Z h => h)
theorem wS_ifs {t : CE} {b o : List CS} (h : (mE P (C true) true t ρ H).wp (fun v H => tv v ((mSs P C N b true ρ H).wp QS E) ((mSs P C N o true ρ H).wp QS E)) E) : (mS P C N (.ifs t b o) true ρ H).wp QS E := by
 exact R.wp_then (R.wp_mono h (fun v H h => tv_toBT h) fun Z Z h => h)
theorem wS_ret {e : CE} (h : (mE P (C true) true e ρ H).wp (fun v H => QS (.ret v) ρ H) E) : (mS P C N (.ret e) true ρ H).wp QS E := by
 exact R.wp_then h
theorem wS_raise {a b c : CE} (h : (mE P (C true) true a ρ H).wp (fun x H => (mE P (C true) true b ρ H).wp (fun y H => (mE P (C true) true c ρ H).wp (fun z H => E ⟨x, y, z⟩ H) E) E) E) : (mS P C N (.raise a b c) true ρ H).wp QS E := by
 exact R.wp_then (R.wp_bind (R.wp_mono h (fun x H h => R.wp_bind (R.wp_bind (R.wp_mono h (fun y H h => R.wp_bind (R.wp_bind (R.wp_mono h (fun z H h => h) fun Z Z h => h))) fun Z Z h => h))) fun Z Z h => h))
theorem wSs_cons {s : CS} {ss : List CS} (h : (mS P C N s true ρ H).wp (fun f ρ H => match f with | .next => (mSs P C N ss true ρ H).wp QS E | f => QS f ρ H) E) : (mSs P C N (s :: ss) true ρ H).wp QS E := RS.wp_seq h
theorem wS_for {xs : List Nat} {uq : Bool} {k : IK} {src : List CE} {b : List CS} (h : (mEs P (C true) true src ρ H).wp (fun vs H => ∃ sr, mSrc H k vs = some sr ∧ (forR N xs uq (fun ρ H => mSs P C N b true ρ H) sr ρ H).wp QS E) E) : (mS P C N (.for xs uq k src b) true ρ H).wp QS E := by
 exact R.wp_then (R.wp_mono h (fun v H h => h.elim fun sr q => wp_optT q.1 q.2) fun Z Z h => h)
theorem w_forS {xs : List Nat} {uq : Bool} {b : Loc → MH → RS} (I : List MV → Loc → MH → Prop) (step : ∀ v vs ρ H, I (v :: vs) ρ H → ∃ ρ', bindT ρ xs uq v = some ρ' ∧ (b ρ' H).wp (fun f ρ H => match f with | .ret v => QS (.ret v) ρ H | _ => I vs ρ H) E)
   (fin : ∀ ρ H, I [] ρ H → QS .next ρ H) {l : List MV} : ∀ {ρ : Loc} {H : MH}, I l ρ H → (forS xs uq b l ρ H).wp QS E := by
 induction l with
 | nil => intro ρ H i; exact fin _ _ i
 | cons v vs ih =>
   intro ρ H i
   obtain ⟨ρ', e, w⟩ := step v vs ρ H i
   refine wp_optT e (RS.wp_seq (RS.wp_mono w (fun f ρ H h => ?_) fun Z Z h => h))
   cases f with
   | ret v => exact h
   | next => exact ih h
theorem lst_eq {i : Nat} {fz : Bool} {l : List MV} (h : H[i]? = some (.list fz l)) : H[i]?.bind MObj.list? = some l := by rw [h]; rfl
theorem lsw_eq {i : Nat} {l : List MV} (h : H[i]? = some (.list false l)) : H[i]?.bind MObj.listW? = some l := by rw [h]; rfl
theorem dcw_eq {i : Nat} {l : List (MV × MV)} (h : H[i]? = some (.dict false l)) : H[i]?.bind MObj.dictW? = some l := by rw [h]; rfl
theorem ins_eq {i c d : Nat} (h : H[i]? = some (.inst c d)) : H[i]?.bind MObj.inst? = some (c, d) := by rw [h]; rfl
theorem bind_eq {α β : Type} {o : Option α} {a : α} {f : α → Option β} {b : β} (h : o = some a) (k : f a = some b) : o.bind f = some b := by rw [h]; exact k
theorem map_eq {α β : Type} {o : Option α} {a : α} {f : α → β} {b : β} (h : o = some a) (k : f a = b) : o.map f = some b := by rw [h, ← k]; rfl
theorem w_forI {xs : List Nat} {uq en : Bool} {b : Loc → MH → RS} {i : Nat} {l : List MV} (I : Nat → Loc → MH → Prop) (hl : ∀ j ρ H, I j ρ H → ∃ fz, H[i]? = some (.list fz l))
   (step : ∀ j v ρ H, l[j]? = some v → I j ρ H → ∃ ρ', bindT ρ xs uq (if en then .tup [.int j, v] else v) = some ρ' ∧ (b ρ' H).wp (fun f ρ H => match f with | .ret v => QS (.ret v) ρ H | _ => I (j + 1) ρ H) E)
   (fin : ∀ ρ H, I l.length ρ H → QS .next ρ H) {n : Nat} : ∀ {j : Nat} {ρ : Loc} {H : MH}, I j ρ H → j ≤ l.length → l.length < n + j → (forI xs uq b en i n j ρ H).wp QS E := by
 induction n with
 | zero => intro j ρ H i h1 h2; exact absurd (Nat.lt_of_lt_of_le h2 (Nat.le_of_eq (Nat.zero_add j))) (Nat.not_lt.mpr h1)
 | succ n ih =>
   intro j ρ H iv h1 h2
   obtain ⟨fz, e⟩ := hl j ρ H iv
   refine wp_optT (lst_eq e) ?_
   cases q : l[j]? with
   | none =>
     cases Nat.le_antisymm h1 (List.getElem?_eq_none_iff.mp q)
     exact fin _ _ iv
   | some v =>
     obtain ⟨ρ', e, w⟩ := step j v ρ H q iv
     refine wp_optT e (RS.wp_seq (RS.wp_mono w (fun f ρ H h => ?_) fun Z Z h => h))
     cases f with
     | ret v => exact h
     | next => exact ih h (List.getElem?_eq_some_iff.mp q).1 (by rw [Nat.add_right_comm, ← Nat.add_assoc] at *; exact h2)
theorem wS_whl {t : CE} {b : List CS} (I : Nat → Loc → MH → Prop)
   (step : ∀ n ρ H, I n ρ H → (mE P (C true) true t ρ H).wp (fun v H => tv v ((mSs P C N b true ρ H).wp (fun f ρ H => match f with | .ret v => QS (.ret v) ρ H | _ => ∃ m, m < n ∧ I m ρ H) E) (QS .next ρ H)) E) {n : Nat} (hn : n < N) (i : I n ρ H) :
   (mS P C N (.whl t b) true ρ H).wp QS E := by
 have key : ∀ k n ρ H, n < k → I n ρ H → (whlR (fun ρ H => (mE P (C true) true t ρ H).bind toB) (fun ρ H => mSs P C N b true ρ H) k ρ H).wp QS E := by
   intro k
   induction k with
   | zero => intro n ρ H h; lia
   | succ k ih =>
     intro n ρ H h i
     refine R.wp_then (R.wp_bind (R.wp_mono (step n ρ H i) (fun v H w => ?_) fun Z Z h => h))
     cases v with
     | bool c => cases c with
       | false => exact w
       | true =>
         refine RS.wp_seq (RS.wp_mono w (fun f ρ H h => ?_) fun Z Z h => h)
         cases f with
         | ret v => exact h
         | next => obtain ⟨m, hm, i⟩ := h; exact ih m _ _ (Nat.lt_of_lt_of_le hm (Nat.le_of_lt_succ ‹_›)) i
     | _ => exact w.elim
 exact key N n ρ H hn i
end
section
variable {P : Code} {F : Nat → Option Fn} {C : Orc} {N d : Nat} {H : MH} {Q : MV → MH → Prop} {E : MExc → MH → Prop}
theorem w_call {f : Nat} {fn : Fn} {args : List MV} {ρ : Loc} (hF : F f = some fn) (hu : upds (fun Z => none) fn.params args = some ρ)
   (h : (mSs P (mCall P F N d) N fn.body true ρ H).wp (fun fl Z H => match fl with | .ret v => Q v H | .next => Q .none H) E) : (mCall P F N (d + 1) true f args H).wp Q E := by
 refine wp_opt hF (wp_opt hu ?_)
 revert h
 cases mSs P (mCall P F N d) N fn.body true ρ H with
 | bad => exact fun h => h
 | exc => exact fun h => h
 | ok f ρ'' H'' => cases f <;> exact fun h => h
theorem w_attr {i c dd k : Nat} {es : List (MV × MV)} {v : MV} (h1 : H[i]? = some (.inst c dd)) (h2 : H[dd]? = some (.dict false es)) (h3 : P.meth c k = none) (h5 : dGet (.str k) es = some v) (q : Q v H) : (mAttr P H (.ref i) k).wp Q E :=
 wp_opt0 (bind_eq (ins_eq h1) (bind_eq (dcw_eq h2) ((if_pos h3).trans h5))) q
theorem w_kindF {i c dd k f n : Nat} {es : List (MV × MV)} (h1 : H[i]? = some (.inst c dd)) (h2 : H[dd]? = some (.dict false es)) (h3 : P.meth c k = some f) (h5 : dGet (.str k) es = none) (h6 : c ≠ P.excC) : mKind P H (.ref i) k n = some (.fn f) :=
 bind_eq h1 (bind_eq (dcw_eq h2) ((if_pos ⟨h6, h5⟩).trans (map_eq h3 rfl)))
theorem w_kindL {i k n : Nat} {l : List MV} {m : LM} (h1 : H[i]? = some (.list false l)) (h3 : P.lm k = some m) (hn : Nat.ble n 1 = true := by rfl) : mKind P H (.ref i) k n = some (.lm m i) :=
 bind_eq h1 ((if_pos (nle hn)).trans (map_eq h3 rfl))
theorem w_append {i : Nat} {l : List MV} {v : MV} (h1 : H[i]? = some (.list false l)) (hs : l.length < sizeL) (q : Q .none (H.set i (.list false (l ++ [v])))) : (mMeth C (.lm .append i) (.ref i) [v] H).wp Q E := by
 refine wp_opt (lsw_eq h1) ?_
 show R.wp (if _ then _ else _) Q E
 rw [if_pos hs]; exact q
theorem w_pop {i : Nat} {l : List MV} {v : MV} (h1 : H[i]? = some (.list false l)) (hl : l.getLast? = some v) (q : Q v (H.set i (.list false l.dropLast))) : (mMeth C (.lm .pop i) (.ref i) [] H).wp Q E :=
 wp_opt (lsw_eq h1) (wp_opt hl q)
theorem w_extend {i : Nat} {l m : List MV} {v : MV} (h1 : H[i]? = some (.list false l)) (hm : seqOf H v = some m) (hs : l.length + m.length ≤ sizeL) (q : Q .none (H.set i (.list false (l ++ m)))) : (mMeth C (.lm .extend i) (.ref i) [v] H).wp Q E := by
 refine wp_opt (lsw_eq h1) (wp_opt hm ?_)
 show R.wp (if _ then _ else _) Q E
 rw [if_pos hs]; exact q
theorem w_reverse {i : Nat} {l : List MV} (h1 : H[i]? = some (.list false l)) (q : Q .none (H.set i (.list false l.reverse))) : (mMeth C (.lm .reverse i) (.ref i) [] H).wp Q E := wp_opt (lsw_eq h1) q
theorem w_subT {l : List MV} {k : Int} {j : Nat} {v : MV} (h1 : idx k l.length = some j) (h2 : l[j]? = some v) (q : Q v H) : (mSub H (.tup l) (.int k)).wp Q E := wp_opt0 (bind_eq h1 h2) q
theorem w_subL {i : Nat} {fz : Bool} {l : List MV} {k : Int} {j : Nat} {v : MV} (h0 : H[i]? = some (.list fz l)) (h1 : idx k l.length = some j) (h2 : l[j]? = some v) (q : Q v H) : (mSub H (.ref i) (.int k)).wp Q E := wp_opt0 (bind_eq (lst_eq h0) (bind_eq h1 h2)) q
theorem w_subD {i k : Nat} {es : List (MV × MV)} {v : MV} (h0 : H[i]? = some (.dict false es)) (h2 : dGet (.str k) es = some v) (q : Q v H) : (mSub H (.ref i) (.str k)).wp Q E := wp_opt0 (bind_eq (dcw_eq h0) h2) q
theorem w_newList {vs : List MV} (h : vs.length ≤ sizeL) (q : Q (.ref H.length) (H ++ [.list false vs])) : (newList vs H).wp Q E := by
 unfold newList
 rw [if_pos h]; exact q
theorem w_newTup {vs : List MV} (h : vs.length ≤ sizeL) (q : Q (.tup vs) H) : (newTup vs H).wp Q E := by
 unfold newTup
 rw [if_pos h]; exact q
theorem seqL {i : Nat} {fz : Bool} {l : List MV} (h : H[i]? = some (.list fz l)) : seqOf H (.ref i) = some l := lst_eq h
theorem setA {i c dd k : Nat} {es : List (MV × MV)} {v : MV} (h1 : H[i]? = some (.inst c dd)) (h2 : H[dd]? = some (.dict false es)) (h3 : P.meth c k = none) (h6 : c ≠ P.excC) (h7 : es.length < 900) :
   mSetA P H (.ref i) k v = some (H.set dd (.dict false (dSet (.str k) v es))) := bind_eq (ins_eq h1) (bind_eq (dcw_eq h2) (if_pos ⟨⟨h3, h6⟩, h7⟩))
theorem w_add2 {a b : Int} (q : Q (.int (a + b)) H) : (mBin H .add (.int a) (.int b)).wp Q E := q
theorem w_mod2 {a b : Int} (h : 0 < b ∧ b < 1000000000) (q : Q (.int (a % b)) H) : (mBin H .fmod (.int a) (.int b)).wp Q E := by
 show R.wp (if _ then _ else _) Q E
 rw [if_pos h]; exact q
noncomputable def il (l : List Int) : List MV := l.map .int
theorem cmp_gt {a b : Int} : mComp H .gt (.int a) (.int b) = some (decide (a > b)) := rfl
theorem cmp_eq {a b : Int} : mComp H .eq (.int a) (.int b) = some (decide (a = b)) := rfl
theorem cmp_ne {a b : Int} : mComp H .ne (.int a) (.int b) = some (!decide (a = b)) := rfl
theorem prims_is (l : List Int) : (il l).all prim = true := by
 induction l with
 | nil => rfl
 | cons a l ih => exact ih
theorem primsEq_is (a : List Int) : ∀ b : List Int, primsEq (il a) (il b) = decide (a = b) := by
 induction a with
 | nil => intro b; cases b <;> rfl
 | cons a as ih =>
   intro b
   cases b with
   | nil => rfl
   | cons b bs =>
     show ((a == b) && primsEq (il as) (il bs)) = _
     rw [ih bs]
     by_cases h1 : a = b <;> by_cases h2 : as = bs <;> simp [h1, h2]
theorem view_T {l : List Int} : view H (.tup (il l)) = some (.t (il l)) := if_pos (prims_is l)
theorem cmp_eqT {a b : List Int} : mComp H .eq (.tup (il a)) (.tup (il b)) = some (decide (a = b)) := bind_eq view_T (map_eq view_T (primsEq_is a b))
theorem cmp_neT {a b : List Int} : mComp H .ne (.tup (il a)) (.tup (il b)) = some (!decide (a = b)) := map_eq (cmp_eqT (a := a) (b := b)) rfl
theorem cmp_isN : mComp H .is .none .none = some true := rfl
theorem cmp_isT {l : List MV} : mComp H .is (.tup l) .none = some false := rfl
theorem views_il (l : List Int) : views H (il l) = some (l.map fun i => Vw.p (.int i)) := by
 induction l with
 | nil => rfl
 | cons a l ih => exact map_eq ih rfl
theorem cmp_inT {a : Int} {l : List Int} : mComp H .isin (.int a) (.tup (il l)) = some (decide (a ∈ l)) := by
 refine map_eq (views_il l) ?_
 rw [List.any_map]
 have : ∀ m : List Int, (m.any fun i => vwEq (.p (.int i)) (.p (.int a))) = decide (a ∈ m) := fun m => by
   induction m with
   | nil => rfl
   | cons b m ih =>
     rw [List.any_cons, ih]
     show ((b == a) || decide (a ∈ m)) = _
     by_cases h1 : b = a
     · simp [h1]
     · have : ¬ a = b := fun q => h1 q.symm
       simp [h1, this]
 exact this l
end
end
section
/-! walks through bodies: what is left to do (Wc), an expression that may do something (Ee), a plain value (Ev) -/
abbrev Qc (Q : MV → MH → Prop) : MFlow → Loc → MH → Prop := fun fl Z H => match fl with | .ret v => Q v H | .next => Q .none H
abbrev Ql (QS : MFlow → Loc → MH → Prop) (J : Loc → MH → Prop) : MFlow → Loc → MH → Prop := fun f ρ H => match f with | .ret v => QS (.ret v) ρ H | _ => J ρ H
noncomputable def Wc (N d : Nat) (QS : MFlow → Loc → MH → Prop) (E : MExc → MH → Prop) (ss : List CS) (ρ : Loc) (H : MH) : Prop := (mSs tb.P (mCall tb.P FF N d) N ss true ρ H).wp QS E
noncomputable def Ee (N d : Nat) (E : MExc → MH → Prop) (ρ : Loc) (H : MH) (e : CE) (Q : MV → MH → Prop) : Prop := (mE tb.P (mCall tb.P FF N d true) true e ρ H).wp Q E
noncomputable def Ev (N d : Nat) (ρ : Loc) (H : MH) (e : CE) (v : MV) : Prop := mE tb.P (mCall tb.P FF N d true) true e ρ H = .ok v H
noncomputable def Evs (N d : Nat) (ρ : Loc) (H : MH) (es : List CE) (vs : List MV) : Prop := mEs tb.P (mCall tb.P FF N d true) true es ρ H = .ok vs H
section
variable {N d : Nat} {QS : MFlow → Loc → MH → Prop} {E : MExc → MH → Prop} {ρ : Loc} {H : MH} {ss : List CS}
theorem W_call {Q : MV → MH → Prop} {f : Nat} {fn : Fn} {args : List MV} (hF : FF f = some fn) (hu : upds (fun Z => none) fn.params args = some ρ)
   (h : Wc N d (Qc Q) E fn.body ρ H) : (mCall tb.P FF N (d + 1) true f args H).wp Q E := w_call hF hu h
theorem mSs_app {P : Code} {C : Bool → Orc} {b : List CS} : ∀ {ρ : Loc} {H : MH}, (mSs P C N (b ++ ss) true ρ H).wp QS E →
   (mSs P C N b true ρ H).wp (fun f ρ H => match f with | .next => (mSs P C N ss true ρ H).wp QS E | f => QS f ρ H) E := by
 induction b with
 | nil => exact fun h => h
 | cons s b ih =>
   intro ρ H h
   refine RS.wp_seq ?_
   revert h
   show ((mS P C N s true ρ H).seq fun ρ H => mSs P C N (b ++ ss) true ρ H).wp QS E → _
   cases mS P C N s true ρ H with
   | bad => exact fun h => h
   | exc => exact fun h => h
   | ok f ρ' H' => cases f with
     | next => exact ih
     | ret v => exact fun h => h
theorem rb {α β : Type} {r : R α} {a : α} {f : α → MH → R β} {q : R β} (h : r = .ok a H) (k : f a H = q) : r.bind f = q := by rw [h]; exact k
theorem rw1 {α : Type} {r : R α} {a : α} {Q : α → MH → Prop} {E : MExc → MH → Prop} (h : r = .ok a H) (k : Q a H) : r.wp Q E := by rw [h]; exact k
theorem R.wp_new {P : Code} {C : Orc} {c f : Nat} {vs : List MV} {Q : MV → MH → Prop} (hc : c ≠ P.excC) (hf : P.init c = some f) (h : (C f (.ref (H.length + 1) :: vs) (H ++ [.dict false [], .inst c H.length])).wp (fun v H' => v = .none ∧ Q (.ref (H.length + 1)) H') E) : (mNew P C c vs H).wp Q E := by
 unfold mNew
 rw [if_neg hc]
 refine wp_opt hf (R.wp_bind (R.wp_mono h (fun v H' q => ?_) fun Z Z h => h))
 obtain ⟨rfl, q⟩ := q
 exact q
theorem optR_eq {α : Type} {o : Option α} {a : α} (h : o = some a) : optR H o = .ok a H := by rw [h]; rfl
theorem Ee.v {e : CE} {v : MV} {Q : MV → MH → Prop} (hv : Ev N d ρ H e v) (h : Q v H) : Ee N d E ρ H e Q := rw1 hv h
theorem Wc.nil (h : QS .next ρ H) : Wc N d QS E [] ρ H := h
theorem Wc.expr {e : CE} (h : Ee N d E ρ H e fun Z H => Wc N d QS E ss ρ H) : Wc N d QS E (.expr e :: ss) ρ H := wSs_cons (wS_expr h)
theorem Wc.asg {x : Nat} {e : CE} (h : Ee N d E ρ H e fun v H => Wc N d QS E ss (upd ρ x v) H) : Wc N d QS E (.asg x e :: ss) ρ H := wSs_cons (wS_asg h)
theorem Wc.asgv {x : Nat} {e : CE} {v : MV} (hv : Ev N d ρ H e v) (h : Wc N d QS E ss (upd ρ x v) H) : Wc N d QS E (.asg x e :: ss) ρ H := Wc.asg (Ee.v hv h)
theorem Wc.asgT {xs : List Nat} {e : CE} (h : Ee N d E ρ H e fun v H => ∃ ρ', bindT ρ xs true v = some ρ' ∧ Wc N d QS E ss ρ' H) : Wc N d QS E (.asgT xs e :: ss) ρ H := wSs_cons (wS_asgT h)
theorem Wc.asgTv {xs : List Nat} {e : CE} {v : MV} {ρ' : Loc} (hv : Ev N d ρ H e v) (hb : bindT ρ xs true v = some ρ') (h : Wc N d QS E ss ρ' H) : Wc N d QS E (.asgT xs e :: ss) ρ H := Wc.asgT (Ee.v hv ⟨_, hb, h⟩)
theorem Wc.ret {e : CE} (h : Ee N d E ρ H e fun v H => QS (.ret v) ρ H) : Wc N d QS E (.ret e :: ss) ρ H := wSs_cons (wS_ret h)
theorem Wc.retv {e : CE} {v : MV} (hv : Ev N d ρ H e v) (h : QS (.ret v) ρ H) : Wc N d QS E (.ret e :: ss) ρ H := Wc.ret (Ee.v hv h)
theorem Wc.setA {o e : CE} {k : Nat} {v x : MV} {H' : MH} (hv : Ev N d ρ H e v) (ho : Ev N d ρ H o x) (hs : mSetA tb.P H x k v = some H') (h : Wc N d QS E ss ρ H') : Wc N d QS E (.setA o k e :: ss) ρ H :=
 wSs_cons (wS_setA (rw1 hv (rw1 ho ⟨_, hs, h⟩)))
theorem Wc.setI {o i e : CE} {v x k : MV} {H' : MH} (hv : Ev N d ρ H e v) (ho : Ev N d ρ H o x) (hi : Ev N d ρ H i k) (hs : mSetI H x k v = some H') (h : Wc N d QS E ss ρ H') : Wc N d QS E (.setI o i e :: ss) ρ H :=
 wSs_cons (wS_setI (rw1 hv (rw1 ho (rw1 hi ⟨_, hs, h⟩))))
theorem Wc.augI {o i e : CE} {op : BOp} {x k : MV} {a b : Int} {v : MV} {H' : MH} (ho : Ev N d ρ H o x) (hi : Ev N d ρ H i k) (ha : mSub H x k = .ok (.int a) H) (hb : Ev N d ρ H e (.int b)) (hv : mBin H op (.int a) (.int b) = .ok v H) (hs : mSetI H x k v = some H') (h : Wc N d QS E ss ρ H') :
   Wc N d QS E (.augI o i op e :: ss) ρ H :=
 wSs_cons (wS_augI (rw1 ho (rw1 hi (rw1 ha (rw1 hb ⟨_, _, rfl, rfl, rw1 hv ⟨_, hs, h⟩⟩)))))
theorem Wc.raise {a b c : CE} {x y z : MV} (ha : Ev N d ρ H a x) (hb : Ev N d ρ H b y) (hc : Ev N d ρ H c z) (h : E ⟨x, y, z⟩ H) : Wc N d QS E (.raise a b c :: ss) ρ H :=
 wSs_cons (wS_raise (rw1 ha (rw1 hb (rw1 hc h))))
theorem Wc.ifs {t : CE} {b o : List CS} (h : Ee N d E ρ H t fun v H => tv v (Wc N d QS E (b ++ ss) ρ H) (Wc N d QS E (o ++ ss) ρ H)) : Wc N d QS E (.ifs t b o :: ss) ρ H :=
 wSs_cons (wS_ifs (R.wp_mono h (fun v H h => match v, h with
   | .bool true, h => mSs_app h
   | .bool false, h => mSs_app h) fun Z Z h => h))
theorem Wc.ifb {t : CE} {b o : List CS} {k : Bool} (hv : Ev N d ρ H t (.bool k)) (h1 : k = true → Wc N d QS E (b ++ ss) ρ H) (h2 : k = false → Wc N d QS E (o ++ ss) ρ H) : Wc N d QS E (.ifs t b o :: ss) ρ H :=
 Wc.ifs (Ee.v hv (tv_bool h1 h2))
theorem Wc.ifd {t : CE} {b o : List CS} {p : Prop} {i : Decidable p} (hv : Ev N d ρ H t (.bool (decide p))) (h1 : p → Wc N d QS E (b ++ ss) ρ H) (h2 : ¬ p → Wc N d QS E (o ++ ss) ρ H) : Wc N d QS E (.ifs t b o :: ss) ρ H :=
 Wc.ifb hv (fun h => h1 (of_decide_eq_true h)) fun h => h2 (of_decide_eq_false h)
theorem Wc.forS {xs : List Nat} {uq : Bool} {k : IK} {src : List CE} {b : List CS} {vs l : List MV} (ha : Evs N d ρ H src vs) (hs : mSrc H k vs = some (.seq l)) (I : List MV → Loc → MH → Prop)
   (step : ∀ v vs ρ H, I (v :: vs) ρ H → ∃ ρ', bindT ρ xs uq v = some ρ' ∧ Wc N d (Ql QS (I vs)) E b ρ' H) (fin : ∀ ρ H, I [] ρ H → Wc N d QS E ss ρ H) (i : I l ρ H) : Wc N d QS E (.for xs uq k src b :: ss) ρ H :=
 wSs_cons (wS_for (rw1 ha ⟨_, hs, w_forS (QS := fun f ρ H => match f with | .next => Wc N d QS E ss ρ H | f => QS f ρ H) I step fin i⟩))
theorem Wc.forI {xs : List Nat} {uq : Bool} {k : IK} {src : List CE} {b : List CS} {vs l : List MV} {i : Nat} (ha : Evs N d ρ H src vs) (hs : mSrc H k vs = some (.lst i)) (I : Nat → Loc → MH → Prop) (hl : ∀ j ρ H, I j ρ H → ∃ fz, H[i]? = some (.list fz l))
   (step : ∀ j v ρ H, l[j]? = some v → I j ρ H → ∃ ρ', bindT ρ xs uq v = some ρ' ∧ Wc N d (Ql QS (I (j + 1))) E b ρ' H) (fin : ∀ ρ H, I l.length ρ H → Wc N d QS E ss ρ H) (h0 : I 0 ρ H) (hn : l.length < N) : Wc N d QS E (.for xs uq k src b :: ss) ρ H :=
 wSs_cons (wS_for (rw1 ha ⟨_, hs, w_forI (QS := fun f ρ H => match f with | .next => Wc N d QS E ss ρ H | f => QS f ρ H) (en := false) I hl step fin h0 (Nat.zero_le _) hn⟩))
theorem Wc.forE {xs : List Nat} {k : IK} {src : List CE} {b : List CS} {vs l : List MV} {i : Nat} (ha : Evs N d ρ H src vs) (hs : mSrc H k vs = some (.enl i)) (I : Nat → Loc → MH → Prop) (hl : ∀ j ρ H, I j ρ H → ∃ fz, H[i]? = some (.list fz l))
   (step : ∀ j v ρ H, l[j]? = some v → I j ρ H → ∃ ρ', bindT ρ xs true (.tup [.int j, v]) = some ρ' ∧ Wc N d (Ql QS (I (j + 1))) E b ρ' H) (fin : ∀ ρ H, I l.length ρ H → Wc N d QS E ss ρ H) (h0 : I 0 ρ H) (hn : l.length < N) : Wc N d QS E (.for xs true k src b :: ss) ρ H :=
 wSs_cons (wS_for (rw1 ha ⟨_, hs, w_forI (QS := fun f ρ H => match f with | .next => Wc N d QS E ss ρ H | f => QS f ρ H) (en := true) I hl step fin h0 (Nat.zero_le _) hn⟩))
theorem Wc.whl {t : CE} {b : List CS} (I : Nat → Loc → MH → Prop) (step : ∀ n ρ H, I n ρ H → Ee N d E ρ H t fun v H => tv v (Wc N d (Ql QS fun ρ H => ∃ m, m < n ∧ I m ρ H) E b ρ H) (Wc N d QS E ss ρ H)) {n : Nat} (hn : n < N) (i : I n ρ H) :
   Wc N d QS E (.whl t b :: ss) ρ H := wSs_cons (wS_whl I step hn i)
theorem Ee.callM {o : CE} {k : Nat} {es : List CE} {v : MV} {vs : List MV} {m : MK} {Q : MV → MH → Prop} (ho : Ev N d ρ H o v) (hk : mKind tb.P H v k es.length = some m) (ha : Evs N d ρ H es vs) (h : (mMeth (mCall tb.P FF N d true) m v vs H).wp Q E) : Ee N d E ρ H (.callM o k es) Q :=
 wE_callM (rw1 ho ⟨m, hk, rw1 ha h⟩)
theorem Ee.callF {f : Nat} {es : List CE} {vs : List MV} {Q : MV → MH → Prop} (ha : Evs N d ρ H es vs) (h : (mCall tb.P FF N d true f vs H).wp Q E) : Ee N d E ρ H (.callF f es) Q :=
 wE_callF (rw1 ha h)
theorem idx_nat {j n : Nat} (h : j < n) : idx (j : Int) n = some j := (if_pos (Int.natCast_nonneg j)).trans ((if_pos (Int.ofNat_lt.mpr h)).trans rfl)
theorem idx_last {n : Nat} : idx (-1) (n + 1) = some n := by
 unfold idx
 rw [if_neg (by decide), show (-1 + ((n + 1 : Nat) : Int)) = n by lia, if_pos (Int.natCast_nonneg n)]; rfl
theorem idx_last2 {n : Nat} : idx (-2) (n + 2) = some n := by
 unfold idx
 rw [if_neg (by decide), show (-2 + ((n + 2 : Nat) : Int)) = n by lia, if_pos (Int.natCast_nonneg n)]; rfl
theorem idx_lst {n : Nat} (h : n ≠ 0) : idx (-1) n = some (n - 1) := by
 cases n with
 | zero => exact absurd rfl h
 | succ n => exact idx_last
theorem pos_ne {α : Type} {l : List α} {n : Nat} (h : n < l.length) : l ≠ [] := List.ne_nil_of_length_pos (Nat.lt_of_le_of_lt (Nat.zero_le _) h)
theorem Ev.con {v : MV} : Ev N d ρ H (.con v) v := rfl
theorem Ev.loc {x : Nat} {v : MV} (h : ρ x = some v) : Ev N d ρ H (.loc x) v := optR_eq h
theorem Ev.glob {g : Nat} {v : MV} (h : tb.P.glob g = some v) : Ev N d ρ H (.glob g) v := optR_eq h
theorem Ev.attr {o : CE} {k : Nat} {u v : MV} (ho : Ev N d ρ H o u) (h : mAttr tb.P H u k = .ok v H) : Ev N d ρ H (.attr o k) v := rb ho h
theorem Ev.sub {o i : CE} {u k v : MV} (ho : Ev N d ρ H o u) (hi : Ev N d ρ H i k) (h : mSub H u k = .ok v H) : Ev N d ρ H (.sub o i) v := rb ho (rb hi h)
theorem Ev.callB {b : Bi} {a : CE} {u v : MV} (ho : Ev N d ρ H a u) (h : mBi H b u = .ok v H) : Ev N d ρ H (.callB b a) v := rb ho h
theorem Ev.len {a : CE} {u : MV} {l : List MV} (ho : Ev N d ρ H a u) (h : seqOf H u = some l) : Ev N d ρ H (.callB .len a) (.int l.length) := Ev.callB ho (optR_eq (map_eq h rfl))
theorem Ev.bin {op : BOp} {a b : CE} {u w v : MV} (ha : Ev N d ρ H a u) (hb : Ev N d ρ H b w) (h : mBin H op u w = .ok v H) : Ev N d ρ H (.bin op a b) v := rb ha (rb hb h)
theorem Ev.add {a b : CE} {i j : Int} (ha : Ev N d ρ H a (.int i)) (hb : Ev N d ρ H b (.int j)) : Ev N d ρ H (.bin .add a b) (.int (i + j)) := Ev.bin ha hb rfl
theorem Ev.min {a b : CE} {i j : Int} (ha : Ev N d ρ H a (.int i)) (hb : Ev N d ρ H b (.int j)) : Ev N d ρ H (.bin .sub a b) (.int (i - j)) := Ev.bin ha hb rfl
theorem Ev.mul {a b : CE} {i j : Int} (ha : Ev N d ρ H a (.int i)) (hb : Ev N d ρ H b (.int j)) (h : i.natAbs < 1000000000000 ∧ j.natAbs < 1000000000000) : Ev N d ρ H (.bin .mul a b) (.int (i * j)) := Ev.bin ha hb (if_pos h)
theorem Ev.mod {a b : CE} {i j : Int} (ha : Ev N d ρ H a (.int i)) (hb : Ev N d ρ H b (.int j)) (h : 0 < j ∧ j < 1000000000) : Ev N d ρ H (.bin .fmod a b) (.int (i % j)) := Ev.bin ha hb (if_pos h)
theorem Ev.div {a b : CE} {i j : Int} (ha : Ev N d ρ H a (.int i)) (hb : Ev N d ρ H b (.int j)) (h : 0 < j ∧ j < 1000000000) : Ev N d ρ H (.bin .fdiv a b) (.int (i / j)) := Ev.bin ha hb (if_pos h)
theorem Ev.not {a : CE} {k : Bool} (ha : Ev N d ρ H a (.bool k)) : Ev N d ρ H (.not a) (.bool (!k)) := rb ha rfl
theorem Ev.cmp {op : COp} {a b : CE} {u w : MV} {k : Bool} (ha : Ev N d ρ H a u) (hb : Ev N d ρ H b w) (h : mComp H op u w = some k) : Ev N d ρ H (.cmp a [op] [b]) (.bool k) := rb ha (rb (rb hb (optR_eq h)) rfl)
theorem Ev.cmp2 {op op' : COp} {a b b' : CE} {u w w' : MV} {k k' : Bool} (ha : Ev N d ρ H a u) (hb : Ev N d ρ H b w) (h : mComp H op u w = some k) (hb' : Ev N d ρ H b' w') (h' : mComp H op' w w' = some k') : Ev N d ρ H (.cmp a [op, op'] [b, b']) (.bool (k && k')) := by
 refine rb ha (rb (a := k && k') (rb hb (rb (optR_eq h) ?_)) rfl)
 cases k
 · rfl
 · exact rb hb' (optR_eq h')
theorem Ev.and {a b : CE} {k k' : Bool} (ha : Ev N d ρ H a (.bool k)) (hb : k = true → Ev N d ρ H b (.bool k')) : Ev N d ρ H (.bool true [a, b]) (.bool (k && k')) := by
 refine rb (a := k && k') (rb ha (rb rfl ?_)) rfl
 cases k
 · rfl
 · refine rb (hb rfl) (rb rfl ?_)
   cases k' <;> rfl
theorem Ev.or {a b : CE} {k k' : Bool} (ha : Ev N d ρ H a (.bool k)) (hb : k = false → Ev N d ρ H b (.bool k')) : Ev N d ρ H (.bool false [a, b]) (.bool (k || k')) := by
 refine rb (a := k || k') (rb ha (rb rfl ?_)) rfl
 cases k
 · refine rb (hb rfl) (rb rfl ?_)
   cases k' <;> rfl
 · rfl
theorem Ev.iteT {t a b : CE} {v : MV} (ht : Ev N d ρ H t (.bool true)) (ha : Ev N d ρ H a v) : Ev N d ρ H (.ite t a b) v := rb ht ha
theorem Ev.iteF {t a b : CE} {v : MV} (ht : Ev N d ρ H t (.bool false)) (hb : Ev N d ρ H b v) : Ev N d ρ H (.ite t a b) v := rb ht hb
theorem Evs.tup {es : List CE} {vs : List MV} (h : Evs N d ρ H es vs) (hl : vs.length ≤ sizeL) : Ev N d ρ H (.tup es) (.tup vs) := rb h (if_pos hl)
theorem Evs.nil : Evs N d ρ H [] [] := rfl
theorem Evs.cons {e : CE} {es : List CE} {v : MV} {vs : List MV} (h1 : Ev N d ρ H e v) (h2 : Evs N d ρ H es vs) : Evs N d ρ H (e :: es) (v :: vs) := rb h1 (rb h2 rfl)
theorem Evs.one {e : CE} {v : MV} (h1 : Ev N d ρ H e v) : Evs N d ρ H [e] [v] := Evs.cons h1 rfl
theorem evw {r : R MV} {v : MV} (h : r.wp (fun v' H' => v' = v ∧ H' = H) (fun Z Z => False)) : r = .ok v H := by
 cases r with
 | ok => obtain ⟨rfl, rfl⟩ := h; rfl
 | exc => exact h.elim
 | bad => exact h.elim
theorem Ee.callM1 {o : CE} {k : Nat} {e : CE} {v : MV} {m : MK} {Q : MV → MH → Prop} (ho : Ev N d ρ H o v) (hk : mKind tb.P H v k 1 = some m) (h : Ee N d E ρ H e fun x H => (mMeth (mCall tb.P FF N d true) m v [x] H).wp Q E) : Ee N d E ρ H (.callM o k [e]) Q :=
 wE_callM (rw1 ho ⟨m, hk, wEs_cons (R.wp_mono h (fun Z Z h => wEs_nil h) fun Z Z h => h)⟩)
theorem Ee.callC {k : Nat} {es : List CE} {vs : List MV} {Q : MV → MH → Prop} (ha : Evs N d ρ H es vs) (h : (mNew tb.P (mCall tb.P FF N d true) k vs H).wp Q E) : Ee N d E ρ H (.callC k es) Q :=
 wE_callC (rw1 ha h)
theorem Ee.list {es : List CE} {vs : List MV} {Q : MV → MH → Prop} (ha : Evs N d ρ H es vs) (hl : vs.length ≤ sizeL) (h : Q (.ref H.length) (H ++ [.list false vs])) : Ee N d E ρ H (.list es) Q :=
 wE_list (rw1 ha (w_newList hl h))
theorem Ee.tolist {a : CE} {u : MV} {l : List MV} {Q : MV → MH → Prop} (ha : Ev N d ρ H a u) (hs : seqOf H u = some l) (hl : l.length ≤ sizeL) (h : Q (.ref H.length) (H ++ [.list false l])) : Ee N d E ρ H (.callB .list a) Q :=
 wE_callB (rw1 ha (wp_opt hs (w_newList hl h)))
theorem Ee.mono {e : CE} {Q Q' : MV → MH → Prop} (h : Ee N d E ρ H e Q) (k : ∀ v H, Q v H → Q' v H) : Ee N d E ρ H e Q' := R.wp_mono h k fun Z Z h => h
noncomputable def Ed (N d : Nat) (ρ : Loc) (H : MH) (e : CE) (p : Prop) : Prop := (p → Ev N d ρ H e (.bool true)) ∧ (¬ p → Ev N d ρ H e (.bool false))
theorem Ed.of {e : CE} {p : Prop} {i : Decidable p} (h : Ev N d ρ H e (.bool (decide p))) : Ed N d ρ H e p := ⟨fun q => by rw [decide_eq_true q] at h; exact h, fun q => by rw [decide_eq_false q] at h; exact h⟩
theorem Ed.b {e : CE} {k : Bool} (h : Ev N d ρ H e (.bool k)) : Ed N d ρ H e (k = true) := ⟨fun q => q ▸ h, fun q => by cases k; exact h; exact absurd rfl q⟩
theorem Ed.conv {e : CE} {p q : Prop} (h : Ed N d ρ H e p) (k : p ↔ q) : Ed N d ρ H e q := by rw [← propext k]; exact h
theorem Ed.not {e : CE} {p : Prop} (h : Ed N d ρ H e p) : Ed N d ρ H (.not e) (¬ p) := ⟨fun q => Ev.not (h.2 q), fun q => Ev.not (h.1 (Classical.not_not.mp q))⟩
theorem Ed.and {a b : CE} {p q : Prop} (ha : Ed N d ρ H a p) (hb : p → Ed N d ρ H b q) : Ed N d ρ H (.bool true [a, b]) (p ∧ q) :=
 ⟨fun h => Ev.and (ha.1 h.1) fun Z => (hb h.1).1 h.2, fun h => (Classical.em p).elim (fun hp => Ev.and (ha.1 hp) fun Z => (hb hp).2 fun hq => h ⟨hp, hq⟩) fun hp => Ev.and (k' := false) (ha.2 hp) fun e => nomatch e⟩
theorem Ed.or {a b : CE} {p q : Prop} (ha : Ed N d ρ H a p) (hb : ¬ p → Ed N d ρ H b q) : Ed N d ρ H (.bool false [a, b]) (p ∨ q) :=
 ⟨fun h => (Classical.em p).elim (fun hp => Ev.or (k' := false) (ha.1 hp) fun e => nomatch e) fun hp => Ev.or (ha.2 hp) fun Z => (hb hp).1 (h.resolve_left hp), fun h => Ev.or (ha.2 fun hp => h (.inl hp)) fun Z => (hb fun hp => h (.inl hp)).2 fun hq => h (.inr hq)⟩
theorem Ev.and3 {a b c : CE} {k k' k'' : Bool} (ha : Ev N d ρ H a (.bool k)) (hb : k = true → Ev N d ρ H b (.bool k')) (hc : k = true → k' = true → Ev N d ρ H c (.bool k'')) : Ev N d ρ H (.bool true [a, b, c]) (.bool (k && (k' && k''))) := by
 refine rb (a := k && (k' && k'')) (rb ha (rb rfl ?_)) rfl
 cases k
 · rfl
 · refine rb (hb rfl) (rb rfl ?_)
   cases k'
   · rfl
   · refine rb (hc rfl rfl) (rb rfl ?_)
     cases k'' <;> rfl
theorem Ed.and3c {a b c : CE} {p q r : Prop} (ha : Ed N d ρ H a p) (hb : p → Ed N d ρ H b q) (hc : p → q → Ed N d ρ H c r) : Ed N d ρ H (.bool true [a, b, c]) (p ∧ q ∧ r) := by
 by_cases hp : p
 · by_cases hq : q
   · refine ⟨fun h => Ev.and3 (ha.1 hp) (fun Z => (hb hp).1 hq) fun Z Z => (hc hp hq).1 h.2.2, fun h => Ev.and3 (k'' := false) (ha.1 hp) (fun Z => (hb hp).1 hq) fun Z Z => (hc hp hq).2 fun hr => h ⟨hp, hq, hr⟩⟩
   · exact ⟨fun h => absurd h.2.1 hq, fun Z => Ev.and3 (k'' := false) (ha.1 hp) (fun Z => (hb hp).2 hq) fun Z e => nomatch e⟩
 · exact ⟨fun h => absurd h.1 hp, fun Z => Ev.and3 (k' := false) (k'' := false) (ha.2 hp) (fun e => nomatch e) fun e => nomatch e⟩
theorem Ed.and3 {a b c : CE} {p q r : Prop} (ha : Ed N d ρ H a p) (hb : Ed N d ρ H b q) (hc : Ed N d ρ H c r) : Ed N d ρ H (.bool true [a, b, c]) (p ∧ q ∧ r) := Ed.and3c ha (fun Z => hb) fun Z Z => hc
theorem Ed.c {op : COp} {a b : CE} {u w : MV} {p : Prop} {i : Decidable p} (ha : Ev N d ρ H a u) (hb : Ev N d ρ H b w) (h : mComp H op u w = some (decide p)) : Ed N d ρ H (.cmp a [op] [b]) p := .of (Ev.cmp ha hb h)
theorem Ed.lt {a b : CE} {i j : Int} (ha : Ev N d ρ H a (.int i)) (hb : Ev N d ρ H b (.int j)) : Ed N d ρ H (.cmp a [.lt] [b]) (i < j) := .of (Ev.cmp ha hb rfl)
theorem Ed.le {a b : CE} {i j : Int} (ha : Ev N d ρ H a (.int i)) (hb : Ev N d ρ H b (.int j)) : Ed N d ρ H (.cmp a [.le] [b]) (i ≤ j) := .of (Ev.cmp ha hb rfl)
theorem Ed.gt {a b : CE} {i j : Int} (ha : Ev N d ρ H a (.int i)) (hb : Ev N d ρ H b (.int j)) : Ed N d ρ H (.cmp a [.gt] [b]) (j < i) := .of (Ev.cmp ha hb rfl)
theorem Ed.ge {a b : CE} {i j : Int} (ha : Ev N d ρ H a (.int i)) (hb : Ev N d ρ H b (.int j)) : Ed N d ρ H (.cmp a [.ge] [b]) (j ≤ i) := .of (Ev.cmp ha hb rfl)
theorem Ed.eq {a b : CE} {i j : Int} (ha : Ev N d ρ H a (.int i)) (hb : Ev N d ρ H b (.int j)) : Ed N d ρ H (.cmp a [.eq] [b]) (i = j) := .of (Ev.cmp ha hb cmp_eq)
theorem Ed.cne {a b : CE} {u w : MV} {p : Prop} {i : Decidable p} (ha : Ev N d ρ H a u) (hb : Ev N d ρ H b w) (h : mComp H .ne u w = some (!decide p)) : Ed N d ρ H (.cmp a [.ne] [b]) (¬ p) :=
 .of (by rw [decide_not]; exact Ev.cmp ha hb h)
theorem Ed.ne {a b : CE} {i j : Int} (ha : Ev N d ρ H a (.int i)) (hb : Ev N d ρ H b (.int j)) : Ed N d ρ H (.cmp a [.ne] [b]) (i ≠ j) := Ed.cne ha hb cmp_ne
theorem Ed.lele {a b c : CE} {i j k : Int} (ha : Ev N d ρ H a (.int i)) (hb : Ev N d ρ H b (.int j)) (hc : Ev N d ρ H c (.int k)) : Ed N d ρ H (.cmp a [.le, .le] [b, c]) (i ≤ j ∧ j ≤ k) := .of (by rw [Bool.decide_and]; exact Ev.cmp2 ha hb rfl hc rfl)
theorem Ed.lelt {a b c : CE} {i j k : Int} (ha : Ev N d ρ H a (.int i)) (hb : Ev N d ρ H b (.int j)) (hc : Ev N d ρ H c (.int k)) : Ed N d ρ H (.cmp a [.le, .lt] [b, c]) (i ≤ j ∧ j < k) := .of (by rw [Bool.decide_and]; exact Ev.cmp2 ha hb rfl hc rfl)
theorem Ee.dec {e : CE} {p : Prop} {A B : MH → Prop} (hv : Ed N d ρ H e p) (h1 : p → A H) (h2 : ¬ p → B H) : Ee N d E ρ H e fun v H => tv v (A H) (B H) := by
 by_cases q : p
 · exact Ee.v (hv.1 q) (h1 q)
 · exact Ee.v (hv.2 q) (h2 q)
theorem Wc.ifP {t : CE} {b o : List CS} {p : Prop} (hv : Ed N d ρ H t p) (h1 : p → Wc N d QS E (b ++ ss) ρ H) (h2 : ¬ p → Wc N d QS E (o ++ ss) ρ H) : Wc N d QS E (.ifs t b o :: ss) ρ H := by
 by_cases q : p
 · exact Wc.ifs (Ee.v (hv.1 q) (h1 q))
 · exact Wc.ifs (Ee.v (hv.2 q) (h2 q))
theorem Ev.ite {t a b : CE} {p : Prop} [Decidable p] {u v : MV} (ht : Ed N d ρ H t p) (ha : p → Ev N d ρ H a u) (hb : ¬ p → Ev N d ρ H b v) : Ev N d ρ H (.ite t a b) (if p then u else v) := by
 by_cases q : p
 · rw [if_pos q]; exact Ev.iteT (ht.1 q) (ha q)
 · rw [if_neg q]; exact Ev.iteF (ht.2 q) (hb q)
theorem Wc.forL {xs : List Nat} {uq : Bool} {src : List CE} {b : List CS} {i : Nat} {fz : Bool} {l : List MV} (ha : Evs N d ρ H src [.ref i]) (hl : H[i]? = some (.list fz l))
   (h : (forR N xs uq (fun ρ H => mSs tb.P (mCall tb.P FF N d) N b true ρ H) (.lst i) ρ H).wp (fun f ρ H => match f with | .next => Wc N d QS E ss ρ H | f => QS f ρ H) E) : Wc N d QS E (.for xs uq .val src b :: ss) ρ H :=
 wSs_cons (wS_for (rw1 ha ⟨_, map_eq (lst_eq hl) rfl, h⟩))
theorem Wc.forLE {xs : List Nat} {uq : Bool} {e : CE} {b : List CS} (h : Ee N d E ρ H e fun v H => ∃ i fz l, v = .ref i ∧ H[i]? = some (.list fz l) ∧
     (forR N xs uq (fun ρ H => mSs tb.P (mCall tb.P FF N d) N b true ρ H) (.lst i) ρ H).wp (fun f ρ H => match f with | .next => Wc N d QS E ss ρ H | f => QS f ρ H) E) : Wc N d QS E (.for xs uq .val [e] b :: ss) ρ H :=
 wSs_cons (wS_for (wEs_cons (Ee.mono h fun v H h => by obtain ⟨i, fz, l, rfl, hl, h⟩ := h; exact wEs_nil ⟨_, map_eq (lst_eq hl) rfl, h⟩)))
theorem Wc.stg {s : CS} (I : Loc → MH → Prop) (h1 : Wc N d (fun f ρ H => f = .next ∧ I ρ H) E [s] ρ H) (h2 : ∀ ρ' H', I ρ' H' → Wc N d QS E ss ρ' H') : Wc N d QS E (s :: ss) ρ H := by
 revert h1
 show ((mS tb.P (mCall tb.P FF N d) N s true ρ H).seq fun ρ H => mSs tb.P (mCall tb.P FF N d) N [] true ρ H).wp (fun f ρ H => f = .next ∧ I ρ H) E → _
 refine fun h1 => wSs_cons ?_
 revert h1
 cases mS tb.P (mCall tb.P FF N d) N s true ρ H with
 | bad => exact fun h => h
 | exc => exact fun h => h
 | ok f ρ' H' => cases f with
   | next => exact fun h => h2 _ _ h.2
   | ret => exact fun h => nomatch h.1
theorem Wc.forRE {xs : List Nat} {uq : Bool} {e : CE} {b : List CS} (I : List MV → Loc → MH → Prop) (h : Ee N d E ρ H e fun v H => ∃ l, mSrc H .range [v] = some (.seq l) ∧ I l ρ H)
   (step : ∀ v vs ρ H, I (v :: vs) ρ H → ∃ ρ', bindT ρ xs uq v = some ρ' ∧ Wc N d (Ql QS (I vs)) E b ρ' H) (fin : ∀ ρ H, I [] ρ H → Wc N d QS E ss ρ H) : Wc N d QS E (.for xs uq .range [e] b :: ss) ρ H :=
 wSs_cons (wS_for (wEs_cons (Ee.mono h fun v H h => by obtain ⟨l, hs, i⟩ := h; exact wEs_nil ⟨_, hs, w_forS (QS := fun f ρ H => match f with | .next => Wc N d QS E ss ρ H | f => QS f ρ H) I step fin i⟩)))
end
end
section
structure Blk where
 code : Int
 par : List Int
 res : List Int
 height : Nat
 dead : Bool
 buried : Bool
structure CSt where
 vals : List Int
 blks : List Blk
structure CEnv where
 kinds : List (List Int × List Int)
 funcs : List Int
 locs : List Int
 res : List Int
 fn : Int
inductive PR (α : Type) where
 | ok (a : α) (s : CSt)
 | fail (w : Nat)
 | big
noncomputable def PR.ctorIdx {α : Type} (x : PR α) : Nat := @PR.casesOn α (fun Z => Nat) x (fun Z Z => 0) (fun Z => 1) 2
noncomputable def PR.bind {α β : Type} : PR α → (α → CSt → PR β) → PR β
 | .ok a s, f => f a s
 | .fail w, _ => .fail w
 | .big, _ => .big
noncomputable def lim : Nat := 1000000
noncomputable def PR.of {α : Type} (s : CSt) : Option α → PR α
 | some a => .ok a s
 | none => .big
noncomputable def pushP (k : Int) (s : CSt) : PR Unit := if s.vals.length < lim then .ok () { s with vals := s.vals ++ [k] } else .big
noncomputable def pushAll : List Int → CSt → PR Unit
 | [], s => .ok () s
 | k :: ks, s => (pushP k s).bind fun Z s => pushAll ks s
noncomputable def popAny (s : CSt) : PR Int := (PR.of s s.blks.getLast?).bind fun b s => if b.height < s.vals.length then (PR.of s s.vals.getLast?).bind fun v s => .ok v { s with vals := s.vals.dropLast } else if b.dead = true then .ok 0 s else .fail 50
noncomputable def popP (k : Int) (s : CSt) : PR Int := (popAny s).bind fun f s => if f ≠ k ∧ f ≠ 0 ∧ k ≠ 0 then .fail 50 else .ok f s
noncomputable def popsR : List Int → CSt → PR (List Int)
 | [], s => .ok [] s
 | k :: ks, s => (popP k s).bind fun f s => (popsR ks s).bind fun fs s => .ok (f :: fs) s
noncomputable def popAll (ks : List Int) (s : CSt) : PR (List Int) := (popsR ks.reverse s).bind fun fs s => .ok fs.reverse s
noncomputable def killP (s : CSt) : PR Unit := (PR.of s s.blks.getLast?).bind fun b s => .ok () ⟨s.vals.take b.height, s.blks.dropLast ++ [{ b with dead := true }]⟩
noncomputable def addBlk (b : Blk) (s : CSt) : PR Unit := if s.blks.length < lim ∧ b.par.length ≤ lim ∧ b.res.length ≤ lim then .ok () { s with blks := s.blks ++ [b] } else .big
noncomputable def beginP (code : Int) (par res : List Int) (s : CSt) : PR Unit := (PR.of s s.blks.getLast?).bind fun o s => (addBlk ⟨code, par, res, s.vals.length, false, o.dead || o.buried⟩ s).bind fun Z s => pushAll par s
noncomputable def closeP (s : CSt) : PR Blk := (PR.of s s.blks.getLast?).bind fun b s => (popAll b.res s).bind fun Z s => if s.vals.length ≠ b.height then .fail 50 else .ok b { s with blks := s.blks.dropLast }
noncomputable def Blk.label (b : Blk) : List Int := if b.code = 3 then b.par else b.res
noncomputable def targetP (l : Int) (s : CSt) : PR (List Int) := if 0 ≤ l ∧ l < s.blks.length then (PR.of s s.blks[s.blks.length - 1 - l.toNat]?).bind fun b s => .ok b.label s else .fail 51
noncomputable def blockKind (e : CEnv) (told : Int) : Option (List Int × List Int) :=
 if told = -64 then some ([], []) else if told < 0 then (if told ∈ [-1, -2, -16, -17] then some ([], [told]) else none)
 else if told < e.kinds.length then e.kinds[told.toNat]? else none
noncomputable def blockKindP (e : CEnv) (told : Int) (s : CSt) : PR (List Int × List Int) := match blockKind e told with
 | some k => .ok k s
 | none => .fail 52
noncomputable def typeAtP (e : CEnv) (i : Int) (s : CSt) : PR (List Int × List Int) := if 0 ≤ i ∧ i < e.kinds.length then PR.of s e.kinds[i.toNat]? else .fail 52
noncomputable def funcAtP (e : CEnv) (i : Int) (s : CSt) : PR (List Int × List Int) := if 0 ≤ i ∧ i < e.funcs.length then (PR.of s e.funcs[i.toNat]?).bind fun f s => typeAtP e f s else .fail 53
noncomputable def localAtP (e : CEnv) (i : Int) (s : CSt) : PR Int := if 0 ≤ i ∧ i < e.locs.length then PR.of s e.locs[i.toNat]? else .fail 54
noncomputable def numbersT : List (Int × Int × List Int × List Int) :=
 [(69, 69, [-1], [-1]), (70, 79, [-1, -1], [-1]), (80, 80, [-2], [-1]), (81, 90, [-2, -2], [-1]), (103, 105, [-1], [-1]), (106, 120, [-1, -1], [-1]), (121, 123, [-2], [-2]), (124, 138, [-2, -2], [-2]),
  (167, 167, [-2], [-1]), (172, 173, [-1], [-2]), (192, 193, [-1], [-1]), (194, 196, [-2], [-2])]
noncomputable def numberIn (code : Int) : List (Int × Int × List Int × List Int) → Option (List Int × List Int)
 | [] => none
 | (lo, hi, p, r) :: t => if lo ≤ code ∧ code ≤ hi then some (p, r) else numberIn code t
noncomputable def numberP (code : Int) (s : CSt) : PR Unit := match numberIn code numbersT with
 | none => .fail 49
 | some k => (popAll k.1 s).bind fun Z s => pushAll k.2 s
noncomputable def otherP (s : CSt) : PR Unit := (PR.of s s.blks.getLast?).bind fun b s => if b.code ≠ 4 then .fail 55 else (closeP s).bind fun c s => (addBlk ⟨5, c.par, c.res, s.vals.length, false, b.buried⟩ s).bind fun Z s => pushAll c.par s
noncomputable def endP (s : CSt) : PR Unit := (closeP s).bind fun c s => if c.code = 4 ∧ c.par ≠ c.res then .fail 50 else if 0 < s.blks.length then pushAll c.res s else .ok () s
noncomputable def tablesP : List Int → List Int → CSt → PR Unit
 | [], _, s => .ok () s
 | l :: ls, last, s => (targetP l s).bind fun ks s => if ks.length ≠ last.length then .fail 50 else (popAll ks s).bind fun fs s => (pushAll fs s).bind fun Z s => tablesP ls last s
noncomputable def branchP (ins : List Int) (s : CSt) : PR Unit := match ins with
 | [] => .big
 | code :: rest =>
   if code = 12 then (PR.of s rest[0]?).bind fun l s => (targetP l s).bind fun ks s => (popAll ks s).bind fun Z s => killP s
   else if code = 13 then (popP (-1) s).bind fun Z s => (PR.of s rest[0]?).bind fun l s => (targetP l s).bind fun ks s => (popAll ks s).bind fun Z s => pushAll ks s
   else (popP (-1) s).bind fun Z s => (PR.of s ins.getLast?).bind fun l s => (targetP l s).bind fun last s => (tablesP rest.dropLast last s).bind fun Z s => (popAll last s).bind fun Z s => killP s
noncomputable def callP (e : CEnv) (k : List Int × List Int) (tail : Bool) (s : CSt) : PR Unit :=
 if tail = true ∧ k.2 ≠ e.res then .fail 50 else (popAll k.1 s).bind fun Z s => if tail = true then killP s else pushAll k.2 s
noncomputable def isNum (k : Int) : Bool := decide (k ∈ ([-1, -2, 0] : List Int))
noncomputable def selectP (ins : List Int) (s : CSt) : PR Unit := match ins with
 | [] => .big
 | code :: rest =>
   if code = 28 then
     if ins.length ≠ 2 then .fail 56 else (PR.of s rest[0]?).bind fun t s => if t ∉ [-1, -2, -16, -17] then .fail 52 else (popAll [t, t, -1] s).bind fun Z s => pushP t s
   else (popP (-1) s).bind fun Z s => (popAny s).bind fun one s => (popAny s).bind fun two s =>
     if isNum one = false ∨ isNum two = false then .fail 50 else if one ≠ two ∧ one ≠ 0 ∧ two ≠ 0 then .fail 50 else pushP (if one = 0 then two else one) s
noncomputable def localP (e : CEnv) (ins : List Int) (s : CSt) : PR Unit := match ins with
 | [] => .big
 | code :: rest =>
   if code = 26 then (popAny s).bind fun Z s => .ok () s
   else if code ∈ [27, 28] then selectP ins s
   else if code < 32 then .fail 49
   else (PR.of s rest[0]?).bind fun l s => (localAtP e l s).bind fun k s =>
     (if code ≠ 32 then (popP k s).bind fun Z s => .ok () s else .ok () s).bind fun Z s => if code ≠ 33 then pushP k s else .ok () s
noncomputable def controlP (e : CEnv) (ins : List Int) (s : CSt) : PR Unit := match ins with
 | [] => .big
 | code :: rest =>
   if code = 0 then killP s
   else if code ∈ [2, 3, 4] then
     (if code = 4 then (popP (-1) s).bind fun Z s => .ok () s else .ok () s).bind fun Z s => (PR.of s rest[0]?).bind fun t s => (blockKindP e t s).bind fun k s => (popAll k.1 s).bind fun Z s => beginP code k.1 k.2 s
   else if code = 5 then otherP s
   else if code = 11 then endP s
   else if code ∈ [12, 13, 14] then branchP ins s
   else if code = 15 then (popAll e.res s).bind fun Z s => killP s
   else if code ≥ 16 then (PR.of s rest[0]?).bind fun i s => (funcAtP e i s).bind fun k s => callP e k (decide (code = 18)) s
   else if code ≠ 1 then .fail 49 else .ok () s
noncomputable def stepP (e : CEnv) (ins : List Int) (s : CSt) : PR Unit := match ins with
 | [] => .big
 | code :: _ =>
   if code ≤ 16 ∨ code = 18 then controlP e ins s
   else if 26 ≤ code ∧ code ≤ 34 then localP e ins s
   else if code = 65 then pushP (-1) s
   else if code = 66 then pushP (-2) s
   else if 69 ≤ code ∧ code ≤ 196 then numberP code s
   else .fail 49
theorem PR.bind_ok {α β : Type} {r : PR α} {f : α → CSt → PR β} {b : β} {s : CSt} (h : r.bind f = .ok b s) : ∃ a s', r = .ok a s' ∧ f a s' = .ok b s := by
 cases r with
 | ok a s' => exact ⟨a, s', rfl, h⟩
 | fail w => cases h
 | big => cases h
theorem PR.of_ok {α : Type} {s s' : CSt} {o : Option α} {a : α} (h : PR.of s o = .ok a s') : s' = s ∧ o = some a := by
 cases o with
 | none => cases h
 | some b => cases h; exact ⟨rfl, rfl⟩
theorem popAny_blks {s s' : CSt} {v : Int} (h : popAny s = .ok v s') : s'.blks = s.blks := by
 obtain ⟨b, s1, h1, k⟩ := PR.bind_ok h
 obtain ⟨e1, _⟩ := PR.of_ok h1
 clear h h1
 by_cases q : b.height < s1.vals.length
 · rw [if_pos q] at k
   obtain ⟨v, s2, h2, k⟩ := PR.bind_ok k
   rw [← e1, ← (PR.of_ok h2).1]
   cases k; rfl
 · rw [if_neg q] at k
   by_cases q : b.dead = true
   · rw [if_pos q] at k; cases k; rw [e1]
   · rw [if_neg q] at k; cases k
theorem popP_blks {k : Int} {s s' : CSt} {v : Int} (h : popP k s = .ok v s') : s'.blks = s.blks := by
 obtain ⟨f, s1, h1, h2⟩ := PR.bind_ok h
 by_cases q : f ≠ k ∧ f ≠ 0 ∧ k ≠ 0
 · rw [if_pos q] at h2; cases h2
 · rw [if_neg q] at h2; cases h2; exact popAny_blks h1
theorem popsR_blks {l : List Int} : ∀ {s s' : CSt} {v : List Int}, popsR l s = .ok v s' → s'.blks = s.blks := by
 induction l with
 | nil => intro s s' v h; cases h; rfl
 | cons k l ih =>
   intro s s' v h
   obtain ⟨f, s1, h1, h2⟩ := PR.bind_ok h
   obtain ⟨fs, s2, h3, h4⟩ := PR.bind_ok h2
   cases h4
   exact (ih h3).trans (popP_blks h1)
theorem popAll_blks {l : List Int} {s s' : CSt} {v : List Int} (h : popAll l s = .ok v s') : s'.blks = s.blks := by
 obtain ⟨f, s1, h1, h2⟩ := PR.bind_ok h
 cases h2
 exact popsR_blks h1
theorem popsR_len {l : List Int} : ∀ {s s' : CSt} {v : List Int}, popsR l s = .ok v s' → v.length = l.length := by
 induction l with
 | nil => intro s s' v h; cases h; rfl
 | cons k l ih =>
   intro s s' v h
   obtain ⟨f, s1, h1, h2⟩ := PR.bind_ok h
   obtain ⟨fs, s2, h3, h4⟩ := PR.bind_ok h2
   cases h4
   exact congrArg Nat.succ (ih h3)
theorem popAll_len {l : List Int} {s s' : CSt} {v : List Int} (h : popAll l s = .ok v s') : v.length = l.length := by
 obtain ⟨f, s1, h1, h2⟩ := PR.bind_ok h
 cases h2
 simpa using popsR_len h1
theorem targetP_ok {l : Int} {s s' : CSt} {v : List Int} (h : targetP l s = .ok v s') : s' = s ∧ ∃ b ∈ s.blks, v = b.label := by
 unfold targetP at h
 by_cases q : 0 ≤ l ∧ l < s.blks.length
 · rw [if_pos q] at h
   obtain ⟨b, s1, h1, k⟩ := PR.bind_ok h
   obtain ⟨e1, h2⟩ := PR.of_ok h1
   cases k; exact ⟨e1, b, List.mem_of_getElem? h2, rfl⟩
 · rw [if_neg q] at h; cases h
inductive PC where
 | ok (hs : List (Option Nat))
 | fail (w : Nat) (at_ : Nat)
 | big
noncomputable def PC.ctorIdx (x : PC) : Nat := @PC.casesOn (fun Z => Nat) x (fun Z => 0) (fun Z Z => 1) 2
noncomputable def heightP (b : Blk) (s : CSt) : Option Nat := if b.dead = true ∨ b.buried = true then none else some s.vals.length
noncomputable def afterC : Option Blk → PR Unit → Nat → (Blk → CSt → PC) → PC
 | none, _, n, _ => .fail 50 n
 | some b, .ok _ s, _, k => k b s
 | some _, .fail w, n, _ => .fail w n
 | some _, .big, _, _ => .big
noncomputable def checkP (e : CEnv) : List (List Int) → Nat → List (Option Nat) → CSt → PC
 | [], n, hs, s => if 0 < s.blks.length then .fail 50 (n - 1) else .ok hs
 | i :: is, n, hs, s => afterC s.blks.getLast? (stepP e i s) n fun b s' => checkP e is (n + 1) (hs ++ [heightP b s]) s'
noncomputable def coreP (e : CEnv) (body : List (List Int)) : PC := checkP e body 0 [] ⟨[], [⟨-1, [], e.res, 0, false, false⟩]⟩
end
section
structure CA where
 sc : Nat
 dd : Nat
 vl : Nat
 bl : Nat
 kl : Nat
 fl : Nat
 n0 : Nat
 env : CEnv
noncomputable def blkD (b : Blk) : List (MV × MV) := [(.str 38, .int b.code), (.str 39, .tup (il b.par)), (.str 40, .tup (il b.res)), (.str 41, .int b.height), (.str 42, .bool b.dead), (.str 43, .bool b.buried)]
noncomputable def scD (A : CA) (at_ : Int) : List (MV × MV) := [(.str 44, .ref A.kl), (.str 45, .ref A.fl), (.str 6, .int A.env.fn), (.str 46, .tup (il A.env.locs)), (.str 40, .tup (il A.env.res)), (.str 47, .ref A.vl), (.str 48, .ref A.bl), (.str 7, .int at_)]
noncomputable def kindMV (k : List Int × List Int) : MV := .tup [.tup (il k.1), .tup (il k.2)]
noncomputable def Blks (H : MH) : List (Nat × Nat) → List Blk → Prop
 | [], [] => True
 | a :: as, b :: bs => H[a.1]? = some (.inst 2 a.2) ∧ H[a.2]? = some (.dict false (blkD b)) ∧ Blks H as bs
 | _, _ => False
noncomputable def knD : List (MV × MV) := [(.int (-1), .str 34), (.int (-2), .str 35), (.int (-16), .str 36), (.int (-17), .str 37)]
structure Core (A : CA) (H : MH) (at_ : Int) (bs : List (Nat × Nat)) (s : CSt) : Prop where
 sc : H[A.sc]? = some (.inst 3 A.dd)
 dd : H[A.dd]? = some (.dict false (scD A at_))
 vl : H[A.vl]? = some (.list false (il s.vals))
 bl : H[A.bl]? = some (.list false (bs.map fun b => .ref b.1))
 bk : Blks H bs s.blks
 nd : (A.dd :: bs.map (·.2)).Nodup
 kl : H[A.kl]? = some (.list false (A.env.kinds.map kindMV))
 fl : H[A.fl]? = some (.list false (il A.env.funcs))
 kn : H[0]? = some (.dict true knD)
 n1 : A.vl ≠ A.bl
 n2 : A.kl ≠ A.vl ∧ A.kl ≠ A.bl
 n3 : A.fl ≠ A.vl ∧ A.fl ≠ A.bl
 lo : A.n0 ≤ A.dd ∧ A.n0 ≤ A.vl ∧ A.n0 ≤ A.bl ∧ ∀ b ∈ bs, A.n0 ≤ b.2
 hv : s.vals.length ≤ lim
 hb : s.blks.length ≤ lim ∧ ∀ b ∈ s.blks, b.par.length ≤ lim ∧ b.res.length ≤ lim
noncomputable def isL : MObj → Bool
 | .list _ _ => true
 | _ => false
structure FrC (A : CA) (H H' : MH) : Prop where
 len : H.length ≤ H'.length
 keep : ∀ i o, H[i]? = some o → i ≠ A.vl → i ≠ A.bl → (isL o = true ∨ i < A.n0) → H'[i]? = some o
theorem FrC.refl (A : CA) (H : MH) : FrC A H H := ⟨Nat.le_refl _, fun Z Z e Z Z Z => e⟩
theorem FrC.trans {A : CA} {H H' H'' : MH} (x : FrC A H H') (y : FrC A H' H'') : FrC A H H'' :=
 ⟨Nat.le_trans x.len y.len, fun i o e a b c => y.keep i o (x.keep i o e a b c) a b c⟩
theorem lt_of {H : MH} {i : Nat} {o : MObj} (h : H[i]? = some o) : i < H.length := (List.getElem?_eq_some_iff.mp h).1
theorem app_get {H l : MH} {i : Nat} {o : MObj} (h : H[i]? = some o) : (H ++ l)[i]? = some o := by
 rw [List.getElem?_append_left (lt_of h)]; exact h
theorem app_new {H : MH} {o : MObj} {l : MH} : (H ++ o :: l)[H.length]? = some o := by
 rw [List.getElem?_append_right (Nat.le_refl _), Nat.sub_self]; rfl
theorem app_new1 {H : MH} {o o' : MObj} {l : MH} : (H ++ o :: o' :: l)[H.length + 1]? = some o' := by
 rw [List.getElem?_append_right (Nat.le_succ _), show H.length.succ - H.length = 1 from Nat.add_sub_cancel_left (n := H.length) (m := 1)]; rfl
theorem set_get {H : MH} {i j : Nat} {o x : MObj} (h : H[j]? = some o) (n : i ≠ j) : (H.set i x)[j]? = some o := by
 rw [List.getElem?_set_ne n]; exact h
theorem set_self {H : MH} {i : Nat} {o x : MObj} (h : H[i]? = some o) : (H.set i x)[i]? = some x := List.getElem?_set_self (lt_of h)
theorem Blks.mono {H H' : MH} : ∀ {as : List (Nat × Nat)} {bs : List Blk}, Blks H as bs → (∀ a ∈ as, ∀ o, (H[a.1]? = some o → H'[a.1]? = some o) ∧ (H[a.2]? = some o → H'[a.2]? = some o)) → Blks H' as bs
 | [], [], _, _ => trivial
 | [], _ :: _, x, _ => x.elim
 | _ :: _, [], x, _ => x.elim
 | a :: as, b :: bs, x, h => ⟨(h a (.head _) _).1 x.1, (h a (.head _) _).2 x.2.1, Blks.mono x.2.2 fun a' m => h a' (.tail _ m)⟩
theorem Blks.length {H : MH} : ∀ {as : List (Nat × Nat)} {bs : List Blk}, Blks H as bs → as.length = bs.length
 | [], [], _ => rfl
 | [], _ :: _, x => x.elim
 | _ :: _, [], x => x.elim
 | _ :: _, _ :: _, x => by simp [Blks.length x.2.2]
theorem Blks.get {H : MH} : ∀ {as : List (Nat × Nat)} {bs : List Blk} {j : Nat} {b : Blk}, Blks H as bs → bs[j]? = some b → ∃ a, as[j]? = some a ∧ H[a.1]? = some (.inst 2 a.2) ∧ H[a.2]? = some (.dict false (blkD b))
 | [], [], _, _, _, e => by simp at e
 | [], _ :: _, _, _, x, _ => x.elim
 | _ :: _, [], _, _, x, _ => x.elim
 | a :: as, b :: bs, 0, b', x, e => by simp at e; subst e; exact ⟨a, rfl, x.1, x.2.1⟩
 | a :: as, b :: bs, j + 1, b', x, e => by
   simp at e
   obtain ⟨a', h⟩ := Blks.get x.2.2 e
   exact ⟨a', by simpa using h.1, h.2⟩
theorem Blks.last {H : MH} {as : List (Nat × Nat)} {bs : List Blk} {b : Blk} (x : Blks H as bs) (e : bs.getLast? = some b) : ∃ a, as.getLast? = some a ∧ H[a.1]? = some (.inst 2 a.2) ∧ H[a.2]? = some (.dict false (blkD b)) := by
 rw [List.getLast?_eq_getElem?] at e ⊢
 obtain ⟨a, h⟩ := x.get e
 exact ⟨a, by rw [x.length]; exact h.1, h.2⟩
theorem Blks.append {H : MH} : ∀ {as : List (Nat × Nat)} {bs : List Blk} {a : Nat × Nat} {b : Blk}, Blks H as bs → H[a.1]? = some (.inst 2 a.2) → H[a.2]? = some (.dict false (blkD b)) → Blks H (as ++ [a]) (bs ++ [b])
 | [], [], _, _, _, h1, h2 => ⟨h1, h2, trivial⟩
 | [], _ :: _, _, _, x, _, _ => x.elim
 | _ :: _, [], _, _, x, _, _ => x.elim
 | _ :: _, _ :: _, _, _, x, h1, h2 => ⟨x.1, x.2.1, Blks.append x.2.2 h1 h2⟩
theorem Blks.dropLast {H : MH} : ∀ {as : List (Nat × Nat)} {bs : List Blk}, Blks H as bs → Blks H as.dropLast bs.dropLast
 | [], [], _ => trivial
 | [], _ :: _, x => x.elim
 | _ :: _, [], x => x.elim
 | [_], [_], _ => trivial
 | [_], _ :: _ :: _, x => x.2.2.elim
 | _ :: _ :: _, [_], x => x.2.2.elim
 | _ :: a :: as, _ :: b :: bs, x => ⟨x.1, x.2.1, Blks.dropLast (as := a :: as) (bs := b :: bs) x.2.2⟩
theorem Blks.inst {H : MH} : ∀ {as : List (Nat × Nat)} {bs : List Blk}, Blks H as bs → ∀ a ∈ as, H[a.1]? = some (.inst 2 a.2) ∧ ∃ es, H[a.2]? = some (.dict false es)
 | [], [], _, _, m => nomatch m
 | [], _ :: _, x, _, _ => x.elim
 | _ :: _, [], x, _, _ => x.elim
 | a :: as, b :: bs, x, a', m => by
   rcases List.mem_cons.mp m with rfl | m
   · exact ⟨x.1, _, x.2.1⟩
   · exact x.2.2.inst a' m
section
variable {A : CA} {H H' : MH} {at_ : Int} {bs : List (Nat × Nat)} {s : CSt}
theorem ne_of {i j : Nat} {a b : MObj} (h1 : H[i]? = some a) (h2 : H[j]? = some b) (n : a ≠ b) : i ≠ j := fun q => n (by rw [q, h2] at h1; exact (Option.some.inj h1).symm)
theorem Core.keep (c : Core A H at_ bs s) (k : ∀ (i : Nat) (o : MObj), H[i]? = some o → H'[i]? = some o) : Core A H' at_ bs s :=
 { c with sc := k _ _ c.sc, dd := k _ _ c.dd, vl := k _ _ c.vl, bl := k _ _ c.bl, bk := c.bk.mono fun Z Z Z => ⟨k _ _, k _ _⟩, kl := k _ _ c.kl, fl := k _ _ c.fl, kn := k _ _ c.kn }
theorem frc_app {l : MH} : FrC A H (H ++ l) := ⟨by simp, fun Z Z e Z Z Z => app_get e⟩
theorem Core.setL (c : Core A H at_ bs s) {i : Nat} {fz : Bool} {l : List MV} {o : MObj} (h : H[i]? = some (.list fz l)) (n1 : i ≠ A.vl) (n2 : i ≠ A.bl) (n3 : i ≠ A.kl) (n4 : i ≠ A.fl) : Core A (H.set i o) at_ bs s :=
 { c with
   sc := set_get c.sc (ne_of h c.sc (by simp)), dd := set_get c.dd (ne_of h c.dd (by simp)), vl := set_get c.vl n1, bl := set_get c.bl n2, kl := set_get c.kl n3, fl := set_get c.fl n4, kn := set_get c.kn (ne_of h c.kn (by simp))
   bk := c.bk.mono fun a m o => ⟨fun e => set_get e (ne_of h (c.bk.inst a m).1 (by simp)), fun e => set_get e (by obtain ⟨_, es, q⟩ := c.bk.inst a m; exact ne_of h q (by simp))⟩ }
theorem Core.setV (c : Core A H at_ bs s) (vs : List Int) (hv : vs.length ≤ lim) : Core A (H.set A.vl (.list false (il vs))) at_ bs { s with vals := vs } :=
 { c with
   sc := set_get c.sc (ne_of c.vl c.sc (by simp)), dd := set_get c.dd (ne_of c.vl c.dd (by simp)), vl := set_self c.vl, bl := set_get c.bl c.n1, kl := set_get c.kl c.n2.1.symm, fl := set_get c.fl c.n3.1.symm, kn := set_get c.kn (ne_of c.vl c.kn (by simp))
   bk := c.bk.mono fun a m o => ⟨fun e => set_get e (ne_of c.vl (c.bk.inst a m).1 (by simp)), fun e => set_get e (by obtain ⟨_, es, q⟩ := c.bk.inst a m; exact ne_of c.vl q (by simp))⟩
   hv := hv, hb := c.hb }
theorem frc_setV (c : Core A H at_ bs s) {o : MObj} : FrC A H (H.set A.vl o) := ⟨by simp, fun i o e n1 Z Z => set_get e (Ne.symm n1)⟩
theorem Core.setB (c : Core A H at_ bs s) {bs' : List (Nat × Nat)} {ks : List Blk} (hk : Blks H bs' ks) (nd : (A.dd :: bs'.map (·.2)).Nodup) (hn : ∀ b ∈ bs', A.n0 ≤ b.2) (hb : ks.length ≤ lim ∧ ∀ b ∈ ks, b.par.length ≤ lim ∧ b.res.length ≤ lim) :
   Core A (H.set A.bl (.list false (bs'.map fun b => .ref b.1))) at_ bs' { s with blks := ks } :=
 { c with
   sc := set_get c.sc (ne_of c.bl c.sc (by simp)), dd := set_get c.dd (ne_of c.bl c.dd (by simp)), vl := set_get c.vl c.n1.symm, bl := set_self c.bl, kl := set_get c.kl c.n2.2.symm, fl := set_get c.fl c.n3.2.symm, kn := set_get c.kn (ne_of c.bl c.kn (by simp))
   bk := hk.mono fun a m o => ⟨fun e => set_get e (ne_of c.bl (hk.inst a m).1 (by simp)), fun e => set_get e (by obtain ⟨_, es, q⟩ := hk.inst a m; exact ne_of c.bl q (by simp))⟩
   nd := nd, lo := ⟨c.lo.1, c.lo.2.1, c.lo.2.2.1, hn⟩, hv := c.hv, hb := hb }
theorem frc_setB (c : Core A H at_ bs s) {o : MObj} : FrC A H (H.set A.bl o) := ⟨by simp, fun i o e Z n2 Z => set_get e (Ne.symm n2)⟩
theorem Core.setAt (c : Core A H at_ bs s) (at' : Int) : Core A (H.set A.dd (.dict false (scD A at'))) at' bs s :=
 { c with
   sc := set_get c.sc (ne_of c.dd c.sc (by simp)), dd := set_self c.dd, vl := set_get c.vl (ne_of c.dd c.vl (by simp)), bl := set_get c.bl (ne_of c.dd c.bl (by simp)), kl := set_get c.kl (ne_of c.dd c.kl (by simp)), fl := set_get c.fl (ne_of c.dd c.fl (by simp)), kn := set_get c.kn (ne_of c.dd c.kn (by simp))
   bk := c.bk.mono fun a m o => ⟨fun e => set_get e (ne_of c.dd (c.bk.inst a m).1 (by simp)), fun e => set_get e fun q => (List.nodup_cons.mp c.nd).1 (by rw [q]; exact List.mem_map.mpr ⟨a, m, rfl⟩)⟩ }
theorem frc_setAt (c : Core A H at_ bs s) {o : MObj} : FrC A H (H.set A.dd o) := ⟨by simp, fun i o e Z Z h => set_get e fun q => by
 subst q
 rcases h with h | h
 · rw [c.dd] at e; cases e; cases h
 · have := c.lo.1; lia⟩
end
end
section
abbrev Rel (α : Type) := α → MV → MH → List (Nat × Nat) → Prop
noncomputable def PostC {α : Type} (A : CA) (H : MH) (at_ : Int) (rel : Rel α) (r : PR α) (Q : MV → MH → Prop) (E : MExc → MH → Prop) : Prop := match r with
 | .ok a s' => ∀ H' bs' v, Core A H' at_ bs' s' → FrC A H H' → rel a v H' bs' → Q v H'
 | .fail w => ∀ H', FrC A H H' → E ⟨.str w, .int A.env.fn, .int at_⟩ H'
 | .big => False
section
variable {A : CA} {H : MH} {at_ : Int} {Q : MV → MH → Prop} {E : MExc → MH → Prop}
theorem PostC.step {α : Type} {rel : Rel α} {r : PR α} {H₁ : MH} (f : FrC A H H₁) (P : PostC A H at_ rel r Q E) : PostC A H₁ at_ rel r Q E := by
 cases r with
 | ok a s' => exact fun H' bs' v c f' => P H' bs' v c (f.trans f')
 | fail w => exact fun H' f' => P H' (f.trans f')
 | big => exact P
theorem PostC.bindB {α β : Type} {rel : Rel α} {rel' : Rel β} {r : PR α} {f : α → CSt → PR β} {Q' : MV → MH → Prop} {H₀ : MH} (P : PostC A H₀ at_ rel' (r.bind f) Q' E) (fr : FrC A H₀ H)
   (k : ∀ a s' H' bs' v, r = .ok a s' → Core A H' at_ bs' s' → FrC A H H' → rel a v H' bs' → PostC A H₀ at_ rel' (f a s') Q' E → Q v H') : PostC A H at_ rel r Q E := by
 cases r with
 | ok a s' => exact fun H' bs' v c f' e => k a s' H' bs' v rfl c f' e P
 | fail w => exact fun H' f' => P H' (fr.trans f')
 | big => exact P
theorem PostC.ifp {α : Type} {rel : Rel α} {p : Prop} {i : Decidable p} {a b : PR α} (P : PostC A H at_ rel (if p then a else b) Q E) (h : p) : PostC A H at_ rel a Q E := by rw [if_pos h] at P; exact P
theorem PostC.ifn {α : Type} {rel : Rel α} {p : Prop} {i : Decidable p} {a b : PR α} (P : PostC A H at_ rel (if p then a else b) Q E) (h : ¬ p) : PostC A H at_ rel b Q E := by rw [if_neg h] at P; exact P
theorem PostC.ifpb {α β γ : Type} {rel : Rel β} {p : Prop} {i : Decidable p} {r : PR γ} {g : γ → CSt → PR α} {b : PR α} {f : α → CSt → PR β} (P : PostC A H at_ rel ((if p then r.bind g else b).bind f) Q E) (h : p) : PostC A H at_ rel (r.bind fun a s => (g a s).bind f) Q E := by
 rw [if_pos h] at P; cases r <;> exact P
theorem PostC.ifnb {α β : Type} {rel : Rel β} {p : Prop} {i : Decidable p} {a : PR α} {x : α} {s : CSt} {f : α → CSt → PR β} (P : PostC A H at_ rel ((if p then a else .ok x s).bind f) Q E) (h : ¬ p) : PostC A H at_ rel (f x s) Q E := by
 rw [if_neg h] at P; exact P
theorem PostC.done {α : Type} {rel : Rel α} {a : α} {s' : CSt} {H₁ : MH} {bs' : List (Nat × Nat)} {v : MV} (P : PostC A H at_ rel (.ok a s') Q E) (c : Core A H₁ at_ bs' s') (f : FrC A H H₁) (e : rel a v H₁ bs') : Q v H₁ := P _ _ _ c f e
end
noncomputable def relI (bs : List (Nat × Nat)) : Rel Int := fun a v Z bs' => v = .int a ∧ bs' = bs
noncomputable def relU (bs : List (Nat × Nat)) : Rel Unit := fun Z v Z bs' => v = .none ∧ bs' = bs
noncomputable def relU' : Rel Unit := fun Z v Z Z => v = .none
section
variable {N d : Nat} {A : CA} {H : MH} {at_ : Int} {bs : List (Nat × Nat)} {s : CSt} {Q : MV → MH → Prop} {E : MExc → MH → Prop}
theorem PostC.of {α β : Type} {rel : Rel β} {o : Option α} {f : α → CSt → PR β} (P : PostC A H at_ rel ((PR.of s o).bind f) Q E) : ∃ a, o = some a ∧ PostC A H at_ rel (f a s) Q E := by
 cases o with
 | none => exact P.elim
 | some a => exact ⟨a, rfl, P⟩
theorem Core.attr (c : Core A H at_ bs s) {k : Nat} {v : MV} (h3 : tb.P.meth 3 k = none) (h4 : dGet (.str k) (scD A at_) = some v) {Q : MV → MH → Prop} (q : Q v H) : (mAttr tb.P H (.ref A.sc) k).wp Q E :=
 w_attr c.sc c.dd h3 h4 q
theorem Core.kind (c : Core A H at_ bs s) {k f n : Nat} (h3 : tb.P.meth 3 k = some f) (h5 : dGet (.str k) (scD A at_) = none) : mKind tb.P H (.ref A.sc) k n = some (.fn f) :=
 w_kindF c.sc c.dd h3 h5 (by decide)
theorem Core.ev (c : Core A H at_ bs s) {ρ : Loc} {k : Nat} {v : MV} (h0 : ρ 0 = some (.ref A.sc)) (h3 : tb.P.meth 3 k = none) (h4 : dGet (.str k) (scD A at_) = some v) : Ev N d ρ H (.attr (.loc 0) k) v :=
 Ev.attr (Ev.loc h0) (evw (c.attr h3 h4 ⟨rfl, rfl⟩))
theorem Core.callM (c : Core A H at_ bs s) {ρ : Loc} {k f : Nat} {es : List CE} {vs : List MV} (h0 : ρ 0 = some (.ref A.sc)) (h3 : tb.P.meth 3 k = some f) (h5 : dGet (.str k) (scD A at_) = none)
   (ha : Evs N d ρ H es vs) (h : (mCall tb.P FF N d true f (.ref A.sc :: vs) H).wp Q E) : Ee N d E ρ H (.callM (.loc 0) k es) Q :=
 Ee.callM (Ev.loc h0) (c.kind h3 h5) ha h
theorem PostC.bindI {β : Type} {rel' : Rel β} {r : PR Int} {f : Int → CSt → PR β} {Q' : MV → MH → Prop} {H₀ : MH} (P : PostC A H₀ at_ rel' (r.bind f) Q' E) (fr : FrC A H₀ H)
   (k : ∀ a s' H', Core A H' at_ bs s' → FrC A H H' → PostC A H₀ at_ rel' (f a s') Q' E → Q (.int a) H') : PostC A H at_ (relI bs) r Q E :=
 P.bindB fr fun a s' H' bs' v Z c' f' e P => by obtain ⟨rfl, rfl⟩ := e; exact k a s' H' c' f' P
theorem PostC.bindU {β : Type} {rel' : Rel β} {r : PR Unit} {f : Unit → CSt → PR β} {Q' : MV → MH → Prop} {H₀ : MH} (P : PostC A H₀ at_ rel' (r.bind f) Q' E) (fr : FrC A H₀ H)
   (k : ∀ a s' H', Core A H' at_ bs s' → FrC A H H' → PostC A H₀ at_ rel' (f a s') Q' E → Q .none H') : PostC A H at_ (relU bs) r Q E :=
 P.bindB fr fun a s' H' bs' v Z c' f' e P => by obtain ⟨rfl, rfl⟩ := e; exact k a s' H' c' f' P
theorem fail_spec (c : Core A H at_ bs s) {w : Nat} (P : E ⟨.str w, .int A.env.fn, .int at_⟩ H) : (mCall tb.P FF N (d + 1) true 11 [.ref A.sc, .str w] H).wp Q E := by
 refine W_call rfl rfl ?_
 simp only [Nat.reduceAdd]
 exact Wc.raise (Ev.loc rfl) (c.ev rfl rfl rfl) (c.ev rfl rfl rfl) P
theorem Core.fail (c : Core A H at_ bs s) {ρ : Loc} {w : Nat} (h0 : ρ 0 = some (.ref A.sc)) (P : E ⟨.str w, .int A.env.fn, .int at_⟩ H) : Ee N (d + 1) E ρ H (.callM (.loc 0) 9 [.con (.str w)]) Q :=
 c.callM h0 rfl rfl (Evs.one Ev.con) (fail_spec c P)
theorem len_il (l : List Int) : (il l).length = l.length := List.length_map _
theorem ints_app (l : List Int) (k : Int) : il l ++ [.int k] = il (l ++ [k]) := by simp [il]
theorem last_il (l : List Int) : (il l).getLast? = l.getLast?.map .int := by simp [il, List.getLast?_map]
theorem drop_il (l : List Int) : (il l).dropLast = il l.dropLast := by simp [il, List.map_dropLast]
theorem PostC.unit {r : PR Unit} (P : PostC A H at_ (relU bs) r Q E) : PostC A H at_ (relU bs) r (fun Z H => Q .none H) E := by
 cases r with
 | ok a s' => exact fun H' bs' v c f e => by obtain ⟨rfl, rfl⟩ := e; exact P H' _ _ c f ⟨rfl, rfl⟩
 | fail w => exact P
 | big => exact P
theorem vals_append (c : Core A H at_ bs s) {C : Orc} {k : Int} {Q : MV → MH → Prop} (P : PostC A H at_ (relU bs) (pushP k s) Q E) : (mMeth C (.lm .append A.vl) (.ref A.vl) [.int k] H).wp Q E := by
 unfold pushP at P
 split at P
 · rename_i h
   refine w_append c.vl (by rw [len_il]; unfold lim at h; unfold sizeL; lia) ?_
   rw [ints_app]
   exact P.done (c.setV _ (by simp; unfold lim at *; lia)) (frc_setV c) ⟨rfl, rfl⟩
 · exact P.elim
theorem push_spec (c : Core A H at_ bs s) {k : Int} (P : PostC A H at_ (relU bs) (pushP k s) Q E) : (mCall tb.P FF N (d + 1) true 12 [.ref A.sc, .int k] H).wp Q E := by
 refine W_call rfl rfl ?_
 simp only [Nat.reduceAdd]
 exact Wc.expr (Ee.callM (c.ev rfl rfl rfl) (w_kindL c.vl rfl) (Evs.one (Ev.loc rfl)) (vals_append c P.unit))
theorem push_turn {ρ : Loc} {x : Nat} {k : Int} {QS : MFlow → Loc → MH → Prop} (c : Core A H at_ bs s) (h0 : ρ 0 = some (.ref A.sc)) (hx : ρ x = some (.int k)) (P : PostC A H at_ (relU bs) (pushP k s) (fun Z H => QS .next ρ H) E) :
   Wc N d QS E [.expr (.callM (.attr (.loc 0) 47) 0 [.loc x])] ρ H :=
 Wc.expr (Ee.callM (c.ev h0 rfl rfl) (w_kindL c.vl rfl) (Evs.one (Ev.loc hx)) (vals_append c P))
theorem push_all_spec (c : Core A H at_ bs s) {l : List Int} (P : PostC A H at_ (relU bs) (pushAll l s) Q E) : (mCall tb.P FF N (d + 1) true 13 [.ref A.sc, .tup (il l)] H).wp Q E := by
 refine W_call rfl rfl ?_
 simp only [Nat.reduceAdd]
 refine Wc.forS (Evs.one (Ev.loc rfl)) rfl (fun vs ρ H => ∃ ks s', vs = il ks ∧ Core A H at_ bs s' ∧ ρ 0 = some (.ref A.sc) ∧ PostC A H at_ (relU bs) (pushAll ks s') Q E) (fun v vs ρ H I => ?_) (fun ρ H I => ?_) ⟨l, s, rfl, c, rfl, P⟩
 · obtain ⟨ks, s', e1, c', h0, P'⟩ := I
   cases ks with
   | nil => cases e1
   | cons k ks =>
     cases e1
     exact ⟨_, rfl, push_turn c' h0 rfl (PostC.bindU P' (FrC.refl _ _) fun Z s'' H' c'' f P'' => ⟨ks, s'', rfl, c'', h0, P''.step f⟩)⟩
 · obtain ⟨ks, s', e1, c', h0, P'⟩ := I
   cases ks with
   | cons k ks => cases e1
   | nil => exact P'.done c' (FrC.refl _ _) ⟨rfl, rfl⟩
theorem src_lst {H : MH} {i : Nat} {fz : Bool} {l : List MV} (h : H[i]? = some (.list fz l)) : mSrc H .val [.ref i] = some (.lst i) := map_eq (lst_eq h) rfl
theorem push_allL_spec (hN : 2000000 ≤ N) (c : Core A H at_ bs s) {l : List Int} {i : Nat} {fz : Bool} (hi : H[i]? = some (.list fz (il l))) (n1 : i ≠ A.vl) (n2 : i ≠ A.bl) (hl : l.length ≤ lim) (P : PostC A H at_ (relU bs) (pushAll l s) Q E) :
   (mCall tb.P FF N (d + 1) true 13 [.ref A.sc, .ref i] H).wp Q E := by
 refine W_call rfl rfl ?_
 simp only [Nat.reduceAdd]
 refine Wc.forI (l := il l) (Evs.one (Ev.loc rfl)) (src_lst hi) (fun j ρ H => ∃ s', Core A H at_ bs s' ∧ ρ 0 = some (.ref A.sc) ∧ H[i]? = some (.list fz (il l)) ∧ PostC A H at_ (relU bs) (pushAll (l.drop j) s') Q E) (fun j ρ H I => ?_) (fun j v ρ H hj I => ?_) (fun ρ H I => ?_)
   ⟨s, c, rfl, hi, P⟩ (by rw [len_il]; unfold lim at hl; lia)
 · obtain ⟨_, _, _, h, _⟩ := I
   exact ⟨fz, h⟩
 · obtain ⟨s', c', h0, h, P'⟩ := I
   have hj' : (l[j]?).map MV.int = some v := by rw [← hj]; simp [il]
   refine mapS hj' fun k hk e => ?_
   subst e
   rw [List.drop_eq_getElem_cons (List.getElem?_eq_some_iff.mp hk).1, (List.getElem?_eq_some_iff.mp hk).2] at P'
   exact ⟨_, rfl, push_turn c' h0 rfl (PostC.bindU P' (FrC.refl _ _) fun Z s'' H' c'' f P'' => ⟨s'', c'', h0, f.keep _ _ h n1 n2 (.inl rfl), P''.step f⟩)⟩
 · obtain ⟨s', c', h0, h, P'⟩ := I
   rw [len_il, List.drop_length] at P'
   exact P'.done c' (FrC.refl _ _) ⟨rfl, rfl⟩
theorem Core.last (c : Core A H at_ bs s) {b : Blk} (hb : s.blks.getLast? = some b) : ∃ a, bs.getLast? = some a ∧ H[a.1]? = some (.inst 2 a.2) ∧ H[a.2]? = some (.dict false (blkD b)) ∧ mSub H (.ref A.bl) (.int (-1)) = .ok (.ref a.1) H := by
 obtain ⟨a, ha, h1, h2⟩ := c.bk.last hb
 refine ⟨a, ha, h1, h2, evw ?_⟩
 have hl : bs.length ≠ 0 := by intro e; rw [List.length_eq_zero_iff.mp e] at ha; cases ha
 refine w_subL (j := bs.length - 1) c.bl ?_ ?_ ⟨rfl, rfl⟩
 · rw [List.length_map]; exact idx_lst hl
 · rw [List.getElem?_map]
   rw [List.getLast?_eq_getElem?] at ha
   rw [ha]; rfl
theorem w_blk {a : Nat × Nat} {b : Blk} {k : Nat} {v : MV} (h1 : H[a.1]? = some (.inst 2 a.2)) (h2 : H[a.2]? = some (.dict false (blkD b))) (h3 : tb.P.meth 2 k = none) (h5 : dGet (.str k) (blkD b) = some v) (q : Q v H) : (mAttr tb.P H (.ref a.1) k).wp Q E :=
 w_attr h1 h2 h3 h5 q
theorem evB {ρ : Loc} {o : CE} {a : Nat × Nat} {b : Blk} {k : Nat} {v : MV} (ho : Ev N d ρ H o (.ref a.1)) (h1 : H[a.1]? = some (.inst 2 a.2)) (h2 : H[a.2]? = some (.dict false (blkD b))) (h3 : tb.P.meth 2 k = none) (h5 : dGet (.str k) (blkD b) = some v) : Ev N d ρ H (.attr o k) v :=
 Ev.attr ho (evw (w_blk h1 h2 h3 h5 ⟨rfl, rfl⟩))
theorem Core.top (c : Core A H at_ bs s) {ρ : Loc} {a : Nat × Nat} (h0 : ρ 0 = some (.ref A.sc)) (sub : mSub H (.ref A.bl) (.int (-1)) = .ok (.ref a.1) H) : Ev N d ρ H (.sub (.attr (.loc 0) 48) (.con (.int (-1)))) (.ref a.1) :=
 Ev.sub (c.ev h0 rfl rfl) Ev.con sub
theorem Core.lenV (c : Core A H at_ bs s) {ρ : Loc} (h0 : ρ 0 = some (.ref A.sc)) : Ev N d ρ H (.callB .len (.attr (.loc 0) 47)) (.int s.vals.length) := by
 rw [← len_il]; exact Ev.len (c.ev h0 rfl rfl) (seqL c.vl)
theorem pop_any_spec (c : Core A H at_ bs s) (P : PostC A H at_ (relI bs) (popAny s) Q E) : (mCall tb.P FF N (d + 2) true 14 [.ref A.sc] H).wp Q E := by
 unfold popAny at P
 obtain ⟨b, hb, P⟩ := P.of
 obtain ⟨a, ha, h1, h2, sub⟩ := c.last hb
 refine W_call rfl rfl ?_
 simp only [Nat.reduceAdd]
 refine Wc.asgv (c.top rfl sub) ?_
 refine Wc.ifd (Ev.cmp (c.lenV rfl) (evB (Ev.loc rfl) h1 h2 rfl rfl) cmp_gt) (fun h => ?_) (fun h => ?_)
 · replace P := P.ifp (Int.ofNat_lt.mp h)
   refine Wc.ret (Ee.callM (c.ev rfl rfl rfl) (w_kindL c.vl rfl) Evs.nil ?_)
   obtain ⟨v, hv, P⟩ := P.of
   · refine w_pop c.vl (by rw [last_il, hv]; rfl) ?_
     rw [drop_il]
     exact P.done (c.setV _ (by rw [List.length_dropLast]; exact Nat.le_trans (Nat.sub_le _ _) c.hv)) (frc_setV c) ⟨rfl, rfl⟩
 · replace P := P.ifn (fun z => h (Int.ofNat_lt.mpr z))
   refine Wc.ifb (Ev.not (evB (Ev.loc rfl) h1 h2 rfl rfl)) (fun h => ?_) (fun h => ?_)
   · exact Wc.expr (c.fail rfl ((P.ifn (by simpa using h)) _ (FrC.refl _ _)))
   · exact Wc.retv (Ev.glob rfl) ((P.ifp (by simpa using h)).done c (FrC.refl _ _) ⟨rfl, rfl⟩)
end
end
section
section
variable {N d : Nat} {A : CA} {H : MH} {at_ : Int} {bs : List (Nat × Nat)} {s : CSt} {Q : MV → MH → Prop} {E : MExc → MH → Prop}
theorem pop_spec (c : Core A H at_ bs s) {k : Int} (P : PostC A H at_ (relI bs) (popP k s) Q E) : (mCall tb.P FF N (d + 3) true 15 [.ref A.sc, .int k] H).wp Q E := by
 refine W_call rfl rfl ?_
 simp only [Nat.reduceAdd]
 refine Wc.asg (c.callM rfl rfl rfl Evs.nil (pop_any_spec c (P.bindI (FrC.refl _ _) fun f s' H' c' fr P => ?_)))
 refine Wc.ifP (Ed.and3 (Ed.ne (Ev.loc rfl) (Ev.loc rfl)) (Ed.ne (Ev.loc rfl) (Ev.glob rfl)) (Ed.ne (Ev.loc rfl) (Ev.glob rfl))) (fun h => ?_) (fun h => ?_)
 · exact Wc.expr (c'.fail rfl ((P.ifp h) _ fr))
 · exact Wc.retv (Ev.loc rfl) ((P.ifn h).done c' fr ⟨rfl, rfl⟩)
theorem src_down {n : Nat} (h : n ≤ 16777216) : mSrc H .range [.int ((n : Int) - 1), .int (-1), .int (-1)] = some (.seq (rangeD ((n : Int) - 1) (-1))) := by
 have h' : (-1 : Int) ≤ (n : Int) - 1 ∧ (n : Int) - 1 ≤ 16777216 ∧ (-1 : Int) = -1 ∧ (-1 : Int) = -1 := by lia
 exact if_pos h'
theorem rangeD_succ (n : Nat) : rangeD (((n + 1 : Nat) : Int) - 1) (-1) = .int n :: rangeD ((n : Int) - 1) (-1) := by
 unfold rangeD
 have h1 : (((n + 1 : Nat) : Int) - 1 - -1).toNat = n + 1 := by lia
 have h2 : ((n : Int) - 1 - -1).toNat = n := by lia
 rw [h1, h2, List.range_succ_eq_map, List.map_cons, List.map_map]
 congr 1
 · congr 1; lia
 · refine List.map_congr_left fun j Z => ?_
   show MV.int _ = MV.int _
   congr 1
   simp only [Nat.succ_eq_add_one]; lia
noncomputable def relL (bs : List (Nat × Nat)) (A : CA) (H₀ : MH) : Rel (List Int) := fun l v H' bs' => bs' = bs ∧ ∃ i, v = .ref i ∧ H'[i]? = some (.list false (il l)) ∧ H₀.length ≤ i ∧ i ≠ A.vl ∧ i ≠ A.bl ∧ i ≠ A.kl ∧ i ≠ A.fl
theorem core_new (c : Core A H at_ bs s) : H.length ≠ A.vl ∧ H.length ≠ A.bl ∧ H.length ≠ A.kl ∧ H.length ≠ A.fl := by
 have h1 := lt_of c.vl
 have h2 := lt_of c.bl
 have h3 := lt_of c.kl
 have h4 := lt_of c.fl
 exact ⟨Nat.ne_of_gt h1, Nat.ne_of_gt h2, Nat.ne_of_gt h3, Nat.ne_of_gt h4⟩
theorem PostC.bindL {β : Type} {rel' : Rel β} {r : PR (List Int)} {f : List Int → CSt → PR β} {Q' : MV → MH → Prop} {H₀ : MH} (P : PostC A H₀ at_ rel' (r.bind f) Q' E) (fr : FrC A H₀ H)
   (k : ∀ l s' H' i, r = .ok l s' → Core A H' at_ bs s' → FrC A H H' → H'[i]? = some (.list false (il l)) → i ≠ A.vl ∧ i ≠ A.bl ∧ i ≠ A.kl ∧ i ≠ A.fl → PostC A H₀ at_ rel' (f l s') Q' E → Q (.ref i) H') : PostC A H at_ (relL bs A H) r Q E :=
 P.bindB fr fun a s' H' bs' v e0 c' f' e P => by obtain ⟨rfl, i, rfl, hi, _, hn⟩ := e; exact k a s' H' i e0 c' f' hi hn P
theorem popsR_step {k : Int} {l1 : List Int} {fs : List Int} {s' : CSt} {rel : Rel (List Int)} (P : PostC A H at_ rel ((popsR (l1 ++ [k]).reverse s').bind fun gs s => .ok (fs ++ gs).reverse s) Q E) :
   PostC A H at_ rel ((popP k s').bind fun f s => (popsR l1.reverse s).bind fun gs s => .ok (fs ++ f :: gs).reverse s) Q E := by
 rw [List.reverse_append] at P
 revert P
 show PostC A H at_ _ (((popP k s').bind fun f s => (popsR l1.reverse s).bind fun fs s => .ok (f :: fs) s).bind _) Q E → _
 cases popP k s' with
 | ok f s1 =>
   show PostC A H at_ _ (((popsR l1.reverse s1).bind fun fs s => .ok (f :: fs) s).bind _) Q E → PostC A H at_ _ ((popsR l1.reverse s1).bind _) Q E
   cases popsR l1.reverse s1 <;> exact fun P => P
 | fail w => exact fun P => P
 | big => exact fun P => P
structure PopI (A : CA) (H : MH) (at_ : Int) (bs : List (Nat × Nat)) (l : List Int) (Q : MV → MH → Prop) (E : MExc → MH → Prop) (l1 l2 fs : List Int) (s' : CSt) (vs : List MV) (ρ : Loc) (H' : MH) : Prop where
 e : l = l1 ++ l2
 v : vs = rangeD ((l1.length : Int) - 1) (-1)
 h0 : ρ 0 = some (.ref A.sc)
 h1 : ρ 1 = some (.tup (il l))
 h2 : ρ 2 = some (.ref H.length)
 c : Core A H' at_ bs s'
 fr : FrC A H H'
 hf : H'[H.length]? = some (.list false (il fs))
 hn : fs.length + l1.length = l.length
 P : PostC A H at_ (relL bs A H) ((popsR l1.reverse s').bind fun gs s => .ok (fs ++ gs).reverse s) Q E
theorem frc_own {H' : MH} {o : MObj} (fr : FrC A H H') : FrC A H (H'.set H.length o) := ⟨by rw [List.length_set]; exact fr.len, fun i o e n1 n2 n3 => set_get (fr.keep i o e n1 n2 n3) (Ne.symm (Nat.ne_of_lt (lt_of e)))⟩
theorem pop_turn {l l1 l2 fs : List Int} {k : Int} {s' : CSt} {vs : List MV} {ρ : Loc} {H' : MH} (cn : H.length ≠ A.vl ∧ H.length ≠ A.bl ∧ H.length ≠ A.kl ∧ H.length ≠ A.fl) (hl : l.length ≤ lim) (I : PopI A H at_ bs l Q E (l1 ++ [k]) l2 fs s' vs ρ H') {QS : MFlow → Loc → MH → Prop}
   (q : ∀ f s'' H'', PopI A H at_ bs l Q E l1 (k :: l2) (fs ++ [f]) s'' (rangeD ((l1.length : Int) - 1) (-1)) (upd ρ 3 (.int l1.length)) H'' → QS .next (upd ρ 3 (.int l1.length)) H'') :
   Wc N (d + 3) QS E [.expr (.callM (.loc 2) 0 [.callM (.loc 0) 1 [.sub (.loc 1) (.loc 3)]])] (upd ρ 3 (.int l1.length)) H' := by
 have e := I.e
 have hn := I.hn
 have hs : mSub H' (.tup (il l)) (.int l1.length) = .ok (.int k) H' := by
   refine evw (w_subT (j := l1.length) (v := .int k) (idx_nat ?_) ?_ ⟨rfl, rfl⟩)
   · rw [len_il, e, List.append_assoc, List.length_append]; exact Nat.lt_add_of_pos_right (Nat.succ_pos _)
   · rw [e]; simp [il]
 refine Wc.expr (Ee.callM1 (Ev.loc I.h2) (w_kindL I.hf rfl) (I.c.callM I.h0 rfl rfl (Evs.one (Ev.sub (Ev.loc I.h1) (Ev.loc rfl) hs)) ?_))
 refine pop_spec I.c ((popsR_step I.P).bindI I.fr fun f s'' H'' c'' fr' P => ?_)
 have hf' := fr'.keep _ _ I.hf cn.1 cn.2.1 (.inl rfl)
 refine w_append hf' (by rw [len_il]; unfold lim at hl; unfold sizeL; simp at hn; lia) (q f s'' _ ?_)
 rw [ints_app]
 exact ⟨by rw [e]; simp, rfl, I.h0, I.h1, I.h2, c''.setL hf' cn.1 cn.2.1 cn.2.2.1 cn.2.2.2, frc_own (I.fr.trans fr'), set_self hf', by simp at hn ⊢; lia, by simpa using P⟩
theorem pop_all_spec (c : Core A H at_ bs s) {l : List Int} (hl : l.length ≤ lim) (P : PostC A H at_ (relL bs A H) (popAll l s) Q E) : (mCall tb.P FF N (d + 4) true 16 [.ref A.sc, .tup (il l)] H).wp Q E := by
 have cn := core_new c
 have P0 : PostC A H at_ (relL bs A H) ((popsR l.reverse s).bind fun gs s => .ok ([] ++ gs).reverse s) Q E := P
 have hs : mSrc (H ++ [.list false []]) .range [.int ((il l).length - 1), .int (-1), .int (-1)] = some (.seq (rangeD ((l.length : Int) - 1) (-1))) := by
   rw [len_il]; exact src_down (by unfold lim at hl; lia)
 refine W_call rfl rfl ?_
 simp only [Nat.reduceAdd]
 refine Wc.asg (Ee.list Evs.nil (nle rfl) ?_)
 refine Wc.forS (Evs.cons (Ev.min (Ev.len (Ev.loc rfl) rfl) Ev.con) (Evs.cons Ev.con (Evs.one Ev.con))) hs (fun vs ρ H' => ∃ l1 l2 fs s', PopI A H at_ bs l Q E l1 l2 fs s' vs ρ H') (fun v vs ρ H' I => ?_) (fun ρ H' I => ?_)
   ⟨l, [], [], s, by simp, rfl, rfl, rfl, rfl, c.keep fun Z Z => app_get, frc_app, app_new, by simp, P0⟩
 · obtain ⟨l1, l2, fs, s', I⟩ := I
   have e2 := I.v
   rcases List.eq_nil_or_concat l1 with rfl | ⟨l1', k, rfl⟩
   · cases e2
   · rw [List.concat_eq_append] at *
     rw [List.length_append, List.length_singleton, rangeD_succ] at e2
     cases e2
     exact ⟨_, rfl, pop_turn cn hl I fun f s'' H'' I => ⟨l1', k :: l2, fs ++ [f], s'', I⟩⟩
 · obtain ⟨l1, l2, fs, s', I⟩ := I
   have e2 := I.v
   rcases List.eq_nil_or_concat l1 with rfl | ⟨l1', k, rfl⟩
   · refine Wc.expr (Ee.callM (Ev.loc I.h2) (w_kindL I.hf rfl) Evs.nil (w_reverse I.hf (Wc.retv (Ev.loc I.h2) ?_)))
     have hr : (il fs).reverse = il (fs ++ []).reverse := by simp [il]
     rw [hr]
     have P' : PostC A H at_ (relL bs A H) (.ok (fs ++ []).reverse s') Q E := I.P
     exact P'.done (bs' := bs) (I.c.setL I.hf cn.1 cn.2.1 cn.2.2.1 cn.2.2.2) (frc_own I.fr) ⟨rfl, _, rfl, set_self I.hf, Nat.le_refl _, cn⟩
   · rw [List.concat_eq_append, List.length_append, List.length_singleton, rangeD_succ] at e2
     cases e2
end
end
section
section
variable {P : Code} {H L : MH}
theorem setA_new {c k : Nat} {es : List (MV × MV)} {v : MV} (h3 : P.meth c k = none) (h6 : c ≠ P.excC) (h7 : es.length < 900) :
   mSetA P (H ++ .dict false es :: .inst c H.length :: L) (.ref (H.length + 1)) k v = some (H ++ .dict false (dSet (.str k) v es) :: .inst c H.length :: L) := by
 rw [setA app_new1 app_new h3 h6 h7, List.set_append_right _ _ (Nat.le_refl _), Nat.sub_self]
 rfl
end
section
variable {N d : Nat} {A : CA} {H : MH} {at_ : Int} {bs : List (Nat × Nat)} {s : CSt} {Q : MV → MH → Prop} {E : MExc → MH → Prop}
theorem new_blk {b : Blk} (hd : b.dead = false) (q : Q (.ref (H.length + 1)) (H ++ [.dict false (blkD b), .inst 2 H.length])) :
   (mNew tb.P (mCall tb.P FF N (d + 1) true) 2 [.int b.code, .tup (il b.par), .tup (il b.res), .int b.height, .bool b.buried] H).wp Q E := by
 refine R.wp_new (by decide) rfl (W_call rfl rfl ?_)
 simp only [Nat.reduceAdd]
 iterate 6 refine Wc.setA (by first | exact Ev.con | exact Ev.loc rfl) (Ev.loc rfl) (setA_new rfl (by decide) (nle rfl)) ?_
 refine Wc.nil ?_
 obtain ⟨_, _, _, _, dead, _⟩ := b
 subst hd
 exact ⟨rfl, q⟩
theorem last_cons {α : Type} {l : List α} {a : α} (h : l.getLast? = some a) : l = l.dropLast ++ [a] := by
 obtain ⟨ys, rfl⟩ := List.getLast?_eq_some_iff.mp h
 simp
theorem Core.setTop (c : Core A H at_ bs s) {a : Nat × Nat} {b b' : Blk} (ha : bs.getLast? = some a) (hb : s.blks.getLast? = some b) (hp : b'.par = b.par) (hr : b'.res = b.res) :
   Core A (H.set a.2 (.dict false (blkD b'))) at_ bs { s with blks := s.blks.dropLast ++ [b'] } := by
 have e1 := last_cons ha
 have e2 := last_cons hb
 have x := c.bk
 obtain ⟨a', ha', h1, h2⟩ := c.bk.last hb
 rw [ha] at ha'; cases ha'
 have nd : (A.dd :: bs.map (·.2)).Nodup := c.nd
 have nd2 : ∀ y ∈ bs.dropLast, a.2 ≠ y.2 := fun y m q => by
   rw [e1, List.map_append, List.nodup_cons] at nd
   have := (List.nodup_append.mp nd.2).2.2
   exact this y.2 (List.mem_map.mpr ⟨y, m, rfl⟩) a.2 (by simp) q.symm
 have nd3 : a.2 ≠ A.dd := fun q => (List.nodup_cons.mp nd).1 (by rw [← q, e1]; simp)
 have hk : Blks (H.set a.2 (.dict false (blkD b'))) bs (s.blks.dropLast ++ [b']) := by
   conv => arg 2; rw [e1]
   refine Blks.append (x.dropLast.mono fun y m o => ⟨fun e => set_get e (ne_of h2 (x.dropLast.inst y m).1 (by simp)), fun e => set_get e (nd2 y m)⟩) (set_get h1 (ne_of h2 h1 (by simp))) (set_self h2)
 refine { c with
   sc := set_get c.sc (ne_of h2 c.sc (by simp)), dd := set_get c.dd nd3, vl := set_get c.vl (ne_of h2 c.vl (by simp)), bl := set_get c.bl (ne_of h2 c.bl (by simp)), kl := set_get c.kl (ne_of h2 c.kl (by simp)), fl := set_get c.fl (ne_of h2 c.fl (by simp)), kn := set_get c.kn (ne_of h2 c.kn (by simp))
   bk := hk, hb := ⟨?_, fun y m => ?_⟩ }
 · have hl := congrArg List.length e2
   rw [List.length_append, List.length_singleton] at hl
   show (s.blks.dropLast ++ [b']).length ≤ lim
   rw [List.length_append, List.length_singleton, ← hl]; exact c.hb.1
 · rcases List.mem_append.mp m with m | m
   · exact c.hb.2 y (by rw [e2]; exact List.mem_append.mpr (.inl m))
   · rw [List.mem_singleton.mp m, hp, hr]
     exact c.hb.2 b (by rw [e2]; simp)
theorem frc_top (c : Core A H at_ bs s) {a : Nat × Nat} {b : Blk} {o : MObj} (ha : bs.getLast? = some a) (h2 : H[a.2]? = some (.dict false (blkD b))) : FrC A H (H.set a.2 o) := ⟨by simp, fun i o e Z Z h => set_get e fun q => by
 subst q
 rcases h with h | h
 · rw [h2] at e; cases e; cases h
 · have := c.lo.2.2.2 a (by rw [last_cons ha]; simp)
   lia⟩
structure KillI (A : CA) (H : MH) (at_ : Int) (bs : List (Nat × Nat)) (s : CSt) (a : Nat × Nat) (b : Blk) (vs : List Int) (n : Nat) (ρ : Loc) (H' : MH) : Prop where
 n : n = vs.length - b.height
 h0 : ρ 0 = some (.ref A.sc)
 h1 : ρ 1 = some (.ref a.1)
 c : Core A H' at_ bs { s with vals := vs }
 fr : FrC A H H'
 e1 : vs = s.vals.take vs.length
 e2 : s.vals.length ≤ b.height → vs = s.vals
 e3 : b.height ≤ s.vals.length → b.height ≤ vs.length
theorem kill_turn {a : Nat × Nat} {b : Blk} {vs : List Int} {n : Nat} {ρ : Loc} {H' : MH} {QS : MFlow → Loc → MH → Prop} (I : KillI A H at_ bs s a b vs n ρ H') (h : b.height < vs.length) (q : ∀ vs' m H'', m < n → KillI A H at_ bs s a b vs' m ρ H'' → QS .next ρ H'') :
   Wc N d QS E [.expr (.callM (.attr (.loc 0) 47) 1 [])] ρ H' := by
 have hne := pos_ne h
 refine Wc.expr (Ee.callM (I.c.ev I.h0 rfl rfl) (w_kindL I.c.vl rfl) Evs.nil (w_pop (v := .int (vs.getLast hne)) I.c.vl ?_ ?_))
 · rw [last_il, List.getLast?_eq_some_getLast hne]; rfl
 · rw [drop_il]
   have hl : vs.dropLast.length = vs.length - 1 := List.length_dropLast
   have e1 := I.e1
   have hn := I.n
   refine q vs.dropLast (vs.dropLast.length - b.height) _ (ar_turn h hn hl) ⟨rfl, I.h0, I.h1, I.c.setV vs.dropLast (by have := I.c.hv; rw [hl]; exact Nat.le_trans (Nat.sub_le _ _) this), I.fr.trans (frc_setV I.c), ?_, fun q => ?_, fun q => ?_⟩
   · rw [List.dropLast_eq_take, List.length_take]
     generalize hm : vs.length = m at e1
     subst e1
     rw [List.take_take]
   · have := I.e2 q; rw [this] at h; exact absurd q (Nat.not_le.mpr h)
   · exact ar_le h hl
theorem kill_spec (hN : 2000000 ≤ N) (c : Core A H at_ bs s) (P : PostC A H at_ (relU bs) (killP s) Q E) : (mCall tb.P FF N (d + 1) true 19 [.ref A.sc] H).wp Q E := by
 unfold killP at P
 obtain ⟨b, hb, P⟩ := P.of
 obtain ⟨a, ha, h1, h2, sub⟩ := c.last hb
 have hv := c.hv
 refine W_call rfl rfl ?_
 simp only [Nat.reduceAdd]
 refine Wc.asgv (c.top rfl sub) ?_
 refine Wc.whl (fun n ρ H' => ∃ vs, KillI A H at_ bs s a b vs n ρ H') (fun n ρ H' I => ?_) (n := s.vals.length - b.height) (ar_N hN hv rfl) ⟨s.vals, rfl, rfl, rfl, c, FrC.refl _ _, by simp, fun Z => rfl, fun h => h⟩
 obtain ⟨vs, I⟩ := I
 obtain ⟨a', ha', h1', h2'⟩ := I.c.bk.last (b := b) hb
 rw [ha] at ha'; cases ha'
 refine Ee.dec (Ed.conv (q := b.height < vs.length) (Ed.gt (I.c.lenV I.h0) (evB (Ev.loc I.h1) h1' h2' rfl rfl)) Int.ofNat_lt) (fun h => kill_turn I h fun vs' m H'' hm I => ⟨m, hm, vs', I⟩) (fun h => ?_)
 have ev : vs = s.vals.take b.height := by
   by_cases q : s.vals.length ≤ b.height
   · rw [I.e2 q, List.take_of_length_le q]
   · have := I.e3 (Nat.le_of_not_le q)
     rw [I.e1]; congr 1; exact Nat.le_antisymm (Nat.not_lt.mp h) this
 subst ev
 exact Wc.setA Ev.con (Ev.loc I.h1) (setA h1' h2' rfl (by decide) (nle rfl)) (Wc.nil (P.unit.done (I.c.setTop (b' := { b with dead := true }) ha hb rfl rfl) (I.fr.trans (frc_top I.c ha h2')) ⟨rfl, rfl⟩))
end
end
section
section
variable {N d : Nat} {A : CA} {H : MH} {at_ : Int} {bs : List (Nat × Nat)} {s : CSt} {Q : MV → MH → Prop} {E : MExc → MH → Prop}
theorem dead_or {b : Blk} {a : Nat × Nat} {ρ : Loc} {x : Nat} (h1 : H[a.1]? = some (.inst 2 a.2)) (h2 : H[a.2]? = some (.dict false (blkD b))) (hx : ρ x = some (.ref a.1)) : Ev N d ρ H (.bool false [.attr (.loc x) 42, .attr (.loc x) 43]) (.bool (b.dead || b.buried)) :=
 Ev.or (evB (Ev.loc hx) h1 h2 rfl rfl) fun Z => evB (Ev.loc hx) h1 h2 rfl rfl
noncomputable def relX (A : CA) (H : MH) : Rel Unit := fun Z v H' Z => v = .none ∧ ∀ (i : Nat) (o : MObj), i ≠ A.bl → H[i]? = some o → H'[i]? = some o
theorem blks_append (c : Core A H at_ bs s) {b : Blk} {C : Orc} {i dx : Nat} (h1 : H[i]? = some (.inst 2 dx)) (h2 : H[dx]? = some (.dict false (blkD b))) (hn : A.n0 ≤ dx) (hd : A.dd ≠ dx) (hb : ∀ a ∈ bs, a.2 ≠ dx) (P : PostC A H at_ (relX A H) (addBlk b s) Q E) :
   (mMeth C (.lm .append A.bl) (.ref A.bl) [.ref i] H).wp Q E := by
 unfold addBlk at P
 split at P
 · rename_i h
   refine w_append c.bl (by rw [List.length_map, c.bk.length]; have := h.1; unfold lim at this; unfold sizeL; lia) ?_
   have e : (bs.map fun b => MV.ref b.1) ++ [.ref i] = (bs ++ [(i, dx)]).map fun b => MV.ref b.1 := by simp
   rw [e]
   refine P.done (c.setB (ks := s.blks ++ [b]) (c.bk.append h1 h2) ?_ ?_ ⟨?_, ?_⟩) (frc_setB c) ⟨rfl, fun i o n e => set_get e (Ne.symm n)⟩
   · have nd := c.nd
     rw [List.nodup_cons] at nd ⊢
     rw [List.map_append]
     refine ⟨fun m => ?_, List.nodup_append.mpr ⟨nd.2, by simp, fun y m z mz q => ?_⟩⟩
     · rcases List.mem_append.mp m with m | m
       · exact nd.1 m
       · simp at m; exact hd m
     · obtain ⟨a, ma, rfl⟩ := List.mem_map.mp m
       simp at mz
       exact hb a ma (by rw [q, mz])
   · intro a m
     rcases List.mem_append.mp m with m | m
     · exact c.lo.2.2.2 a m
     · rw [List.mem_singleton.mp m]; exact hn
   · rw [List.length_append, List.length_singleton]; have := h.1; lia
   · intro y m
     rcases List.mem_append.mp m with m | m
     · exact c.hb.2 y m
     · rw [List.mem_singleton.mp m]; exact h.2
 · exact P.elim
theorem core_fresh (c : Core A H at_ bs s) : A.n0 ≤ H.length ∧ A.dd ≠ H.length ∧ ∀ a ∈ bs, a.2 ≠ H.length := by
 have h := lt_of c.dd
 have := c.lo.1
 refine ⟨by lia, by lia, fun a m => ?_⟩
 obtain ⟨_, es, q⟩ := c.bk.inst a m
 exact Nat.ne_of_lt (lt_of q)
theorem PostC.unit' {r : PR Unit} (P : PostC A H at_ relU' r Q E) : PostC A H at_ (relU bs) r (fun Z H => Q .none H) E := by
 cases r with
 | ok a s' => exact fun H' bs' v c f e => by obtain ⟨rfl, rfl⟩ := e; exact P H' _ _ c f rfl
 | fail w => exact P
 | big => exact P
theorem begin_spec (c : Core A H at_ bs s) {code : Int} {par res : List Int} (P : PostC A H at_ relU' (beginP code par res s) Q E) : (mCall tb.P FF N (d + 2) true 17 [.ref A.sc, .int code, .tup (il par), .tup (il res)] H).wp Q E := by
 unfold beginP at P
 obtain ⟨b, hb, P⟩ := P.of
 obtain ⟨a, ha, h1, h2, sub⟩ := c.last hb
 obtain ⟨f1, f2, f3⟩ := core_fresh c
 refine W_call rfl rfl ?_
 simp only [Nat.reduceAdd]
 refine Wc.asgv (c.top rfl sub) (Wc.asg (Ee.callC (Evs.cons (Ev.loc rfl) (Evs.cons (Ev.loc rfl) (Evs.cons (Ev.loc rfl) (Evs.cons (c.lenV rfl) (Evs.one (dead_or h1 h2 rfl)))))) (new_blk (b := ⟨code, par, res, s.vals.length, false, b.dead || b.buried⟩) rfl ?_)))
 have c1 : Core A (H ++ [.dict false (blkD ⟨code, par, res, s.vals.length, false, b.dead || b.buried⟩), .inst 2 H.length]) at_ bs s := c.keep fun Z Z => app_get
 refine Wc.expr (Ee.callM (c1.ev rfl rfl rfl) (w_kindL c1.bl rfl) (Evs.one (Ev.loc rfl)) (blks_append c1 app_new1 app_new f1 f2 f3 (PostC.bindB P frc_app fun Z s' H' bs' v e c' fr r P' => ?_)))
 exact Wc.expr (c'.callM rfl rfl rfl (Evs.one (Ev.loc rfl)) (push_all_spec c' (PostC.step (frc_app.trans fr) P').unit'))
noncomputable def relK (bs : List (Nat × Nat)) : Rel Blk := fun b v H' bs' => ∃ a, bs.getLast? = some a ∧ v = .ref a.1 ∧ bs' = bs.dropLast ∧ H'[a.1]? = some (.inst 2 a.2) ∧ H'[a.2]? = some (.dict false (blkD b))
theorem Core.popB (c : Core A H at_ bs s) {a : Nat × Nat} (ha : bs.getLast? = some a) : Core A (H.set A.bl (.list false (bs.map fun b => MV.ref b.1).dropLast)) at_ bs.dropLast { s with blks := s.blks.dropLast } := by
 have el : (bs.map fun b => MV.ref b.1).dropLast = bs.dropLast.map fun b => MV.ref b.1 := by rw [List.map_dropLast]
 rw [el]
 have nd := c.nd
 rw [last_cons ha, List.map_append, List.nodup_cons] at nd
 refine c.setB (ks := s.blks.dropLast) c.bk.dropLast ?_ (fun y m => c.lo.2.2.2 y ((List.dropLast_sublist _).subset m)) ⟨?_, fun y m => c.hb.2 y ((List.dropLast_sublist _).subset m)⟩
 · rw [List.nodup_cons]
   exact ⟨fun m => nd.1 (List.mem_append.mpr (.inl m)), (List.nodup_append.mp nd.2).1⟩
 · rw [List.length_dropLast]; exact Nat.le_trans (Nat.sub_le _ _) c.hb.1
theorem close_spec (c : Core A H at_ bs s) (P : PostC A H at_ (relK bs) (closeP s) Q E) : (mCall tb.P FF N (d + 5) true 18 [.ref A.sc] H).wp Q E := by
 unfold closeP at P
 obtain ⟨b, hb, P⟩ := P.of
 obtain ⟨a, ha, h1, h2, sub⟩ := c.last hb
 refine W_call rfl rfl ?_
 simp only [Nat.reduceAdd]
 refine Wc.asgv (c.top rfl sub) (Wc.expr (c.callM rfl rfl rfl (Evs.one (evB (Ev.loc rfl) h1 h2 rfl rfl)) ?_))
 refine pop_all_spec c (c.hb.2 b (by rw [last_cons hb]; simp)).2 (P.bindL (FrC.refl _ _) fun fs s' H' i e c' fr hi Z P => ?_)
 obtain ⟨a', ha', h1', h2'⟩ := c'.bk.last (b := b) (by rw [popAll_blks e]; exact hb)
 rw [ha] at ha'; cases ha'
 refine Wc.ifP (Ed.conv (q := s'.vals.length ≠ b.height) (Ed.ne (c'.lenV rfl) (evB (Ev.loc rfl) h1' h2' rfl rfl)) (not_congr Int.ofNat_inj)) (fun h => ?_) (fun h => ?_)
 · exact Wc.expr (c'.fail rfl ((P.ifp h) _ fr))
 · refine Wc.expr (Ee.callM (c'.ev rfl rfl rfl) (w_kindL c'.bl rfl) Evs.nil (w_pop (v := .ref a.1) c'.bl (by rw [List.getLast?_map, ha]; rfl) (Wc.retv (Ev.loc rfl) ?_)))
   exact (P.ifn h).done (c'.popB ha) (fr.trans (frc_setB c')) ⟨a, ha, rfl, rfl, set_get h1' (ne_of c'.bl h1' (by simp)), set_get h2' (ne_of c'.bl h2' (by simp))⟩
theorem label_spec {a : Nat × Nat} {b : Blk} (h1 : H[a.1]? = some (.inst 2 a.2)) (h2 : H[a.2]? = some (.dict false (blkD b))) (q : Q (.tup (il b.label)) H) : (mCall tb.P FF N (d + 1) true 9 [.ref a.1] H).wp Q E := by
 refine W_call rfl rfl ?_
 simp only [Nat.reduceAdd]
 refine Wc.retv (Ev.ite (Ed.eq (evB (Ev.loc rfl) h1 h2 rfl rfl) (Ev.glob rfl)) (fun Z => evB (Ev.loc rfl) h1 h2 rfl rfl) (fun Z => evB (Ev.loc rfl) h1 h2 rfl rfl)) ?_
 unfold Blk.label at q
 by_cases h : b.code = 3
 · rw [if_pos h] at q ⊢; exact q
 · rw [if_neg h] at q ⊢; exact q
theorem in_range {ρ : Loc} {i : Int} {n : Nat} {e : CE} (hi : ρ 1 = some (.int i)) (he : Ev N d ρ H e (.int n)) : Ed N d ρ H (.not (.cmp (.con (.int 0)) [.le, .lt] [.loc 1, e])) (¬ (0 ≤ i ∧ i < n)) := Ed.not (Ed.lelt Ev.con (Ev.loc hi) he)
theorem Core.lenB (c : Core A H at_ bs s) {ρ : Loc} (h0 : ρ 0 = some (.ref A.sc)) : Ev N d ρ H (.callB .len (.attr (.loc 0) 48)) (.int s.blks.length) := by
 rw [← c.bk.length, ← List.length_map (as := bs) (f := fun b => MV.ref b.1)]; exact Ev.len (c.ev h0 rfl rfl) (seqL c.bl)
theorem down_eq {n : Nat} {l : Int} (h1 : 0 ≤ l) (h2 : l < n) : (n : Int) - 1 - l = ((n - 1 - l.toNat : Nat) : Int) := by
 have e := ar_dnI ((Int.toNat_lt h1).mpr h2)
 rw [Int.toNat_of_nonneg h1] at e
 exact e
theorem down_lt {n : Nat} {l : Int} (h1 : 0 ≤ l) (h2 : l < n) : n - 1 - l.toNat < n := ar_dn (Int.natCast_pos.mp (Int.lt_of_le_of_lt h1 h2))
theorem idx_in {i : Int} {n : Nat} (h : 0 ≤ i ∧ i < n) : idx i n = some i.toNat := by unfold idx; rw [if_pos h.1, if_pos h.2]
theorem target_spec (c : Core A H at_ bs s) {l : Int} (P : PostC A H at_ (fun l v Z bs' => v = .tup (il l) ∧ bs' = bs) (targetP l s) Q E) : (mCall tb.P FF N (d + 2) true 20 [.ref A.sc, .int l] H).wp Q E := by
 have hl := c.bk.length
 refine W_call rfl rfl ?_
 simp only [Nat.reduceAdd]
 refine Wc.ifP (in_range rfl (c.lenB rfl)) (fun h => ?_) (fun h => ?_)
 · exact Wc.expr (c.fail rfl ((P.ifn h) _ (FrC.refl _ _)))
 · have h := Classical.not_not.mp h
   replace P := P.ifp h
   obtain ⟨b, hb, P⟩ := P.of
   · obtain ⟨a, ha, h1, h2⟩ := c.bk.get hb
     have hs : mSub H (.ref A.bl) (.int (s.blks.length - 1 - l)) = .ok (.ref a.1) H := by
       rw [down_eq h.1 h.2]
       exact evw (w_subL (v := .ref a.1) c.bl (idx_nat (by rw [List.length_map, hl]; exact down_lt h.1 h.2)) (by rw [List.getElem?_map, ha]; rfl) ⟨rfl, rfl⟩)
     exact Wc.ret (Ee.callM (Ev.sub (c.ev rfl rfl rfl) (Ev.min (Ev.min (c.lenB rfl) Ev.con) (Ev.loc rfl)) hs) (w_kindF h1 h2 rfl rfl (by decide)) Evs.nil (label_spec h1 h2 (P.done c (FrC.refl _ _) ⟨rfl, rfl⟩)))
theorem kinds_get (c : Core A H at_ bs s) {i : Int} {k : List Int × List Int} (h : 0 ≤ i ∧ i < A.env.kinds.length) (e : A.env.kinds[i.toNat]? = some k) : mSub H (.ref A.kl) (.int i) = .ok (kindMV k) H :=
 evw (w_subL (j := i.toNat) (v := kindMV k) c.kl (by rw [List.length_map]; exact idx_in h) (by rw [List.getElem?_map, e]; rfl) ⟨rfl, rfl⟩)
theorem Core.lenK (c : Core A H at_ bs s) {ρ : Loc} (h0 : ρ 0 = some (.ref A.sc)) : Ev N d ρ H (.callB .len (.attr (.loc 0) 44)) (.int A.env.kinds.length) := by
 rw [← List.length_map (as := A.env.kinds) (f := kindMV)]; exact Ev.len (c.ev h0 rfl rfl) (seqL c.kl)
theorem type_at_spec (c : Core A H at_ bs s) {i : Int} (P : PostC A H at_ (fun k v Z bs' => v = kindMV k ∧ bs' = bs) (typeAtP A.env i s) Q E) : (mCall tb.P FF N (d + 2) true 22 [.ref A.sc, .int i] H).wp Q E := by
 refine W_call rfl rfl ?_
 simp only [Nat.reduceAdd]
 refine Wc.ifP (in_range rfl (c.lenK rfl)) (fun h => ?_) (fun h => ?_)
 · exact Wc.expr (c.fail rfl ((P.ifn h) _ (FrC.refl _ _)))
 · have h := Classical.not_not.mp h
   replace P := P.ifp h
   cases e : A.env.kinds[i.toNat]? with
   | none => rw [e] at P; exact P.elim
   | some k =>
     rw [e] at P
     exact Wc.retv (Ev.sub (c.ev rfl rfl rfl) (Ev.loc rfl) (kinds_get c h e)) (P.done c (FrC.refl _ _) ⟨rfl, rfl⟩)
theorem func_at_spec (c : Core A H at_ bs s) {i : Int} (P : PostC A H at_ (fun k v Z bs' => v = kindMV k ∧ bs' = bs) (funcAtP A.env i s) Q E) : (mCall tb.P FF N (d + 3) true 23 [.ref A.sc, .int i] H).wp Q E := by
 have hl : Ev N (d + 2) (upd (upd (fun Z => none) 0 (.ref A.sc)) 1 (.int i)) H (.callB .len (.attr (.loc 0) 45)) (.int A.env.funcs.length) := by
   rw [← len_il]; exact Ev.len (c.ev rfl rfl rfl) (seqL c.fl)
 refine W_call rfl rfl ?_
 simp only [Nat.reduceAdd]
 refine Wc.ifP (in_range rfl hl) (fun h => ?_) (fun h => ?_)
 · exact Wc.expr (c.fail rfl ((P.ifn h) _ (FrC.refl _ _)))
 · have h := Classical.not_not.mp h
   replace P := P.ifp h
   cases e : A.env.funcs[i.toNat]? with
   | none => rw [e] at P; exact P.elim
   | some f =>
     rw [e] at P
     exact Wc.ret (c.callM rfl rfl rfl (Evs.one (Ev.sub (c.ev rfl rfl rfl) (Ev.loc rfl) (evw (w_subL (j := i.toNat) (v := .int f) c.fl (by rw [len_il]; exact idx_in h) (by simp [il, e]) ⟨rfl, rfl⟩)))) (type_at_spec c P))
theorem local_at_spec (c : Core A H at_ bs s) {i : Int} (P : PostC A H at_ (relI bs) (localAtP A.env i s) Q E) : (mCall tb.P FF N (d + 2) true 24 [.ref A.sc, .int i] H).wp Q E := by
 have hl : Ev N (d + 1) (upd (upd (fun Z => none) 0 (.ref A.sc)) 1 (.int i)) H (.callB .len (.attr (.loc 0) 46)) (.int A.env.locs.length) := by
   rw [← len_il]; exact Ev.len (c.ev rfl rfl rfl) rfl
 refine W_call rfl rfl ?_
 simp only [Nat.reduceAdd]
 refine Wc.ifP (in_range rfl hl) (fun h => ?_) (fun h => ?_)
 · exact Wc.expr (c.fail rfl ((P.ifn h) _ (FrC.refl _ _)))
 · have h := Classical.not_not.mp h
   replace P := P.ifp h
   cases e : A.env.locs[i.toNat]? with
   | none => rw [e] at P; exact P.elim
   | some k =>
     rw [e] at P
     exact Wc.retv (Ev.sub (c.ev rfl rfl rfl) (Ev.loc rfl) (evw (w_subT (j := i.toNat) (v := .int k) (by rw [len_il]; exact idx_in h) (by simp [il, e]) ⟨rfl, rfl⟩))) (P.done c (FrC.refl _ _) ⟨rfl, rfl⟩)
end
end
section
theorem cmp_inD {H : MH} {a : Int} (h : H[0]? = some (.dict true knD)) : mComp H .isin (.int a) (.ref 0) = some (decide (a ∈ ([-1, -2, -16, -17] : List Int))) := by
 refine map_eq (bind_eq h rfl) ?_
 show (if (-1 == a) = true then some _ else if (-2 == a) = true then some _ else if (-16 == a) = true then some _ else if (-17 == a) = true then some _ else none : Option MV).isSome = _
 have k : ∀ b : Int, (b == a) = decide (a = b) := fun b => Bool.eq_iff_iff.mpr (by rw [beq_iff_eq, decide_eq_true_eq]; exact eq_comm)
 rw [k, k, k, k]
 by_cases h1 : a = -1
 · subst h1; rfl
 by_cases h2 : a = -2
 · subst h2; rfl
 by_cases h3 : a = -16
 · subst h3; rfl
 by_cases h4 : a = -17
 · subst h4; rfl
 rw [decide_eq_false h1, decide_eq_false h2, decide_eq_false h3, decide_eq_false h4]
 exact (decide_eq_false fun m => by
   rcases List.mem_cons.mp m with m | m
   · exact h1 m
   rcases List.mem_cons.mp m with m | m
   · exact h2 m
   rcases List.mem_cons.mp m with m | m
   · exact h3 m
   · exact h4 (List.mem_singleton.mp m)).symm
section
variable {N d : Nat} {A : CA} {H : MH} {at_ : Int} {bs : List (Nat × Nat)} {s : CSt} {Q : MV → MH → Prop} {E : MExc → MH → Prop}
theorem bk_spec (c : Core A H at_ bs s) {t : Int} (q : Q (match blockKind A.env t with | some k => kindMV k | none => .none) H) : (mCall tb.P FF N (d + 1) true 2 [.ref A.kl, .int t] H).wp Q E := by
 unfold blockKind at q
 refine W_call rfl rfl ?_
 simp only [Nat.reduceAdd]
 refine Wc.ifP (Ed.eq (Ev.loc rfl) (Ev.glob rfl)) (fun h => ?_) (fun h => ?_)
 · rw [if_pos h] at q
   exact Wc.retv (v := kindMV ([], [])) rfl q
 rw [if_neg h] at q
 refine Wc.ifP (Ed.lt (Ev.loc rfl) Ev.con) (fun h => ?_) (fun h => ?_)
 · rw [if_pos h] at q
   refine Wc.retv (Ev.ite (Ed.c (Ev.loc rfl) (Ev.glob rfl) (cmp_inD c.kn)) (fun Z => Evs.tup (Evs.cons (Evs.tup Evs.nil (nle rfl)) (Evs.one (Evs.tup (Evs.one (Ev.loc rfl)) (nle rfl)))) (nle rfl)) (fun Z => Ev.con)) ?_
   by_cases h : t ∈ [-1, -2, -16, -17]
   · rw [if_pos h] at q ⊢; exact q
   · rw [if_neg h] at q ⊢; exact q
 · rw [if_neg h] at q
   have hl : Ev N d (upd (upd (fun Z => none) 0 (.ref A.kl)) 1 (.int t)) H (.callB .len (.loc 0)) (.int A.env.kinds.length) := by
     rw [← List.length_map (as := A.env.kinds) (f := kindMV)]; exact Ev.len (Ev.loc rfl) (seqL c.kl)
   by_cases g : t < A.env.kinds.length
   · rw [if_pos g] at q
     have hi : t.toNat < A.env.kinds.length := (Int.toNat_lt (Int.not_lt.mp h)).mpr g
     rw [List.getElem?_eq_getElem hi] at q
     exact Wc.retv (Ev.iteT ((Ed.lt (Ev.loc rfl) hl).1 g) (Ev.sub (Ev.loc rfl) (Ev.loc rfl) (kinds_get c ⟨Int.not_lt.mp h, g⟩ (List.getElem?_eq_getElem hi)))) q
   · rw [if_neg g] at q
     exact Wc.retv (Ev.iteF ((Ed.lt (Ev.loc rfl) hl).2 g) Ev.con) q
theorem block_kind_spec (c : Core A H at_ bs s) {t : Int} (P : PostC A H at_ (fun k v Z bs' => v = kindMV k ∧ bs' = bs) (blockKindP A.env t s) Q E) : (mCall tb.P FF N (d + 2) true 21 [.ref A.sc, .int t] H).wp Q E := by
 unfold blockKindP at P
 refine W_call rfl rfl ?_
 simp only [Nat.reduceAdd]
 refine Wc.asg (Ee.callF (Evs.cons (c.ev rfl rfl rfl) (Evs.one (Ev.loc rfl))) (bk_spec c ?_))
 cases e : blockKind A.env t with
 | none =>
   rw [e] at P
   exact Wc.ifb (Ev.cmp (Ev.loc rfl) Ev.con cmp_isN) (fun Z => Wc.expr (c.fail rfl (P _ (FrC.refl _ _)))) fun h => nomatch h
 | some k =>
   rw [e] at P
   exact Wc.ifb (Ev.cmp (Ev.loc rfl) Ev.con cmp_isT) (fun h => nomatch h) fun Z => Wc.retv (Ev.loc rfl) (P.done c (FrC.refl _ _) ⟨rfl, rfl⟩)
noncomputable def rowMV (r : Int × Int × List Int × List Int) : MV := .tup [.int r.1, .int r.2.1, .tup (il r.2.2.1), .tup (il r.2.2.2)]
theorem number_kind_spec {code : Int} (q : Q (match numberIn code numbersT with | some k => kindMV k | none => .none) H) : (mCall tb.P FF N (d + 1) true 3 [.int code] H).wp Q E := by
 refine W_call rfl rfl ?_
 simp only [Nat.reduceAdd]
 refine Wc.forS (Evs.one (Ev.glob rfl)) rfl (fun vs ρ H' => ∃ t, vs = List.map rowMV t ∧ H' = H ∧ ρ 0 = some (.int code) ∧ Q (match numberIn code t with | some k => kindMV k | none => .none) H) (fun v vs ρ H' I => ?_) (fun ρ H' I => ?_) ⟨numbersT, rfl, rfl, rfl, q⟩
 · obtain ⟨t, e, rfl, h0, q⟩ := I
   cases t with
   | nil => cases e
   | cons r t =>
     cases e
     obtain ⟨lo, hi, p, r⟩ := r
     refine ⟨_, rfl, Wc.ifP (Ed.lele (Ev.loc rfl) (Ev.loc h0) (Ev.loc rfl)) (fun h => ?_) (fun h => ?_)⟩
     · rw [show numberIn code ((lo, hi, p, r) :: t) = some (p, r) from if_pos h] at q
       exact Wc.retv (Evs.tup (Evs.cons (Ev.loc rfl) (Evs.one (Ev.loc rfl))) (nle rfl)) q
     · rw [show numberIn code ((lo, hi, p, r) :: t) = numberIn code t from if_neg h] at q
       exact Wc.nil ⟨t, rfl, rfl, h0, q⟩
 · obtain ⟨t, e, rfl, h0, q⟩ := I
   cases t with
   | cons r t => cases e
   | nil => exact Wc.retv Ev.con q
theorem is_in_spec {f : Nat} {g : List Nat} {l : List Int} {a : Int} {fn : Fn} (hF : FF f = some fn) (hp : fn.params = [0]) (hb : fn.body = [.ret (.cmp (.loc 0) [.isin] [.tup (g.map .glob)])]) (hg : Evs N d (upd (fun Z => none) 0 (.int a)) H (g.map .glob) (il l))
   (hl : l.length ≤ 10) (q : Q (.bool (decide (a ∈ l))) H) : (mCall tb.P FF N (d + 1) true f [.int a] H).wp Q E := by
 obtain ⟨pr, body⟩ := fn
 subst hp hb
 exact W_call hF rfl (Wc.retv (Ev.cmp (Ev.loc rfl) (Evs.tup hg (by rw [len_il]; unfold sizeL; lia)) cmp_inT) q)
theorem is_block_spec {a : Int} (q : Q (.bool (decide (a ∈ ([2, 3, 4] : List Int)))) H) : (mCall tb.P FF N (d + 1) true 4 [.int a] H).wp Q E :=
 is_in_spec (g := [6, 7, 8]) (l := [2, 3, 4]) rfl rfl rfl rfl (by decide) q
theorem is_num_spec {a : Int} (q : Q (.bool (isNum a)) H) : (mCall tb.P FF N (d + 1) true 7 [.int a] H).wp Q E :=
 is_in_spec (g := [0, 1, 11]) (l := [-1, -2, 0]) rfl rfl rfl rfl (by decide) q
theorem is_kind_spec {a : Int} (h : H[0]? = some (.dict true knD)) (q : Q (.bool (decide (a ∈ ([-1, -2, -16, -17] : List Int)))) H) : (mCall tb.P FF N (d + 1) true 1 [.int a] H).wp Q E := by
 refine W_call rfl rfl ?_
 simp only [Nat.reduceAdd]
 exact Wc.retv (Ev.cmp (Ev.loc rfl) (Ev.glob rfl) (cmp_inD h)) q
theorem numberIn_small {code : Int} {k : List Int × List Int} : ∀ t : List (Int × Int × List Int × List Int), (∀ r ∈ t, r.2.2.1.length ≤ 2) → numberIn code t = some k → k.1.length ≤ 2 := fun t => by
 induction t with
 | nil => intro _ h; cases h
 | cons r t ih =>
   intro h1 h2
   obtain ⟨lo, hi, p, q⟩ := r
   rcases Decidable.em (lo ≤ code ∧ code ≤ hi) with g | g
   · cases (if_pos g).symm.trans h2; exact h1 _ (.head _)
   · exact ih (fun r m => h1 r (.tail _ m)) ((if_neg g).symm.trans h2)
theorem number_spec (c : Core A H at_ bs s) {code : Int} (P : PostC A H at_ (relU bs) (numberP code s) Q E) : (mCall tb.P FF N (d + 5) true 28 [.ref A.sc, .int code] H).wp Q E := by
 unfold numberP at P
 refine W_call rfl rfl ?_
 simp only [Nat.reduceAdd]
 refine Wc.asg (Ee.callF (Evs.one (Ev.loc rfl)) (number_kind_spec ?_))
 cases e : numberIn code numbersT with
 | none =>
   rw [e] at P
   exact Wc.ifb (Ev.cmp (Ev.loc rfl) Ev.con cmp_isN) (fun Z => Wc.expr (c.fail rfl (P _ (FrC.refl _ _)))) fun h => nomatch h
 | some k =>
   rw [e] at P
   refine Wc.ifb (Ev.cmp (Ev.loc rfl) Ev.con cmp_isT) (fun h => nomatch h) fun Z => ?_
   refine Wc.expr (c.callM rfl rfl rfl (Evs.one (Ev.sub (Ev.loc rfl) Ev.con (v := .tup (il k.1)) rfl)) ?_)
   refine pop_all_spec c (Nat.le_trans (numberIn_small numbersT (by decide) e) (by decide)) (P.bindL (FrC.refl _ _) fun fs s' H' i e c' fr Z Z P => ?_)
   exact Wc.expr (c'.callM rfl rfl rfl (Evs.one (Ev.sub (Ev.loc rfl) Ev.con (v := .tup (il k.2)) rfl)) (push_all_spec c' (PostC.step fr P).unit))
end
end
section
section
variable {N d : Nat} {A : CA} {H : MH} {at_ : Int} {bs : List (Nat × Nat)} {s : CSt} {Q : MV → MH → Prop} {E : MExc → MH → Prop}
theorem relU'_of {r : PR Unit} (P : PostC A H at_ relU' r Q E) : PostC A H at_ relU' r (fun Z H => Q .none H) E := by
 cases r with
 | ok a s' => exact fun H' bs' v c f e => by cases e; exact P H' _ _ c f rfl
 | fail w => exact P
 | big => exact P
theorem end_spec (c : Core A H at_ bs s) (P : PostC A H at_ relU' (endP s) Q E) : (mCall tb.P FF N (d + 6) true 31 [.ref A.sc] H).wp Q E := by
 refine W_call rfl rfl ?_
 simp only [Nat.reduceAdd]
 refine Wc.asg (c.callM rfl rfl rfl Evs.nil (close_spec c (PostC.bindB P (FrC.refl _ _) fun b s' H' bs' v e c' fr r P => ?_)))
 obtain ⟨a, ha, rfl, rfl, h1, h2⟩ := r
 refine Wc.ifP (Ed.and (Ed.eq (evB (Ev.loc rfl) h1 h2 rfl rfl) (Ev.glob rfl)) fun Z => Ed.cne (evB (Ev.loc rfl) h1 h2 rfl rfl) (evB (Ev.loc rfl) h1 h2 rfl rfl) cmp_neT) (fun g => ?_) (fun g => ?_)
 · exact Wc.expr (c'.fail rfl ((P.ifp g) _ fr))
 · replace P := P.ifn g
   refine Wc.ifP (Ed.conv (q := 0 < s'.blks.length) (Ed.gt (c'.lenB rfl) Ev.con) Int.natCast_pos) (fun g => ?_) (fun g => ?_)
   · exact Wc.expr (c'.callM rfl rfl rfl (Evs.one (evB (Ev.loc rfl) h1 h2 rfl rfl)) (push_all_spec c' (PostC.step fr (P.ifp g)).unit'))
   · exact Wc.nil ((relU'_of (P.ifn g)).done c' fr rfl)
theorem other_spec (c : Core A H at_ bs s) (P : PostC A H at_ relU' (otherP s) Q E) : (mCall tb.P FF N (d + 6) true 30 [.ref A.sc] H).wp Q E := by
 unfold otherP at P
 obtain ⟨b, hb, P⟩ := P.of
 obtain ⟨a, ha, h1, h2, sub⟩ := c.last hb
 refine W_call rfl rfl ?_
 simp only [Nat.reduceAdd]
 refine Wc.asgv (evB (c.top rfl sub) h1 h2 rfl rfl) (Wc.ifP (Ed.ne (evB (c.top rfl sub) h1 h2 rfl rfl) (Ev.glob rfl)) (fun g => ?_) (fun g => ?_))
 · exact Wc.expr (c.fail rfl ((P.ifp g) _ (FrC.refl _ _)))
 refine Wc.asg (c.callM rfl rfl rfl Evs.nil (close_spec c ((P.ifn g).bindB (FrC.refl _ _) fun k s' H' bs' v e c' fr r P => ?_)))
 obtain ⟨a', ha', rfl, rfl, h1', h2'⟩ := r
 obtain ⟨f1, f2, f3⟩ := core_fresh c'
 have k1 := app_get (l := [.dict false (blkD ⟨5, k.par, k.res, s'.vals.length, false, b.buried⟩), .inst 2 H'.length]) h1'
 have k2 := app_get (l := [.dict false (blkD ⟨5, k.par, k.res, s'.vals.length, false, b.buried⟩), .inst 2 H'.length]) h2'
 have c1 : Core A (H' ++ [.dict false (blkD ⟨5, k.par, k.res, s'.vals.length, false, b.buried⟩), .inst 2 H'.length]) at_ bs.dropLast s' := c'.keep fun Z Z => app_get
 refine Wc.expr (Ee.callM1 (c'.ev rfl rfl rfl) (w_kindL c'.bl rfl) (Ee.callC (Evs.cons (Ev.glob rfl) (Evs.cons (evB (Ev.loc rfl) h1' h2' rfl rfl) (Evs.cons (evB (Ev.loc rfl) h1' h2' rfl rfl) (Evs.cons (c'.lenV rfl) (Evs.one (Ev.loc rfl))))))
   (new_blk (b := ⟨5, k.par, k.res, s'.vals.length, false, b.buried⟩) rfl ?_)))
 have P2 : PostC A H at_ relU' ((addBlk ⟨5, k.par, k.res, s'.vals.length, false, b.buried⟩ s').bind fun Z s => pushAll k.par s) Q E := P
 refine blks_append c1 app_new1 app_new f1 f2 f3 (P2.bindB (fr.trans frc_app) fun Z s'' H'' bs'' v e c'' fr2 r P'' => ?_)
 obtain ⟨rfl, keep⟩ := r
 exact Wc.expr (c''.callM rfl rfl rfl (Evs.one (evB (Ev.loc rfl) (keep _ _ (ne_of k1 c1.bl (by simp)) k1) (keep _ _ (ne_of k2 c1.bl (by simp)) k2) rfl rfl)) (push_all_spec c'' (PostC.step ((fr.trans frc_app).trans fr2) P'').unit'))
theorem call_spec (hN : 2000000 ≤ N) (c : Core A H at_ bs s) {k : List Int × List Int} {tail : Bool} (hk : k.1.length ≤ lim) (P : PostC A H at_ (relU bs) (callP A.env k tail s) Q E) : (mCall tb.P FF N (d + 5) true 33 [.ref A.sc, kindMV k, .bool tail] H).wp Q E := by
 refine W_call rfl rfl ?_
 simp only [Nat.reduceAdd]
 refine Wc.asgTv (Ev.loc rfl) rfl (Wc.ifP (Ed.and (Ed.b (Ev.loc rfl)) fun Z => Ed.cne (Ev.loc rfl) (c.ev rfl rfl rfl) cmp_neT) (fun g => ?_) (fun g => ?_))
 · exact Wc.expr (c.fail rfl ((P.ifp g) _ (FrC.refl _ _)))
 refine Wc.expr (c.callM rfl rfl rfl (Evs.one (Ev.loc rfl)) (pop_all_spec c hk ((P.ifn g).bindL (FrC.refl _ _) fun fs s' H' i e c' fr Z Z P => ?_)))
 refine Wc.ifP (Ed.b (Ev.loc rfl)) (fun h => ?_) (fun h => ?_)
 · exact Wc.expr (c'.callM rfl rfl rfl Evs.nil (kill_spec hN c' (PostC.step fr (P.ifp h)).unit))
 · exact Wc.expr (c'.callM rfl rfl rfl (Evs.one (Ev.loc rfl)) (push_all_spec c' (PostC.step fr (P.ifn h)).unit))
end
end
section
section
variable {N d : Nat} {A : CA} {H : MH} {at_ : Int} {bs : List (Nat × Nat)} {s : CSt} {Q : MV → MH → Prop} {E : MExc → MH → Prop}
theorem sub0 {code : Int} {rest : List Int} (q : Q (.int code) H) : (mSub H (.tup (il (code :: rest))) (.int 0)).wp Q E :=
 w_subT (j := 0) (v := .int code) (idx_nat (j := 0) (by rw [len_il]; exact Nat.succ_pos _)) rfl q
theorem sub1 {code l : Int} {rest : List Int} (h : rest[0]? = some l) (q : Q (.int l) H) : (mSub H (.tup (il (code :: rest))) (.int 1)).wp Q E := by
 have := (List.getElem?_eq_some_iff.mp h).1
 exact w_subT (j := 1) (v := .int l) (idx_nat (j := 1) (by rw [len_il]; exact Nat.succ_lt_succ (List.getElem?_eq_some_iff.mp h).1)) (by simp [il, h]) q
theorem subLast {l : Int} {ins : List Int} (h : ins.getLast? = some l) (q : Q (.int l) H) : (mSub H (.tup (il ins)) (.int (-1))).wp Q E := by
 have hn : ins.length ≠ 0 := fun e => by rw [List.length_eq_zero_iff.mp e] at h; cases h
 refine w_subT (j := ins.length - 1) (v := .int l) ?_ ?_ q
 · rw [len_il]; exact idx_lst hn
 · rw [List.getLast?_eq_getElem?] at h
   simp [il, h]
theorem subAt {l : Int} {ins : List Int} {j : Nat} (h : ins[j]? = some l) (q : Q (.int l) H) : (mSub H (.tup (il ins)) (.int j)).wp Q E := by
 exact w_subT (j := j) (v := .int l) (idx_nat (by rw [len_il]; exact (List.getElem?_eq_some_iff.mp h).1)) (by simp [il, h]) q
theorem label_len (c : Core A H at_ bs s) {l : Int} {s' : CSt} {v : List Int} (h : targetP l s = .ok v s') : v.length ≤ lim := by
 obtain ⟨_, b, m, rfl⟩ := targetP_ok h
 unfold Blk.label
 split
 · exact (c.hb.2 b m).1
 · exact (c.hb.2 b m).2
theorem src_up {a b : Nat} (h : a ≤ 16777216 ∧ b ≤ 16777217) : mSrc H .range [.int a, .int ((b : Int) - 1)] = some (.seq (rangeL a ((b : Int) - 1))) := by
 have h' : 0 ≤ (a : Int) ∧ (a : Int) ≤ 16777216 ∧ -16777216 ≤ (b : Int) - 1 ∧ (b : Int) - 1 ≤ 16777216 := ⟨Int.natCast_nonneg a, Int.ofNat_le.mpr h.1, Int.le_sub_right_of_add_le (Int.le_trans (by decide) (Int.natCast_nonneg b)), Int.sub_right_le_of_le_add (Int.ofNat_le.mpr h.2)⟩
 exact if_pos h'
theorem rangeL_one (n : Nat) : rangeL ((1 : Nat) : Int) (((n + 1 : Nat) : Int) - 1) = (List.range (n - 1)).map fun (j : Nat) => MV.int ((j + 1 : Nat) : Int) := by
 unfold rangeL
 rw [show (((n + 1 : Nat) : Int) - 1) = n from Int.add_sub_cancel (n : Int) 1, Int.toNat_sub n 1]
 exact List.map_congr_left fun j Z => congrArg MV.int (Int.add_comm _ _)
theorem sub0v {ρ : Loc} {x : Nat} {code : Int} {rest : List Int} (h : ρ x = some (.tup (il (code :: rest)))) : Ev N d ρ H (.sub (.loc x) (.con (.int 0))) (.int code) := Ev.sub (Ev.loc h) Ev.con (evw (sub0 ⟨rfl, rfl⟩))
theorem sub1v {ρ : Loc} {x : Nat} {code l : Int} {rest : List Int} (h : ρ x = some (.tup (il (code :: rest)))) (hl : rest[0]? = some l) : Ev N d ρ H (.sub (.loc x) (.con (.int 1))) (.int l) := Ev.sub (Ev.loc h) Ev.con (evw (sub1 hl ⟨rfl, rfl⟩))
theorem lenT {ρ : Loc} {x : Nat} {l : List Int} (h : ρ x = some (.tup (il l))) : Ev N d ρ H (.callB .len (.loc x)) (.int l.length) := by rw [← len_il]; exact Ev.len (Ev.loc h) rfl
theorem Core.callM1 (c : Core A H at_ bs s) {ρ : Loc} {k f : Nat} {e : CE} (h0 : ρ 0 = some (.ref A.sc)) (h3 : tb.P.meth 3 k = some f) (h5 : dGet (.str k) (scD A at_) = none)
   (h : Ee N d E ρ H e fun x H => (mCall tb.P FF N d true f [.ref A.sc, x] H).wp Q E) : Ee N d E ρ H (.callM (.loc 0) k [e]) Q :=
 Ee.callM1 (Ev.loc h0) (c.kind h3 h5) h
theorem PostC.bindT {β : Type} {rel' : Rel β} {r : PR (List Int)} {f : List Int → CSt → PR β} {Q' : MV → MH → Prop} {H₀ : MH} (P : PostC A H₀ at_ rel' (r.bind f) Q' E) (fr : FrC A H₀ H)
   (k : ∀ a s' H', r = .ok a s' → Core A H' at_ bs s' → FrC A H H' → PostC A H₀ at_ rel' (f a s') Q' E → Q (.tup (il a)) H') : PostC A H at_ (fun l v Z bs' => v = .tup (il l) ∧ bs' = bs) r Q E :=
 P.bindB fr fun a s' H' bs' v e c' f' h P => by obtain ⟨rfl, rfl⟩ := h; exact k a s' H' e c' f' P
theorem tables_step {l : Int} {ls last : List Int} {s' : CSt} {rel : Rel Unit} {g : Unit → CSt → PR Unit} (P : PostC A H at_ rel ((tablesP (l :: ls) last s').bind g) Q E) :
   PostC A H at_ rel ((targetP l s').bind fun ks s => if ks.length ≠ last.length then .fail 50 else (popAll ks s).bind fun fs s => (pushAll fs s).bind fun Z s => (tablesP ls last s).bind g) Q E := by
 revert P
 show PostC A H at_ _ (((targetP l s').bind fun ks s => if ks.length ≠ last.length then .fail 50 else (popAll ks s).bind fun fs s => (pushAll fs s).bind fun Z s => tablesP ls last s).bind _) Q E → _
 cases targetP l s' with
 | fail w => exact fun P => P
 | big => exact fun P => P
 | ok ks s =>
   show PostC A H at_ _ ((if ks.length ≠ last.length then .fail 50 else (popAll ks s).bind fun fs s => (pushAll fs s).bind fun Z s => tablesP ls last s).bind _) Q E → PostC A H at_ _ (if ks.length ≠ last.length then .fail 50 else _) Q E
   split
   · exact fun P => P
   · cases popAll ks s with
     | fail w => exact fun P => P
     | big => exact fun P => P
     | ok fs s =>
       show PostC A H at_ _ (((pushAll fs s).bind fun Z s => tablesP ls last s).bind _) Q E → PostC A H at_ _ ((pushAll fs s).bind _) Q E
       cases pushAll fs s <;> exact fun P => P
structure BrI (A : CA) (H : MH) (at_ : Int) (bs : List (Nat × Nat)) (code : Int) (rest last : List Int) (Q : MV → MH → Prop) (E : MExc → MH → Prop) (j : Nat) (s' : CSt) (ρ : Loc) (H' : MH) : Prop where
 r0 : ρ 0 = some (.ref A.sc)
 r1 : ρ 1 = some (.tup (il (code :: rest)))
 r4 : ρ 4 = some (.tup (il last))
 c : Core A H' at_ bs s'
 fr : FrC A H H'
 P : PostC A H at_ (relU bs) ((tablesP (rest.dropLast.drop j) last s').bind fun Z s => (popAll last s).bind fun Z s => killP s) Q E
theorem br_turn (hN : 2000000 ≤ N) {code : Int} {rest last : List Int} {j : Nat} {s' : CSt} {ρ : Loc} {H' : MH} (I : BrI A H at_ bs code rest last Q E j s' ρ H') (hj : j < rest.length - 1) {QS : MFlow → Loc → MH → Prop}
   (q : ∀ ρ' s'' H'', BrI A H at_ bs code rest last Q E (j + 1) s'' ρ' H'' → QS .next ρ' H'') :
   Wc N (d + 4) QS E [.asg 3 (.callM (.loc 0) 17 [.sub (.loc 1) (.loc 5)]), .ifs (.cmp (.callB .len (.loc 3)) [.ne] [.callB .len (.loc 4)]) [.expr (.callM (.loc 0) 9 [.con (.str 50)])] [], .expr (.callM (.loc 0) 11 [.callM (.loc 0) 13 [.loc 3]])] (upd ρ 5 (.int ((j + 1 : Nat) : Int))) H' := by
 have hd : rest.dropLast.length = rest.length - 1 := List.length_dropLast
 have P := I.P
 rw [List.drop_eq_getElem_cons (Nat.lt_of_lt_of_eq hj hd.symm)] at P
 have hg : (code :: rest)[j + 1]? = some (rest.dropLast[j]'(Nat.lt_of_lt_of_eq hj hd.symm)) := by
   rw [List.getElem?_cons_succ, List.getElem_dropLast, List.getElem?_eq_getElem (Nat.lt_of_lt_of_le hj (Nat.sub_le _ _))]
 refine Wc.asg (I.c.callM I.r0 rfl rfl (Evs.one (Ev.sub (Ev.loc I.r1) (Ev.loc rfl) (evw (subAt hg ⟨rfl, rfl⟩)))) (target_spec I.c ((tables_step P).bindT I.fr fun ks s2 H2 e2 c2 fr2 P => ?_)))
 have hks := label_len I.c e2
 refine Wc.ifP (Ed.conv (q := ks.length ≠ last.length) (Ed.ne (lenT rfl) (lenT I.r4)) (not_congr Int.ofNat_inj)) (fun g => ?_) (fun g => ?_)
 · exact Wc.expr (c2.fail I.r0 ((P.ifp g) _ (I.fr.trans fr2)))
 · refine Wc.expr (c2.callM1 I.r0 rfl rfl (c2.callM I.r0 rfl rfl (Evs.one (Ev.loc rfl)) (pop_all_spec c2 hks ((P.ifn g).bindL (I.fr.trans fr2) fun fs s3 H3 i e3 c3 fr3 hi3 ni P => ?_))))
   refine push_allL_spec hN c3 hi3 ni.1 ni.2.1 (by rw [popAll_len e3]; exact hks) (P.bindU ((I.fr.trans fr2).trans fr3) fun Z s4 H4 c4 fr4 P => ?_)
   exact q _ _ _ ⟨I.r0, I.r1, I.r4, c4, ((I.fr.trans fr2).trans fr3).trans fr4, P⟩
theorem branch_spec (hN : 2000000 ≤ N) (c : Core A H at_ bs s) {ins : List Int} (hi : ins.length ≤ lim) (P : PostC A H at_ (relU bs) (branchP ins s) Q E) : (mCall tb.P FF N (d + 5) true 32 [.ref A.sc, .tup (il ins)] H).wp Q E := by
 cases ins with
 | nil => exact P.elim
 | cons code rest =>
 refine W_call rfl rfl ?_
 simp only [Nat.reduceAdd]
 refine Wc.asgv (sub0v rfl) (Wc.ifP (Ed.eq (Ev.loc rfl) Ev.con) (fun g => ?_) (fun g => ?_))
 · obtain ⟨l, hl, P⟩ := (P.ifp g).of
   refine Wc.expr (c.callM1 rfl rfl rfl (c.callM rfl rfl rfl (Evs.one (sub1v rfl hl)) (target_spec c (P.bindT (FrC.refl _ _) fun ks s1 H1 e c1 fr1 P => ?_))))
   refine pop_all_spec c1 (label_len c e) (P.bindL fr1 fun fs s2 H2 i e c2 fr2 Z Z P => ?_)
   exact Wc.expr (c2.callM rfl rfl rfl Evs.nil (kill_spec hN c2 (PostC.step (fr1.trans fr2) P).unit))
 replace P := P.ifn g
 refine Wc.ifP (Ed.eq (Ev.loc rfl) Ev.con) (fun g => ?_) (fun g => ?_)
 · refine Wc.expr (c.callM rfl rfl rfl (Evs.one (Ev.glob rfl)) (pop_spec c ((P.ifp g).bindI (FrC.refl _ _) fun ks s0 H0 c0 fr0 P => ?_)))
   obtain ⟨l, hl, P⟩ := P.of
   refine Wc.asg (c0.callM rfl rfl rfl (Evs.one (sub1v rfl hl)) (target_spec c0 (P.bindT fr0 fun ks s1 H1 e c1 fr1 P => ?_)))
   refine Wc.expr (c1.callM rfl rfl rfl (Evs.one (Ev.loc rfl)) (pop_all_spec c1 (label_len c0 e) (P.bindL (fr0.trans fr1) fun fs s2 H2 i e c2 fr2 Z Z P => ?_)))
   exact Wc.expr (c2.callM rfl rfl rfl (Evs.one (Ev.loc rfl)) (push_all_spec c2 (PostC.step ((fr0.trans fr1).trans fr2) P).unit))
 refine Wc.expr (c.callM rfl rfl rfl (Evs.one (Ev.glob rfl)) (pop_spec c ((P.ifn g).bindI (FrC.refl _ _) fun ks s0 H0 c0 fr0 P => ?_)))
 obtain ⟨l, hl, P⟩ := P.of
 refine Wc.asg (c0.callM rfl rfl rfl (Evs.one (Ev.sub (Ev.loc rfl) Ev.con (evw (subLast hl ⟨rfl, rfl⟩)))) (target_spec c0 (P.bindT fr0 fun last s1 H1 e c1 fr1 P => ?_)))
 have hlast := label_len c0 e
 have hs := src_up (H := H1) (a := 1) (b := (code :: rest).length) ⟨by decide, by unfold lim at hi; lia⟩
 rw [List.length_cons, rangeL_one] at hs
 refine Wc.forS (Evs.cons Ev.con (Evs.one (Ev.min (lenT rfl) Ev.con))) hs (fun vs ρ H' => ∃ j s', vs = ((List.range (rest.length - 1)).drop j).map (fun (j : Nat) => MV.int ((j + 1 : Nat) : Int)) ∧ BrI A H at_ bs code rest last Q E j s' ρ H')
   (fun v vs ρ H' I => ?_) (fun ρ H' I => ?_) ⟨0, s1, rfl, rfl, rfl, rfl, c1, fr0.trans fr1, P⟩
 · obtain ⟨j, s', e1, I⟩ := I
   by_cases hj : j < rest.length - 1
   · rw [List.drop_eq_getElem_cons (by rw [List.length_range]; exact hj), List.map_cons, List.getElem_range] at e1
     cases e1
     exact ⟨_, rfl, br_turn hN I hj fun ρ' s'' H'' I => ⟨j + 1, s'', rfl, I⟩⟩
   · rw [List.drop_eq_nil_of_le (by rw [List.length_range]; lia)] at e1
     cases e1
 · obtain ⟨j, s', e1, I⟩ := I
   have hj : rest.length - 1 ≤ j := by
     by_cases hj : j < rest.length - 1
     · rw [List.drop_eq_getElem_cons (by rw [List.length_range]; exact hj)] at e1; cases e1
     · lia
   have P := I.P
   rw [List.drop_eq_nil_of_le (by rw [List.length_dropLast]; exact hj)] at P
   have P : PostC A H at_ (relU bs) ((popAll last s').bind fun Z s => killP s) Q E := P
   refine Wc.expr (I.c.callM I.r0 rfl rfl (Evs.one (Ev.loc I.r4)) (pop_all_spec I.c hlast (P.bindL I.fr fun fs s2 H2 i e2 c2 fr2 Z Z P => ?_)))
   exact Wc.expr (c2.callM I.r0 rfl rfl Evs.nil (kill_spec hN c2 (PostC.step (I.fr.trans fr2) P).unit))
end
end
section
section
variable {N d : Nat} {A : CA} {H : MH} {at_ : Int} {bs : List (Nat × Nat)} {s : CSt} {Q : MV → MH → Prop} {E : MExc → MH → Prop}
theorem three (t : Int) : ([t, t, -1] : List Int).length ≤ lim := by
 show 3 ≤ 1000000
 lia
theorem pop3 (c : Core A H at_ bs s) {t : Int} (P : PostC A H at_ (relL bs A H) (popAll [t, t, -1] s) Q E) : (mCall tb.P FF N (d + 4) true 16 [.ref A.sc, .tup (il [t, t, -1])] H).wp Q E :=
 pop_all_spec c (three t) P
theorem select_spec (c : Core A H at_ bs s) {ins : List Int} (hi : ins.length ≤ lim) (P : PostC A H at_ (relU bs) (selectP ins s) Q E) : (mCall tb.P FF N (d + 5) true 35 [.ref A.sc, .tup (il ins)] H).wp Q E := by
 cases ins with
 | nil => exact P.elim
 | cons code rest =>
 refine W_call rfl rfl ?_
 simp only [Nat.reduceAdd]
 refine Wc.ifP (Ed.eq (sub0v rfl) Ev.con) (fun g => ?_) (fun g => ?_)
 · replace P := P.ifp g
   refine Wc.ifP (Ed.conv (q := (code :: rest).length ≠ 2) (Ed.ne (lenT rfl) Ev.con) (not_congr Int.ofNat_inj)) (fun h => ?_) (fun h => ?_)
   · exact Wc.expr (c.fail rfl ((P.ifp h) _ (FrC.refl _ _)))
   obtain ⟨t, ht, P⟩ := (P.ifn h).of
   refine Wc.ifs (wE_not (Ee.callF (Evs.one (sub1v rfl ht)) (is_kind_spec c.kn (tv_dec (fun h => ?_) (fun h => ?_)))))
   · replace P := P.ifn (fun q => q h)
     refine Wc.expr (c.callM rfl rfl rfl (Evs.one (Evs.tup (Evs.cons (sub1v rfl ht) (Evs.cons (sub1v rfl ht) (Evs.one (Ev.glob rfl)))) (nle rfl))) (pop3 c (P.bindL (FrC.refl _ _) fun fs s2 H2 i e c2 fr2 Z Z P => ?_)))
     exact Wc.expr (c2.callM rfl rfl rfl (Evs.one (sub1v rfl ht)) (push_spec c2 (PostC.step fr2 P).unit))
   · exact Wc.expr (c.fail rfl ((P.ifp h) _ (FrC.refl _ _)))
 refine Wc.expr (c.callM rfl rfl rfl (Evs.one (Ev.glob rfl)) (pop_spec c ((P.ifn g).bindI (FrC.refl _ _) fun ks s0 H0 c0 fr0 P => ?_)))
 refine Wc.asg (c0.callM rfl rfl rfl Evs.nil (pop_any_spec c0 (P.bindI fr0 fun one s1 H1 c1 fr1 P => ?_)))
 refine Wc.asg (c1.callM rfl rfl rfl Evs.nil (pop_any_spec c1 (P.bindI (fr0.trans fr1) fun two s2 H2 c2 fr2 P => ?_)))
 have fr := (fr0.trans fr1).trans fr2
 clear c c0 c1 fr0 fr1 fr2
 have nums : ∀ {R : MV → MH → Prop}, ((isNum one = false ∨ isNum two = false) → R (.bool true) H2) → (¬ (isNum one = false ∨ isNum two = false) → R (.bool false) H2) → Ee N (d + 4) E (upd (upd (upd (upd (fun Z => none) 0 (.ref A.sc)) 1 (.tup (il (code :: rest)))) 2 (.int one)) 3 (.int two)) H2
     (.bool false [.not (.callF 7 [.loc 2]), .not (.callF 7 [.loc 3])]) R := fun {R} h1 h2 => by
   refine wE_bool (wB_or (wE_not (Ee.callF (Evs.one (Ev.loc rfl)) (is_num_spec ?_))))
   cases e1 : isNum one with
   | false => exact h1 (.inl e1)
   | true =>
     refine tv_true (tv_false (wB_or (wE_not (Ee.callF (Evs.one (Ev.loc rfl)) (is_num_spec ?_)))))
     cases e2 : isNum two with
     | false => exact h1 (.inr e2)
     | true => exact h2 (by rw [e1, e2]; decide)
 refine Wc.ifs (nums (fun h => Wc.expr (c2.fail rfl ((P.ifp h) _ fr))) fun h => ?_)
 replace P := P.ifn h
 refine Wc.ifP (Ed.and3 (Ed.ne (Ev.loc rfl) (Ev.loc rfl)) (Ed.ne (Ev.loc rfl) (Ev.glob rfl)) (Ed.ne (Ev.loc rfl) (Ev.glob rfl))) (fun h => ?_) (fun h => ?_)
 · exact Wc.expr (c2.fail rfl ((P.ifp h) _ fr))
 · refine Wc.expr (c2.callM rfl rfl rfl (Evs.one (v := .int (if one = 0 then two else one)) ?_) (push_spec c2 (PostC.step fr (P.ifn h)).unit))
   by_cases h : one = 0
   · rw [if_pos h]; exact Ev.iteT ((Ed.eq (Ev.loc rfl) (Ev.glob rfl)).1 h) (Ev.loc rfl)
   · rw [if_neg h]; exact Ev.iteF ((Ed.eq (Ev.loc rfl) (Ev.glob rfl)).2 h) (Ev.loc rfl)
end
end
section
section
variable {N d : Nat} {A : CA} {H : MH} {at_ : Int} {bs : List (Nat × Nat)} {s : CSt} {Q : MV → MH → Prop} {E : MExc → MH → Prop}
theorem local_spec (c : Core A H at_ bs s) {ins : List Int} (hi : ins.length ≤ lim) (P : PostC A H at_ (relU bs) (localP A.env ins s) Q E) : (mCall tb.P FF N (d + 6) true 34 [.ref A.sc, .tup (il ins)] H).wp Q E := by
 cases ins with
 | nil => exact P.elim
 | cons code rest =>
 refine W_call rfl rfl ?_
 simp only [Nat.reduceAdd]
 refine Wc.asgv (sub0v rfl) ?_
 refine Wc.ifP (Ed.eq (Ev.loc rfl) Ev.con) (fun g => ?_) (fun g => ?_)
 · refine Wc.expr (c.callM rfl rfl rfl Evs.nil ?_)
   exact pop_any_spec c ((P.ifp g).bindI (FrC.refl _ _) fun ks s0 H0 c0 fr0 P => Wc.nil (P.unit.done c0 fr0 ⟨rfl, rfl⟩))
 replace P := P.ifn g
 refine Wc.ifP (Ed.c (Ev.loc rfl) (Evs.tup (vs := [.int 27, .int 28]) rfl (nle rfl)) (cmp_inT (l := [27, 28]))) (fun g => ?_) (fun g => ?_)
 · exact Wc.expr (c.callM rfl rfl rfl (Evs.one (Ev.loc rfl)) (select_spec c hi (P.ifp g).unit))
 replace P := P.ifn g
 refine Wc.ifP (Ed.lt (Ev.loc rfl) Ev.con) (fun g => ?_) (fun g => ?_)
 · exact Wc.expr (c.fail rfl ((P.ifp g) _ (FrC.refl _ _)))
 replace P := P.ifn g
 obtain ⟨l, hl, P⟩ := P.of
 refine Wc.asg (c.callM rfl rfl rfl (Evs.one (sub1v rfl hl)) ?_)
 refine local_at_spec c (P.bindI (FrC.refl _ _) fun k s0 H0 c0 fr0 P => ?_)
 have fin : ∀ (H1 : MH) (s1 : CSt), Core A H1 at_ bs s1 → FrC A H H1 → PostC A H at_ (relU bs) (if code ≠ 33 then pushP k s1 else .ok () s1) Q E →
     Wc N (d + 5) (Qc Q) E [.ifs (.cmp (.loc 2) [.ne] [.con (.int 33)]) [.expr (.callM (.loc 0) 10 [.loc 3])] []] (upd (upd (upd (upd (fun Z => none) 0 (.ref A.sc)) 1 (.tup (il (code :: rest)))) 2 (.int code)) 3 (.int k)) H1 := fun H1 s1 c1 fr P => by
   refine Wc.ifP (Ed.ne (Ev.loc rfl) Ev.con) (fun h => ?_) (fun h => ?_)
   · exact Wc.expr (c1.callM rfl rfl rfl (Evs.one (Ev.loc rfl)) (push_spec c1 (PostC.step fr (P.ifp h)).unit))
   · exact Wc.nil ((P.ifn h).unit.done c1 fr ⟨rfl, rfl⟩)
 refine Wc.ifP (Ed.ne (Ev.loc rfl) Ev.con) (fun h => ?_) (fun h => ?_)
 · replace P := P.ifpb h
   refine Wc.expr (c0.callM rfl rfl rfl (Evs.one (Ev.loc rfl)) ?_)
   exact pop_spec c0 (P.bindI fr0 fun ks s1 H1 c1 fr1 P => fin _ _ c1 (fr0.trans fr1) P)
 · exact fin _ _ c0 fr0 (P.ifnb h)
theorem more_spec (c : Core A H at_ bs s) {v : MV} (P : E ⟨.str 49, .int A.env.fn, .int at_⟩ H) : (mCall tb.P FF N (d + 2) true 27 [.ref A.sc, v] H).wp Q E := by
 refine W_call rfl rfl ?_
 simp only [Nat.reduceAdd]
 exact Wc.expr (c.fail rfl P)
end
end
section
structure EnvL (e : CEnv) : Prop where
 kinds : ∀ k ∈ e.kinds, k.1.length ≤ lim ∧ k.2.length ≤ lim
 res : e.res.length ≤ lim
theorem blockKind_len {e : CEnv} (he : EnvL e) {t : Int} {k : List Int × List Int} (h : blockKind e t = some k) : k.1.length ≤ lim := by
 unfold blockKind at h
 repeat' (split at h)
 all_goals first | (cases h; exact Nat.zero_le _) | (cases h; done) | skip
 exact (he.kinds k (List.mem_of_getElem? h)).1
theorem funcAt_len {e : CEnv} (he : EnvL e) {i : Int} {s s' : CSt} {k : List Int × List Int} (h : funcAtP e i s = .ok k s') : k.1.length ≤ lim := by
 unfold funcAtP at h
 split at h
 · obtain ⟨f, s1, h1, h2⟩ := PR.bind_ok h
   unfold typeAtP at h2
   split at h2
   · exact (he.kinds k (List.mem_of_getElem? (PR.of_ok h2).2)).1
   · cases h2
 · cases h
section
variable {N d : Nat} {A : CA} {H : MH} {at_ : Int} {bs : List (Nat × Nat)} {s : CSt} {Q : MV → MH → Prop} {E : MExc → MH → Prop}
theorem PostC.weak {r : PR Unit} (P : PostC A H at_ relU' r Q E) (bs : List (Nat × Nat)) : PostC A H at_ (relU bs) r Q E := by
 cases r with
 | ok a s' => exact fun H' bs' v c f e => P H' bs' v c f e.1
 | fail w => exact P
 | big => exact P
theorem PostC.bindK {β : Type} {rel' : Rel β} {r : PR (List Int × List Int)} {f : List Int × List Int → CSt → PR β} {Q' : MV → MH → Prop} {H₀ : MH} (P : PostC A H₀ at_ rel' (r.bind f) Q' E) (fr : FrC A H₀ H)
   (k : ∀ a s' H', r = .ok a s' → Core A H' at_ bs s' → FrC A H H' → PostC A H₀ at_ rel' (f a s') Q' E → Q (kindMV a) H') : PostC A H at_ (fun k v Z bs' => v = kindMV k ∧ bs' = bs) r Q E :=
 P.bindB fr fun a s' H' bs' v e c' f' h P => by obtain ⟨rfl, rfl⟩ := h; exact k a s' H' e c' f' P
theorem Core.callM2 (c : Core A H at_ bs s) {ρ : Loc} {k f : Nat} {e e' : CE} (h0 : ρ 0 = some (.ref A.sc)) (h3 : tb.P.meth 3 k = some f) (h5 : dGet (.str k) (scD A at_) = none)
   (h : Ee N d E ρ H e fun x H => ∃ y, Ev N d ρ H e' y ∧ (mCall tb.P FF N d true f [.ref A.sc, x, y] H).wp Q E) : Ee N d E ρ H (.callM (.loc 0) k [e, e']) Q :=
 wE_callM (wE_loc h0 ⟨_, c.kind h3 h5, wEs_cons (R.wp_mono h (fun x H h => by obtain ⟨y, hy, h⟩ := h; exact wEs_cons (Ee.v hy (wEs_nil h))) fun Z Z h => h)⟩)
theorem begin_all {code : Int} {rest : List Int} (he : EnvL A.env) {H0 : MH} {s0 : CSt} (c0 : Core A H0 at_ bs s0) (fr0 : FrC A H H0) (P : PostC A H at_ relU' ((PR.of s0 rest[0]?).bind fun t s => (blockKindP A.env t s).bind fun k s => (popAll k.1 s).bind fun Z s => beginP code k.1 k.2 s) Q E) :
   Wc N (d + 6) (Qc Q) E [.asgT [3, 4] (.callM (.loc 0) 18 [.sub (.loc 1) (.con (.int 1))]), .expr (.callM (.loc 0) 13 [.loc 3]), .expr (.callM (.loc 0) 14 [.loc 2, .loc 3, .loc 4])]
     (upd (upd (upd (fun Z => none) 0 (.ref A.sc)) 1 (.tup (il (code :: rest)))) 2 (.int code)) H0 := by
 obtain ⟨t, ht, P⟩ := P.of
 refine Wc.asgT (c0.callM rfl rfl rfl (Evs.one (sub1v rfl ht)) (block_kind_spec c0 (P.bindK fr0 fun k s1 H1 e c1 fr1 P => ?_)))
 have hk : k.1.length ≤ lim := by
   unfold blockKindP at e
   cases hk' : blockKind A.env t with
   | some k' => rw [hk'] at e; cases e; exact blockKind_len he hk'
   | none => rw [hk'] at e; cases e
 refine ⟨_, rfl, Wc.expr (c1.callM rfl rfl rfl (Evs.one (Ev.loc rfl)) (pop_all_spec c1 hk (P.bindL (fr0.trans fr1) fun fs s2 H2 i e c2 fr2 Z Z P => ?_)))⟩
 exact Wc.expr (c2.callM rfl rfl rfl (Evs.cons (Ev.loc rfl) (Evs.cons (Ev.loc rfl) (Evs.one (Ev.loc rfl)))) (begin_spec c2 (relU'_of (PostC.step ((fr0.trans fr1).trans fr2) P))))
theorem control_spec (hN : 2000000 ≤ N) (he : EnvL A.env) (c : Core A H at_ bs s) {ins : List Int} (hi : ins.length ≤ lim) (P : PostC A H at_ relU' (controlP A.env ins s) Q E) : (mCall tb.P FF N (d + 7) true 29 [.ref A.sc, .tup (il ins)] H).wp Q E := by
 cases ins with
 | nil => exact P.elim
 | cons code rest =>
 refine W_call rfl rfl ?_
 simp only [Nat.reduceAdd]
 refine Wc.asgv (sub0v rfl) (Wc.ifP (Ed.eq (Ev.loc rfl) Ev.con) (fun g => ?_) (fun g => ?_))
 · exact Wc.expr (c.callM rfl rfl rfl Evs.nil (kill_spec hN c ((P.ifp g).weak bs).unit))
 replace P := P.ifn g
 refine Wc.ifs (Ee.callF (Evs.one (Ev.loc rfl)) (is_block_spec (tv_dec (fun g => ?_) (fun g => ?_))))
 · replace P := P.ifp g
   refine Wc.ifP (Ed.eq (Ev.loc rfl) (Ev.glob rfl)) (fun h => ?_) (fun h => ?_)
   · exact Wc.expr (c.callM rfl rfl rfl (Evs.one (Ev.glob rfl)) (pop_spec c ((P.ifpb h).bindI (FrC.refl _ _) fun ks s1 H1 c1 fr1 P => begin_all he c1 fr1 P)))
   · exact begin_all he c (FrC.refl _ _) (P.ifnb h)
 replace P := P.ifn g
 refine Wc.ifP (Ed.eq (Ev.loc rfl) (Ev.glob rfl)) (fun g => ?_) (fun g => ?_)
 · exact Wc.expr (c.callM rfl rfl rfl Evs.nil (other_spec c (relU'_of (P.ifp g))))
 replace P := P.ifn g
 refine Wc.ifP (Ed.eq (Ev.loc rfl) Ev.con) (fun g => ?_) (fun g => ?_)
 · exact Wc.expr (c.callM rfl rfl rfl Evs.nil (end_spec c (relU'_of (P.ifp g))))
 replace P := P.ifn g
 refine Wc.ifP (Ed.c (Ev.loc rfl) (Evs.tup (vs := [.int 12, .int 13, .int 14]) rfl (nle rfl)) (cmp_inT (l := [12, 13, 14]))) (fun g => ?_) (fun g => ?_)
 · exact Wc.expr (c.callM rfl rfl rfl (Evs.one (Ev.loc rfl)) (branch_spec hN c hi ((P.ifp g).weak bs).unit))
 replace P := P.ifn g
 refine Wc.ifP (Ed.eq (Ev.loc rfl) Ev.con) (fun g => ?_) (fun g => ?_)
 · refine Wc.expr (c.callM rfl rfl rfl (Evs.one (c.ev rfl rfl rfl)) (pop_all_spec c he.res ((P.ifp g).bindL (FrC.refl _ _) fun fs s1 H1 i e c1 fr1 Z Z P => ?_)))
   exact Wc.expr (c1.callM rfl rfl rfl Evs.nil (kill_spec hN c1 ((PostC.step fr1 P).weak bs).unit))
 replace P := P.ifn g
 refine Wc.ifP (Ed.ge (Ev.loc rfl) Ev.con) (fun g => ?_) (fun g => ?_)
 · obtain ⟨t, ht, P⟩ := (P.ifp g).of
   refine Wc.expr (c.callM2 rfl rfl rfl (c.callM rfl rfl rfl (Evs.one (sub1v rfl ht)) (func_at_spec c (P.bindK (FrC.refl _ _) fun k s1 H1 e c1 fr1 P => ?_))))
   exact ⟨_, Ev.cmp (Ev.loc rfl) Ev.con cmp_eq, call_spec hN c1 (funcAt_len he e) ((PostC.step fr1 P).weak bs).unit⟩
 replace P := P.ifn g
 refine Wc.ifP (Ed.ne (Ev.loc rfl) Ev.con) (fun g => ?_) (fun g => ?_)
 · exact Wc.expr (c.fail rfl ((P.ifp g) _ (FrC.refl _ _)))
 · exact Wc.nil ((relU'_of (P.ifn g)).done c (FrC.refl _ _) rfl)
end
end
section
section
variable {N d : Nat} {A : CA} {H : MH} {at_ : Int} {bs : List (Nat × Nat)} {s : CSt} {Q : MV → MH → Prop} {E : MExc → MH → Prop}
theorem step_spec (hN : 2000000 ≤ N) (he : EnvL A.env) (c : Core A H at_ bs s) {ins : List Int} (hi : ins.length ≤ lim) (P : PostC A H at_ relU' (stepP A.env ins s) Q E) : (mCall tb.P FF N (d + 8) true 26 [.ref A.sc, .tup (il ins)] H).wp Q E := by
 cases ins with
 | nil => exact P.elim
 | cons code rest =>
 refine W_call rfl rfl ?_
 simp only [Nat.reduceAdd]
 refine Wc.asgv (sub0v rfl) (Wc.ifP (Ed.or (Ed.le (Ev.loc rfl) Ev.con) fun Z => Ed.eq (Ev.loc rfl) Ev.con) (fun g => ?_) (fun g => ?_))
 · exact Wc.expr (c.callM rfl rfl rfl (Evs.one (Ev.loc rfl)) (control_spec hN he c hi (relU'_of (P.ifp g))))
 replace P := P.ifn g
 refine Wc.ifP (Ed.lele Ev.con (Ev.loc rfl) Ev.con) (fun g => ?_) (fun g => ?_)
 · exact Wc.expr (c.callM rfl rfl rfl (Evs.one (Ev.loc rfl)) (local_spec c hi ((P.ifp g).weak bs).unit))
 replace P := P.ifn g
 refine Wc.ifP (Ed.eq (Ev.loc rfl) Ev.con) (fun g => ?_) (fun g => ?_)
 · exact Wc.expr (c.callM rfl rfl rfl (Evs.one (Ev.glob rfl)) (push_spec c ((P.ifp g).weak bs).unit))
 replace P := P.ifn g
 refine Wc.ifP (Ed.eq (Ev.loc rfl) Ev.con) (fun g => ?_) (fun g => ?_)
 · exact Wc.expr (c.callM rfl rfl rfl (Evs.one (Ev.glob rfl)) (push_spec c ((P.ifp g).weak bs).unit))
 replace P := P.ifn g
 refine Wc.ifP (Ed.lele Ev.con (Ev.loc rfl) Ev.con) (fun g => ?_) (fun g => ?_)
 · exact Wc.expr (c.callM rfl rfl rfl (Evs.one (Ev.loc rfl)) (number_spec c ((P.ifp g).weak bs).unit))
 · exact Wc.expr (c.callM rfl rfl rfl (Evs.one (Ev.loc rfl)) (more_spec c ((P.ifn g) _ (FrC.refl _ _))))
theorem src_enl {i : Nat} {fz : Bool} {l : List MV} (h : H[i]? = some (.list fz l)) : mSrc H .enum [.ref i] = some (.enl i) := map_eq (lst_eq h) rfl
noncomputable def hMV : Option Nat → MV
 | none => .none
 | some n => .int n
noncomputable def insMV (b : List (List Int)) : List MV := b.map fun i => .tup (il i)
noncomputable def PostK (A : CA) (H : MH) (r : PC) (Q : MV → MH → Prop) (E : MExc → MH → Prop) : Prop := match r with
 | .ok hs => ∀ H' i, FrC A H H' → H'[i]? = some (.list false (hs.map hMV)) → H.length ≤ i → Q (.ref i) H'
 | .fail w n => ∀ H', FrC A H H' → E ⟨.str w, .int A.env.fn, .int n⟩ H'
 | .big => False
structure ChI (A : CA) (H : MH) (i : Nat) (fz : Bool) (body : List (List Int)) (Q : MV → MH → Prop) (E : MExc → MH → Prop) (j : Nat) (bs' : List (Nat × Nat)) (s' : CSt) (hs : List (Option Nat)) (ρ : Loc) (H' : MH) : Prop where
 r0 : ρ 0 = some (.ref A.sc)
 r2 : ρ 2 = some (.ref H.length)
 c : Core A H' ((j - 1 : Nat) : Int) bs' s'
 fr : FrC A H H'
 hi : H'[i]? = some (.list fz (insMV body))
 hf : H'[H.length]? = some (.list false (hs.map hMV))
 hn : hs.length = j
 P : PostK A H (checkP A.env (body.drop j) j hs s') Q E
theorem height_ev {A : CA} {at_ : Int} {bs : List (Nat × Nat)} {s : CSt} (c : Core A H at_ bs s) {ρ : Loc} {a : Nat × Nat} {b : Blk} (h0 : ρ 0 = some (.ref A.sc)) (h5 : ρ 5 = some (.ref a.1)) (h1 : H[a.1]? = some (.inst 2 a.2)) (h2 : H[a.2]? = some (.dict false (blkD b))) :
   Ev N d ρ H (.ite (.bool false [.attr (.loc 5) 42, .attr (.loc 5) 43]) (.con .none) (.callB .len (.attr (.loc 0) 47))) (hMV (heightP b s)) := by
 unfold heightP
 by_cases hd : (b.dead || b.buried) = true
 · rw [if_pos (by rw [Bool.or_eq_true] at hd; exact hd)]
   exact Ev.iteT (by rw [← hd]; exact dead_or h1 h2 h5) Ev.con
 · rw [if_neg (by rw [Bool.or_eq_true] at hd; exact hd)]
   have e := dead_or (N := N) (d := d) h1 h2 h5
   rw [Bool.not_eq_true _ |>.mp hd] at e
   exact Ev.iteF e (c.lenV h0)
theorem check_turn (hN : 2000000 ≤ N) (he : EnvL A.env) (cn : H.length ≠ A.vl ∧ H.length ≠ A.bl ∧ H.length ≠ A.kl ∧ H.length ≠ A.fl) {body : List (List Int)} {i : Nat} {fz : Bool} (hil : i < H.length) (n1 : i ≠ A.vl) (n2 : i ≠ A.bl) (hl : body.length ≤ lim) (hb : ∀ x ∈ body, x.length ≤ lim)
   {j : Nat} {s' : CSt} {bs' : List (Nat × Nat)} {hs : List (Option Nat)} {ρ : Loc} {H' : MH} {ins : List Int} (hk : body[j]? = some ins) (I : ChI A H i fz body Q E j bs' s' hs ρ H') {QS : MFlow → Loc → MH → Prop} (q : ∀ bs' s' hs ρ H', ChI A H i fz body Q E (j + 1) bs' s' hs ρ H' → QS .next ρ H') :
   Wc N (d + 8) QS E [.setA (.loc 0) 7 (.loc 3), .ifs (.cmp (.callB .len (.attr (.loc 0) 48)) [.eq] [.con (.int 0)]) [.expr (.callM (.loc 0) 9 [.con (.str 50)])] [], .asg 5 (.sub (.attr (.loc 0) 48) (.con (.int (-1)))),
     .expr (.callM (.loc 2) 0 [.ite (.bool false [.attr (.loc 5) 42, .attr (.loc 5) 43]) (.con .none) (.callB .len (.attr (.loc 0) 47))]), .expr (.callM (.loc 0) 23 [.loc 4])] (upd (upd ρ 3 (.int j)) 4 (.tup (il ins))) H' := by
 have P := I.P
 rw [List.drop_eq_getElem_cons (List.getElem?_eq_some_iff.mp hk).1, (List.getElem?_eq_some_iff.mp hk).2] at P
 have hjl := (List.getElem?_eq_some_iff.mp hk).1
 have cA := I.c.setAt (j : Int)
 have frA := frc_setAt (o := .dict false (scD A (j : Int))) I.c
 refine Wc.setA (Ev.loc rfl) (Ev.loc I.r0) (setA I.c.sc I.c.dd rfl (by decide) (nle rfl)) ?_
 show Wc N (d + 8) QS E _ _ (H'.set A.dd (.dict false (scD A (j : Int))))
 have hf1 := frA.keep _ _ I.hf cn.1 cn.2.1 (.inl rfl)
 have hi1 := frA.keep _ _ I.hi n1 n2 (.inl rfl)
 have fr1 := I.fr.trans frA
 clear frA
 generalize H'.set A.dd (.dict false (scD A (j : Int))) = H1 at *
 cases hb1 : s'.blks.getLast? with
 | none =>
   change PostK A H (afterC _ _ _ _) Q E at P
   rw [hb1] at P
   refine Wc.ifP (Ed.eq (cA.lenB I.r0) Ev.con) (fun Z => Wc.expr (cA.fail I.r0 (P _ fr1))) (fun g => absurd ?_ g)
   rw [List.getLast?_eq_none_iff.mp hb1]; rfl
 | some b =>
   change PostK A H (afterC _ _ _ _) Q E at P
   rw [hb1] at P
   obtain ⟨a, ha, h1, h2, sub⟩ := cA.last hb1
   refine Wc.ifP (Ed.eq (cA.lenB I.r0) Ev.con) (fun g => ?_) (fun Z => ?_)
   · rw [List.length_eq_zero_iff.mp (Int.ofNat_eq_zero.mp g)] at hb1; cases hb1
   refine Wc.asgv (cA.top I.r0 sub) (Wc.expr (Ee.callM (Ev.loc I.r2) (w_kindL hf1 rfl) (Evs.one (height_ev cA I.r0 rfl h1 h2)) ?_))
   have hn := I.hn
   refine w_append hf1 (by rw [List.length_map, hn]; unfold lim at hl; unfold sizeL; lia) ?_
   have e1 : hs.map hMV ++ [hMV (heightP b s')] = (hs ++ [heightP b s']).map hMV := by simp
   rw [e1]
   have cB := cA.setL (o := .list false ((hs ++ [heightP b s']).map hMV)) hf1 cn.1 cn.2.1 cn.2.2.1 cn.2.2.2
   have fr2 : FrC A H (H1.set H.length (.list false ((hs ++ [heightP b s']).map hMV))) := frc_own fr1
   refine Wc.expr (cB.callM I.r0 rfl rfl (Evs.one (Ev.loc rfl)) (step_spec hN he cB (hb ins (List.mem_of_getElem? hk)) ?_))
   cases es : stepP A.env ins s' with
   | fail w => rw [es] at P; exact fun H' f' => P H' (fr2.trans f')
   | big => rw [es] at P; exact P
   | ok u s'' =>
     rw [es] at P
     intro H3 bs3 v3 c3 fr3 _
     exact q bs3 s'' (hs ++ [heightP b s']) _ _ ⟨I.r0, I.r2, c3, fr2.trans fr3, fr3.keep _ _ (set_get hi1 (Ne.symm (Nat.ne_of_lt hil))) n1 n2 (.inl rfl), fr3.keep _ _ (set_self hf1) cn.1 cn.2.1 (.inl rfl), by simp [hn], P⟩
theorem check_spec (hN : 2000000 ≤ N) (he : EnvL A.env) {bs : List (Nat × Nat)} (c : Core A H 0 bs s) {body : List (List Int)} {i : Nat} {fz : Bool} (hi : H[i]? = some (.list fz (insMV body))) (n1 : i ≠ A.vl) (n2 : i ≠ A.bl) (hl : body.length ≤ lim) (hb : ∀ x ∈ body, x.length ≤ lim)
   (P : PostK A H (checkP A.env body 0 [] s) Q E) : (mCall tb.P FF N (d + 9) true 25 [.ref A.sc, .ref i] H).wp Q E := by
 have cn := core_new c
 have hlen : (insMV body).length = body.length := List.length_map _
 refine W_call rfl rfl ?_
 simp only [Nat.reduceAdd]
 refine Wc.asg (Ee.list Evs.nil (nle rfl) ?_)
 refine Wc.forE (l := insMV body) (Evs.one (Ev.loc rfl)) (src_enl (app_get hi)) (fun j ρ H' => ∃ bs' s' hs, ChI A H i fz body Q E j bs' s' hs ρ H') (fun j ρ H' I => ?_) (fun j v ρ H' hj I => ?_) (fun ρ H' I => ?_)
   ⟨bs, s, [], rfl, rfl, c.keep fun Z Z => app_get, frc_app, app_get hi, app_new, rfl, P⟩ (by rw [hlen]; unfold lim at hl; lia)
 · obtain ⟨_, _, _, I⟩ := I
   exact ⟨fz, I.hi⟩
 · obtain ⟨bs', s', hs, I⟩ := I
   have hj' : (body[j]?).map (fun i => MV.tup (il i)) = some v := by rw [← hj]; simp [insMV]
   refine mapS hj' fun ins hk e => ?_
   subst e
   exact ⟨_, rfl, check_turn hN he cn (lt_of hi) n1 n2 hl hb hk I fun bs' s' hs ρ H' I => ⟨bs', s', hs, I⟩⟩
 · obtain ⟨bs', s', hs, I⟩ := I
   have P := I.P
   rw [hlen, List.drop_length] at P
   change PostK A H (if _ then _ else _) Q E at P
   by_cases g : 0 < s'.blks.length
   · rw [if_pos g] at P
     have c := I.c
     rw [hlen] at c
     exact Wc.ifP (Ed.gt (I.c.lenB I.r0) Ev.con) (fun Z => Wc.expr (c.fail I.r0 (P _ I.fr))) (fun h => absurd (Int.natCast_pos.mpr g) h)
   · rw [if_neg g] at P
     exact Wc.ifP (Ed.gt (I.c.lenB I.r0) Ev.con) (fun h => absurd (Int.natCast_pos.mp h) g) fun Z => Wc.retv (Ev.loc I.r2) (P _ _ I.fr I.hf (Nat.le_refl _))
end
end
section
structure Fr0 (H H' : MH) : Prop where
 len : H.length ≤ H'.length
 keep : ∀ (i : Nat) (o : MObj), H[i]? = some o → H'[i]? = some o
theorem Fr0.refl (H : MH) : Fr0 H H := ⟨Nat.le_refl _, fun Z Z e => e⟩
theorem Fr0.trans {H H' H'' : MH} (x : Fr0 H H') (y : Fr0 H' H'') : Fr0 H H'' := ⟨Nat.le_trans x.len y.len, fun i o e => y.keep i o (x.keep i o e)⟩
theorem fr0_app {H l : MH} : Fr0 H (H ++ l) := ⟨by simp, fun Z Z e => app_get e⟩
noncomputable def Post0 (H : MH) (fn : Int) (r : PC) (Q : MV → MH → Prop) (E : MExc → MH → Prop) : Prop := match r with
 | .ok hs => ∀ H' i, Fr0 H H' → H'[i]? = some (.list false (hs.map hMV)) → H.length ≤ i → Q (.ref i) H'
 | .fail w n => ∀ H', Fr0 H H' → E ⟨.str w, .int fn, .int n⟩ H'
 | .big => False
section
variable {N d : Nat} {H : MH} {Q : MV → MH → Prop} {E : MExc → MH → Prop}
noncomputable def scHeap (H : MH) (kl fl : Nat) (e : CEnv) : MH :=
 H ++ .dict false (scD ⟨H.length + 1, H.length, H.length + 2, H.length + 5, kl, fl, H.length, e⟩ 0) :: .inst 3 H.length ::
   [.list false [], .dict false (blkD ⟨-1, [], e.res, 0, false, false⟩), .inst 2 (H.length + 3), .list false [.ref (H.length + 4)]]
theorem new_sc {kl fl : Nat} {e : CEnv} (q : Q (.ref (H.length + 1)) (scHeap H kl fl e)) :
   (mNew tb.P (mCall tb.P FF N (d + 2) true) 3 [.ref kl, .ref fl, .int e.fn, .tup (il e.locs), .tup (il e.res)] H).wp Q E := by
 refine R.wp_new (by decide) rfl (W_call rfl rfl ?_)
 simp only [Nat.reduceAdd]
 iterate 5 refine Wc.setA (Ev.loc rfl) (Ev.loc rfl) (setA_new rfl (by decide) (nle rfl)) ?_
 refine wSs_cons (wS_setA (Ee.list Evs.nil (Nat.zero_le _) (wE_loc rfl ?_)))
 rw [List.append_assoc, List.cons_append, List.cons_append, List.nil_append, List.length_append]
 refine ⟨_, setA_new rfl (by decide) (nle rfl), ?_⟩
 refine wSs_cons (wS_setA (wE_list (wEs_cons (Ee.callC (Evs.cons (Ev.glob rfl) (Evs.cons (v := .tup []) rfl (Evs.cons (Ev.loc rfl) (Evs.cons Ev.con (Evs.one Ev.con))))) (new_blk (b := ⟨-1, [], e.res, 0, false, false⟩) rfl (wEs_nil (w_newList (nle rfl) (wE_loc rfl ?_))))))))
 simp only [List.append_assoc, List.cons_append, List.nil_append, List.length_append, List.length_cons, List.length_nil]
 refine ⟨_, setA_new rfl (by decide) (nle rfl), ?_⟩
 exact Wc.setA Ev.con (Ev.loc rfl) (setA_new rfl (by decide) (nle rfl)) (Wc.nil ⟨rfl, q⟩)
theorem sc_core {kl fl : Nat} {e : CEnv} (h1 : H[kl]? = some (.list false (e.kinds.map kindMV))) (h2 : H[fl]? = some (.list false (il e.funcs))) (h3 : H[0]? = some (.dict true knD)) (he : e.res.length ≤ lim) :
   Core ⟨H.length + 1, H.length, H.length + 2, H.length + 5, kl, fl, H.length, e⟩ (scHeap H kl fl e) 0 [(H.length + 4, H.length + 3)] ⟨[], [⟨-1, [], e.res, 0, false, false⟩]⟩ := by
 have l1 := lt_of h1
 have l2 := lt_of h2
 have at_ : ∀ (k : Nat) (o : MObj), (MObj.dict false (scD ⟨H.length + 1, H.length, H.length + 2, H.length + 5, kl, fl, H.length, e⟩ 0) :: .inst 3 H.length ::
   [.list false [], .dict false (blkD ⟨-1, [], e.res, 0, false, false⟩), .inst 2 (H.length + 3), .list false [.ref (H.length + 4)]])[k]? = some o → (scHeap H kl fl e)[H.length + k]? = some o := fun k o q => by
   unfold scHeap
   rw [List.getElem?_append_right (Nat.le_add_right _ _), Nat.add_sub_cancel_left]; exact q
 exact {
   sc := at_ 1 _ rfl, dd := at_ 0 _ rfl, vl := at_ 2 _ rfl, bl := at_ 5 _ rfl
   bk := ⟨at_ 4 _ rfl, at_ 3 _ rfl, trivial⟩
   nd := by simp
   kl := app_get h1, fl := app_get h2, kn := app_get h3
   n1 := by show H.length + 2 ≠ H.length + 5; lia
   n2 := ⟨by show kl ≠ H.length + 2; lia, by show kl ≠ H.length + 5; lia⟩
   n3 := ⟨by show fl ≠ H.length + 2; lia, by show fl ≠ H.length + 5; lia⟩
   lo := ⟨Nat.le_refl _, Nat.le_add_right _ _, Nat.le_add_right _ _, fun b m => by rw [List.mem_singleton.mp m]; exact Nat.le_add_right _ _⟩
   hv := Nat.zero_le _
   hb := ⟨by show 1 ≤ lim; unfold lim; lia, fun b m => by rw [List.mem_singleton.mp m]; exact ⟨Nat.zero_le _, he⟩⟩ }
theorem core_spec (hN : 2000000 ≤ N) {kl fl fi fd body : Nat} {fz : Bool} {e : CEnv} {kind : Int} {k : List Int × List Int} {lo : List Int} {B : List (List Int)} (he : EnvL e) (h1 : H[kl]? = some (.list false (e.kinds.map kindMV))) (h2 : H[fl]? = some (.list false (il e.funcs)))
   (h3 : H[0]? = some (.dict true knD)) (h4 : H[fi]? = some (.inst 4 fd)) (h5 : H[fd]? = some (.dict false [(.str 57, .int kind), (.str 46, .tup (il lo)), (.str 58, .ref body)])) (h6 : H[body]? = some (.list fz (insMV B)))
   (hk : 0 ≤ kind ∧ kind < e.kinds.length) (hk2 : e.kinds[kind.toNat]? = some k) (hl : e.locs = k.1 ++ lo) (hr : e.res = k.2) (hll : e.locs.length ≤ lim) (hB : B.length ≤ lim) (hB2 : ∀ x ∈ B, x.length ≤ lim)
   (P : Post0 H e.fn (coreP e B) Q E) : (mCall tb.P FF N (d + 10) true 36 [.ref kl, .ref fl, .int e.fn, .ref fi] H).wp Q E := by
 have sizes : (il k.1).length ≤ sizeL ∧ (il lo).length ≤ sizeL ∧ (il k.2).length ≤ sizeL ∧ (il k.1 ++ il lo).length ≤ sizeL := by
   have := he.res
   have h2 := hll
   rw [hl, List.length_append] at h2
   rw [hr] at this
   rw [List.length_append, len_il, len_il, len_il]
   have hz : lim ≤ sizeL := nle rfl
   exact ⟨Nat.le_trans (Nat.le_trans (Nat.le_add_right _ _) h2) hz, Nat.le_trans (Nat.le_trans (Nat.le_add_left _ _) h2) hz, Nat.le_trans this hz, Nat.le_trans h2 hz⟩
 have e1 : il k.1 ++ il lo = il e.locs := by rw [hl]; simp [il]
 rw [e1] at sizes
 have a57 : Ev N (d + 9) (upd (upd (upd (upd (fun Z => none) 0 (.ref kl)) 1 (.ref fl)) 2 (.int e.fn)) 3 (.ref fi)) H (.attr (.loc 3) 57) (.int kind) := Ev.attr (Ev.loc rfl) (evw (w_attr h4 h5 rfl rfl ⟨rfl, rfl⟩))
 have lk : Ev N (d + 9) (upd (upd (upd (upd (fun Z => none) 0 (.ref kl)) 1 (.ref fl)) 2 (.int e.fn)) 3 (.ref fi)) H (.callB .len (.loc 0)) (.int e.kinds.length) := by
   rw [← List.length_map (as := e.kinds) (f := kindMV)]; exact Ev.len (Ev.loc rfl) (seqL h1)
 refine W_call rfl rfl ?_
 simp only [Nat.reduceAdd]
 refine Wc.ifP (Ed.not (Ed.lelt Ev.con a57 lk)) (fun g => absurd hk g) (fun Z => ?_)
 refine Wc.asgTv (Ev.sub (Ev.loc rfl) a57 (evw (w_subL (j := kind.toNat) (v := kindMV k) h1 (by rw [List.length_map]; exact idx_in hk) (by rw [List.getElem?_map, hk2]; rfl) ⟨rfl, rfl⟩))) rfl ?_
 have tup : ∀ {ρ : Loc} {x : CE} {l : List Int}, (il l).length ≤ sizeL → Ev N (d + 9) ρ H x (.tup (il l)) → Ev N (d + 9) ρ H (.callB .tuple x) (.tup (il l)) := fun hl hx => Ev.callB hx (by show newTup (il _) H = _; unfold newTup; rw [if_pos hl])
 refine Wc.ret (wE_callM (Ee.callC (Evs.cons (Ev.loc rfl) (Evs.cons (Ev.loc rfl) (Evs.cons (Ev.loc rfl) (Evs.cons (Ev.bin (tup sizes.1 (Ev.loc rfl)) (tup sizes.2.1 (Ev.attr (Ev.loc rfl) (evw (w_attr h4 h5 rfl rfl ⟨rfl, rfl⟩)))) (v := .tup (il e.locs)) ?_) (Evs.one (tup (l := e.res) (hr ▸ sizes.2.2.1) (by rw [hr]; exact Ev.loc rfl)))))))
   (new_sc (e := e) ?_)))
 · show newTup (il k.1 ++ il lo) H = _
   unfold newTup; rw [e1, if_pos sizes.2.2.2]
 have c := sc_core h1 h2 h3 he.res
 refine ⟨_, c.kind rfl rfl, wEs_cons (Ee.v (Ev.attr (Ev.loc rfl) (evw (w_attr (app_get h4) (app_get h5) rfl rfl ⟨rfl, rfl⟩))) (wEs_nil ?_))⟩
 have fr : Fr0 H (scHeap H kl fl e) := fr0_app
 have fr2 : ∀ H', FrC ⟨H.length + 1, H.length, H.length + 2, H.length + 5, kl, fl, H.length, e⟩ (scHeap H kl fl e) H' → Fr0 H H' := fun H' f =>
   ⟨Nat.le_trans fr.len f.len, fun i o q => f.keep i o (fr.keep i o q) (by have := lt_of q; show i ≠ H.length + 2; lia) (by have := lt_of q; show i ≠ H.length + 5; lia) (.inr (lt_of q))⟩
 have lb := lt_of h6
 refine check_spec (A := ⟨H.length + 1, H.length, H.length + 2, H.length + 5, kl, fl, H.length, e⟩) hN he c (app_get h6) (by show body ≠ H.length + 2; lia) (by show body ≠ H.length + 5; lia) hB hB2 ?_
 unfold coreP at P
 show PostK _ _ (checkP e B 0 [] ⟨[], [⟨-1, [], e.res, 0, false, false⟩]⟩) _ _
 cases r : checkP e B 0 [] ⟨[], [⟨-1, [], e.res, 0, false, false⟩]⟩ with
 | ok hs =>
   rw [r] at P
   exact fun H' i f q n => P H' i (fr2 H' f) q (Nat.le_trans fr.len n)
 | fail w n =>
   rw [r] at P
   exact fun H' f => P H' (fr2 H' f)
 | big => rw [r] at P; exact P
end
end
section
noncomputable def okS : PR Unit → Option CSt
 | .ok _ s => some s
 | _ => none
noncomputable def oneP (e : CEnv) (i : List Int) (s : CSt) : Option (Option Nat × CSt) := s.blks.getLast?.bind fun b => (okS (stepP e i s)).map fun s' => (heightP b s, s')
noncomputable def runP (e : CEnv) : List (List Int) → CSt → Option (List (Option Nat) × CSt)
 | [], s => some ([], s)
 | i :: is, s => (oneP e i s).bind fun r => (runP e is r.2).map fun q => (r.1 :: q.1, q.2)
theorem runP_append {e : CEnv} {a b : List (List Int)} : ∀ {s : CSt}, runP e (a ++ b) s = (runP e a s).bind fun r => (runP e b r.2).map fun q => (r.1 ++ q.1, q.2) := by
 induction a with
 | nil =>
   intro s
   show runP e b s = (runP e b s).map fun q => ([] ++ q.1, q.2)
   cases runP e b s <;> rfl
 | cons i a ih =>
   intro s
   show (oneP e i s).bind _ = ((oneP e i s).bind _).bind _
   cases oneP e i s with
   | none => rfl
   | some k =>
     show (runP e (a ++ b) k.2).map _ = ((runP e a k.2).map _).bind _
     rw [ih]
     cases runP e a k.2 with
     | none => rfl
     | some r =>
       show ((runP e b r.2).map _).map _ = (runP e b r.2).map _
       cases runP e b r.2 <;> rfl
theorem one_ok {e : CEnv} {i : List Int} {s s' : CSt} {b : Blk} (hb : s.blks.getLast? = some b) (h : stepP e i s = .ok () s') : oneP e i s = some (heightP b s, s') := by unfold oneP; rw [hb, h]; rfl
theorem runP_snoc {e : CEnv} {a : List (List Int)} {i : List Int} {s s1 s2 : CSt} {hs : List (Option Nat)} {b : Blk} (h : runP e a s = some (hs, s1)) (hb : s1.blks.getLast? = some b) (hi : stepP e i s1 = .ok () s2) : runP e (a ++ [i]) s = some (hs ++ [heightP b s1], s2) := by
 rw [runP_append, h]
 show ((oneP e i s1).bind _).map _ = _
 rw [one_ok hb hi]; rfl
theorem check_one {e : CEnv} {i : List Int} {b : List (List Int)} {s : CSt} {n : Nat} {hs : List (Option Nat)} {r : Option Nat × CSt} (h : oneP e i s = some r) : checkP e (i :: b) n hs s = checkP e b (n + 1) (hs ++ [r.1]) r.2 := by
 revert h
 show s.blks.getLast?.bind _ = _ → afterC s.blks.getLast? (stepP e i s) n _ = _
 cases s.blks.getLast? with
 | none => exact fun h => nomatch h
 | some k =>
   show (okS (stepP e i s)).map _ = _ → _
   cases stepP e i s with
   | ok u s1 => exact fun h => by rw [← Option.some.inj h]; rfl
   | fail => exact fun h => nomatch h
   | big => exact fun h => nomatch h
theorem checkP_run {e : CEnv} {a b : List (List Int)} : ∀ {s s' : CSt} {n : Nat} {hs hs' : List (Option Nat)}, runP e a s = some (hs', s') → checkP e (a ++ b) n hs s = checkP e b (n + a.length) (hs ++ hs') s' := by
 induction a with
 | nil =>
   intro s s' n hs hs' h
   cases h
   rw [List.append_nil]; rfl
 | cons i a ih =>
   intro s s' n hs hs' h
   obtain ⟨r, h1, h⟩ := Option.bind_eq_some_iff.mp h
   obtain ⟨q, h2, h⟩ := Option.map_eq_some_iff.mp h
   cases h
   rw [List.cons_append, check_one h1, ih h2, List.length_cons, List.append_assoc, Nat.add_assoc, Nat.add_comm 1]; rfl
section
variable {os : List Blk} {t : Blk} {st : List Int}
theorem last_os (os : List Blk) (t : Blk) : (os ++ [t]).getLast? = some t := by simp
theorem popAny_live {k : Int} (h : t.height ≤ st.length) : popAny ⟨st ++ [k], os ++ [t]⟩ = .ok k ⟨st, os ++ [t]⟩ := by
 show (PR.of _ (os ++ [t]).getLast?).bind _ = _
 rw [last_os]
 show (if t.height < (st ++ [k]).length then (PR.of _ (st ++ [k]).getLast?).bind _ else _ : PR Int) = _
 rw [if_pos (by rw [List.length_append]; exact Nat.lt_succ_of_le h), List.getLast?_append, List.getLast?_singleton]
 show PR.ok k ⟨(st ++ [k]).dropLast, _⟩ = _
 rw [List.dropLast_concat]
theorem popP_live {k : Int} (h : t.height ≤ st.length) : popP k ⟨st ++ [k], os ++ [t]⟩ = .ok k ⟨st, os ++ [t]⟩ := by
 unfold popP
 rw [popAny_live h]
 show (if k ≠ k ∧ _ then _ else _) = _
 rw [if_neg (fun q => q.1 rfl)]
theorem popsR_live {ks st : List Int} (h : t.height ≤ st.length) : popsR ks ⟨st ++ ks.reverse, os ++ [t]⟩ = .ok ks ⟨st, os ++ [t]⟩ := by
 induction ks with
 | nil => rw [List.reverse_nil, List.append_nil]; rfl
 | cons k ks ih =>
   rw [List.reverse_cons, ← List.append_assoc]
   show (popP k _).bind _ = _
   rw [popP_live (Nat.le_trans h (by rw [List.length_append]; exact Nat.le_add_right _ _))]
   show (popsR ks ⟨st ++ ks.reverse, os ++ [t]⟩).bind _ = _
   rw [ih]; rfl
theorem popAll_live {ks : List Int} (h : t.height ≤ st.length) : popAll ks ⟨st ++ ks, os ++ [t]⟩ = .ok ks ⟨st, os ++ [t]⟩ := by
 unfold popAll
 have := popsR_live (os := os) (t := t) (ks := ks.reverse) h
 rw [List.reverse_reverse] at this
 rw [this]
 show PR.ok ks.reverse.reverse _ = _
 rw [List.reverse_reverse]
theorem pushAll_live {ks : List Int} : ∀ {s : CSt}, s.vals.length + ks.length ≤ lim → pushAll ks s = .ok () { s with vals := s.vals ++ ks } := by
 induction ks with
 | nil => intro s _; rw [List.append_nil]; rfl
 | cons k ks ih =>
   intro s h
   show (if s.vals.length < lim then _ else _ : PR Unit).bind _ = _
   rw [if_pos (Nat.lt_of_lt_of_le (Nat.lt_add_of_pos_right (Nat.succ_pos _)) h)]
   show pushAll ks _ = _
   rw [ih (by rw [List.length_append, Nat.add_assoc, Nat.add_comm [k].length]; exact h), List.append_assoc]; rfl
theorem popAny_dead (hd : t.dead = true) (h : st.length ≤ t.height) : popAny ⟨st, os ++ [t]⟩ = .ok 0 ⟨st, os ++ [t]⟩ := by
 show (PR.of _ (os ++ [t]).getLast?).bind _ = _
 rw [last_os]
 show (if t.height < st.length then _ else if t.dead = true then _ else _ : PR Int) = _
 rw [if_neg (Nat.not_lt.mpr h), if_pos hd]
theorem popP_dead {k : Int} (hd : t.dead = true) (h : st.length ≤ t.height) : popP k ⟨st, os ++ [t]⟩ = .ok 0 ⟨st, os ++ [t]⟩ := by
 unfold popP
 rw [popAny_dead hd h]
 show (if (0 : Int) ≠ k ∧ (0 : Int) ≠ 0 ∧ _ then _ else _) = _
 rw [if_neg (fun q => q.2.1 rfl)]
theorem popsR_dead (hd : t.dead = true) (h : st.length ≤ t.height) {ks : List Int} : ∃ fs, popsR ks ⟨st, os ++ [t]⟩ = .ok fs ⟨st, os ++ [t]⟩ := by
 induction ks with
 | nil => exact ⟨[], rfl⟩
 | cons k ks ih =>
   obtain ⟨fs, e⟩ := ih
   refine ⟨0 :: fs, ?_⟩
   show (popP k _).bind _ = _
   rw [popP_dead hd h]
   show (popsR ks ⟨st, os ++ [t]⟩).bind _ = _
   rw [e]; rfl
theorem popAll_dead (hd : t.dead = true) (h : st.length ≤ t.height) {ks : List Int} : ∃ fs, popAll ks ⟨st, os ++ [t]⟩ = .ok fs ⟨st, os ++ [t]⟩ := by
 obtain ⟨fs, e⟩ := popsR_dead (os := os) hd h (ks := ks.reverse)
 exact ⟨fs.reverse, by unfold popAll; rw [e]; rfl⟩
theorem kill_os : killP ⟨st, os ++ [t]⟩ = .ok () ⟨st.take t.height, os ++ [{ t with dead := true }]⟩ := by
 show (PR.of _ (os ++ [t]).getLast?).bind _ = _
 rw [last_os]
 show PR.ok () ⟨_, (os ++ [t]).dropLast ++ _⟩ = _
 rw [List.dropLast_concat]
end
end
section
structure W where
 stack : List Int
 live : Bool
 heights : List (Option Nat)
 body : List (List Int)
 labels : List (List Int)
 left : Nat
 first : Nat
 at_ : Nat
noncomputable def W.emit (w : W) (op : List Int) (pops : Nat) (pushes : List Int) : W :=
 if w.live = true then { w with stack := w.stack.take (w.stack.length - pops) ++ pushes, heights := w.heights ++ [some w.stack.length], body := w.body ++ [op] }
 else { w with heights := w.heights ++ [none], body := w.body ++ [op] }
noncomputable def num (k : Int) : Prop := k = -1 ∨ k = -2
noncomputable def s0 (e : CEnv) : CSt := ⟨[], [⟨-1, [], e.res, 0, false, false⟩]⟩
structure Sync (e : CEnv) (os : List Blk) (t : Blk) (w : W) : Prop where
 run : runP e w.body (s0 e) = some (w.heights, ⟨if w.live = true then w.stack else w.stack.take t.height, os ++ [{ t with dead := !w.live }]⟩)
 fl : ∀ b ∈ os ++ [t], b.dead = false ∧ b.buried = false
 lab : w.labels = (os ++ [t]).map Blk.label
 ht : t.height ≤ w.stack.length
 two : ∀ k ∈ w.stack, num k
 labs : ∀ l ∈ w.labels, l.length ≤ 2 ∧ ∀ k ∈ l, num k
 deep : os.length ≤ w.body.length
 par : ∀ b ∈ os ++ [t], b.par.length ≤ 2 ∧ b.res.length ≤ 2 ∧ (∀ k ∈ b.par, num k) ∧ ∀ k ∈ b.res, num k
section
variable {e : CEnv} {os : List Blk} {t : Blk} {w : W}
theorem Sync.tfl (S : Sync e os t w) : t.dead = false ∧ t.buried = false := S.fl t (by simp)
theorem Sync.t_live (S : Sync e os t w) : ({ t with dead := false } : Blk) = t := by
 obtain ⟨c, p, r, h, d, b⟩ := t
 have := (S.tfl).1
 simp only at this
 subst this
 rfl
theorem Sync.live (S : Sync e os t w) (hl : w.live = true) {op : List Int} {pops : Nat} {pushes : List Int} (h : stepP e op ⟨w.stack, os ++ [t]⟩ = .ok () ⟨w.stack.take (w.stack.length - pops) ++ pushes, os ++ [t]⟩)
   (hh : t.height + pops ≤ w.stack.length) (hp : ∀ k ∈ pushes, num k) : Sync e os t (w.emit op pops pushes) := by
 have r := S.run
 rw [if_pos hl, hl] at r
 have e1 : ({ t with dead := !true } : Blk) = t := S.t_live
 rw [e1] at r
 have r' := runP_snoc r (last_os os t) h
 unfold W.emit
 rw [if_pos hl]
 refine ⟨?_, S.fl, S.lab, ?_, fun k m => ?_, S.labs, ?_, S.par⟩
 · show runP e (w.body ++ [op]) (s0 e) = some (w.heights ++ [some w.stack.length], ⟨if w.live = true then _ else _, os ++ [{ t with dead := !w.live }]⟩)
   rw [r', if_pos hl, hl, e1]
   unfold heightP
   rw [if_neg (by rw [S.tfl.1, S.tfl.2]; decide)]
 · show t.height ≤ (w.stack.take (w.stack.length - pops) ++ pushes).length
   rw [List.length_append, List.length_take]; exact Nat.le_trans (Nat.le_min.mpr ⟨Nat.le_sub_of_add_le hh, Nat.le_trans (Nat.le_add_right _ _) hh⟩) (Nat.le_add_right _ _)
 · rcases List.mem_append.mp m with m | m
   · exact S.two k (List.mem_of_mem_take m)
   · exact hp k m
 · show os.length ≤ (w.body ++ [op]).length
   have := S.deep
   rw [List.length_append]; lia
noncomputable def W.bud (w : W) : Nat := w.body.length + w.stack.length + 100 * w.left
theorem bud_bd : w.body.length ≤ w.bud := Nat.le_trans (Nat.le_add_right _ _) (Nat.le_add_right _ _)
theorem bud_st : w.stack.length ≤ w.bud := Nat.le_trans (Nat.le_add_left _ _) (Nat.le_add_right _ _)
theorem ar_bud {B S p P L : Nat} (h : p ≤ S) : B + 1 + (S - p + P) + L + p = B + S + L + 1 + P := by lia
theorem bud_sz {a b : Nat} (h : a ≤ w.stack.length) (z : b ≤ 2) (hb : w.bud ≤ 5000) : a + b ≤ lim := Nat.le_trans (Nat.add_le_add (Nat.le_trans h (Nat.le_trans bud_st hb)) z) (nle rfl)
theorem bud_z1 {a : Nat} (h : a ≤ w.stack.length) (hb : w.bud ≤ 5000) : a < lim := Nat.lt_of_le_of_lt (Nat.le_trans h (Nat.le_trans bud_st hb)) (nle rfl)
theorem app_lt {a b c : List Int} (h : a = b ++ c) : b.length ≤ a.length := by rw [h, List.length_append]; exact Nat.le_add_right _ _
theorem ar_no {a code : Int} (h : a ≤ code) (h16 : ¬ a ≤ 16) (h18 : ¬ a ≤ 18) : ¬ (code ≤ 16 ∨ code = 18) := fun q => q.elim (fun q => h16 (Int.le_trans h q)) (fun q => h18 (q ▸ h))
theorem PR.seq {α β : Type} {r : PR α} {f : α → CSt → PR β} {a : α} {s' : CSt} {z : PR β} (h : r = .ok a s') (k : f a s' = z) : r.bind f = z := by rw [h]; exact k
theorem ofS {α : Type} {s : CSt} {o : Option α} {a : α} (h : o = some a) : PR.of s o = .ok a s := by rw [h]; rfl
theorem okE {st : List Int} {bs : List Blk} : (PR.ok () ⟨st, bs⟩ : PR Unit) = .ok () ⟨st ++ [], bs⟩ := by rw [List.append_nil]
theorem le_app {n : Nat} {st ks : List Int} (h : n ≤ st.length) : n ≤ (st ++ ks).length := by rw [List.length_append]; exact Nat.le_add_right_of_le h
theorem bud_live (hl : w.live = true) {op : List Int} {pops : Nat} {pushes : List Int} (h : pops ≤ w.stack.length) : (w.emit op pops pushes).bud + pops = w.bud + 1 + pushes.length := by
 unfold W.emit W.bud
 rw [if_pos hl]
 simp only [List.length_append, List.length_take, List.length_singleton]
 rw [Nat.min_eq_left (Nat.sub_le _ _)]
 exact ar_bud h
theorem bud_dead (hl : w.live = false) {op : List Int} {pops : Nat} {pushes : List Int} : (w.emit op pops pushes).bud = w.bud + 1 := by
 unfold W.emit W.bud
 rw [if_neg (by rw [hl]; decide)]
 simp only [List.length_append, List.length_singleton]
 lia
theorem emit_same {op : List Int} {pops : Nat} {pushes : List Int} : (w.emit op pops pushes).labels = w.labels ∧ (w.emit op pops pushes).live = w.live ∧ (w.emit op pops pushes).left = w.left ∧ (w.emit op pops pushes).first = w.first ∧ (w.emit op pops pushes).at_ = w.at_ := by
 unfold W.emit
 split <;> exact ⟨rfl, rfl, rfl, rfl, rfl⟩
theorem emit_live (hl : w.live = true) {op : List Int} {pops : Nat} {pushes : List Int} : (w.emit op pops pushes).stack = w.stack.take (w.stack.length - pops) ++ pushes := by
 unfold W.emit
 rw [if_pos hl]
noncomputable def constOp (k : Int) : List Int := if k = -1 then [65, -3] else [66, 5]
theorem step_const {k : Int} (hk : num k) {s : CSt} (h : s.vals.length < lim) : stepP e (constOp k) s = .ok () { s with vals := s.vals ++ [k] } := by
 rcases hk with rfl | rfl
 · show stepP e [65, -3] s = _
   exact if_pos h
 · show stepP e [66, 5] s = _
   exact if_pos h
theorem step_nop {s : CSt} : stepP e [1] s = .ok () s := rfl
theorem step_local {ins : List Int} {code : Int} {rest : List Int} (h : 26 ≤ code ∧ code ≤ 34) {s : CSt} (hi : ins = code :: rest) : stepP e ins s = localP e ins s := by
 subst hi
 exact (if_neg (ar_no h.1 (by decide) (by decide))).trans (if_pos h)
theorem step_drop {s : CSt} : stepP e [26] s = (popAny s).bind fun Z s => .ok () s :=
 rfl
theorem step_number {code : Int} {p r : List Int} (h : 69 ≤ code ∧ code ≤ 196) (hn : numberIn code numbersT = some (p, r)) {s : CSt} : stepP e [code] s = (popAll p s).bind fun Z s => pushAll r s := by
 refine (if_neg (ar_no h.1 (by decide) (by decide))).trans ?_
 refine (if_neg (fun q => absurd (Int.le_trans h.1 q.2) (by decide))).trans ?_
 refine (if_neg (fun q : code = 65 => absurd (q ▸ h.1 : (69 : Int) ≤ 65) (by decide))).trans ?_
 refine (if_neg (fun q : code = 66 => absurd (q ▸ h.1 : (69 : Int) ≤ 66) (by decide))).trans ?_
 refine (if_pos h).trans ?_
 unfold numberP
 rw [hn]
end
end
section
noncomputable def kk : Nat → List Int × List Int
 | 0 => ([], [])
 | 1 => ([-1], [-1])
 | 2 => ([], [-2])
 | _ => ([-1, -2], [-1])
noncomputable def kinds03 : List (List Int × List Int) := [kk 0, kk 1, kk 2, kk 3]
noncomputable def env03 (own : Nat) : CEnv := ⟨kinds03, [(own : Int), 0, 1, 2, 3], (kk own).1 ++ [-1, -2], (kk own).2, 0⟩
section
variable {e : CEnv} {os : List Blk} {t : Blk} {w : W} {st : List Int}
theorem Sync.go (S : Sync e os t w) (hl : w.live = true) {ks : List Int} (hs : w.stack = st ++ ks) (hh : t.height ≤ st.length) {op : List Int} {pushes : List Int} (h : stepP e op ⟨st ++ ks, os ++ [t]⟩ = .ok () ⟨st ++ pushes, os ++ [t]⟩) (hp : ∀ k ∈ pushes, num k) :
   Sync e os t (w.emit op ks.length pushes) := by
 refine S.live hl ?_ (by rw [hs, List.length_append]; exact Nat.add_le_add_right hh _) hp
 rw [hs, h, List.length_append, Nat.add_sub_cancel, List.take_left]
theorem Sync.const (S : Sync e os t w) (hl : w.live = true) (hb : w.bud ≤ 5000) {k : Int} (hk : num k) : Sync e os t (w.emit (constOp k) 0 [k]) := by
 refine S.go (ks := []) (st := w.stack) hl (by simp) S.ht ?_ (fun x m => by rw [List.mem_singleton.mp m]; exact hk)
 rw [List.append_nil]
 exact step_const hk (bud_z1 (Nat.le_refl _) hb)
theorem Sync.nop (S : Sync e os t w) (hl : w.live = true) : Sync e os t (w.emit [1] 0 []) := by
 refine S.go (ks := []) (st := w.stack) hl (by simp) S.ht ?_ (fun x m => nomatch m)
 exact step_nop
theorem Sync.drop (S : Sync e os t w) (hl : w.live = true) {k : Int} (hs : w.stack = st ++ [k]) (hh : t.height ≤ st.length) : Sync e os t (w.emit [26] 1 []) := by
 refine S.go (ks := [k]) hl hs hh ?_ (fun x m => nomatch m)
 exact step_drop.trans (PR.seq (popAny_live hh) okE)
theorem Sync.numb (S : Sync e os t w) (hl : w.live = true) (hb : w.bud ≤ 5000) {code : Int} {p r : List Int} (h : 69 ≤ code ∧ code ≤ 196) (hn : numberIn code numbersT = some (p, r)) (hr : r.length ≤ 2) (hp : ∀ k ∈ r, num k) (hs : w.stack = st ++ p) (hh : t.height ≤ st.length) : Sync e os t (w.emit [code] p.length r) := by
 refine S.go hl hs hh ?_ hp
 exact (step_number h hn).trans (PR.seq (popAll_live hh) (pushAll_live (bud_sz (app_lt hs) hr hb)))
theorem local_at {i : Nat} {k : Int} {s : CSt} (hi : e.locs[i]? = some k) : localAtP e (i : Int) s = .ok k s :=
 (if_pos ⟨Int.natCast_nonneg _, Int.ofNat_lt.mpr (List.getElem?_eq_some_iff.mp hi).1⟩).trans (ofS hi)
theorem Sync.get (S : Sync e os t w) (hl : w.live = true) (hb : w.bud ≤ 5000) {i : Nat} {k : Int} (hi : e.locs[i]? = some k) (hk : num k) : Sync e os t (w.emit [32, (i : Int)] 0 [k]) := by
 refine S.go (ks := []) (st := w.stack) hl (by simp) S.ht ?_ (fun x m => by rw [List.mem_singleton.mp m]; exact hk)
 rw [List.append_nil]
 exact PR.seq (local_at hi) <| if_pos (bud_z1 (Nat.le_refl _) hb)
theorem Sync.set (S : Sync e os t w) (hl : w.live = true) {i : Nat} {k : Int} (hi : e.locs[i]? = some k) (hs : w.stack = st ++ [k]) (hh : t.height ≤ st.length) : Sync e os t (w.emit [33, (i : Int)] 1 []) := by
 refine S.go (ks := [k]) hl hs hh ?_ (fun x m => nomatch m)
 exact PR.seq (local_at hi) <| PR.seq (PR.seq (popP_live hh) rfl) okE
theorem Sync.tee (S : Sync e os t w) (hl : w.live = true) (hb : w.bud ≤ 5000) {i : Nat} {k : Int} (hi : e.locs[i]? = some k) (hk : num k) (hs : w.stack = st ++ [k]) (hh : t.height ≤ st.length) : Sync e os t (w.emit [34, (i : Int)] 1 [k]) := by
 refine S.go (ks := [k]) hl hs hh ?_ (fun x m => by rw [List.mem_singleton.mp m]; exact hk)
 exact PR.seq (local_at hi) <| PR.seq (PR.seq (popP_live hh) rfl) <| if_pos (bud_z1 (app_lt hs) hb)
theorem Sync.sel (S : Sync e os t w) (hl : w.live = true) (hb : w.bud ≤ 5000) {k : Int} (hk : num k) (hs : w.stack = st ++ [k, k, -1]) (hh : t.height ≤ st.length) : Sync e os t (w.emit [27] 3 [k]) := by
 refine S.go (ks := [k, k, -1]) hl hs hh ?_ (fun x m => by rw [List.mem_singleton.mp m]; exact hk)
 have e3 : st ++ [k, k, -1] = ((st ++ [k]) ++ [k]) ++ [-1] := by rw [List.append_assoc, List.append_assoc]; rfl
 have hn : ¬ isNum k = false ∧ k ≠ 0 := by rcases hk with rfl | rfl <;> decide
 rw [e3]
 refine PR.seq (popP_live (le_app (le_app hh))) <| PR.seq (popAny_live (le_app hh)) <| PR.seq (popAny_live hh) <| (if_neg (fun q => q.elim hn.1 hn.1)).trans <| (if_neg (fun q => q.1 rfl)).trans ?_
 rw [if_neg hn.2]
 exact if_pos (bud_z1 (app_lt hs) hb)
theorem step_control {code : Int} {rest : List Int} (h : code ≤ 16 ∨ code = 18) {s : CSt} : stepP e (code :: rest) s = controlP e (code :: rest) s := if_pos h
theorem target_of {l : Nat} {s : CSt} {b : Blk} (h : s.blks[s.blks.length - 1 - l]? = some b) (hl : l < s.blks.length) : targetP (l : Int) s = .ok b.label s :=
 (if_pos ⟨Int.natCast_nonneg _, Int.ofNat_lt.mpr hl⟩).trans (PR.seq (ofS h) rfl)
theorem lab_get (S : Sync e os t w) {l : Nat} {ks : List Int} (hk : w.labels[w.labels.length - 1 - l]? = some ks) (hll : l < w.labels.length) : ∃ b, (os ++ [t])[(os ++ [t]).length - 1 - l]? = some b ∧ b.label = ks ∧ l < (os ++ [t]).length := by
 rw [S.lab, List.length_map, List.getElem?_map] at hk
 rw [S.lab, List.length_map] at hll
 obtain ⟨b, h1, h2⟩ := Option.map_eq_some_iff.mp hk
 exact ⟨b, h1, h2, hll⟩
theorem func_at {i : Nat} {f : Int} {k : List Int × List Int} {s : CSt} (hf : e.funcs[i]? = some f) (h0 : 0 ≤ f) (hk : e.kinds[f.toNat]? = some k) : funcAtP e (i : Int) s = .ok k s :=
 (if_pos ⟨Int.natCast_nonneg _, Int.ofNat_lt.mpr (List.getElem?_eq_some_iff.mp hf).1⟩).trans <| PR.seq (ofS hf) <| (if_pos ⟨h0, (Int.toNat_lt h0).mp (List.getElem?_eq_some_iff.mp hk).1⟩).trans (ofS hk)
theorem Sync.brif (S : Sync e os t w) (hl : w.live = true) (hb : w.bud ≤ 5000) {l : Nat} {ks : List Int} (hk : w.labels[w.labels.length - 1 - l]? = some ks) (hll : l < w.labels.length) (hs : w.stack = (st ++ ks) ++ [-1]) (hh : t.height ≤ st.length) : Sync e os t (w.emit [13, (l : Int)] 1 []) := by
 refine S.go (ks := [-1]) hl hs (le_app hh) ?_ (fun x m => nomatch m)
 obtain ⟨b, h1, h2, h3⟩ := lab_get S hk hll
 refine PR.seq (popP_live (le_app hh)) <| PR.seq rfl <| PR.seq (target_of h1 h3) ?_
 rw [h2]
 exact PR.seq (popAll_live hh) <| (pushAll_live (List.length_append ▸ Nat.le_of_lt (bud_z1 (app_lt hs) hb))).trans okE
theorem Sync.call (S : Sync e os t w) (hl : w.live = true) (hb : w.bud ≤ 5000) {i : Nat} {f : Int} {k : List Int × List Int} (hf : e.funcs[i]? = some f) (h0 : 0 ≤ f) (hk : e.kinds[f.toNat]? = some k) (hr : k.2.length ≤ 2 ∧ ∀ x ∈ k.2, num x) (hs : w.stack = st ++ k.1) (hh : t.height ≤ st.length) :
   Sync e os t (w.emit [16, (i : Int)] k.1.length k.2) := by
 refine S.go hl hs hh ?_ hr.2
 exact PR.seq (func_at hf h0 hk) <| PR.seq (popAll_live hh) <| pushAll_live (bud_sz (app_lt hs) hr.1 hb)
end
end
section
noncomputable def W.reset (w : W) (base : Nat) (ks : List Int) : W := { w with stack := w.stack.take base ++ ks, live := true }
section
variable {e : CEnv} {os : List Blk} {t : Blk} {w : W} {st : List Int}
theorem Sync.block (S : Sync e os t w) (hl : w.live = true) (hb : w.bud ≤ 5000) {c mk : Int} {p r : List Int} (hc : c = 2 ∨ c = 3 ∨ c = 4) (hm : blockKind e mk = some (p, r)) (hp : p.length ≤ 2 ∧ r.length ≤ 2 ∧ (∀ k ∈ p, num k) ∧ ∀ k ∈ r, num k)
   (hs : w.stack = (st ++ p) ++ (if c = 4 then [-1] else [])) (hh : t.height ≤ st.length) :
   Sync e (os ++ [t]) ⟨c, p, r, st.length, false, false⟩ { (w.emit [c, mk] (if c = 4 then 1 else 0) []) with labels := w.labels ++ [if c = 3 then p else r] } := by
 have step : stepP e [c, mk] ⟨w.stack, os ++ [t]⟩ = .ok () ⟨st ++ p, (os ++ [t]) ++ [⟨c, p, r, st.length, false, false⟩]⟩ := by
   have hcc : c ≤ 16 ∧ c ≠ 0 ∧ c ∈ [2, 3, 4] := by rcases hc with rfl | rfl | rfl <;> decide
   refine (step_control (.inl hcc.1)).trans ?_
   refine (if_neg hcc.2.1).trans ?_
   refine (if_pos hcc.2.2).trans ?_
   have key : (((PR.of (⟨st ++ p, os ++ [t]⟩ : CSt) ([mk] : List Int)[0]?).bind fun t s => (blockKindP e t s).bind fun k s => (popAll k.1 s).bind fun Z s => beginP c k.1 k.2 s)) = .ok () ⟨st ++ p, (os ++ [t]) ++ [⟨c, p, r, st.length, false, false⟩]⟩ := by
     have hbk : ∀ s, blockKindP e mk s = .ok (p, r) s := fun s => by unfold blockKindP; rw [hm]
     refine PR.seq rfl <| PR.seq (hbk _) <| PR.seq (popAll_live hh) <| PR.seq (ofS (last_os _ _)) <| PR.seq (if_pos ⟨?_, Nat.le_trans hp.1 (nle rfl), Nat.le_trans hp.2.1 (nle rfl)⟩) ?_
     · rw [S.tfl.1, S.tfl.2]
       exact pushAll_live (bud_sz (Nat.le_trans (app_lt rfl) (app_lt hs)) hp.1 hb)
     · show (os ++ [t]).length < lim
       rw [List.length_append]
       exact Nat.lt_of_le_of_lt (Nat.succ_le_succ (Nat.le_trans S.deep (Nat.le_trans bud_bd hb))) (nle rfl)
   by_cases h4 : c = 4
   · rw [hs, if_pos h4, if_pos h4]
     exact PR.seq (PR.seq (popP_live (le_app hh)) rfl) key
   · rw [hs, if_neg h4, if_neg h4, List.append_nil]
     exact key
 have rr := S.run
 rw [if_pos hl, hl] at rr
 have e1 : ({ t with dead := !true } : Blk) = t := S.t_live
 rw [e1] at rr
 have r' := runP_snoc rr (last_os os t) step
 have hst : (w.emit [c, mk] (if c = 4 then 1 else 0) []).stack = st ++ p := by
   rw [emit_live hl, hs]
   by_cases h4 : c = 4
   · rw [if_pos h4, if_pos h4, List.length_append, List.length_singleton, Nat.add_sub_cancel]
     rw [List.take_append_of_le_length (Nat.le_refl _), List.take_length, List.append_nil]
   · rw [if_neg h4, if_neg h4, List.append_nil, Nat.sub_zero, List.take_length, List.append_nil]
 have hbd : (w.emit [c, mk] (if c = 4 then 1 else 0) []).body = w.body ++ [[c, mk]] := by unfold W.emit; rw [if_pos hl]
 have hht : (w.emit [c, mk] (if c = 4 then 1 else 0) []).heights = w.heights ++ [some w.stack.length] := by unfold W.emit; rw [if_pos hl]
 have hlv : (w.emit [c, mk] (if c = 4 then 1 else 0) []).live = true := by rw [emit_same.2.1]; exact hl
 refine ⟨?_, fun b m => ?_, ?_, ?_, fun k m => ?_, fun l m => ?_, ?_, fun b m => ?_⟩
 · show runP e (w.emit _ _ _).body (s0 e) = some ((w.emit _ _ _).heights, ⟨if (w.emit _ _ _).live = true then (w.emit _ _ _).stack else _, (os ++ [t]) ++ [_]⟩)
   rw [hbd, r', hht, hlv, if_pos rfl, hst]
   unfold heightP
   rw [if_neg (by rw [S.tfl.1, S.tfl.2]; decide)]
   rfl
 · rcases List.mem_append.mp m with m | m
   · exact S.fl b m
   · rw [List.mem_singleton.mp m]; exact ⟨rfl, rfl⟩
 · show w.labels ++ [_] = _
   rw [S.lab]
   simp only [List.map_append, List.map_cons, List.map_nil, Blk.label]
 · show st.length ≤ (w.emit _ _ _).stack.length
   rw [hst, List.length_append]; exact Nat.le_add_right _ _
 · have : k ∈ (w.emit [c, mk] (if c = 4 then 1 else 0) []).stack := m
   rw [hst] at this
   exact S.two k (by rw [hs]; exact List.mem_append.mpr (.inl this))
 · rcases List.mem_append.mp m with m | m
   · exact S.labs l m
   · rw [List.mem_singleton.mp m]
     by_cases h3 : c = 3
     · rw [if_pos h3]; exact ⟨hp.1, hp.2.2.1⟩
     · rw [if_neg h3]; exact ⟨hp.2.1, hp.2.2.2⟩
 · show (os ++ [t]).length ≤ (w.emit _ _ _).body.length
   rw [hbd, List.length_append, List.length_append]
   exact Nat.add_le_add_right S.deep 1
 · rcases List.mem_append.mp m with m | m
   · exact S.par b m
   · rw [List.mem_singleton.mp m]; exact hp
theorem close_part (S : Sync e os t w) (h : w.live = true → w.stack = st ++ t.res) (hh : st.length = t.height) (hst : w.stack.take t.height = st) :
   closeP ⟨if w.live = true then w.stack else w.stack.take t.height, os ++ [{ t with dead := !w.live }]⟩ = .ok { t with dead := !w.live } ⟨st, os⟩ := by
 have fin : ∀ b : Blk, b.height = t.height → (if st.length ≠ b.height then PR.fail 50 else PR.ok b ⟨st, (os ++ [b]).dropLast⟩) = PR.ok b ⟨st, os⟩ := fun b hb => by
   rw [if_neg (fun z => z (hh.trans hb.symm)), List.dropLast_concat]
 refine PR.seq (ofS (last_os _ _)) ?_
 cases hl : w.live with
 | true =>
   rw [if_pos rfl, h hl]
   exact PR.seq (popAll_live (t := { t with dead := !true }) (Nat.le_of_eq hh.symm)) (fin _ rfl)
 | false =>
   rw [if_neg (by decide), hst]
   obtain ⟨fs, e⟩ := popAll_dead (os := os) (t := { t with dead := !false }) (st := st) rfl (Nat.le_of_eq hh) (ks := t.res)
   exact PR.seq e (fin _ rfl)
theorem Sync.height (S : Sync e os t w) : heightP { t with dead := !w.live } ⟨if w.live = true then w.stack else w.stack.take t.height, os ++ [{ t with dead := !w.live }]⟩ = if w.live = true then some w.stack.length else none := by
 unfold heightP
 have := S.tfl.2
 cases hl : w.live with
 | true => rw [if_neg (by simp [this])]; rfl
 | false => rw [if_pos (.inl rfl)]; rfl
theorem emit_parts {op : List Int} : (w.emit op 0 []).body = w.body ++ [op] ∧ (w.emit op 0 []).heights = w.heights ++ [if w.live = true then some w.stack.length else none] ∧ (w.emit op 0 []).stack = w.stack := by
 unfold W.emit
 by_cases h : w.live = true
 · rw [if_pos h, if_pos h]
   refine ⟨rfl, rfl, ?_⟩
   show w.stack.take (w.stack.length - 0) ++ [] = _
   rw [List.append_nil, Nat.sub_zero, List.take_length]
 · rw [if_neg h, if_neg h]; exact ⟨rfl, rfl, rfl⟩
theorem Sync.other (S : Sync e os t w) (hb : w.bud ≤ 5000) (hc : t.code = 4) (h : w.live = true → w.stack = st ++ t.res) (hh : st.length = t.height) (hst : w.stack.take t.height = st) : Sync e os { t with code := 5 } ((w.emit [5] 0 []).reset t.height t.par) := by
 have step : stepP e [5] ⟨if w.live = true then w.stack else w.stack.take t.height, os ++ [{ t with dead := !w.live }]⟩ = .ok () ⟨st ++ t.par, os ++ [{ t with code := 5 }]⟩ := by
   have hp := S.par t (by simp)
   have h3 : st.length ≤ w.stack.length := by rw [← hst, List.length_take]; exact Nat.min_le_right _ _
   have eb : (⟨5, t.par, t.res, st.length, false, t.buried⟩ : Blk) = { t with code := 5 } := by rw [hh, ← S.tfl.1]
   exact PR.seq (ofS (last_os _ _)) <| (if_neg (fun z => z hc)).trans <| PR.seq (close_part S h hh hst) <|
     PR.seq (if_pos ⟨Nat.lt_of_le_of_lt (Nat.le_trans S.deep (Nat.le_trans bud_bd hb)) (nle rfl), Nat.le_trans hp.1 (nle rfl), Nat.le_trans hp.2.1 (nle rfl)⟩) <|
     (pushAll_live (bud_sz h3 hp.1 hb)).trans (congrArg (fun b => PR.ok () ⟨st ++ t.par, os ++ [b]⟩) eb)
 have r' := runP_snoc S.run (last_os _ _) step
 rw [S.height] at r'
 obtain ⟨e1, e2, e3⟩ := emit_parts (w := w) (op := [5])
 have hlab : ({ t with code := 5 } : Blk).label = t.label := by unfold Blk.label; rw [hc]; rfl
 have hd : t.dead = false := S.tfl.1
 refine ⟨?_, fun b m => ?_, ?_, ?_, fun k m => ?_, fun l m => S.labs l (by have m : l ∈ (w.emit [5] 0 []).labels := m; rw [emit_same.1] at m; exact m), ?_, fun b m => ?_⟩
 · show runP e (w.emit [5] 0 []).body (s0 e) = some ((w.emit [5] 0 []).heights, ⟨(w.emit [5] 0 []).stack.take t.height ++ t.par, os ++ [{ t with code := 5, dead := !true }]⟩)
   rw [e1, e2, e3, r', hst]
   obtain ⟨c, p, r, hgt, dd, b⟩ := t
   simp only at hd
   subst hd
   rfl
 · rcases List.mem_append.mp m with m | m
   · exact S.fl b (List.mem_append.mpr (.inl m))
   · rw [List.mem_singleton.mp m]; exact S.tfl
 · show (w.emit [5] 0 []).labels = _
   rw [emit_same.1, S.lab, List.map_append, List.map_append]
   simp only [List.map_cons, List.map_nil, hlab]
 · show t.height ≤ ((w.emit [5] 0 []).stack.take t.height ++ t.par).length
   rw [e3, hst, List.length_append]; exact Nat.le_trans (Nat.le_of_eq hh.symm) (Nat.le_add_right _ _)
 · have m : k ∈ (w.emit [5] 0 []).stack.take t.height ++ t.par := m
   rw [e3] at m
   rcases List.mem_append.mp m with m | m
   · exact S.two k (List.mem_of_mem_take m)
   · exact (S.par t (by simp)).2.2.1 k m
 · show os.length ≤ (w.emit [5] 0 []).body.length
   rw [e1, List.length_append]; exact Nat.le_trans S.deep (Nat.le_add_right _ _)
 · rcases List.mem_append.mp m with m | m
   · exact S.par b (List.mem_append.mpr (.inl m))
   · rw [List.mem_singleton.mp m]; exact S.par t (by simp)
theorem Sync.end_ {t' : Blk} (S : Sync e (os ++ [t]) t' w) (hb : w.bud ≤ 5000) (hc : t'.code = 4 → t'.par = t'.res) (h : w.live = true → w.stack = st ++ t'.res) (hh : st.length = t'.height) (hst : w.stack.take t'.height = st) (hn : t.height ≤ t'.height) :
   Sync e os t { (w.emit [11] 0 []).reset t'.height t'.res with labels := w.labels.dropLast } := by
 have step : stepP e [11] ⟨if w.live = true then w.stack else w.stack.take t'.height, (os ++ [t]) ++ [{ t' with dead := !w.live }]⟩ = .ok () ⟨st ++ t'.res, os ++ [t]⟩ := by
   have hp := S.par t' (by simp)
   have h3 : st.length ≤ w.stack.length := by rw [← hst, List.length_take]; exact Nat.min_le_right _ _
   exact PR.seq (close_part S h hh hst) <| (if_neg (fun q => q.2 (hc q.1))).trans <| (if_pos (by rw [List.length_append]; exact Nat.succ_pos _)).trans <| pushAll_live (bud_sz h3 hp.2.1 hb)
 have r' := runP_snoc S.run (last_os _ _) step
 rw [S.height] at r'
 obtain ⟨e1, e2, e3⟩ := emit_parts (w := w) (op := [11])
 have tl : ({ t with dead := false } : Blk) = t := by
   have := (S.fl t (by simp)).1
   obtain ⟨c, p, r, hgt, dd, b⟩ := t
   simp only at this
   subst this
   rfl
 have hdl : w.labels.dropLast = (os ++ [t]).map Blk.label := by rw [S.lab, List.map_append (l₁ := os ++ [t])]; simp
 refine ⟨?_, fun b m => S.fl b (List.mem_append.mpr (.inl m)), hdl, ?_, fun k m => ?_, fun l m => S.labs l ((List.dropLast_sublist _).subset m), ?_, fun b m => S.par b (List.mem_append.mpr (.inl m))⟩
 · show runP e (w.emit [11] 0 []).body (s0 e) = some ((w.emit [11] 0 []).heights, ⟨(w.emit [11] 0 []).stack.take t'.height ++ t'.res, os ++ [{ t with dead := !true }]⟩)
   rw [e1, e2, e3, r', hst, show (!true) = false from rfl, tl]
 · show t.height ≤ ((w.emit [11] 0 []).stack.take t'.height ++ t'.res).length
   rw [e3, hst, List.length_append]; exact Nat.le_trans (Nat.le_trans hn (Nat.le_of_eq hh.symm)) (Nat.le_add_right _ _)
 · have m : k ∈ (w.emit [11] 0 []).stack.take t'.height ++ t'.res := m
   rw [e3] at m
   rcases List.mem_append.mp m with m | m
   · exact S.two k (List.mem_of_mem_take m)
   · exact (S.par t' (by simp)).2.2.2 k m
 · show os.length ≤ (w.emit [11] 0 []).body.length
   rw [e1, List.length_append]; have := S.deep; simp at this; lia
end
end
section
section
variable {e : CEnv} {os : List Blk} {t : Blk} {w : W} {st : List Int}
noncomputable def W.die (w : W) (op : List Int) : W := { (w.emit op 0 []) with live := false }
theorem Sync.jump (S : Sync e os t w) (hl : w.live = true) {op : List Int} (h : stepP e op ⟨w.stack, os ++ [t]⟩ = .ok () ⟨w.stack.take t.height, os ++ [{ t with dead := true }]⟩) : Sync e os t (w.die op) := by
 have r := S.run
 rw [if_pos hl, hl] at r
 have e1 : ({ t with dead := !true } : Blk) = t := S.t_live
 rw [e1] at r
 have r' := runP_snoc r (last_os os t) h
 obtain ⟨g1, g2, g3⟩ := emit_parts (w := w) (op := op)
 refine ⟨?_, S.fl, ?_, ?_, ?_, ?_, ?_, S.par⟩
 · show runP e (w.emit op 0 []).body (s0 e) = some ((w.emit op 0 []).heights, ⟨(w.emit op 0 []).stack.take t.height, os ++ [{ t with dead := !false }]⟩)
   rw [g1, g2, g3, r', if_pos hl]
   unfold heightP
   rw [if_neg (by rw [S.tfl.1, S.tfl.2]; decide)]
   rfl
 · show (w.emit op 0 []).labels = _
   rw [emit_same.1]; exact S.lab
 · show t.height ≤ (w.emit op 0 []).stack.length
   rw [g3]; exact S.ht
 · show ∀ k ∈ (w.emit op 0 []).stack, num k
   rw [g3]; exact S.two
 · show ∀ l ∈ (w.emit op 0 []).labels, _
   rw [emit_same.1]; exact S.labs
 · show os.length ≤ (w.emit op 0 []).body.length
   rw [g1, List.length_append]; exact Nat.le_trans S.deep (Nat.le_add_right _ _)
theorem take_top {n : Nat} {ks : List Int} (h : n ≤ st.length) : (st ++ ks).take n = st.take n := List.take_append_of_le_length h
theorem Sync.br (S : Sync e os t w) (hl : w.live = true) {l : Nat} {ks : List Int} (hk : w.labels[w.labels.length - 1 - l]? = some ks) (hll : l < w.labels.length) (hs : w.stack = st ++ ks) (hh : t.height ≤ st.length) : Sync e os t (w.die [12, (l : Int)]) := by
 refine S.jump hl ?_
 obtain ⟨b, h1, h2, h3⟩ := lab_get S hk hll
 rw [hs]
 refine PR.seq (target_of h1 h3) ?_
 rw [h2, take_top hh]
 exact PR.seq (popAll_live hh) kill_os
theorem Sync.ret (S : Sync e os t w) (hl : w.live = true) (hs : w.stack = st ++ e.res) (hh : t.height ≤ st.length) : Sync e os t (w.die [15]) := by
 refine S.jump hl ?_
 rw [hs, take_top hh]
 exact PR.seq (popAll_live hh) kill_os
theorem Sync.table (S : Sync e os t w) (hl : w.live = true) (hb : w.bud ≤ 5000) {l : Nat} {ks : List Int} (hk : w.labels[w.labels.length - 1 - l]? = some ks) (hll : l < w.labels.length) (hs : w.stack = (st ++ ks) ++ [-1]) (hh : t.height ≤ st.length) : Sync e os t (w.die [14, (l : Int), (l : Int)]) := by
 refine S.jump hl ?_
 obtain ⟨b, h1, h2, h3⟩ := lab_get S hk hll
 have ht := target_of (s := ⟨st ++ ks, os ++ [t]⟩) h1 h3
 rw [h2] at ht
 rw [hs, List.append_assoc, take_top hh, ← List.append_assoc]
 exact PR.seq (popP_live (le_app hh)) <| PR.seq rfl <| PR.seq ht <|
   PR.seq (PR.seq ht <| (if_neg (fun z => z rfl)).trans <| PR.seq (popAll_live hh) <| PR.seq (pushAll_live (List.length_append ▸ Nat.le_of_lt (bud_z1 (app_lt hs) hb))) rfl) <| PR.seq (popAll_live hh) kill_os
theorem Sync.unr (S : Sync e os t w) (hl : w.live = true) : Sync e os t (w.die [0]) := by
 refine S.jump hl ?_
 exact kill_os
theorem Sync.tail (S : Sync e os t w) (hl : w.live = true) {i : Nat} {f : Int} {k : List Int × List Int} (hf : e.funcs[i]? = some f) (h0 : 0 ≤ f) (hk : e.kinds[f.toNat]? = some k) (hr : k.2 = e.res) (hs : w.stack = st ++ k.1) (hh : t.height ≤ st.length) : Sync e os t (w.die [18, (i : Int)]) := by
 refine S.jump hl ?_
 rw [hs, take_top hh]
 exact PR.seq (func_at hf h0 hk) <| (if_neg (fun q => q.2 hr)).trans <| PR.seq (popAll_live hh) kill_os
noncomputable def W.emits (w : W) (ops : List (List Int)) : W := ops.foldl (fun w op => w.emit op 0 []) w
theorem emits_dead (hl : w.live = false) : ∀ {ops : List (List Int)}, (w.emits ops) = { w with heights := w.heights ++ List.replicate ops.length none, body := w.body ++ ops } := by
 intro ops
 induction ops generalizing w with
 | nil => show w = _; rw [List.append_nil]; exact congrArg (fun h => { w with heights := h }) (List.append_nil _).symm
 | cons op ops ih =>
   have h1 : w.emit op 0 [] = { w with heights := w.heights ++ [none], body := w.body ++ [op] } := by unfold W.emit; rw [if_neg (by rw [hl]; decide)]
   show (w.emit op 0 []).emits ops = _
   rw [ih (by rw [h1]; exact hl), h1]
   simp only [List.append_assoc, List.length_cons, List.replicate_succ, List.singleton_append]
theorem Sync.stretch (S : Sync e os t w) (hl : w.live = false) {ops : List (List Int)} (h : ∀ st : List Int, st.length = t.height → runP e ops ⟨st, os ++ [{ t with dead := true }]⟩ = some (List.replicate ops.length none, ⟨st, os ++ [{ t with dead := true }]⟩)) : Sync e os t (w.emits ops) := by
 have r := S.run
 rw [if_neg (by rw [hl]; decide), hl] at r
 have hlen : (w.stack.take t.height).length = t.height := by rw [List.length_take]; exact Nat.min_eq_left S.ht
 rw [emits_dead hl]
 refine ⟨?_, S.fl, S.lab, S.ht, S.two, S.labs, ?_, S.par⟩
 · show runP e (w.body ++ ops) (s0 e) = some (w.heights ++ List.replicate ops.length none, ⟨if w.live = true then _ else _, os ++ [{ t with dead := !w.live }]⟩)
   rw [runP_append, r]
   simp only [Option.bind_some]
   rw [show (!false) = true from rfl, h _ hlen]
   simp only [Option.map_some]
   rw [if_neg (by rw [hl]; decide), hl]
   rfl
 · show os.length ≤ (w.body ++ ops).length
   rw [List.length_append]; exact Nat.le_trans S.deep (Nat.le_add_right _ _)
theorem run_one {op : List Int} {s s' : CSt} {b : Blk} (hb : s.blks.getLast? = some b) (h : stepP e op s = .ok () s') {ops : List (List Int)} : runP e (op :: ops) s = (runP e ops s').map fun r => (heightP b s :: r.1, r.2) := by
 show (oneP e op s).bind _ = _
 rw [one_ok hb h]; rfl
theorem tail_nop (st : List Int) : runP e [[1]] ⟨st, os ++ [{ t with dead := true }]⟩ = some ([none], ⟨st, os ++ [{ t with dead := true }]⟩) := by
 rw [run_one (last_os _ _) step_nop]
 rfl
theorem tail_drop (hs : st.length = t.height) : runP e [[26]] ⟨st, os ++ [{ t with dead := true }]⟩ = some ([none], ⟨st, os ++ [{ t with dead := true }]⟩) := by
 have h : stepP e [26] ⟨st, os ++ [{ t with dead := true }]⟩ = .ok () ⟨st, os ++ [{ t with dead := true }]⟩ := by
   exact step_drop.trans (PR.seq (popAny_dead (t := { t with dead := true }) rfl (Nat.le_of_eq hs)) rfl)
 rw [run_one (last_os _ _) h]
 rfl
theorem tail_add (hs : st.length = t.height) (hz : st.length < 5000) : runP e [[106], [26]] ⟨st, os ++ [{ t with dead := true }]⟩ = some ([none, none], ⟨st, os ++ [{ t with dead := true }]⟩) := by
 have h1 : stepP e [106] ⟨st, os ++ [{ t with dead := true }]⟩ = .ok () ⟨st ++ [-1], os ++ [{ t with dead := true }]⟩ := by
   obtain ⟨fs, h⟩ := popAll_dead (os := os) (t := { t with dead := true }) (st := st) rfl (Nat.le_of_eq hs) (ks := [-1, -1])
   exact (PR.seq h (pushAll_live (Nat.le_trans hz (nle rfl))))
 have h2 : stepP e [26] ⟨st ++ [-1], os ++ [{ t with dead := true }]⟩ = .ok () ⟨st, os ++ [{ t with dead := true }]⟩ := by
   exact step_drop.trans (PR.seq (popAny_live (t := { t with dead := true }) (Nat.le_of_eq hs.symm)) rfl)
 rw [run_one (last_os _ _) h1, run_one (last_os _ _) h2]
 rfl
theorem tail_block (ht : t.buried = false) (hs : st.length = t.height) (hz : st.length < 5000) (ho : os.length < 5000) : runP e [[2, -64], [65, 1], [26], [11]] ⟨st, os ++ [{ t with dead := true }]⟩ = some ([none, none, none, none], ⟨st, os ++ [{ t with dead := true }]⟩) := by
 have h1 : stepP e [2, -64] ⟨st, os ++ [{ t with dead := true }]⟩ = .ok () ⟨st, (os ++ [{ t with dead := true }]) ++ [⟨2, [], [], st.length, false, true⟩]⟩ := by
   exact PR.seq (ofS (last_os _ _)) <| PR.seq (if_pos (by rw [List.length_append]; exact ⟨Nat.lt_of_le_of_lt ho (nle rfl), Nat.zero_le _, Nat.zero_le _⟩)) rfl
 have h2 : stepP e [65, 1] ⟨st, (os ++ [{ t with dead := true }]) ++ [⟨2, [], [], st.length, false, true⟩]⟩ = .ok () ⟨st ++ [-1], (os ++ [{ t with dead := true }]) ++ [⟨2, [], [], st.length, false, true⟩]⟩ := by
   exact if_pos (Nat.lt_trans hz (nle rfl))
 have h3 : stepP e [26] ⟨st ++ [-1], (os ++ [{ t with dead := true }]) ++ [⟨2, [], [], st.length, false, true⟩]⟩ = .ok () ⟨st, (os ++ [{ t with dead := true }]) ++ [⟨2, [], [], st.length, false, true⟩]⟩ := by
   exact step_drop.trans (PR.seq (popAny_live (Nat.le_refl _)) rfl)
 have h4 : stepP e [11] ⟨st, (os ++ [{ t with dead := true }]) ++ [⟨2, [], [], st.length, false, true⟩]⟩ = .ok () ⟨st, os ++ [{ t with dead := true }]⟩ := by
   have hc : closeP ⟨st, (os ++ [{ t with dead := true }]) ++ [⟨2, [], [], st.length, false, true⟩]⟩ = .ok ⟨2, [], [], st.length, false, true⟩ ⟨st, os ++ [{ t with dead := true }]⟩ :=
     PR.seq (ofS (last_os _ _)) <| PR.seq rfl <| (if_neg (fun z => z rfl)).trans (congrArg (fun l => PR.ok _ ⟨st, l⟩) List.dropLast_concat)
   refine PR.seq hc ?_
   refine (if_neg (fun q => q.2 rfl)).trans ?_
   exact (if_pos (by rw [List.length_append]; exact Nat.succ_pos _)).trans rfl
 rw [run_one (last_os _ _) h1, run_one (last_os _ _) h2, run_one (last_os _ _) h3, run_one (last_os _ _) h4]
 rfl
end
end
section
section
variable {e : CEnv} {t : Blk} {w : W}
noncomputable def fblk (e : CEnv) : Blk := ⟨-1, [], e.res, 0, false, false⟩
theorem end_step {t : Blk} {vs : List Int} {b : Blk} (h : closeP ⟨vs, [t]⟩ = .ok b ⟨[], []⟩) (hb : b.code = -1) : stepP e [11] ⟨vs, [t]⟩ = .ok () ⟨[], []⟩ := by
 refine PR.seq h ?_
 exact (if_neg (fun q => absurd (hb.symm.trans q.1) (by decide))).trans rfl
theorem end_fail {t : Blk} {vs : List Int} {n : Nat} (h : closeP ⟨vs, [t]⟩ = .fail n) : stepP e [11] ⟨vs, [t]⟩ = .fail n := by
 show (closeP ⟨vs, [t]⟩).bind _ = _
 rw [h]; rfl
theorem core_from (S : Sync e [] (fblk e) w) {b : List (List Int)} : coreP e (w.body ++ b) = checkP e b w.body.length w.heights ⟨if w.live = true then w.stack else [], [{ fblk e with dead := !w.live }]⟩ := by
 have r := S.run
 unfold coreP
 have := checkP_run (b := b) (n := 0) (hs := []) r
 rw [show s0 e = ⟨[], [⟨-1, [], e.res, 0, false, false⟩]⟩ from rfl] at this
 rw [this, Nat.zero_add, List.nil_append]
 rfl
theorem check_ok {i : List Int} {is : List (List Int)} {n : Nat} {hs : List (Option Nat)} {s s' : CSt} {b : Blk} (hb : s.blks.getLast? = some b) (h : stepP e i s = .ok () s') : checkP e (i :: is) n hs s = checkP e is (n + 1) (hs ++ [heightP b s]) s' := check_one (one_ok hb h)
theorem check_fail {i : List Int} {is : List (List Int)} {n k : Nat} {hs : List (Option Nat)} {s : CSt} {b : Blk} (hb : s.blks.getLast? = some b) (h : stepP e i s = .fail k) : checkP e (i :: is) n hs s = .fail k n := by
 show afterC _ _ _ _ = _
 rw [hb, h]; rfl
theorem close_live : closeP ⟨e.res, [fblk e]⟩ = .ok (fblk e) ⟨[], []⟩ :=
 PR.seq (ofS (last_os [] _)) <| PR.seq (popAll_live (os := []) (t := fblk e) (st := []) (ks := e.res) (Nat.le_refl _)) rfl
theorem close_dead : closeP ⟨[], [{ fblk e with dead := true }]⟩ = .ok { fblk e with dead := true } ⟨[], []⟩ := by
 obtain ⟨fs, h⟩ := popAll_dead (os := []) (t := { fblk e with dead := true }) (st := []) rfl (Nat.le_refl _) (ks := (fblk e).res)
 exact PR.seq (ofS (last_os [] _)) (PR.seq h rfl)
theorem fin_ok (S : Sync e [] (fblk e) w) (h : w.live = true → w.stack = e.res) : coreP e (w.body ++ [[11]]) = .ok (w.heights ++ [if w.live = true then some w.stack.length else none]) := by
 rw [core_from S]
 cases hl : w.live with
 | true =>
   rw [if_pos rfl, if_pos rfl, h hl, show ({ fblk e with dead := !true } : Blk) = fblk e from rfl]
   exact (check_ok (b := fblk e) rfl (end_step close_live rfl)).trans rfl
 | false =>
   rw [if_neg (by decide), if_neg (by decide), show ({ fblk e with dead := !false } : Blk) = { fblk e with dead := true } from rfl]
   exact (check_ok (b := { fblk e with dead := true }) rfl (end_step close_dead rfl)).trans rfl
noncomputable def smallR (r : List Int) : Prop := r = [] ∨ r = [-1] ∨ r = [-2]
theorem fin_drop (S : Sync e [] (fblk e) w) (hr : smallR e.res) (h : w.live = true → w.stack = e.res) : coreP e (w.body ++ [[26], [11]]) =
   if w.live = true then .fail 50 (if e.res = [] then w.body.length else w.body.length + 1) else .ok (w.heights ++ [none, none]) := by
 rw [core_from S]
 cases hl : w.live with
 | true =>
   rw [if_pos rfl, if_pos rfl, h hl]
   have cases' : ∀ k : Int, e.res = [k] → checkP e [[26], [11]] w.body.length w.heights ⟨e.res, [{ fblk e with dead := !true }]⟩ = .fail 50 (w.body.length + 1) := fun k hk => by
     have d : stepP e [26] ⟨e.res, [fblk e]⟩ = .ok () ⟨[], [fblk e]⟩ := by
       rw [hk]
       exact step_drop.trans <| PR.seq (popAny_live (os := []) (t := fblk e) (st := []) (k := k) (Nat.le_refl _)) rfl
     have c : closeP ⟨[], [fblk e]⟩ = .fail 50 := by
       show (popAll e.res ⟨[], [fblk e]⟩).bind _ = _
       rw [hk]; rfl
     rw [show ({ fblk e with dead := !true } : Blk) = fblk e from rfl, check_ok (b := fblk e) rfl d, check_fail (b := fblk e) rfl (end_fail c)]
   rcases hr with hr | hr | hr
   · rw [if_pos hr, hr]
     have d : stepP e [26] ⟨[], [fblk e]⟩ = .fail 50 := rfl
     exact check_fail (b := fblk e) rfl d
   · rw [if_neg (by rw [hr]; decide)]; exact cases' _ hr
   · rw [if_neg (by rw [hr]; decide)]; exact cases' _ hr
 | false =>
   rw [if_neg (by decide), if_neg (by decide)]
   have d : stepP e [26] ⟨[], [{ fblk e with dead := true }]⟩ = .ok () ⟨[], [{ fblk e with dead := true }]⟩ := rfl
   rw [show ({ fblk e with dead := !false } : Blk) = { fblk e with dead := true } from rfl, check_ok (b := { fblk e with dead := true }) rfl d, check_ok (b := { fblk e with dead := true }) rfl (end_step close_dead rfl)]
   exact congrArg PC.ok (List.append_assoc _ [none] [none])
theorem step_c7 {s : CSt} (h : s.vals.length < lim) : stepP e [65, 7] s = .ok () { s with vals := s.vals ++ [-1] } := if_pos h
theorem fin_more (S : Sync e [] (fblk e) w) (hr : smallR e.res) (h : w.live = true → w.stack = e.res) : coreP e (w.body ++ [[65, 7], [11]]) =
   if w.live = false ∧ e.res = [-1] then .ok (w.heights ++ [none, none]) else .fail 50 (w.body.length + 1) := by
 rw [core_from S]
 cases hl : w.live with
 | true =>
   rw [if_pos rfl, if_neg (fun q => absurd q.1 (by decide)), h hl, show ({ fblk e with dead := !true } : Blk) = fblk e from rfl]
   have hz : e.res.length ≤ 1 := by rcases hr with hr | hr | hr <;> rw [hr] <;> decide
   rw [check_ok (b := fblk e) rfl (step_c7 (Nat.lt_of_le_of_lt hz (nle rfl)))]
   have c : closeP ⟨e.res ++ [-1], [fblk e]⟩ = .fail 50 := by
     show (popAll e.res ⟨e.res ++ [-1], [fblk e]⟩).bind _ = _
     rcases hr with hr | hr | hr <;> rw [hr] <;> rfl
   exact check_fail (b := fblk e) rfl (end_fail c)
 | false =>
   rw [if_neg (by decide), show ({ fblk e with dead := !false } : Blk) = { fblk e with dead := true } from rfl]
   rw [check_ok (b := { fblk e with dead := true }) rfl (step_c7 (nle rfl))]
   show checkP e [[11]] _ _ ⟨[-1], [{ fblk e with dead := true }]⟩ = _
   rcases hr with hr | hr | hr
   · rw [if_neg (fun q => absurd (hr.symm.trans q.2) (by decide))]
     have c : closeP ⟨[-1], [{ fblk e with dead := true }]⟩ = .fail 50 := by
       show (popAll e.res ⟨[-1], [{ fblk e with dead := true }]⟩).bind _ = _
       rw [hr]; rfl
     exact check_fail (b := { fblk e with dead := true }) rfl (end_fail c)
   · rw [if_pos ⟨rfl, hr⟩]
     have c : closeP ⟨[-1], [{ fblk e with dead := true }]⟩ = .ok { fblk e with dead := true } ⟨[], []⟩ := by
       show (popAll e.res ⟨[-1], [{ fblk e with dead := true }]⟩).bind _ = _
       rw [hr]; rfl
     rw [check_ok (b := { fblk e with dead := true }) rfl (end_step c rfl)]
     exact congrArg PC.ok (List.append_assoc _ [none] [none])
   · rw [if_neg (by rw [hr]; decide)]
     have c : closeP ⟨[-1], [{ fblk e with dead := true }]⟩ = .fail 50 := by
       show (popAll e.res ⟨[-1], [{ fblk e with dead := true }]⟩).bind _ = _
       rw [hr]; rfl
     exact check_fail (b := { fblk e with dead := true }) rfl (end_fail c)
end
end
section
structure WA where
 wd : Nat
 st : Nat
 hs : Nat
 bd : Nat
 lb : Nat
 pen : Nat
 script : List Int
noncomputable def WA.lists (A : WA) : List Nat := [A.st, A.hs, A.bd, A.lb, A.pen]
noncomputable def wD (A : WA) (live : Bool) (left first : Nat) : List (MV × MV) := [(.str 59, .ref A.st), (.str 60, .bool live), (.str 61, .ref A.hs), (.str 58, .ref A.bd), (.str 62, .ref A.lb), (.str 64, .int left), (.str 63, .int first)]
noncomputable def Labs (H : MH) : List Nat → List (List Int) → Prop
 | [], [] => True
 | a :: as, l :: ls => H[a]? = some (.list false (il l)) ∧ Labs H as ls
 | _, _ => False
theorem Labs.mono {H H' : MH} : ∀ {as : List Nat} {ls : List (List Int)}, Labs H as ls → (∀ a ∈ as, ∀ o, H[a]? = some o → H'[a]? = some o) → Labs H' as ls
 | [], [], _, _ => trivial
 | [], _ :: _, x, _ => x.elim
 | _ :: _, [], x, _ => x.elim
 | a :: _, _ :: _, x, h => ⟨h a (.head _) _ x.1, Labs.mono x.2 fun a' m => h a' (.tail _ m)⟩
theorem Labs.length {H : MH} : ∀ {as : List Nat} {ls : List (List Int)}, Labs H as ls → as.length = ls.length
 | [], [], _ => rfl
 | [], _ :: _, x => x.elim
 | _ :: _, [], x => x.elim
 | _ :: _, _ :: _, x => by simp [Labs.length x.2]
theorem Labs.get {H : MH} : ∀ {as : List Nat} {ls : List (List Int)} {j : Nat} {l : List Int}, Labs H as ls → ls[j]? = some l → ∃ a, as[j]? = some a ∧ H[a]? = some (.list false (il l))
 | [], [], _, _, _, e => by simp at e
 | [], _ :: _, _, _, x, _ => x.elim
 | _ :: _, [], _, _, x, _ => x.elim
 | a :: _, l :: _, 0, l', x, e => by simp at e; subst e; exact ⟨a, rfl, x.1⟩
 | _ :: as, _ :: ls, j + 1, l', x, e => by
   simp at e
   obtain ⟨a', h⟩ := Labs.get x.2 e
   exact ⟨a', by simpa using h.1, h.2⟩
theorem Labs.append {H : MH} : ∀ {as : List Nat} {ls : List (List Int)} {a : Nat} {l : List Int}, Labs H as ls → H[a]? = some (.list false (il l)) → Labs H (as ++ [a]) (ls ++ [l])
 | [], [], _, _, _, h => ⟨h, trivial⟩
 | [], _ :: _, _, _, x, _ => x.elim
 | _ :: _, [], _, _, x, _ => x.elim
 | _ :: _, _ :: _, _, _, x, h => ⟨x.1, Labs.append x.2 h⟩
theorem Labs.dropLast {H : MH} : ∀ {as : List Nat} {ls : List (List Int)}, Labs H as ls → Labs H as.dropLast ls.dropLast
 | [], [], _ => trivial
 | [], _ :: _, x => x.elim
 | _ :: _, [], x => x.elim
 | [_], [_], _ => trivial
 | [_], _ :: _ :: _, x => x.2.elim
 | _ :: _ :: _, [_], x => x.2.elim
 | _ :: a :: as, _ :: b :: bs, x => ⟨x.1, Labs.dropLast (as := a :: as) (ls := b :: bs) x.2⟩
structure WR (A : WA) (H : MH) (las : List Nat) (w : W) : Prop where
 wd : H[A.wd]? = some (.dict false (wD A w.live w.left w.first))
 st : H[A.st]? = some (.list false (il w.stack))
 hs : H[A.hs]? = some (.list false (w.heights.map hMV))
 bd : H[A.bd]? = some (.list false (insMV w.body))
 lb : H[A.lb]? = some (.list false (las.map .ref))
 la : Labs H las w.labels
 pen : H[A.pen]? = some (.list false [.ref 1, .int w.at_])
 sc : H[1]? = some (.list true (il A.script))
 kn : H[0]? = some (.dict true knD)
 ap : A.lists.Nodup
 fr : ∀ a ∈ las, a ∉ A.lists
 hl : w.heights.length = w.body.length
 sm : ∀ x ∈ w.body, x.length ≤ 10
structure FrW (A : WA) (H H' : MH) : Prop where
 len : H.length ≤ H'.length
 keep : ∀ (i : Nat) (o : MObj), H[i]? = some o → i ≠ A.wd → i ∉ A.lists → H'[i]? = some o
theorem FrW.refl (A : WA) (H : MH) : FrW A H H := ⟨Nat.le_refl _, fun Z Z e Z Z => e⟩
theorem FrW.trans {A : WA} {H H' H'' : MH} (x : FrW A H H') (y : FrW A H' H'') : FrW A H H'' := ⟨Nat.le_trans x.len y.len, fun i o e a b => y.keep i o (x.keep i o e a b) a b⟩
theorem frw_app {A : WA} {H l : MH} : FrW A H (H ++ l) := ⟨by simp, fun Z Z e Z Z => app_get e⟩
section
variable {A : WA} {H H' : MH} {las : List Nat} {w : W}
theorem WA.ne (n : A.lists.Nodup) : A.st ≠ A.hs ∧ A.st ≠ A.bd ∧ A.st ≠ A.lb ∧ A.st ≠ A.pen ∧ A.hs ≠ A.bd ∧ A.hs ≠ A.lb ∧ A.hs ≠ A.pen ∧ A.bd ≠ A.lb ∧ A.bd ≠ A.pen ∧ A.lb ≠ A.pen := by
 simp only [WA.lists, List.nodup_cons, List.mem_cons, List.not_mem_nil, or_false, not_or, List.nodup_nil, not_false_eq_true, and_true] at n
 obtain ⟨⟨a, b, c, d⟩, ⟨e, f, g⟩, ⟨h, i⟩, j⟩ := n
 exact ⟨a, b, c, d, e, f, g, h, i, j⟩
theorem WR.keep (r : WR A H las w) (k : ∀ (i : Nat) (o : MObj), H[i]? = some o → H'[i]? = some o) : WR A H' las w :=
 { r with wd := k _ _ r.wd, st := k _ _ r.st, hs := k _ _ r.hs, bd := k _ _ r.bd, lb := k _ _ r.lb, la := r.la.mono fun Z Z Z => k _ _, pen := k _ _ r.pen, sc := k _ _ r.sc, kn := k _ _ r.kn }
theorem frw_list {i : Nat} {o : MObj} (h : i ∈ A.lists) : FrW A H (H.set i o) := ⟨by simp, fun j o e n m => set_get e fun q => m (q ▸ h)⟩
theorem frw_wd {o : MObj} : FrW A H (H.set A.wd o) := ⟨by simp, fun j o e n Z => set_get e (Ne.symm n)⟩
theorem mem_st : A.st ∈ A.lists := by simp [WA.lists]
theorem mem_hs : A.hs ∈ A.lists := by simp [WA.lists]
theorem mem_bd : A.bd ∈ A.lists := by simp [WA.lists]
theorem mem_lb : A.lb ∈ A.lists := by simp [WA.lists]
theorem mem_pen : A.pen ∈ A.lists := by simp [WA.lists]
theorem labs_set (r : WR A H las w) {i : Nat} {o : MObj} (h : i ∈ A.lists) : Labs (H.set i o) las w.labels := r.la.mono fun a m Z e => set_get e fun q => r.fr a m (q ▸ h)
theorem WR.setSt (r : WR A H las w) (l : List Int) : WR A (H.set A.st (.list false (il l))) las { w with stack := l } := by
 obtain ⟨a, b, c, d, _⟩ := WA.ne r.ap
 exact { r with wd := set_get r.wd (ne_of r.st r.wd (by simp)), st := set_self r.st, hs := set_get r.hs a, bd := set_get r.bd b, lb := set_get r.lb c, la := labs_set r mem_st, pen := set_get r.pen d, sc := set_get r.sc (ne_of r.st r.sc (by simp)), kn := set_get r.kn (ne_of r.st r.kn (by simp)) }
theorem WR.setEmit (r : WR A H las w) (h : Option Nat) (op : List Int) (hop : op.length ≤ 10) : WR A ((H.set A.hs (.list false ((w.heights ++ [h]).map hMV))).set A.bd (.list false (insMV (w.body ++ [op])))) las { w with heights := w.heights ++ [h], body := w.body ++ [op] } := by
 obtain ⟨a, b, c, d, e, f, g, h', i, j⟩ := WA.ne r.ap
 exact { r with
   wd := set_get (set_get r.wd (ne_of r.hs r.wd (by simp))) (ne_of r.bd r.wd (by simp)), st := set_get (set_get r.st (Ne.symm a)) (Ne.symm b), hs := set_get (set_self r.hs) (Ne.symm e), bd := set_self (set_get r.bd e), lb := set_get (set_get r.lb f) h'
   la := (labs_set r mem_hs).mono fun x m Z q => set_get q fun z => r.fr x m (z ▸ mem_bd), pen := set_get (set_get r.pen g) i, sc := set_get (set_get r.sc (ne_of r.hs r.sc (by simp))) (ne_of r.bd r.sc (by simp)), kn := set_get (set_get r.kn (ne_of r.hs r.kn (by simp))) (ne_of r.bd r.kn (by simp)), hl := by simp [r.hl]
   sm := fun x m => by
     rcases List.mem_append.mp m with m | m
     · exact r.sm x m
     · rw [List.mem_singleton.mp m]; exact hop }
theorem WR.setPen (r : WR A H las w) (n : Nat) : WR A (H.set A.pen (.list false [.ref 1, .int n])) las { w with at_ := n } := by
 obtain ⟨a, b, c, d, e, f, g, h', i, j⟩ := WA.ne r.ap
 exact { r with wd := set_get r.wd (ne_of r.pen r.wd (by simp)), st := set_get r.st (Ne.symm d), hs := set_get r.hs (Ne.symm g), bd := set_get r.bd (Ne.symm i), lb := set_get r.lb (Ne.symm j), la := labs_set r mem_pen, pen := set_self r.pen, sc := set_get r.sc (ne_of r.pen r.sc (by simp)), kn := set_get r.kn (ne_of r.pen r.kn (by simp)) }
theorem WR.setWd (r : WR A H las w) (live : Bool) (left : Nat) : WR A (H.set A.wd (.dict false (wD A live left w.first))) las { w with live := live, left := left } :=
 { r with wd := set_self r.wd, st := set_get r.st (ne_of r.wd r.st (by simp)), hs := set_get r.hs (ne_of r.wd r.hs (by simp)), bd := set_get r.bd (ne_of r.wd r.bd (by simp)), lb := set_get r.lb (ne_of r.wd r.lb (by simp))
          la := by
            have := r.la
            refine Labs.mono this fun a m o e => ?_
            by_cases q : A.wd = a
            · exfalso
              obtain ⟨j, hj, q'⟩ := List.getElem_of_mem m
              have hl : j < w.labels.length := by rw [← this.length]; exact hj
              obtain ⟨a', h1, h2⟩ := this.get (List.getElem?_eq_getElem hl)
              rw [List.getElem?_eq_getElem hj, q'] at h1
              cases h1
              rw [← q, r.wd] at h2; cases h2
            · exact set_get e q
          pen := set_get r.pen (ne_of r.wd r.pen (by simp)), sc := set_get r.sc (ne_of r.wd r.sc (by simp)), kn := set_get r.kn (ne_of r.wd r.kn (by simp)) }
theorem WR.setLb (r : WR A H las w) {las' : List Nat} {ls : List (List Int)} (h : Labs H las' ls) (hf : ∀ a ∈ las', a ∉ A.lists) : WR A (H.set A.lb (.list false (las'.map .ref))) las' { w with labels := ls } := by
 obtain ⟨a, b, c, d, e, f, g, h', i, j⟩ := WA.ne r.ap
 exact { r with wd := set_get r.wd (ne_of r.lb r.wd (by simp)), st := set_get r.st (Ne.symm c), hs := set_get r.hs (Ne.symm f), bd := set_get r.bd (Ne.symm h'), lb := set_self r.lb, la := h.mono fun x m Z q => set_get q fun z => hf x m (z ▸ mem_lb), pen := set_get r.pen j, sc := set_get r.sc (ne_of r.lb r.sc (by simp)), kn := set_get r.kn (ne_of r.lb r.kn (by simp)), fr := hf }
theorem own_keep (f : FrW A H H') (r : WR A H las w) {i : Nat} {fz : Bool} {l : List MV} (h : H[i]? = some (.list fz l)) (n : i ∉ A.lists) : H'[i]? = some (.list fz l) := f.keep _ _ h (ne_of h r.wd (by simp)) n
theorem new_not (r : WR A H las w) {i : Nat} (h : H.length ≤ i) : i ∉ A.lists := by
 have h1 := lt_of r.st
 have h2 := lt_of r.hs
 have h3 := lt_of r.bd
 have h4 := lt_of r.lb
 have h5 := lt_of r.pen
 simp only [WA.lists, List.mem_cons, List.not_mem_nil, or_false, not_or]
 exact ⟨ar_ne h h1, ar_ne h h2, ar_ne h h3, ar_ne h h4, ar_ne h h5⟩
end
end
section
section
variable {N d : Nat} {A : WA} {H : MH} {las : List Nat} {w : W} {Q : MV → MH → Prop} {E : MExc → MH → Prop}
theorem subL {i : Nat} {fz : Bool} {l : List MV} {k : Nat} {v : MV} (h0 : H[i]? = some (.list fz l)) (h2 : l[k]? = some v) : mSub H (.ref i) (.int k) = .ok v H := by
 exact evw (w_subL (j := k) h0 (idx_nat (List.getElem?_eq_some_iff.mp h2).1) h2 ⟨rfl, rfl⟩)
theorem WR.ev (r : WR A H las w) {ρ : Loc} {a k : Nat} {v : MV} (h0 : ρ a = some (.ref A.wd)) (h : dGet (.str k) (wD A w.live w.left w.first) = some v) : Ev N d ρ H (.sub (.loc a) (.con (.str k))) v :=
 Ev.sub (Ev.loc h0) Ev.con (evw (w_subD r.wd h ⟨rfl, rfl⟩))
theorem next0 {p n : Nat} {script : List Int} (hp : H[p]? = some (.list false [.ref 1, .int (n : Nat)])) (hs : H[1]? = some (.list true (il script))) (hn : p ≠ 1) (ha : n ≤ 1000) (q : ∀ (x : Nat), Q (.int x) (H.set p (.list false [.ref 1, .int ((n + 1 : Nat) : Int)]))) : (mCall tb.P FF N (d + 1) true 39 [.ref p] H).wp Q E := by
 have hset : mSetI H (.ref p) (.int 1) (.int ((n : Int) + 1)) = some (H.set p (.list false [.ref 1, .int ((n + 1 : Nat) : Int)])) := by
   exact bind_eq (lsw_eq hp) rfl
 refine W_call rfl rfl ?_
 simp only [Nat.reduceAdd]
 refine Wc.asgv (Ev.sub (Ev.loc rfl) Ev.con (subL (k := 1) hp rfl)) (Wc.setI (Ev.add (Ev.loc rfl) Ev.con) (Ev.loc rfl) Ev.con hset ?_)
 have hp' : (H.set p (.list false [.ref 1, .int ((n + 1 : Nat) : Int)]))[p]? = some (.list false [.ref 1, .int ((n + 1 : Nat) : Int)]) := set_self hp
 have hs' : (H.set p (.list false [.ref 1, .int ((n + 1 : Nat) : Int)]))[1]? = some (.list true (il script)) := set_get hs hn
 generalize H.set p (.list false [.ref 1, .int ((n + 1 : Nat) : Int)]) = H1 at hp' hs' q
 have fin : ∀ z : Int, Q (.int (if z < 0 then -z else z)) H1 := fun z => by
   by_cases h : z < 0
   · rw [if_pos h, ← Int.toNat_of_nonneg (Int.neg_nonneg_of_nonpos (Int.le_of_lt h))]; exact q _
   · rw [if_neg h]; exact Int.toNat_of_nonneg (Int.not_lt.mp h) ▸ q _
 have p0 : ∀ {ρ : Loc}, ρ 0 = some (.ref p) → Ev N d ρ H1 (.sub (.loc 0) (.con (.int 0))) (.ref 1) := fun h => Ev.sub (Ev.loc h) Ev.con (subL (k := 0) hp' rfl)
 have ln : ∀ {ρ : Loc}, ρ 0 = some (.ref p) → Ev N d ρ H1 (.callB .len (.sub (.loc 0) (.con (.int 0)))) (.int script.length) := fun h => by
   rw [← len_il]; exact Ev.len (p0 h) (seqL hs')
 have hm : ((37 : Int).natAbs < 1000000000000 ∧ (n : Int).natAbs < 1000000000000) := ⟨by decide, Nat.lt_of_le_of_lt ha (nle rfl)⟩
 by_cases g : (n : Int) < script.length
 · have hlt : n < script.length := Int.ofNat_lt.mp g
   exact Wc.retv (Ev.callB (Ev.add (Ev.iteT ((Ed.lt (Ev.loc rfl) (ln rfl)).1 g) (Ev.sub (p0 rfl) (Ev.loc rfl) (v := .int script[n]) (subL hs' (by simp [il, hlt])))) (Ev.mul Ev.con (Ev.loc rfl) hm)) rfl) (fin _)
 · exact Wc.retv (Ev.callB (Ev.add (Ev.iteF ((Ed.lt (Ev.loc rfl) (ln rfl)).2 g) Ev.con) (Ev.mul Ev.con (Ev.loc rfl) hm)) rfl) (fin _)
theorem next_spec (r : WR A H las w) (ha : w.at_ ≤ 1000) (q : ∀ (x : Nat) H', WR A H' las { w with at_ := w.at_ + 1 } → FrW A H H' → Q (.int x) H') : (mCall tb.P FF N (d + 1) true 39 [.ref A.pen] H).wp Q E :=
 next0 r.pen r.sc (fun z => by have h := r.pen; rw [z, r.sc] at h; cases h) ha fun x => q x _ (r.setPen (w.at_ + 1)) (frw_list mem_pen)
noncomputable def arrowP (m : Int) : List Int × List Int := if 0 ≤ m then kk m.toNat else ([], if m = -64 then [] else [m])
theorem kinds_at {m : Nat} (h : m < 4) : (kinds03.map kindMV)[m]? = some (kindMV (kk m)) := by
 rcases m with _ | _ | _ | _ | m <;> first | rfl | lia
theorem glob13 : tb.P.glob 13 = some (.tup (kinds03.map kindMV)) := rfl
theorem kk_two (n : Nat) : (kk n).1.length ≤ 2 ∧ (kk n).2.length ≤ 2 := by
 rcases n with _ | _ | _ | n
 · decide
 · decide
 · decide
 · show 2 ≤ 2 ∧ 1 ≤ 2; decide
theorem arrow_spec {m : Int} (hm : m < 4) (q : Q (.tup [.ref H.length, .ref (H.length + 1)]) (H ++ [.list false (il (arrowP m).1), .list false (il (arrowP m).2)])) : (mCall tb.P FF N (d + 1) true 40 [.int m] H).wp Q E := by
 have two : ∀ l l' : List Int, Q (.tup [.ref H.length, .ref (H.length + 1)]) (H ++ [.list false (il l), .list false (il l')]) → Q (.tup [.ref H.length, .ref (H ++ [MObj.list false (il l)]).length]) ((H ++ [.list false (il l)]) ++ [.list false (il l')]) := fun l l' q => by
   rw [List.append_assoc, List.length_append]; exact q
 refine W_call rfl rfl ?_
 simp only [Nat.reduceAdd]
 unfold arrowP at q
 refine Wc.ifP (Ed.ge (Ev.loc rfl) Ev.con) (fun g => ?_) (fun g => ?_)
 · rw [if_pos g] at q
   have kat : ∀ {H : MH}, Ev N d (upd (fun Z => none) 0 (.int m)) H (.sub (.glob 13) (.loc 0)) (kindMV (kk m.toNat)) := fun {H} => by
     refine Ev.sub (Ev.glob glob13) (Ev.loc rfl) (evw (w_subT ?_ (kinds_at (m := m.toNat) (by lia)) ⟨rfl, rfl⟩))
     unfold idx
     rw [if_pos g, if_pos (by show m < 4; exact hm)]
   have h2 := kk_two m.toNat
   refine Wc.ret (wE_tup (wEs_cons (Ee.tolist (u := .tup (il (kk m.toNat).1)) (Ev.sub kat Ev.con rfl) rfl (by rw [len_il]; exact Nat.le_trans h2.1 (by decide)) (wEs_cons (Ee.tolist (u := .tup (il (kk m.toNat).2)) (Ev.sub kat Ev.con rfl) rfl (by rw [len_il]; exact Nat.le_trans h2.2 (by decide)) (wEs_nil (w_newTup (by exact nle rfl) ?_)))))))
   exact two _ _ q
 · rw [if_neg g] at q
   refine Wc.ret (wE_tup (wEs_cons (Ee.list Evs.nil (Nat.zero_le _) (wEs_cons (wE_ite (Ee.dec (Ed.eq (Ev.loc rfl) Ev.con) (fun g => ?_) (fun g => ?_)))))))
   · rw [if_pos g] at q
     exact Ee.list Evs.nil (Nat.zero_le _) (wEs_nil (w_newTup (by exact nle rfl) (two [] [] q)))
   · rw [if_neg g] at q
     exact Ee.list (Evs.one (Ev.loc rfl)) (by exact nle rfl) (wEs_nil (w_newTup (by exact nle rfl) (two [] [m] q)))
end
end
section
section
variable {N d : Nat} {A : WA} {H : MH} {las : List Nat} {w : W} {Q : MV → MH → Prop} {E : MExc → MH → Prop}
theorem src_n {n : Nat} (h : n ≤ 16777216) : mSrc H .range [.int (n : Int)] = some (.seq (rangeL 0 n)) := by
 have h' : -16777216 ≤ (n : Int) ∧ (n : Int) ≤ 16777216 := by lia
 exact if_pos h'
theorem rangeL_len (n : Nat) : (rangeL 0 n).length = n := by simp [rangeL]
structure EmI (A : WA) (H : MH) (las : List Nat) (w : W) (p pops n : Nat) (ρ : Loc) (H' : MH) : Prop where
 hn : n ≤ pops
 r : WR A H' las { w with stack := w.stack.take (w.stack.length - (pops - n)) }
 f : FrW A H H'
 g4 : ρ 4 = some (.ref A.st)
 g3 : ρ 3 = some (.ref p)
theorem take_pop {l : List Int} {p n : Nat} (hn : n + 1 ≤ p) (hp : p ≤ l.length) : (l.take (l.length - (p - (n + 1)))).dropLast = l.take (l.length - (p - n)) := by
 rw [List.dropLast_eq_take, List.length_take, Nat.min_eq_left (Nat.sub_le _ _), List.take_take, Nat.min_eq_left (Nat.sub_le _ _)]
 obtain ⟨k, rfl⟩ := Nat.le.dest hn
 obtain ⟨m, e⟩ := Nat.le.dest hp
 rw [← e, Nat.add_sub_cancel_left, Nat.add_right_comm n 1 k, Nat.add_assoc n k 1, Nat.add_sub_cancel_left]
 congr 1
theorem emit_turn {p pops n : Nat} {ρ : Loc} {H' : MH} (I : EmI A H las w p pops (n + 1) ρ H') (hp : pops ≤ w.stack.length) (v : MV) : ∃ H'', EmI A H las w p pops n (upd ρ 5 v) H'' ∧ ∀ {QS : MFlow → Loc → MH → Prop}, QS .next (upd ρ 5 v) H'' → Wc N d QS E [.expr (.callM (.loc 4) 1 [])] (upd ρ 5 v) H' := by
 have hn := I.hn
 have hst : (w.stack.take (w.stack.length - (pops - (n + 1)))).length = w.stack.length - (pops - (n + 1)) := by rw [List.length_take]; exact Nat.min_eq_left (Nat.sub_le _ _)
 have hne : w.stack.take (w.stack.length - (pops - (n + 1))) ≠ [] := pos_ne (n := 0) (by rw [hst]; exact Nat.sub_pos_of_lt (Nat.lt_of_lt_of_le (Nat.sub_lt (Nat.lt_of_lt_of_le (Nat.succ_pos n) hn) (Nat.succ_pos n)) hp))
 refine ⟨H'.set A.st (.list false (il (w.stack.take (w.stack.length - (pops - (n + 1)))).dropLast)), ⟨Nat.le_of_succ_le hn, ?_, I.f.trans (frw_list mem_st), I.g4, I.g3⟩, fun q => ?_⟩
 · rw [take_pop hn hp]; exact I.r.setSt _
 · refine Wc.expr (Ee.callM (Ev.loc I.g4) (w_kindL I.r.st rfl) Evs.nil (w_pop (v := .int _) I.r.st (by rw [last_il, List.getLast?_eq_some_getLast hne]; rfl) ?_))
   rw [drop_il]; exact q
theorem emit_spec (r : WR A H las w) (hb : w.bud ≤ 5000) {op : List Int} {pops p : Nat} {pushes : List Int} (hp : w.live = true → pops ≤ w.stack.length) (hpp : pops ≤ 100) (h1 : H[p]? = some (.list false (il pushes))) (h2 : p ∉ A.lists) (h3 : pushes.length ≤ 2)
   (q : ∀ H', WR A H' las (w.emit op pops pushes) → FrW A H H' → Q .none H') (hop : op.length ≤ 10 := by exact nle rfl) : (mCall tb.P FF N (d + 1) true 41 [.ref A.wd, .tup (il op), .int pops, .ref p] H).wp Q E := by
 have hsz : w.body.length < sizeL ∧ w.stack.length < 6000 := ⟨Nat.lt_of_le_of_lt (Nat.le_trans bud_bd hb) (nle rfl), Nat.lt_of_le_of_lt (Nat.le_trans bud_st hb) (nle rfl)⟩
 obtain ⟨_, _, _, _, n5, _⟩ := WA.ne r.ap
 refine W_call rfl rfl ?_
 simp only [Nat.reduceAdd]
 refine Wc.asgv (r.ev rfl rfl) ?_
 generalize hh : (if w.live = true then some w.stack.length else none) = h
 have hv : Ev N d (upd (upd (upd (upd (upd (fun Z => none) 0 (.ref A.wd)) 1 (.tup (il op))) 2 (.int pops)) 3 (.ref p)) 4 (.ref A.st)) H (.ite (.sub (.loc 0) (.con (.str 60))) (.callB .len (.loc 4)) (.con .none)) (hMV h) := by
   rw [← hh]
   by_cases hl : w.live = true
   · rw [if_pos hl]
     refine Ev.iteT ((Ed.b (r.ev rfl rfl)).1 hl) ?_
     show Ev _ _ _ _ _ (.int w.stack.length)
     rw [← len_il]; exact Ev.len (Ev.loc rfl) (seqL r.st)
   · rw [if_neg hl]
     exact Ev.iteF ((Ed.b (r.ev rfl rfl)).2 hl) Ev.con
 refine Wc.expr (Ee.callM (r.ev rfl rfl) (w_kindL r.hs rfl) (Evs.one hv) (w_append r.hs (by rw [List.length_map, r.hl]; exact hsz.1) ?_))
 have e1 : w.heights.map hMV ++ [hMV h] = (w.heights ++ [h]).map hMV := by simp
 rw [e1]
 have hwd : (H.set A.hs (.list false ((w.heights ++ [h]).map hMV)))[A.wd]? = some (.dict false (wD A w.live w.left w.first)) := set_get r.wd (ne_of r.hs r.wd (by simp))
 have hbd : (H.set A.hs (.list false ((w.heights ++ [h]).map hMV)))[A.bd]? = some (.list false (insMV w.body)) := set_get r.bd n5
 refine Wc.expr (Ee.callM (Ev.sub (Ev.loc rfl) Ev.con (evw (w_subD hwd rfl ⟨rfl, rfl⟩))) (w_kindL hbd rfl) (Evs.one (Ev.loc rfl)) (w_append hbd (by show (insMV w.body).length < sizeL; unfold insMV; rw [List.length_map]; exact hsz.1) ?_))
 have e2 : insMV w.body ++ [.tup (il op)] = insMV (w.body ++ [op]) := by simp [insMV]
 rw [e2]
 have r1 := r.setEmit h op hop
 have f1 : FrW A H ((H.set A.hs (.list false ((w.heights ++ [h]).map hMV))).set A.bd (.list false (insMV (w.body ++ [op])))) := (frw_list mem_hs).trans (frw_list mem_bd)
 clear hv hwd hbd e1 e2
 generalize (H.set A.hs (.list false ((w.heights ++ [h]).map hMV))).set A.bd (.list false (insMV (w.body ++ [op]))) = H1 at r1 f1
 unfold W.emit at q
 refine Wc.ifP (Ed.b (r1.ev rfl rfl)) (fun hl => ?_) (fun hl => ?_)
 · have hl : w.live = true := hl
   rw [if_pos hl] at q hh
   rw [hh] at q
   have hps := hp hl
   refine Wc.forS (Evs.one (Ev.loc rfl)) (src_n (n := pops) (Nat.le_trans hpp (nle rfl))) (fun vs ρ H' => EmI A H las { w with heights := w.heights ++ [h], body := w.body ++ [op] } p pops vs.length ρ H') (fun v vs ρ H' I => ?_) (fun ρ H' I => ?_)
     ⟨by rw [rangeL_len]; exact Nat.le_refl _, by rw [rangeL_len, Nat.sub_self, Nat.sub_zero, List.take_length]; exact r1, f1, rfl, rfl⟩
   · obtain ⟨H'', I', k⟩ := emit_turn (N := N) (d := d) (E := E) I hps v
     exact ⟨_, rfl, k I'⟩
   · have r' : WR A H' las { w with heights := w.heights ++ [h], body := w.body ++ [op], stack := w.stack.take (w.stack.length - pops) } := I.r
     have hp' := own_keep I.f r h1 h2
     refine Wc.expr (Ee.callM (Ev.loc I.g4) (w_kindL r'.st rfl) (Evs.one (Ev.loc I.g3)) (w_extend r'.st (seqL hp') ?_ (Wc.nil (q _ ?_ (I.f.trans (frw_list mem_st))))))
     · rw [len_il, len_il]
       show (w.stack.take _).length + _ ≤ _
       rw [List.length_take]
       exact Nat.le_trans (Nat.add_le_add (Nat.le_trans (Nat.min_le_right _ _) (Nat.le_of_lt hsz.2)) h3) (nle rfl)
     · have e3 : il (w.stack.take (w.stack.length - pops)) ++ il pushes = il (w.stack.take (w.stack.length - pops) ++ pushes) := by simp [il]
       show WR A (H'.set A.st (.list false (il (w.stack.take (w.stack.length - pops)) ++ il pushes))) las _
       rw [e3]
       exact r'.setSt (w.stack.take (w.stack.length - pops) ++ pushes)
 · have hl : ¬ w.live = true := hl
   rw [if_neg hl] at q hh
   rw [hh] at q
   exact Wc.nil (q _ r1 f1)
theorem Ev.op {ρ : Loc} {es : List CE} {op : List Int} (h : Evs N d ρ H es (il op)) (hl : op.length ≤ 10) : Ev N d ρ H (.tup es) (.tup (il op)) := Evs.tup h (by rw [len_il]; exact Nat.le_trans hl (by decide))
theorem Ee.emit (r : WR A H las w) (hb : w.bud ≤ 5000) {ρ : Loc} {a : Nat} {eo ep : CE} {es : List CE} {op : List Int} {pops : Nat} {pushes : List Int} (h0 : ρ a = some (.ref A.wd)) (ho : Ev N (d + 1) ρ H eo (.tup (il op))) (hp : Ev N (d + 1) ρ H ep (.int pops)) (hl : Evs N (d + 1) ρ H es (il pushes))
   (hps : w.live = true → pops ≤ w.stack.length) (hpp : pops ≤ 100) (h3 : pushes.length ≤ 2) (hop : op.length ≤ 10) (q : ∀ H', WR A H' las (w.emit op pops pushes) → FrW A H H' → Q .none H') : Ee N (d + 1) E ρ H (.callF 41 [.loc a, eo, ep, .list es]) Q := by
 refine wE_callF (wEs_cons (wE_loc h0 (wEs_cons (Ee.v ho (wEs_cons (Ee.v hp (wEs_cons (Ee.list hl (by rw [len_il]; exact Nat.le_trans h3 (by decide)) (wEs_nil ?_)))))))))
 exact emit_spec (r.keep fun Z Z => app_get) hb hps hpp app_new (new_not r (Nat.le_refl _)) h3 (fun H' r' f' => q H' r' (frw_app.trans f')) hop
theorem const_spec (r : WR A H las w) (hb : w.bud ≤ 5000) {k : Int} (q : ∀ H', WR A H' las (w.emit (constOp k) 0 [k]) → FrW A H H' → Q .none H') : (mCall tb.P FF N (d + 2) true 42 [.ref A.wd, .int k] H).wp Q E := by
 refine W_call rfl rfl ?_
 simp only [Nat.reduceAdd]
 have hv : Ev N (d + 1) (upd (upd (fun Z => none) 0 (.ref A.wd)) 1 (.int k)) H (.ite (.cmp (.loc 1) [.eq] [.con (.int (-1))]) (.tup [.con (.int 65), .con (.int (-3))]) (.tup [.con (.int 66), .con (.int 5)])) (.tup (il (constOp k))) := by
   unfold constOp
   by_cases g : k = -1
   · rw [if_pos g]; exact Ev.iteT ((Ed.eq (Ev.loc rfl) Ev.con).1 g) (Ev.op rfl (by decide))
   · rw [if_neg g]; exact Ev.iteF ((Ed.eq (Ev.loc rfl) Ev.con).2 g) (Ev.op rfl (by decide))
 exact Wc.expr (Ee.emit r hb rfl hv (Ev.con (v := .int (0 : Nat))) (Evs.one (Ev.loc rfl)) (fun Z => Nat.zero_le _) (Nat.zero_le _) (nle rfl) (by unfold constOp; split <;> exact nle rfl) fun H' r' f' => Wc.nil (q H' r' f'))
end
end
section
structure Same (w w' : W) : Prop where
 labels : w'.labels = w.labels
 left : w'.left = w.left
 first : w'.first = w.first
 at_ : w'.at_ = w.at_
theorem Same.refl (w : W) : Same w w := ⟨rfl, rfl, rfl, rfl⟩
theorem Same.trans {w w' w'' : W} (x : Same w w') (y : Same w' w'') : Same w w'' := ⟨y.labels.trans x.labels, y.left.trans x.left, y.first.trans x.first, y.at_.trans x.at_⟩
theorem same_emit {w : W} {op : List Int} {pops : Nat} {pushes : List Int} : Same w (w.emit op pops pushes) := ⟨emit_same.1, emit_same.2.2.1, emit_same.2.2.2.1, emit_same.2.2.2.2⟩
noncomputable def tailOps : Nat → List (List Int)
 | 0 => [[1]]
 | 1 => [[26]]
 | 2 => [[106], [26]]
 | _ => [[2, -64], [65, 1], [26], [11]]
theorem tail_len (j : Nat) : (tailOps j).length ≤ 4 := by
 rcases j with _ | _ | _ | j
 · decide
 · decide
 · decide
 · show 4 ≤ 4; decide
theorem tail_ops {j : Nat} {op : List Int} (h : op ∈ tailOps j) : op.length ≤ 10 := by
 have : (tailOps j).all (fun op => Nat.ble op.length 10) = true := by rcases j with _ | _ | _ | j <;> rfl
 exact nle (List.all_eq_true.mp this op h)
theorem Sync.tail_ {e : CEnv} {os : List Blk} {t : Blk} {w : W} (S : Sync e os t w) (hl : w.live = false) (hb : w.bud ≤ 4000) (j : Nat) : Sync e os t (w.emits (tailOps j)) := by
 have h1 : os.length < 5000 ∧ t.height < 5000 := by exact ⟨Nat.lt_of_le_of_lt (Nat.le_trans S.deep (Nat.le_trans bud_bd hb)) (nle rfl), Nat.lt_of_le_of_lt (Nat.le_trans S.ht (Nat.le_trans bud_st hb)) (nle rfl)⟩
 refine S.stretch hl fun st hs => ?_
 rcases j with _ | _ | _ | j
 · exact tail_nop st
 · exact tail_drop hs
 · exact tail_add hs (Nat.lt_of_le_of_lt (Nat.le_of_eq hs) h1.2)
 · exact tail_block S.tfl.2 hs (Nat.lt_of_le_of_lt (Nat.le_of_eq hs) h1.2) h1.1
theorem emits_facts {w : W} (hl : w.live = false) (ops : List (List Int)) : (w.emits ops).live = false ∧ (w.emits ops).stack = w.stack ∧ Same w (w.emits ops) ∧ (w.emits ops).bud = w.bud + ops.length := by
 rw [emits_dead hl]
 refine ⟨hl, rfl, ⟨rfl, rfl, rfl, rfl⟩, ?_⟩
 unfold W.bud
 simp only [List.length_append]
 lia
theorem emits_snoc {w : W} {ops : List (List Int)} {op : List Int} : w.emits (ops ++ [op]) = (w.emits ops).emit op 0 [] := by
 unfold W.emits
 rw [List.foldl_append]; rfl
section
variable {N d : Nat} {A : WA} {H : MH} {las : List Nat} {w : W} {Q : MV → MH → Prop} {E : MExc → MH → Prop}
theorem setLive (r : WR A H las w) (b : Bool) : mSetI H (.ref A.wd) (.str 60) (.bool b) = some (H.set A.wd (.dict false (wD A b w.left w.first))) := bind_eq (dcw_eq r.wd) ((if_pos (nle rfl)).trans rfl)
structure DiI (A : WA) (H : MH) (las : List Nat) (w : W) (e : CEnv) (os : List Blk) (t : Blk) (n y : Nat) (w' : W) (ρ : Loc) (H' : MH) : Prop where
 g0 : ρ 0 = some (.ref A.wd)
 g1 : ρ 1 = some (.int (y : Nat))
 r : WR A H' las w'
 S : Sync e os t w'
 f : FrW A H H'
 hl : w'.live = false
 hs : w'.stack = w.stack
 sm : Same w w'
 hb : w'.bud + 4 * n ≤ w.bud + 12
noncomputable abbrev tailsH (H : MH) : MH := H ++ [.list false (insMV (tailOps 0)), .list false (insMV (tailOps 1)), .list false (insMV (tailOps 2)), .list false (insMV (tailOps 3))]
theorem tails_ev {ρ : Loc} {y : Nat} {Q : MV → MH → Prop} (h1 : ρ 1 = some (.int y)) (q : ∀ j, j < 4 → Q (.ref (H.length + j)) (tailsH H)) :
   Ee N d E ρ H (.sub (.tup [.list [.tup [.con (.int 1)]], .list [.tup [.con (.int 26)]], .list [.tup [.con (.int 106)], .tup [.con (.int 26)]], .list [.tup [.con (.int 2), .con (.int (-64))], .tup [.con (.int 65), .con (.int 1)], .tup [.con (.int 26)], .tup [.con (.int 11)]]]) (.bin .fmod (.loc 1) (.con (.int 4)))) Q := by
 have one : ∀ {es : List CE} {n : Nat} {H : MH} {Q : MV → MH → Prop}, Evs N d ρ H es (insMV (tailOps n)) → Q (.ref H.length) (H ++ [.list false (insMV (tailOps n))]) → Ee N d E ρ H (.list es) Q := fun {es n} _ _ he q =>
   Ee.list he (by unfold insMV; rw [List.length_map]; exact Nat.le_trans (tail_len n) (by decide)) q
 refine wE_sub (wE_tup (wEs_cons (one (n := 0) rfl (wEs_cons (one (n := 1) rfl (wEs_cons (one (n := 2) rfl (wEs_cons (one (n := 3) rfl (wEs_nil (w_newTup (by exact nle rfl) (Ee.v (Ev.mod (Ev.loc h1) Ev.con (by decide)) ?_))))))))))))
 simp only [List.append_assoc, List.length_append, List.cons_append, List.nil_append, List.length_cons, List.length_nil]
 have ej : (y : Int) % 4 = ((y % 4 : Nat) : Int) := rfl
 rw [ej]
 have hj : y % 4 < 4 := Nat.mod_lt _ (by decide)
 generalize y % 4 = j at hj
 refine w_subT (j := j) (v := .ref (H.length + j)) ?_ ?_ (q j hj)
 · exact idx_in ⟨Int.natCast_nonneg j, Int.ofNat_lt.mpr hj⟩
 · rcases j with _ | _ | _ | _ | j <;> first | rfl | lia
theorem tails_get {j : Nat} (hj : j < 4) : (tailsH H)[H.length + j]? = some (.list false (insMV (tailOps j))) := by
 rw [List.getElem?_append_right (Nat.le_add_right _ _), Nat.add_sub_cancel_left]
 rcases j with _ | _ | _ | _ | j <;> first | rfl | lia
theorem tail_loop (hN : 2000000 ≤ N) {QS : MFlow → Loc → MH → Prop} {ρ : Loc} {i j : Nat} (r : WR A H las w) (hl : w.live = false) (hb : w.bud + 4 ≤ 4000) (h0 : ρ 0 = some (.ref A.wd)) (hget : H[i]? = some (.list false (insMV (tailOps j)))) (hnot : i ∉ A.lists)
   (q : ∀ ρ' H', (∀ z, z ≠ 3 → ρ' z = ρ z) → WR A H' las (w.emits (tailOps j)) → FrW A H H' → QS .next ρ' H') :
   (forR N [3] false (fun ρ H => mSs tb.P (mCall tb.P FF N (d + 1)) N [.expr (.callF 41 [.loc 0, .loc 3, .con (.int 0), .list []])] true ρ H) (.lst i) ρ H).wp QS E := by
 have tl := tail_len j
 have hlen : (insMV (tailOps j)).length = (tailOps j).length := List.length_map _
 refine w_forI (l := insMV (tailOps j)) (fun k ρ' H3 => (∀ z, z ≠ 3 → ρ' z = ρ z) ∧ WR A H3 las (w.emits ((tailOps j).take k)) ∧ FrW A H H3) (fun k ρ' H3 I => ?_) (fun k v ρ' H3 hk I => ?_) (fun ρ' H3 I => ?_)
   ⟨fun Z Z => rfl, r, FrW.refl _ _⟩ (Nat.zero_le _) (by rw [hlen]; exact Nat.lt_of_le_of_lt tl (Nat.lt_of_lt_of_le (nle rfl) hN))
 · exact ⟨false, own_keep I.2.2 r hget hnot⟩
 · have hk' : ((tailOps j)[k]?).map (fun i => MV.tup (il i)) = some v := by rw [← hk]; simp [insMV]
   refine mapS hk' fun op ho e => ?_
   subst e
   have hkl := (List.getElem?_eq_some_iff.mp ho).1
   have m4 := (emits_facts hl ((tailOps j).take k)).2.2.2
   have h0' : (upd ρ' 3 (.tup (il op))) 0 = some (.ref A.wd) := (I.1 0 (by decide)).trans h0
   refine ⟨_, rfl, Wc.expr (Ee.emit I.2.1 (by rw [m4, List.length_take]; exact Nat.le_trans (Nat.le_trans (Nat.add_le_add_left (Nat.le_trans (Nat.min_le_right _ _) tl) _) hb) (nle rfl)) h0' (Ev.loc rfl) (Ev.con (v := .int (0 : Nat))) (pushes := []) Evs.nil (fun Z => Nat.zero_le _) (Nat.zero_le _) (Nat.zero_le _) (tail_ops (List.mem_of_getElem? ho)) fun H4 r4 f4 => ⟨fun z hz => ?_, ?_, I.2.2.trans f4⟩)⟩
   · unfold upd; rw [if_neg hz]; exact I.1 z hz
   · rw [List.take_succ_eq_append_getElem hkl, emits_snoc, (List.getElem?_eq_some_iff.mp ho).2]
     exact r4
 · obtain ⟨hz, r3, f3⟩ := I
   rw [hlen, List.take_length] at r3
   exact q _ _ hz r3 f3
theorem die_spec (hN : 2000000 ≤ N) {e : CEnv} {os : List Blk} {t : Blk} (r : WR A H las w) (S : Sync e os t { w with live := false }) (hb : w.bud ≤ 3900) (x : Nat)
   (q : ∀ H' w', WR A H' las w' → Sync e os t w' → FrW A H H' → w'.live = false → w'.stack = w.stack → Same w w' → w'.bud ≤ w.bud + 12 → Q .none H') : (mCall tb.P FF N (d + 2) true 43 [.ref A.wd, .int x] H).wp Q E := by
 have ex : (x : Int) % 4 = ((x % 4 : Nat) : Int) := rfl
 refine W_call rfl rfl ?_
 simp only [Nat.reduceAdd]
 refine Wc.setI Ev.con (Ev.loc rfl) Ev.con (setLive r false) ?_
 have r1 := r.setWd false w.left
 have f1 : FrW A H (H.set A.wd (.dict false (wD A false w.left w.first))) := frw_wd
 generalize H.set A.wd (.dict false (wD A false w.left w.first)) = H1 at r1 f1
 have hs : mSrc H1 .range [.int ((x : Int) % 4)] = some (.seq (rangeL 0 ((x % 4 : Nat) : Int))) := by rw [ex]; exact src_n (Nat.le_trans (Nat.le_of_lt (Nat.mod_lt x (nle rfl))) (nle rfl))
 refine Wc.forS (Evs.one (Ev.mod (Ev.loc rfl) Ev.con (by decide))) hs (fun vs ρ H' => ∃ w' y, DiI A H las w e os t vs.length y w' ρ H') (fun v vs ρ H' I => ?_) (fun ρ H' I => ?_)
   ⟨_, x, rfl, rfl, r1, S, f1, rfl, rfl, ⟨rfl, rfl, rfl, rfl⟩, by rw [rangeL_len]; show w.bud + _ ≤ _; exact Nat.add_le_add_left (Nat.mul_le_mul_left 4 (Nat.le_of_lt_succ (Nat.mod_lt x (nle rfl)))) _⟩
 · obtain ⟨w', y, I⟩ := I
   have hbd := I.hb
   rw [List.length_cons] at hbd
   have ey : (y : Int) / 4 = ((y / 4 : Nat) : Int) := rfl
   refine ⟨_, rfl, Wc.asgv (v := .int ((y / 4 : Nat) : Int)) (by rw [← ey]; exact Ev.div (Ev.loc I.g1) Ev.con (by decide)) (Wc.forLE (tails_ev rfl fun j hj => ⟨_, _, _, rfl, tails_get hj, ?_⟩))⟩
   refine tail_loop hN (I.r.keep fun Z Z => app_get) I.hl (by lia) I.g0 (tails_get hj) (new_not I.r (Nat.le_add_right _ _)) fun ρ' H3 hz r3 f3 => ?_
   obtain ⟨m1, m2, m3, m4⟩ := emits_facts I.hl (tailOps j)
   have tl := tail_len j
   exact ⟨_, y / 4, (hz 0 (by decide)).trans I.g0, (hz 1 (by decide)).trans rfl, r3, I.S.tail_ I.hl (by lia) j, (I.f.trans frw_app).trans f3, m1, m2.trans I.hs, I.sm.trans m3, by lia⟩
 · obtain ⟨w', y, I⟩ := I
   exact Wc.nil (q _ _ I.r I.S I.f I.hl I.hs I.sm I.hb)
end
end
section
theorem bud_const {w : W} (hl : w.live = true) {k : Int} : (w.emit (constOp k) 0 [k]).bud = w.bud + 2 := by
 have := bud_live hl (op := constOp k) (pops := 0) (pushes := [k]) (Nat.zero_le _)
 simpa using this
theorem stack_const {w : W} (hl : w.live = true) {k : Int} : (w.emit (constOp k) 0 [k]).stack = w.stack ++ [k] := by
 rw [emit_live hl]; simp
section
variable {N d : Nat} {A : WA} {H : MH} {las : List Nat} {w : W} {Q : MV → MH → Prop} {QS : MFlow → Loc → MH → Prop} {E : MExc → MH → Prop} {e : CEnv} {os : List Blk} {t : Blk}
structure CoI (A : WA) (H : MH) (las : List Nat) (w : W) (e : CEnv) (os : List Blk) (t : Blk) (x : Nat) (ρ : Loc) (ms : List Int) (w' : W) (ρ' : Loc) (H' : MH) : Prop where
 r : WR A H' las w'
 S : Sync e os t w'
 f : FrW A H H'
 hl : w'.live = true
 hs : w'.stack = w.stack ++ ms
 sm : Same w w'
 hb : w'.bud = w.bud + 2 * ms.length
 hy : ∀ y, y ≠ x → ρ' y = ρ y
theorem const_turn {ρ ρ' : Loc} {a x : Nat} {ms : List Int} {k : Int} {w' : W} {H' : MH} (hax : a ≠ x) (I : CoI A H las w e os t x ρ ms w' ρ' H') (hb : w.bud + 2 * ms.length ≤ 4000) (hk : num k) (h0 : ρ a = some (.ref A.wd))
   (q : ∀ w'' H'', CoI A H las w e os t x ρ (ms ++ [k]) w'' (upd ρ' x (.int k)) H'' → QS .next (upd ρ' x (.int k)) H'') : Wc N (d + 2) QS E [.expr (.callF 42 [.loc a, .loc x])] (upd ρ' x (.int k)) H' := by
 have h1 : (upd ρ' x (.int k)) a = some (.ref A.wd) := by unfold upd; rw [if_neg hax, I.hy a hax]; exact h0
 have h2 : (upd ρ' x (.int k)) x = some (.int k) := by unfold upd; rw [if_pos rfl]
 have hb' : w'.bud ≤ 4000 := by rw [I.hb]; exact hb
 refine Wc.expr (Ee.callF (Evs.cons (Ev.loc h1) (Evs.one (Ev.loc h2))) (const_spec I.r (Nat.le_trans hb' (by decide)) fun H2 r2 f2 => q _ _ ⟨r2, I.S.const I.hl (Nat.le_trans hb' (by decide)) hk, I.f.trans f2, by rw [emit_same.2.1]; exact I.hl, ?_, I.sm.trans same_emit, ?_, fun y hy' => ?_⟩))
 · rw [stack_const I.hl, I.hs, List.append_assoc]
 · rw [bud_const I.hl, I.hb, List.length_append]; rfl
 · unfold upd; rw [if_neg hy']; exact I.hy y hy'
theorem consts_loop (hN : 2000000 ≤ N) {ρ : Loc} {a x i : Nat} {ks : List Int} (hax : a ≠ x) (r : WR A H las w) (S : Sync e os t w) (hl : w.live = true) (hb : w.bud + 2 * ks.length ≤ 4000) (hi : H[i]? = some (.list false (il ks))) (hni : i ∉ A.lists) (hk : ∀ k ∈ ks, num k) (h0 : ρ a = some (.ref A.wd))
   (q : ∀ ρ' H' w', CoI A H las w e os t x ρ ks w' ρ' H' → QS .next ρ' H') :
   (forR N [x] false (fun ρ H => mSs tb.P (mCall tb.P FF N (d + 2)) N [.expr (.callF 42 [.loc a, .loc x])] true ρ H) (.lst i) ρ H).wp QS E := by
 refine w_forI (l := il ks) (fun j ρ' H' => ∃ w', CoI A H las w e os t x ρ (ks.take j) w' ρ' H') (fun j ρ' H' I => ?_) (fun j v ρ' H' hj I => ?_) (fun ρ' H' I => ?_)
   ⟨w, r, S, FrW.refl _ _, hl, (List.append_nil _).symm, Same.refl _, rfl, fun Z Z => rfl⟩ (Nat.zero_le _) (by rw [len_il]; exact Nat.lt_of_le_of_lt (Nat.le_trans (Nat.le_trans (Nat.le_mul_of_pos_left _ (nle rfl)) (Nat.le_add_left _ _)) hb) (Nat.lt_of_lt_of_le (nle rfl) hN))
 · obtain ⟨w', I⟩ := I
   exact ⟨false, own_keep I.f r hi hni⟩
 · obtain ⟨w', I⟩ := I
   have hj' : (ks[j]?).map MV.int = some v := by rw [← hj]; simp [il]
   refine mapS hj' fun k hk' ek => ?_
   subst ek
   have hjl := (List.getElem?_eq_some_iff.mp hk').1
   have e1 : ks.take (j + 1) = ks.take j ++ [k] := by rw [List.take_succ_eq_append_getElem hjl, (List.getElem?_eq_some_iff.mp hk').2]
   refine ⟨_, rfl, const_turn hax I (by rw [List.length_take]; exact Nat.le_trans (Nat.add_le_add_left (Nat.mul_le_mul_left 2 (Nat.min_le_right _ _)) _) hb) (hk k (List.mem_of_getElem? hk')) h0 fun w'' H'' I => ?_⟩
   rw [← e1] at I
   exact ⟨w'', I⟩
 · obtain ⟨w', I⟩ := I
   rw [len_il, List.take_length] at I
   exact q _ _ _ I
theorem consts_seq {ρ : Loc} {a x : Nat} {ks : List Int} (hax : a ≠ x) (r : WR A H las w) (S : Sync e os t w) (hl : w.live = true) (hb : w.bud + 2 * ks.length ≤ 4000) (hk : ∀ k ∈ ks, num k) (h0 : ρ a = some (.ref A.wd))
   (q : ∀ ρ' H' w', CoI A H las w e os t x ρ ks w' ρ' H' → QS .next ρ' H') :
   (forR N [x] false (fun ρ H => mSs tb.P (mCall tb.P FF N (d + 2)) N [.expr (.callF 42 [.loc a, .loc x])] true ρ H) (.seq (il ks)) ρ H).wp QS E := by
 refine w_forS (fun vs ρ' H' => ∃ w' ms rest, ks = ms ++ rest ∧ vs = il rest ∧ CoI A H las w e os t x ρ ms w' ρ' H') (fun v vs ρ' H' I => ?_) (fun ρ' H' I => ?_)
   ⟨w, [], ks, rfl, rfl, r, S, FrW.refl _ _, hl, (List.append_nil _).symm, Same.refl _, rfl, fun Z Z => rfl⟩
 · obtain ⟨w', ms, rest, e1, e2, I⟩ := I
   cases rest with
   | nil => cases e2
   | cons k rest =>
     cases e2
     have hz : ks.length = ms.length + (rest.length + 1) := by rw [e1]; simp
     exact ⟨_, rfl, const_turn hax I (by lia) (hk k (by rw [e1]; simp)) h0 fun w'' H'' I => ⟨w'', ms ++ [k], rest, by rw [e1]; simp, rfl, I⟩⟩
 · obtain ⟨w', ms, rest, e1, e2, I⟩ := I
   cases rest with
   | cons k rest => cases e2
   | nil =>
     rw [List.append_nil] at e1
     subst e1
     exact q _ _ _ I
theorem WR.lenS (r : WR A H las w) {ρ : Loc} {a : Nat} (h0 : ρ a = some (.ref A.wd)) : Ev N d ρ H (.callB .len (.sub (.loc a) (.con (.str 59)))) (.int w.stack.length) := by
 rw [← len_il]; exact Ev.len (r.ev h0 rfl) (seqL r.st)
structure ClI (A : WA) (H : MH) (las : List Nat) (w : W) (e : CEnv) (os : List Blk) (t : Blk) (p : Nat) (n : Nat) (w' : W) (ρ : Loc) (H' : MH) : Prop where
 hn : n = w'.stack.length - t.height
 g0 : ρ 0 = some (.ref A.wd)
 g1 : ρ 1 = some (.int (t.height : Nat))
 g2 : ρ 2 = some (.ref p)
 r : WR A H' las w'
 S : Sync e os t w'
 f : FrW A H H'
 hl : w'.live = true
 hs : w'.stack = w.stack.take w'.stack.length
 sm : Same w w'
 hb : w'.bud ≤ w.bud
theorem close_turn {p n : Nat} {w' : W} {ρ : Loc} {H' : MH} (I : ClI A H las w e os t p n w' ρ H') (g : t.height < w'.stack.length) (hb : w.bud ≤ 3900) (q : ∀ m w'' H'', m < n → ClI A H las w e os t p m w'' ρ H'' → QS .next ρ H'') :
   Wc N (d + 2) QS E [.expr (.callF 41 [.loc 0, .tup [.con (.int 26)], .con (.int 1), .list []])] ρ H' := by
 have hne : w'.stack ≠ [] := by intro z; rw [z] at g; simp at g
 have hdl := List.dropLast_concat_getLast hne
 have hstk : (w'.emit [26] 1 []).stack = w'.stack.dropLast := by rw [emit_live I.hl, List.dropLast_eq_take, List.append_nil]
 have hl2 : w'.stack.dropLast.length = w'.stack.length - 1 := List.length_dropLast
 have hn := I.hn
 have hs := I.hs
 refine Wc.expr (Ee.emit I.r (Nat.le_trans (Nat.le_trans I.hb hb) (by decide)) I.g0 (Ev.op (op := [26]) rfl (by decide)) (Ev.con (v := .int (1 : Nat))) (pushes := []) Evs.nil (fun Z => Nat.zero_lt_of_lt g) (by decide) (Nat.zero_le _) (by exact nle rfl) fun H2 r2 f2 =>
   q ((w'.emit [26] 1 []).stack.length - t.height) _ _ (by rw [hstk]; exact ar_turn g hn hl2) ⟨rfl, I.g0, I.g1, I.g2, r2, I.S.drop I.hl (st := w'.stack.dropLast) hdl.symm (ar_le g hl2), I.f.trans f2, by rw [emit_same.2.1]; exact I.hl, ?_, I.sm.trans same_emit, ?_⟩)
 · rw [hstk, List.dropLast_eq_take, List.length_take]
   generalize hm : w'.stack.length = m at hs
   rw [hs, List.take_take]
 · exact Nat.le_trans (Nat.le_of_eq (Nat.succ.inj (bud_live I.hl (op := [26]) (pops := 1) (pushes := []) (Nat.zero_lt_of_lt g)))) I.hb
theorem close_w (hN : 2000000 ≤ N) {p : Nat} {res : List Int} (r : WR A H las w) (S : Sync e os t w) (hb : w.bud + 2 * res.length ≤ 3900) (hi : H[p]? = some (.list false (il res))) (hni : p ∉ A.lists) (hk : ∀ k ∈ res, num k)
   (q : ∀ H' w', WR A H' las w' → Sync e os t w' → FrW A H H' → w'.live = w.live → (w.live = true → w'.stack = w.stack.take t.height ++ res) → (w.live = false → w'.stack = w.stack) → Same w w' → w'.bud ≤ w.bud + 2 * res.length → Q .none H') :
   (mCall tb.P FF N (d + 3) true 44 [.ref A.wd, .int t.height, .ref p] H).wp Q E := by
 refine W_call rfl rfl ?_
 simp only [Nat.reduceAdd]
 refine Wc.ifP (Ed.b (r.ev rfl rfl)) (fun hl => ?_) (fun hl => ?_)
 · have hst : w.stack.length ≤ 3900 := Nat.le_trans bud_st (Nat.le_trans (Nat.le_add_right _ _) hb)
   refine Wc.whl (fun n ρ H' => ∃ w', ClI A H las w e os t p n w' ρ H') (fun n ρ H' I => ?_) (n := w.stack.length - t.height) (ar_N hN hst rfl) ⟨w, rfl, rfl, rfl, rfl, r, S, FrW.refl _ _, hl, List.take_length.symm, Same.refl _, Nat.le_refl _⟩
   obtain ⟨w', I⟩ := I
   refine Ee.dec (Ed.conv (q := t.height < w'.stack.length) (Ed.gt (I.r.lenS I.g0) (Ev.loc I.g1)) Int.ofNat_lt) (fun g => close_turn I g (Nat.le_trans (Nat.le_add_right _ _) hb) fun m w'' H'' hm I => ⟨m, hm, w'', I⟩) (fun g => ?_)
   have g : w'.stack.length = t.height := Nat.le_antisymm (Nat.not_lt.mp g) I.S.ht
   have hp' := own_keep I.f r hi hni
   have hbb := I.hb
   refine Wc.forL (Evs.one (Ev.loc I.g2)) hp' (consts_loop hN (a := 0) (x := 3) (by decide) I.r I.S I.hl (Nat.le_trans (Nat.add_le_add_right hbb _) (Nat.le_trans hb (nle rfl))) hp' hni hk I.g0 fun ρ2 H2 w2 J => ?_)
   have hb2 := J.hb
   refine Wc.nil (q _ _ J.r J.S (I.f.trans J.f) (J.hl.trans hl.symm) (fun Z => ?_) (fun h => by rw [hl] at h; cases h) (I.sm.trans J.sm) (Nat.le_trans (Nat.le_of_eq hb2) (Nat.add_le_add_right hbb _)))
   rw [J.hs, I.hs, g]
 · exact Wc.nil (q _ _ r S (FrW.refl _ _) rfl (fun h => absurd h hl) (fun Z => rfl) (Same.refl _) (Nat.le_add_right _ _))
structure RsI (A : WA) (H : MH) (las : List Nat) (w : W) (p base : Nat) (n : Nat) (st : List Int) (ρ : Loc) (H' : MH) : Prop where
 hn : n = st.length - base
 g0 : ρ 0 = some (.ref A.wd)
 g1 : ρ 1 = some (.int (base : Nat))
 g2 : ρ 2 = some (.ref p)
 r : WR A H' las { w with stack := st }
 f : FrW A H H'
 hs : st.take base = w.stack.take base
 hle : st.length ≤ w.stack.length
theorem reset_turn {p base n : Nat} {st : List Int} {ρ : Loc} {H' : MH} (I : RsI A H las w p base n st ρ H') (g : base < st.length) (q : ∀ m st' H'', m < n → RsI A H las w p base m st' ρ H'' → QS .next ρ H'') :
   Wc N d QS E [.expr (.callM (.sub (.loc 0) (.con (.str 59))) 1 [])] ρ H' := by
 have hne := pos_ne g
 have hst : H'[A.st]? = some (.list false (il st)) := I.r.st
 have hn := I.hn
 have hl2 : st.dropLast.length = st.length - 1 := List.length_dropLast
 refine Wc.expr (Ee.callM (I.r.ev I.g0 rfl) (w_kindL hst rfl) Evs.nil (w_pop (v := .int (st.getLast hne)) hst (by rw [last_il, List.getLast?_eq_some_getLast hne]; rfl) ?_))
 rw [drop_il]
 refine q (st.dropLast.length - base) st.dropLast _ (ar_turn g hn hl2) ⟨rfl, I.g0, I.g1, I.g2, I.r.setSt st.dropLast, I.f.trans (frw_list mem_st), ?_, Nat.le_trans (Nat.le_trans (Nat.le_of_eq hl2) (Nat.sub_le _ _)) I.hle⟩
 rw [List.dropLast_eq_take, List.take_take, ← I.hs, Nat.min_eq_left (Nat.le_sub_one_of_lt g)]
theorem reset_w (hN : 2000000 ≤ N) {p base : Nat} {ks : List Int} (r : WR A H las w) (hb : w.bud ≤ 4000) (hz : ks.length ≤ 2) (hi : H[p]? = some (.list false (il ks))) (hni : p ∉ A.lists) (q : ∀ H', WR A H' las (w.reset base ks) → FrW A H H' → Q .none H') :
   (mCall tb.P FF N (d + 1) true 45 [.ref A.wd, .int base, .ref p] H).wp Q E := by
 have hst : w.stack.length ≤ 4000 := Nat.le_trans bud_st hb
 refine W_call rfl rfl ?_
 simp only [Nat.reduceAdd]
 refine Wc.whl (fun n ρ H' => ∃ st, RsI A H las w p base n st ρ H') (fun n ρ H' I => ?_) (n := w.stack.length - base) (ar_N hN hst rfl) ⟨w.stack, rfl, rfl, rfl, rfl, r, FrW.refl _ _, rfl, Nat.le_refl _⟩
 obtain ⟨st, I⟩ := I
 refine Ee.dec (Ed.conv (q := base < st.length) (Ed.gt (I.r.lenS I.g0) (Ev.loc I.g1)) Int.ofNat_lt) (fun g => reset_turn I g fun m st' H'' hm I => ⟨m, hm, st', I⟩) (fun g => ?_)
 have g : st.length ≤ base := Nat.not_lt.mp g
 have hp' := own_keep I.f r hi hni
 have hle := I.hle
 have hst' : H'[A.st]? = some (.list false (il st)) := I.r.st
 refine Wc.expr (Ee.callM (I.r.ev I.g0 rfl) (w_kindL hst' rfl) (Evs.one (Ev.loc I.g2)) (w_extend hst' (seqL hp') (by rw [len_il, len_il]; unfold sizeL; lia) ?_))
 have e3 : il st ++ il ks = il (w.stack.take base ++ ks) := by rw [← I.hs, List.take_of_length_le g]; simp [il]
 rw [e3]
 have r2 := I.r.setSt (w.stack.take base ++ ks)
 have f2 : FrW A H (H'.set A.st (.list false (il (w.stack.take base ++ ks)))) := I.f.trans (frw_list mem_st)
 generalize H'.set A.st (.list false (il (w.stack.take base ++ ks))) = H2 at r2 f2
 exact Wc.setI Ev.con (Ev.loc I.g0) Ev.con (setLive r2 true) (Wc.nil (q _ (r2.setWd true w.left) (f2.trans frw_wd)))
end
end
section
theorem Sync.same {e : CEnv} {os : List Blk} {t : Blk} {w w' : W} (S : Sync e os t w) (h1 : w'.stack = w.stack) (h2 : w'.live = w.live) (h3 : w'.heights = w.heights) (h4 : w'.body = w.body) (h5 : w'.labels = w.labels) : Sync e os t w' := by
 obtain ⟨a, b, c, d, e', f, g, i⟩ := S
 exact ⟨by rw [h1, h2, h3, h4]; exact a, b, by rw [h5]; exact c, by rw [h1]; exact d, by rw [h1]; exact e', by rw [h5]; exact f, by rw [h4]; exact g, i⟩
noncomputable def num2 (x : Nat) : Int := if x % 2 = 0 then -1 else -2
theorem num_num2 (x : Nat) : num (num2 x) := by unfold num2; split; exact .inl rfl; exact .inr rfl
structure EnvK (e : CEnv) (first : Nat) : Prop where
 loc : ∀ x : Nat, e.locs[first + x % 2]? = some (num2 x)
 fun_ : ∀ k : Nat, k < 4 → e.funcs[1 + k]? = some (k : Int) ∧ e.kinds[k]? = some (kk k)
 res : ∃ k, k < 4 ∧ e.res = (kk k).2
theorem split1 {st : List Int} {b : Nat} (h : b < st.length) : ∃ s k, st = s ++ [k] ∧ b ≤ s.length := by
 have hne : st ≠ [] := by intro z; rw [z] at h; simp at h
 have := List.dropLast_concat_getLast hne
 refine ⟨st.dropLast, st.getLast hne, this.symm, ?_⟩
 rw [List.length_dropLast]; exact Nat.le_sub_one_of_lt h
theorem split2 {st : List Int} {b : Nat} (h : b + 1 < st.length) : ∃ s k j, st = s ++ [k, j] ∧ b ≤ s.length := by
 obtain ⟨s, j, rfl, h1⟩ := split1 (b := b + 1) h
 obtain ⟨s', k, rfl, h2⟩ := split1 (st := s) (b := b) (by lia)
 exact ⟨s', k, j, by simp, h2⟩
section
variable {H : MH} {Q : MV → MH → Prop} {E : MExc → MH → Prop}
theorem sub_last {i : Nat} {fz : Bool} {st : List Int} {k : Int} (h : H[i]? = some (.list fz (il (st ++ [k])))) : mSub H (.ref i) (.int (-1)) = .ok (.int k) H := by
 refine evw (w_subL (j := st.length) (v := .int k) h ?_ (by simp [il]) ⟨rfl, rfl⟩)
 rw [len_il, List.length_append]; exact idx_last
theorem sub_last2 {i : Nat} {fz : Bool} {st : List Int} {k j : Int} (h : H[i]? = some (.list fz (il (st ++ [k, j])))) : mSub H (.ref i) (.int (-2)) = .ok (.int k) H := by
 refine evw (w_subL (j := st.length) (v := .int k) h ?_ (by simp [il]) ⟨rfl, rfl⟩)
 rw [len_il, List.length_append]; exact idx_last2
theorem two_at {x : Nat} : mSub H (.tup [.int (-1), .int (-2)]) (.int ((x : Int) % 2)) = .ok (.int (num2 x)) H := by
 unfold num2
 by_cases h : x % 2 = 0
 · rw [if_pos h, show (x : Int) % 2 = 0 by lia]; rfl
 · rw [if_neg h, show (x : Int) % 2 = 1 by lia]; rfl
end
section
variable {N d : Nat} {A : WA} {H : MH} {las : List Nat} {w : W} {Q : MV → MH → Prop} {E : MExc → MH → Prop} {e : CEnv} {os : List Blk} {t : Blk} {pick x : Nat} {ρ : Loc}
structure PcI (A : WA) (w : W) (t : Blk) (pick x : Nat) (ρ : Loc) : Prop where
 g0 : ρ 0 = some (.ref A.wd)
 g1 : ρ 1 = some (.int (pick : Nat))
 g2 : ρ 2 = some (.int (x : Nat))
 g4 : ρ 4 = some (.ref A.st)
 g5 : ρ 5 = some (.int ((w.stack.length : Int) - t.height))
 g6 : ρ 6 = some (.int (num2 x))
noncomputable def PcQ (A : WA) (H : MH) (las : List Nat) (w : W) (e : CEnv) (os : List Blk) (t : Blk) (Q : MV → MH → Prop) : Prop := ∀ H' w', WR A H' las w' → Sync e os t w' → FrW A H H' → Same w w' → w'.bud ≤ w.bud + 10 → Q .none H'
theorem PcQ.done (q : PcQ A H las w e os t Q) (hl : w.live = true) {op : List Int} {pops : Nat} {pushes : List Int} {H' : MH} (hp : pops ≤ w.stack.length) (hz : pushes.length ≤ 2) (S' : Sync e os t (w.emit op pops pushes)) (r' : WR A H' las (w.emit op pops pushes)) (f' : FrW A H H') : Q .none H' := by
 refine q _ _ r' S' f' same_emit ?_
 have := bud_live hl (op := op) (pops := pops) (pushes := pushes) hp
 exact Nat.le_trans (Nat.le_add_right _ pops) (Nat.le_trans (Nat.le_of_eq this) (Nat.le_trans (Nat.add_le_add_left hz _) (Nat.add_le_add_left (show 3 ≤ 10 from nle rfl) w.bud)))
theorem pc_emit (r : WR A H las w) (hl : w.live = true) (hb : w.bud ≤ 3500) (q : PcQ A H las w e os t Q) {ρ : Loc} (h0 : ρ 0 = some (.ref A.wd)) {eo ep : CE} {es : List CE} {op : List Int} {pops : Nat} {pushes : List Int} (ho : Ev N (d + 1) ρ H eo (.tup (il op))) (hp : Ev N (d + 1) ρ H ep (.int pops)) (he : Evs N (d + 1) ρ H es (il pushes))
   (hps : pops ≤ w.stack.length) (hpp : pops ≤ 100) (hz : pushes.length ≤ 2) (hop : op.length ≤ 10) (S' : Sync e os t (w.emit op pops pushes)) : Wc N (d + 1) (Qc Q) E [.expr (.callF 41 [.loc 0, eo, ep, .list es])] ρ H :=
 Wc.expr (Ee.emit r (Nat.le_trans hb (by decide)) h0 ho hp he (fun Z => hps) hpp hz hop fun Z r' f' => q.done hl hps hz S' r' f')
theorem PcI.gt (I : PcI A w t pick x ρ) {n : Nat} : Ed N d ρ H (.cmp (.loc 5) [.gt] [.con (.int n)]) (t.height + n < w.stack.length) := Ed.conv (Ed.gt (Ev.loc I.g5) Ev.con) ar_gt
theorem PcI.eq (I : PcI A w t pick x ρ) {n : Nat} : Ed N d ρ H (.cmp (.loc 1) [.eq] [.con (.int n)]) (pick = n) := Ed.conv (Ed.eq (Ev.loc I.g1) Ev.con) Int.ofNat_inj
theorem PcI.last (I : PcI A w t pick x ρ) (r : WR A H las w) {st : List Int} {k : Int} (hs : w.stack = st ++ [k]) : Ev N d ρ H (.sub (.loc 4) (.con (.int (-1)))) (.int k) :=
 Ev.sub (Ev.loc I.g4) Ev.con (sub_last (by rw [r.st, hs]))
theorem PcI.code (I : PcI A w t pick x ρ) (r : WR A H las w) {st : List Int} {k : Int} (hs : w.stack = st ++ [k]) {a b : Int} : Ev N d ρ H (.ite (.cmp (.sub (.loc 4) (.con (.int (-1)))) [.eq] [.con (.int (-1))]) (.tup [.con (.int a)]) (.tup [.con (.int b)])) (.tup (il [if k = -1 then a else b])) := by
 by_cases z : k = -1
 · rw [if_pos z]; exact Ev.iteT ((Ed.eq (I.last r hs) Ev.con).1 z) (Ev.op rfl (nle rfl))
 · rw [if_neg z]; exact Ev.iteF ((Ed.eq (I.last r hs) Ev.con).2 z) (Ev.op rfl (nle rfl))
theorem piece2 (I : PcI A w t pick x ρ) (r : WR A H las w) (S : Sync e os t w) (hl : w.live = true) (hb : w.bud ≤ 3500) (q : PcQ A H las w e os t Q) (g : ∃ st k, w.stack = st ++ [k, k] ∧ t.height ≤ st.length) :
   Wc N (d + 2) (Qc Q) E [.expr (.callF 41 [.loc 0, .ite (.cmp (.sub (.loc 4) (.con (.int (-1)))) [.eq] [.con (.int (-1))]) (.tup [.con (.int 106)]) (.tup [.con (.int 124)]), .con (.int 2), .list [.sub (.loc 4) (.con (.int (-1)))]])] ρ H := by
 obtain ⟨st, k, hs, hst⟩ := g
 have hs' : w.stack = (st ++ [k]) ++ [k] := by rw [hs]; simp
 have hnk : num k := S.two k (by rw [hs]; simp)
 have hp : w.stack.length = st.length + 2 := by rw [hs]; simp
 have hn : ∃ c : Int, (if k = -1 then (106 : Int) else 124) = c ∧ (69 ≤ c ∧ c ≤ 196) ∧ numberIn c numbersT = some ([k, k], [k]) := by
   rcases hnk with rfl | rfl <;> exact ⟨_, rfl, by decide, by decide⟩
 obtain ⟨c, ec, h1, h2⟩ := hn
 have ho := I.code (N := N) (d := d + 2) r hs' (a := 106) (b := 124)
 rw [ec] at ho
 exact pc_emit r hl hb q I.g0 ho (Ev.con (v := .int (2 : Nat))) (Evs.one (I.last r hs')) (by lia) (by decide) (nle rfl) (nle rfl)
   (S.numb (st := st) hl (by lia) h1 h2 (nle rfl) (fun y m => by rw [List.mem_singleton.mp m]; exact hnk) hs hst)
theorem piece3 (I : PcI A w t pick x ρ) (r : WR A H las w) (S : Sync e os t w) (hl : w.live = true) (hb : w.bud ≤ 3500) (q : PcQ A H las w e os t Q) (g : t.height < w.stack.length) :
   Wc N (d + 2) (Qc Q) E [.expr (.callF 41 [.loc 0, .ite (.cmp (.sub (.loc 4) (.con (.int (-1)))) [.eq] [.con (.int (-1))]) (.tup [.con (.int 69)]) (.tup [.con (.int 80)]), .con (.int 1), .list [.con (.int (-1))]])] ρ H := by
 obtain ⟨st, k, hs, hst⟩ := split1 g
 have hnk : num k := S.two k (by rw [hs]; simp)
 have hn : ∃ c : Int, (if k = -1 then (69 : Int) else 80) = c ∧ (69 ≤ c ∧ c ≤ 196) ∧ numberIn c numbersT = some ([k], [-1]) := by
   rcases hnk with rfl | rfl <;> exact ⟨_, rfl, by decide, by decide⟩
 obtain ⟨c, ec, h1, h2⟩ := hn
 have ho := I.code (N := N) (d := d + 2) r hs (a := 69) (b := 80)
 rw [ec] at ho
 exact pc_emit r hl hb q I.g0 ho (Ev.con (v := .int (1 : Nat))) (Evs.one Ev.con) (by lia) (by decide) (nle rfl) (nle rfl)
   (S.numb (st := st) hl (by lia) h1 h2 (nle rfl) (fun y m => by rw [List.mem_singleton.mp m]; exact .inl rfl) hs hst)
theorem piece4 (I : PcI A w t pick x ρ) (r : WR A H las w) (S : Sync e os t w) (hl : w.live = true) (hb : w.bud ≤ 3500) (q : PcQ A H las w e os t Q) :
   Wc N (d + 2) (Qc Q) E [.expr (.callF 41 [.loc 0, .ite (.cmp (.loc 5) [.gt] [.con (.int 0)]) (.tup [.con (.int 26)]) (.tup [.con (.int 1)]), .ite (.cmp (.loc 5) [.gt] [.con (.int 0)]) (.con (.int 1)) (.con (.int 0)), .list []])] ρ H := by
 by_cases g : t.height < w.stack.length
 · obtain ⟨st, k, hs, hst⟩ := split1 g
   exact pc_emit r hl hb q I.g0 (Ev.iteT ((I.gt (n := 0)).1 g) (Ev.op (op := [26]) rfl (by decide))) (Ev.iteT ((I.gt (n := 0)).1 g) (Ev.con (v := .int (1 : Nat)))) (pushes := []) Evs.nil (by lia) (by decide) (Nat.zero_le _) (by exact nle rfl) (S.drop hl hs hst)
 · exact pc_emit r hl hb q I.g0 (Ev.iteF ((I.gt (n := 0)).2 g) (Ev.op (op := [1]) rfl (by decide))) (Ev.iteF ((I.gt (n := 0)).2 g) (Ev.con (v := .int (0 : Nat)))) (pushes := []) Evs.nil (Nat.zero_le _) (by decide) (Nat.zero_le _) (by exact nle rfl) (S.nop hl)
theorem piece5 (I : PcI A w t pick x ρ) (r : WR A H las w) (S : Sync e os t w) (hl : w.live = true) (K : EnvK e w.first) (hb : w.bud ≤ 3500) (q : PcQ A H las w e os t Q) :
   Wc N (d + 2) (Qc Q) E [.expr (.callF 41 [.loc 0, .tup [.con (.int 32), .bin .add (.sub (.loc 0) (.con (.str 63))) (.bin .fmod (.loc 2) (.con (.int 2)))], .con (.int 0), .list [.loc 6]])] ρ H := by
 have ei : (w.first : Int) + (x : Int) % 2 = ((w.first + x % 2 : Nat) : Int) := by lia
 have ho : Evs N (d + 2) ρ H [.con (.int 32), .bin .add (.sub (.loc 0) (.con (.str 63))) (.bin .fmod (.loc 2) (.con (.int 2)))] (il [32, ((w.first + x % 2 : Nat) : Int)]) := by
   rw [← ei]; exact Evs.cons Ev.con (Evs.one (Ev.add (r.ev I.g0 rfl) (Ev.mod (Ev.loc I.g2) Ev.con (by decide))))
 exact pc_emit r hl hb q I.g0 (Ev.op ho (nle rfl)) (Ev.con (v := .int (0 : Nat))) (Evs.one (Ev.loc I.g6)) (Nat.zero_le _) (by decide) (nle rfl) (nle rfl) (S.get hl (by lia) (K.loc x) (num_num2 x))
theorem piece6 (I : PcI A w t pick x ρ) (r : WR A H las w) (S : Sync e os t w) (hl : w.live = true) (K : EnvK e w.first) (hb : w.bud ≤ 3500) (q : PcQ A H las w e os t Q) (g : t.height < w.stack.length) :
   Wc N (d + 2) (Qc Q) E [.asg 7 (.sub (.loc 4) (.con (.int (-1)))), .expr (.callF 41 [.loc 0, .tup [.bin .add (.con (.int 33)) (.bin .fmod (.loc 2) (.con (.int 2))), .bin .sub (.bin .sub (.sub (.loc 0) (.con (.str 63))) (.con (.int 1))) (.loc 7)], .con (.int 1), .ite (.cmp (.bin .fmod (.loc 2) (.con (.int 2))) [.eq] [.con (.int 1)]) (.list [.loc 7]) (.list [])])] ρ H := by
 obtain ⟨st, k, hs, hst⟩ := split1 g
 have hnk : num k := S.two k (by rw [hs]; simp)
 have hi : ∃ i : Nat, (w.first : Int) - 1 - k = (i : Int) ∧ e.locs[i]? = some k := by
   rcases hnk with rfl | rfl
   · exact ⟨w.first + 0 % 2, by lia, K.loc 0⟩
   · exact ⟨w.first + 1 % 2, by lia, K.loc 1⟩
 obtain ⟨i, ei, hi⟩ := hi
 refine Wc.asgv (I.last r hs) ?_
 have k0 : (upd ρ 7 (.int k)) 0 = some (.ref A.wd) := I.g0
 have k2 : (upd ρ 7 (.int k)) 2 = some (.int (x : Int)) := I.g2
 have k7 : (upd ρ 7 (.int k)) 7 = some (.int k) := rfl
 generalize upd ρ 7 (.int k) = ρ' at k0 k2 k7
 have hm : Ev N (d + 2) ρ' H (.bin .fmod (.loc 2) (.con (.int 2))) (.int ((x : Int) % 2)) := Ev.mod (Ev.loc k2) Ev.con (by decide)
 have ho : Evs N (d + 2) ρ' H [.bin .add (.con (.int 33)) (.bin .fmod (.loc 2) (.con (.int 2))), .bin .sub (.bin .sub (.sub (.loc 0) (.con (.str 63))) (.con (.int 1))) (.loc 7)] (il [33 + (x : Int) % 2, i]) := by
   rw [← ei]; exact Evs.cons (Ev.add Ev.con hm) (Evs.one (Ev.min (Ev.min (r.ev k0 rfl) Ev.con) (Ev.loc k7)))
 have hb' : w.bud ≤ 5000 := Nat.le_trans hb (by decide)
 have hps : 1 ≤ w.stack.length := by lia
 have go : ∀ {pu : List Int} {el : CE} {es : List CE}, (∀ {Q : MV → MH → Prop}, Ee N (d + 2) E ρ' H (.list es) Q → Ee N (d + 2) E ρ' H el Q) → Evs N (d + 2) ρ' H es (il pu) → pu.length ≤ 2 → Sync e os t (w.emit [33 + (x : Int) % 2, i] 1 pu) →
     Wc N (d + 2) (Qc Q) E [.expr (.callF 41 [.loc 0, .tup [.bin .add (.con (.int 33)) (.bin .fmod (.loc 2) (.con (.int 2))), .bin .sub (.bin .sub (.sub (.loc 0) (.con (.str 63))) (.con (.int 1))) (.loc 7)], .con (.int 1), el])] ρ' H := fun {pu el es} hel he hz S' =>
   Wc.expr (wE_callF (wEs_cons (wE_loc k0 (wEs_cons (Ee.v (Ev.op ho (nle rfl)) (wEs_cons (wE_con (wEs_cons (hel (Ee.list he (by rw [len_il]; exact Nat.le_trans hz (by decide)) (wEs_nil (emit_spec (pops := 1) (r.keep fun Z Z => app_get) hb' (fun Z => hps) (by decide) app_new (new_not r (Nat.le_refl _)) hz (fun H' r' f' => Wc.nil (q.done hl hps hz S' r' (frw_app.trans f'))) (nle rfl)))))))))))))
 by_cases z : (x : Int) % 2 = 1
 · refine go (pu := [k]) (fun h => wE_ite (Ee.v ((Ed.eq hm Ev.con).1 z) h)) (Evs.one (Ev.loc k7)) (nle rfl) ?_
   rw [z]; exact S.tee hl (by lia) hi hnk hs hst
 · refine go (fun h => wE_ite (Ee.v ((Ed.eq hm Ev.con).2 z) h)) (pu := []) Evs.nil (Nat.zero_le _) ?_
   rw [show (x : Int) % 2 = 0 by lia]; exact S.set hl hi hs hst
theorem piece0 (I : PcI A w t pick x ρ) (r : WR A H las w) (S : Sync e os t w) (hl : w.live = true) (hb : w.bud ≤ 3500) (q : PcQ A H las w e os t Q) : Wc N (d + 2) (Qc Q) E [.expr (.callF 42 [.loc 0, .loc 6])] ρ H :=
 Wc.expr (Ee.callF (Evs.cons (Ev.loc I.g0) (Evs.one (Ev.loc I.g6))) (const_spec r (Nat.le_trans hb (by decide)) fun Z r' f' => q.done hl (Nat.zero_le _) (nle rfl) (S.const hl (by lia) (num_num2 x)) r' f'))
theorem piece7 (I : PcI A w t pick x ρ) (r : WR A H las w) (S : Sync e os t w) (hl : w.live = true) (hb : w.bud ≤ 3500) (q : PcQ A H las w e os t Q) :
   Wc N (d + 2) (Qc Q) E [.for [8] false .val [.tup [.loc 6, .loc 6, .con (.int (-1))]] [.expr (.callF 42 [.loc 0, .loc 8])], .expr (.callF 41 [.loc 0, .tup [.con (.int 27)], .con (.int 3), .list [.loc 6]])] ρ H := by
 have hk := num_num2 x
 refine wSs_cons (wS_for (wEs_cons (Ee.v (Evs.tup (vs := il [num2 x, num2 x, -1]) (Evs.cons (Ev.loc I.g6) (Evs.cons (Ev.loc I.g6) (Evs.one Ev.con))) (nle rfl)) (wEs_nil ⟨_, rfl, ?_⟩))))
 refine consts_seq (a := 0) (x := 8) (ks := [num2 x, num2 x, -1]) (by decide) r S hl (by show w.bud + 2 * 3 ≤ 4000; lia) (fun k m => ?_) I.g0 fun ρ2 H2 w2 J => ?_
 · simp only [List.mem_cons, List.not_mem_nil, or_false] at m
   rcases m with rfl | rfl | rfl
   · exact hk
   · exact hk
   · exact .inl rfl
 · have h0 : ρ2 0 = some (.ref A.wd) := (J.hy 0 (by decide)).trans I.g0
   have h6 : ρ2 6 = some (.int (num2 x)) := (J.hy 6 (by decide)).trans I.g6
   have hb3 : w2.bud = w.bud + 6 := J.hb
   have hl3 : w2.stack.length = w.stack.length + 3 := by rw [J.hs, List.length_append]; rfl
   have hps : 3 ≤ w2.stack.length := by lia
   refine Wc.expr (Ee.emit J.r (by lia) h0 (Ev.op (op := [27]) rfl (by decide)) (Ev.con (v := .int (3 : Nat))) (pushes := [num2 x]) (Evs.one (Ev.loc h6)) (fun Z => hps) (by decide) (nle rfl) (by exact nle rfl) fun H3 r3 f3 => ?_)
   refine Wc.nil (q _ _ r3 (J.S.sel J.hl (by lia) hk J.hs S.ht) (J.f.trans f3) (J.sm.trans same_emit) ?_)
   have := bud_live J.hl (op := [27]) (pops := 3) (pushes := [num2 x]) hps
   simp at this; lia
theorem WR.lenSt (r : WR A H las w) {ρ : Loc} {a : Nat} (h0 : ρ a = some (.ref A.st)) : Ev N d ρ H (.callB .len (.loc a)) (.int w.stack.length) := by rw [← len_il]; exact Ev.len (Ev.loc h0) (seqL r.st)
theorem piece_spec (r : WR A H las w) (S : Sync e os t w) (hl : w.live = true) (K : EnvK e w.first) (hb : w.bud ≤ 3500) {pick x : Nat} (q : PcQ A H las w e os t Q) : (mCall tb.P FF N (d + 3) true 48 [.ref A.wd, .int pick, .int x, .int t.height] H).wp Q E := by
 refine W_call rfl rfl ?_
 simp only [Nat.reduceAdd]
 refine Wc.asgv (r.ev rfl rfl) (Wc.asgTv (Evs.tup (Evs.cons (Ev.min (r.lenSt rfl) (Ev.loc rfl)) (Evs.one (Ev.sub (Evs.tup (vs := [.int (-1), .int (-2)]) rfl (nle rfl)) (Ev.mod (Ev.loc rfl) Ev.con (by decide)) two_at))) (nle rfl)) rfl ?_)
 have I : PcI A w t pick x (upd (upd (upd (upd (upd (upd (upd (fun Z => none) 0 (.ref A.wd)) 1 (.int pick)) 2 (.int x)) 3 (.int t.height)) 4 (.ref A.st)) 5 (.int ((w.stack.length : Int) - t.height))) 6 (.int (num2 x))) := ⟨rfl, rfl, rfl, rfl, rfl, rfl⟩
 generalize upd (upd (upd (upd (upd (upd (upd (fun Z => none) 0 (.ref A.wd)) 1 (.int pick)) 2 (.int x)) 3 (.int t.height)) 4 (.ref A.st)) 5 (.int ((w.stack.length : Int) - t.height))) 6 (.int (num2 x)) = ρ at I ⊢
 refine Wc.ifP (Ed.and3c (r := ∃ st k, w.stack = st ++ [k, k] ∧ t.height ≤ st.length) I.eq (fun Z => I.gt (n := 1)) fun Z h => ?_) (fun g => piece2 I r S hl hb q g.2.2) (fun Z => ?_)
 · obtain ⟨st, k, j, hs, hst⟩ := split2 h
   refine Ed.conv (Ed.eq (I.last r (st := st ++ [k]) (k := j) (by rw [hs]; simp)) (Ev.sub (Ev.loc I.g4) Ev.con (sub_last2 (st := st) (k := k) (j := j) (by rw [r.st, hs])))) ⟨fun z => ⟨st, k, by rw [hs, z], hst⟩, fun z => ?_⟩
   obtain ⟨st', k', e, _⟩ := z
   have := List.append_inj_right' (hs.symm.trans e) rfl
   cases this; rfl
 refine Wc.ifP (Ed.and I.eq fun Z => I.gt (n := 0)) (fun g => piece3 I r S hl hb q g.2) (fun Z => ?_)
 refine Wc.ifP I.eq (fun Z => piece4 I r S hl hb q) (fun Z => ?_)
 refine Wc.ifP I.eq (fun Z => piece5 I r S hl K hb q) (fun Z => ?_)
 refine Wc.ifP (Ed.and I.eq fun Z => I.gt (n := 0)) (fun g => piece6 I r S hl K hb q g.2) (fun Z => ?_)
 exact Wc.ifP I.eq (fun Z => piece7 I r S hl hb q) (fun Z => piece0 I r S hl hb q)
end
end
section
section
variable {H : MH} {E : MExc → MH → Prop}
theorem w_compS {f : MV → MH → R (Option MV)} {v : MV} {vs : List MV} {Q : List MV → MH → Prop} (h : (f v H).wp (fun r H => (compS f vs H).wp (fun rs H => Q (r.toList ++ rs) H) E) E) : (compS f (v :: vs) H).wp Q E := by
 exact R.wp_bind (R.wp_mono h (fun Z Z h => R.wp_bind h) fun Z Z h => h)
theorem w_still {α : Type} {r : R α} {Q : α → MH → Prop} (h : r.wp Q (fun Z Z => False)) : (r.still).wp Q E := by
 cases r with
 | ok a H => exact h
 | exc => exact h.elim
 | bad => exact h.elim
theorem wE_comp {P : Code} {C : Orc} {ρ : Loc} {elt : CE} {x : Nat} {k : IK} {src conds : List CE} {Q : MV → MH → Prop} {l : List MV} (hs : (mEs P C true src ρ H).wp (fun vs H' => H' = H ∧ mSrc H k vs = some (.seq l)) E)
   (h : (compS (fun v H => ((mBool P C true true conds (upd (cut ρ) x v) H).bind fun c H => if c then (mE P C true elt (upd (cut ρ) x v) H).bind fun r H => .ok (some r) H else .ok none H).still) l H).wp (fun rs H => (newList rs H).wp Q E) E) :
   (mE P C true (.comp elt x k src conds) ρ H).wp Q E := R.wp_bind (R.wp_mono hs (fun Z Z h' => by obtain ⟨rfl, e⟩ := h'; exact wp_opt (bind_eq e rfl) (R.wp_bind h)) fun Z Z h => h)
theorem prims_view {i : Nat} {fz : Bool} {l : List Int} (h : H[i]? = some (.list fz (il l))) : view H (.ref i) = some (.l (il l)) := bind_eq (lst_eq h) (if_pos (prims_is l))
theorem cmp_eqL {i j : Nat} {fz fz' : Bool} {a b : List Int} (h1 : H[i]? = some (.list fz (il a))) (h2 : H[j]? = some (.list fz' (il b))) : mComp H .eq (.ref i) (.ref j) = some (decide (a = b)) := bind_eq (prims_view h1) (map_eq (prims_view h2) (primsEq_is a b))
end
section
variable {N d : Nat} {A : WA} {H : MH} {las : List Nat} {w : W} {Q : MV → MH → Prop} {E : MExc → MH → Prop} {e : CEnv} {os : List Blk} {t : Blk}
theorem alike_loop {C : Orc} {ρ : Loc} {res : List Int} {a0 : Nat} {las' : List Nat} (h0 : ρ 0 = some (.ref A.wd)) {ks : List Nat} : ∀ {H : MH} {Q : List MV → MH → Prop}, WR A H (a0 :: las') w → H[a0]? = some (.list false (il res)) → (∀ k ∈ ks, k < 4) →
   (∀ H', WR A H' (a0 :: las') w → FrW A H H' → (∀ (i : Nat) (o : MObj), H[i]? = some o → H'[i]? = some o) → Q ((ks.filter fun k => decide ((kk k).2 = res)).map fun (k : Nat) => MV.int k) H') →
   (compS (fun v H => ((mBool tb.P C true true [.cmp (.callB .list (.sub (.sub (.glob 13) (.loc 1001)) (.con (.int 1)))) [.eq] [.sub (.sub (.loc 0) (.con (.str 62))) (.con (.int 0))]] (upd (cut ρ) 1001 v) H).bind fun c H => if c then (mE tb.P C true (.loc 1001) (upd (cut ρ) 1001 v) H).bind fun r H => .ok (some r) H else .ok none H).still)
     (ks.map fun (k : Nat) => MV.int k) H).wp Q E := by
 induction ks with
 | nil => intro H Q r hr _ q; exact q H r (FrW.refl _ _) fun Z Z h => h
 | cons k ks ih =>
   intro H Q r hr hk q
   have hk4 := hk k (.head _)
   have hkk := kinds_at hk4
   have hi : idx (k : Int) (kinds03.map kindMV).length = some k := idx_nat hk4
   have hsz : (il (kk k).2).length ≤ sizeL := by rw [len_il]; exact Nat.le_trans (kk_two k).2 (nle rfl)
   have c0 : (upd (cut ρ) 1001 (.int (k : Int))) 0 = some (.ref A.wd) := h0
   refine w_compS (w_still (R.wp_bind ?_))
   refine wB_and (wE_cmp (wE_callB (wE_sub (wE_sub (wE_glob glob13 (wE_loc rfl (w_subT hi hkk (wE_con (w_subT (j := 1) (v := .tup (il (kk k).2)) rfl rfl ?_)))))))))
   show (newList (il (kk k).2) H).wp _ _
   refine w_newList hsz ?_
   have r1 : WR A (H ++ [.list false (il (kk k).2)]) (a0 :: las') w := r.keep fun Z Z => app_get
   have hr1 : (H ++ [MObj.list false (il (kk k).2)])[a0]? = some (.list false (il res)) := app_get hr
   refine wC_one (wE_sub (wE_sub (wE_loc c0 (wE_con (w_subD r1.wd rfl (wE_con (w_subL (j := 0) (v := .ref a0) r1.lb (idx_nat (j := 0) (by simp)) rfl ⟨_, cmp_eqL app_new hr1, tv_dec (fun g => ?_) (fun g => ?_)⟩)))))))
   · refine wB_nil ?_
     rw [if_pos rfl]
     refine R.wp_bind (wE_loc rfl ?_)
     refine ih r1 hr1 (fun k m => hk k (.tail _ m)) fun H' r' f' kp => ?_
     have := q H' r' (frw_app.trans f') (fun i o h => kp i o (app_get h))
     rw [List.filter_cons, if_pos (by simpa using g)] at this
     exact this
   · rw [if_neg (by decide)]
     refine ih r1 hr1 (fun k m => hk k (.tail _ m)) fun H' r' f' kp => ?_
     have := q H' r' (frw_app.trans f') (fun i o h => kp i o (app_get h))
     rw [List.filter_cons, if_neg (by simpa using g)] at this
     exact this
end
end
section
section
variable {N d : Nat} {A : WA} {H : MH} {las : List Nat} {w : W} {Q : MV → MH → Prop} {E : MExc → MH → Prop} {e : CEnv} {os : List Blk} {t : Blk}
theorem lab_sub (r : WR A H las w) {j : Nat} {l : List Int} (h : w.labels[j]? = some l) : ∃ a, las[j]? = some a ∧ H[a]? = some (.list false (il l)) ∧ a ∉ A.lists ∧ mSub H (.ref A.lb) (.int (j : Int)) = .ok (.ref a) H := by
 obtain ⟨a, h1, h2⟩ := r.la.get h
 exact ⟨a, h1, h2, r.fr a (List.mem_of_getElem? h1), subL r.lb (by rw [List.getElem?_map, h1]; rfl)⟩
theorem WR.lenL (r : WR A H las w) {ρ : Loc} {a : Nat} (h0 : ρ a = some (.ref A.wd)) : Ev N d ρ H (.callB .len (.sub (.loc a) (.con (.str 62)))) (.int w.labels.length) := by
 rw [← r.la.length, ← List.length_map (as := las) (f := MV.ref)]; exact Ev.len (r.ev h0 rfl) (seqL r.lb)
noncomputable abbrev jOps (l f : Nat) : List (List Int) := [[12, (l : Int)], [15], [14, (l : Int), (l : Int)], [0], [18, ((1 + f : Nat) : Int)]]
theorem jump_tail (hN : 2000000 ≤ N) (r : WR A H las w) (hl : w.live = true) (hb : w.bud ≤ 3800) {ρ : Loc} {op : List Int} {l f way y : Nat} (h0 : ρ 0 = some (.ref A.wd)) (h1 : ρ 1 = some (.int (y : Int))) (h2 : ρ 2 = some (.int (way : Int))) (h3 : ρ 3 = some (.int (l : Int))) (h6 : ρ 6 = some (.int (f : Int)))
   (hop : (jOps l f)[way]? = some op) (S : Sync e os t (w.die op)) (hlab : 0 < w.labels.length ∧ w.labels.length < 1000000000)
   (q : ∀ H' w', WR A H' las w' → Sync e os t w' → FrW A H H' → Same w w' → w'.bud ≤ w.bud + 13 → Q .none H') :
   Wc N (d + 2) (Qc Q) E [.expr (.callF 41 [.loc 0, .sub (.tup [.tup [.con (.int 12), .loc 3], .tup [.con (.int 15)], .tup [.con (.int 14), .loc 3, .loc 3], .tup [.con (.int 0)], .tup [.con (.int 18), .bin .add (.con (.int 1)) (.loc 6)]]) (.loc 2), .con (.int 0), .list []]),
     .expr (.callF 43 [.loc 0, .bin .fdiv (.loc 1) (.callB .len (.sub (.loc 0) (.con (.str 62))))])] ρ H := by
 have hw : way < 5 := (List.getElem?_eq_some_iff.mp hop).1
 have e6 : (1 : Int) + (f : Int) = ((1 + f : Nat) : Int) := rfl
 have o6 : Evs N (d + 2) ρ H [.con (.int 18), .bin .add (.con (.int 1)) (.loc 6)] (il [18, ((1 + f : Nat) : Int)]) := by
   rw [← e6]; exact Evs.cons Ev.con (Evs.one (Ev.add Ev.con (Ev.loc h6)))
 have ho : Evs N (d + 2) ρ H [.tup [.con (.int 12), .loc 3], .tup [.con (.int 15)], .tup [.con (.int 14), .loc 3, .loc 3], .tup [.con (.int 0)], .tup [.con (.int 18), .bin .add (.con (.int 1)) (.loc 6)]] ((jOps l f).map fun o => MV.tup (il o)) :=
   Evs.cons (Ev.op (Evs.cons Ev.con (Evs.one (Ev.loc h3))) (nle rfl)) (Evs.cons (Ev.op (op := [15]) rfl (nle rfl)) (Evs.cons (Ev.op (Evs.cons Ev.con (Evs.cons (Ev.loc h3) (Evs.one (Ev.loc h3)))) (nle rfl)) (Evs.cons (Ev.op (op := [0]) rfl (nle rfl)) (Evs.one (Ev.op o6 (nle rfl))))))
 have hs : mSub H (.tup ((jOps l f).map fun o => MV.tup (il o))) (.int way) = .ok (.tup (il op)) H :=
   evw (w_subT (j := way) (v := .tup (il op)) (idx_in ⟨Int.natCast_nonneg way, Int.ofNat_lt.mpr hw⟩) (by rw [List.getElem?_map, hop]; rfl) ⟨rfl, rfl⟩)
 have hlen : op.length ≤ 10 := by
   have : ∀ o ∈ jOps l f, o.length ≤ 10 := by
     intro o m
     simp only [List.mem_cons, List.not_mem_nil, or_false] at m
     rcases m with rfl | rfl | rfl | rfl | rfl <;> exact nle rfl
   exact this op (List.mem_of_getElem? hop)
 refine Wc.expr (Ee.emit r (Nat.le_trans hb (by decide)) h0 (Ev.sub (Evs.tup ho (nle rfl)) (Ev.loc h2) hs) (Ev.con (v := .int (0 : Nat))) (pushes := []) Evs.nil (fun Z => Nat.zero_le _) (Nat.zero_le _) (Nat.zero_le _) hlen fun H1 r1 f1 => ?_)
 have hbd := bud_live hl (op := op) (pops := 0) (pushes := []) (Nat.zero_le _)
 simp at hbd
 have hlab' : (w.emit op 0 []).labels = w.labels := emit_same.1
 have ed : (y : Int) / ((w.emit op 0 []).labels.length : Int) = ((y / w.labels.length : Nat) : Int) := by rw [hlab']; simp
 have hd : Ev N (d + 2) ρ H1 (.bin .fdiv (.loc 1) (.callB .len (.sub (.loc 0) (.con (.str 62))))) (.int ((y / w.labels.length : Nat) : Int)) := by
   rw [← ed]; exact Ev.div (Ev.loc h1) (r1.lenL h0) (by rw [hlab']; lia)
 exact Wc.expr (Ee.callF (Evs.cons (Ev.loc h0) (Evs.one hd)) (die_spec hN r1 (S.same rfl rfl rfl rfl rfl) (by lia) _ fun H2 w2 r2 S2 f2 hl2 hs2 sm2 hb2 => Wc.nil (q _ _ r2 S2 (f1.trans f2) (same_emit.trans sm2) (by lia))))
structure JmL (A : WA) (way y l a : Nat) (ρ : Loc) : Prop where
 g0 : ρ 0 = some (.ref A.wd)
 g1 : ρ 1 = some (.int (y : Nat))
 g2 : ρ 2 = some (.int (way : Nat))
 g3 : ρ 3 = some (.int (l : Nat))
 g4 : ρ 4 = some (.ref a)
theorem JmL.keep {way y l a x : Nat} {ρ : Loc} (I : JmL A way y l a ρ) (hx : 4 < x) {v : MV} : JmL A way y l a (upd ρ x v) := by
 have k : ∀ z, z ≤ 4 → upd ρ x v z = ρ z := fun z hz => by unfold upd; rw [if_neg (by lia)]
 exact ⟨(k 0 (by decide)).trans I.g0, (k 1 (by decide)).trans I.g1, (k 2 (by decide)).trans I.g2, (k 3 (by decide)).trans I.g3, (k 4 (by decide)).trans I.g4⟩
theorem JmL.way {way y l a n : Nat} {ρ : Loc} (I : JmL A way y l a ρ) : Ed N d ρ H (.cmp (.loc 2) [.eq] [.con (.int n)]) (way = n) := Ed.conv (Ed.eq (Ev.loc I.g2) Ev.con) Int.ofNat_inj
structure JmS (A : WA) (H : MH) (las : List Nat) (w : W) (e : CEnv) (os : List Blk) (t : Blk) (way y l a f : Nat) (st : List Int) (n : Nat) (w' : W) (ρ : Loc) (H' : MH) : Prop where
 r : WR A H' las w'
 S : Sync e os t w'
 fr : FrW A H H'
 hl : w'.live = true
 hs : w'.stack = st
 sm : Same w w'
 hb : w'.bud ≤ w.bud + n
 L : JmL A way y l a ρ
 g6 : ρ 6 = some (.int (f : Nat))
theorem CoI.jms {way y l a f : Nat} {ρ ρ' : Loc} {ms : List Int} {w' : W} {H₀ H' : MH} (J : CoI A H las w e os t 7 ρ ms w' ρ' H') (fr : FrW A H₀ H) (L : JmL A way y l a ρ) (g6 : ρ 6 = some (.int (f : Nat))) (hm : ms.length ≤ 2) : JmS A H₀ las w e os t way y l a f (w.stack ++ ms) 4 w' ρ' H' := by
 have hb := J.hb
 have k : ∀ z, z ≤ 6 → ρ' z = ρ z := fun z hz => J.hy z (by lia)
 exact ⟨J.r, J.S, fr.trans J.f, J.hl, J.hs, J.sm, by lia, ⟨(k 0 (by decide)).trans L.g0, (k 1 (by decide)).trans L.g1, (k 2 (by decide)).trans L.g2, (k 3 (by decide)).trans L.g3, (k 4 (by decide)).trans L.g4⟩, (k 6 (by decide)).trans g6⟩
theorem alike_fs (K : EnvK e w.first) : ∃ fs : List Nat, (([0, 1, 2, 3] : List Nat).filter fun k => decide ((kk k).2 = e.res)) = fs ∧ fs ≠ [] ∧ fs.length ≤ 4 ∧ ∀ f ∈ fs, f < 4 ∧ (kk f).2 = e.res := by
 obtain ⟨k0, hk0, hk1⟩ := K.res
 refine ⟨_, rfl, ?_, Nat.le_trans (List.length_filter_le _ _) (by decide), fun f m => ?_⟩
 · have : k0 ∈ ([0, 1, 2, 3] : List Nat).filter fun k => decide ((kk k).2 = e.res) := List.mem_filter.mpr ⟨by rcases k0 with _ | _ | _ | _ | k0 <;> first | lia | simp, by simp [hk1]⟩
   exact List.ne_nil_of_mem this
 · obtain ⟨m1, m2⟩ := List.mem_filter.mp m
   refine ⟨?_, by simpa using m2⟩
   have : ∀ f ∈ ([0, 1, 2, 3] : List Nat), f < 4 := by decide
   exact this f m1
theorem kk_num {f : Nat} (h : f < 4) : ∀ k ∈ (kk f).1, num k := by
 rcases f with _ | _ | _ | _ | f
 · exact fun k m => nomatch m
 · exact fun k m => .inl (List.mem_singleton.mp m)
 · exact fun k m => nomatch m
 · intro k m
   have m : k ∈ [-1, -2] := m
   simpa [num] using m
 · lia
theorem five_of {n : Nat} (h : n < 5) : n = 0 ∨ n = 1 ∨ n = 2 ∨ n = 3 ∨ n = 4 := (by decide : ∀ n, n < 5 → n = 0 ∨ n = 1 ∨ n = 2 ∨ n = 3 ∨ n = 4) n h
theorem jump_stk {st st0 kps ks kl res pk : List Int} {way : Nat} (hs : st = (st0 ++ if way = 3 then [] else kps) ++ if way = 2 then [-1] else []) (ek : kps = if way = 4 then pk else ks) (hks : ks = if way = 1 then res else kl) : (way = 0 → st = st0 ++ kl) ∧ (way = 1 → st = st0 ++ res) ∧ (way = 2 → st = st0 ++ kl ++ [-1]) ∧ (way = 4 → st = st0 ++ pk) := by
 subst hs ek hks
 exact ⟨fun h => by subst h; exact List.append_nil _, fun h => by subst h; exact List.append_nil _, fun h => by subst h; rfl, fun h => by subst h; exact List.append_nil _⟩
theorem jump_rest (hN : 2000000 ≤ N) {H₀ : MH} (r : WR A H las w) (S : Sync e os t w) (hl : w.live = true) (K : EnvK e w.first) (hb : w.bud ≤ 3500) (fr : FrW A H₀ H) {way y l a f : Nat} {ρ : Loc} {kl ks : List Int} (hway : way < 5) (L : JmL A way y l a ρ) (g6 : ρ 6 = some (.int (f : Nat))) (hf : f < 4 ∧ (kk f).2 = e.res) (hlt : l < w.labels.length)
   (hkl : w.labels[w.labels.length - 1 - l]? = some kl) (hks : ks = if way = 1 then e.res else kl) (hk : ks.length ≤ 2 ∧ ∀ k ∈ ks, num k) (ha : H[a]? = some (.list false (il ks))) (hna : a ∉ A.lists) (hnl : w.labels.length ≤ 4000)
   (q : ∀ H' w', WR A H' las w' → Sync e os t w' → FrW A H₀ H' → Same w w' → w'.bud ≤ w.bud + 30 → Q .none H') :
   Wc N (d + 2) (Qc Q) E [.ifs (.cmp (.loc 2) [.eq] [.con (.int 4)]) [.asg 4 (.sub (.callF 40 [.loc 6]) (.con (.int 0)))] [], .for [7] false .val [.ite (.cmp (.loc 2) [.ne] [.con (.int 3)]) (.loc 4) (.list [])] [.expr (.callF 42 [.loc 0, .loc 7])],
     .ifs (.cmp (.loc 2) [.eq] [.con (.int 2)]) [.expr (.callF 42 [.loc 0, .con (.int (-1))])] [],
     .expr (.callF 41 [.loc 0, .sub (.tup [.tup [.con (.int 12), .loc 3], .tup [.con (.int 15)], .tup [.con (.int 14), .loc 3, .loc 3], .tup [.con (.int 0)], .tup [.con (.int 18), .bin .add (.con (.int 1)) (.loc 6)]]) (.loc 2), .con (.int 0), .list []]),
     .expr (.callF 43 [.loc 0, .bin .fdiv (.loc 1) (.callB .len (.sub (.loc 0) (.con (.str 62))))])] ρ H := by
 refine Wc.stg (fun ρ' H' => ∃ a kps, WR A H' las w ∧ FrW A H₀ H' ∧ JmL A way y l a ρ' ∧ ρ' 6 = some (.int (f : Nat)) ∧ H'[a]? = some (.list false (il kps)) ∧ a ∉ A.lists ∧ kps = (if way = 4 then (kk f).1 else ks)) ?_ (fun ρ1 H1 h => ?_)
 · refine Wc.ifP L.way (fun g => ?_) (fun g => ?_)
   · refine Wc.asg (wE_sub (Ee.callF (Evs.one (Ev.loc g6)) (arrow_spec (m := (f : Int)) (by lia) ?_)))
     have ea : arrowP (f : Int) = kk f := by unfold arrowP; rw [if_pos (by lia), Int.toNat_natCast]
     rw [ea]
     exact wE_con (w_subT (j := 0) rfl rfl (Wc.nil ⟨rfl, H.length, (kk f).1, r.keep fun Z Z => app_get, fr.trans frw_app, ⟨L.g0, L.g1, L.g2, L.g3, rfl⟩, g6, app_new, new_not r (Nat.le_refl _), (if_pos g).symm⟩))
   · exact Wc.nil ⟨rfl, a, ks, r, fr, L, g6, ha, hna, (if_neg g).symm⟩
 obtain ⟨a, kps, r, fr, L, g6, ha, hna, ek⟩ := h
 have hkp : kps.length ≤ 2 ∧ ∀ k ∈ kps, num k := by
   rw [ek]
   by_cases g : way = 4
   · rw [if_pos g]; exact ⟨(kk_two f).1, kk_num hf.1⟩
   · rw [if_neg g]; exact hk
 refine Wc.stg (fun ρ' H' => ∃ w', JmS A H₀ las w e os t way y l a f (w.stack ++ if way = 3 then [] else kps) 4 w' ρ' H') ?_ (fun ρ2 H2 h => ?_)
 · by_cases g : way = 3
   · refine Wc.forLE (wE_ite (Ee.v ((Ed.ne (Ev.loc L.g2) Ev.con).2 (by lia)) (Ee.list Evs.nil (Nat.zero_le _) ⟨_, _, _, rfl, app_new, consts_loop hN (a := 0) (x := 7) (ks := []) (by decide) (r.keep fun Z Z => app_get) S hl (by show w.bud + 2 * 0 ≤ 4000; lia) app_new (new_not r (Nat.le_refl _)) (fun k m => nomatch m) L.g0 fun ρ' H' w' J => Wc.nil ⟨rfl, w', ?_⟩⟩)))
     rw [if_pos g]; exact J.jms (fr.trans frw_app) L g6 (Nat.zero_le _)
   · refine Wc.forLE (wE_ite (Ee.v ((Ed.ne (Ev.loc L.g2) Ev.con).1 (by lia)) (Ee.v (Ev.loc L.g4) ⟨_, _, _, rfl, ha, consts_loop hN (a := 0) (x := 7) (by decide) r S hl (by have := hkp.1; lia) ha hna hkp.2 L.g0 fun ρ' H' w' J => Wc.nil ⟨rfl, w', ?_⟩⟩)))
     rw [if_neg g]; exact J.jms fr L g6 hkp.1
 obtain ⟨w2, J⟩ := h
 refine Wc.stg (fun ρ' H' => ∃ w', JmS A H₀ las w e os t way y l a f ((w.stack ++ if way = 3 then [] else kps) ++ if way = 2 then [-1] else []) 6 w' ρ' H') ?_ (fun ρ3 H3 h => ?_)
 · have hb2 := J.hb
   refine Wc.ifP J.L.way (fun g => ?_) (fun g => ?_)
   · refine Wc.expr (Ee.callF (Evs.cons (Ev.loc J.L.g0) (Evs.one Ev.con)) (const_spec (k := -1) J.r (by lia) fun H' r' f' => Wc.nil ⟨rfl, _, r', J.S.const J.hl (by lia) (.inl rfl), J.fr.trans f', by rw [emit_same.2.1]; exact J.hl, ?_, J.sm.trans same_emit, ?_, J.L, J.g6⟩))
     · rw [stack_const J.hl, J.hs, if_pos g]
     · rw [bud_const J.hl]; lia
   · exact Wc.nil ⟨rfl, w2, J.r, J.S, J.fr, J.hl, by rw [J.hs, if_neg g, List.append_nil], J.sm, by lia, J.L, J.g6⟩
 obtain ⟨w3, J⟩ := h
 have hb3 := J.hb
 have elb := J.sm.labels
 have hst : t.height ≤ w.stack.length := S.ht
 have fin : ∀ op : List Int, (jOps l f)[way]? = some op → Sync e os t (w3.die op) → _ := fun op hop hS =>
   jump_tail (N := N) (d := d) (Q := Q) (E := E) hN J.r J.hl (by lia) (op := op) J.L.g0 J.L.g1 J.L.g2 J.L.g3 J.g6 hop hS (by rw [elb]; lia) fun H' w' r' S' f' sm' hb' => q H' w' r' S' (J.fr.trans f') (J.sm.trans sm') (by lia)
 rw [← elb] at hkl hlt
 obtain ⟨k0, k1, k2, k4⟩ := jump_stk J.hs ek hks
 rcases five_of hway with g | g | g | g | g
 · exact fin _ (by rw [g]; rfl) (J.S.br (st := w.stack) J.hl hkl hlt (k0 g) hst)
 · exact fin _ (by rw [g]; rfl) (J.S.ret (st := w.stack) J.hl (k1 g) hst)
 · exact fin _ (by rw [g]; rfl) (J.S.table (st := w.stack) J.hl (by lia) hkl hlt (k2 g) hst)
 · exact fin _ (by rw [g]; rfl) (J.S.unr J.hl)
 · have kf := K.fun_ f hf.1
   exact fin _ (by rw [g]; rfl) (J.S.tail (i := 1 + f) (f := (f : Int)) (k := kk f) (st := w.stack) J.hl kf.1 (by lia) (by rw [Int.toNat_natCast]; exact kf.2) hf.2 (k4 g) hst)
theorem jump_spec (hN : 2000000 ≤ N) (r : WR A H las w) (S : Sync e os t w) (hl : w.live = true) (K : EnvK e w.first) (hr0 : w.labels[0]? = some e.res) (hb : w.bud ≤ 3500) {x : Nat}
   (q : ∀ H' w', WR A H' las w' → Sync e os t w' → FrW A H H' → Same w w' → w'.bud ≤ w.bud + 30 → Q .none H') : (mCall tb.P FF N (d + 3) true 47 [.ref A.wd, .int x] H).wp Q E := by
 have hnl : 0 < w.labels.length := (List.getElem?_eq_some_iff.mp hr0).1
 have hnl2 : w.labels.length ≤ 4000 := by rw [S.lab, List.length_map, List.length_append, List.length_singleton]; have := S.deep; unfold W.bud at hb; lia
 have e1 : (x : Int) % 5 = ((x % 5 : Nat) : Int) := rfl
 have e2 : (x : Int) / 5 = ((x / 5 : Nat) : Int) := rfl
 have hway : x % 5 < 5 := Nat.mod_lt _ (by decide)
 refine W_call rfl rfl ?_
 simp only [Nat.reduceAdd]
 refine Wc.asgTv (Evs.tup (Evs.cons (Ev.mod (Ev.loc rfl) Ev.con (by decide)) (Evs.one (Ev.div (Ev.loc rfl) Ev.con (by decide)))) (nle rfl)) rfl ?_
 rw [e1, e2]
 generalize x % 5 = way at hway
 generalize x / 5 = y
 clear e1 e2
 refine Wc.asgv (Ev.mod (Ev.loc rfl) (r.lenL rfl) (ar_mod hnl hnl2)) ?_
 have e3 : (y : Int) % (w.labels.length : Int) = ((y % w.labels.length : Nat) : Int) := by simp
 rw [e3]
 have hlt : y % w.labels.length < w.labels.length := Nat.mod_lt _ hnl
 generalize y % w.labels.length = l at hlt
 clear e3
 have hkl : ∃ kl, w.labels[w.labels.length - 1 - l]? = some kl := ⟨_, List.getElem?_eq_getElem (ar_dn hnl)⟩
 obtain ⟨kl, hkl⟩ := hkl
 obtain ⟨aL, la1, la2, la3, sL⟩ := lab_sub r hkl
 obtain ⟨a0, z1, z2, z3, sub0⟩ := lab_sub r hr0
 have e4 : (w.labels.length : Int) - 1 - (l : Int) = ((w.labels.length - 1 - l : Nat) : Int) := ar_dnI hlt
 rw [← e4] at sL
 refine Wc.asgv (Ev.sub (r.ev rfl rfl) (Ev.min (Ev.min (r.lenL rfl) Ev.con) (Ev.loc rfl)) sL) ?_
 have L : JmL A way y l aL (upd (upd (upd (upd (upd (upd (fun Z => none) 0 (.ref A.wd)) 1 (.int (x : Int))) 2 (.int (way : Int))) 1 (.int (y : Int))) 3 (.int (l : Int))) 4 (.ref aL)) := ⟨rfl, rfl, rfl, rfl, rfl⟩
 generalize upd (upd (upd (upd (upd (upd (fun Z => none) 0 (.ref A.wd)) 1 (.int (x : Int))) 2 (.int (way : Int))) 1 (.int (y : Int))) 3 (.int (l : Int))) 4 (.ref aL) = ρ at L ⊢
 refine Wc.stg (fun ρ' H' => H' = H ∧ ∃ a ks, JmL A way y l a ρ' ∧ H[a]? = some (.list false (il ks)) ∧ a ∉ A.lists ∧ ks = (if way = 1 then e.res else kl) ∧ ks ∈ w.labels) ?_ (fun ρ1 H1 h => ?_)
 · refine Wc.ifP L.way (fun g => ?_) (fun g => ?_)
   · exact Wc.asgv (Ev.sub (r.ev L.g0 rfl) Ev.con sub0) (Wc.nil ⟨rfl, rfl, a0, e.res, ⟨L.g0, L.g1, L.g2, L.g3, rfl⟩, z2, z3, (if_pos g).symm, List.mem_of_getElem? hr0⟩)
   · exact Wc.nil ⟨rfl, rfl, aL, kl, L, la2, la3, (if_neg g).symm, List.mem_of_getElem? hkl⟩
 clear L
 obtain ⟨rfl, a, ks, L, ka, kb, kc, ke⟩ := h
 have hlas : ∃ las', las = a0 :: las' := by
   cases las with
   | nil => cases z1
   | cons b las' => cases z1; exact ⟨las', rfl⟩
 obtain ⟨las', rfl⟩ := hlas
 refine Wc.asg (wE_comp (l := ([0, 1, 2, 3] : List Nat).map fun (k : Nat) => MV.int k) (wEs_cons (wE_con (wEs_nil ⟨rfl, rfl⟩))) (alike_loop L.g0 r z2 (by decide) fun H2 r2 f2 kp => ?_))
 obtain ⟨fs, efs, hne, hfl, hfm⟩ := alike_fs K
 rw [efs]
 refine w_newList (by rw [List.length_map]; exact Nat.le_trans hfl (by decide)) ?_
 have hl0 : 0 < fs.length := List.length_pos_iff.mpr hne
 have hft : y % fs.length < fs.length := Nat.mod_lt _ hl0
 have hf := hfm _ (List.getElem_mem hft)
 have e5 : (y : Int) % (fs.length : Int) = ((y % fs.length : Nat) : Int) := by simp
 have hfs3 : (H2 ++ [MObj.list false (fs.map fun (k : Nat) => MV.int k)])[H2.length]? = some (.list false (fs.map fun (k : Nat) => MV.int k)) := app_new
 have r3 : WR A (H2 ++ [.list false (fs.map fun (k : Nat) => MV.int k)]) (a0 :: las') w := r2.keep fun Z Z => app_get
 have f3 : FrW A H1 (H2 ++ [.list false (fs.map fun (k : Nat) => MV.int k)]) := f2.trans frw_app
 have ka3 : (H2 ++ [MObj.list false (fs.map fun (k : Nat) => MV.int k)])[a]? = some (.list false (il ks)) := app_get (kp _ _ ka)
 generalize hfe : fs[y % fs.length] = f at hf
 have hsub : mSub (H2 ++ [MObj.list false (fs.map fun (k : Nat) => MV.int k)]) (.ref H2.length) (.int ((y : Int) % (fs.length : Int))) = .ok (.int (f : Int)) (H2 ++ [MObj.list false (fs.map fun (k : Nat) => MV.int k)]) := by
   rw [e5]; exact subL hfs3 (by rw [List.getElem?_map, List.getElem?_eq_getElem hft, hfe]; rfl)
 have L5 : JmL A way y l a (upd ρ1 5 (.ref H2.length)) := L.keep (by decide)
 have g5 : (upd ρ1 5 (.ref H2.length)) 5 = some (.ref H2.length) := rfl
 generalize upd ρ1 5 (.ref H2.length) = ρ5 at L5 g5
 have hln : Ev N (d + 2) ρ5 (H2 ++ [MObj.list false (fs.map fun (k : Nat) => MV.int k)]) (.callB .len (.loc 5)) (.int fs.length) := by
   rw [← List.length_map (as := fs) (f := fun (k : Nat) => MV.int k)]; exact Ev.len (Ev.loc g5) (seqL hfs3)
 refine Wc.asgv (Ev.sub (Ev.loc g5) (Ev.mod (Ev.loc L5.g1) hln (by lia)) hsub) ?_
 exact jump_rest hN r3 S hl K hb f3 hway (L5.keep (by decide)) rfl hf hlt hkl kc (S.labs ks ke) ka3 kb hnl2 q
end
end
section
noncomputable def marks : List Int := [0, 1, 2, 3, -64, -1, -2]
noncomputable def EnvB (e : CEnv) : Prop := ∀ m ∈ marks, blockKind e m = some (arrowP m)
noncomputable def smallL (l : List Int) : Prop := l.length ≤ 2 ∧ ∀ k ∈ l, num k
theorem small0 : smallL [] := ⟨Nat.zero_le _, fun Z m => nomatch m⟩
theorem small1 {k : Int} (h : num k) : smallL [k] := ⟨nle rfl, fun x m => by rw [List.mem_singleton.mp m]; exact h⟩
theorem kk_small {k : Nat} (h : k < 4) : smallL (kk k).1 ∧ smallL (kk k).2 := by
 rcases k with _ | _ | _ | _ | k
 · exact ⟨small0, small0⟩
 · exact ⟨small1 (.inl rfl), small1 (.inl rfl)⟩
 · exact ⟨small0, small1 (.inr rfl)⟩
 · refine ⟨⟨Nat.le_refl _, fun x m => ?_⟩, small1 (.inl rfl)⟩
   have m : x ∈ [-1, -2] := m
   simpa [num] using m
 · lia
theorem mark_small {m : Int} (h : m ∈ marks) : m < 4 ∧ smallL (arrowP m).1 ∧ smallL (arrowP m).2 := by
 simp only [marks, List.mem_cons, List.not_mem_nil, or_false] at h
 rcases h with rfl | rfl | rfl | rfl | rfl | rfl | rfl
 · exact ⟨by decide, kk_small (k := 0) (by decide)⟩
 · exact ⟨by decide, kk_small (k := 1) (by decide)⟩
 · exact ⟨by decide, kk_small (k := 2) (by decide)⟩
 · exact ⟨by decide, kk_small (k := 3) (by decide)⟩
 · exact ⟨by decide, small0, small0⟩
 · exact ⟨by decide, small0, small1 (.inl rfl)⟩
 · exact ⟨by decide, small0, small1 (.inr rfl)⟩
noncomputable def ListP (N : Nat) (D n : Nat) : Prop := ∀ {A : WA} {H : MH} {las : List Nat} {w : W} {e : CEnv} {os : List Blk} {t : Blk} {Q : MV → MH → Prop} {E : MExc → MH → Prop},
 WR A H las w → Sync e os t w → EnvK e w.first → EnvB e → w.labels[0]? = some e.res → w.bud ≤ 3000 → w.at_ + 4 * w.left ≤ 400 →
 (∀ H' w', WR A H' las w' → Sync e os t w' → FrW A H H' → w'.labels = w.labels → w'.first = w.first → w'.bud ≤ w.bud → w'.at_ + 4 * w'.left ≤ w.at_ + 4 * w.left + 1 → Q .none H') →
 (mCall tb.P FF N D true 49 [.ref A.pen, .ref A.wd, .int (n : Nat), .int (t.height : Nat)] H).wp Q E
noncomputable def BlockP (N : Nat) (D n : Nat) : Prop := ∀ {A : WA} {H : MH} {las : List Nat} {w : W} {e : CEnv} {os : List Blk} {t : Blk} {Q : MV → MH → Prop} {E : MExc → MH → Prop} (x : Nat),
 WR A H las w → Sync e os t w → w.live = true → EnvK e w.first → EnvB e → w.labels[0]? = some e.res → w.bud ≤ 2900 → w.at_ + 4 * w.left ≤ 398 →
 (∀ H' w', WR A H' las w' → Sync e os t w' → FrW A H H' → w'.labels = w.labels → w'.first = w.first → w'.bud ≤ w.bud + 40 → w'.at_ + 4 * w'.left ≤ w.at_ + 4 * w.left + 2 → Q .none H') →
 (mCall tb.P FF N D true 46 [.ref A.pen, .ref A.wd, .int (n : Nat), .int (x : Nat)] H).wp Q E
section
variable {N d : Nat} {A : WA} {H : MH} {las : List Nat} {w : W} {Q : MV → MH → Prop} {QS : MFlow → Loc → MH → Prop} {E : MExc → MH → Prop} {e : CEnv} {os : List Blk} {t : Blk} {ρ : Loc}
theorem setLeft (r : WR A H las w) (n : Nat) : mSetI H (.ref A.wd) (.str 64) (.int n) = some (H.set A.wd (.dict false (wD A w.live n w.first))) := bind_eq (dcw_eq r.wd) ((if_pos (nle rfl)).trans rfl)
theorem ks_at (S : Sync e os t w) {l : Nat} (h : l < w.labels.length) : ∃ ks, w.labels[w.labels.length - 1 - l]? = some ks ∧ smallL ks := by
 have hl : w.labels.length - 1 - l < w.labels.length := ar_dn (Nat.zero_lt_of_lt h)
 exact ⟨_, List.getElem?_eq_getElem hl, S.labs _ (List.getElem_mem hl)⟩
noncomputable def LjQ (A : WA) (H : MH) (las : List Nat) (e : CEnv) (os : List Blk) (t : Blk) (w : W) (ρ : Loc) (QS : MFlow → Loc → MH → Prop) : Prop := ∀ ρ' H' w', (∀ z, z < 4 → ρ' z = ρ z) → WR A H' las w' → Sync e os t w' → FrW A H H' → w'.labels = w.labels → w'.first = w.first → w'.bud ≤ w.bud + 40 → w'.at_ + 4 * w'.left ≤ w.at_ + 4 * w.left + 2 → QS .next ρ' H'
theorem LjQ.same (q : LjQ A H las e os t w ρ QS) {ρ' : Loc} {H' : MH} {w' : W} (hz : ∀ z, z < 4 → ρ' z = ρ z) (r' : WR A H' las w') (S' : Sync e os t w') (f' : FrW A H H') (sm : Same w w') (hb : w'.bud ≤ w.bud + 40) : QS .next ρ' H' :=
 q _ _ _ hz r' S' f' sm.labels sm.first hb (by rw [sm.at_, sm.left]; exact Nat.le_add_right _ _)
theorem many_labs (S : Sync e os t w) (hb : w.bud ≤ 2900) : w.labels.length ≤ 4000 := by
 rw [S.lab, List.length_map, List.length_append, List.length_singleton]; have := S.deep; unfold W.bud at hb; lia
theorem w_cat {i j : Nat} {a b : List MV} (h1 : H[i]? = some (.list false a)) (h2 : H[j]? = some (.list false b)) (hs : a.length + b.length ≤ sizeL) (q : Q (.ref H.length) (H ++ [.list false (a ++ b)])) : (mBin H .add (.ref i) (.ref j)).wp Q E := wp_opt (lsw_eq h1) (wp_opt (lsw_eq h2) (w_newList (by rw [List.length_append]; exact hs) q))
theorem way9 (hN : 2000000 ≤ N) {y : Nat} (r : WR A H las w) (S : Sync e os t w) (hl : w.live = true) (hr0 : w.labels[0]? = some e.res) (hb : w.bud ≤ 2900) (c1 : ρ 1 = some (.ref A.wd)) (c5 : ρ 5 = some (.int (y : Nat))) (q : LjQ A H las e os t w ρ QS) :
   Wc N (d + 3) QS E [.asg 7 (.bin .fmod (.loc 5) (.callB .len (.sub (.loc 1) (.con (.str 62))))),
     .for [8] false .val [.bin .add (.sub (.sub (.loc 1) (.con (.str 62))) (.bin .sub (.bin .sub (.callB .len (.sub (.loc 1) (.con (.str 62)))) (.con (.int 1))) (.loc 7))) (.list [.con (.int (-1))])] [.expr (.callF 42 [.loc 1, .loc 8])],
     .expr (.callF 41 [.loc 1, .tup [.con (.int 13), .loc 7], .con (.int 1), .list []])] ρ H := by
 have hnl : 0 < w.labels.length := (List.getElem?_eq_some_iff.mp hr0).1
 have hnl2 := many_labs S hb
 refine Wc.asgv (Ev.mod (Ev.loc c5) (r.lenL c1) (by lia)) ?_
 have e3 : (y : Int) % (w.labels.length : Int) = ((y % w.labels.length : Nat) : Int) := by simp
 rw [e3]
 have hlt : y % w.labels.length < w.labels.length := Nat.mod_lt _ hnl
 generalize y % w.labels.length = l at hlt
 clear e3
 obtain ⟨ks, hks, sk⟩ := ks_at S hlt
 obtain ⟨a, la1, la2, la3, sL⟩ := lab_sub r hks
 have e4 : (w.labels.length : Int) - 1 - (l : Int) = ((w.labels.length - 1 - l : Nat) : Int) := ar_dnI hlt
 rw [← e4] at sL
 have v1 : (upd ρ 7 (.int (l : Int))) 1 = some (.ref A.wd) := c1
 have v7 : (upd ρ 7 (.int (l : Int))) 7 = some (.int (l : Nat)) := rfl
 have hz : ∀ z, z < 4 → (upd ρ 7 (.int (l : Int))) z = ρ z := fun z hz => by unfold upd; rw [if_neg (by lia)]
 generalize upd ρ 7 (.int (l : Int)) = ρ1 at v1 v7 hz
 have hk2 := sk.1
 refine Wc.forLE (wE_bin (Ee.v (Ev.sub (r.ev v1 rfl) (Ev.min (Ev.min (r.lenL v1) Ev.con) (Ev.loc v7)) sL) (Ee.list (Evs.one Ev.con) (by exact nle rfl) (w_cat (app_get la2) app_new (by rw [len_il]; show _ + 1 ≤ _; unfold sizeL; lia) ⟨_, _, _, rfl, app_new, ?_⟩))))
 have e5 : il ks ++ [.int (-1)] = il (ks ++ [-1]) := by simp [il]
 rw [e5]
 have hlen : (ks ++ [-1]).length = ks.length + 1 := List.length_append
 refine consts_loop hN (a := 1) (x := 8) (ks := ks ++ [-1]) (by decide) (r.keep fun Z Z h => app_get (app_get h)) S hl (by rw [hlen]; lia) app_new (new_not r (by simp)) (fun k m => ?_) v1 fun ρ2 H2 w2 J => ?_
 · rcases List.mem_append.mp m with m | m
   · exact sk.2 k m
   · rw [List.mem_singleton.mp m]; exact .inl rfl
 have hb2 := J.hb
 have hs2 : w2.stack.length = w.stack.length + (ks.length + 1) := by rw [J.hs, List.length_append, hlen]
 rw [hlen] at hb2
 have hps : 1 ≤ w2.stack.length := by lia
 refine Wc.expr (Ee.emit J.r (by lia) ((J.hy 1 (by decide)).trans v1) (Ev.op (op := [13, (l : Int)]) (Evs.cons Ev.con (Evs.one (Ev.loc ((J.hy 7 (by decide)).trans v7)))) (nle rfl)) (Ev.con (v := .int (1 : Nat))) (pushes := []) Evs.nil (fun Z => hps) (by decide) (Nat.zero_le _) (nle rfl) fun H3 r3 f3 => ?_)
 have S3 := J.S.brif (l := l) (ks := ks) (st := w.stack) J.hl (by lia) (by rw [J.sm.labels]; exact hks) (by rw [J.sm.labels]; exact hlt) (by rw [J.hs, List.append_assoc]) S.ht
 have hb3 := bud_live J.hl (op := [13, (l : Int)]) (pops := 1) (pushes := []) hps
 simp at hb3
 exact Wc.nil (q.same (fun z h => (J.hy z (by lia)).trans (hz z h)) r3 S3 ((frw_app.trans frw_app).trans (J.f.trans f3)) (J.sm.trans same_emit) (by lia))
theorem way11 (hN : 2000000 ≤ N) {y : Nat} (r : WR A H las w) (S : Sync e os t w) (hl : w.live = true) (K : EnvK e w.first) (hb : w.bud ≤ 2900) (c1 : ρ 1 = some (.ref A.wd)) (c5 : ρ 5 = some (.int (y : Nat))) (q : LjQ A H las e os t w ρ QS) :
   Wc N (d + 3) QS E [.asgT [9, 10] (.callF 40 [.bin .fmod (.loc 5) (.con (.int 4))]), .for [8] false .val [.loc 9] [.expr (.callF 42 [.loc 1, .loc 8])],
     .expr (.callF 41 [.loc 1, .tup [.con (.int 16), .bin .add (.con (.int 1)) (.bin .fmod (.loc 5) (.con (.int 4)))], .callB .len (.loc 9), .loc 10])] ρ H := by
 have e4 : (y : Int) % 4 = ((y % 4 : Nat) : Int) := rfl
 have hf : y % 4 < 4 := Nat.mod_lt _ (by decide)
 refine Wc.asgT (Ee.callF (Evs.one (Ev.mod (Ev.loc c5) Ev.con (by decide))) ?_)
 have e6 : (1 : Int) + (y : Int) % 4 = ((1 + y % 4 : Nat) : Int) := rfl
 rw [e4]
 generalize y % 4 = f at hf e4 e6
 refine arrow_spec (m := (f : Int)) (Int.ofNat_lt.mpr hf) ?_
 have ea : arrowP (f : Int) = kk f := by unfold arrowP; rw [if_pos (Int.natCast_nonneg _), Int.toNat_natCast]
 rw [ea]
 have sk := kk_small hf
 refine ⟨_, rfl, ?_⟩
 have v1 : (upd (upd ρ 9 (.ref H.length)) 10 (.ref (H.length + 1))) 1 = some (.ref A.wd) := c1
 have v5 : (upd (upd ρ 9 (.ref H.length)) 10 (.ref (H.length + 1))) 5 = some (.int (y : Int)) := c5
 have v9 : (upd (upd ρ 9 (.ref H.length)) 10 (.ref (H.length + 1))) 9 = some (.ref H.length) := rfl
 have v10 : (upd (upd ρ 9 (.ref H.length)) 10 (.ref (H.length + 1))) 10 = some (.ref (H.length + 1)) := rfl
 have hz : ∀ z, z < 4 → (upd (upd ρ 9 (.ref H.length)) 10 (.ref (H.length + 1))) z = ρ z := fun z hz => by unfold upd; rw [if_neg (by lia), if_neg (by lia)]
 generalize upd (upd ρ 9 (.ref H.length)) 10 (.ref (H.length + 1)) = ρ1 at v1 v5 v9 v10 hz
 have h9 : (H ++ [MObj.list false (il (kk f).1), .list false (il (kk f).2)])[H.length]? = some (.list false (il (kk f).1)) := app_new
 have h10 : (H ++ [MObj.list false (il (kk f).1), .list false (il (kk f).2)])[H.length + 1]? = some (.list false (il (kk f).2)) := app_new1
 have n9 := new_not r (i := H.length) (Nat.le_refl _)
 have n10 := new_not r (i := H.length + 1) (Nat.le_succ _)
 have r1 : WR A (H ++ [.list false (il (kk f).1), .list false (il (kk f).2)]) las w := r.keep fun Z Z => app_get
 have hp := sk.1.1
 have hp2 := sk.2.1
 refine Wc.forL (Evs.one (Ev.loc v9)) h9 (consts_loop hN (a := 1) (x := 8) (by decide) r1 S hl (by lia) h9 n9 sk.1.2 v1 fun ρ2 H2 w2 J => ?_)
 have hb2 := J.hb
 have hs2 : w2.stack.length = w.stack.length + (kk f).1.length := by rw [J.hs, List.length_append]
 have hps : (kk f).1.length ≤ w2.stack.length := hs2 ▸ Nat.le_add_left _ _
 have h9' := own_keep J.f r1 h9 n9
 have h10' := own_keep J.f r1 h10 n10
 have ho : Evs N (d + 3) ρ2 H2 [.con (.int 16), .bin .add (.con (.int 1)) (.bin .fmod (.loc 5) (.con (.int 4)))] (il [16, ((1 + f : Nat) : Int)]) := by
   rw [← e6]; exact Evs.cons Ev.con (Evs.one (Ev.add Ev.con (Ev.mod (Ev.loc ((J.hy 5 (by decide)).trans v5)) Ev.con (by decide))))
 have hln : Ev N (d + 3) ρ2 H2 (.callB .len (.loc 9)) (.int (kk f).1.length) := by
   rw [← len_il]; exact Ev.len (Ev.loc ((J.hy 9 (by decide)).trans v9)) (seqL h9')
 refine Wc.expr (Ee.callF (Evs.cons (Ev.loc ((J.hy 1 (by decide)).trans v1)) (Evs.cons (Ev.op ho (nle rfl)) (Evs.cons hln (Evs.one (Ev.loc ((J.hy 10 (by decide)).trans v10)))))) (emit_spec J.r (by lia) (fun Z => hps) (by lia) h10' n10 hp2 (fun H3 r3 f3 => ?_) (nle rfl)))
 have kf := K.fun_ f hf
 have S3 := J.S.call (i := 1 + f) (f := (f : Int)) (k := kk f) (st := w.stack) J.hl (by lia) kf.1 (by lia) (by rw [Int.toNat_natCast]; exact kf.2) sk.2 J.hs S.ht
 have hb3 := bud_live J.hl (op := [16, ((1 + f : Nat) : Int)]) (pops := (kk f).1.length) (pushes := (kk f).2) hps
 exact Wc.nil (q.same (fun z h => (J.hy z (by lia)).trans (hz z h)) r3 S3 (frw_app.trans (J.f.trans f3)) (J.sm.trans same_emit) (by lia))
structure LiI (A : WA) (H : MH) (las : List Nat) (w : W) (e : CEnv) (os : List Blk) (t : Blk) (n : Nat) (w' : W) (ρ : Loc) (H' : MH) : Prop where
 g0 : ρ 0 = some (.ref A.pen)
 g1 : ρ 1 = some (.ref A.wd)
 g2 : ρ 2 = some (.int (n : Nat))
 g3 : ρ 3 = some (.int (t.height : Nat))
 r : WR A H' las w'
 S : Sync e os t w'
 f : FrW A H H'
 lab : w'.labels = w.labels
 fi : w'.first = w.first
 b : w'.bud ≤ w.bud
 a : w'.at_ + 4 * w'.left ≤ w.at_ + 4 * w.left + 1
theorem LiI.loc {n : Nat} {w' : W} {ρ' : Loc} {H' : MH} (I : LiI A H las w e os t n w' ρ H') (hz : ∀ z, z < 4 → ρ' z = ρ z) : LiI A H las w e os t n w' ρ' H' :=
 { I with g0 := (hz 0 (by decide)).trans I.g0, g1 := (hz 1 (by decide)).trans I.g1, g2 := (hz 2 (by decide)).trans I.g2, g3 := (hz 3 (by decide)).trans I.g3 }
theorem upd_out {x : Nat} {v : MV} (hx : 4 ≤ x) : ∀ z, z < 4 → upd ρ x v z = ρ z := fun z hz => by unfold upd; rw [if_neg (by lia)]
theorem list_turn (hN : 2000000 ≤ N) {n : Nat} (hB : 0 < n → BlockP N (d + 3) n) (K : EnvK e w.first) (B : EnvB e) (hr0 : w.labels[0]? = some e.res) (hb : w.bud ≤ 3000) (ha : w.at_ + 4 * w.left ≤ 400) {w1 : W} {H' : MH} (I : LiI A H las w e os t n w1 ρ H') (hl : w1.live = true) (hleft : 0 < w1.left)
   (q : ∀ ρ' H'' w', LiI A H las w e os t n w' ρ' H'' → QS .next ρ' H'') {ss : List CS} (hss : ∀ {ρ2 : Loc} {H2 : MH} {w2 : W} {pick y : Nat}, WR A H2 las w2 → Sync e os t w2 → w2.live = true → EnvK e w2.first → w2.labels[0]? = some e.res → w2.bud ≤ 2900 → w2.at_ + 4 * w2.left ≤ 398 → ρ2 0 = some (.ref A.pen) → ρ2 1 = some (.ref A.wd) → ρ2 2 = some (.int (n : Nat)) → ρ2 3 = some (.int (t.height : Nat)) →
     ρ2 5 = some (.int (y : Nat)) → ρ2 6 = some (.int (pick : Nat)) → LjQ A H2 las e os t w2 ρ2 QS → Wc N (d + 3) QS E ss ρ2 H2) :
   Wc N (d + 3) QS E (.augI (.loc 1) (.con (.str 64)) .sub (.con (.int 1)) :: .asg 5 (.callF 39 [.loc 0]) :: .asgT [6, 5] (.tup [.bin .fmod (.loc 5) (.con (.int 12)), .bin .fdiv (.loc 5) (.con (.int 12))]) :: ss) ρ H' := by
 have e1 : (w1.left : Int) - 1 = ((w1.left - 1 : Nat) : Int) := (Int.ofNat_sub hleft).symm
 have hset := setLeft I.r (w1.left - 1)
 rw [← e1] at hset
 have hat := I.a
 have hbb := I.b
 refine Wc.augI (Ev.loc I.g1) Ev.con (a := (w1.left : Int)) (evw (w_subD I.r.wd rfl ⟨rfl, rfl⟩)) Ev.con rfl hset ?_
 have r2 := I.r.setWd w1.live (w1.left - 1)
 have f2 : FrW A H (H'.set A.wd (.dict false (wD A w1.live (w1.left - 1) w1.first))) := I.f.trans frw_wd
 generalize H'.set A.wd (.dict false (wD A w1.live (w1.left - 1) w1.first)) = H2 at r2 f2
 refine Wc.asg (Ee.callF (Evs.one (Ev.loc I.g0)) (next_spec r2 (by show w1.at_ ≤ 1000; lia) fun x H3 r3 f3 => ?_))
 refine Wc.asgTv (Evs.tup (Evs.cons (Ev.mod (Ev.loc rfl) Ev.con (by decide)) (Evs.one (Ev.div (Ev.loc rfl) Ev.con (by decide)))) (nle rfl)) rfl ?_
 have e2 : (x : Int) % 12 = ((x % 12 : Nat) : Int) := rfl
 have e3 : (x : Int) / 12 = ((x / 12 : Nat) : Int) := rfl
 rw [e2, e3]
 have S3 : Sync e os t { { w1 with live := w1.live, left := w1.left - 1 } with at_ := w1.at_ + 1 } := I.S.same rfl rfl rfl rfl rfl
 have q3 : ({ { w1 with live := w1.live, left := w1.left - 1 } with at_ := w1.at_ + 1 } : W).bud + 100 ≤ w1.bud := by
   show w1.body.length + w1.stack.length + 100 * (w1.left - 1) + 100 ≤ w1.body.length + w1.stack.length + 100 * w1.left
   lia
 have a3 : ({ { w1 with live := w1.live, left := w1.left - 1 } with at_ := w1.at_ + 1 } : W).at_ + 4 * ({ { w1 with live := w1.live, left := w1.left - 1 } with at_ := w1.at_ + 1 } : W).left + 3 ≤ w1.at_ + 4 * w1.left := by
   show w1.at_ + 1 + 4 * (w1.left - 1) + 3 ≤ _; lia
 have l3 : ({ { w1 with live := w1.live, left := w1.left - 1 } with at_ := w1.at_ + 1 } : W).live = true := hl
 have lab3 : ({ { w1 with live := w1.live, left := w1.left - 1 } with at_ := w1.at_ + 1 } : W).labels = w.labels := I.lab
 have fi3 : ({ { w1 with live := w1.live, left := w1.left - 1 } with at_ := w1.at_ + 1 } : W).first = w.first := I.fi
 generalize ({ { w1 with live := w1.live, left := w1.left - 1 } with at_ := w1.at_ + 1 } : W) = w3 at r3 S3 q3 a3 l3 lab3 fi3
 refine hss r3 S3 l3 (by rw [fi3]; exact K) (by rw [lab3]; exact hr0) (by lia) (by lia) I.g0 I.g1 I.g2 I.g3 rfl rfl fun ρ4 H4 w4 hz r4 S4 f4 lab4 fi4 b4 a4 => ?_
 exact q _ _ w4 ⟨(hz 0 (by decide)).trans I.g0, (hz 1 (by decide)).trans I.g1, (hz 2 (by decide)).trans I.g2, (hz 3 (by decide)).trans I.g3, r4, S4, (f2.trans f3).trans f4, lab4.trans lab3, fi4.trans fi3, by lia, by lia⟩
theorem list_step (hN : 2000000 ≤ N) (n : Nat) (hn : n ≤ 10) (hB : 0 < n → BlockP N (d + 3) n) : ListP N (d + 4) n := by
 intro A H las w e os t Q E r S K B hr0 hb ha q
 refine W_call rfl rfl ?_
 simp only [Nat.reduceAdd]
 refine Wc.forRE (fun vs ρ H' => ∃ w', LiI A H las w e os t n w' ρ H') ?_ (fun v vs ρ H' I => ?_) (fun ρ H' I => ?_)
 · refine wE_bin (wE_con (wE_bin (Ee.callF (Evs.one (Ev.loc rfl)) (next_spec r (by lia) fun x0 H1 r1 f1 => wE_con (w_mod2 (by decide) (w_add2 ?_))))))
   have ex : (1 : Int) + (x0 : Int) % 3 = ((1 + x0 % 3 : Nat) : Int) := rfl
   rw [ex]
   exact ⟨_, src_n (Nat.le_trans (Nat.add_le_add_left (Nat.le_of_lt (Nat.mod_lt x0 (nle rfl))) 1) (nle rfl)), _, rfl, rfl, rfl, rfl, r1, S.same rfl rfl rfl rfl rfl, f1, rfl, rfl, Nat.le_refl _, by show w.at_ + 1 + 4 * w.left ≤ _; lia⟩
 · obtain ⟨w1, I⟩ := I
   refine ⟨_, rfl, ?_⟩
   replace I := I.loc (upd_out (v := v) (Nat.le_refl 4))
   generalize upd ρ 4 v = ρ1 at I
   refine Wc.ifP (Ed.and (Ed.b (I.r.ev I.g1 rfl)) fun Z => Ed.conv (q := 0 < w1.left) (Ed.gt (I.r.ev I.g1 rfl) Ev.con) Int.natCast_pos) (fun g => ?_) (fun Z => Wc.nil ⟨w1, I⟩)
   refine list_turn (QS := _) hN hB K B hr0 hb ha I g.1 g.2 (fun ρ' H'' w' I => ⟨w', I⟩) fun {ρ2 H2 w2 pick y} r S hl K hr0 hb ha c0 c1 c2 c3 c5 c6 q => ?_
   have eqp : ∀ {m : Nat}, Ed N (d + 3) ρ2 H2 (.cmp (.loc 6) [.eq] [.con (.int m)]) (pick = m) := fun {m} => Ed.conv (Ed.eq (Ev.loc c6) Ev.con) Int.ofNat_inj
   refine Wc.ifP (Ed.and eqp fun Z => Ed.conv (q := 0 < n) (Ed.gt (Ev.loc c2) Ev.con) Int.natCast_pos) (fun g => ?_) (fun Z => ?_)
   · exact Wc.expr (Ee.callF (Evs.cons (Ev.loc c0) (Evs.cons (Ev.loc c1) (Evs.cons (Ev.loc c2) (Evs.one (Ev.loc c5))))) (hB g.2 y r S hl K B hr0 hb ha fun H' w' r' S' f' h1 h2 h3 h4 => Wc.nil (q _ _ _ (fun Z Z => rfl) r' S' f' h1 h2 h3 h4)))
   refine Wc.ifP eqp (fun Z => way9 hN r S hl hr0 hb c1 c5 q) (fun Z => ?_)
   refine Wc.ifP eqp (fun Z => ?_) (fun Z => ?_)
   · exact Wc.expr (Ee.callF (Evs.cons (Ev.loc c1) (Evs.one (Ev.loc c5))) (jump_spec hN r S hl K hr0 (by lia) fun H' w' r' S' f' sm hb' => Wc.nil (q.same (fun Z Z => rfl) r' S' f' sm (by lia))))
   refine Wc.ifP eqp (fun Z => way11 hN r S hl K hb c1 c5 q) (fun Z => ?_)
   exact Wc.expr (Ee.callF (Evs.cons (Ev.loc c1) (Evs.cons (Ev.loc c6) (Evs.cons (Ev.loc c5) (Evs.one (Ev.loc c3))))) (piece_spec r S hl K (by lia) fun H' w' r' S' f' sm hb' => Wc.nil (q.same (fun Z Z => rfl) r' S' f' sm (by lia))))
 · obtain ⟨w', I⟩ := I
   exact Wc.nil (q _ _ I.r I.S I.f I.lab I.fi I.b I.a)
end
end
section
section
variable {N d : Nat} {A : WA} {H : MH} {las : List Nat} {w : W} {Q : MV → MH → Prop} {E : MExc → MH → Prop} {e : CEnv} {os : List Blk} {t : Blk}
theorem code_at {j : Nat} (h : j < 3) : ∃ c : Int, ([.int 2, .int 3, .int 4] : List MV)[j]? = some (.int c) ∧ (c = 2 ∨ c = 3 ∨ c = 4) := by
 rcases j with _ | _ | _ | j
 · exact ⟨2, rfl, .inl rfl⟩
 · exact ⟨3, rfl, .inr (.inl rfl)⟩
 · exact ⟨4, rfl, .inr (.inr rfl)⟩
 · lia
theorem mark_at {j : Nat} (h : j < 7) : ∃ m : Int, ([.int 0, .int 1, .int 2, .int 3, .int (-64), .int (-1), .int (-2)] : List MV)[j]? = some (.int m) ∧ m ∈ marks := by
 rcases j with _ | _ | _ | _ | _ | _ | _ | j
 · exact ⟨_, rfl, by decide⟩
 · exact ⟨_, rfl, by decide⟩
 · exact ⟨_, rfl, by decide⟩
 · exact ⟨_, rfl, by decide⟩
 · exact ⟨_, rfl, by decide⟩
 · exact ⟨_, rfl, by decide⟩
 · exact ⟨_, rfl, by decide⟩
 · lia
theorem popLb (r : WR A H las w) {C : Orc} {a : Nat} {as : List Nat} (e : las = as ++ [a]) (q : Q (.ref a) (H.set A.lb (.list false (as.map .ref)))) : (mMeth C (.lm .pop A.lb) (.ref A.lb) [] H).wp Q E := by
 refine w_pop (v := .ref a) r.lb (by rw [e]; simp) ?_
 rw [e, List.map_append, List.map_singleton, List.dropLast_concat]
 exact q
theorem cmp_neL {i j : Nat} {fz fz' : Bool} {a b : List Int} (h1 : H[i]? = some (.list fz (il a))) (h2 : H[j]? = some (.list fz' (il b))) : mComp H .ne (.ref i) (.ref j) = some (!decide (a = b)) := map_eq (cmp_eqL h1 h2) rfl
theorem bud_reset {base : Nat} {ks : List Int} : (w.reset base ks).bud ≤ w.bud + ks.length := by
 unfold W.reset W.bud
 simp only [List.length_append, List.length_take]
 exact Nat.le_trans (Nat.add_le_add_right (Nat.add_le_add_left (Nat.add_le_add_right (Nat.min_le_right _ _) _) _) _) (Nat.le_of_eq (by rw [← Nat.add_assoc, Nat.add_right_comm]))
theorem bud_emit0 {op : List Int} : (w.emit op 0 []).bud = w.bud + 1 := by
 cases hl : w.live with
 | true => have := bud_live hl (op := op) (pops := 0) (pushes := []) (Nat.zero_le _); simpa using this
 | false => exact bud_dead hl
theorem list_close (hN : 2000000 ≤ N) (m : Nat) (hL : ListP N (d + 4) m) {ρ : Loc} {ss : List CS} {QS : MFlow → Loc → MH → Prop} {rr : List Int} {a7 : Nat} (r : WR A H las w) (S : Sync e os t w) (K : EnvK e w.first) (B : EnvB e) (hr0 : w.labels[0]? = some e.res) (hb : w.bud ≤ 3000) (ha : w.at_ + 4 * w.left ≤ 400)
   (c0 : ρ 0 = some (.ref A.pen)) (c1 : ρ 1 = some (.ref A.wd)) (c2 : ρ 2 = some (.int ((m + 1 : Nat) : Int))) (c7 : ρ 7 = some (.ref a7)) (c9 : ρ 9 = some (.int (t.height : Nat))) (h7 : H[a7]? = some (.list false (il rr))) (n7 : a7 ∉ A.lists) (hr : smallL rr)
   (q : ∀ H' w', WR A H' las w' → Sync e os t w' → FrW A H H' → w'.labels = w.labels → w'.first = w.first → w'.bud ≤ w.bud + 4 → w'.at_ + 4 * w'.left ≤ w.at_ + 4 * w.left + 1 → (w'.live = true → w'.stack = w'.stack.take t.height ++ rr) → Wc N (d + 4) QS E ss ρ H') :
   Wc N (d + 4) QS E (.expr (.callF 49 [.loc 0, .loc 1, .bin .sub (.loc 2) (.con (.int 1)), .loc 9]) :: .expr (.callF 44 [.loc 1, .loc 9, .loc 7]) :: ss) ρ H := by
 have em : ((m + 1 : Nat) : Int) - 1 = (m : Int) := Int.add_sub_cancel (m : Int) 1
 have hm : Ev N (d + 4) ρ H (.bin .sub (.loc 2) (.con (.int 1))) (.int (m : Nat)) := by rw [← em]; exact Ev.min (Ev.loc c2) Ev.con
 refine Wc.expr (Ee.callF (Evs.cons (Ev.loc c0) (Evs.cons (Ev.loc c1) (Evs.cons hm (Evs.one (Ev.loc c9))))) (hL r S K B hr0 hb ha fun H1 w1 r1 S1 f1 lab1 fi1 b1 a1 => ?_))
 have hr2 := hr.1
 refine Wc.expr (Ee.callF (Evs.cons (Ev.loc c1) (Evs.cons (Ev.loc c9) (Evs.one (Ev.loc c7)))) (close_w (d := d + 1) hN r1 S1 (Nat.le_trans (Nat.add_le_add (Nat.le_trans b1 hb) (Nat.mul_le_mul_left 2 hr2)) (nle rfl)) (own_keep f1 r h7 n7) n7 hr.2 fun H2 w2 r2 S2 f2 l2 s2 s2' sm2 b2 => ?_))
 refine q _ _ r2 S2 (f1.trans f2) (sm2.labels.trans lab1) (sm2.first.trans fi1) (Nat.le_trans b2 (Nat.add_le_add b1 (Nat.mul_le_mul_left 2 hr2))) (by rw [sm2.at_, sm2.left]; exact a1) fun hl => ?_
 have h1 := s2 (l2.symm.trans hl)
 have hlen : (w1.stack.take t.height).length = t.height := by rw [List.length_take]; exact Nat.min_eq_left S1.ht
 have h2 : w2.stack.take t.height = w1.stack.take t.height := by
   rw [h1, List.take_append_of_le_length (Nat.le_of_eq hlen.symm), List.take_take, Nat.min_self]
 rw [h2]; exact h1
structure BkL (A : WA) (m x : Nat) (c mk : Int) (a6 base : Nat) (ρ : Loc) : Prop where
 c0 : ρ 0 = some (.ref A.pen)
 c1 : ρ 1 = some (.ref A.wd)
 c2 : ρ 2 = some (.int ((m + 1 : Nat) : Int))
 c3 : ρ 3 = some (.int (x : Nat))
 c4 : ρ 4 = some (.int c)
 c5 : ρ 5 = some (.int mk)
 c6 : ρ 6 = some (.ref a6)
 c7 : ρ 7 = some (.ref (a6 + 1))
 c9 : base < 100000 → ρ 9 = some (.int (base : Nat))
theorem BkL.loc {m x : Nat} {c mk : Int} {a6 base : Nat} {ρ ρ' : Loc} (L : BkL A m x c mk a6 base ρ) (hz : ∀ z, z ≠ 8 → ρ' z = ρ z) : BkL A m x c mk a6 base ρ' :=
 ⟨(hz 0 (by decide)).trans L.c0, (hz 1 (by decide)).trans L.c1, (hz 2 (by decide)).trans L.c2, (hz 3 (by decide)).trans L.c3, (hz 4 (by decide)).trans L.c4, (hz 5 (by decide)).trans L.c5, (hz 6 (by decide)).trans L.c6, (hz 7 (by decide)).trans L.c7, fun h => (hz 9 (by decide)).trans (L.c9 h)⟩
theorem BkL.base {m x : Nat} {c mk : Int} {a6 b : Nat} {ρ : Loc} (L : BkL A m x c mk a6 100000 ρ) : BkL A m x c mk a6 b (upd ρ 9 (.int (b : Nat))) :=
 ⟨L.c0, L.c1, L.c2, L.c3, L.c4, L.c5, L.c6, L.c7, fun Z => rfl⟩
theorem block_end (hN : 2000000 ≤ N) {m x : Nat} {c mk : Int} {a6 la : Nat} {rr X : List Int} {H₀ : MH} {w w7 : W} {t t7 : Blk} {os : List Blk} {ρ : Loc} (L : BkL A m x c mk a6 w.stack.length ρ) (hlt : w.stack.length < 100000) (fr : FrW A H₀ H) (hrf : ∀ a ∈ las, a ∉ A.lists) (r7 : WR A H (las ++ [la]) w7) (S7 : Sync e (os ++ [t]) t7 w7) (lab7 : w7.labels = w.labels ++ [X]) (fi7 : w7.first = w.first) (b7 : w7.bud ≤ w.bud + 20) (hb : w.bud ≤ 2900) (a7 : w7.at_ + 4 * w7.left ≤ w.at_ + 4 * w.left + 2)
   (top7 : w7.live = true → w7.stack = w7.stack.take w.stack.length ++ rr) (ht7 : t7.height = w.stack.length) (hrr7 : t7.res = rr) (hc7 : t7.code = 4 → t7.par = t7.res) (h7 : H[a6 + 1]? = some (.list false (il rr))) (n7 : a6 + 1 ∉ A.lists) (hr2 : rr.length ≤ 2) (hst : t.height ≤ w.stack.length)
   (q : ∀ H' w', WR A H' las w' → Sync e os t w' → FrW A H₀ H' → w'.labels = w.labels → w'.first = w.first → w'.bud ≤ w.bud + 40 → w'.at_ + 4 * w'.left ≤ w.at_ + 4 * w.left + 2 → Q .none H') :
   Wc N (d + 4) (Qc Q) E [.expr (.callF 41 [.loc 1, .tup [.con (.int 11)], .con (.int 0), .list []]), .expr (.callF 45 [.loc 1, .loc 9, .loc 7]), .expr (.callM (.sub (.loc 1) (.con (.str 62))) 1 [])] ρ H := by
 have hbe := bud_emit0 (w := w7) (op := [11])
 have hbr := bud_reset (w := w7.emit [11] 0 []) (base := w.stack.length) (ks := rr)
 refine Wc.expr (Ee.emit r7 (by lia) L.c1 (Ev.op (op := [11]) rfl (nle rfl)) (Ev.con (v := .int (0 : Nat))) (pushes := []) Evs.nil (fun Z => Nat.zero_le _) (Nat.zero_le _) (Nat.zero_le _) (by exact nle rfl) fun H8 r8 f8 => ?_)
 refine Wc.expr (Ee.callF (Evs.cons (Ev.loc L.c1) (Evs.cons (Ev.loc (L.c9 hlt)) (Evs.one (Ev.loc L.c7)))) (reset_w (d := d + 3) (base := w.stack.length) hN r8 (by lia) hr2 (own_keep f8 r7 h7 n7) n7 fun H9 r9 f9 => ?_))
 have hlen : (w7.stack.take w.stack.length).length = w.stack.length := by rw [List.length_take]; have := S7.ht; lia
 have Se := S7.end_ (st := w7.stack.take w.stack.length) (by lia) hc7 (by rw [hrr7]; exact top7) (by rw [ht7]; exact hlen) (by rw [ht7]) (by lia)
 rw [ht7, hrr7, lab7, List.dropLast_concat] at Se
 have hl9 : ((w7.emit [11] 0 []).reset w.stack.length rr).labels = w.labels ++ [X] := (emit_same (w := w7)).1.trans lab7
 have hla := r9.la
 rw [hl9] at hla
 have hla := hla.dropLast
 rw [List.dropLast_concat, List.dropLast_concat] at hla
 refine Wc.expr (Ee.callM (r9.ev L.c1 rfl) (w_kindL r9.lb rfl) Evs.nil (popLb r9 rfl (Wc.nil (q _ _ (r9.setLb hla hrf) Se ((fr.trans (f8.trans f9)).trans (frw_list mem_lb)) rfl ((emit_same (w := w7)).2.2.2.1.trans fi7) ?_ ?_))))
 · show ((w7.emit [11] 0 []).reset w.stack.length rr).bud ≤ _
   lia
 · show (w7.emit [11] 0 []).at_ + 4 * (w7.emit [11] 0 []).left ≤ _
   rw [(emit_same (w := w7)).2.2.2.2, (emit_same (w := w7)).2.2.1]
   exact a7
theorem block_else (hN : 2000000 ≤ N) (m : Nat) (hL : ListP N (d + 4) m) {x : Nat} {c mk : Int} {a6 : Nat} {p rr : List Int} {X : List (List Int)} {w6 : W} {bs0 : List Int} {t6 : Blk} {os6 : List Blk} {ρ : Loc} {QS : MFlow → Loc → MH → Prop} (L : BkL A m x c mk a6 t6.height ρ) (hlt : t6.height < 100000) (r6 : WR A H las w6) (S6 : Sync e os6 t6 w6) (lab6 : w6.labels = bs0 :: X) (K : EnvK e w6.first) (B : EnvB e) (hr0 : bs0 = e.res)
   (hb : w6.bud ≤ 2960) (ha : w6.at_ + 4 * w6.left ≤ 400) (hp2 : p.length ≤ 2) (hr : smallL rr) (h6 : H[a6]? = some (.list false (il p))) (n6 : a6 ∉ A.lists) (h7 : H[a6 + 1]? = some (.list false (il rr))) (n7 : a6 + 1 ∉ A.lists) (hc : t6.code = 4) (hpar : t6.par = p) (hres : t6.res = rr) (top6 : w6.live = true → w6.stack = w6.stack.take t6.height ++ rr)
   (q : ∀ H' w' t', WR A H' las w' → Sync e os6 t' w' → FrW A H H' → w'.labels = w6.labels → w'.first = w6.first → w'.bud ≤ w6.bud + 8 → w'.at_ + 4 * w'.left ≤ w6.at_ + 4 * w6.left + 1 → (w'.live = true → w'.stack = w'.stack.take t6.height ++ rr) → t'.height = t6.height → t'.res = rr → t'.code = 5 → QS .next ρ H') :
   Wc N (d + 4) QS E [.expr (.callF 41 [.loc 1, .tup [.con (.int 5)], .con (.int 0), .list []]), .expr (.callF 45 [.loc 1, .loc 9, .loc 6]), .expr (.callF 49 [.loc 0, .loc 1, .bin .sub (.loc 2) (.con (.int 1)), .loc 9]), .expr (.callF 44 [.loc 1, .loc 9, .loc 7])] ρ H := by
 have hbe := bud_emit0 (w := w6) (op := [5])
 have hbr := bud_reset (w := w6.emit [5] 0 []) (base := t6.height) (ks := p)
 refine Wc.expr (Ee.emit r6 (by lia) L.c1 (Ev.op (op := [5]) rfl (nle rfl)) (Ev.con (v := .int (0 : Nat))) (pushes := []) Evs.nil (fun Z => Nat.zero_le _) (Nat.zero_le _) (Nat.zero_le _) (by exact nle rfl) fun H7 r7 f7 => ?_)
 refine Wc.expr (Ee.callF (Evs.cons (Ev.loc L.c1) (Evs.cons (Ev.loc (L.c9 hlt)) (Evs.one (Ev.loc L.c6)))) (reset_w (d := d + 3) (base := t6.height) hN r7 (by lia) hp2 (own_keep f7 r6 h6 n6) n6 fun H8 r8 f8 => ?_))
 have hlen : (w6.stack.take t6.height).length = t6.height := by rw [List.length_take]; exact Nat.min_eq_left S6.ht
 have S8 := S6.other (st := w6.stack.take t6.height) (by lia) hc (by rw [hres]; exact top6) hlen rfl
 have lab8 : ((w6.emit [5] 0 []).reset t6.height p).labels = w6.labels := (emit_same (w := w6)).1
 have fi8 : ((w6.emit [5] 0 []).reset t6.height p).first = w6.first := (emit_same (w := w6)).2.2.2.1
 have a8 : ((w6.emit [5] 0 []).reset t6.height p).at_ = w6.at_ := (emit_same (w := w6)).2.2.2.2
 have le8 : ((w6.emit [5] 0 []).reset t6.height p).left = w6.left := (emit_same (w := w6)).2.2.1
 rw [hpar] at S8
 refine list_close hN m hL r8 S8 (by rw [fi8]; exact K) B (by rw [lab8, lab6, hr0]; rfl) (by lia) (by rw [a8, le8]; exact ha) L.c0 L.c1 L.c2 L.c7 (L.c9 hlt) (own_keep f8 r7 (own_keep f7 r6 h7 n7) n7) n7 hr fun H9 w9 r9 S9 f9 lab9 fi9 b9 a9 top9 => ?_
 rw [a8, le8] at a9
 exact Wc.nil (q _ w9 _ r9 S9 ((f7.trans f8).trans f9) (lab9.trans lab8) (fi9.trans fi8) (by lia) a9 top9 rfl hres rfl)
structure BkI (A : WA) (H₀ : MH) (las : List Nat) (w : W) (e : CEnv) (os : List Blk) (t : Blk) (p : List Int) (n : Nat) (w' : W) (H : MH) (top : List Int) : Prop where
 r : WR A H las w'
 S : Sync e os t w'
 f : FrW A H₀ H
 hl : w'.live = true
 hs : w'.stack = (w.stack ++ p) ++ top
 sm : Same w w'
 hb : w'.bud ≤ w.bud + n
theorem block_step (hN : 2000000 ≤ N) (m : Nat) (hL : ListP N (d + 4) m) : BlockP N (d + 5) (m + 1) := by
 intro A H las w e os t Q E x r S hl K B hr0 hb ha q
 have e1 : (x : Int) % 3 = ((x % 3 : Nat) : Int) := rfl
 have e2 : (x : Int) / 3 % 7 = ((x / 3 % 7 : Nat) : Int) := rfl
 obtain ⟨c, hc1, hc⟩ := code_at (j := x % 3) (Nat.mod_lt _ (by decide))
 obtain ⟨mk, hm1, hm⟩ := mark_at (j := x / 3 % 7) (Nat.mod_lt _ (by decide))
 have s1 : mSub H (.tup [.int 2, .int 3, .int 4]) (.int ((x : Int) % 3)) = .ok (.int c) H := by rw [e1]; exact evw (w_subT (idx_nat (Nat.mod_lt _ (by decide))) hc1 ⟨rfl, rfl⟩)
 have s2 : mSub H (.tup [.int 0, .int 1, .int 2, .int 3, .int (-64), .int (-1), .int (-2)]) (.int ((x : Int) / 3 % 7)) = .ok (.int mk) H := by rw [e2]; exact evw (w_subT (idx_nat (Nat.mod_lt _ (by decide))) hm1 ⟨rfl, rfl⟩)
 obtain ⟨hm4, hp, hr⟩ := mark_small hm
 have hB := B mk hm
 refine W_call rfl rfl ?_
 simp only [Nat.reduceAdd]
 refine Wc.asgTv (Evs.tup (Evs.cons (Ev.sub (Evs.tup (vs := [.int 2, .int 3, .int 4]) rfl (nle rfl)) (Ev.mod (Ev.loc rfl) Ev.con (by decide)) s1) (Evs.one (Ev.sub (Evs.tup (vs := [.int 0, .int 1, .int 2, .int 3, .int (-64), .int (-1), .int (-2)]) rfl (nle rfl)) (Ev.mod (Ev.div (Ev.loc rfl) Ev.con (by decide)) Ev.con (by decide)) s2))) (nle rfl)) rfl ?_
 refine Wc.asgT (Ee.callF (Evs.one (Ev.loc rfl)) (arrow_spec (m := mk) hm4 ?_))
 generalize arrowP mk = pr at hp hr hB
 obtain ⟨p, rr⟩ := pr
 refine ⟨_, rfl, ?_⟩
 have L : BkL A m x c mk H.length 100000 (upd (upd (upd (upd (upd (upd (upd (upd (fun Z => none) 0 (.ref A.pen)) 1 (.ref A.wd)) 2 (.int ((m + 1 : Nat) : Int))) 3 (.int (x : Int))) 4 (.int c)) 5 (.int mk)) 6 (.ref H.length)) 7 (.ref (H.length + 1))) := ⟨rfl, rfl, rfl, rfl, rfl, rfl, rfl, rfl, fun h => absurd h (by decide)⟩
 generalize upd (upd (upd (upd (upd (upd (upd (upd (fun Z => none) 0 (.ref A.pen)) 1 (.ref A.wd)) 2 (.int ((m + 1 : Nat) : Int))) 3 (.int (x : Int))) 4 (.int c)) 5 (.int mk)) 6 (.ref H.length)) 7 (.ref (H.length + 1)) = ρ at L ⊢
 clear s1 s2 e1 e2 hc1 hm1
 have r1 : WR A (H ++ [.list false (il p), .list false (il rr)]) las w := r.keep fun Z Z => app_get
 have h6 : (H ++ [MObj.list false (il p), .list false (il rr)])[H.length]? = some (.list false (il p)) := app_new
 have h7 : (H ++ [MObj.list false (il p), .list false (il rr)])[H.length + 1]? = some (.list false (il rr)) := app_new1
 have n6 := new_not r (i := H.length) (Nat.le_refl _)
 have n7 := new_not r (i := H.length + 1) (Nat.le_succ _)
 have f1 : FrW A H (H ++ [.list false (il p), .list false (il rr)]) := frw_app
 generalize H.length = a6 at h6 h7 n6 n7 L
 generalize H ++ [MObj.list false (il p), .list false (il rr)] = H1 at r1 h6 h7 f1
 have hp2 : p.length ≤ 2 := hp.1
 have hr2 : rr.length ≤ 2 := hr.1
 have hst : t.height ≤ w.stack.length := S.ht
 have hwl : w.stack.length < 100000 := Nat.lt_of_le_of_lt (Nat.le_trans bud_st hb) (nle rfl)
 refine Wc.forL (Evs.one (Ev.loc L.c6)) h6 (consts_loop hN (a := 1) (x := 8) (by decide) r1 S hl (by lia) h6 n6 hp.2 L.c1 fun ρ2 H2 w2 J => ?_)
 have hb2 := J.hb
 replace L := L.loc J.hy
 have I2 : BkI A H1 las w e os t p 4 w2 H2 [] := ⟨J.r, J.S, J.f, J.hl, by rw [J.hs, List.append_nil], J.sm, by lia⟩
 clear J hb2
 refine Wc.stg (fun ρ' H' => ρ' = ρ2 ∧ ∃ w', BkI A H1 las w e os t p 6 w' H' (if c = 4 then [-1] else [])) ?_ (fun ρ3 H3 I => ?_)
 · have hb2 := I2.hb
   refine Wc.ifP (Ed.eq (Ev.loc L.c4) Ev.con) (fun g => ?_) (fun g => ?_)
   · refine Wc.expr (Ee.callF (Evs.cons (Ev.loc L.c1) (Evs.one Ev.con)) (const_spec (k := -1) I2.r (by lia) fun H' r' f' => Wc.nil ⟨rfl, rfl, _, r', I2.S.const I2.hl (by lia) (.inl rfl), I2.f.trans f', by rw [emit_same.2.1]; exact I2.hl, ?_, I2.sm.trans same_emit, ?_⟩))
     · rw [stack_const I2.hl, I2.hs, List.append_nil, if_pos g]
     · rw [bud_const I2.hl]; lia
   · exact Wc.nil ⟨rfl, rfl, w2, I2.r, I2.S, I2.f, I2.hl, by rw [I2.hs, if_neg g], I2.sm, by lia⟩
 clear I2
 obtain ⟨rfl, w3, I⟩ := I
 have b3 := I.hb
 have hpop : ∃ pop : Nat, pop ≤ 1 ∧ w3.stack.length = w.stack.length + p.length + pop ∧ Ev N (d + 4) ρ3 H3 (.ite (.cmp (.loc 4) [.eq] [.con (.int 4)]) (.con (.int 1)) (.con (.int 0))) (.int pop) ∧ pop = if c = 4 then 1 else 0 := by
   by_cases g : c = 4
   · exact ⟨1, Nat.le_refl _, by rw [I.hs, if_pos g, List.length_append, List.length_append]; rfl, Ev.iteT ((Ed.eq (Ev.loc L.c4) Ev.con).1 g) Ev.con, (if_pos g).symm⟩
   · exact ⟨0, Nat.zero_le _, by rw [I.hs, if_neg g, List.length_append, List.length_append]; rfl, Ev.iteF ((Ed.eq (Ev.loc L.c4) Ev.con).2 g) Ev.con, (if_neg g).symm⟩
 obtain ⟨pop, hpop1, hstk, hpev, epop⟩ := hpop
 have Sb := I.S.block (c := c) (mk := mk) (p := p) (r := rr) (st := w.stack) I.hl (by lia) hc hB ⟨hp2, hr2, hp.2, hr.2⟩ I.hs hst
 rw [← epop] at Sb
 refine Wc.expr (Ee.emit I.r (by lia) L.c1 (Ev.op (op := [c, mk]) (Evs.cons (Ev.loc L.c4) (Evs.one (Ev.loc L.c5))) (nle rfl)) hpev (pushes := []) Evs.nil (fun Z => by lia) (by lia) (Nat.zero_le _) (nle rfl) fun H4 r4 f4 => ?_)
 have h6 := own_keep f4 I.r (own_keep I.f r1 h6 n6) n6
 have h7 := own_keep f4 I.r (own_keep I.f r1 h7 n7) n7
 have s4 : (w3.emit [c, mk] pop []).stack = w.stack ++ p := by
   rw [emit_live I.hl, List.append_nil, hstk, Nat.add_sub_cancel, ← List.length_append, I.hs]; exact List.take_left'  rfl
 have b4 : (w3.emit [c, mk] pop []).bud ≤ w.bud + 7 := by
   have := bud_live I.hl (op := [c, mk]) (pops := pop) (pushes := []) (by lia)
   simp at this; lia
 have e9 : ((w3.emit [c, mk] pop []).stack.length : Int) - ((il p).length : Int) = (w.stack.length : Int) := by rw [s4, List.length_append, len_il]; lia
 have hbase : Ev N (d + 4) ρ3 H4 (.bin .sub (.callB .len (.sub (.loc 1) (.con (.str 59)))) (.callB .len (.loc 6))) (.int w.stack.length) := by
   rw [← e9]; exact Ev.min (r4.lenS L.c1) (Ev.len (Ev.loc L.c6) (seqL h6))
 refine Wc.asgv hbase ?_
 replace L := L.base (b := w.stack.length)
 generalize upd ρ3 9 (.int (w.stack.length : Int)) = ρ at L ⊢
 have hlas : las.length ≤ 4000 := by
   rw [r.la.length]; exact many_labs S hb
 have elb : w3.labels = w.labels := I.sm.labels
 have hla : ∃ la, Ev N (d + 4) ρ H4 (.ite (.cmp (.loc 4) [.eq] [.glob 7]) (.loc 6) (.loc 7)) (.ref la) ∧ H4[la]? = some (.list false (il (if c = 3 then p else rr))) ∧ la ∉ A.lists := by
   by_cases g : c = 3
   · exact ⟨a6, Ev.iteT ((Ed.eq (Ev.loc L.c4) (Ev.glob rfl)).1 g) (Ev.loc L.c6), by rw [if_pos g]; exact h6, n6⟩
   · exact ⟨a6 + 1, Ev.iteF ((Ed.eq (Ev.loc L.c4) (Ev.glob rfl)).2 g) (Ev.loc L.c7), by rw [if_neg g]; exact h7, n7⟩
 obtain ⟨la, hla1, hla2, hla3⟩ := hla
 refine Wc.expr (Ee.callM (r4.ev L.c1 rfl) (w_kindL r4.lb rfl) (Evs.one hla1) (w_append r4.lb (by rw [List.length_map]; unfold sizeL; lia) ?_))
 have el : las.map MV.ref ++ [.ref la] = (las ++ [la]).map .ref := by simp
 rw [el]
 have r5 : WR A (H4.set A.lb (.list false ((las ++ [la]).map .ref))) (las ++ [la]) { (w3.emit [c, mk] pop []) with labels := w3.labels ++ [if c = 3 then p else rr] } := by
   refine r4.setLb ?_ fun a ma => ?_
   · have h := r4.la
     rw [show (w3.emit [c, mk] pop []).labels = w3.labels from emit_same.1] at h
     exact h.append hla2
   · rcases List.mem_append.mp ma with ma | ma
     · exact r4.fr a ma
     · rw [List.mem_singleton.mp ma]; exact hla3
 have f5 : FrW A H4 (H4.set A.lb (.list false ((las ++ [la]).map .ref))) := frw_list mem_lb
 generalize H4.set A.lb (.list false ((las ++ [la]).map .ref)) = H5 at r5 f5
 have h6 := own_keep f5 r4 h6 n6
 have h7 := own_keep f5 r4 h7 n7
 have lab5 : ({ (w3.emit [c, mk] pop []) with labels := w3.labels ++ [if c = 3 then p else rr] } : W).labels = w.labels ++ [if c = 3 then p else rr] := by show w3.labels ++ _ = _; rw [elb]
 have fi5 : ({ (w3.emit [c, mk] pop []) with labels := w3.labels ++ [if c = 3 then p else rr] } : W).first = w.first := emit_same.2.2.2.1.trans I.sm.first
 have b5 : ({ (w3.emit [c, mk] pop []) with labels := w3.labels ++ [if c = 3 then p else rr] } : W).bud ≤ w.bud + 7 := b4
 have a5 : ({ (w3.emit [c, mk] pop []) with labels := w3.labels ++ [if c = 3 then p else rr] } : W).at_ = w.at_ := emit_same.2.2.2.2.trans I.sm.at_
 have le5 : ({ (w3.emit [c, mk] pop []) with labels := w3.labels ++ [if c = 3 then p else rr] } : W).left = w.left := emit_same.2.2.1.trans I.sm.left
 generalize ({ (w3.emit [c, mk] pop []) with labels := w3.labels ++ [if c = 3 then p else rr] } : W) = w5 at Sb r5 lab5 fi5 b5 a5 le5
 generalize (if c = 3 then p else rr) = X at lab5
 replace f5 := ((f1.trans I.f).trans f4).trans f5
 clear I r4 f4 s4 b4 elb e9 hstk b3 hbase hla1 hla2 hla3 el hpev r1 f1
 have hlen0 : 0 < w.labels.length := (List.getElem?_eq_some_iff.mp hr0).1
 have lz : ∃ bs0 X', w.labels ++ [X] = bs0 :: X' ∧ bs0 = e.res := by
   cases hlb : w.labels with
   | nil => rw [hlb] at hlen0; exact absurd hlen0 (by decide)
   | cons b l => rw [hlb] at hr0; exact ⟨b, l ++ [X], rfl, Option.some.inj hr0⟩
 obtain ⟨bs0, X', lz, lz'⟩ := lz
 refine list_close hN m hL r5 Sb (by rw [fi5]; exact K) B (by rw [lab5, lz, lz']; rfl) (by lia) (by rw [a5, le5]; lia) L.c0 L.c1 L.c2 L.c7 (L.c9 hwl) h7 n7 hr fun H6 w6 r6 S6 f6 lab6 fi6 b6 a6' top6 => ?_
 have h6 := own_keep f6 r5 h6 n6
 have h7 := own_keep f6 r5 h7 n7
 rw [a5, le5] at a6'
 replace lab6 := lab6.trans lab5
 replace fi6 := fi6.trans fi5
 have hd : Ed N (d + 4) ρ H6 (.bool true [.cmp (.loc 4) [.eq] [.glob 8], .bool false [.cmp (.loc 6) [.ne] [.loc 7], .cmp (.bin .fmod (.bin .fdiv (.loc 3) (.con (.int 21))) (.con (.int 2))) [.eq] [.con (.int 1)]]]) (c = 4 ∧ (¬ p = rr ∨ (x : Int) / 21 % 2 = 1)) :=
   Ed.and (Ed.eq (Ev.loc L.c4) (Ev.glob rfl)) fun Z => Ed.or (Ed.cne (Ev.loc L.c6) (Ev.loc L.c7) (cmp_neL h6 h7)) fun Z => Ed.eq (Ev.mod (Ev.div (Ev.loc L.c3) Ev.con (by decide)) Ev.con (by decide)) Ev.con
 refine Wc.stg (fun ρ' H' => ρ' = ρ ∧ ∃ w' t', WR A H' (las ++ [la]) w' ∧ Sync e (os ++ [t]) t' w' ∧ FrW A H6 H' ∧ w'.labels = w.labels ++ [X] ∧ w'.first = w.first ∧ w'.bud ≤ w.bud + 20 ∧ w'.at_ + 4 * w'.left ≤ w.at_ + 4 * w.left + 2 ∧ (w'.live = true → w'.stack = w'.stack.take w.stack.length ++ rr) ∧ t'.height = w.stack.length ∧ t'.res = rr ∧ (t'.code = 4 → t'.par = t'.res)) ?_ (fun ρ7 H7 I => ?_)
 · refine Wc.ifP hd (fun g => ?_) (fun g => ?_)
   · refine block_else hN m hL L hwl r6 S6 (lab6.trans lz) (by rw [fi6]; exact K) B lz' (by lia) (by lia) hp2 hr h6 n6 h7 n7 g.1 rfl rfl top6 fun H' w' t' r' S' f' lab' fi' b' a' top' ht' hr' hc' => ?_
     exact ⟨rfl, rfl, w', t', r', S', f', lab'.trans lab6, fi'.trans fi6, by lia, by lia, top', ht', hr', fun z => by rw [hc'] at z; cases z⟩
   · exact Wc.nil ⟨rfl, rfl, w6, _, r6, S6, FrW.refl _ _, lab6, fi6, by lia, by lia, top6, rfl, rfl, fun z => Classical.byContradiction fun h => g ⟨z, .inl h⟩⟩
 obtain ⟨rfl, w7, t7, r7, S7, f7, lab7, fi7, b7, a7', top7, ht7, hrr7, hc7⟩ := I
 exact block_end hN L hwl ((f5.trans f6).trans f7) r.fr r7 S7 lab7 fi7 b7 hb a7' top7 ht7 hrr7 hc7 (own_keep f7 r6 h7 n7) n7 hr2 hst q
theorem list_all (hN : 2000000 ≤ N) : ∀ n : Nat, n ≤ 10 → ∀ d : Nat, ListP N (d + 2 * n + 4) n
 | 0, _, d => list_step hN 0 (by decide) (fun h => absurd h (by decide))
 | n + 1, h, d => list_step (d := d + 2 * n + 2) hN (n + 1) h fun Z => block_step (d := d + 2 * n) hN n (list_all hN n (by lia) d)
end
end
section
theorem wS_try {P : Code} {C : Bool → Orc} {N : Nat} {ρ : Loc} {H : MH} {QS : MFlow → Loc → MH → Prop} {E : MExc → MH → Prop} {b h : List CS} {x : Nat}
   (hb : (mSs P C N b true ρ H).wp QS (fun e H => ∀ ρ', ∃ f ρ'' H'', mSs P C N h false (upd ρ' x (.ref (H.length + 1))) (H ++ [.dict false [(.str P.excK.1, e.why), (.str P.excK.2.1, e.fn), (.str P.excK.2.2, e.at_)], .inst P.excC H.length]) = .ok f ρ'' H'' ∧ QS f (fun Z => none) H'')) :
   (mS P C N (.try b x h) true ρ H).wp QS E := by
 revert hb
 show _ → (match mSs P C N b true ρ H with | .exc e ρ H => (mSs P C N h false (upd ρ x (.ref (H.length + 1))) (H ++ [.dict false [(.str P.excK.1, e.why), (.str P.excK.2.1, e.fn), (.str P.excK.2.2, e.at_)], .inst P.excC H.length])).calm | .ok f ρ H => .ok f ρ H | .bad => .bad : RS).wp QS E
 cases mSs P C N b true ρ H with
 | bad => exact fun h => h
 | ok f ρ' H' => exact fun h => h
 | exc e ρ' H' =>
   refine fun hb => ?_
   obtain ⟨f, ρ'', H'', h1, h2⟩ := hb ρ'
   show (RS.calm (mSs P C N h false (upd ρ' x (.ref (H'.length + 1))) _)).wp QS E
   rw [h1]
   exact h2
theorem ret_ok {P : Code} {C : Bool → Orc} {N : Nat} {ρ : Loc} {H H' : MH} {rz : Bool} {e : CE} {v : MV} (h : mE P (C rz) rz e ρ H = .ok v H') : mSs P C N [.ret e] rz ρ H = .ok (.ret v) ρ H' := by
 show ((mE P (C rz) rz e ρ H).then ρ _).seq _ = _
 rw [h]; rfl
section
variable {N d : Nat} {H : MH} {Q : MV → MH → Prop} {E : MExc → MH → Prop}
theorem new_func {a body : Nat} {lo : List Int} (q : Q (.ref (H.length + 1)) (H ++ [.dict false [(.str 57, .int a), (.str 46, .tup (il lo)), (.str 58, .ref body)], .inst 4 H.length])) :
   (mNew tb.P (mCall tb.P FF N (d + 1) true) 4 [.int a, .tup (il lo), .ref body] H).wp Q E := by
 refine R.wp_new (by decide) rfl (W_call rfl rfl ?_)
 simp only [Nat.reduceAdd]
 iterate 3 refine Wc.setA (Ev.loc rfl) (Ev.loc rfl) (setA_new rfl (by decide) (nle rfl)) ?_
 exact Wc.nil ⟨rfl, q⟩
theorem attr_exc {i j c k : Nat} {es : List (MV × MV)} {v : MV} (h1 : H[i]? = some (.inst c j)) (h2 : H[j]? = some (.dict false es)) (h3 : tb.P.meth c k = none) (h5 : dGet (.str k) es = some v) : mAttr tb.P H (.ref i) k = .ok v H := optR_eq (bind_eq (ins_eq h1) (bind_eq (dcw_eq h2) ((if_pos h3).trans h5)))
noncomputable def Heard (H : MH) (r : PC) (Q : MV → MH → Prop) : Prop := match r with
 | .ok hs => ∀ H' i, Fr0 H H' → H'[i]? = some (.list false (hs.map hMV)) → Q (.ref i) H'
 | .fail w n => ∀ H' i, Fr0 H H' → H'[i]? = some (.list false [.str w, .int 0, .int n]) → Q (.ref i) H'
 | .big => False
theorem envL_03 (own : Nat) : EnvL (env03 own) := ⟨fun k m => by
   have : kinds03.all (fun k => Nat.ble k.1.length lim && Nat.ble k.2.length lim) = true := rfl
   have := Bool.and_eq_true_iff.mp (List.all_eq_true.mp this k m)
   exact ⟨nle this.1, nle this.2⟩, by
   show (kk own).2.length ≤ lim
   rcases own with _ | _ | _ | own <;> exact nle rfl⟩
theorem heard_spec (hN : 2000000 ≤ N) {own bd : Nat} {fz : Bool} {B : List (List Int)} (ho : own < 4) (h0 : H[0]? = some (.dict true knD)) (hb : H[bd]? = some (.list fz (insMV B))) (hB : B.length ≤ lim) (hB2 : ∀ x ∈ B, x.length ≤ lim) (q : Heard H (coreP (env03 own) B) Q) :
   (mCall tb.P FF N (d + 11) true 50 [.int (own : Nat), .ref bd] H).wp Q E := by
 refine w_call rfl rfl ?_
 simp only [Nat.reduceAdd]
 refine wSs_cons (wS_try ?_)
 refine wSs_cons (wS_ret (wE_callF (wEs_cons (Ee.tolist (Ev.glob glob13) rfl (nle rfl) (wEs_cons (Ee.list (Evs.cons (Ev.loc rfl) (Evs.cons Ev.con (Evs.cons Ev.con (Evs.cons Ev.con (Evs.one Ev.con))))) (nle rfl)
   (wEs_cons (wE_con (wEs_cons (Ee.callC (Evs.cons (Ev.loc rfl) (Evs.cons (Evs.tup (vs := [.int (-1), .int (-2)]) rfl (nle rfl)) (Evs.one (Ev.loc rfl)))) (new_func (a := own) (lo := [-1, -2]) (wEs_nil ?_))))))))))))
 generalize hH : (H ++ [MObj.list false (kinds03.map kindMV)] ++ [MObj.list false [.int (own : Int), .int 0, .int 1, .int 2, .int 3]]) ++ [.dict false [(.str 57, .int (own : Int)), (.str 46, .tup (il [-1, -2])), (.str 58, .ref bd)], .inst 4 (H ++ [MObj.list false (kinds03.map kindMV)] ++ [MObj.list false [.int (own : Int), .int 0, .int 1, .int 2, .int 3]]).length] = H1
 have f1 : Fr0 H H1 := by rw [← hH]; exact (fr0_app.trans fr0_app).trans fr0_app
 have g1 : H1[H.length]? = some (.list false (kinds03.map kindMV)) := by rw [← hH]; simp
 have g2 : H1[(H ++ [MObj.list false (kinds03.map kindMV)]).length]? = some (.list false (il [(own : Int), 0, 1, 2, 3])) := by rw [← hH]; simp [il]
 have g3 : H1[(H ++ [MObj.list false (kinds03.map kindMV)] ++ [MObj.list false [.int (own : Int), .int 0, .int 1, .int 2, .int 3]]).length + 1]? = some (.inst 4 (H ++ [MObj.list false (kinds03.map kindMV)] ++ [MObj.list false [.int (own : Int), .int 0, .int 1, .int 2, .int 3]]).length) := by rw [← hH]; exact app_new1
 have g4 : H1[(H ++ [MObj.list false (kinds03.map kindMV)] ++ [MObj.list false [.int (own : Int), .int 0, .int 1, .int 2, .int 3]]).length]? = some (.dict false [(.str 57, .int (own : Int)), (.str 46, .tup (il [-1, -2])), (.str 58, .ref bd)]) := by rw [← hH]; exact app_new
 clear hH
 refine core_spec (e := env03 own) (kind := (own : Int)) (k := kk own) (lo := [-1, -2]) (B := B) hN (envL_03 own) g1 g2 (f1.keep _ _ h0) g3 g4 (f1.keep _ _ hb) ⟨by lia, by show (own : Int) < 4; lia⟩ ?_ rfl rfl ?_ hB hB2 ?_
 · rw [Int.toNat_natCast]
   show [kk 0, kk 1, kk 2, kk 3][own]? = _
   rcases own with _ | _ | _ | _ | own <;> first | lia | rfl
 · show ((kk own).1 ++ [-1, -2]).length ≤ lim
   rcases own with _ | _ | _ | own <;> exact nle rfl
 · generalize coreP (env03 own) B = r at q
   cases r with
   | ok hs =>
     intro H' i fr hi _
     exact q H' i (f1.trans fr) hi
   | big => exact q
   | fail why n =>
     intro H' fr ρ'
     have l1 : (H' ++ [MObj.dict false [(.str tb.P.excK.1, .str why), (.str tb.P.excK.2.1, .int 0), (.str tb.P.excK.2.2, .int n)], .inst tb.P.excC H'.length])[H'.length + 1]? = some (.inst 1 H'.length) := app_new1
     have l2 : (H' ++ [MObj.dict false [(.str tb.P.excK.1, .str why), (.str tb.P.excK.2.1, .int 0), (.str tb.P.excK.2.2, .int n)], .inst tb.P.excC H'.length])[H'.length]? = some (.dict false [(.str 5, .str why), (.str 6, .int 0), (.str 7, .int n)]) := app_new
     have fr2 : Fr0 H' (H' ++ [MObj.dict false [(.str tb.P.excK.1, .str why), (.str tb.P.excK.2.1, .int 0), (.str tb.P.excK.2.2, .int n)], .inst tb.P.excC H'.length]) := fr0_app
     show ∃ f ρ'' H'', mSs tb.P _ N _ false (upd ρ' 2 (.ref (H'.length + 1))) (H' ++ [MObj.dict false [(.str tb.P.excK.1, .str why), (.str tb.P.excK.2.1, .int 0), (.str tb.P.excK.2.2, .int n)], .inst tb.P.excC H'.length]) = .ok f ρ'' H'' ∧ _
     generalize H' ++ [MObj.dict false [(.str tb.P.excK.1, .str why), (.str tb.P.excK.2.1, .int 0), (.str tb.P.excK.2.2, .int n)], .inst tb.P.excC H'.length] = H2 at l1 l2 fr2
     have a5 := attr_exc (k := 5) (v := .str why) l1 l2 rfl rfl
     have a6 := attr_exc (k := 6) (v := .int 0) l1 l2 rfl rfl
     have a7 := attr_exc (k := 7) (v := .int n) l1 l2 rfl rfl
     refine ⟨.ret (.ref H2.length), upd ρ' 2 (.ref (H'.length + 1)), H2 ++ [.list false [.str why, .int 0, .int n]], ?_, q _ _ ((f1.trans fr).trans (fr2.trans fr0_app)) app_new⟩
     exact ret_ok (rb (rb (rb rfl a5) (rb (rb (rb rfl a6) (rb (rb (rb rfl a7) rfl) rfl)) rfl)) rfl)
end
end
section
section
variable {N d : Nat} {H : MH} {Q : MV → MH → Prop} {E : MExc → MH → Prop}
theorem prim_refl {a : MV} (h : prim a = true) : primEq a a = true := by
 cases a with
 | none => rfl
 | int i => exact beq_self_eq_true i
 | str i => exact beq_self_eq_true i
 | _ => exact nomatch h
theorem prims_refl {l : List MV} : l.all prim = true → primsEq l l = true := by
 induction l with
 | nil => exact fun Z => rfl
 | cons a l ih =>
   intro h
   rw [List.all_cons, Bool.and_eq_true] at h
   show (primEq a a && primsEq l l) = true
   rw [prim_refl h.1, ih h.2]; rfl
theorem cmp_same {i j : Nat} {fz fz' : Bool} {l : List MV} (h1 : H[i]? = some (.list fz l)) (h2 : H[j]? = some (.list fz' l)) (h : l.all prim = true) : mComp H .eq (.ref i) (.ref j) = some true ∧ mComp H .ne (.ref i) (.ref j) = some false := by
 have e : mComp H .eq (.ref i) (.ref j) = some true := bind_eq (bind_eq (lst_eq h1) (if_pos h)) (map_eq (bind_eq (lst_eq h2) (if_pos h)) (prims_refl h))
 exact ⟨e, map_eq e rfl⟩
theorem prims_h : ∀ l : List (Option Nat), (l.map hMV).all prim = true
 | [] => rfl
 | none :: l => prims_h l
 | some _ :: l => prims_h l
theorem w_slTo {i : Nat} {fz : Bool} {l : List MV} {k : Nat} (h : H[i]? = some (.list fz l)) (hk : k ≤ l.length) (hl : l.length ≤ 100000) (q : Q (.ref H.length) (H ++ [.list false (l.take k)])) : (mSlTo H (.ref i) (.int (k : Nat))).wp Q E := by
 exact wp_opt (bind_eq rfl (bind_eq (lst_eq h) (if_pos ⟨Int.natCast_nonneg k, Int.ofNat_le.mpr (Nat.le_trans hk (Nat.le_trans hl (nle rfl)))⟩))) <| w_newList (by rw [List.length_take]; exact Nat.le_trans (Nat.min_le_right _ _) (Nat.le_trans hl (nle rfl))) q
theorem w_slFrom {i : Nat} {fz : Bool} {l : List MV} {k : Nat} (h : H[i]? = some (.list fz l)) (hk : k ≤ l.length) (hl : l.length ≤ 100000) (q : Q (.ref H.length) (H ++ [.list false (l.drop k)])) : (mSlFrom H (.ref i) (.int (k : Nat))).wp Q E := by
 exact wp_opt (bind_eq rfl (bind_eq (lst_eq h) (if_pos ⟨Int.natCast_nonneg k, Int.ofNat_le.mpr hk⟩))) <| w_newList (by rw [List.length_drop]; exact Nat.le_trans (Nat.sub_le _ _) (Nat.le_trans hl (nle rfl))) q
theorem cut_in {a b : List MV} {x : MV} {i : Nat} {P : Code} {C : Orc} {ρ : Loc} {s l : Nat} {fz : Bool} {m : CE} (hs : ρ s = some (.ref i)) (hl : ρ l = some (.int (a.length : Nat))) (hi : H[i]? = some (.list fz (a ++ b))) (hz : (a ++ b).length ≤ 50000)
   (hm : ∀ {H : MH} {Q : MV → MH → Prop}, Q (.ref H.length) (H ++ [.list false [x]]) → (mE P C true m ρ H).wp Q E) (q : ∀ H' j, Fr0 H H' → H'[j]? = some (.list false (a ++ x :: b)) → Q (.ref j) H') :
   (mE P C true (.bin .add (.bin .add (.slTo (.loc s) (.loc l)) m) (.slFrom (.loc s) (.loc l))) ρ H).wp Q E := by
 have hz' : a.length + b.length ≤ 50000 := by rw [← List.length_append]; exact hz
 refine wE_bin (wE_bin (wE_slTo (wE_loc hs (wE_loc hl (w_slTo hi (by simp) (by lia) ?_)))))
 rw [List.take_left' rfl]
 refine hm ?_
 refine w_cat (a := a) (b := [x]) (app_get app_new) app_new (by rw [List.length_singleton]; unfold sizeL; lia) ?_
 refine wE_slFrom (wE_loc hs (wE_loc hl (w_slFrom (app_get (app_get (app_get hi))) (by simp) (by lia) ?_)))
 rw [List.drop_left' rfl]
 refine w_cat (a := a ++ [x]) (b := b) (app_get app_new) app_new (by rw [List.length_append, List.length_singleton]; unfold sizeL; lia) ?_
 refine q _ _ ((((fr0_app.trans fr0_app).trans fr0_app).trans fr0_app).trans fr0_app) ?_
 rw [app_new]
 simp
end
end
section
noncomputable def resL : PC → List MV
 | .ok hs => hs.map hMV
 | .fail w n => [.str w, .int 0, .int n]
 | .big => []
theorem prims_res (r : PC) : (resL r).all prim = true := by
 cases r with
 | ok hs => exact prims_h hs
 | fail w n => rfl
 | big => rfl
theorem small_res {own : Nat} (h : own < 4) : smallR (kk own).2 := by
 rcases own with _ | _ | _ | _ | own
 · exact .inl rfl
 · exact .inr (.inl rfl)
 · exact .inr (.inr rfl)
 · exact .inr (.inl rfl)
 · lia
section
variable {N d : Nat} {H : MH} {Q : MV → MH → Prop} {E : MExc → MH → Prop}
theorem heard2 (hN : 2000000 ≤ N) {own bd : Nat} {fz : Bool} {B : List (List Int)} (ho : own < 4) (h0 : H[0]? = some (.dict true knD)) (hb : H[bd]? = some (.list fz (insMV B))) (hB : B.length ≤ 50000) (hB2 : ∀ x ∈ B, x.length ≤ 10) (hbig : coreP (env03 own) B ≠ .big)
   (q : ∀ H' i, Fr0 H H' → H'[i]? = some (.list false (resL (coreP (env03 own) B))) → Q (.ref i) H') : (mCall tb.P FF N (d + 11) true 50 [.int (own : Nat), .ref bd] H).wp Q E := by
 refine heard_spec hN ho h0 hb (by unfold lim; lia) (fun x m => by have := hB2 x m; unfold lim; lia) ?_
 generalize coreP (env03 own) B = r at hbig q
 cases r with
 | ok hs => exact q
 | fail w n => exact q
 | big => exact absurd rfl hbig
noncomputable def w03 (own : Nat) : W := ⟨[], true, [], [], [(kk own).2], 12, (kk own).1.length, 1⟩
theorem sync03 {own : Nat} (ho : own < 4) : Sync (env03 own) [] (fblk (env03 own)) (w03 own) where
 run := rfl
 fl := fun b m => by rw [List.mem_singleton.mp m]; exact ⟨rfl, rfl⟩
 lab := rfl
 ht := Nat.le_refl _
 two := fun k m => nomatch m
 labs := fun l m => by rw [List.mem_singleton.mp m]; exact (kk_small ho).2
 deep := Nat.le_refl _
 par := fun b m => by
   rw [List.mem_singleton.mp m]
   exact ⟨Nat.zero_le _, (kk_small ho).2.1, fun k m => (nomatch m), (kk_small ho).2.2⟩
theorem envK03 {own : Nat} (ho : own < 4) : EnvK (env03 own) (kk own).1.length where
 loc := fun x => by
   show ((kk own).1 ++ [-1, -2])[(kk own).1.length + x % 2]? = some (num2 x)
   rw [List.getElem?_append_right (Nat.le_add_right _ _), Nat.add_sub_cancel_left]
   unfold num2
   split
   · rename_i h; rw [h]; rfl
   · rename_i h; rw [show x % 2 = 1 by lia]; rfl
 fun_ := fun k hk => by
   rcases k with _ | _ | _ | _ | k
   · exact ⟨rfl, rfl⟩
   · exact ⟨rfl, rfl⟩
   · exact ⟨rfl, rfl⟩
   · exact ⟨rfl, rfl⟩
   · lia
 res := ⟨own, ho, rfl⟩
theorem envB03 {own : Nat} : EnvB (env03 own) := fun m hm => by
 simp only [marks, List.mem_cons, List.not_mem_nil, or_false] at hm
 rcases hm with rfl | rfl | rfl | rfl | rfl | rfl | rfl <;> rfl
end
end
section
section
variable {N d : Nat} {H : MH}
theorem Ee.cmpE {E : MExc → MH → Prop} {ρ : Loc} {op : COp} {a b : CE} {Q : MV → MH → Prop} (h : Ee N d E ρ H a fun u H' => ∃ w k, Ev N d ρ H' b w ∧ mComp H' op u w = some k ∧ Q (.bool k) H') : Ee N d E ρ H (.cmp a [op] [b]) Q :=
 wE_cmp (R.wp_mono h (fun u H' h => by obtain ⟨w, k, hb, hc, q⟩ := h; exact wC_one (Ee.v hb ⟨k, hc, q⟩)) fun Z Z h => h)
theorem Ee.callF2 {E : MExc → MH → Prop} {ρ : Loc} {f : Nat} {a b : CE} {v : MV} {Q : MV → MH → Prop} (ha : Ev N d ρ H a v) (h : Ee N d E ρ H b fun x H' => (mCall tb.P FF N d true f [v, x] H').wp Q E) : Ee N d E ρ H (.callF f [a, b]) Q :=
 wE_callF (wEs_cons (Ee.v ha (wEs_cons (R.wp_mono h (fun Z Z h => wEs_nil h) fun Z Z h => h))))
structure LwT (own : Nat) (w3 : W) (h : Option Nat) (j10 j11 : Nat) (ρ : Loc) (H : MH) : Prop where
 c4 : ρ 4 = some (.ref 4)
 c8 : ρ 8 = some (.int (w3.body.length : Nat))
 c9 : ρ 9 = some (hMV h)
 c10 : ρ 10 = some (.ref j10)
 c11 : ρ 11 = some (.ref j11)
 h4 : H[4]? = some (.list false (il (env03 own).res))
 h10 : H[j10]? = some (.list false [.str 50, .int 0, .int ((w3.body.length + 1 : Nat) : Int)])
 h11 : H[j11]? = some (.list false (w3.heights.map hMV ++ .none :: [hMV h]))
 top : w3.live = true → w3.stack = (env03 own).res
 hh : (if w3.live = true then some w3.stack.length else none) = h
theorem LwT.dead {own : Nat} {w3 : W} {j10 j11 : Nat} {ρ : Loc} (I : LwT own w3 none j10 j11 ρ H) : H[j11]? = some (.list false ((w3.heights ++ [none, none]).map hMV)) := by
 have e : w3.heights.map hMV ++ .none :: [hMV none] = (w3.heights ++ [none, none]).map hMV := by rw [List.map_append]; rfl
 rw [← e]; exact I.h11
theorem less_ee {own : Nat} {w3 : W} {h : Option Nat} {j10 j11 : Nat} {ρ : Loc} {E : MExc → MH → Prop} {Q : MV → MH → Prop} (S3 : Sync (env03 own) [] (fblk (env03 own)) w3) (hsr : smallR (env03 own).res) (I : LwT own w3 h j10 j11 ρ H)
   (q : ∀ H' a, Fr0 H H' → H'[a]? = some (.list false (resL (coreP (env03 own) (w3.body ++ [[26], [11]])))) → Q (.ref a) H') :
   Ee N d E ρ H (.ite (.cmp (.loc 9) [.is] [.con .none]) (.loc 11) (.ite (.cmp (.loc 9) [.gt] [.con (.int 0)]) (.loc 10) (.list [.con (.str 50), .con (.int 0), .loc 8]))) Q := by
 have efd := fin_drop S3 hsr I.top
 have hh := I.hh
 cases hl : w3.live with
 | true =>
   rw [hl, if_pos rfl] at hh efd
   subst hh
   have c9 : ρ 9 = some (.int (w3.stack.length : Nat)) := I.c9
   have hst := I.top hl
   refine wE_ite (Ee.v (Ev.cmp (Ev.loc c9) Ev.con rfl) (wE_ite (Ee.dec (Ed.gt (Ev.loc c9) Ev.con) (fun g => ?_) (fun g => ?_))))
   · refine Ee.v (Ev.loc I.c10) (q _ _ (Fr0.refl _) ?_)
     rw [efd, if_neg (fun z => by rw [hst, z] at g; exact absurd g (by decide))]
     exact I.h10
   · refine Ee.list (Evs.cons Ev.con (Evs.cons Ev.con (Evs.one (Ev.loc I.c8)))) (nle rfl) (q _ _ fr0_app ?_)
     rw [efd, if_pos (List.eq_nil_of_length_eq_zero (by rw [← hst]; lia))]
     exact app_new
 | false =>
   rw [hl, if_neg (by decide)] at hh efd
   subst hh
   refine wE_ite (Ee.v (Ev.cmp (Ev.loc I.c9) Ev.con rfl) (Ee.v (Ev.loc I.c11) (q _ _ (Fr0.refl _) ?_)))
   rw [efd]; exact I.dead
theorem more_ee {own : Nat} {w3 : W} {h : Option Nat} {j10 j11 : Nat} {ρ : Loc} {E : MExc → MH → Prop} {Q : MV → MH → Prop} (S3 : Sync (env03 own) [] (fblk (env03 own)) w3) (hsr : smallR (env03 own).res) (I : LwT own w3 h j10 j11 ρ H)
   (q : ∀ H' a, Fr0 H H' → H'[a]? = some (.list false (resL (coreP (env03 own) (w3.body ++ [[65, 7], [11]])))) → Q (.ref a) H') :
   Ee N d E ρ H (.ite (.bool true [.cmp (.loc 9) [.is] [.con .none], .cmp (.loc 4) [.ne] [.list []], .cmp (.sub (.loc 4) (.con (.int (-1)))) [.eq] [.con (.int (-1))]]) (.loc 11) (.loc 10)) Q := by
 have efm := fin_more S3 hsr I.top
 have hh := I.hh
 cases hl : w3.live with
 | true =>
   rw [hl, if_pos rfl] at hh
   rw [hl, if_neg (fun z => by cases z.1)] at efm
   subst hh
   have c9 : ρ 9 = some (.int (w3.stack.length : Nat)) := I.c9
   refine wE_ite (wE_bool (wB_and (Ee.v (Ev.cmp (Ev.loc c9) Ev.con rfl) (Ee.v (Ev.loc I.c10) (q _ _ (Fr0.refl _) ?_)))))
   rw [efm]; exact I.h10
 | false =>
   rw [hl, if_neg (by decide)] at hh
   rw [hl] at efm
   subst hh
   refine wE_ite (wE_bool (wB_and (Ee.v (Ev.cmp (Ev.loc I.c9) Ev.con rfl) (wB_and (wE_cmp (wE_loc I.c4 (wC_one (Ee.list Evs.nil (Nat.zero_le _) ⟨_, cmp_neL (a := (env03 own).res) (b := []) (app_get I.h4) app_new, tv_ndec (fun g => ?_) (fun g => ?_)⟩))))))))
   · have hk : ∃ k, (env03 own).res = [] ++ [k] := by
       rcases hsr with q | q | q
       · exact absurd q g
       · exact ⟨_, q⟩
       · exact ⟨_, q⟩
     obtain ⟨k, hk⟩ := hk
     have h4' := app_get (l := [.list false []]) I.h4
     rw [hk] at h4'
     have hd : Ed N d ρ (H ++ [.list false []]) (.cmp (.sub (.loc 4) (.con (.int (-1)))) [.eq] [.con (.int (-1))]) (k = -1) := Ed.eq (Ev.sub (Ev.loc I.c4) Ev.con (sub_last h4')) Ev.con
     by_cases z : k = -1
     · refine wB_and (Ee.v (hd.1 z) (tv_true (wB_nil (tv_true (Ee.v (Ev.loc I.c11) (q _ _ fr0_app ?_))))))
       rw [efm, if_pos ⟨rfl, by rw [hk, z]; rfl⟩]
       exact app_get I.dead
     · refine wB_and (Ee.v (hd.2 z) (Ee.v (Ev.loc I.c10) (q _ _ fr0_app ?_)))
       rw [efm, if_neg (fun q => by have := q.2; rw [hk] at this; cases this; exact z rfl)]
       exact app_get I.h10
   · refine Ee.v (Ev.loc I.c10) (q _ _ fr0_app ?_)
     rw [efm, if_neg (fun q => by have := q.2; rw [g] at this; cases this)]
     exact app_get I.h10
theorem heard_cut (hN : 2000000 ≤ N) {own bd : Nat} {ρ : Loc} {E : MExc → MH → Prop} {Q : MV → MH → Prop} {bs : List (List Int)} {op : List Int} {es : List CE} (ho : own < 4) (c2 : ρ 2 = some (.int (own : Nat))) (c6 : ρ 6 = some (.ref bd)) (c8 : ρ 8 = some (.int (bs.length : Nat))) (kn : H[0]? = some (.dict true knD)) (rbd : H[bd]? = some (.list false (insMV bs ++ [.tup (il [11])])))
   (hbl : bs.length ≤ 1300) (rsm : ∀ x ∈ bs, x.length ≤ 10) (hop : op.length ≤ 10) (hes : ∀ {H : MH}, Evs N (d + 11) ρ H es (il op)) (hbig : coreP (env03 own) (bs ++ [op, [11]]) ≠ .big)
   (q : ∀ H' i, Fr0 H H' → H'[i]? = some (.list false (resL (coreP (env03 own) (bs ++ [op, [11]])))) → Q (.ref i) H') :
   Ee N (d + 11) E ρ H (.callF 50 [.loc 2, .bin .add (.bin .add (.slTo (.loc 6) (.loc 8)) (.list [.tup es])) (.slFrom (.loc 6) (.loc 8))]) Q := by
 have lbd : (insMV bs).length = bs.length := List.length_map _
 have eins : insMV bs ++ MV.tup (il op) :: [MV.tup (il [11])] = insMV (bs ++ [op, [11]]) := by simp [insMV]
 have hz2 : (insMV bs ++ [MV.tup (il [11])]).length ≤ 50000 := by rw [List.length_append, lbd]; show _ + 1 ≤ _; lia
 refine Ee.callF2 (Ev.loc c2) (cut_in (s := 6) (l := 8) (a := insMV bs) (b := [.tup (il [11])]) (x := .tup (il op)) c6 (by rw [lbd]; exact c8) rbd hz2
   (fun q => Ee.list (Evs.one (Ev.op hes hop)) (nle rfl) q) fun H12 j12 fr hj => ?_)
 rw [eins] at hj
 refine heard2 hN ho (fr.keep _ _ kn) hj (by rw [List.length_append]; show _ + 2 ≤ _; lia) (fun x m => ?_) hbig fun H13 i13 fr2 hi => q _ _ (fr.trans fr2) hi
 simp only [List.mem_append, List.mem_cons, List.not_mem_nil, or_false] at m
 rcases m with m | rfl | rfl
 · exact rsm x m
 · exact hop
 · exact nle rfl
theorem law_rest (hN : 2000000 ≤ N) {own bd hs : Nat} {w3 : W} {h : Option Nat} {ρ : Loc} (ho : own < 4) (S3 : Sync (env03 own) [] (fblk (env03 own)) w3) (hsr : smallR (env03 own).res) (top : w3.live = true → w3.stack = (env03 own).res) (hh : (if w3.live = true then some w3.stack.length else none) = h) (hbl : w3.body.length ≤ 1300) (rsm : ∀ x ∈ w3.body, x.length ≤ 10) (hlen : w3.heights.length = w3.body.length)
   (kn : H[0]? = some (.dict true knD)) (rbd : H[bd]? = some (.list false (insMV w3.body ++ [.tup (il [11])]))) (rhs : H[hs]? = some (.list false (w3.heights.map hMV ++ [hMV h]))) (h4 : H[4]? = some (.list false (il (env03 own).res)))
   (c2 : ρ 2 = some (.int (own : Nat))) (c4 : ρ 4 = some (.ref 4)) (c6 : ρ 6 = some (.ref bd)) (c7 : ρ 7 = some (.ref hs)) (c8 : ρ 8 = some (.int (w3.body.length : Nat))) (c9 : ρ 9 = some (hMV h)) :
   Wc N (d + 11) (Qc fun v Z => v = .bool true) (fun Z Z => False) [.ifs (.cmp (.callF 50 [.loc 2, .callB .list (.loc 6)]) [.ne] [.loc 7]) [.ret (.con (.bool false))] [],
     .asgT [10, 11] (.tup [.list [.con (.str 50), .con (.int 0), .bin .add (.loc 8) (.con (.int 1))], .bin .add (.bin .add (.slTo (.loc 7) (.loc 8)) (.list [.con .none])) (.slFrom (.loc 7) (.loc 8))]),
     .asg 12 (.ite (.cmp (.loc 9) [.is] [.con .none]) (.loc 11) (.ite (.cmp (.loc 9) [.gt] [.con (.int 0)]) (.loc 10) (.list [.con (.str 50), .con (.int 0), .loc 8]))),
     .asg 13 (.ite (.bool true [.cmp (.loc 9) [.is] [.con .none], .cmp (.loc 4) [.ne] [.list []], .cmp (.sub (.loc 4) (.con (.int (-1)))) [.eq] [.con (.int (-1))]]) (.loc 11) (.loc 10)),
     .ifs (.cmp (.callF 50 [.loc 2, .bin .add (.bin .add (.slTo (.loc 6) (.loc 8)) (.list [.tup [.con (.int 26)]])) (.slFrom (.loc 6) (.loc 8))]) [.ne] [.loc 12]) [.ret (.con (.bool false))] [],
     .ret (.cmp (.callF 50 [.loc 2, .bin .add (.bin .add (.slTo (.loc 6) (.loc 8)) (.list [.tup [.con (.int 65), .con (.int 7)]])) (.slFrom (.loc 6) (.loc 8))]) [.eq] [.loc 13])] ρ H := by
 have ec := fin_ok S3 top
 rw [hh] at ec
 have lbd : (insMV w3.body).length = w3.body.length := List.length_map _
 have lhs : (w3.heights.map hMV).length = w3.body.length := by rw [List.length_map]; exact hlen
 have ebd : insMV w3.body ++ [.tup (il [11])] = insMV (w3.body ++ [[11]]) := by simp [insMV]
 have ehs : w3.heights.map hMV ++ [hMV h] = (w3.heights ++ [h]).map hMV := by simp
 have efd := fin_drop S3 hsr top
 have efm := fin_more S3 hsr top
 have big1 : coreP (env03 own) (w3.body ++ [[26], [11]]) ≠ .big := by rw [efd]; split <;> (intro q; cases q)
 have big2 : coreP (env03 own) (w3.body ++ [[65, 7], [11]]) ≠ .big := by rw [efm]; split <;> (intro q; cases q)
 refine Wc.ifs (Ee.cmpE (Ee.callF2 (Ev.loc c2) (Ee.tolist (Ev.loc c6) (seqL rbd) (by rw [List.length_append, lbd]; show _ + 1 ≤ _; unfold sizeL; lia) (heard2 hN ho (app_get kn) (by rw [← ebd]; exact app_new) (by rw [List.length_append]; show _ + 1 ≤ _; lia) (fun x m => ?_) (by rw [ec]; intro q; cases q) fun H6 i6 fr hi => ?_))))
 · rcases List.mem_append.mp m with m | m
   · exact rsm x m
   · rw [List.mem_singleton.mp m]; exact nle rfl
 rw [ec] at hi
 replace hi : H6[i6]? = some (.list false ((w3.heights ++ [h]).map hMV)) := hi
 replace rhs := fr.keep _ _ (app_get rhs)
 refine ⟨_, _, Ev.loc c7, (cmp_same hi (ehs ▸ rhs) (prims_h _)).2, ?_⟩
 replace kn := fr.keep _ _ (app_get kn)
 replace rbd := fr.keep _ _ (app_get rbd)
 replace h4 := fr.keep _ _ (app_get h4)
 clear hi fr ec
 refine Wc.asgT (wE_tup (wEs_cons (Ee.list (Evs.cons Ev.con (Evs.cons Ev.con (Evs.one (Ev.add (Ev.loc c8) Ev.con)))) (nle rfl) (wEs_cons (cut_in (s := 7) (l := 8) (a := w3.heights.map hMV) (b := [hMV h]) (x := .none) c7 (by rw [lhs]; exact c8) (app_get rhs) (by rw [List.length_append, lhs]; show _ + 1 ≤ _; lia)
   (fun q => Ee.list (Evs.one Ev.con) (nle rfl) q) fun H8 j8 fr h11 => wEs_nil (w_newTup (by exact nle rfl) ⟨_, rfl, ?_⟩))))))
 have h10 := fr.keep _ _ (app_new (H := H6) (l := []))
 replace kn := fr.keep _ _ (app_get kn)
 replace rbd := fr.keep _ _ (app_get rbd)
 have I : LwT own w3 h H6.length j8 (upd (upd ρ 10 (.ref H6.length)) 11 (.ref j8)) H8 := ⟨c4, c8, c9, rfl, rfl, fr.keep _ _ (app_get h4), h10, h11, top, hh⟩
 have d2 : (upd (upd ρ 10 (.ref H6.length)) 11 (.ref j8)) 2 = some (.int (own : Nat)) := c2
 have d6 : (upd (upd ρ 10 (.ref H6.length)) 11 (.ref j8)) 6 = some (.ref bd) := c6
 clear c2 c4 c6 c7 c8 c9 rhs fr h4 h10 h11
 generalize upd (upd ρ 10 (.ref H6.length)) 11 (.ref j8) = ρ1 at I d2 d6
 refine Wc.asg (less_ee S3 hsr I fun H9 a fr h12 => ?_)
 have I9 : LwT own w3 h H6.length j8 (upd ρ1 12 (.ref a)) H9 := ⟨I.c4, I.c8, I.c9, I.c10, I.c11, fr.keep _ _ I.h4, fr.keep _ _ I.h10, fr.keep _ _ I.h11, top, hh⟩
 refine Wc.asg (more_ee S3 hsr I9 fun H10 b fr2 h13 => ?_)
 replace kn := (fr.trans fr2).keep _ _ kn
 replace rbd := (fr.trans fr2).keep _ _ rbd
 replace h12 := fr2.keep _ _ h12
 have e2 : (upd (upd ρ1 12 (.ref a)) 13 (.ref b)) 2 = some (.int (own : Nat)) := d2
 have e6 : (upd (upd ρ1 12 (.ref a)) 13 (.ref b)) 6 = some (.ref bd) := d6
 have e8 : (upd (upd ρ1 12 (.ref a)) 13 (.ref b)) 8 = some (.int (w3.body.length : Nat)) := I.c8
 have e12 : (upd (upd ρ1 12 (.ref a)) 13 (.ref b)) 12 = some (.ref a) := rfl
 have e13 : (upd (upd ρ1 12 (.ref a)) 13 (.ref b)) 13 = some (.ref b) := rfl
 generalize upd (upd ρ1 12 (.ref a)) 13 (.ref b) = ρ2 at e2 e6 e8 e12 e13
 clear I I9 d2 d6 fr fr2
 refine Wc.ifs (Ee.cmpE (heard_cut (op := [26]) hN ho e2 e6 e8 kn rbd hbl rsm (nle rfl) rfl big1 fun H13 i13 fr hi => ⟨_, _, Ev.loc e12, (cmp_same hi (fr.keep _ _ h12) (prims_res _)).2, ?_⟩))
 exact Wc.ret (Ee.cmpE (heard_cut (op := [65, 7]) hN ho e2 e6 e8 (fr.keep _ _ kn) (fr.keep _ _ rbd) hbl rsm (nle rfl) rfl big2 fun H14 i14 fr2 hi => ⟨_, _, Ev.loc e13, (cmp_same hi (fr2.keep _ _ (fr.keep _ _ h13)) (prims_res _)).1, rfl⟩))
structure LwI (own : Nat) (A : WA) (ρ : Loc) : Prop where
 c1 : ρ 1 = some (.ref A.pen)
 c2 : ρ 2 = some (.int (own : Nat))
 c4 : ρ 4 = some (.ref 4)
 c5 : ρ 5 = some (.ref A.wd)
theorem law_list (hN : 2000000 ≤ N) {own : Nat} {A : WA} {w : W} {ρ : Loc} {E : MExc → MH → Prop} {Q : MV → MH → Prop} (ho : own < 4) (I : LwI own A ρ) (r : WR A H [4] w) (S : Sync (env03 own) [] (fblk (env03 own)) w) (hf : w.first = (w03 own).first) (hlb : w.labels = (w03 own).labels) (hb : w.bud ≤ 3000) (ha : w.at_ + 4 * w.left ≤ 400)
   (q : ∀ H' w', WR A H' [4] w' → Sync (env03 own) [] (fblk (env03 own)) w' → FrW A H H' → w'.labels = (w03 own).labels → w'.first = (w03 own).first → w'.bud ≤ w.bud → w'.at_ + 4 * w'.left ≤ w.at_ + 4 * w.left + 1 → Q .none H') :
   Ee N (d + 11) E ρ H (.callF 49 [.loc 1, .loc 5, .con (.int 3), .con (.int 0)]) Q := by
 have L : ListP N (d + 11) 3 := list_all hN 3 (by decide) (d + 1)
 refine Ee.callF (Evs.cons (Ev.loc I.c1) (Evs.cons (Ev.loc I.c5) (Evs.cons Ev.con (Evs.one Ev.con)))) ?_
 exact L r S (by rw [hf]; exact envK03 ho) envB03 (by rw [hlb]; rfl) hb ha fun H' w' r' S' f' h1 h2 h3 h4 => q H' w' r' S' f' (h1.trans hlb) (h2.trans hf) h3 h4
theorem law_spec (hN : 2000000 ≤ N) (ns : List Int) : (mCall tb.P FF N (d + 12) true 51 [.ref 1] [.dict true knD, .list true (il ns)]).wp (fun v Z => v = .bool true) (fun Z Z => False) := by
 refine W_call rfl rfl ?_
 simp only [Nat.reduceAdd]
 refine Wc.asg (Ee.list (Evs.cons (Ev.loc rfl) (Evs.one Ev.con)) (nle rfl) (Wc.asg (wE_bin (Ee.callF (Evs.one (Ev.loc rfl)) (next0 (p := 2) (n := 0) (script := ns) rfl rfl (by decide) (by decide) fun x => wE_con (w_mod2 (by decide) ?_))))))
 have ex : (x : Int) % 4 = ((x % 4 : Nat) : Int) := rfl
 rw [ex]
 have ho : x % 4 < 4 := Nat.mod_lt _ (by decide)
 generalize x % 4 = own at ho
 clear ex
 refine Wc.asgT (Ee.callF (Evs.one (Ev.loc rfl)) (arrow_spec (m := (own : Int)) (by lia) ?_))
 have ea : arrowP (own : Int) = kk own := by unfold arrowP; rw [if_pos (by lia), Int.toNat_natCast]
 rw [ea]
 refine ⟨_, rfl, ?_⟩
 refine Wc.asg (wE_dict (wEs_cons (wE_con (wEs_cons (Ee.list Evs.nil (Nat.zero_le _) (wEs_cons (wE_con (wEs_cons (wE_con (wEs_cons (wE_con (wEs_cons (Ee.list Evs.nil (Nat.zero_le _) (wEs_cons (wE_con (wEs_cons (Ee.list Evs.nil (Nat.zero_le _) (wEs_cons (wE_con (wEs_cons (Ee.list (Evs.one (Ev.loc rfl)) (nle rfl)
   (wEs_cons (wE_con (wEs_cons (wE_con (wEs_cons (wE_con (wEs_cons (Ee.v (Ev.len (l := il (kk own).1) (Ev.loc rfl) rfl) (wEs_nil ⟨_, rfl, ?_⟩))))))))))))))))))))))))))))))
 rw [len_il]
 suffices all : ∀ (A : WA) (ρ : Loc) (H : MH), A.pen = 2 → LwI own A ρ → 4 ∉ A.lists → WR A H [4] (w03 own) → H[4]? = some (.list false (il (kk own).2)) → Wc N (d + 11) (Qc fun v Z => v = .bool true) (fun Z Z => False) _ ρ H by
   refine all ⟨9, 5, 6, 7, 8, 2, ns⟩ _ _ rfl ⟨rfl, rfl, rfl, rfl⟩ (by show 4 ∉ [5, 6, 7, 8, 2]; decide) ?_ rfl
   exact { wd := rfl, st := rfl, hs := rfl, bd := rfl, lb := rfl, la := ⟨rfl, trivial⟩, pen := rfl, sc := rfl, kn := rfl, ap := (by show [5, 6, 7, 8, 2].Nodup; decide), fr := (by show ∀ a ∈ [4], a ∉ [5, 6, 7, 8, 2]; decide), hl := rfl, sm := fun x m => nomatch m }
 intro A ρ H hpen I n4 r h4
 have S := sync03 ho
 have b0 : (w03 own).bud = 1200 := rfl
 have a0 : (w03 own).at_ + 4 * (w03 own).left = 49 := rfl
 have hr4 : smallL (env03 own).res := (kk_small ho).2
 have hsr : smallR (env03 own).res := small_res ho
 change H[4]? = some (.list false (il (env03 own).res)) at h4
 refine Wc.expr (law_list hN ho I r S rfl rfl (by lia) (by lia) fun H1 w1 r1 S1 f1 lab1 fi1 b1 a1 => ?_)
 replace h4 := own_keep f1 r h4 n4
 refine Wc.stg (fun ρ' H' => ∃ w', WR A H' [4] w' ∧ Sync (env03 own) [] (fblk (env03 own)) w' ∧ FrW A H1 H' ∧ w'.bud ≤ 1200 ∧ ρ' = ρ) ?_ (fun ρ2 H2 J => ?_)
 · refine Wc.ifP (Ed.b (r1.ev I.c5 rfl)) (fun hl => ?_) (fun hl => ?_)
   · exact Wc.expr (law_list hN ho I r1 S1 fi1 lab1 (by lia) (by lia) fun H2 w2 r2 S2 f2 lab2 fi2 b2 a2 => Wc.nil ⟨rfl, w2, r2, S2, f2, by lia, rfl⟩)
   · exact Wc.nil ⟨rfl, w1, r1, S1, FrW.refl _ _, by lia, rfl⟩
 obtain ⟨w2, r2, S2, f2, b2, rfl⟩ := J
 replace h4 := own_keep f2 r1 h4 n4
 have hz := hr4.1
 refine Wc.expr (Ee.callF (Evs.cons (Ev.loc I.c5) (Evs.cons Ev.con (Evs.one (Ev.loc I.c4)))) (close_w (d := d + 8) (t := fblk (env03 own)) hN r2 S2 (by lia) h4 n4 hr4.2 fun H3 w3 r3 S3 f3 l3 s3 Z sm3 b3 => ?_))
 replace h4 := own_keep f3 r2 h4 n4
 have top : w3.live = true → w3.stack = (env03 own).res := fun h => by rw [s3 (l3.symm.trans h)]; rfl
 have hb3 : w3.bud ≤ 1300 := by lia
 clear f1 f2 f3 r1 r2 S1 S2 S r s3 sm3 b3 l3 b2 b1 a1 a0 b0
 refine Wc.expr (Ee.emit r3 (by lia) I.c5 (Ev.op (op := [11]) rfl (nle rfl)) (Ev.con (v := .int (0 : Nat))) (pushes := []) Evs.nil (fun Z => Nat.zero_le _) (Nat.zero_le _) (Nat.zero_le _) (nle rfl) fun H4 r4 f4 => ?_)
 replace h4 := own_keep f4 r3 h4 n4
 obtain ⟨p1, p2, p3⟩ := emit_parts (w := w3) (op := [11])
 have rbd := r4.bd
 have rhs := r4.hs
 have rhl := r4.hl
 rw [p1] at rbd rhl
 rw [p2] at rhs rhl
 generalize hh : (if w3.live = true then some w3.stack.length else none) = h at rhs rhl
 have hlen : w3.heights.length = w3.body.length := by simpa using rhl
 have ebd : insMV (w3.body ++ [[11]]) = insMV w3.body ++ [.tup (il [11])] := by simp [insMV]
 have ehs : (w3.heights ++ [h]).map hMV = w3.heights.map hMV ++ [hMV h] := by simp
 rw [ebd] at rbd
 rw [ehs] at rhs
 have lhs : (w3.heights.map hMV).length = w3.body.length := by rw [List.length_map]; exact hlen
 have hbl : w3.body.length ≤ 1300 := Nat.le_trans bud_bd hb3
 have el : ((insMV w3.body ++ [MV.tup (il [11])]).length : Int) - 1 = (w3.body.length : Int) := by rw [List.length_append]; unfold insMV; rw [List.length_map]; show ((w3.body.length + 1 : Nat) : Int) - 1 = _; lia
 have hl : Ev N (d + 11) ρ2 H4 (.bin .sub (.callB .len (.sub (.loc 5) (.con (.str 58)))) (.con (.int 1))) (.int (w3.body.length : Nat)) := by
   rw [← el]; exact Ev.min (Ev.len (r4.ev I.c5 rfl) (seqL rbd)) Ev.con
 refine Wc.asgTv (Evs.tup (Evs.cons (r4.ev I.c5 rfl) (Evs.cons (r4.ev I.c5 rfl) (Evs.one hl))) (nle rfl)) rfl ?_
 refine Wc.asgv (Ev.sub (Ev.loc rfl) (Ev.loc rfl) (subL (k := w3.body.length) (v := hMV h) rhs (by rw [List.getElem?_append_right (Nat.le_of_eq lhs), lhs, Nat.sub_self]; rfl))) ?_
 exact law_rest hN ho S3 hsr top hh hbl (fun x m => r4.sm x (by rw [p1]; exact List.mem_append_left _ m)) hlen r4.kn rbd rhs h4 I.c2 I.c4 rfl rfl rfl rfl
end
end
section
open PySem PySem.W PyProof.Rows
set_option maxHeartbeats 8000000
theorem f_len : (codeOf ct PySem.Challenge.pw_nm0142_03).length = 52 := by kernel_rfl
theorem f_eq {K : Frag} (h : (List.range 52).map (tb.F K) = (List.range 52).map FF) : tb.F K = FF := by
 funext i
 by_cases hi : i < 52
 · have := congrArg (fun l : List (Option Fn) => l[i]?) h
   simpa [hi] using this
 · have h1 : tb.fnL[i]? = none := List.getElem?_eq_none (by show 52 ≤ i; lia)
   have h2 : (codeOf ct PySem.Challenge.pw_nm0142_03)[i]? = none := List.getElem?_eq_none (by rw [f_len]; lia)
   unfold Tb.F FF
   rw [h1, h2]; rfl
theorem kcls_ {K : Frag} {h : Heap} (_ : K.In h) (q : tb.okCls K = true) : tb.okCls K = true := q
theorem kexc_ {K : Frag} {h : Heap} (_ : K.In h) (q : tb.okExc K 124 "WasmFault" 104 121 101 = true) : tb.okExc K 124 "WasmFault" 104 121 101 = true := q
theorem run03 {K : Frag} {h0 : Heap} (_ : K.In h0) (ns : List Int) (h : (List.range 52).map (tb.F K) = (List.range 52).map FF) : ∃ H', mCall tb.P (tb.F K) 2000000 60 true 51 [.ref 1] [.dict true d03, .list true (ns.map .int)] = .ok (.bool true) H' := by
 obtain ⟨v, H', e, rfl⟩ := R.wp_ok (law_spec (N := 2000000) (d := 48) (Nat.le_refl _) ns)
 rw [f_eq h]
 exact ⟨H', e⟩
theorem main.tw925267241579179362:True:=⟨⟩
theorem main.tw2818215913512838189:True:=⟨⟩
theorem main.tw13155686724948042960:True:=⟨⟩
theorem main.tw2864606846018454059:True:=⟨⟩
theorem main.tw11915975209450370505:True:=⟨⟩
theorem main.tw5134070450405915007:True:=⟨⟩
theorem main.tw4159460275628221608:True:=⟨⟩
theorem main.tw15939135216810644357:True:=⟨⟩
theorem main.tw12246392102278154071:True:=⟨⟩
theorem main.tw6649310733610355799:True:=⟨⟩
theorem main.tw13790279956208770657:True:=⟨⟩
theorem main.tw5445273990271448714:True:=⟨⟩
theorem main.tw11613439357962438320:True:=⟨⟩
theorem main.tw11188727169584135823:True:=⟨⟩
theorem main.tw15593932114248601048:True:=⟨⟩
theorem main.tw13898727854132262300:True:=⟨⟩
theorem main.tw17868245453418582169:True:=⟨⟩
theorem main.tw16191586338647638674:True:=⟨⟩
theorem main.tw17179648164711320676:True:=⟨⟩
theorem main.tw517253545763640812:True:=⟨⟩
theorem main.tw5460128486308123532:True:=⟨⟩
theorem main.tw4091930637953755879:True:=⟨⟩
theorem main.tw15065305084719027114:True:=⟨⟩
theorem main.tw3146979741847770951:True:=⟨⟩
theorem main.tw3531981540585742146:True:=⟨⟩
theorem main.tw10694066461022140834:True:=⟨⟩
theorem main.tw12453483116619877857:True:=⟨⟩
theorem main.tw7397454978930948644:True:=⟨⟩
theorem main.tw7257662411179477739:True:=⟨⟩
theorem main.tw17677493551680049499:True:=⟨⟩
theorem main.tw4310228878472284329:True:=⟨⟩
theorem main.tw7406679989375695003:True:=⟨⟩
theorem main.tw11299022181482971071:True:=⟨⟩
theorem main.tw12428166251546661703:True:=⟨⟩
theorem main.tw2922722088657812038:True:=⟨⟩
theorem main.tw17145312859027392966:True:=⟨⟩
theorem main.tw15346822135443404404:True:=⟨⟩
theorem main.tw1382604328053016238:True:=⟨⟩
theorem main.tw294303095251978911:True:=⟨⟩
theorem main.tw1976350527869358923:True:=⟨⟩
theorem main.tw10443595952217078693:True:=⟨⟩
theorem main.tw6471150222350279623:True:=⟨⟩
theorem main.tw13105467095038062303:True:=⟨⟩
theorem main.tw9432906754913100419:True:=⟨⟩
theorem main.tw7645214217008657559:True:=⟨⟩
theorem main.tw9537812907215041040:True:=⟨⟩
theorem main.tw5800097197477307618:True:=⟨⟩
theorem main.tw9558001594617236124:True:=⟨⟩
theorem main.tw9767782249887908399:True:=⟨⟩
theorem main.tw5667051821671876906:True:=⟨⟩
theorem main.tw3965608284049720903:True:=⟨⟩
theorem main.tw4703118583338301787:True:=⟨⟩
theorem main.tw12291804085094793745:True:=⟨⟩
theorem main.tw18250705095706459558:True:=⟨⟩
theorem main.tw13934254615512129870:True:=⟨⟩
theorem main.tw8858540271125762992:True:=⟨⟩
theorem main.tw8132178498146976934:True:=⟨⟩
theorem main.tw6773626534007703490:True:=⟨⟩
theorem main.tw4711006893311753447:True:=⟨⟩
theorem main.tw6271459789768422213:True:=⟨⟩
theorem main.tw14084985943505131202:True:=⟨⟩
theorem main.tw2853208382243579297:True:=⟨⟩
theorem main.tw7821556884541040040:True:=⟨⟩
theorem main.tw6991051906849787811:True:=⟨⟩
theorem main.tw16747871750915486772:True:=⟨⟩
theorem main.tw5760789257564444811:True:=⟨⟩
theorem main.tw10196920075564382162:True:=⟨⟩
theorem main.tw6093991748022998109:True:=⟨⟩
theorem main.tw13866156564276429082:True:=⟨⟩
theorem main.tw1130109773739384056:True:=⟨⟩
theorem main.tw18337712513834754415:True:=⟨⟩
theorem main.tw10560464971613371954:True:=⟨⟩
theorem main.tw686864128682677561:True:=⟨⟩
theorem main.tw16204744479138647222:True:=⟨⟩
theorem main.tw8019843255630367578:True:=⟨⟩
theorem main.tw16300817170888368660:True:=⟨⟩
theorem main.tw2310633646459873002:True:=⟨⟩
theorem main.tw1912606427515319379:True:=⟨⟩
theorem main.tw10871293036084005087:True:=⟨⟩
theorem main.tw15268511505221204785:True:=⟨⟩
theorem main.tw1426165739836719336:True:=⟨⟩
theorem main.tw12930125569691871565:True:=⟨⟩
theorem main.tw5022756136425776485:True:=⟨⟩
theorem main.tw17367629061461438135:True:=⟨⟩
theorem main.tw15525705244753957535:True:=⟨⟩
theorem main.tw16239573490109993236:True:=⟨⟩
theorem main.tw5008847014415012073:True:=⟨⟩
theorem main.tw7630305487558755245:True:=⟨⟩
theorem main.tw17226008255547202947:True:=⟨⟩
theorem main.tw6601557695192066909:True:=⟨⟩
theorem main.tw9386645067147707984:True:=⟨⟩
theorem main.tw9257701769616213584:True:=⟨⟩
theorem main.tw4395466900922544890:True:=⟨⟩
theorem main.tw3539627628400702853:True:=⟨⟩
theorem main.tw8571558186958321949:True:=⟨⟩
theorem main.tw18302860413485724842:True:=⟨⟩
theorem main.tw15193263178978695244:True:=⟨⟩
theorem main.tw3059808732461744397:True:=⟨⟩
theorem main.tw17370264474060839139:True:=⟨⟩
theorem main.tw1284343163701477698:True:=⟨⟩
theorem main.tw4798913882091802099:True:=⟨⟩
theorem main.tw9202362961687656120:True:=⟨⟩
theorem main.tw15901911785326686457:True:=⟨⟩
theorem main.tw16775770572179878173:True:=⟨⟩
theorem main.tw13560165558294956042:True:=⟨⟩
theorem main.tw11648469112263746088:True:=⟨⟩
theorem main.tw11020174319317336477:True:=⟨⟩
theorem main.tw10385684711634392909:True:=⟨⟩
theorem main.tw16772482149012073998:True:=⟨⟩
theorem main.tw17861241424289171767:True:=⟨⟩
theorem main.tw15521857191610671232:True:=⟨⟩
theorem main.tw7291201710529191399:True:=⟨⟩
theorem main.tw14332694767430785208:True:=⟨⟩
theorem main.tw2673703584191709704:True:=⟨⟩
theorem main.tw11343196335435003072:True:=⟨⟩
theorem main.tw6958343538655003287:True:=⟨⟩
theorem main.tw12254554216366044628:True:=⟨⟩
theorem main.tw3970840511108476544:True:=⟨⟩
theorem main.tw867116294927962039:True:=⟨⟩
theorem main.tw9776540465710201401:True:=⟨⟩
theorem main.tw1679806311347427774:True:=⟨⟩
theorem main.tw11656252529945786486:True:=⟨⟩
theorem main.tw12866327798292885407:True:=⟨⟩
theorem main.tw16614730806028959055:True:=⟨⟩
theorem main.tw7387095368875260393:True:=⟨⟩
theorem main.tw8737412656630864066:True:=⟨⟩
theorem main.tw14458546566710942977:True:=⟨⟩
theorem main.tw7945186787910683591:True:=⟨⟩
theorem main.tw14775469409186757945:True:=⟨⟩
theorem main.tw17210058121205660539:True:=⟨⟩
theorem main.tw10328587823670452498:True:=⟨⟩
theorem main.tw2443227327843618036:True:=⟨⟩
theorem main.tw13613844423972651391:True:=⟨⟩
theorem main.tw2737750725896957826:True:=⟨⟩
theorem main.tw17342739349943993621:True:=⟨⟩
theorem main.tw1031765399252574917:True:=⟨⟩
theorem main.tw7250014487561225280:True:=⟨⟩
theorem main.tw17809477105219444030:True:=⟨⟩
theorem main.tw11116706314288256233:True:=⟨⟩
theorem main.tw4187923210075081884:True:=⟨⟩
theorem main.tw7670179019842844407:True:=⟨⟩
theorem main.tw16203443089297424273:True:=⟨⟩
theorem main.tw9794519201099739783:True:=⟨⟩
theorem main.tw9002507580857799536:True:=⟨⟩
theorem main.tw239484914142363780:True:=⟨⟩
theorem main.tw9329782625190375798:True:=⟨⟩
theorem main.tw14368548984795427624:True:=⟨⟩
theorem main.tw11638875634453789168:True:=⟨⟩
theorem main.tw14116258901397501558:True:=⟨⟩
theorem main.tw571647785228454943:True:=⟨⟩
theorem main.tw2008451683862899579:True:=⟨⟩
theorem main.tw7002617117321725329:True:=⟨⟩
theorem main.tw8648143778464435181:True:=⟨⟩
theorem main.tw12958570075632508283:True:=⟨⟩
theorem main.tw2737031353948269604:True:=⟨⟩
theorem main.tw1687537637806219265:True:=⟨⟩
theorem main.tw18350620168412646394:True:=⟨⟩
theorem main.tw10297972270295956009:True:=⟨⟩
theorem main.tw10322969633853836883:True:=⟨⟩
theorem main.tw7904360318250872725:True:=⟨⟩
theorem main.tw2436066020837621398:True:=⟨⟩
theorem main.tw7646987749624205320:True:=⟨⟩
theorem main.tw2509485771696236314:True:=⟨⟩
theorem main.tw1038547464879363397:True:=⟨⟩
theorem main.tw2142373446539770622:True:=⟨⟩
theorem main.tw6429686504428160259:True:=⟨⟩
theorem main.tw7548181410930959757:True:=⟨⟩
theorem main.tw14417502097949002917:True:=⟨⟩
theorem main.tw2650101136147908316:True:=⟨⟩
theorem main.tw2992056685137445369:True:=⟨⟩
theorem main.tw10898131148072301739:True:=⟨⟩
theorem main.tw8889909036490683537:True:=⟨⟩
theorem main.tw15119470463916845940:True:=⟨⟩
theorem main.tw5159528265767506360:True:=⟨⟩
theorem main.tw1792248080742510491:True:=⟨⟩
theorem main.tw13761123172137178225:True:=⟨⟩
theorem main.tw11680215110899198993:True:=⟨⟩
theorem main.tw17222532714639596944:True:=⟨⟩
theorem main.tw8731464644100033418:True:=⟨⟩
theorem main.tw12144329760196138050:True:=⟨⟩
theorem main.tw5362711270585421761:True:=⟨⟩
theorem main.tw2352082045080494391:True:=⟨⟩
theorem main.tw16781784789281860958:True:=⟨⟩
theorem main.tw14452046468698080874:True:=⟨⟩
theorem main.tw8074177808019917933:True:=⟨⟩
theorem main.tw4462190400977132941:True:=⟨⟩
theorem main.tw3008196657469156795:True:=⟨⟩
theorem main.tw6795767014284890813:True:=⟨⟩
theorem main.tw5172733860109081237:True:=⟨⟩
theorem main.tw3884352726974036912:True:=⟨⟩
theorem main.tw6542570496510093371:True:=⟨⟩
theorem main.tw16028392598184163056:True:=⟨⟩
theorem main.tw7679138261593991859:True:=⟨⟩
theorem main.tw15744198569236010029:True:=⟨⟩
theorem main.tw3394368681878965627:True:=⟨⟩
theorem main.tw15146226633581336011:True:=⟨⟩
theorem main.tw10434708572517896522:True:=⟨⟩
theorem main.tw4878024195029292589:True:=⟨⟩
theorem main.tw17023186693513284007:True:=⟨⟩
theorem main.tw11601682451327219109:True:=⟨⟩
theorem main.tw1284967617690943513:True:=⟨⟩
theorem main.tw5746062570634479219:True:=⟨⟩
theorem main.tw4952695281440224590:True:=⟨⟩
theorem main.tw12266321265796822618:True:=⟨⟩
theorem main.tw11509008894443506685:True:=⟨⟩
theorem main.tw3088077927293614186:True:=⟨⟩
theorem main.tw14494904676204802095:True:=⟨⟩
theorem main.tw15124233344536562547:True:=⟨⟩
theorem main.tw510803128440017388:True:=⟨⟩
theorem main.tw10440920105907014920:True:=⟨⟩
theorem main.tw13087847357843552312:True:=⟨⟩
theorem main.tw7074714167717794031:True:=⟨⟩
theorem main.tw5665430404676714477:True:=⟨⟩
theorem main.tw17797862391227879448:True:=⟨⟩
theorem main.tw11807584938254393009:True:=⟨⟩
theorem main.tw2615157128260120931:True:=⟨⟩
theorem main.tw177207074890175080:True:=⟨⟩
theorem main.tw16288059979852645152:True:=⟨⟩
theorem main.tw15182042088927537698:True:=⟨⟩
theorem main.tw5458665417225551837:True:=⟨⟩
theorem main.tw2379228892226148013:True:=⟨⟩
theorem main.tw2184172125623563289:True:=⟨⟩
theorem main.tw17009848309113948296:True:=⟨⟩
theorem main.tw12425137391138224907:True:=⟨⟩
theorem main.tw2221555247795474028:True:=⟨⟩
theorem main.tw1770443798944706555:True:=⟨⟩
theorem main.tw14131743086799626953:True:=⟨⟩
theorem main.tw12493883692557333044:True:=⟨⟩
theorem main.tw16536999046426117148:True:=⟨⟩
theorem main.tw11527100260467649386:True:=⟨⟩
theorem main.tw11665721926869280828:True:=⟨⟩
theorem main.tw2939239021250373633:True:=⟨⟩
theorem main.tw1251932400071406003:True:=⟨⟩
theorem main.tw3441466919426651201:True:=⟨⟩
theorem main.tw14263429483411347241:True:=⟨⟩
theorem main.tw17122517981654190023:True:=⟨⟩
theorem main.tw17924518473618601469:True:=⟨⟩
theorem main.tw18027279399861113557:True:=⟨⟩
theorem main.tw4177671621994559311:True:=⟨⟩
theorem main.tw17079325164956456438:True:=⟨⟩
theorem main.tw16308858863361778103:True:=⟨⟩
theorem main.tw15468000139907181785:True:=⟨⟩
theorem main.tw14347226246240139161:True:=⟨⟩
theorem main.tw432037875751373314:True:=⟨⟩
theorem main.tw13435976712825821128:True:=⟨⟩
theorem main.tw5013185972428660573:True:=⟨⟩
theorem main.tw6524254272908164914:True:=⟨⟩
theorem main.tw17489628448806820680:True:=⟨⟩
theorem main.tw14492489044821966026:True:=⟨⟩
theorem main.tw8874004035559458439:True:=⟨⟩
theorem main.tw9870349952446189086:True:=⟨⟩
theorem main.tw13538414902891089991:True:=⟨⟩
theorem main.tw117865787843134301:True:=⟨⟩
theorem main.tw2553129172841505705:True:=⟨⟩
theorem main.tw1769571156964328020:True:=⟨⟩
theorem main.tw12839939129518166449:True:=⟨⟩
theorem main.tw11998975423125869188:True:=⟨⟩
theorem main.tw15743930626855181957:True:=⟨⟩
theorem main.tw14891094757345406116:True:=⟨⟩
theorem main.tw8729215753904597756:True:=⟨⟩
theorem main.tw10444647068345236073:True:=⟨⟩
theorem main.tw11034916536091838146:True:=⟨⟩
theorem main.tw1419027338852513248:True:=⟨⟩
theorem main.tw4218438579629658143:True:=⟨⟩
theorem main.tw7133214772809181467:True:=⟨⟩
theorem main.tw1283526657002427284:True:=⟨⟩
theorem main.tw12055929568288920360:True:=⟨⟩
theorem main.tw11827359447094427065:True:=⟨⟩
theorem main.tw12133475871351909632:True:=⟨⟩
theorem main.tw12968591962578011314:True:=⟨⟩
theorem main.tw10565047445652189705:True:=⟨⟩
theorem main.tw3866699626759650626:True:=⟨⟩
theorem main.tw16744341766133690325:True:=⟨⟩
theorem main.tw7689180539567665754:True:=⟨⟩
theorem main.tw13025341945748906136:True:=⟨⟩
theorem main.tw16438527106512547009:True:=⟨⟩
theorem main.tw8848428510025427425:True:=⟨⟩
theorem main.tw17045747750064514181:True:=⟨⟩
theorem main.tw11646022107631321490:True:=⟨⟩
theorem main.tw7896732557465485704:True:=⟨⟩
theorem main.tw869616941618530944:True:=⟨⟩
theorem main.tw13612386364232354495:True:=⟨⟩
theorem main.tw8543199408427174664:True:=⟨⟩
theorem main.tw1496641351508231228:True:=⟨⟩
theorem main.tw7079346319486233637:True:=⟨⟩
theorem main.tw7009055538952385103:True:=⟨⟩
theorem main.tw2978360442360904238:True:=⟨⟩
theorem main.tw12235109030325827999:True:=⟨⟩
theorem main.tw8279419025547153352:True:=⟨⟩
theorem main.tw16238369109891383347:True:=⟨⟩
theorem main.tw3131981697515881112:True:=⟨⟩
theorem main.tw8262367462955680934:True:=⟨⟩
theorem main.tw18270773166306141978:True:=⟨⟩
theorem main.tw2544298430078641640:True:=⟨⟩
theorem main.tw9493952402113393094:True:=⟨⟩
theorem main.tw10180515696109083177:True:=⟨⟩
theorem main.tw6408195481249254913:True:=⟨⟩
theorem main.tw9420458945464693125:True:=⟨⟩
theorem main.tw16152042100665958553:True:=⟨⟩
theorem main.tw3139610863597827358:True:=⟨⟩
theorem main.tw16197700647612915172:True:=⟨⟩
theorem main.tw8028819869400628128:True:=⟨⟩
theorem main.tw1897650600844092497:True:=⟨⟩
theorem main.tw9369852123599154598:True:=⟨⟩
theorem main.tw18277887891688102822:True:=⟨⟩
theorem main.tw17189560309898352479:True:=⟨⟩
theorem main.tw6990565588677296644:True:=⟨⟩
theorem main.tw3379733461541436291:True:=⟨⟩
theorem main.tw3958915594437787476:True:=⟨⟩
theorem main.tw6819746189605800328:True:=⟨⟩
theorem main.tw16381980959767241870:True:=⟨⟩
theorem main.tw5055280753450627128:True:=⟨⟩
theorem main.tw4239280963099970540:True:=⟨⟩
theorem main.tw9612118164168700870:True:=⟨⟩
theorem main.tw14537450019153051991:True:=⟨⟩
theorem main.tw12494496518044278946:True:=⟨⟩
theorem main.tw18301661331662831443:True:=⟨⟩
theorem main.tw1303870235021155574:True:=⟨⟩
theorem main.tw15220798369095227235:True:=⟨⟩
theorem main.tw15852780608557602579:True:=⟨⟩
theorem main.tw15449954396954739307:True:=⟨⟩
theorem main.tw6658326349803785021:True:=⟨⟩
theorem main.tw12566714432673101547:True:=⟨⟩
theorem main.tw16624888252642348018:True:=⟨⟩
theorem main.tw833366181672599839:True:=⟨⟩
theorem main.tw12370082323872129008:True:=⟨⟩
theorem main.tw10390374173888912449:True:=⟨⟩
theorem main.tw12112399904496239578:True:=⟨⟩
theorem main.tw12405428267636687703:True:=⟨⟩
theorem main.tw7929639667017200051:True:=⟨⟩
theorem main.tw5103255586642191990:True:=⟨⟩
theorem main.tw17616163897125503702:True:=⟨⟩
theorem main.tw13636067654145834671:True:=⟨⟩
theorem main.tw9687061429480002727:True:=⟨⟩
theorem main.tw1596678615197881325:True:=⟨⟩
theorem main.tw5145756777116517348:True:=⟨⟩
theorem main.tw6020624907299633524:True:=⟨⟩
theorem main.tw11888923222419618904:True:=⟨⟩
theorem main.tw9271713227684663596:True:=⟨⟩
theorem main.tw5840107092408520212:True:=⟨⟩
theorem main.tw3087296514247745505:True:=⟨⟩
theorem main.tw225424674734612040:True:=⟨⟩
theorem main.tw4960754326464356880:True:=⟨⟩
theorem main.tw16035636102840645184:True:=⟨⟩
theorem main.tw16741365473365742500:True:=⟨⟩
theorem main.tw11547382934132139519:True:=⟨⟩
theorem main.tw5165179375324350226:True:=⟨⟩
theorem main.tw16891615732304830211:True:=⟨⟩
theorem main.tw9746696674357601180:True:=⟨⟩
theorem main.tw7366966349755769390:True:=⟨⟩
theorem main.tw17531500886901724792:True:=⟨⟩
theorem main.tw8809643391664033257:True:=⟨⟩
theorem main.tw13779700907665231049:True:=⟨⟩
theorem main.tw362101514219434311:True:=⟨⟩
theorem main.tw15250807170023008163:True:=⟨⟩
theorem main.tw3835542402431911989:True:=⟨⟩
theorem main.tw3412744423601906063:True:=⟨⟩
theorem main.tw1855208217236249986:True:=⟨⟩
theorem main.tw12953558148630380205:True:=⟨⟩
theorem main.tw1179163161465106547:True:=⟨⟩
theorem main.tw631227907748450517:True:=⟨⟩
theorem main.tw8872105718554685360:True:=⟨⟩
theorem main.tw13432973819337260183:True:=⟨⟩
theorem main.tw9844532520808570107:True:=⟨⟩
theorem main.tw13535308556146904540:True:=⟨⟩
theorem main.tw7313032115926921718:True:=⟨⟩
theorem main.tw2379418587039239955:True:=⟨⟩
theorem main.tw18238190117704969506:True:=⟨⟩
theorem main.tw727201121964547221:True:=⟨⟩
theorem main.tw6810670158800780086:True:=⟨⟩
theorem main.tw11817738332911389988:True:=⟨⟩
theorem main.tw16229319474554376097:True:=⟨⟩
theorem main.tw10839992949745929630:True:=⟨⟩
theorem main.tw14627560896615758001:True:=⟨⟩
theorem main.tw14169439949656811534:True:=⟨⟩
theorem main.tw13580096092930110239:True:=⟨⟩
theorem main.tw2178821199819612820:True:=⟨⟩
theorem main.tw15349743947800654751:True:=⟨⟩
theorem main.tw9441134871347383685:True:=⟨⟩
theorem main.tw12793961455207843180:True:=⟨⟩
theorem main.tw9482223327213914921:True:=⟨⟩
theorem main.tw18004917794731790759:True:=⟨⟩
theorem main.tw5992685852653226855:True:=⟨⟩
theorem main.tw17293040134813132398:True:=⟨⟩
theorem main.tw17391922875715332485:True:=⟨⟩
theorem main.tw10053362868999418749:True:=⟨⟩
theorem main.tw4606060024949568140:True:=⟨⟩
theorem main.tw3306849197303780159:True:=⟨⟩
theorem main.tw10309699142624141507:True:=⟨⟩
theorem main.tw2540495820296734350:True:=⟨⟩
theorem main.tw3121664453712097879:True:=⟨⟩
theorem main.tw4331608280046720368:True:=⟨⟩
theorem main.tw9881309371292612907:True:=⟨⟩
theorem main.tw88892504447777676:True:=⟨⟩
theorem main.tw2928028564007261197:True:=⟨⟩
theorem main.tw6258868486430859879:True:=⟨⟩
theorem main.tw5197162745757122531:True:=⟨⟩
theorem main.tw13119030871068887809:True:=⟨⟩
theorem main.tw6467666160085547207:True:=⟨⟩
theorem main.tw785891212050648866:True:=⟨⟩
theorem main.tw12456801561626644367:True:=⟨⟩
theorem main.tw14137382522845584548:True:=⟨⟩
theorem main.tw2528932580032954879:True:=⟨⟩
theorem main.tw10980123507247645758:True:=⟨⟩
theorem main.tw13090235224947412142:True:=⟨⟩
theorem main.tw738249695139976460:True:=⟨⟩
theorem main.tw2069051144779121576:True:=⟨⟩
theorem main.tw6759289808592882343:True:=⟨⟩
theorem main.tw6912118498763487492:True:=⟨⟩
theorem main.tw13889870629125409607:True:=⟨⟩
theorem main.tw4357975833179775930:True:=⟨⟩
theorem main.tw4509215696152744449:True:=⟨⟩
theorem main.tw18382997825090318735:True:=⟨⟩
theorem main.tw5714297817612945589:True:=⟨⟩
theorem main.tw8211863448347881248:True:=⟨⟩
theorem main.tw4328267247735480603:True:=⟨⟩
theorem main.tw6178081710517948605:True:=⟨⟩
theorem main.tw5328005690235735774:True:=⟨⟩
theorem main.tw12611677305408334490:True:=⟨⟩
theorem main.tw5739019924288605895:True:=⟨⟩
theorem main.tw13996028628365024818:True:=⟨⟩
theorem main.tw16238430190936666235:True:=⟨⟩
theorem main.tw16264370154056066:True:=⟨⟩
theorem main.tw16136933308854893207:True:=⟨⟩
theorem main.tw18191531320663667130:True:=⟨⟩
theorem main.tw17669468712313380877:True:=⟨⟩
theorem main.tw12097270978576341016:True:=⟨⟩
theorem main.tw3408827457947758924:True:=⟨⟩
theorem main.tw12468667721965097193:True:=⟨⟩
theorem main.tw12186387220061091099:True:=⟨⟩
theorem main.tw1391527577248789681:True:=⟨⟩
theorem main.tw903066247759688247:True:=⟨⟩
theorem main.tw16290095049648921356:True:=⟨⟩
theorem main.tw17180643386855433878:True:=⟨⟩
theorem main.tw4351411162792525490:True:=⟨⟩
theorem main.tw1078662318413408276:True:=⟨⟩
theorem main.tw11126551447899587804:True:=⟨⟩
theorem main.tw9149475249158978189:True:=⟨⟩
theorem main.tw5039935704646711612:True:=⟨⟩
theorem main.tw268157518901931542:True:=⟨⟩
theorem main.tw2525166076998268935:True:=⟨⟩
theorem main.tw2434013755359952725:True:=⟨⟩
theorem main.tw4840137780045317266:True:=⟨⟩
theorem main.tw2633100523294567566:True:=⟨⟩
theorem main.tw8066810042505994534:True:=⟨⟩
theorem main.tw1835169261126040926:True:=⟨⟩
theorem main.tw10695546567524401486:True:=⟨⟩
theorem main.tw3917075563684514712:True:=⟨⟩
theorem main.tw18184679981460683836:True:=⟨⟩
theorem main.tw3109879256401643688:True:=⟨⟩
theorem main.tw1112963673480286534:True:=⟨⟩
theorem main.tw15012956836233955108:True:=⟨⟩
theorem main.tw14419766743703223968:True:=⟨⟩
theorem main.tw16672347593970394415:True:=⟨⟩
theorem main.tw15813965126469659277:True:=⟨⟩
theorem main.tw18396120882820736952:True:=⟨⟩
theorem main.tw17442377672721089886:True:=⟨⟩
theorem main.tw4511402922630066149:True:=⟨⟩
theorem main.tw3107410153937982541:True:=⟨⟩
theorem main.tw4703324592164959565:True:=⟨⟩
theorem main.tw5942491169022655432:True:=⟨⟩
theorem main.tw1062289972186488545:True:=⟨⟩
theorem main.tw4094807246124668419:True:=⟨⟩
theorem main.tw17775395293607656282:True:=⟨⟩
theorem main.tw14953484359197247582:True:=⟨⟩
theorem main.tw10938402098977778470:True:=⟨⟩
theorem main.tw13834035904778713892:True:=⟨⟩
theorem main.tw14279578667054351857:True:=⟨⟩
theorem main.tw8511639783363027448:True:=⟨⟩
theorem main.tw12820903949589551787:True:=⟨⟩
theorem main.tw17557205499575929874:True:=⟨⟩
theorem main.tw8624647050476810405:True:=⟨⟩
theorem main.tw12872673566709696761:True:=⟨⟩
theorem main.tw2552694252491474378:True:=⟨⟩
theorem main.tw14070985297238078344:True:=⟨⟩
theorem main.tw13525269375820829941:True:=⟨⟩
theorem main.tw8402233074735576723:True:=⟨⟩
theorem main.tw13517744194886268553:True:=⟨⟩
theorem main.tw8386956399160234941:True:=⟨⟩
theorem main.tw13178111602982621130:True:=⟨⟩
theorem main.tw3692609847910103577:True:=⟨⟩
theorem main.tw8628463995273589525:True:=⟨⟩
theorem main.tw16218993716828157846:True:=⟨⟩
theorem main.tw12967587422831333594:True:=⟨⟩
theorem main.tw564327466094411562:True:=⟨⟩
theorem main.tw12127353596698212756:True:=⟨⟩
theorem main.tw4156003519774020744:True:=⟨⟩
theorem main.tw15443453874323421859:True:=⟨⟩
theorem main.tw7740549551543926822:True:=⟨⟩
theorem main.tw7659538399061980777:True:=⟨⟩
theorem main.tw6876659525886429291:True:=⟨⟩
theorem main.tw2219470461308947445:True:=⟨⟩
theorem main.tw9335689295537598954:True:=⟨⟩
theorem main.tw11287953397327612774:True:=⟨⟩
theorem main.tw4304834178718691396:True:=⟨⟩
theorem main.tw9440510433579211515:True:=⟨⟩
theorem main.tw7379146703158643333:True:=⟨⟩
theorem main.tw13278140520634309705:True:=⟨⟩
theorem main.tw1068812231199707816:True:=⟨⟩
theorem main.tw16838189389307913904:True:=⟨⟩
theorem main.tw11391020510418979679:True:=⟨⟩
theorem main.tw4125460202920646613:True:=⟨⟩
theorem main.tw17781153961316730533:True:=⟨⟩
theorem main.tw14706854907117038628:True:=⟨⟩
theorem main.tw5600465124246279690:True:=⟨⟩
theorem main.tw1848521739074249968:True:=⟨⟩
theorem main.tw8736997241775733956:True:=⟨⟩
theorem main.tw4261401600855317551:True:=⟨⟩
theorem main.tw18371382607465720849:True:=⟨⟩
theorem main.tw111125614747484135:True:=⟨⟩
theorem main.tw8598726330529460532:True:=⟨⟩
theorem main.tw6707823426313396741:True:=⟨⟩
theorem main.tw4009994885309246536:True:=⟨⟩
theorem main.tw13234269625008490304:True:=⟨⟩
theorem main.tw14265154123703047214:True:=⟨⟩
theorem main.tw11443288096424721517:True:=⟨⟩
theorem main.tw7784495168435344669:True:=⟨⟩
theorem main.tw3055327740479581089:True:=⟨⟩
theorem main.tw6312091815898468018:True:=⟨⟩
theorem main.tw9719202250092448289:True:=⟨⟩
theorem main.tw2619486844233121682:True:=⟨⟩
theorem main.tw7748162344757003694:True:=⟨⟩
theorem main.tw9620926646237751989:True:=⟨⟩
theorem main.tw15469547988786640481:True:=⟨⟩
theorem main.tw11543472635058493794:True:=⟨⟩
theorem main.tw18324848782513282653:True:=⟨⟩
theorem main.tw17065865279493038221:True:=⟨⟩
theorem main.tw5565504619827430955:True:=⟨⟩
theorem main.tw8595304795500500992:True:=⟨⟩
theorem main.tw7118179723604996413:True:=⟨⟩
theorem main.tw8561292540247648604:True:=⟨⟩
theorem main.tw6744150564754420234:True:=⟨⟩
theorem main.tw6520672519035416240:True:=⟨⟩
theorem main.tw2925776425995894714:True:=⟨⟩
theorem main.tw14227087324130724127:True:=⟨⟩
theorem main.tw6357531908561853707:True:=⟨⟩
theorem main.tw18362417139445994016:True:=⟨⟩
theorem main.tw2633433360531680643:True:=⟨⟩
theorem main.tw8810294567309271235:True:=⟨⟩
theorem main.tw13760291883820535205:True:=⟨⟩
theorem main.tw13670416772910508549:True:=⟨⟩
theorem main.tw10303968668570466222:True:=⟨⟩
theorem main.tw8547835018877277807:True:=⟨⟩
theorem main.tw5963143147677444598:True:=⟨⟩
theorem main.tw16148830795289512010:True:=⟨⟩
theorem main.tw6534461351829632766:True:=⟨⟩
theorem main.tw18356235372429024265:True:=⟨⟩
theorem main.tw4454792828321621372:True:=⟨⟩
theorem main.tw10583265868896537019:True:=⟨⟩
theorem main.tw12435918809077080684:True:=⟨⟩
theorem main.tw3898492766431878890:True:=⟨⟩
theorem main.tw3678926922749915011:True:=⟨⟩
theorem main.tw1882103967715803896:True:=⟨⟩
theorem main.tw14852706074398868582:True:=⟨⟩
theorem main.tw14464972848891808287:True:=⟨⟩
theorem main.tw3977090291491947485:True:=⟨⟩
theorem main.tw15610144658242746549:True:=⟨⟩
theorem main.tw5818237970382791039:True:=⟨⟩
theorem main.tw11175315845038103690:True:=⟨⟩
theorem main.tw18108192847358647101:True:=⟨⟩
theorem main.tw2689936240190302673:True:=⟨⟩
theorem main.tw15546451091634069538:True:=⟨⟩
theorem main.tw8354859942247524186:True:=⟨⟩
theorem main.tw16103328417691970683:True:=⟨⟩
theorem main.tw14766382537209830674:True:=⟨⟩
theorem main.tw15643031011164770099:True:=⟨⟩
theorem main.tw469107726730205931:True:=⟨⟩
theorem main.tw16438014652984670090:True:=⟨⟩
theorem main.tw7840089511392720015:True:=⟨⟩
theorem main.tw5561763199174522734:True:=⟨⟩
theorem main.tw9690013620090670815:True:=⟨⟩
theorem main.tw15252723141234360556:True:=⟨⟩
theorem main.tw17008886415857585682:True:=⟨⟩
theorem main.tw2072994404298036584:True:=⟨⟩
theorem main.tw10046727809161031378:True:=⟨⟩
theorem main.tw6387438950001232582:True:=⟨⟩
theorem main.tw5903828528775644053:True:=⟨⟩
theorem main.tw10758804782543124382:True:=⟨⟩
theorem main.tw11751638361083799241:True:=⟨⟩
theorem main.tw8440722530245238888:True:=⟨⟩
theorem main.tw14120260080095136841:True:=⟨⟩
theorem main.tw16822983415644169815:True:=⟨⟩
theorem main.tw11605412728090389508:True:=⟨⟩
theorem main.tw4153403021248529786:True:=⟨⟩
theorem main.tw4130779263140762978:True:=⟨⟩
theorem main.tw11012129470220845136:True:=⟨⟩
theorem main.tw3718984994144165473:True:=⟨⟩
theorem main.tw12685957366688819421:True:=⟨⟩
theorem main.tw11923579568519453046:True:=⟨⟩
theorem main.tw5054592681714628026:True:=⟨⟩
theorem main.tw13685464850760795979:True:=⟨⟩
theorem main.tw6020760485785902299:True:=⟨⟩
theorem main.tw99894942109057259:True:=⟨⟩
theorem main.tw6109326565077728654:True:=⟨⟩
theorem main.tw7249698444530863382:True:=⟨⟩
theorem main.tw10492438308582190394:True:=⟨⟩
theorem main.tw6756261132437940486:True:=⟨⟩
theorem main.tw8055458335546875267:True:=⟨⟩
theorem main.tw17393246987506242659:True:=⟨⟩
theorem main.tw364906518795052587:True:=⟨⟩
theorem main.tw12529423308544993278:True:=⟨⟩
theorem main.tw1227082755455209162:True:=⟨⟩
theorem main.tw7033201789201947253:True:=⟨⟩
theorem main.tw14292037427810857913:True:=⟨⟩
theorem main.tw16405295038616099146:True:=⟨⟩
theorem main.tw8826075148503451808:True:=⟨⟩
theorem main.tw11148867138117186242:True:=⟨⟩
theorem main.tw4335910966286959084:True:=⟨⟩
theorem main.tw17419140150681987480:True:=⟨⟩
theorem main.tw4470396081520000954:True:=⟨⟩
set_option tactic.hygienic true in
theorem main : PySem.Challenge.rw_nm0142_03.Holds := by
 w_on
 o_law
 k_head
 (case hw => w_witness2)
 intro w s₀ s₁ mg mb G Y fa o pm cd doc dV kV ho hd hcd hD hmg hg args vals as hpre hlay hrd hwl hlo
 have KX := kIn_of Y
 refine Ground.open G ?_
 intro T B D TE TW
 clear Y B D TE TW G
 wrow_args hpre hlay hrd hwl hlo
 rename_i ns _ _ _ _ _ _ _ L _ _ hl0 _ wl _ hI _ hlen _
 refine enter_call ?_
 refine codeAny_mono ?_ (fun Z Z g => GoodW.toG g)
 clear hcd hD
 have hl63 : ns.length ≤ 63 := by have := hlen; lia
 have sr := T.seer (by decide +kernel)
 clear hd
 obtain ⟨mm, ⟨om, es, ep, hm, hmd, _⟩, _⟩ := sr.mods
 have hfa : fa = 494 := by
   have := mg_of KX T.g (n := "law") (v := .ref 494) (by kernel_rfl)
   rw [show mg _ = some (Value.ref fa) from hmg] at this
   cases this; rfl
 subst hfa
 have hl : ∃ vs : List Value, s₁.heap.get? L = some { cls := .type "list", data := .seq vs.toArray } ∧ IntsAre vs ns := by
   obtain ⟨o', e1, _, n, e2⟩ := hl0
   cases wl with
   | list h _ =>
     rw [e1] at h; cases h
     simp at e2
     exact ⟨_, e1, by rw [e2.1]; exact hI⟩
 obtain ⟨vs, hl, hI'⟩ := hl
 have hne : L ≠ sysModules := fun q => by rw [q, hm] at hl; cases hl; cases hmd
 have xOk := xOk_of (t := tb) (prog := PySem.Challenge.rw_nm0142_03.row.prog) (w := w) KX k_str T.nolimit hm hne
 have gOk := gOk_of (t := tb) (prog := PySem.Challenge.rw_nm0142_03.row.prog) (w := w) (L := L) KX (by kernel_rfl) T.b T.builtins
 have cOk := clsOk_of (t := tb) (prog := PySem.Challenge.rw_nm0142_03.row.prog) (w := w) (s := s₁) (L := L) (kcls_ KX (by kernel_rfl)) (get_exc (kexc_ KX (by kernel_rfl)))
 obtain ⟨H', run⟩ := run03 KX ns (by kernel_rfl)
 refine go_law (t := tb) (d := 60) ⟨xOk, cOk, gOk⟩ (fnOk_t KX) (excOk_of xOk T.b T.builtins (kexc_ KX (by kernel_rfl))) (st_first KX hg (by kernel_rfl) hl hI' (by lia)) rfl (by decide) run fun s' k1 k2 k3 => ?_
 refine ⟨.inl ⟨_, .bool true, [], rfl, fun cls => ?_, .bool true, ?_, fun Z => ⟨.nil, fun Z m => nomatch m⟩⟩, k1, k3, k2⟩
 · rfl
 · wrow_post
end
end Mine.Internal
theorem PySem.Challenge.cw_nm0142_03_holds : PySem.Challenge.rw_nm0142_03.Holds := by
 exact Mine.Internal.main
