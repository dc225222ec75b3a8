import PyProof.Rows.All
import Wide.All
import OpenK.AllK
import Wide.FinOn
import HandS.ForMost
import HandS.Exc
import HandS.ExcCtx
import HandS.TryOnly
import HandS.ExcOwn
import HandS.WordsExc
import HandS.Wide
import HandS.IsInst
import HandS.StrMore
import HandS.TupMul
import HandS.TupAny
import HandS.Lambda
import HandS.Deep
import HandS.HeadWalk
import HandS.RaiseMore
import HandS.HeadHook1
import HandS.Hot
import HandS.HotCalls
import HandS.ExcIs
import PyProof.Rows.SumAny
import KE.KExcIs
import HandS.ExcField
import HandS.ExcInit
import HandS.ExcInitHot
import KE.GoesEnum
import HandS.HeadHook4
import HandS.ReplaceLit
import HandS.Defaults
import HandS.Head2
import HandS.HeadEnd
import PySem.Challenge.RW_rowspeak_k20_terms_written_and_read
import HandS.ReplaceList
set_option Elab.async false
set_option linter.all false
set_option maxRecDepth 100000
set_option maxHeartbeats 0
/-! Mp1: a small Python over plain data: values, a heap of lists, dicts and instances, and a combinator for each construct. -/
namespace Mp
open PySem L2

abbrev Tx := List Nat
inductive D where
  | non | bl (b : Bool) | int (i : Int) | str (x : Tx) | tup (xs : List D) | frl (xs : List D) | ref (i : Nat)
inductive O where
  | lst (xs : List D) | dic (kvs : List (D × D)) | ins (c : Nat) (fs : List (Nat × D))
abbrev DH := List O
abbrev En := List (Option D)
inductive Rs (α : Type) where
  | ok (d : α) (h : DH) | exc (c : Nat) (w : Option D) (h : DH) | err
abbrev Res := Rs D
inductive Out where
  | nx (e : En) (h : DH) | rt (d : D) (h : DH) | bk (e : En) (h : DH) | ct (e : En) (h : DH) | exc (c : Nat) (w : Option D) (e : En) (h : DH) | err
abbrev M := En → DH → Res
abbrev Ms := En → DH → Out
abbrev CL := Nat → List D → DH → Res

def Rs.bind {α β : Type} (r : Rs α) (f : α → DH → Rs β) : Rs β := match r with
  | .ok d h => f d h
  | .exc c w h => .exc c w h
  | .err => .err
def Rs.bindO {α : Type} (r : Rs α) (e : En) (f : α → DH → Out) : Out := match r with
  | .ok d h => f d h
  | .exc c w h => .exc c w e h
  | .err => .err
section
variable {α β : Type}
@[simp] theorem bind_ok (d : α) (h : DH) (f : α → DH → Rs β) : (Rs.ok d h).bind f = f d h := rfl
@[simp] theorem bind_exc (c : Nat) (w : Option D) (h : DH) (f : α → DH → Rs β) : (Rs.exc c w h : Rs α).bind f = .exc c w h := rfl
@[simp] theorem bind_err (f : α → DH → Rs β) : (Rs.err : Rs α).bind f = .err := rfl
@[simp] theorem bindO_ok (d : α) (h : DH) (e : En) (f : α → DH → Out) : (Rs.ok d h).bindO e f = f d h := rfl
@[simp] theorem bindO_exc (c : Nat) (w : Option D) (h : DH) (e : En) (f : α → DH → Out) : (Rs.exc c w h : Rs α).bindO e f = .exc c w e h := rfl
@[simp] theorem bindO_err (e : En) (f : α → DH → Out) : (Rs.err : Rs α).bindO e f = .err := rfl
end

/-! ### arguments -/
def evL : List M → En → DH → Rs (List D)
  | [], _, h => .ok [] h
  | m :: r, e, h => (m e h).bind fun d h1 => (evL r e h1).bind fun ds h2 => .ok (d :: ds) h2

/-! ### pure data as the library's -/
mutual
def pyD : D → Option PyData
  | .non => some .none
  | .bl b => some (.bool b)
  | .int i => some (.int i)
  | .str x => some (.str ⟨x.toArray⟩)
  | .tup xs => (pyL xs).map .tuple
  | .frl xs => (pyL xs).map .list
  | .ref _ => none
def pyL : List D → Option (List PyData)
  | [] => some []
  | x :: xs => match pyD x, pyL xs with
    | some a, some b => some (a :: b)
    | _, _ => none
end
def pyR (h : DH) : D → Option PyData
  | .ref i => match h[i]? with
    | some (.lst xs) => (pyL xs).map .list
    | _ => none
  | d => pyD d
def dEqD (x y : D) (h : DH) : Option Bool := match pyR h x, pyR h y with
  | some a, some b => if SeqAt.shaped a && SeqAt.shaped b then some (PyData.eqv a b) else none
  | _, _ => none
def dEq (x y : D) (h : DH) : Option Bool := match x, y with
  | .str a, .str b => some (decide (a = b))
  | x, y => dEqD x y h

def sInt (i : Int) : Tx := (Str.ofString (toString i)).cps.toList
def cutG {α : Type} (xs : List α) (lo hi : Option Int) : List α := (xs.drop (HT.sIx xs.length 0 lo)).take (HT.sIx xs.length xs.length hi - HT.sIx xs.length 0 lo)
def boolB (b : Bool) (h : DH) : Res := .ok (.bl b) h
def optB (o : Option Bool) (h : DH) : Res := match o with
  | some b => .ok (.bl b) h
  | none => .err

/-! ### operators -/
def dAdd : D → D → DH → Res
  | .int i, .int j, h => .ok (.int (i + j)) h
  | .str x, .str y, h => if x.length + y.length ≤ sizeLine then .ok (.str (x ++ y)) h else .err
  | .ref i, .ref j, h => match h[i]?, h[j]? with
    | some (.lst xs), some (.lst ys) => if xs.length + ys.length ≤ sizeLine then .ok (.ref h.length) (h ++ [.lst (xs ++ ys)]) else .err
    | _, _ => .err
  | .tup xs, .tup ys, h => if xs.length + ys.length ≤ sizeLine then .ok (.tup (xs ++ ys)) h else .err
  | _, _, _ => .err
def dSub : D → D → DH → Res
  | .int i, .int j, h => .ok (.int (i - j)) h
  | _, _, _ => .err
def dMul : D → D → DH → Res
  | .int i, .int j, h => if i.natAbs.log2 + j.natAbs.log2 < 100000000 then .ok (.int (i * j)) h else .err
  | .str x, .int j, h => if j < 2 ^ 62 ∧ -(2 ^ 62) < j ∧ x.length * j.toNat ≤ sizeLine then .ok (.str (List.replicate j.toNat x).flatten) h else .err
  | .ref i, .int j, h => match h[i]? with
    | some (.lst xs) => if j < 2 ^ 62 ∧ -(2 ^ 62) < j ∧ xs.length * j.toNat ≤ sizeLine then .ok (.ref h.length) (h ++ [.lst (List.replicate j.toNat xs).flatten]) else .err
    | _ => .err
  | _, _, _ => .err
def dMod : D → D → DH → Res
  | .int i, .int j, h => if 0 < j then .ok (.int (i % j)) h else if j ≠ 0 then .ok (.int (i.fmod j)) h else .err
  | _, _, _ => .err
def dDiv : D → D → DH → Res
  | .int i, .int j, h => if 0 < j ∧ j.natAbs.log2 < 9000 then .ok (.int (i / j)) h else .err
  | _, _, _ => .err
def dPow : D → D → DH → Res
  | .int i, .int j, h => if 0 ≤ j ∧ j ≤ 1000000 ∧ i.natAbs < 2 ^ 64 then .ok (.int (i ^ j.toNat)) h else .err
  | _, _, _ => .err
def dBin : Operator → D → D → DH → Res
  | .Add => dAdd
  | .Sub => dSub
  | .Mult => dMul
  | .Mod => dMod
  | .FloorDiv => dDiv
  | .Pow => dPow
  | _ => fun _ _ _ => .err

/-! ### comparisons -/
def strsOf : List D → Option (List Tx)
  | [] => some []
  | .str x :: r => (strsOf r).map fun l => x :: l
  | _ :: _ => none
def bolsOf : List D → Option (List Bool)
  | [] => some []
  | .bl x :: r => (bolsOf r).map fun l => x :: l
  | _ :: _ => none
def intsOf : List D → Option (List Int)
  | [] => some []
  | .int x :: r => (intsOf r).map fun l => x :: l
  | _ :: _ => none
def dIn (x y : D) (h : DH) : Option Bool := match x, y with
  | .int i, .tup ys => (intsOf ys).map fun zs => decide (i ∈ zs)
  | .str [c], .str z => some (decide (c ∈ z))
  | .str x, .tup ys => (strsOf ys).map fun zs => decide (x ∈ zs)
  | .str x, .ref i => match h[i]? with
    | some (.lst ys) => (strsOf ys).map fun zs => decide (x ∈ zs)
    | _ => none
  | _, _ => none
def dLt : D → D → Option Bool
  | .int i, .int j => some (decide (i < j))
  | .str x, .str y => some (decide (x < y))
  | _, _ => none
def dLe : D → D → Option Bool
  | .int i, .int j => some (decide (i ≤ j))
  | .str x, .str y => some (!decide (y < x))
  | _, _ => none
def isNon : D → Bool
  | .non => true
  | _ => false
def dIsN : D → D → Option Bool
  | x, .non => some (isNon x)
  | _, _ => none
def dCmp : CmpOp → D → D → DH → Option Bool
  | .Eq, x, y, h => dEq x y h
  | .NotEq, x, y, h => (dEq x y h).map (!·)
  | .Lt, x, y, _ => dLt x y
  | .LtE, x, y, _ => dLe x y
  | .Gt, x, y, _ => dLt y x
  | .GtE, x, y, _ => dLe y x
  | .Is, x, y, _ => dIsN x y
  | .IsNot, x, y, _ => (dIsN x y).map (!·)
  | .In, x, y, h => dIn x y h
  | .NotIn, x, y, h => (dIn x y h).map (!·)

/-! ### expressions -/
def mLit (d : D) : M := fun _ h => .ok d h
def mVar (i : Nat) : M := fun e h => match e[i]? with
  | some (some d) => .ok d h
  | _ => .err
def mTup (ms : List M) : M := fun e h => (evL ms e h).bind fun ds h1 => if ds.length ≤ sizeLine then .ok (.tup ds) h1 else .err
def mLst (ms : List M) : M := fun e h => (evL ms e h).bind fun ds h1 => if ds.length ≤ sizeLine then .ok (.ref h1.length) (h1 ++ [.lst ds]) else .err
def mBin (op : Operator) (a b : M) : M := fun e h => (a e h).bind fun x h1 => (b e h1).bind fun y h2 => dBin op x y h2
def mNeg (a : M) : M := fun e h => (a e h).bind fun x h1 => match x with
  | .int i => .ok (.int (-i)) h1
  | _ => .err
def mCmp (op : CmpOp) (a b : M) : M := fun e h => (a e h).bind fun x h1 => (b e h1).bind fun y h2 => optB (dCmp op x y h2) h2
def mChain (op op' : CmpOp) (a b c : M) : M := fun e h => (a e h).bind fun x h1 => (b e h1).bind fun y h2 => (optB (dCmp op x y h2) h2).bind fun r h3 => match r with
  | .bl true => (c e h3).bind fun z h4 => optB (dCmp op' y z h4) h4
  | .bl false => .ok (.bl false) h3
  | _ => .err
def mAnd (a b : M) : M := fun e h => (a e h).bind fun x h1 => match x with
  | .bl true => b e h1
  | .bl false => .ok (.bl false) h1
  | _ => .err
def mOr (a b : M) : M := fun e h => (a e h).bind fun x h1 => match x with
  | .bl true => .ok (.bl true) h1
  | .bl false => b e h1
  | _ => .err
def mNot (a : M) : M := fun e h => (a e h).bind fun x h1 => match x with
  | .bl b => .ok (.bl (!b)) h1
  | _ => .err
def mIf (c a b : M) : M := fun e h => (c e h).bind fun x h1 => match x with
  | .bl true => a e h1
  | .bl false => b e h1
  | _ => .err
def optD (o : Option D) (h : DH) : Res := match o with
  | some d => .ok d h
  | none => .err
def dIdx : D → D → DH → Res
  | .tup xs, .int i, h => optD (atI xs i) h
  | .frl xs, .int i, h => optD (atI xs i) h
  | .str x, .int i, h => if x.length ≤ sizeLine then optD ((atI x i).map fun c => .str [c]) h else .err
  | .ref a, .int i, h => match h[a]? with
    | some (.lst xs) => optD (atI xs i) h
    | _ => .err
  | _, _, _ => .err
def mIdx (a b : M) : M := fun e h => (a e h).bind fun x h1 => (b e h1).bind fun y h2 => dIdx x y h2
def dSlc : D → Option Int → Option Int → DH → Res
  | .str x, lo, hi, h => if x.length ≤ sizeLine then .ok (.str (cutG x lo hi)) h else .err
  | .tup xs, lo, hi, h => .ok (.tup (cutG xs lo hi)) h
  | .ref a, lo, hi, h => match h[a]? with
    | some (.lst xs) => .ok (.ref h.length) (h ++ [.lst (cutG xs lo hi)])
    | _ => .err
  | _, _, _, _ => .err
def evP (m : Option M) (e : En) (h : DH) : Rs (Option Int) := match m with
  | none => .ok none h
  | some m => (m e h).bind fun x h1 => match x with
    | .int i => .ok (some i) h1
    | _ => .err
def mSlc (a : M) (lo hi : Option M) : M := fun e h => (a e h).bind fun x h1 => (evP lo e h1).bind fun l h2 => (evP hi e h2).bind fun u h3 => dSlc x l u h3
def fldOf (fs : List (Nat × D)) (f : Nat) : Option D := fs.lookup f
def putN (f : Nat) (d : D) : List (Nat × D) → List (Nat × D)
  | [] => [(f, d)]
  | (g, x) :: r => if g = f then (f, d) :: r else (g, x) :: putN f d r
def mAttr (a : M) (f : Nat) : M := fun e h => (a e h).bind fun x h1 => match x with
  | .ref i => match h1[i]? with
    | some (.ins _ fs) => optD (fldOf fs f) h1
    | _ => .err
  | _ => .err
/-! ### calls -/
def mCall (cl : CL) (f : Nat) (as : List M) : M := fun e h => (evL as e h).bind fun ds h1 => cl f ds h1
/-- o.m(..): me tells a class's method -/
def mMeth (cl : CL) (me : Nat → Option Nat) (o : M) (as : List M) : M := fun e h => (o e h).bind fun x h1 => match x with
  | .ref i => match h1[i]? with
    | some (.ins c _) => match me c with
      | some f => (evL as e h1).bind fun ds h2 => cl f (.ref i :: ds) h2
      | none => .err
    | _ => .err
  | _ => .err
/-- C(..) by __init__ -/
def mMake (cl : CL) (c f : Nat) (as : List M) : M := fun e h => (evL as e h).bind fun ds h1 => (cl f (.ref h1.length :: ds) (h1 ++ [.ins c []])).bind fun r h2 => match r with
  | .non => .ok (.ref h1.length) h2
  | _ => .err
inductive BI where
  | len | ord | int | str | min | max | all | any | tup
def dLen : List D → DH → Res
  | [.str x], h => if x.length ≤ sizeLine then .ok (.int x.length) h else .err
  | [.tup xs], h => .ok (.int xs.length) h
  | [.frl xs], h => .ok (.int xs.length) h
  | [.ref i], h => match h[i]? with
    | some (.lst xs) => .ok (.int xs.length) h
    | _ => .err
  | _, _ => .err
def dOrd : List D → DH → Res
  | [.str [c]], h => .ok (.int c) h
  | _, _ => .err
def dInt : List D → DH → Res
  | [.int i], h => .ok (.int i) h
  | [.bl b], h => .ok (.int (if b then 1 else 0)) h
  | [.str x], h => match PySem.intText? ⟨x.toArray⟩ with
    | some n => if x.length ≤ 640 then .ok (.int n) h else .err
    | none => .err
  | _, _ => .err
def dStr : List D → DH → Res
  | [.int i], h => if i.natAbs.log2 < 1920 then .ok (.str (sInt i)) h else .err
  | [.str x], h => .ok (.str x) h
  | _, _ => .err
def dMin : List D → DH → Res
  | [.int i, .int j], h => .ok (.int (if j < i then j else i)) h
  | _, _ => .err
def dMax : List D → DH → Res
  | [.int i, .int j], h => .ok (.int (if j > i then j else i)) h
  | _, _ => .err
def dAll : List D → DH → Res
  | [.ref i], h => match h[i]? with
    | some (.lst xs) => match bolsOf xs with
      | some bs => .ok (.bl (bs.all id)) h
      | none => .err
    | _ => .err
  | _, _ => .err
def dAny : List D → DH → Res
  | [.ref i], h => match h[i]? with
    | some (.lst xs) => match bolsOf xs with
      | some bs => .ok (.bl (bs.any id)) h
      | none => .err
    | _ => .err
  | _, _ => .err
def dTupF : List D → DH → Res
  | [.tup xs], h => .ok (.tup xs) h
  | [.ref i], h => match h[i]? with
    | some (.lst xs) => .ok (.tup xs) h
    | _ => .err
  | _, _ => .err
def dBi : BI → List D → DH → Res
  | .len => dLen
  | .ord => dOrd
  | .int => dInt
  | .str => dStr
  | .min => dMin
  | .max => dMax
  | .all => dAll
  | .any => dAny
  | .tup => dTupF
def mBi (b : BI) (as : List M) : M := fun e h => (evL as e h).bind fun ds h1 => dBi b ds h1
inductive BM where
  | join | split | find | append
def dJoin : D → List D → DH → Res
  | .str s, [.ref i], h => match h[i]? with
    | some (.lst xs) => match strsOf xs with
      | some ys => if (ys.map (fun y => y.length)).sum + ys.length * s.length ≤ 16777216 then .ok (.str (TL.joinL s ys)) h else .err
      | none => .err
    | _ => .err
  | _, _, _ => .err
def dSplit : D → List D → DH → Res
  | .str x, [.str s], h => if s.length ≠ 0 ∧ x.length + 2 ≤ sizeLine then .ok (.ref h.length) (h ++ [.lst ((Txt.split ⟨x.toArray⟩ ⟨s.toArray⟩).map fun z => .str z.cps.toList)]) else .err
  | _, _, _ => .err
def dFind : D → List D → DH → Res
  | .str x, [.str s], h => .ok (.int (Txt.find ⟨x.toArray⟩ ⟨s.toArray⟩)) h
  | .str x, [.str s, .int i], h => .ok (.int (Txt.find3 ⟨x.toArray⟩ ⟨s.toArray⟩ i)) h
  | _, _, _ => .err
def dAppend : D → List D → DH → Res
  | .ref i, [d], h => match h[i]? with
    | some (.lst xs) => if xs.length < sizeLine then .ok .non (h.set i (.lst (xs ++ [d]))) else .err
    | _ => .err
  | _, _, _ => .err
def dBm : BM → D → List D → DH → Res
  | .join => dJoin
  | .split => dSplit
  | .find => dFind
  | .append => dAppend
def okTo : BM → D → DH → Bool
  | .append, .ref i, h => match h[i]? with
    | some (.lst _) => true
    | _ => false
  | .append, _, _ => false
  | _, .str _, _ => true
  | _, _, _ => false
/-- a method of a built-in: the receiver, then the arguments -/
def mBm (b : BM) (o : M) (as : List M) : M := fun e h => (o e h).bind fun x h1 => if okTo b x h1 then (evL as e h1).bind fun ds h2 => dBm b x ds h2 else .err
inductive IT where
  | int | bool | str | list | tuple
def dIsi (x : D) (t : IT) (h : DH) : Option Bool := match x, t with
  | .int _, .int => some true
  | .bl _, .int => some true
  | .bl _, .bool => some true
  | .str _, .str => some true
  | .tup _, .tuple => some true
  | .frl _, .list => some true
  | .ref i, t => match h[i]? with
    | some (.lst _) => some (match t with | .list => true | _ => false)
    | _ => none
  | _, _ => some false
def mIsi (a : M) (t : IT) : M := fun e h => (a e h).bind fun x h1 => optB (dIsi x t h1) h1

/-! ### a dict of the module -/
def mKIn (kvs : List (Tx × D)) (a : M) : M := fun e h => (a e h).bind fun x h1 => match x with
  | .str z => .ok (.bl (kvs.lookup z).isSome) h1
  | _ => .err
def mKNi (kvs : List (Tx × D)) (a : M) : M := fun e h => (a e h).bind fun x h1 => match x with
  | .str z => .ok (.bl (!(kvs.lookup z).isSome)) h1
  | _ => .err
def mKIdx (kvs : List (Tx × D)) (a : M) : M := fun e h => (a e h).bind fun x h1 => match x with
  | .str z => optD (kvs.lookup z) h1
  | _ => .err

/-! ### a dict that is written and asked at once; a text with parts put otherwise -/
/-- the last that is told for a key -/
def dLook (l : List (Tx × D)) (z : Tx) : Option D := l.foldl (fun o q => if z = q.1 then some q.2 else o) none
def dlgR (ks : List Tx) (ds : List D) (x d : D) (h : DH) : Res := match x with
  | .str z => .ok ((dLook (ks.zip ds) z).getD d) h
  | _ => .err
def dliR (ks : List Tx) (ds : List D) (x : D) (h : DH) : Res := match x with
  | .str z => optD (dLook (ks.zip ds) z) h
  | _ => .err
/-- {k: v, ..}.get(a, b) -/
def mDlG (ks : List Tx) (ms : List M) (a b : M) : M := fun e h => (evL ms e h).bind fun ds h1 => (a e h1).bind fun x h2 => (b e h2).bind fun d h3 => dlgR ks ds x d h3
/-- {k: v, ..}[a] -/
def mDlI (ks : List Tx) (ms : List M) (a : M) : M := fun e h => (evL ms e h).bind fun ds h1 => (a e h1).bind fun x h2 => dliR ks ds x h2
def repT (x y z : Tx) : Tx := (Txt.replace ⟨x.toArray⟩ ⟨y.toArray⟩ ⟨z.toArray⟩).cps.toList
def replR (c y z : Tx) (x : D) (h : DH) : Res := match x with
  | .str x => if x.length + (x.length + 1) * z.length ≤ 16777216 ∧ c.length + (repT x y z).length ≤ sizeLine then .ok (.str (c ++ repT x y z)) h else .err
  | _ => .err
/-- c + a.replace(y, z) -/
def mRepl (c y z : Tx) (a : M) : M := fun e h => (a e h).bind fun x h1 => replR c y z x h1

/-! ### what is walked -/
/-- how a thing walked is kept: a list must stay as it is -/
def Still (g : Option (Nat × List D)) (h : DH) : Prop := match g with
  | none => True
  | some (i, xs) => h[i]? = some (.lst xs)
def pairs : List D → List D → List D
  | x :: r, y :: s => .tup [x, y] :: pairs r s
  | _, _ => []
def enumD (n : Nat) : List D → List D
  | [] => []
  | x :: r => .tup [.int n, x] :: enumD (n + 1) r
def rangeD (lo : Int) (n : Nat) : List D := (List.range n).map fun (k : Nat) => .int (lo + k)
abbrev ItR := Rs (List D × Option (Nat × List D))
abbrev MI := En → DH → ItR
def itOf : D → DH → ItR
  | .tup xs, h => .ok (xs, none) h
  | .frl xs, h => .ok (xs, none) h
  | .str x, h => .ok (x.map fun c => .str [c], none) h
  | .ref i, h => match h[i]? with
    | some (.lst xs) => .ok (xs, some (i, xs)) h
    | _ => .err
  | _, _ => .err
def miE (a : M) : MI := fun e h => (a e h).bind itOf
def miR1 (a : M) : MI := fun e h => (a e h).bind fun x h1 => match x with
  | .int j => if -(2 ^ 62) ≤ j ∧ j < 2 ^ 62 then .ok (rangeD 0 j.toNat, none) h1 else .err
  | _ => .err
def miEn (a : M) : MI := fun e h => (a e h).bind fun x h1 => match x with
  | .tup xs => .ok (enumD 0 xs, none) h1
  | .ref i => match h1[i]? with
    | some (.lst xs) => .ok (enumD 0 xs, some (i, xs)) h1
    | _ => .err
  | _ => .err
open Classical in
/-- the turns of a comprehension -/
noncomputable def compL (g : Option (Nat × List D)) (st : D → En → Option En) (cond elt : M) (e0 : En) : List D → DH → Rs (List D)
  | [], h => if Still g h then .ok [] h else .err
  | x :: r, h => if Still g h then match st x e0 with
    | none => .err
    | some e => match cond e h with
      | .ok (.bl true) h1 => match elt e h1 with
        | .ok d h2 => (compL g st cond elt e0 r h2).bind fun ds h3 => .ok (d :: ds) h3
        | _ => .err
      | .ok (.bl false) h1 => compL g st cond elt e0 r h1
      | _ => .err
    else .err
def wipeD (e : En) : List Nat → En
  | [] => e
  | v :: vs => (wipeD e vs).set v none
/-- a target: a name, or names of a tuple -/
def stName (i : Nat) (x : D) (e : En) : Option En := some (e.set i (some x))
def stNames : List Nat → List D → En → Option En
  | [], [], e => some e
  | i :: r, x :: s, e => stNames r s (e.set i (some x))
  | _, _, _ => none
def stTup (is : List Nat) (x : D) (e : En) : Option En := match x with
  | .tup xs => stNames is xs e
  | _ => none
noncomputable def mComp (it : MI) (own : List Nat) (st : D → En → Option En) (cond elt : M) : M := fun e h => (it e h).bind fun p h1 => if p.1.length ≤ sizeLine then (compL p.2 st cond elt (wipeD e own) p.1 h1).bind fun ds h2 => .ok (.ref h2.length) (h2 ++ [.lst ds]) else .err
def tREF : Tx := [114, 101, 102, 117, 115, 101, 100]
def tFAULT : Tx := [70, 97, 117, 108, 116]
def tW5 : List Tx := [[66, 97, 100, 84, 111, 107, 101, 110], [66, 97, 100, 84, 101, 114, 109], [66, 97, 100, 68, 101, 101, 100], [66, 97, 100, 82, 111, 119], [66, 97, 100, 80, 105, 99, 116, 117, 114, 101]]
/-- how what is raised is told; tt: a class's place among the six -/
def toldT (tt : Nat → Option Nat) (c : Nat) (w : Option D) : Option D := match tt c with
  | none => none
  | some j => match w with
    | none => if j < 5 then (tW5[j]?).map fun nm => .tup [.str tREF, .str nm] else none
    | some d => if j = 5 then some (.tup [.str tREF, .str tFAULT, d]) else none
/-- told(lambda: body) -/
def mTold (tt : Nat → Option Nat) (a : M) : M := fun e h => match a e h with
  | .ok d h1 => .ok d h1
  | .exc c w h1 => match toldT tt c w with
    | some d => .ok d h1
    | none => .err
  | .err => .err

/-! ### statements -/
def sNext : Ms := fun e h => .nx e h
def sSeq (a b : Ms) : Ms := fun e h => match a e h with
  | .nx e1 h1 => b e1 h1
  | r => r
def sSet (st : D → En → Option En) (a : M) : Ms := fun e h => (a e h).bindO e fun x h1 => match st x e with
  | some e1 => .nx e1 h1
  | none => .err
def sDrop (a : M) : Ms := fun e h => (a e h).bindO e fun _ h1 => .nx e h1
def sRet (a : M) : Ms := fun e h => (a e h).bindO e fun x h1 => .rt x h1
def sIf (c : M) (a b : Ms) : Ms := fun e h => (c e h).bindO e fun x h1 => match x with
  | .bl true => a e h1
  | .bl false => b e h1
  | _ => .err
def sCont : Ms := fun e h => .ct e h
def sFld (fo : List (Nat × Nat)) (o : M) (f : Nat) (a : M) : Ms := fun e h => (a e h).bindO e fun y h1 => (o e h1).bindO e fun x h2 => match x with
  | .ref i => match h2[i]? with
    | some (.ins c fs) => if fs.length < 1000 ∧ (c, f) ∈ fo then .nx e (h2.set i (.ins c (putN f y fs))) else .err
    | _ => .err
  | _ => .err
/-- a, b, .. = a list -/
def unlR (is : List Nat) (x : D) (e : En) (h : DH) : Out := match x with
  | .ref i => match h[i]? with
    | some (.lst xs) => match stNames is xs e with
      | some e1 => .nx e1 h
      | none => .err
    | _ => .err
  | _ => .err
def sUnl (is : List Nat) (a : M) : Ms := fun e h => (a e h).bindO e fun x h1 => unlR is x e h1
/-- o[i] = a -/
def itmR (x z y : D) (e : En) (h : DH) : Out := match x, z with
  | .ref p, .int k => match h[p]? with
    | some (.lst xs) => match ixN xs.length k with
      | some j => .nx e (h.set p (.lst (xs.set j y)))
      | none => .err
    | _ => .err
  | _, _ => .err
def sItm (o i a : M) : Ms := fun e h => (a e h).bindO e fun y h1 => (o e h1).bindO e fun x h2 => (i e h2).bindO e fun z h3 => itmR x z y e h3
def sRaise (c : Nat) : Ms := fun e h => .exc c none e h
/-- raise C(a), a kept as its word -/
def sRaiseW (c : Nat) (a : M) : Ms := fun e h => (a e h).bindO e fun d h1 => .exc c (some d) e h1
open Classical in
/-- the turns of a for -/
noncomputable def forL (g : Option (Nat × List D)) (st : D → En → Option En) (b : Ms) : List D → Ms
  | [], e, h => if Still g h then .nx e h else .err
  | x :: r, e, h => if Still g h then match st x e with
    | none => .err
    | some e1 => match b e1 h with
      | .nx e2 h2 => forL g st b r e2 h2
      | .ct e2 h2 => forL g st b r e2 h2
      | .bk e2 h2 => .nx e2 h2
      | .rt d h2 => .rt d h2
      | .exc c w e2 h2 => .exc c w e2 h2
      | .err => .err
    else .err
noncomputable def sFor (it : MI) (st : D → En → Option En) (b : Ms) : Ms := fun e h => (it e h).bindO e fun p h1 => forL p.2 st b p.1 e h1
/-- so many turns of a while at most -/
def whlN (c : M) (b : Ms) : Nat → Ms
  | 0, _, _ => .err
  | n + 1, e, h => match c e h with
    | .ok (.bl true) h1 => match b e h1 with
      | .nx e2 h2 => whlN c b n e2 h2
      | .ct e2 h2 => whlN c b n e2 h2
      | .bk e2 h2 => .nx e2 h2
      | .rt d h2 => .rt d h2
      | .exc c w e2 h2 => .exc c w e2 h2
      | .err => .err
    | .ok (.bl false) h1 => .nx e h1
    | .exc c w h1 => .exc c w e h1
    | _ => .err
theorem whlN_mono (c : M) (b : Ms) : ∀ (n : Nat) (e : En) (h : DH), whlN c b n e h ≠ .err → whlN c b (n + 1) e h = whlN c b n e h
  | 0, e, h, q => absurd rfl q
  | n + 1, e, h, q => by
    unfold whlN at q ⊢
    split
    · rename_i h1 e1
      simp only [e1] at q ⊢
      split
      · rename_i e2 h2 e3
        simp only [e3] at q ⊢
        exact whlN_mono c b n e2 h2 q
      · rename_i e2 h2 e3
        simp only [e3] at q ⊢
        exact whlN_mono c b n e2 h2 q
      all_goals (rename_i e3; simp only [e3])
    all_goals (rename_i e3; simp only [e3])
theorem whlN_le (c : M) (b : Ms) {n m : Nat} {e : En} {h : DH} (q : whlN c b n e h ≠ .err) (l : n ≤ m) : whlN c b m e h = whlN c b n e h := by
  induction l with
  | refl => rfl
  | step l ih => rw [whlN_mono c b _ e h (by rw [ih]; exact q), ih]
open Classical in
noncomputable def sWhl (c : M) (b : Ms) : Ms := fun e h => if q : ∃ n, whlN c b n e h ≠ .err then whlN c b q.choose e h else .err
theorem sWhl_eq {c : M} {b : Ms} {n : Nat} {e : En} {h : DH} (q : whlN c b n e h ≠ .err) : sWhl c b e h = whlN c b n e h := by
  have x : ∃ n, whlN c b n e h ≠ .err := ⟨n, q⟩
  unfold sWhl
  rw [dif_pos x]
  rcases Nat.le_total n x.choose with l | l
  · exact whlN_le c b q l
  · exact (whlN_le c b x.choose_spec l).symm
theorem sWhl_some {c : M} {b : Ms} {e : En} {h : DH} (q : sWhl c b e h ≠ .err) : ∃ n, whlN c b n e h ≠ .err ∧ sWhl c b e h = whlN c b n e h := by
  unfold sWhl at q
  split at q
  · rename_i x
    exact ⟨_, x.choose_spec, sWhl_eq x.choose_spec⟩
  · exact absurd rfl q
theorem sWhl_go {c : M} {b : Ms} {e e2 : En} {h h1 h2 : DH} (q : c e h = .ok (.bl true) h1) (q2 : b e h1 = .nx e2 h2) : sWhl c b e h = sWhl c b e2 h2 := by
  have st : ∀ n, whlN c b (n + 1) e h = whlN c b n e2 h2 := fun n => by
    simp only [whlN, q, q2]
  by_cases x : ∃ n, whlN c b n e2 h2 ≠ .err
  · obtain ⟨n, x⟩ := x
    rw [sWhl_eq x, sWhl_eq (n := n + 1) (by rw [st]; exact x), st]
  · have y : ¬ ∃ n, whlN c b n e h ≠ .err := fun ⟨n, z⟩ => by
      cases n with
      | zero => exact z rfl
      | succ n => exact x ⟨n, by rw [← st]; exact z⟩
    unfold sWhl
    rw [dif_neg x, dif_neg y]
theorem sWhl_ct {c : M} {b : Ms} {e e2 : En} {h h1 h2 : DH} (q : c e h = .ok (.bl true) h1) (q2 : b e h1 = .ct e2 h2) : sWhl c b e h = sWhl c b e2 h2 := by
  have st : ∀ n, whlN c b (n + 1) e h = whlN c b n e2 h2 := fun n => by
    simp only [whlN, q, q2]
  by_cases x : ∃ n, whlN c b n e2 h2 ≠ .err
  · obtain ⟨n, x⟩ := x
    rw [sWhl_eq x, sWhl_eq (n := n + 1) (by rw [st]; exact x), st]
  · have y : ¬ ∃ n, whlN c b n e h ≠ .err := fun ⟨n, z⟩ => by
      cases n with
      | zero => exact z rfl
      | succ n => exact x ⟨n, by rw [← st]; exact z⟩
    unfold sWhl
    rw [dif_neg x, dif_neg y]
theorem sWhl_rt {c : M} {b : Ms} {e : En} {h h1 h2 : DH} {d : D} (q : c e h = .ok (.bl true) h1) (q2 : b e h1 = .rt d h2) : sWhl c b e h = .rt d h2 := by
  have st : whlN c b 1 e h = .rt d h2 := by
    simp only [whlN, q, q2]
  rw [sWhl_eq (n := 1) (by rw [st]; exact fun z => nomatch z), st]
theorem sWhl_exc {c : M} {b : Ms} {e e2 : En} {h h1 h2 : DH} {i : Nat} {w : Option D} (q : c e h = .ok (.bl true) h1) (q2 : b e h1 = .exc i w e2 h2) : sWhl c b e h = .exc i w e2 h2 := by
  have st : whlN c b 1 e h = .exc i w e2 h2 := by
    simp only [whlN, q, q2]
  rw [sWhl_eq (n := 1) (by rw [st]; exact fun z => nomatch z), st]
theorem sWhl_stop {c : M} {b : Ms} {e : En} {h h1 : DH} (q : c e h = .ok (.bl false) h1) : sWhl c b e h = .nx e h1 := by
  have st : whlN c b 1 e h = .nx e h1 := by
    simp only [whlN, q]
  rw [sWhl_eq (n := 1) (by rw [st]; exact fun z => nomatch z), st]

/-! ### defs -/
structure Fn where
  np : Nat
  ns : Nat
  body : CL → Ms
  /-- 0: plain; 1: an own class is made in it; 2: told is called in it -/
  lo : Nat
def runB (b : Ms) (np ns : Nat) (ds : List D) (h : DH) : Res := if ds.length = np then match b (ds.map some ++ List.replicate (ns - ds.length) none) h with
    | .nx _ h1 => .ok .non h1
    | .rt d h1 => .ok d h1
    | .exc c w _ h1 => .exc c w h1
    | _ => .err
  else .err
noncomputable def callN (tab : List Fn) : Nat → CL
  | 0, _, _, _ => .err
  | k + 1, f, ds, h => match tab[f]? with
    | some fn => match fn.lo, k with
      | 0, k => runB (fn.body (callN tab k)) fn.np fn.ns ds h
      | 1, j + 1 => runB (fn.body (callN tab j)) fn.np fn.ns ds h
      | 2, j + 3 => runB (fn.body (callN tab j)) fn.np fn.ns ds h
      | _, _ => .err
    | none => .err
end Mp

/-! Mp2: how plain data stands in the layer's abstract heap; readings by plain functions. -/
namespace Mp
open PySem L2 LamX

structure Wd where
  K : PySem.W.Frag
  cls : Nat → Addr
  fnm : Nat → Str
  T : List (Addr × Str)

/-- a list that is read alone -/
def FrL (K : PySem.W.Frag) (H : Hp) (a : Addr) (xs : List V) : Prop :=
  (∃ o, H a = some (.frz o (.lst xs))) ∨
    ∃ (o : Obj) (its : Array Value) (n : Nat), K.lookup a = some o ∧ o.cls = .type "list" ∧ o.dict = none ∧ o.data = .seq its n ∧ its.size ≤ sizeLine ∧ Vals xs its.toList
theorem FrL.sq {K : PySem.W.Frag} {H : Hp} {a : Addr} {xs : List V} (h : FrL K H a xs) : SqL K H a xs := by
  rcases h with ⟨o, h⟩ | h
  · exact .inl (.inr ⟨o, h⟩)
  · exact .inr h

mutual
inductive RV (K : PySem.W.Frag) (H : Hp) (as : List Addr) : V → D → Prop
  | non : RV K H as .non .non
  | bl (b : Bool) : RV K H as (.bl b) (.bl b)
  | int (i : Int) : RV K H as (.int i) (.int i)
  | str (x : Tx) : RV K H as (.str ⟨x.toArray⟩) (.str x)
  | tup {a : Addr} {vs : List V} {ds : List D} : SqT K H a vs → RL K H as vs ds → RV K H as (.ref a) (.tup ds)
  | frl {a : Addr} {vs : List V} {ds : List D} : FrL K H a vs → RL K H as vs ds → RV K H as (.ref a) (.frl ds)
  | ref {i : Nat} {a : Addr} : as[i]? = some a → RV K H as (.ref a) (.ref i)
inductive RL (K : PySem.W.Frag) (H : Hp) (as : List Addr) : List V → List D → Prop
  | nil : RL K H as [] []
  | cons {v : V} {vs : List V} {d : D} {ds : List D} : RV K H as v d → RL K H as vs ds → RL K H as (v :: vs) (d :: ds)
end

structure Ex0 (H : Hp) (as : List Addr) (H' : Hp) (as' : List Addr) : Prop where
  pre : ∀ (i : Nat) (a : Addr), as[i]? = some a → as'[i]? = some a
  tup : ∀ a xs, Rd H a (.tup xs) → Rd H' a (.tup xs)
  frz : ∀ a o u, H a = some (.frz o u) → H' a = some (.frz o u)
structure Ext (H : Hp) (as : List Addr) (H' : Hp) (as' : List Addr) : Prop extends Ex0 H as H' as' where
  kp : ∀ a o, H a = some o → a ∉ as → (∀ ps, o ≠ .tbl ps) → H' a = some o
  sub : ∀ a, a ∈ as' → a ∈ as ∨ ∀ o, H a = some o → ∃ ps, o = .tbl ps
theorem Ext.refl (H : Hp) (as : List Addr) : Ext H as H as := ⟨⟨fun _ _ h => h, fun _ _ h => h, fun _ _ _ h => h⟩, fun _ _ h _ _ => h, fun _ h => .inl h⟩
theorem Ext.trans {H H1 H2 : Hp} {as as1 as2 : List Addr} (x : Ext H as H1 as1) (y : Ext H1 as1 H2 as2) : Ext H as H2 as2 where
  pre := fun i a h => y.pre i a (x.pre i a h)
  kp := fun a o h n t => y.kp a o (x.kp a o h n t) (fun z => (x.sub a z).elim n fun q => by
    obtain ⟨ps, e⟩ := q o h
    exact t ps e) t
  tup := fun a xs h => y.tup a xs (x.tup a xs h)
  frz := fun a o u h => y.frz a o u (x.frz a o u h)
  sub := fun a h => by
    by_cases n : a ∈ as
    · exact .inl n
    · right
      intro o q
      by_cases t : ∃ ps, o = .tbl ps
      · exact t
      · have k := x.kp a o q n (fun ps e => t ⟨ps, e⟩)
        rcases y.sub a h with z | z
        · exact (x.sub a z).elim (fun w => absurd w n) fun w => w o q
        · exact z o k
theorem sqT_mono {K : PySem.W.Frag} {H H' : Hp} {as as' : List Addr} {a : Addr} {xs : List V} (x : Ex0 H as H' as') (h : SqT K H a xs) : SqT K H' a xs := by
  rcases h with h | h
  · exact .inl (x.tup _ _ h)
  · exact .inr h
theorem frL_mono {K : PySem.W.Frag} {H H' : Hp} {as as' : List Addr} {a : Addr} {xs : List V} (x : Ex0 H as H' as') (h : FrL K H a xs) : FrL K H' a xs := by
  rcases h with ⟨o, h⟩ | h
  · exact .inl ⟨o, x.frz _ _ _ h⟩
  · exact .inr h
mutual
theorem RV.mono {K : PySem.W.Frag} {H H' : Hp} {as as' : List Addr} (x : Ex0 H as H' as') : ∀ {v : V} {d : D}, RV K H as v d → RV K H' as' v d
  | _, _, .non => .non
  | _, _, .bl b => .bl b
  | _, _, .int i => .int i
  | _, _, .str z => .str z
  | _, _, .tup h l => .tup (sqT_mono x h) (RL.mono x l)
  | _, _, .frl h l => .frl (frL_mono x h) (RL.mono x l)
  | _, _, .ref h => .ref (x.pre _ _ h)
theorem RL.mono {K : PySem.W.Frag} {H H' : Hp} {as as' : List Addr} (x : Ex0 H as H' as') : ∀ {vs : List V} {ds : List D}, RL K H as vs ds → RL K H' as' vs ds
  | _, _, .nil => .nil
  | _, _, .cons h l => .cons (RV.mono x h) (RL.mono x l)
end
section
variable {K : PySem.W.Frag} {H : Hp} {as : List Addr}
theorem RL.length : ∀ {vs : List V} {ds : List D}, RL K H as vs ds → vs.length = ds.length
  | _, _, .nil => rfl
  | _, _, .cons _ l => by rw [List.length_cons, List.length_cons, RL.length l]
theorem RL.get : ∀ {vs : List V} {ds : List D} {i : Nat} {d : D}, RL K H as vs ds → ds[i]? = some d → ∃ v, vs[i]? = some v ∧ RV K H as v d
  | _, _, _, _, .nil, h => by simp at h
  | _, _, 0, _, .cons r _, h => by simp at h; subst h; exact ⟨_, rfl, r⟩
  | _, _, i + 1, d, .cons _ l, h => by
    obtain ⟨v, e, r⟩ := RL.get (i := i) (d := d) l (by simpa using h)
    exact ⟨v, by simpa using e, r⟩
theorem RL.get' : ∀ {vs : List V} {ds : List D} {i : Nat} {v : V}, RL K H as vs ds → vs[i]? = some v → ∃ d, ds[i]? = some d ∧ RV K H as v d
  | _, _, _, _, .nil, h => by simp at h
  | _, _, 0, _, .cons r _, h => by simp at h; subst h; exact ⟨_, rfl, r⟩
  | _, _, i + 1, d, .cons _ l, h => by
    obtain ⟨v, e, r⟩ := RL.get' (i := i) (v := d) l (by simpa using h)
    exact ⟨v, by simpa using e, r⟩
theorem RL.app : ∀ {vs ws : List V} {ds es : List D}, RL K H as vs ds → RL K H as ws es → RL K H as (vs ++ ws) (ds ++ es)
  | _, _, _, _, .nil, l => l
  | _, _, _, _, .cons r l, l' => .cons r (RL.app l l')
theorem RL.rep {vs : List V} {ds : List D} (l : RL K H as vs ds) : ∀ n : Nat, RL K H as (List.replicate n vs).flatten (List.replicate n ds).flatten
  | 0 => .nil
  | n + 1 => by
    rw [List.replicate_succ, List.replicate_succ, List.flatten_cons, List.flatten_cons]
    exact l.app (l.rep n)
theorem RL.take : ∀ {vs : List V} {ds : List D} (n : Nat), RL K H as vs ds → RL K H as (vs.take n) (ds.take n)
  | _, _, 0, _ => .nil
  | _, _, _ + 1, .nil => .nil
  | _, _, n + 1, .cons r l => .cons r (RL.take n l)
theorem RL.drop : ∀ {vs : List V} {ds : List D} (n : Nat), RL K H as vs ds → RL K H as (vs.drop n) (ds.drop n)
  | _, _, 0, r => r
  | _, _, _ + 1, .nil => .nil
  | _, _, n + 1, .cons _ l => RL.drop n l
theorem RL.set {v : V} {d : D} (r : RV K H as v d) : ∀ {vs : List V} {ds : List D} (n : Nat), RL K H as vs ds → RL K H as (vs.set n v) (ds.set n d)
  | _, _, _, .nil => .nil
  | _, _, 0, .cons _ l => .cons r l
  | _, _, n + 1, .cons q l => .cons q (RL.set r n l)
theorem RL.one {vs : List V} {d : D} (h : RL K H as vs [d]) : ∃ v, vs = [v] ∧ RV K H as v d := by
  cases h with
  | cons r l => cases l; exact ⟨_, rfl, r⟩
theorem RL.two {vs : List V} {d e : D} (h : RL K H as vs [d, e]) : ∃ v w, vs = [v, w] ∧ RV K H as v d ∧ RV K H as w e := by
  cases h with
  | cons r l =>
    obtain ⟨w, rfl, r2⟩ := l.one
    exact ⟨_, _, rfl, r, r2⟩
end
/-! ### the heap -/
def RF (G : Wd) (H : Hp) (as : List Addr) (fvs : List (Str × V)) (fs : List (Nat × D)) : Prop := fvs.map (·.1) = fs.map (fun p => G.fnm p.1) ∧ RL G.K H as (fvs.map (·.2)) (fs.map (·.2))
def RO (G : Wd) (H : Hp) (as : List Addr) (a : Addr) : O → Prop
  | .lst xs => ∃ vs, H a = some (.lst vs) ∧ RL G.K H as vs xs
  | .dic _ => False
  | .ins c fs => ∃ dx fvs, H a = some (.ins (G.cls c) dx fvs) ∧ RF G H as fvs fs ∧ Cls G.K (G.cls c) ∧ ∀ p ∈ fs, NoAttr G.K (G.cls c) (G.fnm p.1)
structure RH (G : Wd) (H : Hp) (as : List Addr) (h : DH) : Prop where
  len : as.length = h.length
  nd : as.Nodup
  ob : ∀ (i : Nat) (a : Addr) (o : O), as[i]? = some a → h[i]? = some o → RO G H as a o
  tab : Tabs G.T H
section
variable {G : Wd} {H : Hp} {as : List Addr} {h : DH}
theorem RH.at (r : RH G H as h) {i : Nat} {o : O} (e : h[i]? = some o) : ∃ a, as[i]? = some a ∧ RO G H as a o := by
  have hi : i < as.length := by rw [r.len]; exact (List.getElem?_eq_some_iff.mp e).1
  exact ⟨as[i], by simp [hi], r.ob i _ o (by simp [hi]) e⟩
/-- an object of ours is none of these -/
def ours : HO → Bool
  | .lst _ => true
  | .dK _ => true
  | .dT _ => true
  | .ins _ _ _ => true
  | _ => false
theorem RO.there {a : Addr} {o : O} (r : RO G H as a o) : ∃ u, H a = some u ∧ ours u = true := by
  cases o with
  | lst xs => obtain ⟨vs, e, _⟩ := r; exact ⟨_, e, rfl⟩
  | dic _ => exact r.elim
  | ins c fs => obtain ⟨dx, vs, e, _⟩ := r; exact ⟨_, e, rfl⟩
theorem RH.mem (r : RH G H as h) {a : Addr} (m : a ∈ as) : ∃ u, H a = some u ∧ ours u = true := by
  obtain ⟨i, hi, e⟩ := List.mem_iff_getElem.mp m
  have hi2 : i < h.length := by rw [← r.len]; exact hi
  exact (r.ob i a h[i] (by simp [hi, e]) (by simp [hi2])).there
theorem RH.new (r : RH G H as h) {p : Addr} (n : H p = none) : p ∉ as := fun m => by
  obtain ⟨u, e, _⟩ := r.mem m
  rw [n] at e; cases e
theorem RF.mono {H' : Hp} {as' : List Addr} (x : Ex0 H as H' as') {fvs : List (Str × V)} {fs : List (Nat × D)} (r : RF G H as fvs fs) : RF G H' as' fvs fs := ⟨r.1, r.2.mono x⟩
theorem RO.mono {H' : Hp} {as' : List Addr} (x : Ex0 H as H' as') {a : Addr} {o : O} (e : H' a = H a) (r : RO G H as a o) : RO G H' as' a o := by
  cases o with
  | lst xs => obtain ⟨vs, e1, l⟩ := r; exact ⟨vs, e.trans e1, l.mono x⟩
  | dic _ => exact r.elim
  | ins c fs => obtain ⟨dx, vs, e1, l, cl, na⟩ := r; exact ⟨dx, vs, e.trans e1, l.mono x, cl, na⟩
/-- a new thing that is no object of ours -/
theorem RH.laid (r : RH G H as h) {p : Addr} {u : HO} (n : H p = none) : Ext H as (upd H p u) as ∧ RH G (upd H p u) as h := by
  have ne : ∀ a o, H a = some o → a ≠ p := fun a o e => ne_of_none e n
  have x : Ext H as (upd H p u) as := by
    refine ⟨⟨fun _ _ e => e, fun a xs e => ?_, fun a o u e => by rw [upd_ne (ne a _ e)]; exact e⟩, fun a o e _ _ => by rw [upd_ne (ne a o e)]; exact e, fun _ e => .inl e⟩
    rcases e with e | ⟨o, e⟩
    · exact .inl (by rw [upd_ne (ne a _ e)]; exact e)
    · exact .inr ⟨o, by rw [upd_ne (ne a _ e)]; exact e⟩
  refine ⟨x, r.len, r.nd, fun i a o e1 e2 => ?_, r.tab.ext fun b o e => by rw [upd_ne (ne b o e)]; exact e⟩
  have q := r.ob i a o e1 e2
  obtain ⟨u', e, _⟩ := q.there
  exact q.mono x.toEx0 (by rw [upd_ne (ne a _ e)])
/-- a new object of ours -/
theorem RH.push (r : RH G H as h) {p : Addr} {u : HO} {o : O} (n : H p = none) (q : RO G (upd H p u) (as ++ [p]) p o) : Ext H as (upd H p u) (as ++ [p]) ∧ RH G (upd H p u) (as ++ [p]) (h ++ [o]) := by
  obtain ⟨x, r2⟩ := r.laid (u := u) n
  have pre : ∀ (i : Nat) (a : Addr), as[i]? = some a → (as ++ [p])[i]? = some a := fun i a e => by
    rw [List.getElem?_append_left (List.getElem?_eq_some_iff.mp e).1]; exact e
  have x2 : Ext H as (upd H p u) (as ++ [p]) := ⟨⟨pre, x.tup, x.frz⟩, x.kp, fun a m => by
    rcases List.mem_append.mp m with m | m
    · exact .inl m
    · rw [List.mem_singleton] at m; subst m; exact .inr fun o q => by rw [n] at q; cases q⟩
  have x3 : Ex0 (upd H p u) as (upd H p u) (as ++ [p]) := ⟨pre, fun _ _ e => e, fun _ _ _ e => e⟩
  refine ⟨x2, by simp [r.len], ?_, fun i a o' e1 e2 => ?_, r2.tab⟩
  · rw [List.nodup_append]
    exact ⟨r.nd, by simp, fun a ha b hb => by
      rw [List.mem_singleton] at hb; subst hb
      exact fun z => r.new n (z ▸ ha)⟩
  · by_cases hi : i < as.length
    · rw [List.getElem?_append_left hi] at e1
      rw [List.getElem?_append_left (by rw [← r.len]; exact hi)] at e2
      exact (r2.ob i a o' e1 e2).mono x3 rfl
    · have hi' : as.length ≤ i := Nat.le_of_not_lt hi
      rw [List.getElem?_append_right hi'] at e1
      rw [List.getElem?_append_right (by rw [← r.len]; exact hi')] at e2
      rw [← r.len] at e2
      cases z : i - as.length with
      | zero =>
        rw [z] at e1 e2
        have e1' : p = a := by simpa using e1
        have e2' : o = o' := by simpa using e2
        subst e1' e2'
        exact q
      | succ k =>
        rw [z] at e1
        simp at e1
/-- an object of ours is changed -/
theorem RH.put (r : RH G H as h) {i : Nat} {a : Addr} {u : HO} {o : O} (e : as[i]? = some a) (q : RO G (upd H a u) as a o) : Ext H as (upd H a u) as ∧ RH G (upd H a u) as (h.set i o) := by
  have ma : a ∈ as := List.mem_of_getElem? e
  obtain ⟨u0, e0, k0⟩ := r.mem ma
  have ne : ∀ b w, H b = some w → ours w = false → b ≠ a := fun b w eb k z => by
    subst z; rw [e0] at eb; cases eb; rw [k0] at k; cases k
  have x : Ext H as (upd H a u) as := by
    refine ⟨⟨fun _ _ e => e, fun b xs e => ?_, fun b o u e => by rw [upd_ne (ne b _ e rfl)]; exact e⟩, fun b o e nb _ => by rw [upd_ne (fun z => nb (by rw [z]; exact ma))]; exact e, fun _ e => .inl e⟩
    rcases e with e | ⟨o, e⟩
    · exact .inl (by rw [upd_ne (ne b _ e rfl)]; exact e)
    · exact .inr ⟨o, by rw [upd_ne (ne b _ e rfl)]; exact e⟩
  refine ⟨x, by simp [r.len], r.nd, fun j b o' e1 e2 => ?_, fun p hp => ?_⟩
  · by_cases hj : i = j
    · subst hj
      rw [e] at e1; cases e1
      have hi : i < h.length := by rw [← r.len]; exact (List.getElem?_eq_some_iff.mp e).1
      rw [List.getElem?_set_self hi] at e2
      cases e2
      exact q
    · rw [List.getElem?_set_ne hj] at e2
      have nb : b ≠ a := fun z => by
        subst z
        obtain ⟨h1, q1⟩ := List.getElem?_eq_some_iff.mp e
        obtain ⟨h2, q2⟩ := List.getElem?_eq_some_iff.mp e1
        exact hj ((List.getElem_inj r.nd).mp (q1.trans q2.symm))
      exact (r.ob j b o' e1 e2).mono x.toEx0 (by rw [upd_ne nb])
  · obtain ⟨ps, h1, h2, h3⟩ := r.tab p hp
    refine ⟨ps, by rw [upd_ne (ne _ _ h1 rfl)]; exact h1, h2, fun pos cv hc => ?_⟩
    obtain ⟨c, ec, hc2⟩ := h3 pos cv hc
    exact ⟨c, ec, by rw [upd_ne (ne _ _ hc2 rfl)]; exact hc2⟩
end
end Mp

/-! Mp3: readings by plain functions; expressions. -/
namespace Mp
open PySem L2 LamX

/-- what an exception bears -/
def ExcR (G : Wd) (H : Hp) (as : List Addr) (w : Option D) (dx : Option Addr) : Prop := match w with
  | none => dx = none
  | some d => ∃ a v, dx = some a ∧ H a = some (.xd [("word", v)]) ∧ RV G.K H as v d
def OutR {α χ : Type} (rel : Hp → List Addr → χ → α → Prop) (r : Rs α) (G : Wd) (H : Hp) (as : List Addr) (Q : χ → Hp → Prop) (E : XK) : Prop := match r with
  | .ok d h' => ∀ v H' as', Ext H as H' as' → rel H' as' v d → RH G H' as' h' → Q v H'
  | .exc c w h' => ∀ dx H' as', Ext H as H' as' → ExcR G H' as' w dx → RH G H' as' h' → E (.ref (G.cls c)) dx H'
  | .err => False
abbrev OutE (r : Res) (G : Wd) (H : Hp) (as : List Addr) (Q : VK) (E : XK) : Prop := OutR (RV G.K) r G H as Q E
abbrev OutL (r : Rs (List D)) (G : Wd) (H : Hp) (as : List Addr) (Q : List V → Hp → Prop) (E : XK) : Prop := OutR (RL G.K) r G H as Q E
section
variable {α β χ ψ : Type} {rel : Hp → List Addr → χ → α → Prop} {rel2 : Hp → List Addr → ψ → β → Prop} {G : Wd} {H H' : Hp} {as as' : List Addr} {E : XK}
theorem OutR.mono {r : Rs α} {Q : χ → Hp → Prop} (o : OutR rel r G H as Q E) (x : Ext H as H' as') : OutR rel r G H' as' Q E := by
  cases r with
  | ok d h => exact fun v H2 as2 y => o v H2 as2 (x.trans y)
  | exc c w h => exact fun v H2 as2 y => o v H2 as2 (x.trans y)
  | err => exact o
theorem OutR.imp {r : Rs α} {Q Q' : χ → Hp → Prop} (o : OutR rel r G H as Q E) (k : ∀ v H, Q v H → Q' v H) : OutR rel r G H as Q' E := by
  cases r with
  | ok d h => exact fun v H2 as2 y z w => k _ _ (o v H2 as2 y z w)
  | exc c w h => exact o
  | err => exact o
theorem OutR.impE {E' : XK} {r : Rs α} {Q : χ → Hp → Prop} (o : OutR rel r G H as Q E) (k : ∀ c d H, E c d H → E' c d H) : OutR rel r G H as Q E' := by
  cases r with
  | ok d h => exact o
  | exc c w h => exact fun v H2 as2 y z w => k _ _ _ (o v H2 as2 y z w)
  | err => exact o
/-- what is known behind a part -/
def Nxt (rel : Hp → List Addr → χ → α → Prop) (G : Wd) (H : Hp) (as : List Addr) (k : α → DH → Hp → List Addr → Prop) (v : χ) (H1 : Hp) : Prop :=
  ∃ d h1 as1, Ext H as H1 as1 ∧ rel H1 as1 v d ∧ RH G H1 as1 h1 ∧ k d h1 H1 as1
theorem OutR.bind {r : Rs α} {f : α → DH → Rs β} {Q : ψ → Hp → Prop} (o : OutR rel2 (r.bind f) G H as Q E) : OutR rel r G H as (Nxt rel G H as fun d h1 H1 as1 => OutR rel2 (f d h1) G H1 as1 Q E) E := by
  cases r with
  | ok d h => exact fun v H2 as2 x r2 rh => ⟨d, h, as2, x, r2, rh, OutR.mono (show OutR rel2 (f d h) G H as Q E from o) x⟩
  | exc c w h => exact o
  | err => exact o
end

def REn (K : PySem.W.Frag) (H : Hp) (as : List Addr) (σ : St) (e : En) : Prop := σ.length = e.length ∧ ∀ (i : Nat) (d : D), e[i]? = some (some d) → ∃ v, σ[i]? = some (some v) ∧ RV K H as v d
section
variable {K : PySem.W.Frag} {H H' : Hp} {as as' : List Addr} {σ : St} {e : En}
theorem REn.mono (x : Ex0 H as H' as') (r : REn K H as σ e) : REn K H' as' σ e := ⟨r.1, fun i d h => by
  obtain ⟨v, e1, q⟩ := r.2 i d h
  exact ⟨v, e1, q.mono x⟩⟩
theorem REn.set {v : V} {d : D} (r : REn K H as σ e) (q : RV K H as v d) (i : Nat) : REn K H as (σ.set i (some v)) (e.set i (some d)) := ⟨by simp [r.1], fun j d' h => by
  by_cases hj : i = j
  · subst hj
    by_cases hi : i < e.length
    · rw [List.getElem?_set_self hi] at h
      have h' : d = d' := by simpa using h
      subst h'
      exact ⟨v, by rw [List.getElem?_set_self (by rw [r.1]; exact hi)], q⟩
    · rw [List.getElem?_eq_none (by simpa using hi)] at h
      cases h
  · rw [List.getElem?_set_ne hj] at h ⊢
    exact r.2 j d' h⟩
theorem REn.setN (r : REn K H as σ e) (i : Nat) : REn K H as (σ.set i none) (e.set i none) := ⟨by simp [r.1], fun j d' h => by
  by_cases hj : i = j
  · subst hj
    by_cases hi : i < e.length
    · rw [List.getElem?_set_self hi] at h
      cases h
    · rw [List.getElem?_eq_none (by simpa using hi)] at h
      cases h
  · rw [List.getElem?_set_ne hj] at h ⊢
    exact r.2 j d' h⟩
end
/-- where a reading stands -/
def At (G : Wd) (σ : St) (H : Hp) (k : En → DH → List Addr → Prop) : Prop := ∃ as h e, RH G H as h ∧ REn G.K H as σ e ∧ k e h as
def tE (G : Wd) (W : WX) (m : M) : TE := fun σ H Q => At G σ H fun e h as => OutE (m e h) G H as Q fun c d H' => W c d σ H'
def tT (G : Wd) (W : WX) (m : M) : TT := fun σ H Q => tE G W m σ H fun v H1 => ∃ b, v = .bl b ∧ Q b H1
def tL (G : Wd) (W : WX) (ms : List M) : TA := fun σ H Q => At G σ H fun e h as => OutL (evL ms e h) G H as Q fun c d H' => W c d σ H'

section
variable {X : Cx} {e : Expr}
theorem PE.imp {t t' : TE} (p : PE X e t) (k : ∀ σ H Q, t' σ H Q → t σ H Q) : PE X e t' := ⟨fun pins s σ H Q I h => p.run pins s σ H Q I (k _ _ _ h)⟩
theorem PT.imp {t t' : TT} (p : PT X e t) (k : ∀ σ H Q, t' σ H Q → t σ H Q) : PT X e t' := ⟨fun pins s σ H Q I h => p.run pins s σ H Q I (k _ _ _ h)⟩
theorem PA.imp {es : List Expr} {t t' : TA} (p : PA X es t) (k : ∀ σ H Q, t' σ H Q → t σ H Q) : PA X es t' := ⟨fun pos pins s σ H Q I h => p.run pos pins s σ H Q I (k _ _ _ h)⟩
theorem PS.imp {st : Stmt} {t t' : TS} (p : PS X st t) (k : ∀ D σ H, t' D σ H → t D σ H) : PS X st t' := ⟨fun pins s σ H D I h => p.run pins s σ H D I (k _ _ _ h)⟩
theorem PSs.imp {st : List Stmt} {t t' : TS} (p : PSs X st t) (k : ∀ D σ H, t' D σ H → t D σ H) : PSs X st t' := ⟨fun pins s σ H D I h => p.run pins s σ H D I (k _ _ _ h)⟩
end
theorem s_len (x : Tx) : (⟨x.toArray⟩ : Str).length = x.length := by simp [Str.length]
theorem s_app (x y : Tx) : (⟨x.toArray⟩ : Str) ++ ⟨y.toArray⟩ = ⟨(x ++ y).toArray⟩ := TL.ext_tl (by rw [TL.tl_append])
theorem RV.ofStr {K : PySem.W.Frag} {H : Hp} {as : List Addr} (z : Str) : RV K H as (.str z) (.str z.cps.toList) := by
  have := RV.str (K := K) (H := H) (as := as) z.cps.toList
  simpa using this

section
variable {X : Cx} {G : Wd} {W : WX} {a b c e : Expr} {ma mb mc : M} {pos : Pos}
theorem tE_lit {d : D} {v : V} {e : Expr} (p : PE X e (tC v)) (r : ∀ H as, RV G.K H as v d) : PE X e (tE G W (mLit d)) := PE.imp p fun σ H Q ⟨as, h, e, rh, re, o⟩ => o v H as (Ext.refl _ _) (r _ _) rh
theorem tE_var {i : Nat} {e : Expr} (p : PE X e (tVar i)) : PE X e (tE G W (mVar i)) := PE.imp p fun σ H Q ⟨as, h, e, rh, re, o⟩ => by
  unfold mVar at o
  dsimp only at o
  split at o
  · rename_i d q
    obtain ⟨v, e1, r⟩ := re.2 i d q
    exact ⟨v, e1, o v H as (Ext.refl _ _) r rh⟩
  · exact o.elim
/-- behind a part, the slots as they were -/
theorem At.nxt {H H1 : Hp} {as : List Addr} {σ : St} {en : En} {v : V} {k : D → DH → Hp → List Addr → Prop} (re : REn G.K H as σ en) (n : Nxt (RV G.K) G H as k v H1) :
    ∃ d h1 as1, Ext H as H1 as1 ∧ RV G.K H1 as1 v d ∧ RH G H1 as1 h1 ∧ REn G.K H1 as1 σ en ∧ k d h1 H1 as1 := by
  obtain ⟨d, h1, as1, x, r, rh, q⟩ := n
  exact ⟨d, h1, as1, x, r, rh, re.mono x.toEx0, q⟩
/-- two parts and an operation by values -/
theorem tE_op {r : R2} {f : D → D → DH → Res} (p : PE X e (tOp r (tE G W ma) (tE G W mb)))
    (hr : ∀ (x y : V) (dx dy : D) (H : Hp) (as : List Addr) (h : DH) (Q : VK) (E : XK), RV G.K H as x dx → RV G.K H as y dy → RH G H as h → OutE (f dx dy h) G H as Q E → r x y H Q) :
    PE X e (tE G W fun e h => (ma e h).bind fun x h1 => (mb e h1).bind fun y h2 => f x y h2) := PE.imp p fun σ H Q ⟨as, h, en, rh, re, o⟩ => by
  refine ⟨as, h, en, rh, re, (OutR.bind o).imp fun x H1 n => ?_⟩
  obtain ⟨dx, h1, as1, x1, rx, rh1, re1, o1⟩ := At.nxt re n
  refine ⟨as1, h1, en, rh1, re1, (OutR.bind o1).imp fun y H2 n => ?_⟩
  obtain ⟨dy, h2, as2, x2, ry, rh2, re2, o2⟩ := At.nxt re1 n
  exact hr x y dx dy H2 as2 h2 Q _ (rx.mono x2.toEx0) ry rh2 o2
theorem tE_un {r : V → Hp → VK → Prop} {f : D → DH → Res} (p : PE X e (tUn r (tE G W ma)))
    (hr : ∀ (x : V) (dx : D) (H : Hp) (as : List Addr) (h : DH) (Q : VK) (E : XK), RV G.K H as x dx → RH G H as h → OutE (f dx h) G H as Q E → r x H Q) :
    PE X e (tE G W fun e h => (ma e h).bind fun x h1 => f x h1) := PE.imp p fun σ H Q ⟨as, h, en, rh, re, o⟩ => by
  refine ⟨as, h, en, rh, re, (OutR.bind o).imp fun x H1 n => ?_⟩
  obtain ⟨dx, h1, as1, x1, rx, rh1, re1, o1⟩ := At.nxt re n
  exact hr x dx H1 as1 h1 Q _ rx rh1 o1
/-- arguments -/
theorem tL_nil : PA X [] (tL G W []) := PA.imp pa_nil fun σ H Q ⟨as, h, e, rh, re, o⟩ => o [] H as (Ext.refl _ _) .nil rh
theorem tL_cons {es : List Expr} {ms : List M} (pa : PE X e (tE G W ma)) (pr : PA X es (tL G W ms)) (hs : starEach (e :: es) X.env = (false, eval e X.env) :: starEach es X.env) : PA X (e :: es) (tL G W (ma :: ms)) :=
  PA.imp (pa_cons pa pr hs) fun σ H Q ⟨as, h, en, rh, re, o⟩ => by
    refine ⟨as, h, en, rh, re, (OutR.bind (rel := RV G.K) o).imp fun x H1 n => ?_⟩
    obtain ⟨dx, h1, as1, x1, rx, rh1, re1, o1⟩ := At.nxt re n
    refine ⟨as1, h1, en, rh1, re1, (OutR.bind (rel := RL G.K) o1).imp fun ys H2 n => ?_⟩
    obtain ⟨ds, h2, as2, x2, rl, rh2, o2⟩ := n
    exact o2 (x :: ys) H2 as2 (Ext.refl _ _) (.cons (rx.mono x2.toEx0) rl) rh2
/-- arguments, then a call by values -/
theorem tE_cb {r : List V → Hp → VK → Prop} {ms : List M} {f : List D → DH → Res} (p : PE X e (tCB r (tL G W ms)))
    (hr : ∀ (xs : List V) (ds : List D) (H : Hp) (as : List Addr) (h : DH) (Q : VK) (E : XK), RL G.K H as xs ds → RH G H as h → OutE (f ds h) G H as Q E → r xs H Q) :
    PE X e (tE G W fun e h => (evL ms e h).bind fun ds h1 => f ds h1) := PE.imp p fun σ H Q ⟨as, h, en, rh, re, o⟩ => by
  refine ⟨as, h, en, rh, re, (OutR.bind (rel := RL G.K) o).imp fun xs H1 n => ?_⟩
  obtain ⟨ds, h1, as1, x1, rl, rh1, o1⟩ := n
  exact hr xs ds H1 as1 h1 Q _ rl rh1 o1
/-! ### displays -/
theorem RH.tupNew {H : Hp} {as : List Addr} {h : DH} (rh : RH G H as h) {p : Addr} {vs : List V} {ds : List D} (n : H p = none) (l : RL G.K H as vs ds) :
    Ext H as (upd H p (.tup vs)) as ∧ RV G.K (upd H p (.tup vs)) as (.ref p) (.tup ds) ∧ RH G (upd H p (.tup vs)) as h := by
  obtain ⟨x, r⟩ := rh.laid (u := .tup vs) n
  exact ⟨x, .tup (SqT.of upd_same) (l.mono x.toEx0), r⟩
theorem RH.lstNew {H : Hp} {as : List Addr} {h : DH} (rh : RH G H as h) {p : Addr} {vs : List V} {ds : List D} (n : H p = none) (l : RL G.K H as vs ds) :
    Ext H as (upd H p (.lst vs)) (as ++ [p]) ∧ RV G.K (upd H p (.lst vs)) (as ++ [p]) (.ref p) (.ref h.length) ∧ RH G (upd H p (.lst vs)) (as ++ [p]) (h ++ [.lst ds]) := by
  have e : (as ++ [p])[h.length]? = some p := by rw [← rh.len]; simp
  obtain ⟨x0, _⟩ := rh.laid (u := .lst vs) n
  have x3 : Ex0 H as (upd H p (.lst vs)) (as ++ [p]) := ⟨fun i a e => by
    rw [List.getElem?_append_left (List.getElem?_eq_some_iff.mp e).1]; exact e, x0.tup, x0.frz⟩
  obtain ⟨x, r⟩ := rh.push (u := .lst vs) (o := .lst ds) n ⟨vs, upd_same, l.mono x3⟩
  exact ⟨x, .ref e, r⟩
theorem tE_tup {es : List Expr} {ms : List M} {k : Nat} (p : PA X es (tL G W ms)) : PE X (.Tuple es k pos) (tE G W (mTup ms)) := PE.imp (pe_tup p) fun σ H Q ⟨as, h, en, rh, re, o⟩ => by
  refine ⟨as, h, en, rh, re, (OutR.bind (rel := RL G.K) o).imp fun xs H1 n => ?_⟩
  obtain ⟨ds, h1, as1, x1, rl, rh1, o1⟩ := n
  split at o1
  · rename_i hl
    refine ⟨by rw [rl.length]; exact hl, fun p np => ?_⟩
    obtain ⟨x, r, r2⟩ := rh1.tupNew np rl
    exact o1 _ _ _ x r r2
  · exact o1.elim
theorem tE_lst {es : List Expr} {ms : List M} (p : PA X es (tL G W ms)) : PE X (.List es pos) (tE G W (mLst ms)) := PE.imp (pe_lst p) fun σ H Q ⟨as, h, en, rh, re, o⟩ => by
  refine ⟨as, h, en, rh, re, (OutR.bind (rel := RL G.K) o).imp fun xs H1 n => ?_⟩
  obtain ⟨ds, h1, as1, x1, rl, rh1, o1⟩ := n
  split at o1
  · rename_i hl
    refine ⟨by rw [rl.length]; exact hl, fun p np => ?_⟩
    obtain ⟨x, r, r2⟩ := rh1.lstNew np rl
    exact o1 _ _ _ x r r2
  · exact o1.elim
end
end Mp

/-! Mp4: operators, comparisons, subscripts. -/
namespace Mp
open PySem L2 LamX PyProof.Rows
section
variable {X : Cx} {G : Wd} {W : WX} {a b c e : Expr} {ma mb mc : M} {pos : Pos} {H : Hp} {as : List Addr}
theorem RV.int_inv {v : V} {i : Int} (r : RV G.K H as v (.int i)) : v = .int i := by cases r; rfl
theorem RV.bl_inv {v : V} {i : Bool} (r : RV G.K H as v (.bl i)) : v = .bl i := by cases r; rfl
theorem RV.non_inv {v : V} (r : RV G.K H as v .non) : v = .non := by cases r; rfl
theorem RV.str_inv {v : V} {i : Tx} (r : RV G.K H as v (.str i)) : v = .str ⟨i.toArray⟩ := by cases r; rfl
theorem RV.tup_inv {v : V} {ds : List D} (r : RV G.K H as v (.tup ds)) : ∃ a vs, v = .ref a ∧ SqT G.K H a vs ∧ RL G.K H as vs ds := by cases r with | tup h l => exact ⟨_, _, rfl, h, l⟩
theorem RV.frl_inv {v : V} {ds : List D} (r : RV G.K H as v (.frl ds)) : ∃ a vs, v = .ref a ∧ FrL G.K H a vs ∧ RL G.K H as vs ds := by cases r with | frl h l => exact ⟨_, _, rfl, h, l⟩
theorem RV.ref_inv {v : V} {i : Nat} (r : RV G.K H as v (.ref i)) : ∃ a, v = .ref a ∧ as[i]? = some a := by cases r with | ref h => exact ⟨_, rfl, h⟩
theorem RH.lst {h : DH} (rh : RH G H as h) {i : Nat} {p : Addr} {xs : List D} (e : as[i]? = some p) (q : h[i]? = some (.lst xs)) : ∃ vs, H p = some (.lst vs) ∧ RL G.K H as vs xs := rh.ob i p _ e q
theorem RH.ins {h : DH} (rh : RH G H as h) {i : Nat} {p : Addr} {c : Nat} {fs : List (Nat × D)} (e : as[i]? = some p) (q : h[i]? = some (.ins c fs)) : ∃ dx fvs, H p = some (.ins (G.cls c) dx fvs) ∧ RF G H as fvs fs ∧ Cls G.K (G.cls c) ∧ ∀ p ∈ fs, NoAttr G.K (G.cls c) (G.fnm p.1) := rh.ob i p _ e q
theorem nosize {K : PySem.W.Frag} {vs : List V} {ds : List D} (l : RL K H as vs ds) : vs.length = ds.length := l.length

def rMulS : R2 := fun x y H Q => ∃ (z : Tx) (n : Int), x = .str ⟨z.toArray⟩ ∧ y = .int n ∧ n < 2 ^ 62 ∧ -(2 ^ 62) < n ∧ z.length * n.toNat ≤ sizeLine ∧ Q (.str ⟨(List.replicate n.toNat z).flatten.toArray⟩) H
theorem fold_rep (z : Tx) : ∀ (n : Nat) (acc : Array Nat), (List.replicate n z.toArray).foldl (fun (a b : Array Nat) => a ++ b) acc = acc ++ ((List.replicate n z).flatten).toArray
  | 0, acc => by simp
  | n + 1, acc => by
    rw [List.replicate_succ, List.foldl_cons, fold_rep z n, List.replicate_succ, List.flatten_cons, Array.append_assoc]
    simp
theorem mul_txt (z : Tx) (n : Int) : Txt.mul ⟨z.toArray⟩ n = ⟨(List.replicate n.toNat z).flatten.toArray⟩ := by
  unfold Txt.mul
  by_cases h1 : n < 1
  · rw [if_pos h1]
    have : n.toNat = 0 := by omega
    rw [this]
    rfl
  · rw [if_neg h1]
    by_cases h2 : (n == 1 || (⟨z.toArray⟩ : Str).length == 0) = true
    · rw [if_pos h2]
      rw [Bool.or_eq_true, beq_iff_eq, beq_iff_eq, s_len] at h2
      rcases h2 with h2 | h2
      · subst h2
        simp
      · have : z = [] := List.length_eq_zero_iff.mp h2
        subst this
        simp
    · rw [if_neg h2, fold_rep]
      simp
/-- * of two factors of together less than a hundred million bits -/
def CMulV (i j : Int) : Prop := i.natAbs.log2 + j.natAbs.log2 < 100000000
theorem CMulV.ok {i j : Int} (h : CMulV i j) : IntMulOk i j := by
  have b : ∀ x : Int, Builtin.Int.intBits x ≤ x.natAbs.log2 + 1 := fun x => by
    unfold Builtin.Int.intBits
    split <;> omega
  have h1 := b i
  have h2 := b j
  unfold CMulV at h
  have e : bitsLine = 134217728 := by decide
  intro z
  rw [Bool.and_eq_true] at z
  have z2 := z.2
  unfold Builtin.Int.intTooBig at z2
  have z3 := of_decide_eq_true z2
  rw [e] at z3
  omega
theorem op_mulV : OpR X (binaryOp .Mult) (rI CMulV fun i j => .int (i * j)) := opI fun _ _ _ _ _ _ _ hc q => mul_int q hc.ok
theorem op_mulS : OpR X (binaryOp .Mult) rMulS := by
  intro pins s σ H x y v u Q I rx ry h
  obtain ⟨z, n, rfl, rfl, h1, h3, h2, q⟩ := h
  obtain ⟨t, rfl⟩ := rx
  obtain ⟨t', rfl⟩ := ry
  refine SB.mul ⟨?_, fun h4 _ => ?_, fun h4 _ => ?_⟩ fun t' k => ?_
  · have a1 : ¬ n < -(2 ^ 63 : Int) := by omega
    have a2 : ¬ n ≥ 2 ^ 63 := by omega
    rw [decide_eq_false a1, decide_eq_false a2]
    rfl
  · rw [s_len]
    intro h5
    have e : ((z.length * n.toNat : Nat) : Int) ≤ 16777216 := by
      rw [sizeLine_eq] at h2
      omega
    have e2 : ((z.length * n.toNat : Nat) : Int) = (z.length : Int) * n := by
      rw [Int.natCast_mul, Int.toNat_of_nonneg (by omega)]
    rw [e2] at e
    have h6 := Int.lt_mul_of_ediv_lt (by omega : 0 < n) h5
    omega
  · rw [s_len]
    exact decide_eq_false (by omega)
  · rw [mul_txt]
    exact ⟨.str _, H, I.tok _, ⟨_, rfl⟩, q⟩

/-! ### the operators -/
theorem op_Add : OpR X (binaryOp .Add) (fun x y H Q => rI0 (fun i j => .int (i + j)) x y H Q ∨ (∃ i j, x = .str i ∧ y = .str j ∧ i.length + j.length ≤ sizeLine ∧ Q (.str (i ++ j)) H) ∨ rCat x y H Q ∨ rCatA X.K x y H Q) :=
  op_add.or (op_add_str.or (op_cat.or op_catA))
theorem tE_add (hK : X.K = G.K) (pa : PE X a (tE G W ma)) (pb : PE X b (tE G W mb)) : PE X (.BinOp a .Add b pos) (tE G W (mBin .Add ma mb)) := by
  refine tE_op (pe_op op_Add pa pb) fun x y dx dy H as h Q E rx ry rh o => ?_
  rw [hK]
  have o : OutE (dAdd dx dy h) G H as Q E := o
  unfold dAdd at o
  split at o
  · cases rx; cases ry
    exact .inl ⟨_, _, rfl, rfl, o _ _ _ (Ext.refl _ _) (.int _) rh⟩
  · split at o
    · rename_i hl
      cases rx; cases ry
      refine .inr (.inl ⟨_, _, rfl, rfl, by rw [s_len, s_len]; exact hl, ?_⟩)
      rw [s_app]
      exact o _ _ _ (Ext.refl _ _) (.str _) rh
    · exact o.elim
  · split at o
    · rename_i xs ys e1 e2
      split at o
      · rename_i hl
        obtain ⟨p, rfl, ep⟩ := rx.ref_inv
        obtain ⟨q, rfl, eq⟩ := ry.ref_inv
        obtain ⟨vs, hp, lp⟩ := rh.lst ep e1
        obtain ⟨ws, hq, lq⟩ := rh.lst eq e2
        refine .inr (.inr (.inl ⟨p, q, vs, ws, rfl, rfl, hp, hq, by rw [lp.length, lq.length]; exact hl, fun z nz => ?_⟩))
        obtain ⟨x1, r1, r2⟩ := rh.lstNew nz (lp.app lq)
        exact o _ _ _ x1 r1 r2
      · exact o.elim
    · exact o.elim
  · split at o
    · rename_i hl
      obtain ⟨p, vs, rfl, hp, lp⟩ := rx.tup_inv
      obtain ⟨q, ws, rfl, hq, lq⟩ := ry.tup_inv
      refine .inr (.inr (.inr ⟨p, q, vs, ws, rfl, rfl, hp, hq, by rw [lp.length, lq.length]; exact hl, fun e => ?_, fun _ e => ?_, fun _ _ z nz => ?_⟩))
      · subst e
        cases lp
        exact o _ _ _ (Ext.refl _ _) (.tup hq lq) rh
      · subst e
        cases lq
        rw [List.append_nil] at o
        exact o _ _ _ (Ext.refl _ _) (.tup hp lp) rh
      · obtain ⟨x1, r1, r2⟩ := rh.tupNew nz (lp.app lq)
        exact o _ _ _ x1 r1 r2
    · exact o.elim
  · exact o.elim
theorem tE_sub (pa : PE X a (tE G W ma)) (pb : PE X b (tE G W mb)) : PE X (.BinOp a .Sub b pos) (tE G W (mBin .Sub ma mb)) := by
  refine tE_op (pe_op op_sub pa pb) fun x y dx dy H as h Q E rx ry rh o => ?_
  have o : OutE (dSub dx dy h) G H as Q E := o
  unfold dSub at o
  split at o
  · cases rx; cases ry
    exact ⟨_, _, rfl, rfl, o _ _ _ (Ext.refl _ _) (.int _) rh⟩
  · exact o.elim
theorem tE_mul (pa : PE X a (tE G W ma)) (pb : PE X b (tE G W mb)) : PE X (.BinOp a .Mult b pos) (tE G W (mBin .Mult ma mb)) := by
  refine tE_op (pe_op (op_mulV.or (op_mulS.or op_rep)) pa pb) fun x y dx dy H as h Q E rx ry rh o => ?_
  have o : OutE (dMul dx dy h) G H as Q E := o
  unfold dMul at o
  split at o
  · split at o
    · rename_i hl
      cases rx; cases ry
      exact .inl ⟨_, _, rfl, rfl, hl, o _ _ _ (Ext.refl _ _) (.int _) rh⟩
    · exact o.elim
  · split at o
    · rename_i hl
      cases rx; cases ry
      exact .inr (.inl ⟨_, _, rfl, rfl, hl.1, hl.2.1, hl.2.2, o _ _ _ (Ext.refl _ _) (.str _) rh⟩)
    · exact o.elim
  · split at o
    · rename_i xs e1
      split at o
      · rename_i hl
        obtain ⟨p, rfl, ep⟩ := rx.ref_inv
        obtain ⟨vs, hp, lp⟩ := rh.lst ep e1
        cases ry
        refine .inr (.inr ⟨p, _, vs, rfl, rfl, hp, by omega, by omega, by rw [lp.length]; exact hl.2.2, fun z nz => ?_⟩)
        obtain ⟨x1, r1, r2⟩ := rh.lstNew nz (lp.rep _)
        exact o _ _ _ x1 r1 r2
      · exact o.elim
    · exact o.elim
  · exact o.elim
theorem tE_mod (pa : PE X a (tE G W ma)) (pb : PE X b (tE G W mb)) : PE X (.BinOp a .Mod b pos) (tE G W (mBin .Mod ma mb)) := by
  refine tE_op (pe_op (op_mod.or op_modN) pa pb) fun x y dx dy H as h Q E rx ry rh o => ?_
  have o : OutE (dMod dx dy h) G H as Q E := o
  unfold dMod at o
  split at o
  · split at o
    · rename_i hl
      cases rx; cases ry
      exact .inl ⟨_, _, rfl, rfl, hl, o _ _ _ (Ext.refl _ _) (.int _) rh⟩
    · split at o
      · rename_i hl
        cases rx; cases ry
        exact .inr ⟨_, _, rfl, rfl, hl, o _ _ _ (Ext.refl _ _) (.int _) rh⟩
      · exact o.elim
  · exact o.elim
theorem tE_div (pa : PE X a (tE G W ma)) (pb : PE X b (tE G W mb)) : PE X (.BinOp a .FloorDiv b pos) (tE G W (mBin .FloorDiv ma mb)) := by
  refine tE_op (pe_op op_fdivW pa pb) fun x y dx dy H as h Q E rx ry rh o => ?_
  have o : OutE (dDiv dx dy h) G H as Q E := o
  unfold dDiv at o
  split at o
  · split at o
    · rename_i hl
      cases rx; cases ry
      exact ⟨_, _, rfl, rfl, hl, o _ _ _ (Ext.refl _ _) (.int _) rh⟩
    · exact o.elim
  · exact o.elim
theorem tE_pow (pa : PE X a (tE G W ma)) (pb : PE X b (tE G W mb)) : PE X (.BinOp a .Pow b pos) (tE G W (mBin .Pow ma mb)) := by
  refine tE_op (pe_op op_pow pa pb) fun x y dx dy H as h Q E rx ry rh o => ?_
  have o : OutE (dPow dx dy h) G H as Q E := o
  unfold dPow at o
  split at o
  · split at o
    · rename_i hl
      cases rx; cases ry
      exact ⟨_, _, rfl, rfl, hl, o _ _ _ (Ext.refl _ _) (.int _) rh⟩
    · exact o.elim
  · exact o.elim
theorem tE_neg (pa : PE X a (tE G W ma)) : PE X (.UnaryOp .USub a pos) (tE G W (mNeg ma)) := by
  refine tE_un (pe_un un_neg pa) fun x dx H as h Q E rx rh o => ?_
  split at o
  · cases rx
    exact ⟨_, rfl, o _ _ _ (Ext.refl _ _) (.int _) rh⟩
  · exact o.elim
end
end Mp

/-! Mp5: comparisons. -/
namespace Mp
open PySem L2 LamX PyProof.Rows
section
variable {K : PySem.W.Frag} {H : Hp} {as : List Addr}
mutual
theorem dp_of : ∀ {v : V} {d : D} {p : PyData}, RV K H as v d → pyD d = some p → Dp K H v p
  | _, _, _, .non, h => by cases h; exact .non
  | _, _, _, .bl b, h => by cases h; exact .bl b
  | _, _, _, .int i, h => by cases h; exact .int i
  | _, _, _, .str x, h => by cases h; exact .str _
  | _, _, _, .tup s l, h => by
    simp only [pyD, Option.map_eq_some_iff] at h
    obtain ⟨ps, e, rfl⟩ := h
    exact .tup s (dps_of l e)
  | _, _, _, .frl s l, h => by
    simp only [pyD, Option.map_eq_some_iff] at h
    obtain ⟨ps, e, rfl⟩ := h
    exact .lst s.sq (dps_of l e)
  | _, _, _, .ref _, h => by cases h
theorem dps_of : ∀ {vs : List V} {ds : List D} {ps : List PyData}, RL K H as vs ds → pyL ds = some ps → DpAll K H vs ps
  | _, _, _, .nil, h => by cases h; exact .nil
  | _, _, _, .cons r l, h => by
    simp only [pyL] at h
    split at h
    · rename_i a b e1 e2
      cases h
      exact .cons (dp_of r e1) (dps_of l e2)
    · cases h
end
end
section
variable {X : Cx} {G : Wd} {W : WX} {a b c e : Expr} {ma mb mc : M} {pos : Pos} {H : Hp} {as : List Addr}
theorem dpR_of {h : DH} {v : V} {d : D} {p : PyData} (rh : RH G H as h) (r : RV G.K H as v d) (e : pyR h d = some p) : Dp G.K H v p := by
  unfold pyR at e
  split at e
  · split at e
    · rename_i xs e1
      obtain ⟨p, rfl, ep⟩ := r.ref_inv
      obtain ⟨vs, hp, lp⟩ := rh.lst ep e1
      simp only [Option.map_eq_some_iff] at e
      obtain ⟨ps, e2, rfl⟩ := e
      exact .lst (SqL.of hp) (dps_of lp e2)
    · cases e
  · exact dp_of r e
theorem eq_use {h : DH} {x y : V} {dx dy : D} {k : Bool} (rx : RV G.K H as x dx) (ry : RV G.K H as y dy) (rh : RH G H as h) (e : dEqD dx dy h = some k) :
    ∃ p q, Dp G.K H x p ∧ Dp G.K H y q ∧ SeqAt.shaped p = true ∧ SeqAt.shaped q = true ∧ PyData.eqv p q = k := by
  unfold dEqD at e
  split at e
  · rename_i p q e1 e2
    split at e
    · rename_i hs
      rw [Bool.and_eq_true] at hs
      exact ⟨p, q, dpR_of rh rx e1, dpR_of rh ry e2, hs.1, hs.2, Option.some.inj e⟩
    · cases e
  · cases e
theorem eq_use2 {h : DH} {x y : V} {dx dy : D} {k : Bool} (rx : RV G.K H as x dx) (ry : RV G.K H as y dy) (rh : RH G H as h) (e : dEq dx dy h = some k) :
    (scal x y = true ∧ decide (x = y) = k) ∨ ∃ p q, Dp G.K H x p ∧ Dp G.K H y q ∧ SeqAt.shaped p = true ∧ SeqAt.shaped q = true ∧ PyData.eqv p q = k := by
  unfold dEq at e
  split at e
  · rename_i a b
    cases rx; cases ry
    refine .inl ⟨rfl, ?_⟩
    rw [← Option.some.inj e, decide_eq_decide]
    constructor
    · intro z
      have z := V.str.inj z
      have z := congrArg (fun s : PySem.Str => s.cps.toList) z
      simpa using z
    · rintro rfl; rfl
  · exact .inr (eq_use rx ry rh e)
/-- the tests of a comparison -/
theorem tE_cmpR {op : CmpOp} {r : R2} (ho : OpR X (compareOp op) r) (pa : PE X a (tE G W ma)) (pb : PE X b (tE G W mb)) (hm : behindInMarks op b = false)
    (hr : ∀ (x y : V) (dx dy : D) (H : Hp) (as : List Addr) (h : DH) (Q : VK) (k : Bool), RV G.K H as x dx → RV G.K H as y dy → RH G H as h → dCmp op dx dy h = some k → Q (.bl k) H → r x y H Q) :
    PE X (.Compare a [op] [b] pos) (tE G W (mCmp op ma mb)) ∧ PT X (.Compare a [op] [b] pos) (tT G W (mCmp op ma mb)) := by
  have hr2 : ∀ (x y : V) (dx dy : D) (H : Hp) (as : List Addr) (h : DH) (Q : VK) (E : XK), RV G.K H as x dx → RV G.K H as y dy → RH G H as h → OutE (optB (dCmp op dx dy h) h) G H as Q E → r x y H Q := fun x y dx dy H as h Q E rx ry rh o => by
    unfold optB at o
    split at o
    · rename_i k e
      exact hr x y dx dy H as h Q k rx ry rh e (o _ _ _ (Ext.refl _ _) (.bl _) rh)
    · exact o.elim
  refine ⟨tE_op (pe_cmpR ho pa pb hm) hr2, PT.imp (pt_cmpR ho pa pb hm) fun σ H Q q => ?_⟩
  obtain ⟨as, h, en, rh, re, o⟩ := q
  refine ⟨as, h, en, rh, re, (OutR.bind o).imp fun x H1 n => ?_⟩
  obtain ⟨dx, h1, as1, x1, rx, rh1, re1, o1⟩ := At.nxt re n
  refine ⟨as1, h1, en, rh1, re1, (OutR.bind o1).imp fun y H2 n => ?_⟩
  obtain ⟨dy, h2, as2, x2, ry, rh2, re2, o2⟩ := At.nxt re1 n
  exact hr2 x y dx dy H2 as2 h2 _ _ (rx.mono x2.toEx0) ry rh2 o2
/-- an operator's rule, by the plain comparison -/
def CmpR (X : Cx) (G : Wd) (op : CmpOp) : Prop := ∃ r : R2, OpR X (compareOp op) r ∧ ∀ (x y : V) (dx dy : D) (H : Hp) (as : List Addr) (h : DH) (Q : VK) (k : Bool), RV G.K H as x dx → RV G.K H as y dy → RH G H as h → dCmp op dx dy h = some k → Q (.bl k) H → r x y H Q
theorem cmp_eq (hK : X.K = G.K) (hu : X.A.units + 64 < cLine) : CmpR X G .Eq := ⟨_, op_eq.or (op_eqD hu), fun x y dx dy H as h Q k rx ry rh e q => by
  rcases eq_use2 rx ry rh e with ⟨z1, z2⟩ | ⟨p, q', d1, d2, s1, s2, e'⟩
  · exact .inl ⟨z1, by rw [z2]; exact q⟩
  · rw [hK]
    exact .inr ⟨p, q', d1, d2, s1, s2, by rw [e']; exact q⟩⟩
theorem cmp_ne (hK : X.K = G.K) (hu : X.A.units + 64 < cLine) : CmpR X G .NotEq := ⟨_, op_ne.or (op_neD hu), fun x y dx dy H as h Q k rx ry rh e q => by
  simp only [dCmp, Option.map_eq_some_iff] at e
  obtain ⟨k', e, rfl⟩ := e
  rcases eq_use2 rx ry rh e with ⟨z1, z2⟩ | ⟨p, q', d1, d2, s1, s2, e'⟩
  · exact .inl ⟨z1, by rw [z2]; exact q⟩
  · rw [hK]
    exact .inr ⟨p, q', d1, d2, s1, s2, by rw [e']; exact q⟩⟩
theorem cmp_lt : CmpR X G .Lt := ⟨_, op_lt.or op_lt_str, fun x y dx dy H as h Q k rx ry rh e q => by
  simp only [dCmp, dLt] at e
  split at e
  · cases rx; cases ry; cases e
    exact .inl ⟨_, _, rfl, rfl, q⟩
  · cases rx; cases ry; cases e
    exact .inr ⟨_, _, rfl, rfl, q⟩
  · cases e⟩
theorem cmp_gt : CmpR X G .Gt := ⟨_, op_gt.or op_gt_str, fun x y dx dy H as h Q k rx ry rh e q => by
  simp only [dCmp, dLt] at e
  split at e
  · cases rx; cases ry; cases e
    exact .inl ⟨_, _, rfl, rfl, q⟩
  · cases rx; cases ry; cases e
    exact .inr ⟨_, _, rfl, rfl, q⟩
  · cases e⟩
theorem cmp_le : CmpR X G .LtE := ⟨_, op_le.or op_le_str, fun x y dx dy H as h Q k rx ry rh e q => by
  simp only [dCmp, dLe] at e
  split at e
  · cases rx; cases ry; cases e
    exact .inl ⟨_, _, rfl, rfl, q⟩
  · cases rx; cases ry; cases e
    exact .inr ⟨_, _, rfl, rfl, q⟩
  · cases e⟩
theorem cmp_ge : CmpR X G .GtE := ⟨_, op_ge.or op_ge_str, fun x y dx dy H as h Q k rx ry rh e q => by
  simp only [dCmp, dLe] at e
  split at e
  · cases rx; cases ry; cases e
    exact .inl ⟨_, _, rfl, rfl, q⟩
  · cases rx; cases ry; cases e
    exact .inr ⟨_, _, rfl, rfl, q⟩
  · cases e⟩
theorem isN_V {x : V} {d : D} (r : RV G.K H as x d) : decide (x = .non) = isNon d := by
  cases r <;> simp [isNon]
theorem cmp_is : CmpR X G .Is := ⟨_, op_isN, fun x y dx dy H as h Q k rx ry rh e q => by
  simp only [dCmp, dIsN] at e
  split at e
  · cases ry; cases e
    exact ⟨rfl, by rw [isN_V rx]; exact q⟩
  · cases e⟩
theorem cmp_isnot : CmpR X G .IsNot := ⟨_, op_notN, fun x y dx dy H as h Q k rx ry rh e q => by
  simp only [dCmp, dIsN, Option.map_eq_some_iff] at e
  obtain ⟨k', e, rfl⟩ := e
  split at e
  · cases ry; cases e
    exact ⟨rfl, by rw [isN_V rx]; exact q⟩
  · cases e⟩
theorem strs_flat {vs : List V} {ds : List D} {zs : List Tx} : RL G.K H as vs ds → strsOf ds = some zs → vs = zs.map fun z => V.str ⟨z.toArray⟩ := by
  intro l
  induction ds generalizing vs zs with
  | nil => intro e; cases l; cases e; rfl
  | cons d ds ih =>
    intro e
    cases l with
    | cons r l =>
      cases d with
      | str x =>
        simp only [strsOf, Option.map_eq_some_iff] at e
        obtain ⟨zs', e, rfl⟩ := e
        cases r
        rw [ih l e]
        rfl
      | _ => cases e
theorem inV_strs (x : Tx) (zs : List Tx) : inV (.str ⟨x.toArray⟩) (zs.map fun z => V.str ⟨z.toArray⟩) = decide (x ∈ zs) := by
  induction zs with
  | nil => simp [inV]
  | cons z zs ih =>
    unfold inV at ih ⊢
    rw [List.map_cons, List.any_cons, ih]
    have : eqV (.str ⟨z.toArray⟩) (.str ⟨x.toArray⟩) = decide (x = z) := by
      unfold eqV
      by_cases q : x = z
      · subst q; simp
      · have : ¬ ((⟨z.toArray⟩ : Str) = ⟨x.toArray⟩) := fun w => q (by
          have := congrArg (fun s : Str => s.cps.toList) w
          simpa using this.symm)
        rw [decide_eq_false q]
        exact beq_eq_false_iff_ne.mpr this
    rw [this]
    simp [List.mem_cons, Bool.decide_or]
theorem flat_strs (zs : List Tx) : (zs.map fun z => V.str ⟨z.toArray⟩).all flatV = true := by
  rw [List.all_eq_true]
  intro v hv
  obtain ⟨z, _, rfl⟩ := List.mem_map.mp hv
  rfl
theorem ints_flat {vs : List V} {ds : List D} {zs : List Int} : RL G.K H as vs ds → intsOf ds = some zs → vs = zs.map V.int := by
  intro l
  induction ds generalizing vs zs with
  | nil => intro e; cases l; cases e; rfl
  | cons d ds ih =>
    intro e
    cases l with
    | cons r l =>
      cases d with
      | int x =>
        simp only [intsOf, Option.map_eq_some_iff] at e
        obtain ⟨zs', e, rfl⟩ := e
        cases r
        rw [ih l e]
        rfl
      | _ => cases e
theorem inV_ints (x : Int) (zs : List Int) : inV (.int x) (zs.map V.int) = decide (x ∈ zs) := by
  induction zs with
  | nil => simp [inV]
  | cons z zs ih =>
    unfold inV at ih ⊢
    rw [List.map_cons, List.any_cons, ih]
    have : eqV (.int z) (.int x) = decide (x = z) := by
      by_cases q : x = z
      · subst q; simp [eqV]
      · rw [decide_eq_false q]
        exact beq_eq_false_iff_ne.mpr (fun w => q w.symm)
    rw [this]
    simp [List.mem_cons, Bool.decide_or]
theorem flat_ints (zs : List Int) : (zs.map V.int).all flatV = true := by
  rw [List.all_eq_true]
  intro v hv
  obtain ⟨z, _, rfl⟩ := List.mem_map.mp hv
  rfl
theorem in_use {h : DH} {x y : V} {dx dy : D} {k : Bool} (rx : RV G.K H as x dx) (ry : RV G.K H as y dy) (rh : RH G H as h) (e : dIn dx dy h = some k) :
    (∃ (c : Nat) (z : Str), x = .str ⟨#[c]⟩ ∧ y = .str z ∧ decide (c ∈ z.cps.toList) = k) ∨ ∃ p xs, y = .ref p ∧ (SqL G.K H p xs ∨ SqT G.K H p xs) ∧ flatV x = true ∧ xs.all flatV = true ∧ inV x xs = k := by
  unfold dIn at e
  split at e
  · simp only [Option.map_eq_some_iff] at e
    obtain ⟨zs, e, rfl⟩ := e
    obtain ⟨p, vs, rfl, hp, lp⟩ := ry.tup_inv
    have := ints_flat lp e
    subst this
    cases rx
    exact .inr ⟨p, _, rfl, .inr hp, rfl, flat_ints zs, inV_ints _ _⟩
  · cases rx; cases ry; cases e
    exact .inl ⟨_, _, rfl, rfl, rfl⟩
  · simp only [Option.map_eq_some_iff] at e
    obtain ⟨zs, e, rfl⟩ := e
    obtain ⟨p, vs, rfl, hp, lp⟩ := ry.tup_inv
    have := strs_flat lp e
    subst this
    cases rx
    exact .inr ⟨p, _, rfl, .inr hp, rfl, flat_strs zs, inV_strs _ _⟩
  · split at e
    · rename_i ys e1
      simp only [Option.map_eq_some_iff] at e
      obtain ⟨zs, e, rfl⟩ := e
      obtain ⟨p, rfl, ep⟩ := ry.ref_inv
      obtain ⟨vs, hp, lp⟩ := rh.lst ep e1
      have := strs_flat lp e
      subst this
      cases rx
      exact .inr ⟨p, _, rfl, .inl (SqL.of hp), rfl, flat_strs zs, inV_strs _ _⟩
    · cases e
  · cases e
theorem cmp_in (hK : X.K = G.K) : CmpR X G .In := ⟨_, op_in_sign.or op_in_seq, fun x y dx dy H as h Q k rx ry rh e q => by
  rcases in_use rx ry rh e with ⟨c, z, e1, e2, e3⟩ | ⟨p, xs, e1, e2, e3, e4, e5⟩
  · exact .inl ⟨c, z, e1, e2, by rw [e3]; exact q⟩
  · rw [hK]
    exact .inr ⟨p, xs, e1, e2, e3, e4, by rw [if_neg Bool.false_ne_true, e5]; exact q⟩⟩
theorem cmp_notin (hK : X.K = G.K) : CmpR X G .NotIn := ⟨_, op_notIn_sign.or op_notIn_seq, fun x y dx dy H as h Q k rx ry rh e q => by
  simp only [dCmp, Option.map_eq_some_iff] at e
  obtain ⟨k', e, rfl⟩ := e
  rcases in_use rx ry rh e with ⟨c, z, e1, e2, e3⟩ | ⟨p, xs, e1, e2, e3, e4, e5⟩
  · exact .inl ⟨c, z, e1, e2, by rw [e3]; exact q⟩
  · rw [hK]
    exact .inr ⟨p, xs, e1, e2, e3, e4, by rw [if_pos rfl, e5]; exact q⟩⟩
theorem cmp_all (hK : X.K = G.K) (hu : X.A.units + 64 < cLine) : ∀ op : CmpOp, CmpR X G op
  | .Eq => cmp_eq hK hu
  | .NotEq => cmp_ne hK hu
  | .Lt => cmp_lt
  | .LtE => cmp_le
  | .Gt => cmp_gt
  | .GtE => cmp_ge
  | .Is => cmp_is
  | .IsNot => cmp_isnot
  | .In => cmp_in hK
  | .NotIn => cmp_notin hK
theorem tE_cmp {op : CmpOp} (ho : CmpR X G op) (pa : PE X a (tE G W ma)) (pb : PE X b (tE G W mb)) (hm : behindInMarks op b = false) :
    PE X (.Compare a [op] [b] pos) (tE G W (mCmp op ma mb)) ∧ PT X (.Compare a [op] [b] pos) (tT G W (mCmp op ma mb)) := by
  obtain ⟨r, h1, h2⟩ := ho
  exact tE_cmpR h1 pa pb hm h2
end
end Mp

/-! Mp6: tests, subscripts, slices, attributes. -/
namespace Mp
open PySem L2 LamX PyProof.Rows
section
variable {X : Cx} {G : Wd} {W : WX} {a b c e : Expr} {ma mb mc : M} {pos : Pos} {H : Hp} {as : List Addr}
/-- a part, then a test of it -/
theorem tT_of {e : Expr} (p : PE X e (tE G W ma)) (he : ∀ whole, isTrue e X.env whole = (do let v ← whole; standAt e.pos; holding [v] (truthy v))) : PT X e (tT G W ma) :=
  PT.imp (pt_val p he) fun σ H Q h => h
theorem tE_chain {op op' : CmpOp} (ho : CmpR X G op) (ho' : CmpR X G op') (pa : PE X a (tE G W ma)) (pb : PE X b (tE G W mb)) (pc : PE X c (tE G W mc)) (hm : lastMarks [op, op'] [b, c] = false) :
    PE X (.Compare a [op, op'] [b, c] pos) (tE G W (mChain op op' ma mb mc)) ∧ PT X (.Compare a [op, op'] [b, c] pos) (tT G W (mChain op op' ma mb mc)) := by
  obtain ⟨r, h1, h2⟩ := ho
  obtain ⟨r', h1', h2'⟩ := ho'
  have key : ∀ σ H (Q : VK), tE G W (mChain op op' ma mb mc) σ H Q → tChain r r' (tE G W ma) (tE G W mb) (tE G W mc) σ H Q := fun σ H Q ⟨as, h, en, rh, re, o⟩ => by
    refine ⟨as, h, en, rh, re, (OutR.bind o).imp fun x H1 n => ?_⟩
    obtain ⟨dx, h1, as1, x1, rx, rh1, re1, o1⟩ := At.nxt re n
    refine ⟨as1, h1, en, rh1, re1, (OutR.bind o1).imp fun y H2 n => ?_⟩
    obtain ⟨dy, hh, as2, x2, ry, rh2, re2, o2⟩ := At.nxt re1 n
    cases e1 : dCmp op dx dy hh with
    | none => rw [e1] at o2; exact o2.elim
    | some k =>
      rw [e1] at o2
      refine h2 x y dx dy H2 as2 hh _ k (rx.mono x2.toEx0) ry rh2 e1 ⟨k, rfl, ?_⟩
      cases k with
      | false => exact iteF (o2 _ _ _ (Ext.refl _ _) (.bl _) rh2)
      | true =>
        refine iteT ⟨as2, hh, en, rh2, re2, (OutR.bind (show OutE ((mc en hh).bind fun z h4 => optB (dCmp op' dy z h4) h4) G H2 as2 Q _ from o2)).imp fun z H3 n => ?_⟩
        obtain ⟨dz, h3, as3, x3, rz, rh3, re3, o3⟩ := At.nxt re2 n
        cases e2 : dCmp op' dy dz h3 with
        | none => rw [e2] at o3; exact o3.elim
        | some k =>
          rw [e2] at o3
          exact h2' y z dy dz H3 as3 h3 _ k (ry.mono x3.toEx0) rz rh3 e2 (o3 _ _ _ (Ext.refl _ _) (.bl _) rh3)
  exact ⟨PE.imp (pe_chain h1 h1' pa pb pc hm) key, PT.imp (pt_chain h1 h1' pa pb pc hm) fun σ H Q h => key σ H _ h⟩
theorem tE_ife {c : Expr} (pc : PT X c (tT G W mc)) (pa : PE X a (tE G W ma)) (pb : PE X b (tE G W mb)) : PE X (.IfExp c a b pos) (tE G W (mIf mc ma mb)) := PE.imp (pe_ifExp pc pa pb) fun σ H Q ⟨as, h, en, rh, re, o⟩ => by
  refine ⟨as, h, en, rh, re, (OutR.bind o).imp fun x H1 n => ?_⟩
  obtain ⟨dx, h1, as1, x1, rx, rh1, re1, o1⟩ := At.nxt re n
  split at o1
  · cases rx
    exact ⟨true, rfl, iteT ⟨as1, h1, en, rh1, re1, o1⟩⟩
  · cases rx
    exact ⟨false, rfl, iteF ⟨as1, h1, en, rh1, re1, o1⟩⟩
  · exact o1.elim
theorem tT_not (pa : PT X a (tT G W ma)) : PT X (.UnaryOp .Not a pos) (tT G W (mNot ma)) := PT.imp (pt_not pa) fun σ H Q ⟨as, h, en, rh, re, o⟩ => by
  refine ⟨as, h, en, rh, re, (OutR.bind o).imp fun x H1 n => ?_⟩
  obtain ⟨dx, h1, as1, x1, rx, rh1, re1, o1⟩ := At.nxt re n
  split at o1
  · cases rx
    obtain ⟨b, e, q⟩ := o1 _ _ _ (Ext.refl _ _) (.bl _) rh1
    cases e
    exact ⟨_, rfl, q⟩
  · exact o1.elim
theorem tE_not (pa : PE X a (tE G W ma)) : PE X (.UnaryOp .Not a pos) (tE G W (mNot ma)) := PE.imp (pe_not pa) fun σ H Q ⟨as, h, en, rh, re, o⟩ => by
  refine ⟨as, h, en, rh, re, (OutR.bind o).imp fun x H1 n => ?_⟩
  obtain ⟨dx, h1, as1, x1, rx, rh1, re1, o1⟩ := At.nxt re n
  split at o1
  · cases rx
    exact ⟨_, rfl, o1 _ _ _ (Ext.refl _ _) (.bl _) rh1⟩
  · exact o1.elim
/-! ### and, or: the values in a row -/
variable {rest : List Expr}
theorem tE_and (pa : PE X a (tE G W ma)) (pb : PE X (.BoolOp .And (b :: rest) pos) (tE G W mb)) : PE X (.BoolOp .And (a :: b :: rest) pos) (tE G W (mAnd ma mb)) := PE.imp (pe_and pa pb) fun σ H Q ⟨as, h, en, rh, re, o⟩ => by
  refine ⟨as, h, en, rh, re, (OutR.bind o).imp fun x H1 n => ?_⟩
  obtain ⟨dx, h1, as1, x1, rx, rh1, re1, o1⟩ := At.nxt re n
  split at o1
  · cases rx
    exact ⟨true, rfl, iteT ⟨as1, h1, en, rh1, re1, o1⟩⟩
  · cases rx
    exact ⟨false, rfl, iteF (o1 _ _ _ (Ext.refl _ _) (.bl _) rh1)⟩
  · exact o1.elim
theorem tE_or (pa : PE X a (tE G W ma)) (pb : PE X (.BoolOp .Or (b :: rest) pos) (tE G W mb)) : PE X (.BoolOp .Or (a :: b :: rest) pos) (tE G W (mOr ma mb)) := PE.imp (pe_or pa pb) fun σ H Q ⟨as, h, en, rh, re, o⟩ => by
  refine ⟨as, h, en, rh, re, (OutR.bind o).imp fun x H1 n => ?_⟩
  obtain ⟨dx, h1, as1, x1, rx, rh1, re1, o1⟩ := At.nxt re n
  split at o1
  · cases rx
    exact ⟨true, rfl, iteT (o1 _ _ _ (Ext.refl _ _) (.bl _) rh1)⟩
  · cases rx
    exact ⟨false, rfl, iteF ⟨as1, h1, en, rh1, re1, o1⟩⟩
  · exact o1.elim
theorem PW.imp {e : Expr} {t t' : TT} (p : PW X e t) (k : ∀ σ H Q, t' σ H Q → t σ H Q) : PW X e t' := ⟨fun wh pins s σ H Q I h => p.run wh pins s σ H Q I (k _ _ _ h)⟩
theorem tW_and (pa : PT X a (tT G W ma)) (pb : PW X (.BoolOp .And (b :: rest) pos) (tT G W mb)) : PW X (.BoolOp .And (a :: b :: rest) pos) (tT G W (mAnd ma mb)) := PW.imp (pw_and pa pb) fun σ H Q ⟨as, h, en, rh, re, o⟩ => by
  refine ⟨as, h, en, rh, re, (OutR.bind o).imp fun x H1 n => ?_⟩
  obtain ⟨dx, h1, as1, x1, rx, rh1, re1, o1⟩ := At.nxt re n
  split at o1
  · cases rx
    exact ⟨true, rfl, iteT ⟨as1, h1, en, rh1, re1, o1⟩⟩
  · cases rx
    obtain ⟨b, e, q⟩ := o1 _ _ _ (Ext.refl _ _) (.bl _) rh1
    cases e
    exact ⟨false, rfl, iteF q⟩
  · exact o1.elim
theorem tW_or (pa : PT X a (tT G W ma)) (pb : PW X (.BoolOp .Or (b :: rest) pos) (tT G W mb)) : PW X (.BoolOp .Or (a :: b :: rest) pos) (tT G W (mOr ma mb)) := PW.imp (pw_or pa pb) fun σ H Q ⟨as, h, en, rh, re, o⟩ => by
  refine ⟨as, h, en, rh, re, (OutR.bind o).imp fun x H1 n => ?_⟩
  obtain ⟨dx, h1, as1, x1, rx, rh1, re1, o1⟩ := At.nxt re n
  split at o1
  · cases rx
    obtain ⟨b, e, q⟩ := o1 _ _ _ (Ext.refl _ _) (.bl _) rh1
    cases e
    exact ⟨true, rfl, iteT q⟩
  · cases rx
    exact ⟨false, rfl, iteF ⟨as1, h1, en, rh1, re1, o1⟩⟩
  · exact o1.elim
/-! ### subscripts -/
theorem atI_map {vs : List V} {ds : List D} {i : Int} {d : D} (l : RL G.K H as vs ds) (e : atI ds i = some d) : ∃ v, atI vs i = some v ∧ RV G.K H as v d := by
  unfold atI at e ⊢
  rw [l.length]
  cases q : ixN ds.length i with
  | none => rw [q] at e; cases e
  | some j =>
    rw [q] at e
    exact l.get e
theorem tE_idx (hK : X.K = G.K) (pa : PE X a (tE G W ma)) (pb : PE X b (tE G W mb)) (hs : PlainIx b) : PE X (.Subscript a b pos) (tE G W (mIdx ma mb)) := by
  refine tE_op (pe_ix ix_seq pa pb hs) fun x y dx dy H as h Q E rx ry rh o => ?_
  rw [hK]
  unfold dIdx at o
  split at o
  · rename_i xs i
    obtain ⟨p, vs, rfl, hp, lp⟩ := rx.tup_inv
    cases ry
    cases e : atI xs i with
    | none => rw [e] at o; exact o.elim
    | some d =>
      rw [e] at o
      obtain ⟨v, e2, rv⟩ := atI_map lp e
      exact .inr (.inl ⟨p, vs, i, v, rfl, rfl, hp, e2, o _ _ _ (Ext.refl _ _) rv rh⟩)
  · rename_i xs i
    obtain ⟨p, vs, rfl, hp, lp⟩ := rx.frl_inv
    cases ry
    cases e : atI xs i with
    | none => rw [e] at o; exact o.elim
    | some d =>
      rw [e] at o
      obtain ⟨v, e2, rv⟩ := atI_map lp e
      exact .inl ⟨p, vs, i, v, rfl, rfl, hp.sq, e2, o _ _ _ (Ext.refl _ _) rv rh⟩
  · rename_i z i
    split at o
    · rename_i hl
      cases rx; cases ry
      cases e : atI z i with
      | none => rw [e] at o; exact o.elim
      | some c =>
        rw [e] at o
        exact .inr (.inr ⟨_, i, c, rfl, rfl, by rw [s_len]; exact hl, e, o _ _ _ (Ext.refl _ _) (RV.str [c]) rh⟩)
    · exact o.elim
  · split at o
    · rename_i j i _ xs e1
      obtain ⟨p, rfl, ep⟩ := rx.ref_inv
      obtain ⟨vs, hp, lp⟩ := rh.lst ep e1
      cases ry
      cases e : atI xs i with
      | none => rw [e] at o; exact o.elim
      | some d =>
        rw [e] at o
        obtain ⟨v, e2, rv⟩ := atI_map lp e
        exact .inl ⟨p, vs, i, v, rfl, rfl, SqL.of hp, e2, o _ _ _ (Ext.refl _ _) rv rh⟩
    · exact o.elim
  · exact o.elim
/-! ### slices -/
def tP (G : Wd) (W : WX) (m : Option M) : TO := fun σ H Q => At G σ H fun e h as => OutR (fun _ _ (v d : Option Int) => v = d) (evP m e h) G H as Q fun c d H' => W c d σ H'
theorem PO.imp {e : Option Expr} {t t' : TO} (p : PO X e t) (k : ∀ σ H Q, t' σ H Q → t σ H Q) : PO X e t' := ⟨fun pins s σ H Q I h => p.run pins s σ H Q I (k _ _ _ h)⟩
theorem tP_none : PO X none (tP G W none) := PO.imp po_none fun σ H Q ⟨as, h, en, rh, re, o⟩ => o none H as (Ext.refl _ _) rfl rh
theorem tP_some (p : PE X e (tE G W ma)) : PO X (some e) (tP G W (some ma)) := PO.imp (po_some p) fun σ H Q ⟨as, h, en, rh, re, o⟩ => by
  refine ⟨as, h, en, rh, re, (OutR.bind (rel := RV G.K) o).imp fun x H1 n => ?_⟩
  obtain ⟨dx, h1, as1, x1, rx, rh1, re1, o1⟩ := At.nxt re n
  split at o1
  · cases rx
    exact ⟨_, rfl, o1 _ _ _ (Ext.refl _ _) rfl rh1⟩
  · exact o1.elim
theorem cut_RL {vs : List V} {ds : List D} (l : RL G.K H as vs ds) (lo hi : Option Int) : RL G.K H as (cutV vs lo hi) (cutG ds lo hi) := by
  unfold cutV cutG
  rw [l.length]
  exact (l.drop _).take _
theorem cutS_eq (z : Tx) (lo hi : Option Int) : cutS ⟨z.toArray⟩ lo hi = ⟨(cutG z lo hi).toArray⟩ := by
  unfold cutS cutG
  rw [s_len]
theorem tE_slc (hK : X.K = G.K) {lo hi : Option Expr} {ml mh : Option M} {p2 : Pos} (pa : PE X a (tE G W ma)) (pl : PO X lo (tP G W ml)) (ph : PO X hi (tP G W mh)) : PE X (.Subscript a (.Slice lo hi none p2) pos) (tE G W (mSlc ma ml mh)) :=
  PE.imp (pe_slice (sl_str.or (sl_list.or sl_tupA)) pa pl ph) fun σ H Q ⟨as, h, en, rh, re, o⟩ => by
  refine ⟨as, h, en, rh, re, (OutR.bind o).imp fun x H1 n => ?_⟩
  obtain ⟨dx, h1, as1, x1, rx, rh1, re1, o1⟩ := At.nxt re n
  refine ⟨as1, h1, en, rh1, re1, (OutR.bind (rel := fun _ _ (v d : Option Int) => v = d) o1).imp fun l H2 n => ?_⟩
  obtain ⟨dl, h2, as2, x2, el, rh2, o2⟩ := n
  subst el
  refine ⟨as2, h2, en, rh2, re1.mono x2.toEx0, (OutR.bind (rel := fun _ _ (v d : Option Int) => v = d) o2).imp fun u H3 n => ?_⟩
  obtain ⟨du, h3, as3, x3, eu, rh3, o3⟩ := n
  subst eu
  have rx3 := (rx.mono x2.toEx0).mono x3.toEx0
  rw [hK]
  unfold dSlc at o3
  split at o3
  · split at o3
    · rename_i hl
      cases rx3
      refine .inl ⟨_, rfl, by rw [s_len]; exact hl, ?_⟩
      rw [cutS_eq]
      exact o3 _ _ _ (Ext.refl _ _) (.str _) rh3
    · exact o3.elim
  · obtain ⟨p, vs, rfl, hp, lp⟩ := rx3.tup_inv
    refine .inr (.inr ⟨p, vs, rfl, hp, fun hw => ?_, fun hw z nz => ?_⟩)
    · refine o3 _ _ _ (Ext.refl _ _) (.tup hp ?_) rh3
      have := cut_RL lp l u
      unfold cutV at this
      rw [hw.1, hw.2, List.drop_zero, Nat.sub_zero, List.take_length] at this
      exact this
    · obtain ⟨x1, r1, r2⟩ := rh3.tupNew nz (cut_RL lp l u)
      exact o3 _ _ _ x1 r1 r2
  · split at o3
    · rename_i i xs e1
      obtain ⟨p, rfl, ep⟩ := rx3.ref_inv
      obtain ⟨vs, hp, lp⟩ := rh3.lst ep e1
      refine .inr (.inl ⟨p, vs, rfl, SqL.of hp, fun z nz => ?_⟩)
      obtain ⟨x1, r1, r2⟩ := rh3.lstNew nz (cut_RL lp l u)
      exact o3 _ _ _ x1 r1 r2
    · exact o3.elim
  · exact o3.elim
/-! ### attributes -/
theorem look_RF (hi : ∀ f g, G.fnm f = G.fnm g → f = g) {f : Nat} {d : D} : ∀ {fvs : List (Str × V)} {fs : List (Nat × D)}, RF G H as fvs fs → fs.lookup f = some d → ∃ v, fvs.lookup (G.fnm f) = some v ∧ RV G.K H as v d
  | [], [], _, e => by cases e
  | [], _ :: _, r, _ => by have := r.1; simp at this
  | _ :: _, [], r, _ => by have := r.1; simp at this
  | (x, v) :: fvs, (g, d') :: fs, r, e => by
    obtain ⟨r1, r2⟩ := r
    simp only [List.map_cons, List.cons.injEq] at r1
    cases r2 with
    | cons rv rl =>
      rw [List.lookup_cons] at e ⊢
      by_cases q : f = g
      · subst q
        have e1 : (G.fnm f == x) = true := by rw [r1.1]; simp
        rw [e1]
        rw [beq_self_eq_true] at e
        cases e
        exact ⟨v, rfl, rv⟩
      · have e1 : (G.fnm f == x) = false := by
          rw [r1.1, beq_eq_false_iff_ne]
          exact fun z => q (hi _ _ z)
        rw [e1]
        have e2 : (f == g) = false := beq_eq_false_iff_ne.mpr q
        rw [e2] at e
        exact look_RF hi ⟨r1.2, rl⟩ e
theorem mem_lookup1 {f : Nat} {d : D} : ∀ {fs : List (Nat × D)}, fs.lookup f = some d → (f, d) ∈ fs
  | [], e => by cases e
  | (g, d') :: fs, e => by
    rw [List.lookup_cons] at e
    by_cases q : f = g
    · subst q
      rw [beq_self_eq_true] at e
      cases e
      exact List.mem_cons_self
    · have e2 : (f == g) = false := beq_eq_false_iff_ne.mpr q
      rw [e2] at e
      exact List.mem_cons_of_mem _ (mem_lookup1 e)
theorem tE_attr (hK : X.K = G.K) (hi : ∀ f g, G.fnm f = G.fnm g → f = g) {f : Nat} (pa : PE X a (tE G W ma)) (hb : attributeBase a (G.fnm f) X.env (eval a X.env) = eval a X.env) : PE X (.Attribute a (G.fnm f) pos) (tE G W (mAttr ma f)) :=
  PE.imp (pe_fld pa hb) fun σ H Q ⟨as, h, en, rh, re, o⟩ => by
  refine ⟨as, h, en, rh, re, (OutR.bind o).imp fun x H1 n => ?_⟩
  obtain ⟨dx, h1, as1, x1, rx, rh1, re1, o1⟩ := At.nxt re n
  split at o1
  · split at o1
    · rename_i i c fs e1
      obtain ⟨p, rfl, ep⟩ := rx.ref_inv
      obtain ⟨dx, fvs, hp, rf, cl, na⟩ := rh1.ins ep e1
      cases e2 : fldOf fs f with
      | none => rw [e2] at o1; exact o1.elim
      | some d =>
        rw [e2] at o1
        obtain ⟨v, e3, rv⟩ := look_RF hi rf e2
        rw [hK]
        exact ⟨p, _, dx, fvs, v, rfl, hp, cl, na _ (mem_lookup1 e2), e3, o1 _ _ _ (Ext.refl _ _) rv rh1⟩
    · exact o1.elim
  · exact o1.elim
end
end Mp

/-! Mp7: calls. -/
namespace Mp
open PySem L2 LamX PyProof.Rows

/-- a def's promise by a plain function -/
def spD (G : Wd) (F : List D → DH → Res) : Sp := fun vs H Q E => ∃ as h ds, RH G H as h ∧ RL G.K H as vs ds ∧ OutE (F ds h) G H as Q E
def noStar : Expr → Bool
  | .Starred _ _ => false
  | _ => true
def plainO : Expr → Bool
  | .Call (.Name _ _) _ _ _ => false
  | _ => true
theorem star1 {env : Env} {e : Expr} {es : List Expr} (h : noStar e = true) : starEach (e :: es) env = (false, eval e env) :: starEach es env := by
  cases e <;> first | rfl | cases h
theorem stars {env : Env} {p : Pos} : ∀ {es : List Expr}, es.all noStar = true → (backTo p (starEach es env)).any (·.1) = false
  | [], _ => rfl
  | e :: es, h => by
    rw [List.all_cons, Bool.and_eq_true] at h
    rw [star1 h.1]
    show (false || (backTo p (starEach es env)).any (·.1)) = false
    rw [stars h.2]
    rfl
theorem stars' {env : Env} {p : Pos} : ∀ {es : List Expr}, es.all noStar = true → (backTo p (starEach es env)).all (fun q => !q.1) = true
  | [], _ => rfl
  | e :: es, h => by
    rw [List.all_cons, Bool.and_eq_true] at h
    rw [star1 h.1]
    show (true && (backTo p (starEach es env)).all (fun q => !q.1)) = true
    rw [stars' h.2]
    rfl
theorem attr_base {o : Expr} {m : Str} {env : Env} {wh : Sem Value} (h : plainO o = true) : attributeBase o m env wh = wh := by
  unfold attributeBase
  split
  · cases h
  · rfl
section
variable {X : Cx} {G : Wd} {W : WX} {a b c e o : Expr} {es : List Expr} {ma mb mc mo : M} {ms : List M} {pos p apos : Pos} {H : Hp} {as : List Addr} {x : Str} {f C : Addr} {fd : FuncData} {ps : List Str} {k : Nat} {F : List D → DH → Res}
theorem meth_eq {m : Str} (h1 : plainO o = true) (h2 : es.all noStar = true) (h3 : es.length < 30) (h4 : (apos.endLine == pos.line) = true) :
    eval (.Call (.Attribute o m apos) es [] pos) X.env = (do
      let ov ← eval o X.env
      standAt apos.atName
      let (g, fst) ← holding [ov] (getMethod ov m (plainOf o X.env))
      callWith pos g fst (backTo pos (starEach es X.env)) (backToKw pos (keywordEach [] X.env))) := by
  have hf : methodCallForm (es.length + ([] : List Keyword).length) (backTo pos (starEach es X.env)) (backToKw pos (keywordEach [] X.env)) = true := by
    unfold methodCallForm
    rw [stars' h2]
    show (true && true && decide (es.length + 0 + 0 < 30)) = true
    simp [h3]
  show (do
    let ov ← attributeBase o m X.env (eval o X.env)
    standAt apos.atName
    methodCall o m apos pos X.env ov (es.length + ([] : List Keyword).length) (backTo pos (starEach es X.env)) (backToKw pos (keywordEach [] X.env))) = _
  rw [attr_base h1]
  congr
  funext ov
  congr
  funext _
  exact mcall_line hf h4
/-- a def of the module, called -/
theorem tE_call (FO : FnOk X.prog X.w X.K X.mg X.base (L2N.CX X.prog X.w) k f fd ps (spD G F)) (hr : Room k X.A) (hg : Gl X x) (hm : X.mg x = some (.ref f)) (hk : PySem.W.keepIn X.K (.ref f) = true) (hb : Binds X.K fd ps []) (tk : L2N.Takes X W)
    (pl : PA X (e :: es) (tL G W ms)) (hst : (e :: es).all noStar = true) (hdb : (x == ("__debug__" : Str)) = false) :
    PE X (.Call (.Name x p) (e :: es) [] pos) (tE G W fun en h => (evL ms en h).bind fun ds h1 => F ds h1) := by
  rw [List.all_cons, Bool.and_eq_true] at hst
  refine PE.imp (pe_callS FO hr hg hm hk hb (fun σ => L2N.passAt tk σ) pl hdb (star1 hst.1) (stars hst.2)) fun σ H Q q => ?_
  obtain ⟨as, h, en, rh, re, o⟩ := q
  refine ⟨as, h, en, rh, re, (OutR.bind (rel := RL G.K) o).imp fun vs H1 n => ?_⟩
  obtain ⟨ds, h1, as1, x1, rl, rh1, o1⟩ := n
  exact ⟨as1, h1, ds, rh1, rl, o1⟩
theorem tE_call0 (FO : FnOk X.prog X.w X.K X.mg X.base (L2N.CX X.prog X.w) k f fd ps (spD G F)) (hr : Room k X.A) (hg : Gl X x) (hm : X.mg x = some (.ref f)) (hk : PySem.W.keepIn X.K (.ref f) = true) (hb : Binds X.K fd ps []) (tk : L2N.Takes X W)
    (hdb : (x == ("__debug__" : Str)) = false) :
    PE X (.Call (.Name x p) [] [] pos) (tE G W fun en h => (evL [] en h).bind fun ds h1 => F ds h1) := by
  refine ⟨fun pins s σ H Q I q => ?_⟩
  obtain ⟨as, h, en, rh, re, o⟩ := q
  refine wpAny_Call_Name_kw (ld_glob I hg hm ?_ hdb)
  exact PySem.W.callWith_K0 I.kIn hk (run_fnS (us := []) (vs := []) (E := WE W) FO hr hb (L2N.passAt tk σ) I .nil ⟨as, h, [], rh, .nil, o⟩)
/-- a method of an own class -/
theorem pe_methG {m : Str} {ta : TE} {sp : Sp} {t : TA} (he : PE X o ta) (cl : Cls X.K C) (hm : Meth X.K C m f) (FO : FnOk X.prog X.w X.K X.mg X.base (L2N.CX X.prog X.w) k f fd ps sp) (hr : Room k X.A) (hb : Binds X.K fd ps []) (tk : L2N.Takes X W)
    (ha : PA X (e :: es) t) (h1 : plainO o = true) (h2 : (e :: es).all noStar = true) (h3 : (e :: es).length < 30) (h4 : (apos.endLine == pos.line) = true) :
    PE X (.Call (.Attribute o m apos) (e :: es) [] pos) (fun σ H Q => ta σ H fun v H1 => ∃ a dx fs, v = .ref a ∧ H1 a = some (.ins C dx fs) ∧ fs.lookup m = none ∧ t σ H1 fun vs H2 => sp (v :: vs) H2 Q (WE W σ)) := by
  refine ⟨fun pins s σ H Q I h => ?_⟩
  refine PySem.W.methodCall_KW (pl := plainOf o X.env) (thn (he.run pins s σ H _ I h) fun u s1 hu => ?_) (meth_eq h1 h2 h3 h4)
  obtain ⟨v, H1, I1, rv, a, dx, fs, ev, ea, l, q⟩ := hu
  subst ev
  obtain rfl : u = Value.ref a := rv
  refine getmeth_ok I1 ea cl hm l ?_
  rw [List.all_cons, Bool.and_eq_true] at h2
  refine PySem.W.callWith_K (first := [.ref a]) (h₀ := X.base) I.ok.mod.kin hm.kp (thn (ha.run pos pins s1 σ H1 _ I1 q) fun us s2 hu2 => ?_) (star1 h2.1) (stars h2.2)
  obtain ⟨vs, H2, I2, r, q2⟩ := hu2
  exact ⟨I2.kIn, run_fnS (us := .ref a :: us) (vs := .ref a :: vs) (E := WE W) FO hr hb (L2N.passAt tk σ) I2 (.cons rfl r) q2⟩
theorem pe_methG0 {m : Str} {ta : TE} {sp : Sp} (he : PE X o ta) (cl : Cls X.K C) (hm : Meth X.K C m f) (FO : FnOk X.prog X.w X.K X.mg X.base (L2N.CX X.prog X.w) k f fd ps sp) (hr : Room k X.A) (hb : Binds X.K fd ps []) (tk : L2N.Takes X W)
    (h1 : plainO o = true) (h4 : (apos.endLine == pos.line) = true) :
    PE X (.Call (.Attribute o m apos) [] [] pos) (fun σ H Q => ta σ H fun v H1 => ∃ a dx fs, v = .ref a ∧ H1 a = some (.ins C dx fs) ∧ fs.lookup m = none ∧ sp [v] H1 Q (WE W σ)) := by
  refine ⟨fun pins s σ H Q I h => ?_⟩
  refine PySem.W.methodCall_KW (pl := plainOf o X.env) (thn (he.run pins s σ H _ I h) fun u s1 hu => ?_) (meth_eq h1 (by rfl) (by decide) h4)
  obtain ⟨v, H1, I1, rv, a, dx, fs, ev, ea, l, q⟩ := hu
  subst ev
  obtain rfl : u = Value.ref a := rv
  refine getmeth_ok I1 ea cl hm l ?_
  exact PySem.W.callWith_K0 (first := [.ref a]) I1.kIn hm.kp (run_fnS (us := [.ref a]) (vs := [.ref a]) (E := WE W) FO hr hb (L2N.passAt tk σ) I1 (.cons rfl .nil) q)
theorem noField {m : Str} {c : Nat} (hm : Meth G.K (G.cls c) m f) : ∀ {fvs : List (Str × V)} {fs : List (Nat × D)}, RF G H as fvs fs → (∀ p ∈ fs, NoAttr G.K (G.cls c) (G.fnm p.1)) → fvs.lookup m = none
  | [], _, _, _ => rfl
  | _ :: _, [], r, _ => by have := r.1; simp at this
  | (y, v) :: fvs, (g, d) :: fs, r, na => by
    obtain ⟨r1, r2⟩ := r
    simp only [List.map_cons, List.cons.injEq] at r1
    cases r2 with
    | cons rv rl =>
      rw [List.lookup_cons]
      have ne : (m == y) = false := by
        rw [r1.1, beq_eq_false_iff_ne]
        intro z
        have n1 := na (g, d) List.mem_cons_self
        have n2 := hm.at_
        unfold NoAttr at n1
        rw [z] at n2
        have n3 := n1.symm.trans n2
        cases n3
      rw [ne]
      exact noField hm ⟨r1.2, rl⟩ fun p hp => na p (List.mem_cons_of_mem _ hp)
/-- what is known of a class's method -/
def MeOk (X : Cx) (G : Wd) (k : Nat) (m : Str) (c : Nat) (F : List D → DH → Res) : Prop :=
  ∃ (fa : Addr) (fd : FuncData) (ps : List Str), Cls X.K (G.cls c) ∧ Meth X.K (G.cls c) m fa ∧ FnOk X.prog X.w X.K X.mg X.base (L2N.CX X.prog X.w) k fa fd ps (spD G F) ∧ Binds X.K fd ps []
theorem tE_meth {cl : CL} {me : Nat → Option Nat} {m : Str} {c0 f0 : Nat} (hK : X.K = G.K) (po : PE X o (tE G W mo)) (h0 : me c0 = some f0) (all : ∀ c fi, me c = some fi → MeOk X G k m c (cl fi)) (hr : Room k X.A) (tk : L2N.Takes X W)
    (ha : PA X es (tL G W ms)) (h1 : plainO o = true) (h2 : es.all noStar = true) (h3 : es.length < 30) (h4 : (apos.endLine == pos.line) = true) (h5 : es = [] → ms = []) :
    PE X (.Call (.Attribute o m apos) es [] pos) (tE G W (mMeth cl me mo ms)) := by
  refine ⟨fun pins s σ H Q I q => ?_⟩
  have done : ∀ c fi, me c = some fi → (At G σ H fun en h as => OutE (mo en h) G H as (fun v H1 => ∃ a dx fs, v = .ref a ∧ H1 a = some (.ins (G.cls c) dx fs) ∧ fs.lookup m = none ∧ tL G W ms σ H1 fun vs H2 => spD G (cl fi) (v :: vs) H2 Q (WE W σ)) (WE W σ)) →
      wpAny (model X.prog X.w) X.A (eval (.Call (.Attribute o m apos) es [] pos) X.env) (EP X pins σ Q) X.xe s := fun c fi hc z => by
    obtain ⟨fa, fd, ps, cc, hm, FO, hb⟩ := all c fi hc
    cases es with
    | cons e es => exact (pe_methG (ta := tE G W mo) (t := tL G W ms) po cc hm FO hr hb tk ha h1 h2 h3 h4).run pins s σ H Q I z
    | nil =>
      have : ms = [] := h5 rfl
      subst this
      obtain ⟨as, h, en, rh, re, o⟩ := z
      refine (pe_methG0 (ta := tE G W mo) po cc hm FO hr hb tk h1 h4).run pins s σ H Q I ⟨as, h, en, rh, re, o.imp fun v H1 w => ?_⟩
      obtain ⟨a, dx, fs, e1, e2, e3, as1, h1, en1, rh1, re1, o1⟩ := w
      exact ⟨a, dx, fs, e1, e2, e3, o1 [] H1 as1 (Ext.refl _ _) .nil rh1⟩
  obtain ⟨as, h, en, rh, re, o⟩ := q
  unfold mMeth at o
  cases q : mo en h with
  | err => rw [q] at o; exact o.elim
  | exc c w h1 =>
    rw [q] at o
    exact done c0 f0 h0 ⟨as, h, en, rh, re, by dsimp only; rw [q]; exact o⟩
  | ok d h1 =>
    rw [q, bind_ok] at o
    split at o
    · rename_i i
      split at o
      · rename_i c fs e1
        split at o
        · rename_i fi hc
          refine done c fi hc ⟨as, h, en, rh, re, ?_⟩
          dsimp only
          rw [q]
          intro v H1 as1 x1 rv rh1
          obtain ⟨fa, fd, ps, cc, hm, FO, hb⟩ := all c fi hc
          obtain ⟨p, rfl, ep⟩ := rv.ref_inv
          obtain ⟨dx, fvs, hp, rf, cls, na⟩ := rh1.ins ep e1
          rw [hK] at hm
          refine ⟨p, dx, fvs, rfl, hp, noField hm rf na, as1, h1, en, rh1, re.mono x1.toEx0, (OutR.bind (rel := RL G.K) (o.mono x1)).imp fun vs H2 n => ?_⟩
          obtain ⟨ds, h2, as2, x2, rl, rh2, o2⟩ := n
          exact ⟨as2, h2, _, rh2, .cons (rv.mono x2.toEx0) rl, o2⟩
        · exact o.elim
      · exact o.elim
    · exact o.elim
/-- an own class, made -/
theorem tE_make {cl : CL} {cn fn : Nat} (hK : X.K = G.K) (M : Mk X.K (G.cls cn) f) (cc : Cls X.K (G.cls cn)) (FO : FnOk X.prog X.w X.K X.mg X.base (L2N.CX X.prog X.w) k f fd ps (spD G (cl fn))) (hr : Room (k + 1) X.A) (hg : Gl X x) (hm : X.mg x = some (.ref (G.cls cn))) (hb : Binds X.K fd ps []) (tk : L2N.Takes X W)
    (pl : PA X es (tL G W ms)) (h2 : es.all noStar = true) (hdb : (x == ("__debug__" : Str)) = false) (h5 : es = [] → ms = []) :
    PE X (.Call (.Name x p) es [] pos) (tE G W (mMake cl cn fn ms)) := by
  have run : ∀ {pins : List (Addr × Obj)} {σ : L2.St} {H : Hp} {s : Shared} {Q : VK} {us : List Value} {vs : List V}, Inv X pins σ H s → Vals vs us → (∀ y dx, H y = none → H dx = none → dx ≠ y → spD G (cl fn) (.ref y :: vs) (upd (upd H dx (.own y)) y (.ins (G.cls cn) dx [])) (fun v H2 => v = .non ∧ Q (.ref y) H2) (WE W σ)) →
      wpAny (model X.prog X.w) X.A (call (.ref (G.cls cn)) us) (EP X pins σ Q) X.xe s := fun {pins σ H s Q us vs} I r h => by
    have hq := h (s.heap.objs.size + 1) s.heap.objs.size (I.hok.fresh (Nat.le_succ _)) (I.hok.fresh (Nat.le_refl _)) (Nat.ne_of_lt (Nat.lt_succ_self _))
    have J := Inv.made (C := G.cls cn) I
    have rr : Vals (V.ref (s.heap.objs.size + 1) :: vs) (Value.ref (s.heap.objs.size + 1) :: us) := .cons rfl r
    have hl : (Value.ref (s.heap.objs.size + 1) :: us).length = ps.length := by
      have e := rr.length
      rw [FO.len _ _ _ _ hq] at e
      exact e.symm
    have bb := hb _ (Value.ref (s.heap.objs.size + 1) :: us) J.kIn (by rw [List.append_nil]; exact hl)
    rw [List.append_nil] at bb
    refine wpAny_call (make_map (f := f) I.kIn M.makes M.init (beq_iff_eq.mp M.fn) (codeAny_mono (FO.run _ X.stack _ _ ⟨Value.ref (s.heap.objs.size + 1) :: us, []⟩ (Value.ref (s.heap.objs.size + 1) :: us) _ _ (WE W σ) (hr.make (G.cls cn) us [])
      (J.env0.make (G.cls cn) us []) bb rr hq) fun r s' hz => ?_))
    cases r with
    | error e => exact L2N.passAt tk σ pins _ _ e s' J hz
    | ok fl =>
      cases fl with
      | ret u =>
        obtain ⟨v, H', I3, rv, ev, q3⟩ := J.after hz
        subst ev
        exact ⟨rv, ⟨V.ref (s.heap.objs.size + 1), H', I3, rfl, q3⟩⟩
      | next => exact False.elim hz
      | brk => exact False.elim hz
      | cont => exact False.elim hz
  have fin : ∀ {σ : L2.St} {H : Hp} {as : List Addr} {h : DH} {vs : List V} {ds : List D} {Q : VK}, RH G H as h → RL G.K H as vs ds →
      OutE ((cl fn (.ref h.length :: ds) (h ++ [.ins cn []])).bind fun r h2 => match r with | .non => .ok (.ref h.length) h2 | _ => .err) G H as Q (WE W σ) →
      ∀ y dx, H y = none → H dx = none → dx ≠ y → spD G (cl fn) (.ref y :: vs) (upd (upd H dx (.own y)) y (.ins (G.cls cn) dx [])) (fun v H2 => v = .non ∧ Q (.ref y) H2) (WE W σ) := fun {σ H as h vs ds Q} rh rl o y dx ny nd ne => by
    obtain ⟨x1, r1⟩ := rh.laid (u := .own y) nd
    have ny1 : upd H dx (.own y) y = none := by rw [upd_ne (Ne.symm ne)]; exact ny
    obtain ⟨x2, r2⟩ := r1.push (u := .ins (G.cls cn) dx []) (o := .ins cn []) ny1 ⟨dx, [], upd_same, ⟨rfl, .nil⟩, by rw [← hK]; exact cc, fun p hp => nomatch hp⟩
    have x12 := x1.trans x2
    have ey : (as ++ [y])[h.length]? = some y := by rw [← rh.len]; simp
    refine ⟨as ++ [y], h ++ [.ins cn []], .ref h.length :: ds, r2, .cons (.ref ey) (rl.mono x12.toEx0), (OutR.bind (rel := RV G.K) (o.mono x12)).imp fun v H2 n => ?_⟩
    obtain ⟨d, h2, as2, x3, rv, rh2, o2⟩ := n
    split at o2
    · cases rv
      exact ⟨rfl, o2 _ _ _ (Ext.refl _ _) (.ref (x3.pre _ _ ey)) rh2⟩
    · exact o2.elim
  refine ⟨fun pins s σ H Q I q => ?_⟩
  obtain ⟨as, h, en, rh, re, o⟩ := q
  refine wpAny_Call_Name_kw (ld_glob I hg hm ?_ hdb)
  cases es with
  | nil =>
    have : ms = [] := h5 rfl
    subst this
    exact PySem.W.callWith_K0 I.kIn M.kp (run (us := []) I .nil (fin rh .nil o))
  | cons e es =>
    rw [List.all_cons, Bool.and_eq_true] at h2
    refine PySem.W.callWith_K (h₀ := X.base) I.ok.mod.kin M.kp (thn (pl.run pos pins s σ H _ I ⟨as, h, en, rh, re, (OutR.bind (rel := RL G.K) o)⟩) fun us s1 hu => ?_) (star1 h2.1) (stars h2.2)
    obtain ⟨vs, H1, I1, r, ds, h1, as1, x1, rl, rh1, o1⟩ := hu
    exact ⟨I1.kIn, run I1 r (fin rh1 rl o1)⟩
end
end Mp

/-! Mp8: built-in functions, methods, isinstance. -/
namespace Mp
open PySem L2 LamX PyProof.Rows
section
variable {X : Cx} {G : Wd} {W : WX} {a b c e o : Expr} {es : List Expr} {ma mb mc mo : M} {ms : List M} {pos p apos : Pos} {H : Hp} {as : List Addr}
theorem bols_flat {vs : List V} {ds : List D} {zs : List Bool} : RL G.K H as vs ds → bolsOf ds = some zs → vs = zs.map V.bl := by
  intro l
  induction ds generalizing vs zs with
  | nil => intro e; cases l; cases e; rfl
  | cons d ds ih =>
    intro e
    cases l with
    | cons r l =>
      cases d with
      | bl x =>
        simp only [bolsOf, Option.map_eq_some_iff] at e
        obtain ⟨zs', e, rfl⟩ := e
        cases r
        rw [ih l e]
        rfl
      | _ => cases e
/-- a built-in's rule by the plain function -/
def BiR (X : Cx) (G : Wd) (f : Value) (b : BI) : Prop := ∃ r, CallR X f r ∧ ∀ (xs : List V) (ds : List D) (H : Hp) (as : List Addr) (h : DH) (Q : VK) (E : XK), RL G.K H as xs ds → RH G H as h → OutE (dBi b ds h) G H as Q E → r xs H Q
theorem bi_len (hK : X.K = G.K) : BiR X G (.builtin "len") .len := ⟨_, call_len, fun xs ds H as h Q E rl rh o => by
  rw [hK]
  have o : OutE (dLen ds h) G H as Q E := o
  unfold dLen at o
  split at o
  · split at o
    · rename_i hl
      obtain ⟨v, rfl, rv⟩ := rl.one
      cases rv
      exact ⟨_, _, rfl, ⟨by rw [s_len]; exact hl, rfl⟩, by rw [s_len]; exact o _ _ _ (Ext.refl _ _) (.int _) rh⟩
    · exact o.elim
  · obtain ⟨v, rfl, rv⟩ := rl.one
    obtain ⟨q, vs, rfl, hq, lq⟩ := rv.tup_inv
    exact ⟨_, _, rfl, .inr ⟨vs, hq, rfl⟩, by rw [lq.length]; exact o _ _ _ (Ext.refl _ _) (.int _) rh⟩
  · obtain ⟨v, rfl, rv⟩ := rl.one
    obtain ⟨q, vs, rfl, hq, lq⟩ := rv.frl_inv
    exact ⟨_, _, rfl, .inl ⟨vs, hq.sq, rfl⟩, by rw [lq.length]; exact o _ _ _ (Ext.refl _ _) (.int _) rh⟩
  · split at o
    · rename_i xs e1
      obtain ⟨v, rfl, rv⟩ := rl.one
      obtain ⟨q, rfl, eq⟩ := rv.ref_inv
      obtain ⟨vs, hq, lq⟩ := rh.lst eq e1
      exact ⟨_, _, rfl, .inl ⟨vs, SqL.of hq, rfl⟩, by rw [lq.length]; exact o _ _ _ (Ext.refl _ _) (.int _) rh⟩
    · exact o.elim
  · exact o.elim⟩
theorem bi_ord : BiR X G (.builtin "ord") .ord := ⟨_, call_ord, fun xs ds H as h Q E rl rh o => by
  have o : OutE (dOrd ds h) G H as Q E := o
  unfold dOrd at o
  split at o
  · obtain ⟨v, rfl, rv⟩ := rl.one
    cases rv
    exact ⟨_, rfl, by rw [s_len]; rfl, o _ _ _ (Ext.refl _ _) (.int _) rh⟩
  · exact o.elim⟩
theorem bi_int : BiR X G (.type "int") .int := ⟨_, call_int1.or call_int_str, fun xs ds H as h Q E rl rh o => by
  have o : OutE (dInt ds h) G H as Q E := o
  unfold dInt at o
  split at o
  · obtain ⟨v, rfl, rv⟩ := rl.one
    cases rv
    exact .inl (.inl ⟨_, rfl, o _ _ _ (Ext.refl _ _) (.int _) rh⟩)
  · obtain ⟨v, rfl, rv⟩ := rl.one
    cases rv
    exact .inl (.inr ⟨_, rfl, o _ _ _ (Ext.refl _ _) (.int _) rh⟩)
  · split at o
    · split at o
      · rename_i n en hl
        obtain ⟨v, rfl, rv⟩ := rl.one
        cases rv
        exact .inr ⟨_, n, rfl, en, by rw [s_len]; exact hl, o _ _ _ (Ext.refl _ _) (.int _) rh⟩
      · exact o.elim
    · exact o.elim
  · exact o.elim⟩
theorem bi_str : BiR X G (.type "str") .str := ⟨_, call_str_int.or SkE.call_str_str, fun xs ds H as h Q E rl rh o => by
  have o : OutE (dStr ds h) G H as Q E := o
  unfold dStr at o
  split at o
  · split at o
    · rename_i hl
      obtain ⟨v, rfl, rv⟩ := rl.one
      cases rv
      exact .inl ⟨_, rfl, hl, o _ _ _ (Ext.refl _ _) (RV.ofStr _) rh⟩
    · exact o.elim
  · obtain ⟨v, rfl, rv⟩ := rl.one
    cases rv
    exact .inr ⟨_, rfl, o _ _ _ (Ext.refl _ _) (.str _) rh⟩
  · exact o.elim⟩
theorem bi_min (hc : X.calm = true) : BiR X G (.builtin "min") .min := ⟨_, call_min2 hc, fun xs ds H as h Q E rl rh o => by
  have o : OutE (dMin ds h) G H as Q E := o
  unfold dMin at o
  split at o
  · obtain ⟨v, w, rfl, rv, rw'⟩ := rl.two
    cases rv
    cases rw'
    exact ⟨_, _, rfl, o _ _ _ (Ext.refl _ _) (.int _) rh⟩
  · exact o.elim⟩
theorem bi_max (hc : X.calm = true) : BiR X G (.builtin "max") .max := ⟨_, call_max2 hc, fun xs ds H as h Q E rl rh o => by
  have o : OutE (dMax ds h) G H as Q E := o
  unfold dMax at o
  split at o
  · obtain ⟨v, w, rfl, rv, rw'⟩ := rl.two
    cases rv
    cases rw'
    exact ⟨_, _, rfl, o _ _ _ (Ext.refl _ _) (.int _) rh⟩
  · exact o.elim⟩
theorem bi_all (hK : X.K = G.K) (hc : X.calm = true) : BiR X G (.builtin "all") .all := ⟨_, cr_all hc, fun xs ds H as h Q E rl rh o => by
  have o : OutE (dAll ds h) G H as Q E := o
  unfold dAll at o
  split at o
  · split at o
    · rename_i xs e1
      split at o
      · rename_i bs e2
        obtain ⟨v, rfl, rv⟩ := rl.one
        obtain ⟨q, rfl, eq⟩ := rv.ref_inv
        obtain ⟨vs, hq, lq⟩ := rh.lst eq e1
        have := bols_flat lq e2
        subst this
        exact ⟨q, bs, rfl, SqL.of hq, o _ _ _ (Ext.refl _ _) (.bl _) rh⟩
      · exact o.elim
    · exact o.elim
  · exact o.elim⟩
theorem bi_any (hK : X.K = G.K) (hc : X.calm = true) : BiR X G (.builtin "any") .any := ⟨_, cr_any hc, fun xs ds H as h Q E rl rh o => by
  have o : OutE (dAny ds h) G H as Q E := o
  unfold dAny at o
  split at o
  · split at o
    · rename_i xs e1
      split at o
      · rename_i bs e2
        obtain ⟨v, rfl, rv⟩ := rl.one
        obtain ⟨q, rfl, eq⟩ := rv.ref_inv
        obtain ⟨vs, hq, lq⟩ := rh.lst eq e1
        have := bols_flat lq e2
        subst this
        exact ⟨q, bs, rfl, SqL.of hq, o _ _ _ (Ext.refl _ _) (.bl _) rh⟩
      · exact o.elim
    · exact o.elim
  · exact o.elim⟩
/-- a built-in's name -/
theorem bi_tup (hK : X.K = G.K) : BiR X G (.type "tuple") .tup := ⟨_, call_tuple_of, fun xs ds H as h Q E rl rh o => by
  rw [hK]
  have o : OutE (dTupF ds h) G H as Q E := o
  unfold dTupF at o
  split at o
  · obtain ⟨v, rfl, rv⟩ := rl.one
    obtain ⟨q, vs, rfl, hq, lq⟩ := rv.tup_inv
    exact ⟨q, vs, rfl, .inr ⟨hq, o _ _ _ (Ext.refl _ _) (.tup hq lq) rh⟩⟩
  · split at o
    · rename_i zs e1
      obtain ⟨v, rfl, rv⟩ := rl.one
      obtain ⟨q, rfl, eq⟩ := rv.ref_inv
      obtain ⟨vs, hq, lq⟩ := rh.lst eq e1
      refine ⟨q, vs, rfl, .inl ⟨SqL.of hq, fun l nl => ?_⟩⟩
      obtain ⟨x1, r1, r2⟩ := rh.tupNew nl lq
      exact o _ _ _ x1 r1 r2
    · exact o.elim
  · exact o.elim⟩
def biNm : BI → Str
  | .len => "len"
  | .ord => "ord"
  | .int => "int"
  | .str => "str"
  | .min => "min"
  | .max => "max"
  | .all => "all"
  | .any => "any"
  | .tup => "tuple"
theorem tE_bi {bi : BI} {x : Str} (hK : X.K = G.K) (hc : X.calm = true) (hx : x = biNm bi) (hg : Gl X x) (hm : X.mg x = none) (pl : PA X (e :: es) (tL G W ms)) (h2 : (e :: es).all noStar = true) : PE X (.Call (.Name x p) (e :: es) [] pos) (tE G W (mBi bi ms)) := by
  subst hx
  rw [List.all_cons, Bool.and_eq_true] at h2
  have fB : ∀ {id : String}, BiR X G (.builtin id) bi → bootBuiltins (biNm bi) = some (.builtin id) → biNm bi ≠ "__name__" → (biNm bi == ("__debug__" : Str)) = false → PE X (.Call (.Name (biNm bi) p) (e :: es) [] pos) (tE G W (mBi bi ms)) := fun {id} q hv h3 h4 => by
    obtain ⟨r, h5, h6⟩ := q
    exact tE_cb (pe_callB h5 hg hm hv pl h3 h4 (star1 h2.1) (stars h2.2)) h6
  have fT : ∀ {T : String}, BiR X G (.type T) bi → bootBuiltins (biNm bi) = some (.type T) → biNm bi ≠ "__name__" → (biNm bi == ("__debug__" : Str)) = false → PE X (.Call (.Name (biNm bi) p) (e :: es) [] pos) (tE G W (mBi bi ms)) := fun {T} q hv h3 h4 => by
    obtain ⟨r, h5, h6⟩ := q
    exact tE_cb (pe_callTy h5 hg hm hv pl h3 h4 (star1 h2.1) (stars h2.2)) h6
  cases bi with
  | len => exact fB (bi_len hK) (by decide +kernel) (by decide) (by decide)
  | ord => exact fB bi_ord (by decide +kernel) (by decide) (by decide)
  | int => exact fT bi_int (by decide +kernel) (by decide) (by decide)
  | str => exact fT bi_str (by decide +kernel) (by decide) (by decide)
  | min => exact fB (bi_min hc) (by decide +kernel) (by decide) (by decide)
  | max => exact fB (bi_max hc) (by decide +kernel) (by decide) (by decide)
  | all => exact fB (bi_all hK hc) (by decide +kernel) (by decide) (by decide)
  | any => exact fB (bi_any hK hc) (by decide +kernel) (by decide) (by decide)
  | tup => exact fT (bi_tup hK) (by decide +kernel) (by decide) (by decide)
end
end Mp

/-! Mp9: methods of built-ins, isinstance. -/
namespace Mp
open PySem L2 LamX PyProof.Rows
section
variable {X : Cx} {G : Wd} {W : WX} {a b c e o : Expr} {es : List Expr} {ma mb mc mo : M} {ms : List M} {pos p apos : Pos} {H : Hp} {as : List Addr}
def bmNm : BM → Str
  | .join => "join"
  | .split => "split"
  | .find => "find"
  | .append => "append"
def bmTy : BM → String
  | .join => "str"
  | .split => "str"
  | .find => "str"
  | .append => "list"
/-- a method's rule by the plain function -/
def BmR (X : Cx) (G : Wd) (id : String) (b : BM) : Prop := ∃ r, MtR X id r ∧ ∀ (x : V) (xs : List V) (d : D) (ds : List D) (H : Hp) (as : List Addr) (h : DH) (Q : VK) (E : XK), RV G.K H as x d → RL G.K H as xs ds → RH G H as h → OutE (dBm b d ds h) G H as Q E → r x xs H Q
theorem strs_len (ys : List Tx) : ((ys.map fun z => (⟨z.toArray⟩ : Str)).map (·.length)).sum = (ys.map fun y => y.length).sum := by
  rw [List.map_map]
  exact congrArg List.sum (List.map_congr_left fun z _ => s_len z)
theorem join_tx (s : Tx) (ys : List Tx) : Txt.join ⟨s.toArray⟩ (ys.map fun z => ⟨z.toArray⟩) = ⟨(TL.joinL s ys).toArray⟩ := by
  apply TL.ext_tl
  rw [TL.join_eq, TL.tl_join]
  rw [List.map_map, (List.map_congr_left fun z _ => rfl : ys.map (TL.tl ∘ fun z => (⟨z.toArray⟩ : Str)) = ys.map id), List.map_id]
theorem bm_join (hK : X.K = G.K) : BmR X G "str.join" .join := ⟨_, mt_join, fun x xs d ds H as h Q E rv rl rh o => by
  have o : OutE (dJoin d ds h) G H as Q E := o
  unfold dJoin at o
  split at o
  · split at o
    · rename_i zs e1
      split at o
      · rename_i ys e2
        split at o
        · rename_i hl
          obtain ⟨v, rfl, rw'⟩ := rl.one
          obtain ⟨q, rfl, eq⟩ := rw'.ref_inv
          obtain ⟨vs, hq, lq⟩ := rh.lst eq e1
          have := strs_flat lq e2
          subst this
          cases rv
          refine ⟨_, q, ys.map (fun z => ⟨z.toArray⟩), rfl, rfl, .inl (SqL.of (by rw [List.map_map]; exact hq)), ?_, ?_⟩
          · rw [strs_len, List.length_map, s_len]
            exact hl
          · rw [join_tx]
            exact o _ _ _ (Ext.refl _ _) (.str _) rh
        · exact o.elim
      · exact o.elim
    · exact o.elim
  · exact o.elim⟩
theorem RL.strs : ∀ (zs : List Str), RL G.K H as (zs.map V.str) (zs.map fun z => .str z.cps.toList)
  | [] => .nil
  | z :: zs => .cons (RV.ofStr z) (RL.strs zs)
theorem bm_split : BmR X G "str.split" .split := ⟨_, mt_split, fun x xs d ds H as h Q E rv rl rh o => by
  have o : OutE (dSplit d ds h) G H as Q E := o
  unfold dSplit at o
  split at o
  · split at o
    · rename_i hl
      obtain ⟨v, rfl, rw'⟩ := rl.one
      cases rw'
      cases rv
      refine ⟨_, _, rfl, rfl, by rw [s_len]; exact beq_eq_false_iff_ne.mpr hl.1, by rw [s_len]; exact hl.2, fun q nq => ?_⟩
      obtain ⟨x1, r1, r2⟩ := rh.lstNew nq (RL.strs _)
      exact o _ _ _ x1 r1 r2
    · exact o.elim
  · exact o.elim⟩
theorem bm_find : BmR X G "str.find" .find := ⟨_, MtR.or mt_find mt_find3, fun x xs d ds H as h Q E rv rl rh o => by
  have o : OutE (dFind d ds h) G H as Q E := o
  unfold dFind at o
  split at o
  · obtain ⟨v, rfl, rw'⟩ := rl.one
    cases rw'
    cases rv
    exact .inl ⟨_, _, rfl, rfl, o _ _ _ (Ext.refl _ _) (.int _) rh⟩
  · obtain ⟨v, w, rfl, rw1, rw2⟩ := rl.two
    cases rw1
    cases rw2
    cases rv
    exact .inr ⟨_, _, _, rfl, rfl, o _ _ _ (Ext.refl _ _) (.int _) rh⟩
  · exact o.elim⟩
theorem bm_append : BmR X G "list.append" .append := ⟨_, mt_append, fun x xs d ds H as h Q E rv rl rh o => by
  have o : OutE (dAppend d ds h) G H as Q E := o
  unfold dAppend at o
  split at o
  · split at o
    · rename_i zs e1
      split at o
      · rename_i hl
        obtain ⟨v, rfl, rw'⟩ := rl.one
        obtain ⟨q, rfl, eq⟩ := rv.ref_inv
        obtain ⟨vs, hq, lq⟩ := rh.lst eq e1
        refine ⟨q, vs, v, rfl, rfl, hq, by rw [lq.length]; exact hl, ?_⟩
        have x0 : Ex0 H as (upd H q (.lst (vs ++ [v]))) as := by
          refine ⟨fun _ _ e => e, fun b ys e => ?_, fun b o u e => ?_⟩
          · rcases e with e | ⟨ob, e⟩
            · exact .inl (by rw [upd_ne (ne_of e hq (by intro z; cases z))]; exact e)
            · exact .inr ⟨ob, by rw [upd_ne (ne_of e hq (by intro z; cases z))]; exact e⟩
          · rw [upd_ne (ne_of e hq (by intro z; cases z))]; exact e
        obtain ⟨x1, r1⟩ := rh.put (u := .lst (vs ++ [v])) (o := .lst (zs ++ [_])) eq ⟨_, upd_same, (lq.mono x0).app (.cons (rw'.mono x0) .nil)⟩
        exact o _ _ _ x1 .non r1
      · exact o.elim
    · exact o.elim
  · exact o.elim⟩
theorem tE_bm {bm : BM} {x : Str} (hK : X.K = G.K) (hx : x = bmNm bm) (po : PE X o (tE G W mo)) (pl : PA X (e :: es) (tL G W ms)) (h1 : plainO o = true) (h2 : (e :: es).all noStar = true) (h3 : (e :: es).length < 30) (h4 : (apos.endLine == pos.line) = true) :
    PE X (.Call (.Attribute o x apos) (e :: es) [] pos) (tE G W (mBm bm mo ms)) := by
  subst hx
  have hf : ((backTo pos (starEach (e :: es) X.env)).all (fun x => !x.1) && (backToKw pos (keywordEach [] X.env)).all (fun x => x.1.isSome) && decide ((e :: es).length + ([] : List Keyword).length + (if ([] : List Keyword).isEmpty then 0 else 1) < 30)) = true := by
    rw [stars' h2]
    show (true && true && decide ((e :: es).length + 0 + 0 < 30)) = true
    simp only [Nat.add_zero, h3, decide_true, Bool.and_self]
  have h2' := h2
  rw [List.all_cons, Bool.and_eq_true] at h2'
  have key : ∀ {id : String}, BmR X G id bm → PlainAttrs (bmTy bm) → Slot (bmTy bm) (bmNm bm) id → typeOf (.builtin id) = pure (.type "method_descriptor") → (∀ (v : V) (d : D) (H : Hp) (as : List Addr) (h : DH), RV G.K H as v d → RH G H as h → okTo bm d h = true → tyV G.K (bmTy bm) v H) →
      PE X (.Call (.Attribute o (bmNm bm) apos) (e :: es) [] pos) (tE G W (mBm bm mo ms)) := fun {id} q pa sl ty tv => by
    obtain ⟨r, q1, q2⟩ := q
    refine PE.imp (pe_bm pa sl ty q1 po pl (attr_base h1) hf h4 (star1 h2'.1) (stars h2'.2)) fun σ H Q ⟨as, h, en, rh, re, ob⟩ => ?_
    refine ⟨as, h, en, rh, re, (OutR.bind ob).imp fun v H1 n => ?_⟩
    obtain ⟨d, h1, as1, x1, rv, rh1, re1, o1⟩ := At.nxt re n
    split at o1
    · rename_i hk
      rw [hK]
      refine ⟨tv v d H1 as1 h1 rv rh1 hk, as1, h1, en, rh1, re1, (OutR.bind (rel := RL G.K) o1).imp fun xs H2 n => ?_⟩
      obtain ⟨ds, h2, as2, x2, rl, rh2, o2⟩ := n
      exact q2 v xs d ds H2 as2 h2 Q _ (rv.mono x2.toEx0) rl rh2 o2
    · exact o1.elim
  have ts : ∀ (v : V) (d : D) (H : Hp) (as : List Addr) (h : DH), RV G.K H as v d → (∃ z, d = .str z) → tyV G.K "str" v H := fun v d H as h rv ⟨z, e⟩ => by
    subst e
    cases rv
    rfl
  have okS : ∀ {d : D} {h : DH}, bm ≠ .append → okTo bm d h = true → ∃ z, d = .str z := fun {d h} nb hk => by
    cases bm <;> first | exact absurd rfl nb | (cases d <;> first | exact ⟨_, rfl⟩ | cases hk)
  cases bm with
  | join => exact key (bm_join hK) PySem.F.plainAttrs_str PySem.F.slot_str_join PySem.F.type_str_join fun v d H as h rv rh hk => ts v d H as h rv (okS (by intro z; cases z) hk)
  | split => exact key bm_split PySem.F.plainAttrs_str PySem.F.slot_str_split PySem.F.type_str_split fun v d H as h rv rh hk => ts v d H as h rv (okS (by intro z; cases z) hk)
  | find => exact key bm_find PySem.F.plainAttrs_str PySem.F.slot_str_find PySem.F.type_str_find fun v d H as h rv rh hk => ts v d H as h rv (okS (by intro z; cases z) hk)
  | append =>
    refine key bm_append PySem.F.plainAttrs_list PySem.F.slot_list_append PySem.F.type_list_append fun v d H as h rv rh hk => ?_
    cases d with
    | ref i =>
      have hk : (match h[i]? with | some (.lst _) => true | _ => false) = true := hk
      split at hk
      · rename_i xs e1
        obtain ⟨q, rfl, eq⟩ := rv.ref_inv
        obtain ⟨vs, hq, lq⟩ := rh.lst eq e1
        exact .inl ⟨rfl, _, SqL.of hq⟩
      · cases hk
    | _ => cases hk
/-! ### isinstance -/
def itNm : IT → Str
  | .int => "int"
  | .bool => "bool"
  | .str => "str"
  | .list => "list"
  | .tuple => "tuple"
def itTy : IT → String
  | .int => "int"
  | .bool => "bool"
  | .str => "str"
  | .list => "list"
  | .tuple => "tuple"
def tyD (h : DH) : D → Option String
  | .non => some "NoneType"
  | .bl _ => some "bool"
  | .int _ => some "int"
  | .str _ => some "str"
  | .tup _ => some "tuple"
  | .frl _ => some "list"
  | .ref i => match h[i]? with
    | some (.lst _) => some "list"
    | _ => none
theorem tyD_ok {h : DH} {v : V} {d : D} {n : String} (rv : RV G.K H as v d) (rh : RH G H as h) (e : tyD h d = some n) : TyX G.K H v (.type n) := by
  cases d with
  | non => cases rv; cases e; exact .base .non
  | bl b => cases rv; cases e; exact .base (.bl b)
  | int b => cases rv; cases e; exact .base (.int b)
  | str b => cases rv; cases e; exact .base (.str _)
  | tup b =>
    cases e
    obtain ⟨q, vs, rfl, hq, lq⟩ := rv.tup_inv
    rcases hq with (hq | ⟨ob, hq⟩) | ⟨ob, its, n, hq, hc, _⟩
    · exact .base (.tup hq)
    · exact .fTuple hq
    · exact .kTuple hq hc
  | frl b =>
    cases e
    obtain ⟨q, vs, rfl, hq, lq⟩ := rv.frl_inv
    rcases hq with ⟨ob, hq⟩ | ⟨ob, its, n, hq, hc, _⟩
    · exact .base (.frz hq)
    · exact .kList hq hc
  | ref i =>
    simp only [tyD] at e
    split at e
    · rename_i xs e1
      cases e
      obtain ⟨q, rfl, eq⟩ := rv.ref_inv
      obtain ⟨vs, hq, lq⟩ := rh.lst eq e1
      exact .base (.lst hq)
    · cases e
theorem dIsi_kit {h : DH} {d : D} {t : IT} {k : Bool} (e : dIsi d t h = some k) : ∃ n, tyD h d = some n ∧ kitB n (itTy t) = some k := by
  cases d with
  | ref i =>
    simp only [dIsi] at e
    simp only [tyD]
    split at e
    · rename_i xs e1
      refine ⟨"list", by first | rfl | rw [e1], ?_⟩
      cases t <;> cases e <;> decide +kernel
    · cases e
  | non => cases t <;> cases e <;> exact ⟨_, rfl, by decide +kernel⟩
  | bl b => cases t <;> cases e <;> exact ⟨_, rfl, by decide +kernel⟩
  | int b => cases t <;> cases e <;> exact ⟨_, rfl, by decide +kernel⟩
  | str b => cases t <;> cases e <;> exact ⟨_, rfl, by decide +kernel⟩
  | tup b => cases t <;> cases e <;> exact ⟨_, rfl, by decide +kernel⟩
  | frl b => cases t <;> cases e <;> exact ⟨_, rfl, by decide +kernel⟩
theorem tE_isi {t : IT} {x y : Str} {p2 : Pos} (hK : X.K = G.K) (hx : x = "isinstance") (hy : y = itNm t) (hg : Gl X x) (hm : X.mg x = none) (hg2 : Gl X y) (hm2 : X.mg y = none) (pa : PE X a (tE G W ma)) (hs : noStar a = true) :
    PE X (.Call (.Name x p) [a, .Name y p2] [] pos) (tE G W (mIsi ma t)) := by
  subst hx hy
  have pb : PE X (.Name (itNm t) p2) (tC (.ty (itTy t))) := by
    cases t <;> exact pe_bltn hg2 hm2 (by decide +kernel) rfl (by decide) (by decide)
  have pl : PA X [a, .Name (itNm t) p2] (tCons (tE G W ma) (tCons (tC (.ty (itTy t))) tNil)) := pa_cons pa (pa_cons pb pa_nil rfl) (star1 hs)
  refine PE.imp (pe_callB call_isi hg hm (by decide +kernel) pl (by decide) (by decide) (star1 hs) rfl) fun σ H Q ⟨as, h, en, rh, re, ob⟩ => ?_
  refine ⟨as, h, en, rh, re, (OutR.bind ob).imp fun v H1 n => ?_⟩
  obtain ⟨d, h1, as1, x1, rv, rh1, re1, o1⟩ := At.nxt re n
  unfold optB at o1
  split at o1
  · rename_i k e1
    obtain ⟨n, e2, e3⟩ := dIsi_kit e1
    rw [hK]
    exact ⟨v, _, _, _, k, rfl, .ty _, tyD_ok rv rh1 e2, kit_ty e3, o1 _ _ _ (Ext.refl _ _) (.bl _) rh1⟩
  · exact o1.elim
end
end Mp

/-! Mp10: what is walked; statements. -/
namespace Mp
open PySem L2 LamX PyProof.Rows
/-- J walks the things xs -/
def Walks (G : Wd) (J : It) (H0 : Hp) (as0 : List Addr) (xs : List D) (g : Option (Nat × List D)) : Prop :=
  ∀ H as h, Ext H0 as0 H as → RH G H as h → Still g h → (∀ (i : Nat) (d : D), xs[i]? = some d → J.go i H ∧ ∀ v H', J.yld i H v H' → Ext H as H' as ∧ RV G.K H' as v d ∧ RH G H' as h) ∧ ∀ i : Nat, xs.length ≤ i → J.stop i H
def relI (G : Wd) (H : Hp) (as : List Addr) (J : It) (p : List D × Option (Nat × List D)) : Prop := Walks G J H as p.1 p.2
def tI (G : Wd) (W : WX) (m : MI) : TI := fun σ H R => At G σ H fun e h as => OutR (relI G) (m e h) G H as R fun c d H' => W c d σ H'
section
variable {X : Cx} {G : Wd} {W : WX} {a b c e o tg : Expr} {es : List Expr} {ma mb mc mo : M} {ms : List M} {pos p apos : Pos} {H : Hp} {as : List Addr}
theorem PI.imp {t t' : TI} (p : PI X tg e t) (k : ∀ σ H R, t' σ H R → t σ H R) : PI X tg e t' := ⟨fun pins s σ H Q I h => p.run pins s σ H Q I (k _ _ _ h)⟩
theorem PI.or {t t' : TI} (p : PI X tg e t) (q : PI X tg e t') : PI X tg e (fun σ H R => t σ H R ∨ t' σ H R) := ⟨fun pins s σ H Q I h => h.elim (p.run pins s σ H Q I) (q.run pins s σ H Q I)⟩
theorem walks_lst {H0 : Hp} {as0 : List Addr} {i : Nat} {q : Addr} {xs : List D} (eq : as0[i]? = some q) : Walks G (Itl G.K q) H0 as0 xs (some (i, xs)) := fun H as h x rh st => by
  have e1 : h[i]? = some (.lst xs) := st
  obtain ⟨vs, hq, lq⟩ := rh.lst (x.pre _ _ eq) e1
  refine ⟨fun j d hd => ?_, fun j hj => ⟨vs, SqL.of hq, by rw [lq.length]; exact hj⟩⟩
  obtain ⟨v, ev, rv⟩ := lq.get hd
  refine ⟨⟨vs, v, SqL.of hq, ev⟩, fun w H' y => ?_⟩
  obtain ⟨e, y⟩ := y
  subst e
  have := y vs (SqL.of hq)
  rw [ev] at this
  cases this
  exact ⟨Ext.refl _ _, rv, rh⟩
theorem walks_tup {H0 : Hp} {as0 : List Addr} {q : Addr} {vs : List V} {xs : List D} (hq : SqT G.K H0 q vs) (lq : RL G.K H0 as0 vs xs) : Walks G (Itt G.K q) H0 as0 xs none := fun H as h x rh st => by
  have hq' := sqT_mono x.toEx0 hq
  have lq' := lq.mono x.toEx0
  refine ⟨fun j d hd => ?_, fun j hj => ⟨vs, hq', by rw [lq'.length]; exact hj⟩⟩
  obtain ⟨v, ev, rv⟩ := lq'.get hd
  refine ⟨⟨vs, v, hq', ev⟩, fun w H' y => ?_⟩
  obtain ⟨e, y⟩ := y
  subst e
  have := y vs hq'
  rw [ev] at this
  cases this
  exact ⟨Ext.refl _ _, rv, rh⟩
theorem walks_frl {H0 : Hp} {as0 : List Addr} {q : Addr} {vs : List V} {xs : List D} (hq : FrL G.K H0 q vs) (lq : RL G.K H0 as0 vs xs) : Walks G (Itl G.K q) H0 as0 xs none := fun H as h x rh st => by
  have hq' := (frL_mono x.toEx0 hq).sq
  have lq' := lq.mono x.toEx0
  refine ⟨fun j d hd => ?_, fun j hj => ⟨vs, hq', by rw [lq'.length]; exact hj⟩⟩
  obtain ⟨v, ev, rv⟩ := lq'.get hd
  refine ⟨⟨vs, v, hq', ev⟩, fun w H' y => ?_⟩
  obtain ⟨e, y⟩ := y
  subst e
  have := y vs hq'
  rw [ev] at this
  cases this
  exact ⟨Ext.refl _ _, rv, rh⟩
theorem walks_str {H0 : Hp} {as0 : List Addr} (z : Tx) : Walks G (Its ⟨z.toArray⟩) H0 as0 (z.map fun c => .str [c]) none := fun H as h x rh st => by
  refine ⟨fun j d hd => ?_, fun j hj => ?_⟩
  · rw [List.getElem?_map] at hd
    cases q : z[j]? with
    | none => rw [q] at hd; cases hd
    | some c =>
      rw [q] at hd
      cases hd
      have hj : j < z.length := (List.getElem?_eq_some_iff.mp q).1
      refine ⟨by show j < z.toArray.size; simpa using hj, fun w H' y => ?_⟩
      obtain ⟨e, c', ec, ew⟩ := y
      subst e ew
      have ec' : z[j]? = some c' := by simpa using ec
      rw [q] at ec'
      cases ec'
      exact ⟨Ext.refl _ _, RV.str [c], rh⟩
  · show z.toArray.size ≤ j
    simpa using hj
theorem walks_rng {H0 : Hp} {as0 : List Addr} (lo : Int) (n : Nat) : Walks G (Itr lo n) H0 as0 (rangeD lo n) none := fun H as h x rh st => by
  refine ⟨fun j d hd => ?_, fun j hj => ?_⟩
  · unfold rangeD at hd
    rw [List.getElem?_map] at hd
    cases q : (List.range n)[j]? with
    | none => rw [q] at hd; cases hd
    | some c =>
      rw [q] at hd
      cases hd
      obtain ⟨hj, ec⟩ := List.getElem?_eq_some_iff.mp q
      rw [List.getElem_range] at ec
      subst ec
      rw [List.length_range] at hj
      refine ⟨hj, fun w H' y => ?_⟩
      obtain ⟨e, ew⟩ := y
      subst e ew
      exact ⟨Ext.refl _ _, .int _, rh⟩
  · unfold rangeD at hj
    rw [List.length_map, List.length_range] at hj
    exact hj
theorem tI_e (hK : X.K = G.K) (pa : PE X a (tE G W ma)) : PI X tg a (tI G W (miE ma)) := PI.imp (PI.or (pi_list pa) (PI.or (pi_tup pa) (pi_str pa))) fun σ H R q => by
  obtain ⟨as, h, en, rh, re, ob⟩ := q
  unfold miE at ob
  rw [hK]
  cases q : ma en h with
  | err => rw [q] at ob; exact ob.elim
  | exc c w h1 =>
    rw [q] at ob
    exact .inl ⟨as, h, en, rh, re, by dsimp only; rw [q]; exact ob⟩
  | ok d h1 =>
    rw [q, bind_ok] at ob
    cases d with
    | tup xs =>
      refine .inr (.inl ⟨as, h, en, rh, re, ?_⟩)
      dsimp only
      rw [q]
      intro v H1 as1 x1 rv rh1
      obtain ⟨p, vs, rfl, hp, lp⟩ := rv.tup_inv
      exact ⟨p, rfl, ⟨vs, hp⟩, ob _ _ _ x1 (walks_tup hp lp) rh1⟩
    | frl xs =>
      refine .inl ⟨as, h, en, rh, re, ?_⟩
      dsimp only
      rw [q]
      intro v H1 as1 x1 rv rh1
      obtain ⟨p, vs, rfl, hp, lp⟩ := rv.frl_inv
      exact ⟨p, rfl, ⟨vs, hp.sq⟩, ob _ _ _ x1 (walks_frl hp lp) rh1⟩
    | str z =>
      refine .inr (.inr ⟨as, h, en, rh, re, ?_⟩)
      dsimp only
      rw [q]
      intro v H1 as1 x1 rv rh1
      cases rv
      exact ⟨_, rfl, ob _ _ _ x1 (walks_str z) rh1⟩
    | ref i =>
      refine .inl ⟨as, h, en, rh, re, ?_⟩
      dsimp only
      rw [q]
      intro v H1 as1 x1 rv rh1
      unfold itOf at ob
      dsimp only at ob
      split at ob
      · rename_i xs e1
        obtain ⟨p, rfl, ep⟩ := rv.ref_inv
        obtain ⟨vs, hp, lp⟩ := rh1.lst ep e1
        exact ⟨p, rfl, ⟨vs, SqL.of hp⟩, ob _ _ _ x1 (walks_lst ep) rh1⟩
      · exact ob.elim
    | non => exact ob.elim
    | bl _ => exact ob.elim
    | int _ => exact ob.elim
theorem tI_r1 {x : Str} (hx : x = "range") (hg : Gl X x) (hm : X.mg x = none) (pa : PE X a (tE G W ma)) (hs : noStar a = true) : PI X tg (.Call (.Name x p) [a] [] pos) (tI G W (miR1 ma)) := by
  subst hx
  refine PI.imp (pi_range1 hg hm (tL_cons pa tL_nil (star1 hs)) (star1 hs)) fun σ H R q => ?_
  obtain ⟨as, h, en, rh, re, ob⟩ := q
  refine ⟨as, h, en, rh, re, ?_⟩
  show OutR (RL G.K) ((ma en h).bind fun d h1 => (Rs.ok [] h1).bind fun ds h2 => .ok (d :: ds) h2) G H as _ _
  have ob : OutR (relI G) ((ma en h).bind fun x h1 => match x with
    | .int j => if -(2 ^ 62) ≤ j ∧ j < 2 ^ 62 then .ok (rangeD 0 j.toNat, none) h1 else .err
    | _ => .err) G H as R fun c d H' => W c d σ H' := ob
  cases q : ma en h with
  | err => rw [q] at ob; exact ob.elim
  | exc c w h1 => rw [q] at ob; exact ob
  | ok d h1 =>
    rw [q, bind_ok] at ob
    split at ob
    · split at ob
      · rename_i hj
        intro vs H1 as1 x1 rl rh1
        obtain ⟨v, rfl, rv⟩ := rl.one
        cases rv
        exact ⟨_, rfl, hj.1, hj.2, ob _ _ _ x1 (walks_rng 0 _) rh1⟩
      · exact ob.elim
    · exact ob.elim
end
/-! ### statements -/
def OutS (r : Out) (G : Wd) (H : Hp) (as : List Addr) (D : Ends) (W : WX) : Prop := match r with
  | .nx e h => ∀ σ H' as', Ext H as H' as' → REn G.K H' as' σ e → RH G H' as' h → D.nx σ H'
  | .rt d h => ∀ v H' as', Ext H as H' as' → RV G.K H' as' v d → RH G H' as' h → D.rt v H'
  | .bk e h => ∀ σ H' as', Ext H as H' as' → REn G.K H' as' σ e → RH G H' as' h → D.bk σ H'
  | .ct e h => ∀ σ H' as', Ext H as H' as' → REn G.K H' as' σ e → RH G H' as' h → D.ct σ H'
  | .exc c w e h => ∀ dx σ H' as', Ext H as H' as' → ExcR G H' as' w dx → REn G.K H' as' σ e → RH G H' as' h → W (.ref (G.cls c)) dx σ H'
  | .err => False
def tS (G : Wd) (W : WX) (m : Ms) : TS := fun D σ H => At G σ H fun e h as => OutS (m e h) G H as D W
section
variable {G : Wd} {W : WX} {H H' : Hp} {as as' : List Addr} {D : Ends}
theorem OutS.mono {r : Out} (o : OutS r G H as D W) (x : Ext H as H' as') : OutS r G H' as' D W := by
  cases r with
  | nx e h => exact fun σ H2 as2 y => o σ H2 as2 (x.trans y)
  | rt d h => exact fun σ H2 as2 y => o σ H2 as2 (x.trans y)
  | bk e h => exact fun σ H2 as2 y => o σ H2 as2 (x.trans y)
  | ct e h => exact fun σ H2 as2 y => o σ H2 as2 (x.trans y)
  | exc c w e h => exact fun dx σ H2 as2 y => o dx σ H2 as2 (x.trans y)
  | err => exact o
theorem OutR.bindO {α χ : Type} {rel : Hp → List Addr → χ → α → Prop} {r : Rs α} {f : α → DH → Out} {σ : L2.St} {e : En} (re : REn G.K H as σ e) (o : OutS (r.bindO e f) G H as D W) : OutR rel r G H as (Nxt rel G H as fun d h1 H1 as1 => OutS (f d h1) G H1 as1 D W) fun c d H' => W c d σ H' := by
  cases r with
  | ok d h => exact fun v H2 as2 x r2 rh => ⟨d, h, as2, x, r2, rh, OutS.mono (show OutS (f d h) G H as D W from o) x⟩
  | exc c w h => exact fun dx H2 as2 x ex rh => o dx σ H2 as2 x ex (re.mono x.toEx0) rh
  | err => exact o
end
section
variable {X : Cx} {G : Wd} {W : WX} {a b c e o tg : Expr} {st : Stmt} {rest sts : List Stmt} {ma mb mc mo : M} {m m1 m2 : Ms} {pos p apos : Pos}
theorem tS_nil : PSs X [] (tS G W sNext) := PSs.imp pss_nil fun D σ H ⟨as, h, en, rh, re, ob⟩ => ob σ H as (Ext.refl _ _) re rh
theorem tS_cons (h1 : PS X st (tS G W m1)) (h2 : PSs X rest (tS G W m2)) : PSs X (st :: rest) (tS G W (sSeq m1 m2)) := PSs.imp (pss_cons h1 h2) fun D σ H ⟨as, h, en, rh, re, ob⟩ => by
  refine ⟨as, h, en, rh, re, ?_⟩
  dsimp only at ob ⊢
  unfold sSeq at ob
  cases q : m1 en h with
  | nx e1 h1 =>
    rw [q] at ob
    exact fun σ1 H1 as1 x re1 rh1 => ⟨as1, h1, e1, rh1, re1, OutS.mono (show OutS (m2 e1 h1) G H as D W from ob) x⟩
  | rt _ _ => rw [q] at ob; exact ob
  | bk _ _ => rw [q] at ob; exact ob
  | ct _ _ => rw [q] at ob; exact ob
  | exc _ _ _ _ => rw [q] at ob; exact ob
  | err => rw [q] at ob; exact ob
theorem tS_pass : PS X (.Pass pos) (tS G W sNext) := PS.imp ps_pass fun D σ H ⟨as, h, en, rh, re, ob⟩ => ob σ H as (Ext.refl _ _) re rh
theorem tS_cont : PS X (.Continue pos) (tS G W sCont) := PS.imp ps_continue fun D σ H ⟨as, h, en, rh, re, ob⟩ => ob σ H as (Ext.refl _ _) re rh
theorem tS_drop (pa : PE X a (tE G W ma)) (hs : swapsWith a none pos.line X.env = pure false) : PS X (.Expr a pos) (tS G W (sDrop ma)) := PS.imp (ps_expr pa hs) fun D σ H ⟨as, h, en, rh, re, ob⟩ => by
  refine ⟨as, h, en, rh, re, (OutR.bindO re ob).imp fun x H1 n => ?_⟩
  obtain ⟨d, h1, as1, x1, rv, rh1, re1, o1⟩ := At.nxt re n
  exact o1 σ H1 as1 (Ext.refl _ _) re1 rh1
theorem tS_ret (pa : PE X a (tE G W ma)) : PS X (.Return (some a) pos) (tS G W (sRet ma)) := PS.imp (ps_ret pa) fun D σ H ⟨as, h, en, rh, re, ob⟩ => by
  refine ⟨as, h, en, rh, re, (OutR.bindO re ob).imp fun x H1 n => ?_⟩
  obtain ⟨d, h1, as1, x1, rv, rh1, re1, o1⟩ := At.nxt re n
  exact o1 x H1 as1 (Ext.refl _ _) rv rh1
theorem tS_if {th el : List Stmt} (pc : PT X c (tT G W mc)) (ha : PSs X th (tS G W m1)) (hb : PSs X el (tS G W m2)) : PS X (.If c th el pos) (tS G W (sIf mc m1 m2)) := PS.imp (ps_if pc ha hb) fun D σ H ⟨as, h, en, rh, re, ob⟩ => by
  refine ⟨as, h, en, rh, re, (OutR.bindO re ob).imp fun x H1 n => ?_⟩
  obtain ⟨d, h1, as1, x1, rv, rh1, re1, o1⟩ := At.nxt re n
  split at o1
  · cases rv
    exact ⟨true, rfl, iteT ⟨as1, h1, en, rh1, re1, o1⟩⟩
  · cases rv
    exact ⟨false, rfl, iteF ⟨as1, h1, en, rh1, re1, o1⟩⟩
  · exact o1.elim
/-! ### targets -/
/-- σ1 is σ but at the places is -/
def But (is : List Nat) (σ σ1 : L2.St) : Prop := σ1.length = σ.length ∧ ∀ j : Nat, j ∉ is → σ1[j]? = σ[j]?
def tG (G : Wd) (st : D → En → Option En) (is : List Nat) : TG := fun v σ H Q => ∃ as h e d, RH G H as h ∧ REn G.K H as σ e ∧ RV G.K H as v d ∧ ∃ e1, st d e = some e1 ∧ ∀ σ1, REn G.K H as σ1 e1 → But is σ σ1 → Q σ1 H
theorem PG.imp {t t' : TG} (p : PG X tg t) (k : ∀ v σ H Q, t' v σ H Q → t v σ H Q) : PG X tg t' := ⟨fun pins s σ H v u Q I r h => p.run pins s σ H v u Q I r (k _ _ _ _ h)⟩
theorem But.set (σ : L2.St) (i : Nat) (v : Option V) : But [i] σ (σ.set i v) := ⟨by simp, fun j hj => List.getElem?_set_ne (fun z => hj (by simp [z]))⟩
theorem tG_name {i : Nat} {x : Str} (q : PG X (.Name x pos) (gName i)) : PG X (.Name x pos) (tG G (stName i) [i]) := PG.imp q fun v σ H Q ⟨as, h, en, d, rh, re, rv, e1, h1, k⟩ => by
  cases h1
  exact k _ (re.set rv i) (But.set _ _ _)
def tGs (G : Wd) (is : List Nat) : TGs := fun vs σ H Q => ∃ as h e ds, RH G H as h ∧ REn G.K H as σ e ∧ RL G.K H as vs ds ∧ ∃ e1, stNames is ds e = some e1 ∧ ∀ σ1, REn G.K H as σ1 e1 → But is σ σ1 → Q σ1 H
theorem PGs.imp {ts : List Expr} {t t' : TGs} (p : PGs X ts t) (k : ∀ v σ H Q, t' v σ H Q → t v σ H Q) : PGs X ts t' := ⟨fun pins s σ H v u Q I r h => p.run pins s σ H v u Q I r (k _ _ _ _ h)⟩
theorem tGs_nil : PGs X [] (tGs G []) := PGs.imp pgs_nil fun vs σ H Q ⟨as, h, en, ds, rh, re, rl, e1, h1, k⟩ => by
  cases ds with
  | nil =>
    cases rl
    cases h1
    exact ⟨rfl, k _ re ⟨rfl, fun _ _ => rfl⟩⟩
  | cons _ _ => cases h1
theorem tGs_cons {i : Nat} {x : Str} {is : List Nat} {ts : List Expr} (q : PG X (.Name x pos) (gName i)) (r : PGs X ts (tGs G is)) (hs : (assignEach (.Name x pos :: ts) X.env).map (·.2) = assign (.Name x pos) X.env :: (assignEach ts X.env).map (·.2)) : PGs X (.Name x pos :: ts) (tGs G (i :: is)) :=
  PGs.imp (pgs_cons q r hs) fun vs σ H Q ⟨as, h, en, ds, rh, re, rl, e1, h1, k⟩ => by
  cases ds with
  | nil => cases h1
  | cons d ds =>
    cases rl with
    | cons rv rl =>
      refine ⟨_, _, rfl, as, h, _, ds, rh, re.set rv i, rl, e1, h1, fun σ1 r1 b1 => k σ1 r1 ⟨b1.1.trans (by simp), fun j hj => ?_⟩⟩
      rw [List.mem_cons, not_or] at hj
      rw [b1.2 j hj.2]
      exact List.getElem?_set_ne (Ne.symm hj.1)
theorem tG_tup (hK : X.K = G.K) {ts : List Expr} {k : Nat} {is : List Nat} (hc : X.calm = true) (q : PGs X ts (tGs G is)) (hl : is.length = ts.length) (hn : (assignEach ts X.env).length = ts.length) (hst : (assignEach ts X.env).findIdx? (·.1) = none) : PG X (.Tuple ts k pos) (tG G (stTup is) is) :=
  PG.imp (pg_tup (n := ts.length) hc q hn hst) fun v σ H Q ⟨as, h, en, d, rh, re, rv, e1, h1, k⟩ => by
  rw [hK]
  unfold stTup at h1
  split at h1
  · rename_i xs
    obtain ⟨p, vs, rfl, hp, lp⟩ := rv.tup_inv
    have ln : ∀ (is : List Nat) (xs : List D) (e e1 : En), stNames is xs e = some e1 → xs.length = is.length := by
      intro is
      induction is with
      | nil => intro xs e e1 z; cases xs with
        | nil => rfl
        | cons _ _ => cases z
      | cons i is ih => intro xs e e1 z; cases xs with
        | nil => cases z
        | cons x xs => rw [List.length_cons, List.length_cons, ih xs _ _ z]
    exact ⟨p, vs, rfl, hp, by rw [lp.length, ln _ _ _ _ h1, hl], as, h, en, xs, rh, re, lp, e1, h1, k⟩
  · cases h1
theorem tS_set {s : D → En → Option En} {is : List Nat} (p : PS X st (tAsg (tE G W ma) (tG G s is))) : PS X st (tS G W (sSet s ma)) := PS.imp p fun D σ H ⟨as, h, en, rh, re, ob⟩ => by
  refine ⟨as, h, en, rh, re, (OutR.bindO re ob).imp fun x H1 n => ?_⟩
  obtain ⟨d, h1, as1, x1, rv, rh1, re1, o1⟩ := At.nxt re n
  split at o1
  · rename_i e1 q
    exact ⟨as1, h1, en, d, rh1, re1, rv, e1, q, fun σ1 re2 _ => o1 σ1 H1 as1 (Ext.refl _ _) re2 rh1⟩
  · exact o1.elim
end
end Mp

/-! Mp11: for, while, fields, raise, comprehensions. -/
namespace Mp
open PySem L2 LamX PyProof.Rows
section
variable {X : Cx} {G : Wd} {W : WX} {a b c e o tg iter : Expr} {st : Stmt} {body rest sts : List Stmt} {ma mb mc mo : M} {mi : MI} {m m1 m2 : Ms} {pos p apos : Pos}
theorem tS_for {s : D → En → Option En} {is : List Nat} (hp : PassesOwn (model X.prog X.w) X.A X.env X.xe) (hc : X.calm = true) (pi : PI X tg iter (tI G W mi)) (pg : PG X tg (tG G s is)) (pb : PSs X body (tS G W m)) (hs : ∀ x, foldedSetIterable iter X.env x = pure x) :
    PS X (.For tg iter body [] pos) (tS G W (sFor mi s m)) := PS.imp (ps_for hp hc pi pg pb hs) fun D σ H ⟨as, h, en, rh, re, ob⟩ => by
  refine ⟨as, h, en, rh, re, (OutR.bindO re ob).imp fun J H1 n => ?_⟩
  obtain ⟨q, h1, as1, x1, wk, rh1, o1⟩ := n
  refine ⟨fun i m0 σ2 H2 => m0 = q.1.length - i ∧ i ≤ q.1.length ∧ ∃ as2 h2 e2, Ext H1 as1 H2 as2 ∧ RH G H2 as2 h2 ∧ REn G.K H2 as2 σ2 e2 ∧ OutS (forL q.2 s m (q.1.drop i) e2 h2) G H2 as2 D W, ⟨_, rfl, Nat.zero_le _, as1, h1, en, Ext.refl _ _, rh1, re.mono x1.toEx0, o1⟩, ?_⟩
  rintro i m0 σ2 H2 ⟨rfl, hi, as2, h2, e2, x2, rh2, re2, o2⟩
  by_cases hlt : i < q.1.length
  · have ed : q.1.drop i = q.1[i] :: q.1.drop (i + 1) := List.drop_eq_getElem_cons hlt
    rw [ed] at o2
    unfold forL at o2
    split at o2
    · rename_i hst
      split at o2
      · exact o2.elim
      · rename_i e3 hs3
        obtain ⟨w1, _⟩ := wk H2 as2 h2 x2 rh2 hst
        obtain ⟨g1, y1⟩ := w1 i q.1[i] (by simp [hlt])
        refine .inr ⟨g1, fun σ' H' => q.1.length - (i + 1) = q.1.length - (i + 1) ∧ i + 1 ≤ q.1.length ∧ ∃ as3 h3 e3, Ext H1 as1 H' as3 ∧ RH G H' as3 h3 ∧ REn G.K H' as3 σ' e3 ∧ OutS (forL q.2 s m (q.1.drop (i + 1)) e3 h3) G H' as3 D W,
          fun σ' H' z => ⟨_, by omega, z⟩, fun v H3 yl => ?_⟩
        obtain ⟨x3, rv, rh3⟩ := y1 v H3 yl
        refine ⟨as2, h2, e2, _, rh3, re2.mono x3.toEx0, rv, e3, hs3, fun σ3 re3 _ => ⟨as2, h2, e3, rh3, re3, ?_⟩⟩
        have o3 := OutS.mono o2 x3
        dsimp only
        cases qb : m e3 h2 with
        | nx e4 h4 =>
          rw [qb] at o3
          exact fun σ4 H4 as4 x4 re4 rh4 => ⟨rfl, hlt, as4, h4, e4, (x2.trans x3).trans x4, rh4, re4, OutS.mono o3 x4⟩
        | ct e4 h4 =>
          rw [qb] at o3
          exact fun σ4 H4 as4 x4 re4 rh4 => ⟨rfl, hlt, as4, h4, e4, (x2.trans x3).trans x4, rh4, re4, OutS.mono o3 x4⟩
        | bk e4 h4 => rw [qb] at o3; exact o3
        | rt d h4 => rw [qb] at o3; exact o3
        | exc c w e4 h4 => rw [qb] at o3; exact o3
        | err => rw [qb] at o3; exact o3.elim
    · exact o2.elim
  · have ei : i = q.1.length := by omega
    subst ei
    rw [List.drop_length] at o2
    unfold forL at o2
    split at o2
    · rename_i hst
      obtain ⟨_, w2⟩ := wk H2 as2 h2 x2 rh2 hst
      exact .inl ⟨w2 _ (Nat.le_refl _), o2 σ2 H2 as2 (Ext.refl _ _) re2 rh2⟩
    · exact o2.elim
theorem tS_whl (hp : PassesOwn (model X.prog X.w) X.A X.env X.xe) (pc : PT X c (tT G W mc)) (pb : PSs X body (tS G W m)) : PS X (.While c body [] pos) (tS G W (sWhl mc m)) := PS.imp (ps_while hp pc pb) fun D σ H ⟨as, h, en, rh, re, ob⟩ => by
  have ne : sWhl mc m en h ≠ .err := fun z => by dsimp only at ob; rw [z] at ob; exact ob
  obtain ⟨n, _, en1⟩ := sWhl_some ne
  dsimp only at ob
  rw [en1] at ob
  refine ⟨fun m0 σ2 H2 => ∃ as2 h2 e2, RH G H2 as2 h2 ∧ REn G.K H2 as2 σ2 e2 ∧ OutS (whlN mc m m0 e2 h2) G H2 as2 D W, ⟨n, as, h, en, rh, re, ob⟩, ?_⟩
  rintro m0 σ2 H2 ⟨as2, h2, e2, rh2, re2, o2⟩
  cases m0 with
  | zero => exact o2.elim
  | succ k =>
    refine ⟨as2, h2, e2, rh2, re2, ?_⟩
    unfold whlN at o2
    dsimp only
    cases qc : mc e2 h2 with
    | err => rw [qc] at o2; exact o2.elim
    | exc c w h3 =>
      rw [qc] at o2
      exact fun dx H3 as3 x3 ex rh3 => o2 dx σ2 H3 as3 x3 ex (re2.mono x3.toEx0) rh3
    | ok d h3 =>
      rw [qc] at o2
      intro v H3 as3 x3 rv rh3
      have re3 := re2.mono x3.toEx0
      cases d with
      | bl bb =>
        cases rv
        cases bb with
        | false => exact ⟨false, rfl, iteF (OutS.mono (show OutS (.nx e2 h3) G H2 as2 D W from o2) x3 σ2 H3 as3 (Ext.refl _ _) re3 rh3)⟩
        | true =>
          refine ⟨true, rfl, iteT ⟨fun σ' H' => ∃ as4 h4 e4, RH G H' as4 h4 ∧ REn G.K H' as4 σ' e4 ∧ OutS (whlN mc m k e4 h4) G H' as4 D W, fun σ' H' z => ⟨k, Nat.lt_succ_self k, z⟩, as3, h3, e2, rh3, re3, ?_⟩⟩
          have o3 := OutS.mono o2 x3
          dsimp only at o3 ⊢
          cases qb : m e2 h3 with
          | nx e4 h4 =>
            rw [qb] at o3
            exact fun σ4 H4 as4 x4 re4 rh4 => ⟨as4, h4, e4, rh4, re4, OutS.mono o3 x4⟩
          | ct e4 h4 =>
            rw [qb] at o3
            exact fun σ4 H4 as4 x4 re4 rh4 => ⟨as4, h4, e4, rh4, re4, OutS.mono o3 x4⟩
          | bk e4 h4 => rw [qb] at o3; exact o3
          | rt d h4 => rw [qb] at o3; exact o3
          | exc c w e4 h4 => rw [qb] at o3; exact o3
          | err => rw [qb] at o3; exact o3.elim
      | _ => exact o2.elim
theorem put_RF {H : Hp} {as : List Addr} (hi : ∀ f g, G.fnm f = G.fnm g → f = g) {f : Nat} {d : D} {v : V} (rv : RV G.K H as v d) : ∀ {fvs : List (Str × V)} {fs : List (Nat × D)}, RF G H as fvs fs → RF G H as (putF (G.fnm f) v fvs) (putN f d fs)
  | [], [], _ => ⟨rfl, .cons rv .nil⟩
  | [], _ :: _, r => by have := r.1; simp at this
  | _ :: _, [], r => by have := r.1; simp at this
  | (y, w) :: fvs, (g, d') :: fs, r => by
    obtain ⟨r1, r2⟩ := r
    simp only [List.map_cons, List.cons.injEq] at r1
    cases r2 with
    | cons rw' rl =>
      by_cases q : g = f
      · subst q
        have e1 : y = G.fnm g := r1.1
        subst e1
        unfold putF putN
        rw [if_pos rfl, if_pos rfl]
        exact ⟨by simp [r1.2], .cons rv rl⟩
      · have e1 : ¬ y = G.fnm f := fun z => q (hi _ _ (r1.1.symm.trans z))
        unfold putF putN
        rw [if_neg e1, if_neg q]
        obtain ⟨z1, z2⟩ := put_RF hi rv (fvs := fvs) (fs := fs) ⟨r1.2, rl⟩
        exact ⟨by simp [r1.1, z1], .cons rw' z2⟩
theorem putN_mem {f : Nat} {d : D} {q : Nat × D} : ∀ {fs : List (Nat × D)}, q ∈ putN f d fs → q.1 = f ∨ ∃ q', q' ∈ fs ∧ q'.1 = q.1
  | [], h => by
    simp only [putN, List.mem_singleton] at h
    subst h
    exact .inl rfl
  | (g, d') :: fs, h => by
    unfold putN at h
    split at h
    · rcases List.mem_cons.mp h with h | h
      · subst h; exact .inl rfl
      · exact .inr ⟨q, List.mem_cons_of_mem _ h, rfl⟩
    · rcases List.mem_cons.mp h with h | h
      · exact .inr ⟨_, List.mem_cons_self, by rw [h]⟩
      · rcases putN_mem h with z | ⟨q', z1, z2⟩
        · exact .inl z
        · exact .inr ⟨q', List.mem_cons_of_mem _ z1, z2⟩
theorem ex0_put {H : Hp} {as : List Addr} {q : Addr} {u w : HO} (hq : H q = some w) (k : ours w = true) : Ex0 H as (upd H q u) as := by
  have ne : ∀ b z, H b = some z → ours z = false → b ≠ q := fun b z eb kz e => by
    subst e; rw [hq] at eb; cases eb; rw [k] at kz; cases kz
  refine ⟨fun _ _ e => e, fun b ys e => ?_, fun b o u e => ?_⟩
  · rcases e with e | ⟨ob, e⟩
    · exact .inl (by rw [upd_ne (ne b _ e rfl)]; exact e)
    · exact .inr ⟨ob, by rw [upd_ne (ne b _ e rfl)]; exact e⟩
  · rw [upd_ne (ne b _ e rfl)]; exact e
theorem tS_fld (hK : X.K = G.K) (hi : ∀ f g, G.fnm f = G.fnm g → f = g) {fo : List (Nat × Nat)} (hfo : ∀ q ∈ fo, NoAttr G.K (G.cls q.1) (G.fnm q.2)) {f : Nat} {pos' : Pos} (po : PE X o (tE G W mo)) (pa : PE X a (tE G W ma)) (hs : swapsWith a (some (.Attribute o (G.fnm f) pos')) pos.line X.env = pure false) :
    PS X (.Assign [.Attribute o (G.fnm f) pos'] a pos) (tS G W (sFld fo mo f ma)) := PS.imp (ps_fld po pa hs) fun D σ H ⟨as, h, en, rh, re, ob⟩ => by
  refine ⟨as, h, en, rh, re, (OutR.bindO re ob).imp fun y H1 n => ?_⟩
  obtain ⟨d, h1, as1, x1, rv, rh1, re1, o1⟩ := At.nxt re n
  refine ⟨as1, h1, en, rh1, re1, (OutR.bindO re1 o1).imp fun x H2 n => ?_⟩
  obtain ⟨dx, h2, as2, x2, rx, rh2, re2, o2⟩ := At.nxt re1 n
  split at o2
  · rename_i i
    split at o2
    · rename_i c fs e1
      split at o2
      · rename_i hl
        obtain ⟨q, rfl, eq⟩ := rx.ref_inv
        obtain ⟨dx, fvs, hq, rf, cl, na⟩ := rh2.ins eq e1
        rw [hK]
        have nf := hfo _ hl.2
        have len : fvs.length = fs.length := by have := congrArg List.length rf.1; simpa using this
        refine ⟨q, _, dx, fvs, rfl, hq, cl, nf, by rw [len]; exact hl.1, ?_⟩
        have x0 := ex0_put (as := as2) (u := .ins (G.cls c) dx (putF (G.fnm f) y fvs)) hq rfl
        obtain ⟨x3, rh3⟩ := rh2.put (u := .ins (G.cls c) dx (putF (G.fnm f) y fvs)) (o := .ins c (putN f d fs)) eq ⟨dx, _, upd_same, put_RF hi ((rv.mono x2.toEx0).mono x0) (rf.mono x0), cl, fun z hz => by
          rcases putN_mem hz with e | ⟨z', h1, h2⟩
          · rw [e]; exact nf
          · rw [← h2]; exact na z' h1⟩
        exact o2 σ _ as2 x3 (re2.mono x3.toEx0) rh3
      · exact o2.elim
    · exact o2.elim
  · exact o2.elim
theorem tS_raise {x msg : Str} {j cn : Nat} {p p2 ps2 : Pos} (hc : X.calm = true) (tk : L2N.Takes X W) (q : PySem.W.excIn X.K (G.cls cn) He.veBase "ValueError.__new__" = true) (gC : X.mg x = some (.ref (G.cls cn))) (kC : PySem.W.keepIn X.K (.ref (G.cls cn)) = true) (r : Raises X (.ref (G.cls cn))) (hg : Gl X x) (hdb : (x == ("__debug__" : Str)) = false) :
    PS X (.Raise (some (.Call (.Name x p) [.Constant (.str msg) j p2] [] ps2)) none pos) (tS G W (sRaise cn)) :=
  PS.imp (L2N.ps_raise hc tk (L2N.pmk_own PySem.F.excBase_ValueError q gC kC r hg hdb)) fun D σ H ⟨as, h, en, rh, re, ob⟩ => ob none σ H as (Ext.refl _ _) rfl re rh
end
end Mp

/-! Mp12: list comprehensions. -/
namespace Mp
open PySem L2 LamX PyProof.Rows
def W0 : WX := fun _ _ _ _ => False
theorem wipe_get (σ : L2.St) : ∀ (vs : List Nat) (j : Nat), (wipe σ vs)[j]? = if j ∈ vs then (if j < σ.length then some none else none) else σ[j]?
  | [], j => by simp [wipe]
  | v :: vs, j => by
    unfold wipe
    by_cases e : v = j
    · subst e
      by_cases hl : v < σ.length
      · rw [List.getElem?_set_self (by rw [wipe_length]; exact hl)]
        simp [hl]
      · rw [List.getElem?_eq_none (by rw [List.length_set, wipe_length]; omega)]
        simp [hl]
    · rw [List.getElem?_set_ne e, wipe_get σ vs j]
      have : (j ∈ v :: vs) = (j ∈ vs) := by
        simp only [List.mem_cons, eq_iff_iff]
        exact ⟨fun h => h.elim (fun z => absurd z.symm e) id, .inr⟩
      simp only [this]
theorem wipe_but {σ σ1 : L2.St} {vs is : List Nat} (b : But is (wipe σ vs) σ1) (hs : ∀ i ∈ is, i ∈ vs) : wipe σ1 vs = wipe σ vs := by
  apply List.ext_getElem?
  intro j
  rw [wipe_get, wipe_get]
  by_cases hj : j ∈ vs
  · rw [if_pos hj, if_pos hj, b.1, wipe_length]
  · rw [if_neg hj, if_neg hj, b.2 j (fun z => hj (hs j z)), wipe_get, if_neg hj]
theorem wipe_REn {K : PySem.W.Frag} {H : Hp} {as : List Addr} {σ : L2.St} {e : En} (re : REn K H as σ e) : ∀ vs : List Nat, REn K H as (wipe σ vs) (wipeD e vs)
  | [] => re
  | v :: vs => (wipe_REn re vs).setN v
/-- a list that is none of ours is changed -/
theorem RH.aside {G : Wd} {H : Hp} {as : List Addr} {h : DH} (rh : RH G H as h) {q : Addr} {vs : List V} {u : HO} (hq : H q = some (.lst vs)) (nq : q ∉ as) : RH G (upd H q u) as h := by
  have x0 := ex0_put (as := as) (u := u) hq rfl
  refine ⟨rh.len, rh.nd, fun i a o e1 e2 => ?_, fun p hp => ?_⟩
  · have na : a ≠ q := fun z => nq (by rw [← z]; exact List.mem_of_getElem? e1)
    exact (rh.ob i a o e1 e2).mono x0 (by rw [upd_ne na])
  · obtain ⟨ps, h1, h2, h3⟩ := rh.tab p hp
    refine ⟨ps, by rw [upd_ne (ne_of h1 hq (by intro z; cases z))]; exact h1, h2, fun pos cv hc => ?_⟩
    obtain ⟨c, ec, hc2⟩ := h3 pos cv hc
    exact ⟨c, ec, by rw [upd_ne (ne_of hc2 hq (by unfold CodeO; intro z; cases z))]; exact hc2⟩
theorem Ext.aside {H0 H : Hp} {as0 as : List Addr} (x : Ext H0 as0 H as) {q : Addr} {vs : List V} {u : HO} (n0 : H0 q = none) (hq : H q = some (.lst vs)) : Ext H0 as0 (upd H q u) as := by
  have x0 := ex0_put (as := as) (u := u) hq rfl
  have ne : ∀ b w, H0 b = some w → b ≠ q := fun b w e => ne_of_none e n0
  exact ⟨⟨x.pre, fun a xs e => x0.tup a xs (x.tup a xs e), fun a o w e => x0.frz a o w (x.frz a o w e)⟩, fun a o e n t => by rw [upd_ne (ne a o e)]; exact x.kp a o e n t, x.sub⟩
section
variable {X : Cx} {G : Wd} {W : WX} {elt tg iter : Expr} {ifs : List Expr} {mc me : M} {mi : MI} {s : D → En → Option En} {is vs : List Nat}
theorem comp_key (σ : L2.St) (H : Hp) (Q : VK) (hs : ∀ i ∈ is, i ∈ vs) (q : tE G W (mComp mi vs s mc me) σ H Q) : tLc (tI G W mi) (tG G s is) (tT G W0 mc) (tE G W0 me) vs σ H Q := by
  obtain ⟨as, h, en, rh, re, ob⟩ := q
  refine ⟨as, h, en, rh, re, (OutR.bind (rel := relI G) ob).imp fun J H1 n => ?_⟩
  obtain ⟨q, h1, as1, x1, wk, rh1, o1⟩ := n
  intro Dd nD
  by_cases hlen : q.1.length ≤ sizeLine
  case neg =>
    rw [if_neg hlen] at o1
    exact o1.elim
  rw [if_pos hlen] at o1
  have re1 := re.mono x1.toEx0
  obtain ⟨xD, rhD⟩ := rh1.laid (u := .lst []) nD
  refine ⟨fun i m0 H2 => m0 = q.1.length - i ∧ i ≤ q.1.length ∧ ∃ as2 h2 acc dacc, Ext H1 as1 H2 as2 ∧ RH G H2 as2 h2 ∧ H2 Dd = some (.lst acc) ∧ Dd ∉ as2 ∧ RL G.K H2 as2 acc dacc ∧ acc.length ≤ i ∧
      OutE ((compL q.2 s mc me (wipeD en vs) (q.1.drop i) h2).bind fun ds h3 => .ok (.ref h3.length) (h3 ++ [O.lst (dacc ++ ds)])) G H1 as1 Q fun c d H' => W c d σ H',
    ⟨_, rfl, Nat.zero_le _, as1, h1, [], [], xD, rhD, upd_same, rh1.new nD, .nil, Nat.le_refl _, o1⟩, ?_⟩
  rintro i m0 H2 ⟨rfl, hi, as2, h2, acc, dacc, x2, rh2, hD, nD2, rl2, la, o2⟩
  have re2 : REn G.K H2 as2 σ en := re1.mono x2.toEx0
  by_cases hlt : i < q.1.length
  · have ed : q.1.drop i = q.1[i] :: q.1.drop (i + 1) := List.drop_eq_getElem_cons hlt
    rw [ed] at o2
    unfold compL at o2
    by_cases hst : Still q.2 h2
    case neg =>
      rw [if_neg hst] at o2
      exact o2.elim
    rw [if_pos hst] at o2
    cases hs3 : s q.1[i] (wipeD en vs) with
    | none =>
      rw [hs3] at o2
      exact o2.elim
    | some e3 =>
    rw [hs3] at o2
    dsimp only at o2
    obtain ⟨w1, _⟩ := wk H2 as2 h2 x2 rh2 hst
    obtain ⟨g1, y1⟩ := w1 i q.1[i] (by simp [hlt])
    refine .inr ⟨g1, fun H' => i + 1 ≤ q.1.length ∧ ∃ as3 h3 acc3 dacc3, Ext H1 as1 H' as3 ∧ RH G H' as3 h3 ∧ H' Dd = some (.lst acc3) ∧ Dd ∉ as3 ∧ RL G.K H' as3 acc3 dacc3 ∧ acc3.length ≤ i + 1 ∧
        OutE ((compL q.2 s mc me (wipeD en vs) (q.1.drop (i + 1)) h3).bind fun ds h4 => .ok (.ref h4.length) (h4 ++ [O.lst (dacc3 ++ ds)])) G H1 as1 Q fun c d H' => W c d σ H',
      fun H' z => ⟨_, by omega, rfl, z⟩, fun v H3 yl => ?_⟩
    obtain ⟨x3, rv, rh3⟩ := y1 v H3 yl
    have hD3 : H3 Dd = some (.lst acc) := x3.kp Dd _ hD nD2 (fun _ z => nomatch z)
    refine ⟨as2, h2, wipeD en vs, _, rh3, wipe_REn (re2.mono x3.toEx0) vs, rv, e3, hs3, fun σ3 re3 b3 => ⟨wipe_but b3 hs, as2, h2, e3, rh3, re3, ?_⟩⟩
    dsimp only
    have x13 := x2.trans x3
    cases qc : mc e3 h2 with
    | err => rw [qc] at o2; exact o2.elim
    | exc c w h3 => rw [qc] at o2; exact o2.elim
    | ok d h3 =>
      rw [qc] at o2
      intro v4 H4 as4 x4 rv4 rh4
      have nD4 : Dd ∉ as4 := fun z => (x4.sub Dd z).elim nD2 fun z => by obtain ⟨_, w⟩ := z _ hD3; cases w
      have hD4 : H4 Dd = some (.lst acc) := x4.kp Dd _ hD3 nD2 (fun _ z => nomatch z)
      have re4 := re3.mono x4.toEx0
      have rl4 := (rl2.mono x3.toEx0).mono x4.toEx0
      cases d with
      | bl bb =>
        cases rv4
        cases bb with
        | false =>
          refine ⟨false, rfl, iteF ⟨hlt, as4, h3, acc, dacc, x13.trans x4, rh4, hD4, nD4, rl4, Nat.le_succ_of_le la, o2⟩⟩
        | true =>
          refine ⟨true, rfl, iteT ⟨as4, h3, e3, rh4, re4, ?_⟩⟩
          dsimp only at o2 ⊢
          cases qe : me e3 h3 with
          | err => rw [qe] at o2; exact o2.elim
          | exc c w h5 => rw [qe] at o2; exact o2.elim
          | ok d5 h5 =>
            rw [qe] at o2
            intro v5 H5 as5 x5 rv5 rh5
            have nD5 : Dd ∉ as5 := fun z => (x5.sub Dd z).elim nD4 fun z => by obtain ⟨_, w⟩ := z _ hD4; cases w
            have hD5 : H5 Dd = some (.lst acc) := x5.kp Dd _ hD4 nD4 (fun _ z => nomatch z)
            have x05 := ex0_put (as := as5) (u := .lst (acc ++ [v5])) hD5 rfl
            refine ⟨acc, hD5, by omega, hlt, as5, h5, acc ++ [v5], dacc ++ [d5], ((x13.trans x4).trans x5).aside nD hD5, rh5.aside hD5 nD5, upd_same, nD5, ((rl4.mono x5.toEx0).app (.cons rv5 .nil)).mono x05, by simp; omega, ?_⟩
            have eb : (((compL q.2 s mc me (wipeD en vs) (q.1.drop (i + 1)) h5).bind fun ds h3 => Rs.ok (d5 :: ds) h3).bind fun ds h3 => Rs.ok (D.ref h3.length) (h3 ++ [.lst (dacc ++ ds)])) = ((compL q.2 s mc me (wipeD en vs) (q.1.drop (i + 1)) h5).bind fun ds h4 => Rs.ok (D.ref h4.length) (h4 ++ [.lst (dacc ++ [d5] ++ ds)])) := by
              cases compL q.2 s mc me (wipeD en vs) (q.1.drop (i + 1)) h5 with
              | ok ds h6 => simp
              | exc _ _ _ => rfl
              | err => rfl
            rw [← eb]
            exact o2
      | _ => exact o2.elim
  · have ei : i = q.1.length := by omega
    subst ei
    rw [List.drop_length] at o2
    unfold compL at o2
    split at o2
    · rename_i hst
      obtain ⟨_, w2⟩ := wk H2 as2 h2 x2 rh2 hst
      refine .inl ⟨w2 _ (Nat.le_refl _), ?_⟩
      rw [bind_ok, List.append_nil] at o2
      have e1 : (as2 ++ [Dd])[h2.length]? = some Dd := by rw [← rh2.len]; simp
      have pre : ∀ (i : Nat) (a : Addr), as2[i]? = some a → (as2 ++ [Dd])[i]? = some a := fun i a e => by
        rw [List.getElem?_append_left (List.getElem?_eq_some_iff.mp e).1]; exact e
      have x4 : Ex0 H2 as2 H2 (as2 ++ [Dd]) := ⟨pre, fun _ _ e => e, fun _ _ _ e => e⟩
      have x5 : Ext H1 as1 H2 (as2 ++ [Dd]) := ⟨⟨fun i a e => pre i a (x2.pre i a e), x2.tup, x2.frz⟩, x2.kp, fun a m => by
        rcases List.mem_append.mp m with m | m
        · exact x2.sub a m
        · rw [List.mem_singleton] at m; subst m; exact .inr fun o q => by rw [nD] at q; cases q⟩
      refine o2 _ H2 (as2 ++ [Dd]) x5 (.ref e1) ⟨by simp [rh2.len], ?_, fun j b o' z1 z2 => ?_, rh2.tab⟩
      · rw [List.nodup_append]
        exact ⟨rh2.nd, by simp, fun a ha b hb => by
          rw [List.mem_singleton] at hb; subst hb
          exact fun z => nD2 (z ▸ ha)⟩
      · by_cases hj : j < as2.length
        · rw [List.getElem?_append_left hj] at z1
          rw [List.getElem?_append_left (by rw [← rh2.len]; exact hj)] at z2
          exact (rh2.ob j b o' z1 z2).mono x4 rfl
        · have hj' : as2.length ≤ j := Nat.le_of_not_lt hj
          rw [List.getElem?_append_right hj'] at z1
          rw [List.getElem?_append_right (by rw [← rh2.len]; exact hj'), ← rh2.len] at z2
          cases zz : j - as2.length with
          | zero =>
            rw [zz] at z1 z2
            have y1 : Dd = b := by simpa using z1
            have y2 : O.lst dacc = o' := by simpa using z2
            subst y1 y2
            exact ⟨acc, hD, rl2.mono x4⟩
          | succ k =>
            rw [zz] at z1
            simp at z1
    · exact o2.elim
end
end Mp

/-! Hx1: a list's end while an exception is handled. -/
namespace Mp
open PySem L2 LamX PyProof.Rows HotX
section
variable {prog : Program} {w : World} {A : Around} {E : Value → Shared → Prop} {s : Shared}
theorem lstEnd_hot {j lq x1 : Addr} {k : Nat} {xs : Array Value} {Q : Option Value → Shared → Prop} (hot : HotAt A x1 s.heap) (ne : x1 ≠ j)
    (st : s.heap.IsListIter j lq k) (li : s.heap.IsList lq xs) (out : xs[k]? = none)
    (q : ∀ h', Heap.ExtBut j s.heap h' → Q none { s with heap := h' }) : wpAny (model prog w) A (pyNext (.ref j)) Q E s := by
  obtain ⟨hh, o1, v1, g1, d1, c1⟩ := hot
  obtain ⟨oj, hj, hcj, hdj⟩ := id st
  obtain ⟨oq, hq, _, nq, hdq⟩ := li
  unfold pyNext
  refine wpAny_bind (wpAny_attempt (wpAny_callSpecial?_slot (name := Str.ofString "__next__") st.typeIs slot_listiter_next (wpAny_call_entry slot_listiter_next st.typeIs entry_listiter_next ?_ (args_listiter_next _))))
  show wpAny _ _ (field (.ref j) 0 >>= _) _ _ s
  refine wpAny_bind (wpAny_field hj hdj (x := .ref lq) rfl ?_)
  show wpAny _ _ (if (Value.ref lq == Value.none) = true then _ else _) _ _ s
  rw [if_neg (show ¬ ((Value.ref lq == Value.none) = true) from Bool.false_ne_true)]
  show wpAny _ _ (field (.ref j) 1 >>= _) _ _ s
  refine wpAny_bind (wpAny_field hj hdj (x := .int k 0) rfl ?_)
  show wpAny _ _ (seqItems? (.ref lq) >>= _) _ _ s
  refine wpAny_bind (wpAny_seqItems hq hdq ?_)
  simp only [Int.toNat_natCast, out]
  refine wpAny_bind (wpAny_rule (wpAny_bind (wpAny_setField hj hdj (by simp) ?_)))
  show wpAny _ _ (newExc (.type "StopIteration") [] >>= fun z => _) _ _ _
  refine wpAny_bind ?_
  simp only [newExc, newTuple]
  refine wpAny_bind (wpAny_newObj_type ?_ (by size_fits))
  refine wpAny_bind (m := firstArgMember _ _) (wpAny_of_eq (a := Value.none) (by first | rfl | (simp only [firstArgMember]; rfl)) ?_)
  refine wpAny_newObj_type ?_ (by size_fits)
  have gg : (s.heap.update j (Obj.mapFields (·.setIfInBounds 0 .none))).get? x1 = some o1 := by rw [Heap.get?_update_other _ _ (Ne.symm ne)]; exact g1
  refine raiseNew_hot ⟨hh, o1, v1, Heap.get?_push_of_some _ (Heap.get?_push_of_some _ gg), d1, c1⟩ (Nat.ne_of_lt (Heap.lt_size (Heap.get?_push_of_some _ gg))) (Heap.get?_push_size _ rfl) rfl (by first | (simp; done) | (simp; omega) | (simp only [Array.size_append]; simp; omega)) ?_
  refine wpAny_bind (wpAny_isInstance (T := "StopIteration") (b := true) ⟨_, Heap.get?_update_self _ (Heap.get?_push_size _ rfl) rfl, rfl⟩ isSubtype_stop ?_)
  refine wpAny_pure (q _ fun b o hb e => ?_)
  have e' : (s.heap.update j (Obj.mapFields (·.setIfInBounds 0 .none))).get? b = some o := by rw [Heap.get?_update_other _ _ (Ne.symm hb)]; exact e
  rw [Heap.get?_update_other _ _ (Nat.ne_of_gt (Heap.lt_size (Heap.get?_push_of_some _ e')))]
  exact Heap.get?_push_of_some _ (Heap.get?_push_of_some _ e')
end
/-! ### the turns of a list there -/
theorem turn_lstH {P : Program} {w : World} {K : PySem.W.Frag} {tg : Expr} (a it : Addr) : L2H.TurnH P w K tg (Itl K a) [it] it (fun i h => h.IsListIter it a i) where
  mem := List.mem_singleton.mpr rfl
  obj := (turn_list (P := P) (w := w) (K := K) (tg := tg) a it).obj
  keep := (turn_list (P := P) (w := w) (K := K) (tg := tg) a it).keep
  item := by
    intro X eP ew eK hot i pins s σ H E I fr st hg
    subst eP ew eK
    obtain ⟨xs, x, sq, hx⟩ := hg
    obtain ⟨its, rv, pl, _⟩ := I.list sq
    obtain ⟨u, hu, ru⟩ := rv.get hx
    obtain ⟨n0, n1, n2, n3, n4, n5⟩ := fr it (List.mem_singleton.mpr rfl)
    refine wpAny_pyNext_list_item st pl.isList (x := u) (by simpa using hu) fun h2 st2 same => ?_
    have I2 : Inv X pins σ H { s with heap := h2 } := I.turned (t' := s.toks) (fun b o nb e => (same.2 b nb).trans e) n0 n1 n3 n4 n5
    obtain ⟨o2, e2, c2, d2⟩ := id st2
    exact ⟨u, rfl, go_of (s := { s with heap := h2 }) e2 c2 d2 (by decide) ⟨x, H, I2, ru, ⟨rfl, fun ys sy => by rw [I.list_inj sy sq]; exact hx⟩, st2, fun b hb => (fr b hb).1⟩⟩
  done := by
    intro X eP ew eK hot i pins s σ H E I fr st hg
    subst eP ew eK
    obtain ⟨xs, sq, hx⟩ := hg
    obtain ⟨its, rv, pl, _⟩ := I.list sq
    obtain ⟨n0, n1, n2, n3, n4, n5⟩ := fr it (List.mem_singleton.mpr rfl)
    have le := rv.length
    obtain ⟨p, ⟨hh, v1, e1, c1⟩, hp⟩ := hot
    have P1 := I.pin p (List.mem_append_left _ hp)
    exact lstEnd_hot ⟨hh, p.2, v1, P1.1, e1, c1⟩ (n5 p (List.mem_append_left _ hp)) st pl.isList (by simp; omega) fun h2 xb => ⟨rfl, I.turned (t' := s.toks) (fun b o nb e => xb b o nb e) n0 n1 n3 n4 n5⟩
  self := (turn_list (P := P) (w := w) (K := K) (tg := tg) a it).self
end Mp

/-! Hx2: a list comprehension while an exception is handled. -/
namespace Mp
open PySem PySem.Spec L2 LamX PyProof.Rows HotX
abbrev blkH (X : Cx) (s : Shared) (H : Hp) (sc : Scope) (ce : Env) (fp : List Addr) : Cx := (X.blk s H sc ce fp).tr X.pn (fun _ _ => False)
section
variable {X : Cx}
theorem inv_pn {Y : Cx} {pn : List (Addr × Obj)} {σ : L2.St} {H : Hp} {s : Shared} (hy : Y.pn = []) (I : Inv Y [] σ H s) (hp : ∀ p ∈ pn, s.heap.get? p.1 = some p.2 ∧ H p.1 = none ∧ p.1 ≠ Y.env.locals ∧ p.1 ∉ Y.fs ∧ ∀ v, p.2.data ≠ .cell v) : Inv (Y.tr pn (fun _ _ => False)) [] σ H s :=
  ⟨I.ok.toTry _ _, I.os, I.bare, I.base, I.loc, I.cell, I.free, I.freeC, fun p h => hp p (by simpa using h), I.hok, I.len⟩
theorem lcH_run {pins : List (Addr × Obj)} {s : Shared} {σ : L2.St} {H : Hp} {Q : VK} {el tg src : Expr} {conds : List Expr} {bs : Scope} {mine : List (Str × Nat)} {ps1 ps2 : Pos} {wi : TI} {g : TG} {tt : TT} {te : TE} {use : Option (Value → Sem Unit)} {Qf : Value → Shared → Prop}
    (hot : L2H.HotC X) (nd : X.N.Nodup) (I : Inv X pins σ H s) (it0 : L2H.PIH X tg src wi) (bk : BlkOk X.N X.env.scope bs mine)
    (hg : ∀ (s : Shared) (H : Hp) (C : Addr) (cl : List (Str × Addr)) (fp : List Addr), PG (blkH X s H bs (compEnvC bs cl C X.env) fp) tg g)
    (ht : ∀ (s : Shared) (H : Hp) (C : Addr) (cl : List (Str × Addr)) (fp : List Addr), PTs (blkH X s H bs (compEnvC bs cl C X.env) fp) conds tt)
    (he : ∀ (s : Shared) (H : Hp) (C : Addr) (cl : List (Str × Addr)) (fp : List Addr), PE (blkH X s H bs (compEnvC bs cl C X.env) fp) el te)
    (fs : ∀ x, foldedSetIterable src X.env x = pure x) (h : tLc wi g tt te (mine.map (·.2)) σ H Q)
    (fin : ∀ D C s' m H', Inv X pins σ H' s' → Q (.ref D) H' → s'.heap.Ns C m → FpOk X pins H' C → compPost (model X.prog X.w) X.A X.xe use Qf (.ref D) C (.ok .next) s') :
    wpAny (model X.prog X.w) X.A (comprehension (.ListComp el [⟨tg, src, conds, 0⟩] bs ps1) bs X.env ps2 (newList []) false (eval src X.env) use) Qf X.xe s := by
  have cap : ∀ y ∈ bs.names, y.2 = .free → ∃ c, X.env.cells.lookup y.1 = some c := fun y hy e => I.ok.has _ (bk.free y hy e)
  refine wpAny_comprehension_free (use := use) rfl fs (closure_ok cap) bk.kind (fun y hy e => (bk.uniq y hy).trans (congrArg some e)) (thn (it0.run pins s σ H _ I h) fun _ _ hx => thn hx fun _ s2 z => ?_)
  obtain ⟨it, fp, tn, J, H2, rfl, I2, T, t2, f2, q⟩ := z
  refine wpAny_newObj_type (newEnv_comp ?_) (by show 0 ≤ sizeLine; decide)
  obtain ⟨D, eD⟩ : ∃ D, D = s2.heap.objs.size := ⟨_, rfl⟩
  rw [← eD]
  have fD : H2 D = none := I2.hok.fresh (Nat.le_of_eq eD.symm)
  obtain ⟨W, ⟨m0, w0⟩, turn⟩ := q D fD
  obtain ⟨s3, e3⟩ : ∃ s3 : Shared, s3 = { s2 with heap := s2.heap.push { cls := .type "list", data := .seq ([] : List Value).toArray } } := ⟨_, rfl⟩
  have hp3 : s3.heap = s2.heap.push { cls := .type "list", data := .seq ([] : List Value).toArray } := by rw [e3]
  have I3 : Inv X pins σ (upd H2 D (.lst [])) s3 := by
    rw [e3]
    refine I2.laid (t' := s2.toks) (fun _ _ e => Heap.get?_push_of_some _ e) (Nat.le_of_eq eD.symm) ⟨Nat.zero_le _, [], 0, .nil, ?_⟩
    rw [eD]
    exact Heap.get?_push_size _ rfl
  have below : ∀ b ∈ fp, b < s2.heap.objs.size := fun b hb => by
    obtain ⟨o, e, _⟩ := T.obj _ _ t2 b hb
    exact Heap.lt_size e
  have f3 : ∀ b ∈ fp, FpOk X pins (upd H2 D (.lst [])) b ∧ b < s3.heap.objs.size := fun b hb => by
    have lt := below b hb
    refine ⟨⟨?_, (f2 b hb).2⟩, ?_⟩
    · rw [upd_ne (by rw [eD]; exact Nat.ne_of_lt lt)]
      exact (f2 b hb).1
    · rw [hp3, Heap.size_push]
      exact Nat.lt_succ_of_lt lt
  have t3 : tn 0 s3.heap := T.keep _ _ _ t2 fun b _ o e => by rw [hp3]; exact Heap.get?_push_of_some _ e
  have I4' := block_start I3 bk nd f3
  have pg := hg s3 (upd H2 D (.lst [])) s3.heap.objs.size (cellsFrom (s3.heap.objs.size + 1) bs.names (cloFrom X.env.cells bs.names [])) fp
  have pt := ht s3 (upd H2 D (.lst [])) s3.heap.objs.size (cellsFrom (s3.heap.objs.size + 1) bs.names (cloFrom X.env.cells bs.names [])) fp
  have pe := he s3 (upd H2 D (.lst [])) s3.heap.objs.size (cellsFrom (s3.heap.objs.size + 1) bs.names (cloFrom X.env.cells bs.names [])) fp
  have I4 := inv_pn (pn := X.pn) rfl I4' fun p hp => by
    have z := I3.pin p (List.mem_append_left _ hp)
    exact ⟨pushCells_keeps _ _ _ _ (Heap.get?_push_of_some _ z.1), z.2.1, Nat.ne_of_lt (Heap.lt_size z.1), fun hm => (List.mem_cons.mp (I3.stkSub p.1 hm)).elim z.2.2.1 z.2.2.2.1, z.2.2.2.2⟩
  have hotB : L2H.HotC (blkH X s3 (upd H2 D (.lst [])) bs (compEnvC bs (cellsFrom (s3.heap.objs.size + 1) bs.names (cloFrom X.env.cells bs.names [])) s3.heap.objs.size X.env) fp) := hot
  show codeAny _ _ (.compStart (.ListComp el [⟨tg, src, conds, 0⟩] bs ps1) 0 (.ref it) (.ref D) (compEnvC bs (cellsFrom (s2.heap.push _).objs.size.succ bs.names (cloFrom X.env.cells bs.names [])) (s2.heap.push _).objs.size X.env)) _ _
  rw [← hp3]
  obtain ⟨H3, eH3⟩ : ∃ H3, H3 = upd H2 D (.lst []) := ⟨_, rfl⟩
  rw [← eH3] at I3 I4 pg pt pe w0 f3 hotB
  obtain ⟨s4, es4⟩ : ∃ s4 : Shared, s4 = { s3 with heap := pushCells (s3.heap.push { cls := .type "dict", data := .dict #[] }) bs.names } := ⟨_, rfl⟩
  rw [← es4] at I4
  have t4 : tn 0 s4.heap := T.keep _ _ _ t3 fun b _ o e => by rw [es4]; exact pushCells_keeps _ _ _ _ (Heap.get?_push_of_some _ e)
  have same4 : ({ s2 with heap := pushCells (s3.heap.push { cls := .type "dict", data := .dict #[] }) bs.names } : Shared) = s4 := by rw [es4, e3]
  rw [same4]
  generalize hce : compEnvC bs (cellsFrom (s3.heap.objs.size + 1) bs.names (cloFrom X.env.cells bs.names [])) s3.heap.objs.size X.env = ce at I4 pg pt pe hotB
  have cl0 : ce.locals = s3.heap.objs.size := by rw [← hce]; rfl
  have n0 : ∀ b ∈ fp, H3 b = none := fun b hb => (f3 b hb).1.1
  have okF : ∀ {σ' : L2.St} {H' : Hp} {s' : Shared}, Inv (blkH X s3 H3 bs ce fp) [] σ' H' s' → (∀ b ∈ fp, H' b = none) → ∀ b ∈ fp, FpOk (blkH X s3 H3 bs ce fp) [] H' b := fun {σ' H' s'} J hn b hb =>
    ⟨hn b hb, (J.ok.exf b hb).1, J.ok.exfs b hb, .inl hb, fun x c e => (J.ok.exf b hb).2 x c e, fun p hp => (f3 b hb).1.2.2.2.2.2 p (List.mem_append_left _ (by simpa using hp))⟩
  show codeAny _ _ (.compStart (.ListComp el [⟨tg, src, conds, 0⟩] bs ps1) 0 (.ref it) (.ref D) ce) (compPost (model X.prog X.w) X.A X.xe use Qf (.ref D) s3.heap.objs.size) s4
  have loop : codeAny (model X.prog X.w) X.A (.compLoop (.ListComp el [⟨tg, src, conds, 0⟩] bs ps1) 0 (.ref it) (.ref D) ce) (compPost (model X.prog X.w) X.A X.xe use Qf (.ref D) s3.heap.objs.size) s4 := by
    refine compLoop_any (fun n t => ∃ k H', Inv (blkH X s3 H3 bs ce fp) [] (wipe σ (mine.map (·.2))) H' t ∧ tn k t.heap ∧ (∀ b ∈ fp, H' b = none) ∧ W k n H') ?_ m0 ⟨0, H3, I4, t4, n0, w0⟩
    rintro n s5 ⟨k, H5, I5, t5, n5, w5⟩
    rcases turn k n H5 w5 with ⟨stop, qe⟩ | ⟨go, Nx, hNx, step⟩
    · refine thnF (T.done (blkH X s3 H3 bs ce fp) rfl rfl rfl hotB k [] s5 _ H5 (fun _ _ => False) I5 (okF I5 n5) t5 stop) fun r s6 zz => ?_
      obtain ⟨rfl, I6⟩ := zz
      have I7 : Inv X pins σ H5 s6 := I3.call' (ch := fp) I6.os I6.base I6.hok I6.bare fun b hb => let y := (f3 b hb).1.2; ⟨y.2.2.1, y.1, y.2.2.2.1, y.2.2.2.2⟩
      have nC : H5 s3.heap.objs.size = none := by
        have y : H5 ce.locals = none := I6.free
        rw [cl0] at y
        exact y
      obtain ⟨m, ns, _⟩ := I6.loc
      have ns : s6.heap.Ns ce.locals m := ns
      rw [cl0] at ns
      exact fin D s3.heap.objs.size s6 m H5 I7 qe ns (I3.fpOk (Nat.le_refl _) nC)
    · refine thnF (T.item (blkH X s3 H3 bs ce fp) rfl rfl rfl hotB k [] s5 _ H5 (fun _ _ => False) I5 (okF I5 n5) t5 go) fun r s6 zz => ?_
      obtain ⟨u, rfl, h6⟩ := zz
      refine thnF h6 fun _ s7 zz => ?_
      obtain ⟨x, H7, I7, r7, y7, t7, n7⟩ := zz
      have J7 := I7.pinned (okF I7 n7) (T.obj _ _ t7)
      refine thnF (pg.run _ s7 _ H7 x u _ J7 r7 (step x H7 y7)) fun _ s8 zz => ?_
      obtain ⟨σ8, H8, I8, hw8, q8⟩ := zz
      refine thnF (pt.run _ s8 σ8 H8 _ I8 q8) fun b s9 zz => ?_
      obtain ⟨H9, I9, q9⟩ := zz
      have again : ∀ {t : Shared} {H' : Hp}, Inv (blkH X s3 H3 bs ce fp) ([] ++ pinsAt fp s7.heap) σ8 H' t → Nx H' → ∃ m, m < n ∧ ∃ k H', Inv (blkH X s3 H3 bs ce fp) [] (wipe σ (mine.map (·.2))) H' t ∧ tn k t.heap ∧ (∀ b ∈ fp, H' b = none) ∧ W k m H' := fun {t H'} J nx => by
        obtain ⟨m', lt, w'⟩ := hNx H' nx
        have held : ∀ b ∈ fp, ∀ o, s7.heap.get? b = some o → t.heap.get? b = some o ∧ H' b = none := fun b hb o e => by
          have y := J.pin (b, o) (List.mem_append_right _ (List.mem_append_right _ (mem_pinsAt hb e)))
          exact ⟨y.1, y.2.1⟩
        have ll : (wipe σ (mine.map (·.2))).length = σ8.length := by rw [← hw8, wipe_length]
        refine ⟨m', lt, k + 1, H', (J.unpinned (pins := [])).weak ll (fun j v e => ?_), T.keep _ _ _ t7 fun b hb o e => (held b hb o e).1, fun b hb => ?_, w'⟩
        · rw [← hw8] at e
          exact (wipe_some e).1
        · obtain ⟨o, e, _⟩ := T.obj _ _ t7 b hb
          exact (held b hb o e).2
      cases b with
      | false =>
        simp only [Bool.false_eq_true, if_false] at q9 ⊢
        exact again I9 q9
      | true =>
        simp only [if_true] at q9 ⊢
        refine thnF (pe.run _ s9 σ8 H9 _ I9 q9) fun z s10 zz => ?_
        obtain ⟨yv, H10, I10, r10, acc, hD, hz, nx⟩ := zz
        exact app_ok (X := blkH X s3 H3 bs ce fp) I10 hD hz r10 fun s11 I11 => again I11 nx
  exact codeAny_compStart_list loop (T.self X.A 0 _ _ _ t4 loop)
theorem pe_lcH {el tg src : Expr} {conds : List Expr} {bs : Scope} {mine : List (Str × Nat)} {pos : Pos} {wi : TI} {g : TG} {tt : TT} {te : TE} (hot : L2H.HotC X) (nd : X.N.Nodup) (it0 : L2H.PIH X tg src wi) (bk : BlkOk X.N X.env.scope bs mine)
    (hg : ∀ (s : Shared) (H : Hp) (C : Addr) (cl : List (Str × Addr)) (fp : List Addr), PG (blkH X s H bs (compEnvC bs cl C X.env) fp) tg g)
    (ht : ∀ (s : Shared) (H : Hp) (C : Addr) (cl : List (Str × Addr)) (fp : List Addr), PTs (blkH X s H bs (compEnvC bs cl C X.env) fp) conds tt)
    (he : ∀ (s : Shared) (H : Hp) (C : Addr) (cl : List (Str × Addr)) (fp : List Addr), PE (blkH X s H bs (compEnvC bs cl C X.env) fp) el te)
    (fs : ∀ x, foldedSetIterable src X.env x = pure x := by intro _; rfl) : PE X (.ListComp el [⟨tg, src, conds, 0⟩] bs pos) (tLc wi g tt te (mine.map (·.2))) := by
  refine ⟨fun pins s σ H Q I h => ?_⟩
  rw [eval_ListComp]
  refine lcH_run hot nd I it0 bk hg ht he fs h fun D C t m H' J q ns f => ⟨m, ns, fun h2 sb => ?_⟩
  obtain ⟨a0, a1, a2, a3, a4, a5⟩ := f
  exact ⟨.ref D, H', J.turned (t' := t.toks) (fun b o hb e => (sb.2 b hb).trans e) a0 a1 a3 a4 a5, rfl, q⟩
/-- a list's walk there -/
theorem pi_lstH {tg e : Expr} {te : TE} (he : PE X e te) : L2H.PIH X tg e (fun σ H R => te σ H fun x H1 => ∃ a xs, x = .ref a ∧ SqL X.K H1 a xs ∧ R (Itl X.K a) H1) := by
  refine ⟨fun pins s σ H R I h => thn (he.run pins s σ H _ I h) fun v s1 zz => ?_⟩
  obtain ⟨x, H1, I1, r, a, xs, rfl, sq, q⟩ := zz
  cases r
  obtain ⟨its, rv, pl, _⟩ := I1.list sq
  refine wpAny_pyIter_list pl.isList ⟨s1.heap.objs.size, [s1.heap.objs.size], _, _, H1, rfl, I1.kept (t' := s1.toks) (fun _ _ e => Heap.get?_push_of_some _ e), turn_lstH a _, ⟨_, Heap.get?_push_size _ rfl, rfl, rfl⟩, fun b hb => ?_, q⟩
  obtain rfl : b = s1.heap.objs.size := List.mem_singleton.mp hb
  exact I1.fpOk (Nat.le_refl _) (I1.hok.fresh (Nat.le_refl _))
end
end Mp

/-! Hx3: sum of a list of ints while an exception is handled. -/
namespace Mp
open PySem PySem.Spec L2 LamX PyProof.Rows HotX
theorem walk_hot {prog : Program} {w : World} {A : Around} {x1 : Addr} {o1 : Obj} {v1 : Array Value} (hh : A.handled = some (.ref x1)) (d1 : o1.data = .fields v1) (c1 : v1[2]? = some .none) (j lq : Addr) (n1 : lq ≠ j) (n2 : x1 ≠ j) (xs : Array Value) :
    PySem.Walks prog w A j [j, lq, x1] [j] xs.size (fun i v => xs[i]? = some v) (fun i h => (h.IsListIter j lq i ∧ h.IsList lq xs) ∧ h.get? x1 = some o1) where
  sub := fun b hb => by rw [List.mem_singleton.mp hb]; exact List.mem_cons_self
  frame := fun _ _ _ st k => ⟨⟨st.1.1.at fun o e => k j (by simp) o e, st.1.2.at fun o e => k lq (by simp) o e⟩, k x1 (by simp) _ st.2⟩
  item := fun i s Q E hi st q => by
    refine wpAny_pyNext_list_item st.1.1 st.1.2 (x := xs[i]) (by simp [hi]) fun h2 st2 same => ?_
    exact q _ h2 s.toks (by simp [hi]) ⟨⟨st2, st.1.2.extBut same.extBut n1⟩, same.extBut x1 _ n2 st.2⟩ fun b o nb e => same.extBut b o (fun z => nb (by simp [z])) e
  done := fun s Q E st q => lstEnd_hot ⟨hh, o1, v1, st.2, d1, c1⟩ n2 st.1.1 st.1.2 (by simp) fun h2 ext => q h2 s.toks fun b o nb e => ext b o (fun z => nb (by simp [z])) e
  self := fun _ _ _ _ st q => wpAny_pyIter_listiter st.1.1 q
section
variable {prog : Program} {w : World} {A : Around} {E : Value → Shared → Prop} {s : Shared} {l : Addr}
theorem sum_hot {x1 : Addr} {its : List Value} {ns : List Int} {Q : Value → Shared → Prop} (hot : HotAt A x1 s.heap) (hl : s.heap.IsList l its.toArray) (hi : IntsAre its ns)
    (q : ∀ h' tk t', (∀ b o, s.heap.get? b = some o → h'.get? b = some o) → Q (.int ns.sum t') { s with heap := h', toks := tk }) : wpAny (model prog w) A (call (.builtin "sum") [.ref l]) Q E s := by
  obtain ⟨hh, o1, v1, g1, d1, c1⟩ := hot
  obtain ⟨xs, e⟩ := hi.allInts.items
  have hn : numsOf (intItems xs).toList = ns := by rw [← e]; exact hi.numsOf
  rw [nums_intItems] at hn
  rw [e] at hl
  refine call_sum_walkG (iter_intList hl fun s2 e2 st lt ne => ?_)
  subst e2
  have lt1 := Heap.lt_size g1
  refine ⟨_, _, _, _, _, _, numAt xs, rfl, walk_hot (A := A.in1) hh d1 c1 _ l ne (Nat.ne_of_lt lt1) (intItems xs), ⟨st, Heap.get?_push_of_some _ g1⟩, fun b hb => ?_, (fun _ _ => intItems_at), fun h' tk t' hk => ?_⟩
  · simp only [List.mem_cons, List.not_mem_nil, or_false] at hb
    rcases hb with rfl | rfl | rfl
    · exact lt _ (by simp)
    · exact lt _ (by simp)
    · exact Heap.lt_size (Heap.get?_push_of_some _ g1)
  · have z := q h' tk t' (old_kept hk)
    rw [← hn] at z
    have e3 : preSum (numAt xs) (intItems xs).size = (xs.toList.map (·.1)).sum := by
      rw [preSum_eq, List.take_of_length_le (by simp [intItems])]
    rw [e3]
    exact z
end
section
variable {X : Cx}
theorem cr_sumH (hot : L2H.HotC X) : CallR X (.builtin "sum") (rSum X.K) := by
  intro pins s σ H vs us Q I r h
  obtain ⟨a, ns, rfl, sq, q⟩ := h
  obtain ⟨its, rv, pl, _⟩ := I.list sq
  obtain ⟨x1, ht⟩ := hot.at I
  rw [Vals.ref1 r]
  exact sum_hot ht pl.isList rv.ints fun h' tk t' hk => ⟨.int _, H, I.kept hk, ⟨_, rfl⟩, q⟩
end
end Mp

/-! Hx4: a def called in an except suite, whose promise names the exception. -/
namespace Mp
open PySem PySem.Spec L2 LamX PyProof.Rows HotX L2H
structure FnW (P : Program) (w : World) (K : PySem.W.Frag) (mg : Str → Option Value) (base : Heap) (CX : CXT) (k : Nat) (f : Addr) (fd : FuncData) (ps : List Str) (sp : Addr × Obj → Sp) : Prop where
  num : ∀ p vs H Q E, sp p vs H Q E → vs.length = ps.length
  go : ∀ (p : Addr × Obj) (A : Around) (up : List Env) (s : Shared) (H : Hp) (args : Args) (us : List Value) (vs : List V) (Q : VK) (E : XK), RoomH k A → Hot1 A p → PinOk up H s p → Env0 P w K mg base A up s H → BindsTo s fd args (ps.zip us) → Vals vs us → sp p vs H Q E →
    codeAny (model P w) A (.call (.ref f) args) (CR CX up P w H s Q E) s
section
variable {CX : CXT} {P : Program} {w : World} {K : PySem.W.Frag} {mg : Str → Option Value} {base : Heap} {k : Nat} {f : Addr}
theorem fnW_of {nm ql : Str} {pa : Arguments} {bd : List Stmt} {sc : Scope} {dV kV doc pm cdv ct oc : Value} {an od : Option Addr} {osl : Array (Option Value)} {N ps : List Str} {sp : Addr × Obj → Sp}
    (at_ : K.lookup f = some ⟨oc, od, .func (PySem.W.fnOf nm ql pa bd sc dV kV doc pm an cdv ct), osl⟩) (code : PySem.W.codeIn K cdv ql = true) (S : FnScope N ps sc) (num : ∀ p vs H Q E, sp p vs H Q E → vs.length = ps.length)
    (body : ∀ (p : Addr × Obj) (A : Around) (up : List Env) (s : Shared) (H : Hp) (vs : List V) (Q : VK) (E : XK), Hot1 A p → RoomH k (A.deeper (envOfC ql sc s.heap.objs.size f cdv)) → sp p vs H Q E →
      ∃ t, PSs (cxH CX P w K mg base N ql sc f cdv A up s H E p) bd t ∧ t { nx := fun _ H' => Q .non H', rt := Q } (L2.start N vs) H) :
    FnW P w K mg base CX (k + 1) f (PySem.W.fnOf nm ql pa bd sc dV kV doc pm an cdv ct) ps sp := by
  refine ⟨num, fun p A up s H args us vs Q E room hot pin e0 bd0 rv q => ?_⟩
  have ln := num _ _ _ _ _ q
  have kin : K.In s.heap := e0.mod.kin.keeps fun b o e => (e0.bs b o e).1
  have lim : s.heap.NoLimit := e0.mod.nolimit.keeps fun b o e => (e0.bs b o e).1
  have kinds : ∀ y ∈ ps.zip us, sc.names.lookup y.1 = some .local ∨ (sc.names.lookup y.1 = some .cell ∧ ((cellsFrom (s.heap.objs.size + 1) sc.names []).lookup y.1).isSome = true) := fun y hy => by
    rcases S.par y.1 (List.of_mem_zip (show (y.1, y.2) ∈ ps.zip us from hy)).1 with z | z
    · exact .inl z
    · exact .inr ⟨z, PySem.W.cellsFrom_some _ _ _ (.inl z)⟩
  refine codeAny_call_function room.depth (kin _ _ at_) rfl S.co S.gen rfl (PySem.W.codeRec_of kin code) (bd0 _ _ _ _ (wpAny_newFunctionEnv_cells S.kind kinds fun en he s1 st => ?_))
  subst he
  refine ⟨lim.keeps st.toInCall.keep, codeAny_func ?_⟩
  obtain ⟨t, ht, hq⟩ := body p A up s H vs Q E hot (room.deeper _) q
  have I : Inv (cxH CX P w K mg base N ql sc f cdv A up s H E p) [] (L2.start N vs) H s1 := inv_startH S pin e0 ln rv st
  refine wpAny_mono (ht.run [] s1 (L2.start N vs) H _ I hq) (fun fl s2 hs => ?_) fun e s2 hs => hs
  cases fl with
  | ret u =>
    obtain ⟨v, σ2, H2, J, r2, q2⟩ := hs
    exact ⟨v, H2, J.os, J.bare, J.base, J.hok, r2, q2⟩
  | next =>
    obtain ⟨σ2, H2, J, q2⟩ := hs
    exact ⟨V.non, H2, J.os, J.bare, J.base, J.hok, rfl, q2⟩
  | brk =>
    obtain ⟨_, _, _, z⟩ := hs
    exact z.elim
  | cont =>
    obtain ⟨_, _, _, z⟩ := hs
    exact z.elim
end
section
variable {X : Cx} {CX : CXT} {k : Nat} {f : Addr} {fd : FuncData} {ps : List Str} {sp : Addr × Obj → Sp} {E : L2.St → XK} {x : Str} {q0 pos : Pos} {e : Expr} {es : List Expr} {t : TA}
theorem pe_callW {p : Addr × Obj} (F : FnW X.prog X.w X.K X.mg X.base CX k f fd ps sp) (room : RoomH k X.A) (hot : Hot1 X.A p) (pin : p ∈ X.pn) (hg : Gl X x) (hm : X.mg x = some (.ref f)) (hk : PySem.W.keepIn X.K (.ref f) = true) (hb : Binds X.K fd ps []) (hx : ∀ σ, PassesAt CX X σ (E σ))
    (ha : PA X (e :: es) t) (hdb : (x == ("__debug__" : Str)) = false := by decide) (hst : starEach (e :: es) X.env = (false, eval e X.env) :: starEach es X.env := by rfl) (hpl : (backTo pos (starEach es X.env)).any (·.1) = false := by rfl) :
    PE X (.Call (.Name x q0) (e :: es) [] pos) (fun σ H Q => t σ H fun vs H1 => sp p vs H1 Q (E σ)) := by
  refine ⟨fun pins s σ H Q I h => wpAny_Call_Name_kw (ld_glob I hg hm ?_ hdb)⟩
  refine PySem.W.callWith_K (h₀ := X.base) I.ok.mod.kin hk (thn (ha.run pos pins s σ H _ I h) fun us s1 zz => ?_) hst hpl
  obtain ⟨vs, H1, J, rv, q⟩ := zz
  refine ⟨J.kIn, ?_⟩
  have ln : us.length = ps.length := by rw [← rv.length]; exact F.num _ _ _ _ _ q
  have b := hb s1 us J.kIn (by rw [List.append_nil]; exact ln)
  rw [List.append_nil] at b
  have z := J.pin p (List.mem_append_left _ pin)
  have pk : PinOk X.stack H1 s1 p := ⟨z.1, z.2.1, fun m => (List.mem_cons.mp (J.stkSub p.1 m)).elim z.2.2.1 z.2.2.2.1, z.2.2.2.2⟩
  refine wpAny_call (codeAny_mono (F.go p X.A X.stack s1 H1 ⟨us, []⟩ us vs Q (E σ) room hot pk J.env0 b rv q) fun r s2 hq => ?_)
  cases r with
  | error u => exact hx σ pins H1 s1 u s2 J hq
  | ok fl =>
    cases fl with
    | ret u => exact J.after hq
    | next => exact False.elim hq
    | brk => exact False.elim hq
    | cont => exact False.elim hq
end
end Mp

/-! Hx6: what the handled exception is asked in a called def: isinstance, a field. -/
namespace Mp
open PySem PySem.Spec L2 LamX PyProof.Rows HotX L2H
/-- its dict, if it has one, is known -/
def DxOk (dx : Option Addr) (H : Hp) : Prop := dx = none ∨ ∃ d fs, dx = some d ∧ H d = some (.xd fs)
def rIsW (K : PySem.W.Frag) (D a : Addr) (dx : Option Addr) : List V → Hp → VK → Prop := fun xs H Q => ∃ (c : V) (cv : Value) (b : Bool), xs = [.ref a, c] ∧ (∀ u, RelV c u → u = cv) ∧ PySem.W.kitOne K (.ref D) cv = some b ∧ DxOk dx H ∧ Q (.bl b) H
section
variable {X : Cx} {a D : Addr} {oe : Obj} {dx : Option Addr}
theorem inst_at (hp : (a, oe) ∈ X.pn) (hz : Zc (.ref D) dx oe) (hf : ∃ vs, oe.data = .fields vs) {pins : List (Addr × Obj)} {σ : L2.St} {H : Hp} {s : Shared} (I : Inv X pins σ H s) (dk : DxOk dx H) : ∃ od, PySem.W.InstAt s.heap a oe D od := by
  obtain ⟨vs, hv⟩ := hf
  have get := (I.pin (a, oe) (List.mem_append_left _ hp)).1
  rcases dk with rfl | ⟨d, fs, rfl, e⟩
  · exact ⟨none, get, hz.1, by unfold PySem.W.notCls; rw [hv] <;> rfl, by rw [hz.2]; trivial⟩
  · have q : ObjOk X.prog X.w H s.heap d (.xd fs) := I.hok d _ e
    obtain ⟨mA, ns, _⟩ := q
    obtain ⟨od, ho, _⟩ := lookIn_ns ns
    exact ⟨some od, get, hz.1, by unfold PySem.W.notCls; rw [hv] <;> rfl, by rw [hz.2]; exact ho⟩
theorem call_isD (C : ExcC X.K D) (hp : (a, oe) ∈ X.pn) (hz : Zc (.ref D) dx oe) (hf : ∃ vs, oe.data = .fields vs) : CallR X (.builtin "isinstance") (rIsW X.K D a dx) := by
  intro pins s σ H xs us Q I r h
  obtain ⟨c, cv, b, rfl, fix, e, dk, q⟩ := h
  cases r with
  | cons r1 rr =>
    cases rr with
    | cons r2 rr =>
      cases rr
      cases r1
      obtain rfl := fix _ r2
      obtain ⟨od, J⟩ := inst_at hp hz hf I dk
      have hc : (PySem.W.clsIn X.K D).isSome = true := by
        obtain ⟨cd, h1, _⟩ := PySem.W.any_some C.hd
        rw [h1]
        rfl
      exact PySem.W.kia_one (PySem.W.kitx_exc hc C.hg C.hk C.hs C.ha C.hn C.ht C.hm) I.kIn J e (fun z => nomatch z) fun tk => ⟨.bl b, H, I.kept (t' := tk) (fun _ _ z => z), rfl, q⟩
theorem pe_xfW {dd : Addr} {e : Expr} {te : TE} {pos : Pos} {n : Str} (C : ExcC X.K D) (hno : PySem.W.findIn X.K (.ref D) n = some none) (hp : (a, oe) ∈ X.pn) (hz : Zc (.ref D) (some dd) oe) (hf : ∃ vs, oe.data = .fields vs) (he : PE X e te) (hb : attributeBase e n X.env (eval e X.env) = eval e X.env := by rfl) :
    PE X (.Attribute e n pos) (fun σ H Q => te σ H fun x H1 => x = .ref a ∧ ∃ fs v, H1 dd = some (.xd fs) ∧ fs.lookup n = some v ∧ Q v H1) := by
  refine ⟨fun pins s σ H Q I h => attr_of hb (thn (he.run pins s σ H _ I h) fun u s1 zz => ?_)⟩
  obtain ⟨x, H1, I1, r, rfl, fs, v, e1, e2, q⟩ := zz
  cases r
  obtain ⟨vs, hv⟩ := hf
  have get := (I1.pin (a, oe) (List.mem_append_left _ hp)).1
  have ok : ObjOk X.prog X.w H1 s1.heap dd (.xd fs) := I1.hok dd _ e1
  obtain ⟨mA, ns, rel⟩ := ok
  obtain ⟨od, ho, lo⟩ := lookIn_ns ns
  obtain ⟨u, hu, ru⟩ := RelO.some_of (v := v) (o := mA n) (by rw [← e2]; exact rel n)
  have J : PySem.W.InstAt s1.heap a oe D (some od) := ⟨get, hz.1, by unfold PySem.W.notCls; rw [hv] <;> rfl, by rw [hz.2]; exact ho⟩
  exact HandSPX.exc_get I1.kIn J C.hg C.hk C.hs (PySem.W.findObj_own C.hd hno rfl (by rw [lo, hu])) (handed_of ru) ⟨v, H1, I1.tok _, ru, q⟩
end
end Mp

/-! Hx7: the law's def that names a refusal, walked while the refusal is handled. -/
namespace Mp
open PySem PySem.Spec L2 LamX PyProof.Rows HotX L2H
def isN (x : Str) : Expr → Bool
  | .Name y _ => decide (y = x)
  | _ => false
theorem isN_ok {x : Str} {e : Expr} (h : isN x e = true) : ∃ p, e = .Name x p := by
  cases e with
  | Name y p => exact ⟨p, by rw [of_decide_eq_true h]⟩
  | _ => cases h
def isS (x : Str) : Expr → Bool
  | .Constant (.str y) _ _ => decide (y = x)
  | _ => false
theorem isS_ok {x : Str} {e : Expr} (h : isS x e = true) : ∃ j p, e = .Constant (.str x) j p := by
  unfold isS at h
  split at h
  · exact ⟨_, _, by rw [of_decide_eq_true h]⟩
  · cases h
def isT : Expr → Bool
  | .Constant (.bool b) _ _ => b
  | _ => false
theorem isT_ok {e : Expr} (h : isT e = true) : ∃ j p, e = .Constant (.bool true) j p := by
  unfold isT at h
  split at h
  · exact ⟨_, _, by rw [h]⟩
  · cases h
def is1 : Expr → Bool
  | .Constant (.int i) _ _ => decide (i = 1)
  | _ => false
theorem is1_ok {e : Expr} (h : is1 e = true) : ∃ j p, e = .Constant (.int 1) j p := by
  unfold is1 at h
  split at h
  · exact ⟨_, _, by rw [of_decide_eq_true h]⟩
  · cases h
def isI (c : Str) : Expr → Bool
  | .Call f [a, b] [] _ => isN "isinstance" f && (isN "e" a && isN c b)
  | _ => false
theorem isI_ok {c : Str} {e : Expr} (h : isI c e = true) : ∃ p1 p2 p3 p4, e = .Call (.Name "isinstance" p1) [.Name "e" p2, .Name c p3] [] p4 := by
  unfold isI at h
  split at h
  · obtain ⟨h1, h⟩ := Bool.and_eq_true_iff.mp h
    obtain ⟨h2, h3⟩ := Bool.and_eq_true_iff.mp h
    obtain ⟨p1, rfl⟩ := isN_ok h1
    obtain ⟨p2, rfl⟩ := isN_ok h2
    obtain ⟨p3, rfl⟩ := isN_ok h3
    exact ⟨_, _, _, _, rfl⟩
  · cases h
/-! the five statements -/
def wv1 : Stmt → Bool
  | .Assign [t] (.List [a, b, c] _) _ => isN "flags" t && (isI "BadToken" a && (isI "BadTerm" b && isI "BadDeed" c))
  | _ => false
theorem wv1_ok {st : Stmt} (h : wv1 st = true) : ∃ t a b c p q, st = .Assign [t] (.List [a, b, c] p) q ∧ isN "flags" t = true ∧ isI "BadToken" a = true ∧ isI "BadTerm" b = true ∧ isI "BadDeed" c = true := by
  unfold wv1 at h
  split at h
  · simp only [Bool.and_eq_true] at h
    exact ⟨_, _, _, _, _, _, rfl, h⟩
  · cases h
def wv2 : Stmt → Bool
  | .Assign [t] (.BinOp l .Add (.List [a, b, c] _) _) _ => isN "flags" t && (isN "flags" l && (isI "BadRow" a && (isI "BadPicture" b && isI "Fault" c)))
  | _ => false
theorem wv2_ok {st : Stmt} (h : wv2 st = true) : ∃ t l a b c p q r, st = .Assign [t] (.BinOp l .Add (.List [a, b, c] p) q) r ∧ isN "flags" t = true ∧ isN "flags" l = true ∧ isI "BadRow" a = true ∧ isI "BadPicture" b = true ∧ isI "Fault" c = true := by
  unfold wv2 at h
  split at h
  · simp only [Bool.and_eq_true] at h
    exact ⟨_, _, _, _, _, _, _, _, rfl, h⟩
  · cases h
/-- sum([int(flag) for flag in flags]) != 1 -/
def wvS (cs : Scope) : Expr → Bool
  | .Compare (.Call s1 [.ListComp (.Call s2 [s3] [] _) [⟨g1, g2, [], 0⟩] c _] [] _) [.NotEq] [n1] _ => isN "sum" s1 && (isN "int" s2 && (isN "flag" s3 && (isN "flag" g1 && (isN "flags" g2 && (is1 n1 && decide (c = cs))))))
  | _ => false
theorem wvS_ok {cs : Scope} {e : Expr} (h : wvS cs e = true) : ∃ s1 s2 s3 g1 g2 n1 p q r u, e = .Compare (.Call s1 [.ListComp (.Call s2 [s3] [] p) [⟨g1, g2, [], 0⟩] cs q] [] r) [.NotEq] [n1] u ∧ isN "sum" s1 = true ∧ isN "int" s2 = true ∧ isN "flag" s3 = true ∧ isN "flag" g1 = true ∧ isN "flags" g2 = true ∧ is1 n1 = true := by
  unfold wvS at h
  split at h
  · simp only [Bool.and_eq_true, decide_eq_true_eq] at h
    obtain ⟨h1, h2, h3, h4, h5, h6, rfl⟩ := h
    exact ⟨_, _, _, _, _, _, _, _, _, _, rfl, h1, h2, h3, h4, h5, h6⟩
  · cases h
def isRT2 (x y : Str) : Stmt → Bool
  | .Return (some (.Tuple [a, b] _ _)) _ => isS x a && isS y b
  | _ => false
theorem isRT2_ok {x y : Str} {st : Stmt} (h : isRT2 x y st = true) : ∃ a b k p q, st = .Return (some (.Tuple [a, b] k p)) q ∧ isS x a = true ∧ isS y b = true := by
  unfold isRT2 at h
  split at h
  · simp only [Bool.and_eq_true] at h
    exact ⟨_, _, _, _, _, rfl, h⟩
  · cases h
def wv3 (cs : Scope) : Stmt → Bool
  | .If (.BoolOp .Or [a, .UnaryOp .Not b _] _) [r] [] _ => wvS cs a && (isI "ValueError" b && isRT2 "refused" "other" r)
  | _ => false
theorem wv3_ok {cs : Scope} {st : Stmt} (h : wv3 cs st = true) : ∃ a b r p q u, st = .If (.BoolOp .Or [a, .UnaryOp .Not b p] q) [r] [] u ∧ wvS cs a = true ∧ isI "ValueError" b = true ∧ isRT2 "refused" "other" r = true := by
  unfold wv3 at h
  split at h
  · simp only [Bool.and_eq_true] at h
    exact ⟨_, _, _, _, _, _, rfl, h⟩
  · cases h
def wv4 : Stmt → Bool
  | .If i [.Return (some (.Tuple [a, b, .Attribute w x _] _ _)) _] [] _ => isI "Fault" i && (isS "refused" a && (isS "Fault" b && (isN "e" w && decide (x = "word"))))
  | _ => false
theorem wv4_ok {st : Stmt} (h : wv4 st = true) : ∃ i a b w p k q r u, st = .If i [.Return (some (.Tuple [a, b, .Attribute w "word" p] k q)) r] [] u ∧ isI "Fault" i = true ∧ isS "refused" a = true ∧ isS "Fault" b = true ∧ isN "e" w = true := by
  unfold wv4 at h
  split at h
  · simp only [Bool.and_eq_true, decide_eq_true_eq] at h
    obtain ⟨h1, h2, h3, h4, rfl⟩ := h
    exact ⟨_, _, _, _, _, _, _, _, _, rfl, h1, h2, h3, h4⟩
  · cases h
def wv5 : Stmt → Bool
  | .Return (some (.Tuple [c, .Subscript (.List [a1, a2, a3, a4, a5] _) (.Call (.Attribute x y ap) [t] [] cp) _] _ _)) _ => isS "refused" c && (isS "BadToken" a1 && (isS "BadTerm" a2 && (isS "BadDeed" a3 && (isS "BadRow" a4 && (isS "BadPicture" a5 && (isN "flags" x && (isT t && (decide (y = "index") && (ap.endLine == cp.line)))))))))
  | _ => false
theorem wv5_ok {st : Stmt} (h : wv5 st = true) : ∃ c a1 a2 a3 a4 a5 x t p ap cp q k r u, st = .Return (some (.Tuple [c, .Subscript (.List [a1, a2, a3, a4, a5] p) (.Call (.Attribute x "index" ap) [t] [] cp) q] k r)) u ∧ isS "refused" c = true ∧ isS "BadToken" a1 = true ∧ isS "BadTerm" a2 = true ∧ isS "BadDeed" a3 = true ∧ isS "BadRow" a4 = true ∧ isS "BadPicture" a5 = true ∧ isN "flags" x = true ∧ isT t = true ∧ (ap.endLine == cp.line) = true := by
  unfold wv5 at h
  split at h
  · simp only [Bool.and_eq_true, decide_eq_true_eq] at h
    obtain ⟨h1, h2, h3, h4, h5, h6, h7, h8, rfl, h9⟩ := h
    exact ⟨_, _, _, _, _, _, _, _, _, _, _, _, _, _, _, rfl, h1, h2, h3, h4, h5, h6, h7, h8, h9⟩
  · cases h
def wordV (cs : Scope) : List Stmt → Bool
  | [a, b, c, d, e] => wv1 a && (wv2 b && (wv3 cs c && (wv4 d && wv5 e)))
  | _ => false
theorem wordV_ok {cs : Scope} {b : List Stmt} (h : wordV cs b = true) : ∃ s1 s2 s3 s4 s5, b = [s1, s2, s3, s4, s5] ∧ wv1 s1 = true ∧ wv2 s2 = true ∧ wv3 cs s3 = true ∧ wv4 s4 = true ∧ wv5 s5 = true := by
  unfold wordV at h
  split at h
  · simp only [Bool.and_eq_true] at h
    exact ⟨_, _, _, _, _, rfl, h⟩
  · cases h
end Mp

/-! Hx8: that def's promise. -/
namespace Mp
open PySem PySem.Spec L2 LamX PyProof.Rows HotX L2H
/-- what the module says of the six classes -/
def W6 : List Str := ["BadToken", "BadTerm", "BadDeed", "BadRow", "BadPicture", "Fault"]
structure SixC (K : PySem.W.Frag) (mg : Str → Option Value) (D : Addr) (fl : List Bool) : Prop where
  ec : ExcC K D
  len : fl.length = 6
  kit : ∀ (i : Nat) (x : Str) (b : Bool), W6[i]? = some x → fl[i]? = some b → ∃ C, mg x = some (.ref C) ∧ PySem.W.kitOne K (.ref D) (.ref C) = some b
  ve : PySem.W.kitOne K (.ref D) (.type "ValueError") = some true
  nve : mg "ValueError" = none
section
variable {X : Cx} {a D : Addr} {oe : Obj} {dx : Option Addr}
/-- isinstance(e, x) -/
def tIsW (a : Addr) (dx : Option Addr) (b : Bool) : TE := fun σ H Q => σ[0]? = some (some (.ref a)) ∧ DxOk dx H ∧ Q (.bl b) H
theorem pe_isW {x : Str} {v : V} {u : Value} {b : Bool} {p1 p2 p3 p4 : Pos} (hN : X.N[0]? = some ("e" : Str)) (hv : Vis X.env.scope "e") (gi : Gl X "isinstance") (mi : X.mg "isinstance" = none) (C : ExcC X.K D) (hp : (a, oe) ∈ X.pn) (hz : Zc (.ref D) dx oe) (hf : ∃ vs, oe.data = .fields vs)
    (px : PE X (.Name x p3) (tC v)) (fix : ∀ u', RelV v u' → u' = u) (k : PySem.W.kitOne X.K (.ref D) u = some b) : PE X (.Call (.Name "isinstance" p1) [.Name "e" p2, .Name x p3] [] p4) (tIsW a dx b) := by
  refine PE.imp (pe_callB (call_isD C hp hz hf) gi mi (by decide +kernel) (pa_cons (pe_var hN hv) (pa_cons px pa_nil))) fun σ H Q q => ?_
  obtain ⟨q1, q2, q3⟩ := q
  exact ⟨_, q1, v, u, b, rfl, fix, k, q2, q3⟩
end
/-- the scope's facts -/
structure WordS (N : List Str) (sc cs : Scope) : Prop where
  fs : FnScope N ["e"] sc
  ve : Vis sc "e"
  lf : sc.names.lookup ("flags" : Str) = some .local
  gl : ∀ x ∈ (([("isinstance" : Str), "sum", "ValueError"] : List Str) ++ W6), sc.names.lookup x = some .globalImplicit
  bk : blkC N sc cs [("flag", 2)] = true
  lc : (relS cs sc).names.lookup ("flag" : Str) = some .local
  gc : (relS cs sc).names.lookup ("int" : Str) = some .globalImplicit
def keepsH (H H' : Hp) : Prop := ∀ b o, H b = some o → H' b = some o
theorem keepsH.refl (H : Hp) : keepsH H H := fun _ _ h => h
theorem keepsH.trans {H H1 H2 : Hp} (a : keepsH H H1) (b : keepsH H1 H2) : keepsH H H2 := fun c o h => b c o (a c o h)
theorem keepsH.upd {H : Hp} {p : Addr} {u : HO} (n : H p = none) : keepsH H (upd H p u) := fun b o h => by rw [upd_ne (ne_of_none h n)]; exact h
theorem DxOk.keeps {dx : Option Addr} {H H' : Hp} (d : DxOk dx H) (k : keepsH H H') : DxOk dx H' := by
  rcases d with d | ⟨d, fs, e, h⟩
  · exact .inl d
  · exact .inr ⟨d, fs, e, k _ _ h⟩
def hot6 (j : Nat) : List Bool := (List.range 6).map fun i => decide (i = j)
/-- what that def tells of the exception p, by its class -/
def spW (K : PySem.W.Frag) (mg : Str → Option Value) (p : Addr × Obj) : Sp := fun vs H Q _ => vs = [.ref p.1] ∧ ∃ (D : Addr) (dx : Option Addr) (j : Nat), Zc (.ref D) dx p.2 ∧ (∃ vs, p.2.data = .fields vs) ∧ SixC K mg D (hot6 j) ∧ DxOk dx H ∧
  ((j < 5 ∧ ∃ nm, W6[j]? = some nm ∧ ∀ t H', keepsH H H' → H' t = some (.tup [.str "refused", .str nm]) → Q (.ref t) H') ∨
    (j = 5 ∧ PySem.W.findIn K (.ref D) "word" = some none ∧ ∃ dd v, dx = some dd ∧ H dd = some (.xd [("word", v)]) ∧ ∀ t H', keepsH H H' → H' t = some (.tup [.str "refused", .str "Fault", v]) → Q (.ref t) H'))
/-- the context of that def's body -/
structure WX1 (X : Cx) (K : PySem.W.Frag) (mg : Str → Option Value) (sc cs : Scope) (p : Addr × Obj) (D : Addr) (dx : Option Addr) (j : Nat) : Prop where
  S : WordS ["e", "flags", "flag"] sc cs
  hot : HotC X
  eK : X.K = K
  eN : X.N = ([("e" : Str), "flags", "flag"] : List Str)
  eS : X.env.scope = sc
  eM : X.mg = mg
  eP : (p.1, p.2) ∈ X.pn
  eF : ∀ x, X.fn x = true
  hz : Zc (.ref D) dx p.2
  hf : ∃ vs, p.2.data = .fields vs
  six : SixC K mg D (hot6 j)
  fre : ∀ x ∈ (["isinstance", "sum", "int"] : List Str), mg x = none
section
variable {X : Cx} {K : PySem.W.Frag} {mg : Str → Option Value} {sc cs : Scope} {p : Addr × Obj} {D : Addr} {dx : Option Addr} {j : Nat}
namespace WX1
theorem nd (c : WX1 X K mg sc cs p D dx j) : X.N.Nodup := by rw [c.eN]; exact c.S.fs.nd
theorem n0 (c : WX1 X K mg sc cs p D dx j) : X.N[0]? = some ("e" : Str) := by rw [c.eN]; rfl
theorem n1 (c : WX1 X K mg sc cs p D dx j) : X.N[1]? = some ("flags" : Str) := by rw [c.eN]; rfl
theorem n2 (c : WX1 X K mg sc cs p D dx j) : X.N[2]? = some ("flag" : Str) := by rw [c.eN]; rfl
theorem ve (c : WX1 X K mg sc cs p D dx j) : Vis X.env.scope "e" := by rw [c.eS]; exact c.S.ve
theorem lf (c : WX1 X K mg sc cs p D dx j) : L2.Loc X.env.scope "flags" := by rw [c.eS]; exact .inl c.S.lf
theorem vf (c : WX1 X K mg sc cs p D dx j) : Vis X.env.scope "flags" := by rw [c.eS]; exact .inl c.S.lf
theorem gl (c : WX1 X K mg sc cs p D dx j) : ∀ x ∈ (([("isinstance" : Str), "sum", "ValueError"] : List Str) ++ W6), Gl X x := fun x hx => by
  have z := c.S.gl x hx
  rw [← c.eS] at z
  exact z
theorem fr (c : WX1 X K mg sc cs p D dx j) : ∀ x ∈ (["isinstance", "sum", "int"] : List Str), X.mg x = none := by rw [c.eM]; exact c.fre
theorem EC (c : WX1 X K mg sc cs p D dx j) : ExcC X.K D := by rw [c.eK]; exact c.six.ec
theorem is6 (c : WX1 X K mg sc cs p D dx j) (i : Nat) {x : Str} {e : Expr} (he : isI x e = true) (hx : W6[i]? = some x) (hi : i < 6) (hd : (x == ("__debug__" : Str)) = false) : PE X e (tIsW p.1 dx (decide (i = j))) := by
  obtain ⟨p1, p2, p3, p4, rfl⟩ := isI_ok he
  obtain ⟨C, m1, m2⟩ := c.six.kit i x (decide (i = j)) hx (by unfold hot6; rw [List.getElem?_map, List.getElem?_range hi]; rfl)
  exact pe_isW (v := .ref C) c.n0 c.ve (c.gl _ (by decide)) (c.fr _ (by decide)) c.EC c.eP c.hz c.hf (pe_glob (c.gl x (List.mem_append_right _ (List.mem_of_getElem? hx))) (by rw [c.eM]; exact m1) rfl hd) (fun u' r => r) (by rw [c.eK]; exact m2)
theorem isV (c : WX1 X K mg sc cs p D dx j) {e : Expr} (he : isI "ValueError" e = true) : PE X e (tIsW p.1 dx true) := by
  obtain ⟨p1, p2, p3, p4, rfl⟩ := isI_ok he
  exact pe_isW (v := .ty "ValueError") c.n0 c.ve (c.gl _ (by decide)) (c.fr _ (by decide)) c.EC c.eP c.hz c.hf (pe_bltn (c.gl _ (by decide)) (by rw [c.eM]; exact c.six.nve) (by decide +kernel) rfl) (fun u' r => r) (by rw [c.eK]; exact c.six.ve)
end WX1
theorem isI_star {x : Str} {e : Expr} (he : isI x e = true) (env : Env) (es : List Expr) : starEach (e :: es) env = (false, eval e env) :: starEach es env := by
  obtain ⟨p1, p2, p3, p4, rfl⟩ := isI_ok he
  rfl
theorem isI_true {x : Str} {e : Expr} (he : isI x e = true) (env : Env) (wh : Sem Value) : isTrue e env wh = (do let v ← wh; standAt e.pos; holding [v] (truthy v)) := by
  obtain ⟨p1, p2, p3, p4, rfl⟩ := isI_ok he
  rfl
theorem isS_pe {x : Str} {e : Expr} (he : isS x e = true) : PE X e (tC (.str x)) := by
  obtain ⟨k, q, rfl⟩ := isS_ok he
  exact pe_str
theorem isS_star {x : Str} {e : Expr} (he : isS x e = true) (env : Env) (es : List Expr) : starEach (e :: es) env = (false, eval e env) :: starEach es env := by
  obtain ⟨k, q, rfl⟩ := isS_ok he
  rfl
abbrev B3 (j a b c : Nat) : List V := [.bl (decide (a = j)), .bl (decide (b = j)), .bl (decide (c = j))]
def At0 (p : Addr × Obj) (dx : Option Addr) (σ : L2.St) (H : Hp) : Prop := σ[0]? = some (some (.ref p.1)) ∧ DxOk dx H
theorem ps_w1 (c : WX1 X K mg sc cs p D dx j) {st : Stmt} (h : wv1 st = true) : PS X st (fun D' σ H => At0 p dx σ H ∧ ∀ a, H a = none → D'.nx (σ.set 1 (some (.ref a))) (upd H a (.lst (B3 j 0 1 2)))) := by
  obtain ⟨t, i1, i2, i3, q1, q2, rfl, ht, h1, h2, h3⟩ := wv1_ok h
  obtain ⟨q3, rfl⟩ := isN_ok ht
  refine PS.imp (ps_set (i := 1) c.nd c.n1 c.lf (pe_lst (pa_cons (c.is6 0 h1 rfl (by decide) (by decide)) (pa_cons (c.is6 1 h2 rfl (by decide) (by decide)) (pa_cons (c.is6 2 h3 rfl (by decide) (by decide)) pa_nil (isI_star h3 _ _)) (isI_star h2 _ _)) (isI_star h1 _ _))) rfl (.inl (c.eF _))) fun D' σ H q => ?_
  obtain ⟨⟨q0, dk⟩, q⟩ := q
  exact ⟨q0, dk, q0, dk, q0, dk, by rw [sizeLine_eq]; show 3 ≤ 16777216; decide, fun a n => q a n⟩
theorem ps_w2 (c : WX1 X K mg sc cs p D dx j) {st : Stmt} (h : wv2 st = true) : PS X st (fun D' σ H => At0 p dx σ H ∧ ∃ a1, σ[1]? = some (some (.ref a1)) ∧ H a1 = some (.lst (B3 j 0 1 2)) ∧ ∀ a H', keepsH H H' → H' a = none → D'.nx (σ.set 1 (some (.ref a))) (upd H' a (.lst (B3 j 0 1 2 ++ B3 j 3 4 5)))) := by
  obtain ⟨t, l, i1, i2, i3, q1, q2, q4, rfl, ht, hl, h1, h2, h3⟩ := wv2_ok h
  obtain ⟨q3, rfl⟩ := isN_ok ht
  obtain ⟨q5, rfl⟩ := isN_ok hl
  refine PS.imp (ps_set (i := 1) c.nd c.n1 c.lf (pe_op op_cat (pe_var c.n1 c.vf) (pe_lst (pa_cons (c.is6 3 h1 rfl (by decide) (by decide)) (pa_cons (c.is6 4 h2 rfl (by decide) (by decide)) (pa_cons (c.is6 5 h3 rfl (by decide) (by decide)) pa_nil (isI_star h3 _ _)) (isI_star h2 _ _)) (isI_star h1 _ _)))) rfl (.inl (c.eF _))) fun D' σ H q => ?_
  obtain ⟨⟨q0, dk⟩, a1, s1, e1, q⟩ := q
  exact ⟨_, s1, q0, dk, q0, dk, q0, dk, by rw [sizeLine_eq]; show 3 ≤ 16777216; decide, fun a n => ⟨a1, a, _, _, rfl, rfl, (keepsH.upd n) _ _ e1, upd_same, by rw [sizeLine_eq]; show 3 + 3 ≤ 16777216; decide, fun a2 n2 => q a2 _ (.upd n) n2⟩⟩
abbrev B6 (j : Nat) : List V := B3 j 0 1 2 ++ B3 j 3 4 5
abbrev N6 (j : Nat) : List Int := [if decide (0 = j) then 1 else 0, if decide (1 = j) then 1 else 0, if decide (2 = j) then 1 else 0, if decide (3 = j) then 1 else 0, if decide (4 = j) then 1 else 0, if decide (5 = j) then 1 else 0]
theorem n6_sum (hj : j < 6) : (N6 j).sum = 1 := by
  rcases (by omega : j = 0 ∨ j = 1 ∨ j = 2 ∨ j = 3 ∨ j = 4 ∨ j = 5) with rfl | rfl | rfl | rfl | rfl | rfl <;> rfl
theorem b6_at {i : Nat} {x : V} (hx : (B6 j)[i]? = some x) : ∃ b : Bool, x = V.bl b ∧ (N6 j)[i]? = some (if b then (1 : Int) else 0) := by
  have hi : i < 6 := (List.getElem?_eq_some_iff.mp hx).1
  rcases (by omega : i = 0 ∨ i = 1 ∨ i = 2 ∨ i = 3 ∨ i = 4 ∨ i = 5) with rfl | rfl | rfl | rfl | rfl | rfl <;> (cases hx; exact ⟨_, rfl, rfl⟩)
theorem pt_wS (c : WX1 X K mg sc cs p D dx j) (hj : j < 6) {e : Expr} (h : wvS cs e = true) : PT X e (fun σ H Q => ∃ a, σ[1]? = some (some (.ref a)) ∧ σ.length = 3 ∧ H a = some (.lst (B6 j)) ∧ ∀ H', keepsH H H' → Q false H') := by
  obtain ⟨s1, s2, s3, g1, g2, m1, q1, q2, q3, q4, rfl, h1, h2, h3, h4, h5, h6⟩ := wvS_ok h
  obtain ⟨r1, rfl⟩ := isN_ok h1
  obtain ⟨r2, rfl⟩ := isN_ok h2
  obtain ⟨r3, rfl⟩ := isN_ok h3
  obtain ⟨r4, rfl⟩ := isN_ok h4
  obtain ⟨r5, rfl⟩ := isN_ok h5
  obtain ⟨r6, r7, rfl⟩ := is1_ok h6
  have scE : ∀ (cl : List (Str × Addr)) (C : Addr), (compEnvC cs cl C X.env).scope = relS cs sc := fun cl C => by rw [← c.eS]; rfl
  have bok : BlkOk X.N X.env.scope cs [(("flag" : Str), 2)] := by rw [c.eN, c.eS]; exact blkOk_by c.S.bk
  have pgB : ∀ (s : Shared) (H : Hp) (C : Addr) (cl : List (Str × Addr)) (fp : List Addr), PG (blkH X s H cs (compEnvC cs cl C X.env) fp) (.Name "flag" r4) (gName 2) := fun s H C cl fp =>
    pg_name c.nd c.n2 (.inl (by show (compEnvC cs cl C X.env).scope.names.lookup _ = _; rw [scE]; exact c.S.lc)) (.inr (by show (compEnvC cs cl C X.env).scope.names.lookup _ = _; rw [scE]; exact c.S.lc))
  have peB : ∀ (s : Shared) (H : Hp) (C : Addr) (cl : List (Str × Addr)) (fp : List Addr), PE (blkH X s H cs (compEnvC cs cl C X.env) fp) (.Call (.Name "int" r2) [.Name "flag" r3] [] q1) (tCB (fun xs H Q => (∃ i, xs = [.int i] ∧ Q (.int i) H) ∨ ∃ k, xs = [.bl k] ∧ Q (.int (if k then 1 else 0)) H) (tCons (tVar 2) tNil)) := fun s H C cl fp =>
    pe_callTy (X := blkH X s H cs (compEnvC cs cl C X.env) fp) call_int1 (by show (compEnvC cs cl C X.env).scope.names.lookup _ = _; rw [scE]; exact c.S.gc) (c.fr _ (by decide)) (by decide +kernel) (pa_cons (pe_var (X := blkH X s H cs (compEnvC cs cl C X.env) fp) c.n2 (by show Vis (compEnvC cs cl C X.env).scope _; rw [scE]; exact .inl c.S.lc)) pa_nil)
  refine PT.imp (pt_cmpR op_ne (pe_callB (cr_sumH c.hot) (c.gl _ (by decide)) (c.fr _ (by decide)) (by decide +kernel) (pa_cons (pe_lcH c.hot c.nd (pi_lstH (pe_var c.n1 c.vf)) bok pgB (fun s H C cl fp => pts_nil) peB) pa_nil)) pe_int rfl) fun σ H Q q => ?_
  obtain ⟨a, sa, l3, ea, q⟩ := q
  refine ⟨_, sa, a, B6 j, rfl, SqL.of ea, fun D' nD => ?_⟩
  refine lc_list (K := X.K) (a := a) (xs := B6 j) (fun i H' => i ≤ 6 ∧ H' = upd H D' (.lst (((N6 j).take i).map V.int))) ⟨by omega, rfl⟩ (fun i H' hi pv => ?_) (fun i x H' hx pv => ?_) (fun H' pv => ?_)
  · rw [pv.2]
    exact SqL.of ((keepsH.upd nD) _ _ ea)
  · obtain ⟨b, rfl, nb⟩ := b6_at hx
    have hi : i < 6 := (List.getElem?_eq_some_iff.mp hx).1
    obtain ⟨_, rfl⟩ := pv
    refine ⟨?_, ?_⟩
    · show (wipe (_ : L2.St) [2]) = wipe σ [2]
      simp [wipe]
    unfold tYes
    dsimp only
    rw [if_pos rfl]
    refine ⟨_, ?_, .inr ⟨b, rfl, _, upd_same, ?_, hi, ?_⟩⟩
    · simp [wipe, l3]
    · rw [List.length_map, List.length_take, sizeLine_eq]
      omega
    · rw [List.take_add_one, nb, List.map_append]
      exact upd_upd
  · obtain ⟨_, rfl⟩ := pv
    refine ⟨D', N6 j, rfl, SqL.of upd_same, rfl, _, rfl, ?_⟩
    rw [n6_sum hj]
    exact q _ (.upd nD)
theorem ps_w3 (c : WX1 X K mg sc cs p D dx j) (hj : j < 6) {st : Stmt} (h : wv3 cs st = true) : PS X st (fun D' σ H => At0 p dx σ H ∧ ∃ a, σ[1]? = some (some (.ref a)) ∧ σ.length = 3 ∧ H a = some (.lst (B6 j)) ∧ ∀ H', keepsH H H' → D'.nx σ H') := by
  obtain ⟨a, b, r, q1, q2, q3, rfl, h1, h2, h3⟩ := wv3_ok h
  obtain ⟨c1, c2, k1, q4, q5, rfl, h4, h5⟩ := isRT2_ok h3
  refine PS.imp (ps_if (pw_or (pt_wS c hj h1) (pw_or1 (pt_not (pt_val (c.isV h2) (isI_true h2 _))))).pt (pss_one (ps_ret (pe_tup (pa_cons (isS_pe h4) (pa_cons (isS_pe h5) pa_nil (isS_star h5 _ _)) (isS_star h4 _ _))))) pss_nil) fun D' σ H q => ?_
  obtain ⟨⟨q0, dk⟩, a, sa, l3, ea, q⟩ := q
  refine ⟨a, sa, l3, ea, fun H' k => ?_⟩
  show if false = true then _ else _
  rw [if_neg Bool.false_ne_true]
  refine ⟨q0, dk.keeps k, _, rfl, ?_⟩
  show if (!true) = true then _ else _
  rw [if_neg (by decide)]
  exact q H' k
theorem ps_w4 (c : WX1 X K mg sc cs p D dx j) {st : Stmt} (h : wv4 st = true) : PS X st (fun D' σ H => At0 p dx σ H ∧ ((¬ 5 = j ∧ D'.nx σ H) ∨ (5 = j ∧ PySem.W.findIn K (.ref D) "word" = some none ∧ ∃ dd v, dx = some dd ∧ H dd = some (.xd [("word", v)]) ∧ ∀ t, H t = none → D'.rt (.ref t) (upd H t (.tup [.str "refused", .str "Fault", v]))))) := by
  obtain ⟨i, a, b, w, q1, k1, q2, q3, q4, rfl, h1, h2, h3, h4⟩ := wv4_ok h
  obtain ⟨q5, rfl⟩ := isN_ok h4
  have pw : PE X (.Attribute (.Name "e" q5) "word" q1) (fun σ H1 Q => ∃ dd, dx = some dd ∧ PySem.W.findIn K (.ref D) "word" = some none ∧ σ[0]? = some (some (.ref p.1)) ∧ ∃ fs v, H1 dd = some (.xd fs) ∧ fs.lookup ("word" : Str) = some v ∧ Q v H1) := by
    refine ⟨fun pins s σ H Q I h => ?_⟩
    obtain ⟨dd, rfl, hno, h0, fs, v, e1, e2, q⟩ := h
    exact (pe_xfW (pos := q1) c.EC (by rw [c.eK]; exact hno) c.eP c.hz c.hf (pe_var (pos := q5) c.n0 c.ve)).run pins s σ H Q I ⟨_, h0, rfl, fs, v, e1, e2, q⟩
  refine PS.imp (ps_if (pt_val (c.is6 5 h1 rfl (by decide) (by decide)) (isI_true h1 _)) (pss_one (ps_ret (pe_tup (pa_cons (isS_pe h2) (pa_cons (isS_pe h3) (pa_cons pw pa_nil) (isS_star h3 _ _)) (isS_star h2 _ _))))) pss_nil) fun D' σ H q => ?_
  obtain ⟨⟨q0, dk⟩, q⟩ := q
  refine ⟨q0, dk, _, rfl, ?_⟩
  rcases q with ⟨nj, q⟩ | ⟨hj, hno, dd, v, rfl, e, q⟩
  · rw [decide_eq_false nj]
    show if false = true then _ else _
    rw [if_neg Bool.false_ne_true]
    exact q
  · rw [decide_eq_true hj]
    show if true = true then _ else _
    rw [if_pos rfl]
    exact ⟨dd, rfl, hno, q0, _, v, e, rfl, by rw [sizeLine_eq]; show 3 ≤ 16777216; decide, fun t n => q t n⟩
theorem w6_str {nm : Str} (h : W6[j]? = some nm) (hj : j < 5) : atI [V.str "BadToken", V.str "BadTerm", V.str "BadDeed", V.str "BadRow", V.str "BadPicture"] (j : Int) = some (V.str nm) := by
  rcases (by omega : j = 0 ∨ j = 1 ∨ j = 2 ∨ j = 3 ∨ j = 4) with rfl | rfl | rfl | rfl | rfl <;> (cases h; rfl)
theorem ps_w5 (c : WX1 X K mg sc cs p D dx j) (hj : j < 5) {nm : Str} (hn : W6[j]? = some nm) {st : Stmt} (h : wv5 st = true) : PS X st (fun D' σ H => ∃ a, σ[1]? = some (some (.ref a)) ∧ H a = some (.lst (B6 j)) ∧ ∀ t H', keepsH H H' → H' t = none → D'.rt (.ref t) (upd H' t (.tup [.str "refused", .str nm]))) := by
  obtain ⟨c1, a1, a2, a3, a4, a5, x, t, q1, ap, cp, q2, k1, q3, q4, rfl, h1, h2, h3, h4, h5, h6, h7, h8, hl⟩ := wv5_ok h
  obtain ⟨q5, rfl⟩ := isN_ok h7
  obtain ⟨k2, q6, rfl⟩ := isT_ok h8
  refine PS.imp (ps_ret (pe_tup (pa_cons (isS_pe h1) (pa_cons (pe_ix ix_list (pe_lst (pa_cons (isS_pe h2) (pa_cons (isS_pe h3) (pa_cons (isS_pe h4) (pa_cons (isS_pe h5) (pa_cons (isS_pe h6) pa_nil (isS_star h6 _ _)) (isS_star h5 _ _)) (isS_star h4 _ _)) (isS_star h3 _ _)) (isS_star h2 _ _)))
    (pe_bm PySem.F.plainAttrs_list PySem.F.slot_list_index PySem.F.type_list_index mt_index (pe_var c.n1 c.vf) (pa_cons pe_bl pa_nil) rfl rfl hl) (fun _ _ => rfl)) pa_nil) (isS_star h1 _ _)))) fun D' σ H q => ?_
  obtain ⟨a, sa, ea, q⟩ := q
  refine ⟨by rw [sizeLine_eq]; show 5 ≤ 16777216; decide, fun b nb => ⟨_, sa, .inl ⟨rfl, _, SqL.of ((keepsH.upd nb) _ _ ea)⟩, a, _, _, j, .bl true, rfl, rfl, SqL.of ((keepsH.upd nb) _ _ ea), rfl, rfl, ?_, rfl, fun m z hm hz => ?_, b, _, _, _, rfl, rfl, SqL.of upd_same, w6_str hn hj, by rw [sizeLine_eq]; show 2 ≤ 16777216; decide, fun t nt => q t _ (.upd nb) nt⟩⟩
  · rcases (by omega : j = 0 ∨ j = 1 ∨ j = 2 ∨ j = 3 ∨ j = 4) with rfl | rfl | rfl | rfl | rfl <;> rfl
  · obtain ⟨b', rfl, _⟩ := b6_at hz
    rcases (by omega : j = 0 ∨ j = 1 ∨ j = 2 ∨ j = 3 ∨ j = 4) with rfl | rfl | rfl | rfl | rfl <;> (rcases (by omega : m = 0 ∨ m = 1 ∨ m = 2 ∨ m = 3) with rfl | rfl | rfl | rfl) <;> first | omega | (cases hz; rfl)
theorem word_fn {CX : CXT} {P : Program} {w : World} {base : Heap} {k : Nat} {f : Addr} {nm ql : Str} {pa : Arguments} {bd : List Stmt} {dV kV doc pm cdv ct oc : Value} {an od : Option Addr} {osl : Array (Option Value)}
    (at_ : K.lookup f = some ⟨oc, od, .func (PySem.W.fnOf nm ql pa bd sc dV kV doc pm an cdv ct), osl⟩) (code : PySem.W.codeIn K cdv ql = true) (hb : wordV cs bd = true) (S : WordS ["e", "flags", "flag"] sc cs) (fre : ∀ x ∈ (["isinstance", "sum", "int"] : List Str), mg x = none) :
    FnW P w K mg base CX (k + 1) f (PySem.W.fnOf nm ql pa bd sc dV kV doc pm an cdv ct) ["e"] (spW K mg) := by
  refine fnW_of at_ code S.fs (fun p vs H Q E h => by obtain ⟨rfl, _⟩ := h; rfl) fun p A up s H vs Q E hot room h => ?_
  obtain ⟨rfl, D, dx, j, hz, hf, six, dk, hq⟩ := h
  have c : WX1 (cxH CX P w K mg base ["e", "flags", "flag"] ql sc f cdv A up s H E p) K mg sc cs p D dx j := ⟨S, ⟨p, hot, List.mem_singleton.mpr rfl⟩, rfl, rfl, rfl, rfl, List.mem_singleton.mpr rfl, fun _ => rfl, hz, hf, six, fre⟩
  obtain ⟨s1, s2, s3, s4, s5, rfl, h1, h2, h3, h4, h5⟩ := wordV_ok hb
  have hj : j < 6 := by rcases hq with ⟨h, _⟩ | ⟨h, _⟩ <;> omega
  rcases hq with ⟨j5, nm, hn, hq⟩ | ⟨rfl, hno, dd, v, rfl, e, hq⟩
  · refine ⟨_, pss_cons (ps_w1 c h1) (pss_cons (ps_w2 c h2) (pss_cons (ps_w3 c hj h3) (pss_cons (ps_w4 c h4) (pss_one (ps_w5 c j5 hn h5))))), ⟨rfl, dk⟩, fun a1 n1 => ?_⟩
    have k1 : keepsH H (upd H a1 (.lst (B3 j 0 1 2))) := .upd n1
    refine ⟨⟨rfl, dk.keeps k1⟩, a1, rfl, upd_same, fun a2 H2 k2 n2 => ?_⟩
    have k3 : keepsH H (upd H2 a2 (.lst (B6 j))) := (k1.trans k2).trans (.upd n2)
    refine ⟨⟨rfl, dk.keeps k3⟩, a2, rfl, rfl, upd_same, fun H4 k4 => ?_⟩
    refine ⟨⟨rfl, dk.keeps (k3.trans k4)⟩, .inl ⟨by omega, a2, rfl, k4 _ _ upd_same, fun t H5 k5 n5 => ?_⟩⟩
    exact hq t _ (((k3.trans k4).trans k5).trans (.upd n5)) upd_same
  · refine ⟨_, pss_cons (ps_w1 c h1) (pss_cons (ps_w2 c h2) (pss_cons (ps_w3 c hj h3) (pss_cons (ps_w4 c h4) pss_never))), ⟨rfl, dk⟩, fun a1 n1 => ?_⟩
    have k1 : keepsH H (upd H a1 (.lst (B3 5 0 1 2))) := .upd n1
    refine ⟨⟨rfl, dk.keeps k1⟩, a1, rfl, upd_same, fun a2 H2 k2 n2 => ?_⟩
    have k3 : keepsH H (upd H2 a2 (.lst (B6 5))) := (k1.trans k2).trans (.upd n2)
    refine ⟨⟨rfl, dk.keeps k3⟩, a2, rfl, rfl, upd_same, fun H4 k4 => ?_⟩
    refine ⟨⟨rfl, dk.keeps (k3.trans k4)⟩, .inr ⟨rfl, hno, dd, v, rfl, (k3.trans k4) _ _ e, fun t nt => ?_⟩⟩
    exact hq t _ ((k3.trans k4).trans (.upd nt)) upd_same
end
end Mp

/-! Hx9: told(lambda: e), where what is raised is named by the law's own def. -/
namespace Mp
open PySem PySem.Spec L2 LamX PyProof.Rows HotX L2H
/-- a lambda's context; what it raises has no context of its own -/
def lamN (X : Cx) (A : Around) (up : List Env) (s : Shared) (H : Hp) (E : XK) (scp : Scope) (f cd : Addr) : Cx :=
  (lamCx X A up s H E scp f cd).tr [] fun e s1 => wpAny (model X.prog X.w) (A.deeper (lamEnv X scp s.heap.objs.size f cd)) (leaving (lamEnv X scp s.heap.objs.size f cd) e) (fun _ s2 => L2N.CX X.prog X.w up H s E e s2) (fun e' s2 => L2N.CX X.prog X.w up H s E e' s2) s1
section
variable {X : Cx} {pins : List (Addr × Obj)} {σ : L2.St} {H : Hp} {s : Shared}
theorem pe_actN {CXg : CXT} {Eg : XK} {Ng : List Str} {qg a : Str} {sg scp : Scope} {g f cd : Addr} {cdg pm ctv : Value} {prm : Arguments} {bd : Expr} {k i : Nat} {pn : List (Addr × Obj)} {xe : Value → Shared → Prop} {W : WX} {E : XK} {tb : TE} {r1 r2 : Pos}
    (I : Inv X pins σ H s) (L : LamS X.env.scope scp) (at_ : s.heap.get? f = some (PySem.W.kla_obj "<lambda>" (X.env.qual ++ "<lambda>") prm bd scp (cloFrom X.env.cells scp.names []) pm cd ctv)) (fre : H f = none) (nof : f ∉ frs X.stack)
    (bnd : bindArgs (PySem.W.kla_fn "<lambda>" (X.env.qual ++ "<lambda>") prm bd scp (cloFrom X.env.cells scp.names []) pm (.ref cd) ctv) ⟨[], []⟩ = pure [])
    (tk : L2N.Takes ((cxOf CXg X.prog X.w X.K X.mg X.base Ng qg sg g cdg X.A X.stack s H Eg).tr pn xe) W) (imp : ∀ c d τ H', E c d H' → W c d τ H') (room : Room (k + 1) (X.A.deeper (envOfC qg sg s.heap.objs.size g cdg)))
    (body : ∀ (A : Around) (up : List Env) (s : Shared) (H : Hp), Room k (A.deeper (lamEnv X scp s.heap.objs.size f cd)) → PE (lamN X A up s H E scp f cd) bd tb)
    (ni : Ng[i]? = some a) (vi : Vis sg a) (d1 : (a == ("__debug__" : Str)) = false) (d2 : (a == ("__classdict__" : Str)) = false) :
    PE ((cxOf CXg X.prog X.w X.K X.mg X.base Ng qg sg g cdg X.A X.stack s H Eg).tr pn xe) (.Call (.Name a r1) [] [] r2)
      (fun τ HZ Q => τ[i]? = some (some (.ref f)) ∧ HZ cd = some (CodeO cd (X.env.qual ++ "<lambda>")) ∧ tb σ HZ Q) := by
  refine ⟨fun pz sz τ HZ Q IZ h => ?_⟩
  obtain ⟨h0, h1, h2⟩ := h
  refine wpAny_Call_Name_kw (thn ((pe_var (pos := r1) (i := i) ni vi d1 d2).run pz sz τ HZ (fun v H1 => v = .ref f ∧ H1 = HZ) IZ ⟨.ref f, h0, rfl, rfl⟩) fun u s1 zz => ?_)
  obtain ⟨v, H1, I1, rv, rfl, rfl⟩ := zz
  cases rv
  have at1 := I1.base.keep f _ at_ fre nof (fun z => nomatch (show f ∈ ([] : List Addr) from z))
  refine PySem.W.callWith_F0 ⟨_, _, _, _, at1⟩ ?_
  obtain ⟨⟨oc, vs, t, hoc, hdc, hvc⟩, _, _⟩ := I1.hok cd _ h1
  have un : Un (frs X.stack) [] H H1 s.heap s1.heap := I1.base
  have run : codeAny (model X.prog X.w) (X.A.deeper (envOfC qg sg s.heap.objs.size g cdg)) (.call (.ref f) ⟨[], []⟩) (CR (L2N.CX X.prog X.w) (envOfC qg sg s.heap.objs.size g cdg :: X.stack) X.prog X.w H1 s1 Q E) s1 := by
    refine PySem.W.kla_callFunE room.depth at1 rfl L.co L.gen rfl ⟨cd, oc, vs, t, rfl, hoc, hdc, hvc⟩ ?_
    rw [bnd]
    refine wpAny_pure (wpAny_newFunctionEnv (fun y hy => (L.own y hy).2) (fun y hy => absurd hy (by simp)) (fun hn ns sb => ⟨I1.nolimit.fresh _ sb, ?_⟩) L.kind)
    show codeAny _ _ (.expr bd (lamEnv X scp s1.heap.objs.size f cd)) _ _
    have kp : ∀ b o, s1.heap.get? b = some o → hn.get? b = some o := fun b o e => sb.extBut b o (Nat.ne_of_lt (Heap.lt_size e)) (Heap.get?_push_of_some _ e)
    have J0 := lam_start2 (E := E) (f := f) (c' := cd) (tk := s1.toks + ([] : List (Str × Value)).length) I L I1.env0 room.hd un ns kp
    have J : Inv (lamN X (X.A.deeper (envOfC qg sg s.heap.objs.size g cdg)) (envOfC qg sg s.heap.objs.size g cdg :: X.stack) s1 H1 E scp f cd) [] σ H1 { s1 with heap := hn, toks := s1.toks + ([] : List (Str × Value)).length } := J0.toTry _
    refine PySem.W.kla_codeExpr (wpAny_mono ((body _ _ s1 H1 (room.deeper _)).run [] _ _ H1 Q J h2) (fun v s2 zz => ?_) fun e s2 zz => zz)
    obtain ⟨v', H2, J2, rv2, q2⟩ := zz
    exact ⟨v', H2, J2.os, J2.bare, J2.base, J2.hok, rv2, q2⟩
  refine wpAny_call (codeAny_mono run fun r s2 zz => ?_)
  cases r with
  | error e => exact L2N.passes_call tk imp pz τ H1 s1 e s2 I1 zz
  | ok fl =>
    cases fl with
    | ret u => exact I1.after zz
    | _ => exact False.elim zz
end
/-- as the kit's GivesTo, its exceptions without a context -/
def GivesN (X : Cx) (Ng : List Str) (x : Str) (sg : Scope) (g : Addr) (cdg : Value) (bg : List Stmt) (a q : Str) (TT : (XK → Hp → VK → Prop) → Hp → VK → Prop) : Prop :=
  ∀ (f cd : Addr) (s : Shared) (H : Hp) (Q : VK) (tl : XK → Hp → VK → Prop),
    (∀ (W : WX) (pn : List (Addr × Obj)) (xe : Value → Shared → Prop) (E : XK) (r1 r2 : Pos), L2N.Takes ((cxOf C8.CX0 X.prog X.w X.K X.mg X.base Ng x sg g cdg X.A X.stack s H C8.E0).tr pn xe) W → (∀ c d τ H', E c d H' → W c d τ H') →
      PE ((cxOf C8.CX0 X.prog X.w X.K X.mg X.base Ng x sg g cdg X.A X.stack s H C8.E0).tr pn xe) (.Call (.Name a r1) [] [] r2) (fun τ HZ Q => τ[0]? = some (some (.ref f)) ∧ HZ cd = some (CodeO cd q) ∧ tl E HZ Q)) →
    H cd = some (CodeO cd q) → Room 1 (X.A.deeper (envOfC x sg s.heap.objs.size g cdg)) → TT tl H Q →
    ∃ t, PSs (cxOf C8.CX0 X.prog X.w X.K X.mg X.base Ng x sg g cdg X.A X.stack s H C8.E0).nox bg t ∧ t { nx := fun _ H' => Q .non H', rt := Q } (L2.start Ng [.ref f]) H
section
variable {X : Cx}
theorem pe_lamN {T : List (Addr × Str)} {TT : (XK → Hp → VK → Prop) → Hp → VK → Prop} {x a : Str} {g c P : Addr} {k : Nat} {pg prm : Arguments} {bg : List Stmt} {sg scp : Scope} {dV kV doc pm cdv ct oc : Value} {an od : Option Addr} {osl : Array (Option Value)} {Ng : List Str} {bd : Expr} {t : XK → TE} {r1 r2 r3 : Pos}
    (hg : Gl X x) (hm : X.mg x = some (.ref g)) (hk : PySem.W.keepIn X.K (.ref g) = true) (at_ : X.K.lookup g = some ⟨oc, od, .func (PySem.W.fnOf x x pg bg sg dV kV doc pm an cdv ct), osl⟩) (code : PySem.W.codeIn X.K cdv x = true) (bnd : L2.Binds X.K (PySem.W.fnOf x x pg bg sg dV kV doc pm an cdv ct) [a] []) (Sg : FnScope Ng [a] sg) (n0 : Ng[0]? = some a) (va : Vis sg a)
    (GT : GivesN X Ng x sg g cdv bg a (X.env.qual ++ "<lambda>") TT) (TB : TabB X.base X.mg c P) (hc : X.env.code = .ref c) (hT : (P, X.env.qual ++ "<lambda>") ∈ T) (hu : ∀ p ∈ T, p.1 = P → p.2 = X.env.qual ++ "<lambda>") (room : Room (k + 2) X.A) (L : LamS X.env.scope scp) (dfl : defaultsOf prm X.env = ([], []))
    (lb : ∀ (q : Str) (cl : List (Str × Addr)) (pm cv ctv : Value), bindArgs (PySem.W.kla_fn "<lambda>" q prm bd scp cl pm cv ctv) ⟨[], []⟩ = pure [])
    (body : ∀ (A : Around) (up : List Env) (s : Shared) (H : Hp) (E : XK) (f cd : Addr), Room k (A.deeper (lamEnv X scp s.heap.objs.size f cd)) → PE (lamN X A up s H E scp f cd) bd (t E))
    (d0 : (x == ("__debug__" : Str)) = false) (d1 : (a == ("__debug__" : Str)) = false) (d2 : (a == ("__classdict__" : Str)) = false) :
    PE X (.Call (.Name x r1) [.Lambda prm bd scp r2] [] r3) (tLam T TT t) := by
  refine ⟨fun pins s σ H Q I h => wpAny_Call_Name_kw (ld_glob I hg hm (PySem.W.callWith_K (h₀ := X.base) I.ok.mod.kin hk ?_ (by rfl) (by rfl)) d0)⟩
  obtain ⟨tabs, h⟩ := h
  show wpAny _ _ (spliced ((false, eval (.Lambda prm bd scp r2) X.env) :: backTo r3 (starEach [] X.env))) _ _ s
  refine Calls.spliced_cons (lam_make2 I TB hc hT hu tabs dfl (L.has I.ok) fun f cd pm' ctv H1 s1 I1 eN T1 e1 e2 e3 e4 => Calls.spliced_nil ⟨I1.kIn, ?_⟩)
  have run : codeAny (model X.prog X.w) X.A (.call (.ref g) ⟨[.ref f], []⟩) (CR C8.CX0 X.stack X.prog X.w H1 s1 Q C8.E0) s1 := by
    refine run_ofS (N := Ng) (ps := [a]) (us := [.ref f]) (vs := [.ref f]) at_ code Sg room I1.env0 (bnd s1 [.ref f] I1.kIn rfl) (.cons rfl .nil) rfl fun room1 => ?_
    obtain ⟨t1, p1, q1⟩ := GT f cd s1 H1 Q (fun E H' Q' => t E σ H' Q') (fun W pn xe E r1 r2 tk imp => pe_actN (i := 0) I1 L e1 e2 e3 (lb _ _ _ _ _) tk imp room1 (fun A up s H room2 => body A up s H E f cd room2) n0 va d1 d2) e4 (room1.mono (by omega)) (h H1 eN T1)
    exact ⟨t1, p1.nox, q1⟩
  refine wpAny_call (codeAny_mono run fun r s2 zz => ?_)
  cases r with
  | error e => exact (show False from zz).elim
  | ok fl =>
    cases fl with
    | ret u => exact I1.after zz
    | _ => exact False.elim zz
/-- what told is made of -/
def TTo (K : PySem.W.Frag) (mg : Str → Option Value) (CS : Addr) : (XK → Hp → VK → Prop) → Hp → VK → Prop := fun tl H Q =>
  tl (fun cls d H' => PySem.W.exmOne K cls (.ref CS) = some true ∧ ∀ (a : Addr) (oe : Obj), H' a = none → Zc cls d oe → (∃ vs, oe.data = .fields vs) → spW K mg (a, oe) [.ref a] H' Q fun _ _ _ => False) H Q
theorem told_gives {Ng : List Str} {x a e n wd q : Str} {sg : Scope} {g CS fw : Addr} {fdw : FuncData} {cdg : Value} {i : Nat} {r1 r2 r3 r4 r5 r6 r7 r8 r9 r10 : Pos} (nd : Ng.Nodup) (hi : Ng[i]? = some n) (ln : sg.names.lookup n = some .local) (ge : sg.names.lookup e = some .globalImplicit) (me : X.mg e = some (.ref CS)) (de : (e == ("__debug__" : Str)) = false)
    (gw : sg.names.lookup wd = some .globalImplicit) (mw : X.mg wd = some (.ref fw)) (dw : (wd == ("__debug__" : Str)) = false) (kw : PySem.W.keepIn X.K (.ref fw) = true) (bw : L2.Binds X.K fdw ["e"] []) (F : FnW X.prog X.w X.K X.mg X.base C8.CX0 1 fw fdw ["e"] (spW X.K X.mg)) (dn : (n == ("__debug__" : Str)) = false) (dn2 : (n == ("__classdict__" : Str)) = false) (h0 : ∀ f : Addr, (L2.start Ng [V.ref f])[0]? = some (some (V.ref f))) :
    GivesN X Ng x sg g cdg [.Try [.Return (some (.Call (.Name a r1) [] [] r2)) r3] [.ExceptHandler (some (.Name e r4)) (some n) [.Return (some (.Call (.Name wd r5) [.Name n r6] [] r7)) r8] r9] [] [] r10] a q (TTo X.K X.mg CS) := by
  intro f cd s H Q tl act hc room h
  have hgl : Gl (cxOf C8.CX0 X.prog X.w X.K X.mg X.base Ng x sg g cdg X.A X.stack s H C8.E0).nox e := ge
  refine ⟨_, pss_one (L2N.ps_try_as (X := (cxOf C8.CX0 X.prog X.w X.K X.mg X.base Ng x sg g cdg X.A X.stack s H C8.E0).nox) (c := .ref CS) (i := i) (Wout := fun _ _ _ _ => False)
      (tb := fun W D τ H => ∃ E : XK, (∀ c d τ' H', E c d H' → W c d τ' H') ∧ τ[0]? = some (some (.ref f)) ∧ H cd = some (CodeO cd q) ∧ tl E H D.rt)
      (ts := fun a cls d D τ H => (∃ τ0, τ = List.set τ0 i (some (.ref a))) ∧ ∀ oe : Obj, Zc cls d oe → (∃ vs, oe.data = .fields vs) → spW X.K X.mg (a, oe) [.ref a] H D.rt fun _ _ _ => False)
      rfl rfl nd hi ln ⟨hgl, de, .inl me⟩ (fun u s' xx => by obtain ⟨_, _, _, _, _, _, _, _, _, _, _, _, _, _, _, _, z⟩ := xx; exact z.elim) (fun W pn xe tk _ => ?_) (fun a oe cls d pn hz hf => ?_)), ?_⟩
  · refine ⟨fun pins s' τ H' D I zz => ?_⟩
    obtain ⟨E, imp, h1, h2, h3⟩ := zz
    exact (pss_one (ps_ret (pos := r3) (act W pn xe E r1 r2 tk imp))).run pins s' τ H' D I ⟨h1, h2, h3⟩
  · refine pss_one ⟨fun pins s' τ H' D I zz => ?_⟩
    obtain ⟨⟨τ0, rfl⟩, zz⟩ := zz
    have sw := zz oe hz.zc hf
    obtain ⟨vs, hv⟩ := id hf
    have sv : (List.set τ0 i (some (V.ref a)))[i]? = some (some (.ref a)) := by
      have hl : (List.set τ0 i (some (V.ref a))).length = Ng.length := I.len
      rw [List.length_set] at hl
      have h2 := (List.getElem?_eq_some_iff.mp hi).1
      simp [hl, h2]
    refine (ps_ret (pos := r8) (pe_callW (X := (cxOf C8.CX0 X.prog X.w X.K X.mg X.base Ng x sg g cdg X.A X.stack s H C8.E0).nox.suite a ((a, oe) :: pn)) (p := (a, oe)) (E := fun _ _ _ _ => False) (q0 := r5) (pos := r7) F (roomH_mark room _) ⟨rfl, vs, hv, hz.2.2 vs hv⟩ List.mem_cons_self gw mw kw bw (fun τ => ?_) (pa_cons (pe_var (pos := r6) hi (.inl ln) dn dn2) pa_nil) dw rfl rfl)).run pins s' _ H' D I ⟨_, sv, sw⟩
    intro _ _ _ _ _ _ z
    exact (show False from z).elim
  · refine ⟨_, fun cls d τ' H' z => ?_, h0 f, hc, h⟩
    obtain ⟨z1, z2⟩ := z
    exact ⟨true, z1, fun _ a na => ⟨⟨_, rfl⟩, fun oe hz hf => z2 a oe na hz hf⟩, fun z => nomatch z⟩
end
end Mp

/-! Mp13: told(lambda: e); an exception that bears a word is raised. -/
namespace Mp
open PySem PySem.Spec L2 LamX PyProof.Rows L2H
section
variable {X : Cx} {G : Wd} {W : WX}
theorem RH.lam {H H1 : Hp} {as : List Addr} {h : DH} (rh : RH G H as h) (e : ExtN H H1) (t : Tabs G.T H1) : Ext H as H1 as ∧ RH G H1 as h := by
  have x : Ext H as H1 as := ⟨⟨fun _ _ e => e, fun a xs z => ?_, fun a o u z => e _ _ z fun _ w => nomatch w⟩, fun a o z _ k => e a o z k, fun _ z => .inl z⟩
  · refine ⟨x, rh.len, rh.nd, fun i a o e1 e2 => ?_, t⟩
    have q := rh.ob i a o e1 e2
    obtain ⟨u, eu, ku⟩ := q.there
    exact q.mono x.toEx0 ((e a u eu fun ps z => by subst z; cases ku).trans eu.symm)
  · rcases z with z | ⟨o, z⟩
    · exact .inl (e _ _ z fun _ w => nomatch w)
    · exact .inr ⟨o, e _ _ z fun _ w => nomatch w⟩
/-- the def that names a refusal -/
def WordF (K : PySem.W.Frag) (mg : Str → Option Value) (wd : Str) : Prop := ∃ (fw : Addr) (fdw : FuncData), mg wd = some (.ref fw) ∧ PySem.W.keepIn K (.ref fw) = true ∧ L2.Binds K fdw ["e"] [] ∧ ∀ (P : Program) (w : World) (base : Heap), FnW P w K mg base C8.CX0 1 fw fdw ["e"] (spW K mg)
/-- what told is: its def in the written part -/
structure ToldF (K : PySem.W.Frag) (mg : Str → Option Value) (x e wd : Str) : Prop where
  wf : WordF K mg wd
  dw : (wd == ("__debug__" : Str)) = false
  ex : ∃ (g CS : Addr) (pg : Arguments) (sg : Scope) (dV kV doc pm cdv ct oc : Value) (an od : Option Addr) (osl : Array (Option Value)) (Ng : List Str) (a n : Str) (i : Nat) (p1 p2 p3 p4 p5 p6 p7 p8 p9 p10 : Pos),
    mg x = some (.ref g) ∧ PySem.W.keepIn K (.ref g) = true ∧
    K.lookup g = some ⟨oc, od, .func (PySem.W.fnOf x x pg [.Try [.Return (some (.Call (.Name a p1) [] [] p2)) p3] [.ExceptHandler (some (.Name e p4)) (some n) [.Return (some (.Call (.Name wd p5) [.Name n p6] [] p7)) p8] p9] [] [] p10] sg dV kV doc pm an cdv ct), osl⟩ ∧
    PySem.W.codeIn K cdv x = true ∧ L2.Binds K (PySem.W.fnOf x x pg [.Try [.Return (some (.Call (.Name a p1) [] [] p2)) p3] [.ExceptHandler (some (.Name e p4)) (some n) [.Return (some (.Call (.Name wd p5) [.Name n p6] [] p7)) p8] p9] [] [] p10] sg dV kV doc pm an cdv ct) [a] [] ∧
    FnScope Ng [a] sg ∧ Ng[0]? = some a ∧ Vis sg a ∧ Ng[i]? = some n ∧ sg.names.lookup n = some .local ∧ sg.names.lookup e = some .globalImplicit ∧ sg.names.lookup wd = some .globalImplicit ∧ mg e = some (.ref CS) ∧ (e == ("__debug__" : Str)) = false ∧ (a == ("__debug__" : Str)) = false ∧ (a == ("__classdict__" : Str)) = false ∧ (n == ("__debug__" : Str)) = false ∧ (n == ("__classdict__" : Str)) = false
/-- a class that told can name -/
structure ToldC (K : PySem.W.Frag) (mg : Str → Option Value) (e : Str) (D : Addr) (j : Nat) : Prop where
  cs : ∀ CS, mg e = some (.ref CS) → PySem.W.exmOne K (.ref D) (.ref CS) = some true
  six : SixC K mg D (hot6 j)
  wrd : j = 5 → PySem.W.findIn K (.ref D) "word" = some none
theorem start0 {Ng : List Str} (f : Addr) : (L2.start Ng [V.ref f])[0]? = some (some (V.ref f)) := rfl
theorem w5_str {j : Nat} {nm : Tx} (h : tW5[j]? = some nm) : W6[j]? = some ⟨nm.toArray⟩ := by
  rcases (by
    have := (List.getElem?_eq_some_iff.mp h).1
    have : j < 5 := this
    omega : j = 0 ∨ j = 1 ∨ j = 2 ∨ j = 3 ∨ j = 4) with rfl | rfl | rfl | rfl | rfl <;> (cases h; rfl)
theorem tref_str : (Str.ofString "refused") = ⟨tREF.toArray⟩ := by rfl
theorem tfault_str : (Str.ofString "Fault") = ⟨tFAULT.toArray⟩ := by rfl
theorem tE_told {tt : Nat → Option Nat} {x e wd : Str} {c P : Addr} {k : Nat} {params : Arguments} {body : Expr} {scope : Scope} {mb : M} {p lpos pos : Pos} (hK : X.K = G.K) (TF : ToldF X.K X.mg x e wd) (TC : ∀ c j, tt c = some j → ToldC X.K X.mg e (G.cls c) j) (hg : Gl X x)
    (TB : TabB X.base X.mg c P) (hcode : X.env.code = .ref c) (hmT : (P, X.env.qual ++ "<lambda>") ∈ G.T) (hu : ∀ q ∈ G.T, q.1 = P → q.2 = X.env.qual ++ "<lambda>") (hr : Room (k + 2) X.A) (L : LamS X.env.scope scope) (hdef : defaultsOf params X.env = ([], []))
    (hbind : ∀ (q : Str) (cl : List (Str × Addr)) (pm cv ctv : Value), bindArgs (PySem.W.kla_fn "<lambda>" q params body scope cl pm cv ctv) ⟨[], []⟩ = pure [])
    (hbody : ∀ (A : Around) (outer : List Env) (s : Shared) (H : Hp) (E : XK) (f c' : Addr), Room k (A.deeper (lamEnv X scope s.heap.objs.size f c')) → PE (lamN X A outer s H E scope f c') body (tE G (fun c d _ H => E c d H) mb))
    (hdb : (x == ("__debug__" : Str)) = false) :
    PE X (.Call (.Name x p) [.Lambda params body scope lpos] [] pos) (tE G W (mTold tt mb)) := by
  obtain ⟨g, CS, pg, sg, dV, kV, doc, pm, cdv, ct, oc, an, od, osl, Ng, a, n, i, p1, p2, p3, p4, p5, p6, p7, p8, p9, p10, hm, hk, lk, hcg, hb, Sg, hNg, hva, hi, hln, hge, hgw, hme, hde, hda, hca, hdn, hcn⟩ := TF.ex
  obtain ⟨fw, fdw, mw, kw, bw, FW⟩ := TF.wf
  refine PE.imp (pe_lamN (t := fun E => tE G (fun c d _ H => E c d H) mb) hg hm hk lk hcg hb Sg hNg hva (told_gives Sg.nd hi hln hge hme hde hgw mw TF.dw kw bw (FW _ _ _) hdn hcn start0) TB hcode hmT hu hr L hdef hbind hbody hdb hda hca) fun σ H Q q => ?_
  obtain ⟨as, h, en, rh, re, ob⟩ := q
  refine ⟨rh.tab, fun H1 eN T1 => ?_⟩
  obtain ⟨x1, rh1⟩ := rh.lam eN T1
  refine ⟨as, h, en, rh1, re.mono x1.toEx0, ?_⟩
  dsimp only at ob ⊢
  unfold mTold at ob
  cases q : mb en h with
  | ok d h1 => rw [q] at ob; exact OutR.mono ob x1
  | err => rw [q] at ob; exact ob.elim
  | exc c w h1 =>
    rw [q] at ob
    dsimp only at ob
    intro dx H2 as2 x2 er rh2
    unfold toldT at ob
    cases qt : tt c with
    | none => rw [qt] at ob; exact ob.elim
    | some j =>
      rw [qt] at ob
      have tc := TC c j qt
      refine ⟨tc.cs CS hme, fun ae oe na hz hf => ⟨rfl, G.cls c, dx, j, hz, hf, tc.six, ?_⟩⟩
      have fin : ∀ (v : V) (d : D) (H3 : Hp), keepsH H2 H3 → (∀ as3, Ex0 H2 as2 H3 as2 → RV G.K H3 as2 v d) → (∀ v' H' as', Ext H as H' as' → RV G.K H' as' v' d → RH G H' as' h1 → Q v' H') → Q v H3 := fun v d H3 k3 rv o => by
        obtain ⟨x3, rh3⟩ := rh2.lam (fun b o hb _ => k3 b o hb) (rh2.tab.ext k3)
        exact o v H3 as2 (x1.trans (x2.trans x3)) (rv as2 x3.toEx0) rh3
      cases w with
      | none =>
        have er : dx = none := er
        refine ⟨.inl er, .inl ?_⟩
        dsimp only at ob
        by_cases hj : j < 5
        · rw [if_pos hj] at ob
          cases qn : tW5[j]? with
          | none => rw [qn] at ob; exact ob.elim
          | some nm =>
            rw [qn] at ob
            refine ⟨hj, _, w5_str qn, fun t H3 k3 e3 => fin _ _ H3 k3 (fun _ x3 => .tup (.inl (.inl e3)) ?_) ob⟩
            rw [tref_str]
            exact .cons (.str _) (.cons (.str _) .nil)
        · rw [if_neg hj] at ob
          exact ob.elim
      | some d =>
        obtain ⟨dd, v, ed, e1, rv⟩ := er
        refine ⟨.inr ⟨dd, _, ed, e1⟩, .inr ?_⟩
        dsimp only at ob
        by_cases hj : j = 5
        · rw [if_pos hj] at ob
          refine ⟨hj, tc.wrd hj, dd, v, ed, e1, fun t H3 k3 e3 => fin _ _ H3 k3 (fun _ x3 => .tup (.inl (.inl e3)) ?_) ob⟩
          rw [tref_str, tfault_str]
          exact .cons (.str _) (.cons (.str _) (.cons (rv.mono x3) .nil))
        · rw [if_neg hj] at ob
          exact ob.elim
end
end Mp

/-! Hx10: an exception with a word is made and raised. -/
namespace Mp
open PySem PySem.Spec L2 LamX PyProof.Rows L2H
/-- the class, looked at -/
def oexB (K : PySem.W.Frag) (C : Addr) : Bool := (match K.lookup C with
  | some ⟨.type "type", _, .cls cd, sl⟩ => (match cd.mro, sl.toList with
    | .ref C' :: bm, [_, _, _, _, some (.builtin n), _] => C' == C && (n == "ValueError.__new__" && (!cd.hasDel && (cd.hasDict && PySem.HandSPX.refsVE bm)))
    | _, _ => false)
  | _ => false) && (decide (PySem.W.findIn K (.ref C) "__setattr__" = some (some (.builtin "object.__setattr__"))) && (decide (PySem.W.subIn K (.ref C) (.type "BaseException") = some true) && (decide (PySem.W.typeIn K (.ref C) = some (.type "type")) && PySem.W.keepIn K (.ref C))))
theorem oexB_ok {K : PySem.W.Frag} {C : Addr} (h : oexB K C = true) : OexC K C := by
  unfold oexB at h
  simp only [Bool.and_eq_true, decide_eq_true_eq] at h
  obtain ⟨h1, h2, h3, h4, h5⟩ := h
  refine ⟨?_, h2, h3, h4, h5⟩
  split at h1
  · rename_i dd cd sl ho
    split at h1
    · rename_i C' bm k0 k1 k2 k3 n k5 hm hs
      simp only [Bool.and_eq_true, beq_iff_eq, Bool.not_eq_true'] at h1
      obtain ⟨rfl, rfl, hdel, hd, hr⟩ := h1
      obtain ⟨nm, bs, mro, ns, qn, hdc, sn, sub, ab, col, del⟩ := cd
      dsimp only at hm hdel hd
      subst hm hdel hd
      have hsl : sl = #[k0, k1, k2, k3, some (.builtin "ValueError.__new__"), k5] := by
        obtain ⟨l⟩ := sl
        simp only at hs
        rw [hs]
      subst hsl
      exact ⟨nm, qn, ns, bs, bm, sn, sub, ab, col, dd, k0, k1, k2, k3, k5, ho, hr⟩
    · cases h1
  · cases h1
/-- its __init__: self.word = word -/
def initV : List Stmt → Bool
  | [.Assign [.Attribute (.Name a _) f _] (.Name b _) _] => decide (a = "self") && (decide (f = "word") && decide (b = "word"))
  | _ => false
theorem initV_ok {b : List Stmt} (h : initV b = true) : ∃ p1 p2 p3 p4, b = [.Assign [.Attribute (.Name "self" p1) "word" p2] (.Name "word" p3) p4] := by
  unfold initV at h
  split at h
  · simp only [Bool.and_eq_true, decide_eq_true_eq] at h
    obtain ⟨rfl, rfl, rfl⟩ := h
    exact ⟨_, _, _, _, rfl⟩
  · cases h
def spI (C : Addr) : Sp := fun vs H Q _ => ∃ (a : Addr) (v : V), vs = [.ref a, v] ∧ H a = some (exo a C none) ∧ ∀ dx, H dx = none → dx ≠ a → Q .non (upd (upd H dx (exd dx [("word", v)])) a (exo a C (some dx)))
theorem init_fn {CX : CXT} {P : Program} {w : World} {K : PySem.W.Frag} {mg : Str → Option Value} {base : Heap} {k : Nat} {f C : Addr} {nm ql : Str} {pa : Arguments} {bd : List Stmt} {sc : Scope} {dV kV doc pm cdv ct oc : Value} {an od : Option Addr} {osl : Array (Option Value)}
    (at_ : K.lookup f = some ⟨oc, od, .func (PySem.W.fnOf nm ql pa bd sc dV kV doc pm an cdv ct), osl⟩) (code : PySem.W.codeIn K cdv ql = true) (hb : initV bd = true) (S : FnScope ["self", "word"] ["self", "word"] sc) (v0 : Vis sc "self") (v1 : Vis sc "word") (T : OexC K C) (hno : PySem.W.findIn K (.ref C) "word" = some none) :
    FnOk P w K mg base CX (k + 1) f (PySem.W.fnOf nm ql pa bd sc dV kV doc pm an cdv ct) ["self", "word"] (spI C) := by
  obtain ⟨p1, p2, p3, p4, rfl⟩ := initV_ok hb
  refine fn_of at_ code S (fun vs H Q E h => by obtain ⟨a, v, rfl, _⟩ := h; rfl) fun A up s H vs Q E room h => ?_
  obtain ⟨a, v, rfl, e, h⟩ := h
  refine ⟨_, pss_one (ps_ost (pe_var (i := 0) rfl v0) (pe_var (i := 1) rfl v1)), _, rfl, _, rfl, a, C, rfl, T, hno, .inl ⟨e, fun dx n ne => h dx n ne⟩⟩
section
variable {X : Cx} {e : Expr} {es : List Expr} {ta : TA} {q1 q2 : Pos}
theorem pmk_oexN {x : Str} {C fI : Addr} {k : Nat} {fd : FuncData} {ps : List Str} {sp : Sp} (T : OexC X.K C) (iC : PySem.W.findIn X.K (.ref C) "__init__" = some (some (.ref fI))) (tI : PySem.W.typeIn X.K (.ref fI) = some (.type "function"))
    (F1 : FnOk X.prog X.w X.K X.mg X.base C8.CX0 k fI fd ps sp) (room : Room (k + 1) X.A) (bnd : L2.Binds X.K fd ps []) (hg : Gl X x) (hm : X.mg x = some (.ref C)) (ha : PA X (e :: es) ta)
    (d0 : (x == ("__debug__" : Str)) = false) (st : starEach (e :: es) X.env = (false, eval e X.env) :: starEach es X.env) (pl : (backTo q2 (starEach es X.env)).any (·.1) = false) :
    L2N.PMk X (.Call (.Name x q1) (e :: es) [] q2) (tMkO C sp [] ta) := by
  intro pins s σ H Q I h
  obtain ⟨nm, qn, N, bs, bm, sn, sub, ab, col, dd, k0, k1, k2, k3, k5, hC, hbm⟩ := T.cls
  refine wpAny_Call_Name_kw (ld_glob I hg hm (PySem.W.callWith_K (h₀ := X.base) I.ok.mod.kin T.kC (thn (ha.run q2 pins s σ H _ I h) fun us s1 zz => ?_) st pl) d0)
  obtain ⟨vs, H1, I1, rv, hz, hq⟩ := zz
  refine ⟨I1.kIn, ?_⟩
  show wpAny _ _ (call (.ref C) us) _ _ _
  obtain ⟨hp, g, dr, tk, os⟩ := s1
  obtain ⟨a, ea⟩ : ∃ a, a = hp.objs.size + 1 := ⟨_, rfl⟩
  have sz : hp.objs.size ≤ a := by omega
  have na : H1 a = none := I1.hok.fresh sz
  have hq := hq a na
  rw [List.append_nil] at hq
  have kk : ∀ b o, hp.get? b = some o → ((hp.push (PySem.W.kdv_tup us)).push (PySem.HandSPX.excO C hp.objs.size)).get? b = some o := fun b o z => Heap.get?_push_of_some _ (Heap.get?_push_of_some _ z)
  have get : ((hp.push (PySem.W.kdv_tup us)).push (PySem.HandSPX.excO C hp.objs.size)).get? a = some (PySem.HandSPX.excO C hp.objs.size) := by rw [ea]; heap_get
  have I2 := I1.laid (t' := tk) (a := a) (o := exo a C none) kk sz (exo_ok get)
  have r2 : Vals (V.ref a :: vs) (Value.ref a :: us) := .cons rfl rv
  have ln : (Value.ref a :: us ++ []).length = ps.length := by
    have z := r2.length
    rw [F1.len _ _ _ _ hq] at z
    rw [List.append_nil]
    exact z.symm
  have lu : us.length ≤ sizeLine := by
    rw [← Paired.length rv, sizeLine_eq]
    omega
  have b2 := bnd _ (Value.ref a :: us) I2.kIn ln
  rw [List.append_nil] at b2
  rw [ea] at *
  refine wpAny_call (PySem.HandSPX.call_own F.excBase_ValueError (fun Y => PySem.HandSPX.refsVE_contains Y bm hbm) (I1.kIn _ _ hC) (PySem.W.looks_findIn I1.kIn iC) (fun self => PySem.W.bind_fn I1.kIn self tI) lu
    (codeAny_mono (F1.run _ X.stack _ _ ⟨_, []⟩ _ _ _ (fun _ _ _ => False) (room.make C us []) (I2.env0.make C us []) b2 r2 hq) fun r s2 zz => ?_))
  cases r with
  | error er => exact (show False from zz).elim
  | ok fl =>
    cases fl with
    | ret u =>
      obtain ⟨v, H2, os2, bare2, un2, hok2, ru, rfl, d, fs, e1, e2, e3, q2⟩ := zz
      obtain ⟨h2, g2, d2, t2, os'⟩ := s2
      obtain ⟨t0, Gh, J, kG, ge, hoe, ng⟩ := mk_end0 (d2 := d2) (t2 := t2) I1 sz kk un2 hok2 os2 bare2 e1 e2 e3
      exact ⟨ru, _, _, _, ⟨Gh, g2, d2, t2, os'⟩, _, .ref C, some d, rfl, J, kG, ge, hoe, ⟨rfl, rfl, fun vs hv => by cases hv; rfl⟩, rfl, rfl, ng, rfl, bare2, raises_own T.exC T.tyC, q2⟩
    | _ => exact False.elim zz
theorem heap_end {H : Hp} {a d : Addr} {o1 o2 o3 o4 : HO} (na : H a = none) (ne : d ≠ a) : upd (del (upd (upd (upd H a o1) d o2) a o3) a) d o4 = upd H d o4 := by
  funext b
  by_cases hd : b = d
  · rw [hd, upd_same, upd_same]
  · rw [upd_ne hd, upd_ne hd]
    by_cases ha : b = a
    · rw [ha, del_same, na]
    · rw [del_ne ha, upd_ne ha, upd_ne hd, upd_ne ha]
variable {G : Wd} {W : WX} {ma : M}
/-- what an exception class with a word is -/
structure ExW (K : PySem.W.Frag) (mg : Str → Option Value) (x : Str) (C : Addr) : Prop where
  mg : mg x = some (.ref C)
  oex : OexC K C
  ini : ∃ (fI : Addr) (fd : FuncData), PySem.W.findIn K (.ref C) "__init__" = some (some (.ref fI)) ∧ PySem.W.typeIn K (.ref fI) = some (.type "function") ∧ L2.Binds K fd ["self", "word"] [] ∧ ∀ (P : Program) (w : World) (m : Str → Option Value) (base : Heap), FnOk P w K m base C8.CX0 1 fI fd ["self", "word"] (spI C)
theorem tS_raiseW {x : Str} {cn : Nat} {ps2 : Pos} (hc : X.calm = true) (tk : L2N.Takes X W) (xw : ExW X.K X.mg x (G.cls cn)) (room : Room 2 X.A) (hg : Gl X x) (d0 : (x == ("__debug__" : Str)) = false) (pa : PE X e (tE G W ma)) (hs : noStar e = true) :
    PS X (.Raise (some (.Call (.Name x q1) [e] [] q2)) none ps2) (tS G W (sRaiseW cn ma)) := by
  obtain ⟨fI, fd, h1, h2, h3, h4⟩ := xw.ini
  refine PS.imp (L2N.ps_raise hc tk (pmk_oexN xw.oex h1 h2 (h4 _ _ _ _) room h3 hg xw.mg (pa_cons pa pa_nil (star1 hs)) d0 (star1 hs) rfl)) fun D σ H q => ?_
  obtain ⟨as, h, en, rh, re, ob⟩ := q
  refine ⟨as, h, en, rh, re, ?_⟩
  dsimp only at ob ⊢
  unfold sRaiseW at ob
  cases q : ma en h with
  | err => rw [q] at ob; exact ob.elim
  | exc c w h1 => 
    rw [q] at ob
    intro dx H1 as1 x1 er rh1
    exact ob dx σ H1 as1 x1 er (re.mono x1.toEx0) rh1
  | ok d h1 =>
    rw [q] at ob
    intro v H1 as1 x1 rv rh1
    refine ⟨by show 1 ≤ 1000; decide, fun a na => ⟨a, v, rfl, upd_same, fun dx ndx ne => ⟨rfl, dx, [("word", v)], upd_same, ?_, ?_, ?_⟩⟩⟩
    · rw [upd_ne ne, upd_same]
    · have z := upd_ne (H := H1) (o := exo a (G.cls cn) none) ne
      rw [← z]
      exact ndx
    · rw [heap_end na ne]
      have n1 : H1 dx = none := by
        have z := upd_ne (H := H1) (o := exo a (G.cls cn) none) ne
        rw [← z]
        exact ndx
      obtain ⟨x2, rh2⟩ := rh1.laid (u := .xd [("word", v)]) n1
      exact ob (some dx) σ _ as1 (x1.trans x2) ⟨dx, v, rfl, upd_same, rv.mono x2.toEx0⟩ ((re.mono x1.toEx0).mono x2.toEx0) rh2
end
end Mp

/-! Hy1: enumerate of a list or a tuple; a dict of the module. -/
namespace Mp
open PySem L2 LamX PyProof.Rows
/-! ### enumerate(a tuple) -/
theorem enum_new1 {v : Value} {ob : Obj} {Hd : Heap → Prop} (Bg : Begins v ob Hd) :
    Meets (Builtin.«enumerate.__new__» ⟨[.type "enumerate", v], []⟩) (fun _ R s => Hd s.heap ∧
      R (.ok (.ret (.ref (s.heap.push ob).objs.size))) { s with heap := (s.heap.push ob).push { cls := .type "enumerate", data := .fields #[.none, .bool false, .ref s.heap.objs.size, rawInt 0, .none, .none] } }) :=
  .of_wp fun prog w A R s hR => by
    obtain ⟨hp, g, d, tk, os⟩ := s; obtain ⟨hB, hR⟩ := hR
    have hsub := sub_enumerate
    have it1 : ∀ {A' : Around} {E : Value → Shared → Prop} {Q : Value → Shared → Prop}, Q (.ref hp.objs.size) ⟨hp.push ob, g, d, tk, os⟩ → wpAny (model prog w) A' (pyIter v) Q E ⟨hp, g, d, tk, os⟩ :=
      fun q => Bg.iter prog w _ _ ⟨hp, g, d, tk, os⟩ _ hB q
    wp_walk using it1
    refine wpAny_stack_any fun st => wpAny_pure ?_
    split
    · rename_i c _ _ _ _ _
      cases (c == Value.type "enumerate")
      · wp_walk using it1
        exact ⟨_, rfl, hR⟩
      · wp_walk using it1
        exact ⟨_, rfl, hR⟩
    · wp_walk using it1
      exact ⟨_, rfl, hR⟩
theorem enum_call1 {prog : Program} {w : World} {A : Around} {E : Value → Shared → Prop} {s : Shared} {v : Value} {ob : Obj} {Hd : Heap → Prop} {Q : Value → Shared → Prop} (Bg : Begins v ob Hd) (hB : Hd s.heap)
    (go : ∀ h', IsEnum h' (s.heap.objs.size + 1) s.heap.objs.size 0 .none → h'.get? s.heap.objs.size = some ob → (∀ b o, s.heap.get? b = some o → h'.get? b = some o) → Q (.ref (s.heap.objs.size + 1)) { s with heap := h' }) :
    wpAny (model prog w) A (call (.type "enumerate") [v]) Q E s := by
  refine callType_new F.called_enumerate (by decide) (F.typeCall_enumerate_1 _) (F.newCall_enumerate_1 _) (fun obj => F.args_object_init_2 obj _) F.entry_enumerate_new (enum_new1 Bg) ⟨hB, ?_⟩
  have sz : (s.heap.push ob).objs.size = s.heap.objs.size + 1 := Heap.size_push ..
  show _ ∧ _
  rw [sz]
  have ie : IsEnum ((s.heap.push ob).push { cls := .type "enumerate", data := .fields #[.none, .bool false, .ref s.heap.objs.size, rawInt 0, .none, .none] }) (s.heap.objs.size + 1) s.heap.objs.size 0 .none := by
    have z := Heap.get?_push_size (s.heap.push ob) (o := { cls := .type "enumerate", data := .fields #[.none, .bool false, .ref s.heap.objs.size, rawInt 0, .none, .none] }) rfl
    rw [sz] at z
    exact z
  exact ⟨⟨_, ie, rfl⟩, go _ ie (Heap.get?_push_of_some _ (Heap.get?_push_size _ Bg.free)) fun b o q => Heap.get?_push_of_some _ (Heap.get?_push_of_some _ q)⟩
theorem enum_endT {prog : Program} {w : World} {A : Around} {E : Value → Shared → Prop} {s : Shared} {e it a : Addr} {j : Nat} {its : Array Value} {i : Int} {old : Value} {Q : Option Value → Shared → Prop} (hh : A.in1.handled = none) (ie : IsEnum s.heap e it i old) (ii : s.heap.IsTupleIter it a j) (ta : s.heap.IsTuple a its) (hj : its[j]? = none)
    (go : ∀ h', Heap.ExtBut it s.heap h' → Q none { s with heap := h' }) : wpAny (model prog w) A (pyNext (.ref e)) Q E s := by
  have ty : s.TypeIs (.ref e) "enumerate" := ⟨_, ie, rfl⟩
  unfold pyNext
  refine wpAny_bind (wpAny_attempt (wpAny_callSpecial?_slot (name := Str.ofString "__next__") ty F.slot_enumerate_next (wpAny_call_entry F.slot_enumerate_next ty F.entry_enumerate_next ?_ (F.args_enumerate_next_1 _))))
  show wpAny _ _ (field (.ref e) 2 >>= _) _ _ _
  refine wpAny_bind (wpAny_field ie rfl (x := .ref it) rfl ?_)
  refine wpAny_bind (wpAny_nextOf_tuple_end hh ii ta hj fun h' x ex hx => ?_)
  obtain ⟨o, ho, hc⟩ := hx
  refine wpAny_bind (wpAny_isInstance (T := "StopIteration") (b := true) ⟨o, ho, hc⟩ isSubtype_stop ?_)
  exact wpAny_pure (go _ ex)
def IteT (K : PySem.W.Frag) (a : Addr) : It :=
  ⟨fun i H => ∃ (ys : List V) (y : V), SqT K H a ys ∧ ys[i]? = some y, fun i H v H' => ∃ T y, v = .ref T ∧ H T = none ∧ H' = upd H T (.tup [.int (i : Nat), y]) ∧ ∀ ys, SqT K H a ys → ys[i]? = some y, fun i H => ∃ ys : List V, SqT K H a ys ∧ ys.length ≤ i⟩
theorem turn_enumT {P : Program} {w : World} {K : PySem.W.Frag} {elts : List Expr} {kk : Nat} {tpos : Pos} (a e it : Addr) :
    Turn P w K (.Tuple elts kk tpos) (IteT K a) [e, it] e (fun i h => (∃ old, IsEnum h e it ((i : Nat) : Int) old) ∧ h.IsTupleIter it a i ∧ e ≠ it ∧ a ≠ it ∧ a ≠ e) where
  mem := by simp
  obj := fun i h st b hb => by
    obtain ⟨⟨old, he⟩, ⟨o, ho, hc, hd⟩, _⟩ := st
    have eb : b = e ∨ b = it := by simpa using hb
    rcases eb with z | z
    · rw [z]; exact ⟨_, he, fun v q => nomatch q⟩
    · rw [z]; exact ⟨o, ho, fun v q => by rw [hd] at q; cases q⟩
  keep := fun i h h' st k => by
    obtain ⟨⟨old, he⟩, hi, hne⟩ := st
    exact ⟨⟨old, k e (by simp) _ he⟩, hi.at fun o q => k it (by simp) o q, hne⟩
  item := by
    intro X hP hw hK hc i pins s σ H E I hf st hg
    subst hP hw hK
    obtain ⟨⟨old, he⟩, hit, hne, ha1, ha2⟩ := st
    obtain ⟨ys, y, hq, hy⟩ := hg
    obtain ⟨its, rv, p, hz⟩ := I.tuple hq
    obtain ⟨u, hu, ru⟩ := rv.get hy
    have hel : e < s.heap.objs.size := Heap.lt_size he
    have hil : it < s.heap.objs.size := by obtain ⟨_, q, _⟩ := hit; exact Heap.lt_size q
    have hlt : i < its.toArray.size := by rw [List.size_toArray]; exact (List.getElem?_eq_some_iff.mp hu).1
    refine wpAny_pyNext_enum_itemD (Draws.tuple (A := X.A.in1) (I.ok.hd hc) it a ha1 its.toArray) he ⟨hit, p⟩ hlt hne (by simp [hne, Ne.symm ha2]) fun u' h' tk hu' ho st' hT hsz hk => ?_
    have eu : u' = u := by
      have z : its.toArray[i]? = some u := by simpa using hu
      rw [z] at hu'
      exact (Option.some.inj hu').symm
    subst eu
    refine ⟨_, rfl, wpAny_letOwnedTupleGo_enum (s := { s with heap := h', toks := tk + 1 }) ho fun h'' he' sb => ?_⟩
    have hT2 : h''.get? s.heap.objs.size = some { cls := .type "tuple", data := .seq #[.int i tk, u'] } := (sb.2 _ (Nat.ne_of_gt hel)).trans hT
    have new : ObjOk X.prog X.w (upd H s.heap.objs.size (.tup [.int (i : Nat), y])) h'' s.heap.objs.size (.tup [.int (i : Nat), y]) :=
      ⟨by show 2 ≤ sizeLine; decide, [.int i tk, u'], .cons ⟨_, rfl⟩ (.cons ru .nil), ⟨_, hT2, rfl, _, rfl⟩⟩
    have I1 : Inv X pins σ (upd H s.heap.objs.size (.tup [.int (i : Nat), y])) { s with heap := h'', toks := tk + 1 } :=
      I.turnedNew (ch := [e, it]) (fun b ob hb q => (sb.2 b (fun z => hb (by simp [z]))).trans (hk b ob (fun z => hb (by simp [z])) (fun z => hb (by simp [z])) q)) hf (Nat.le_refl _) new
    refine ⟨.ref s.heap.objs.size, _, I1, rfl, ⟨_, y, rfl, I.hok.fresh (Nat.le_refl _), rfl, fun zs hzs => by rw [I.tuple_inj hzs hq]; exact hy⟩, ⟨⟨u', ?_⟩, st'.1.at fun o q => (sb.2 it (Ne.symm hne)).trans q, hne, ha1, ha2⟩, fun b hb => ?_⟩
    · have e1 : ((i + 1 : Nat) : Int) = (i : Int) + 1 := by omega
      rw [e1]; exact he'
    · have hb' : b < s.heap.objs.size := by
        have eb : b = e ∨ b = it := by simpa using hb
        rcases eb with z | z
        · rw [z]; exact hel
        · rw [z]; exact hil
      rw [upd_ne (Nat.ne_of_lt hb')]
      exact (hf b hb).1
  done := by
    intro X hP hw hK hc i pins s σ H E I hf st hg
    subst hP hw hK
    obtain ⟨⟨old, he⟩, hit, hne, ha1, ha2⟩ := st
    obtain ⟨ys, hq, hy⟩ := hg
    obtain ⟨its, rv, p, hz⟩ := I.tuple hq
    obtain ⟨f0, f1, f2, f3, f4, f5⟩ := hf it (by simp)
    have hl := rv.length
    exact enum_endT (I.ok.hd hc) he hit p (by simp; omega) fun h' eb => ⟨rfl, I.turned (t' := s.toks) (fun b o hb q => eb b o hb q) f0 f1 f3 f4 f5⟩
  self := fun A i s Q E st h => by
    obtain ⟨⟨_, he⟩, _⟩ := st
    exact wpAny_pyIter_enum he h
def iEnumT (K : PySem.W.Frag) (ta : TA) : TI := fun σ H R => ta σ H fun vs H1 => ∃ a ys, vs = [.ref a] ∧ SqT K H1 a ys ∧ R (IteT K a) H1
theorem pi_enumT {X : Cx} {e : Expr} {ta : TA} {p pos tpos : Pos} {elts : List Expr} {kk : Nat} (hg : Gl X "enumerate") (hm : X.mg "enumerate" = none) (ha : PA X [e] ta) (hs : starEach [e] X.env = [(false, eval e X.env)] := by rfl) :
    PI X (.Tuple elts kk tpos) (.Call (.Name "enumerate" p) [e] [] pos) (iEnumT X.K ta) := by
  refine ⟨fun pins s σ H R I h => ?_⟩
  refine Call_ (ld_blt I hg hm boot_enumerate (PyProof.Rows.callWith_type1 (thn (ha.run pos pins s σ H _ I h) fun us s1 hu => ?_) hs rfl))
  obtain ⟨vs, H1, I1, r1, a, ys, ev, hq, q⟩ := hu
  subst ev
  cases r1 with
  | cons r rr =>
    cases rr
    cases r
    obtain ⟨its, rv, pt, hz⟩ := I1.tuple hq
    have hal : a < s1.heap.objs.size := by obtain ⟨_, z, _⟩ := pt; exact Heap.lt_size z
    refine enum_call1 (begins_tuple a its.toArray) pt fun h' ie hit hk => wpAny_pyIter_enum ie ?_
    have I2 : Inv X pins σ H1 { s1 with heap := h' } := I1.kept (t' := s1.toks) hk
    refine ⟨s1.heap.objs.size + 1, [s1.heap.objs.size + 1, s1.heap.objs.size], _, _, H1, rfl, I2, turn_enumT a (s1.heap.objs.size + 1) s1.heap.objs.size, ⟨⟨.none, ie⟩, ⟨_, hit, rfl, rfl⟩, Nat.succ_ne_self _, Nat.ne_of_lt hal, Nat.ne_of_lt (Nat.lt_succ_of_lt hal)⟩, fun b hb => ?_, q⟩
    have eb : b = s1.heap.objs.size + 1 ∨ b = s1.heap.objs.size := by simpa using hb
    have hle : s1.heap.objs.size ≤ b := by
      rcases eb with z | z
      · rw [z]; exact Nat.le_add_right _ _
      · rw [z]; exact Nat.le_refl _
    exact I1.fpOk hle (I1.hok.fresh hle)
/-! ### the walk -/
section
variable {X : Cx} {G : Wd} {W : WX} {a b c e : Expr} {ma mb mc : M} {pos p tpos : Pos} {H : Hp} {as : List Addr} {elts : List Expr} {kk : Nat}
theorem enumD_len : ∀ (n : Nat) (xs : List D), (enumD n xs).length = xs.length
  | _, [] => rfl
  | n, x :: r => by simp [enumD, enumD_len (n + 1) r]
theorem enumD_get : ∀ (n : Nat) (xs : List D) (i : Nat), (enumD n xs)[i]? = (xs[i]?).map fun d => .tup [.int ((n + i : Nat) : Int), d]
  | _, [], _ => by simp [enumD]
  | n, x :: r, 0 => by simp [enumD]
  | n, x :: r, i + 1 => by
    simp only [enumD, List.getElem?_cons_succ]
    rw [enumD_get (n + 1) r i]
    have e1 : n + 1 + i = n + (i + 1) := by omega
    rw [e1]
theorem walks_enL {H0 : Hp} {as0 : List Addr} {i : Nat} {q : Addr} {xs : List D} (eq : as0[i]? = some q) : Walks G (Ite G.K q) H0 as0 (enumD 0 xs) (some (i, xs)) := fun H as h x rh st => by
  have e1 : h[i]? = some (.lst xs) := st
  obtain ⟨vs, hq, lq⟩ := rh.lst (x.pre _ _ eq) e1
  refine ⟨fun j d hd => ?_, fun j hj => ⟨vs, SqL.of hq, by rw [lq.length, ← enumD_len 0]; exact hj⟩⟩
  rw [enumD_get, Option.map_eq_some_iff] at hd
  obtain ⟨d', hd', rfl⟩ := hd
  obtain ⟨v, ev, rv⟩ := lq.get hd'
  refine ⟨⟨vs, v, SqL.of hq, ev⟩, fun w H' y => ?_⟩
  obtain ⟨T, z, rfl, hT, rfl, y⟩ := y
  have y := y vs (SqL.of hq)
  rw [ev] at y
  cases y
  rw [Nat.zero_add]
  exact rh.tupNew hT (.cons (.int _) (.cons rv .nil))
theorem walks_enT {H0 : Hp} {as0 : List Addr} {q : Addr} {vs : List V} {xs : List D} (hq : SqT G.K H0 q vs) (lq : RL G.K H0 as0 vs xs) : Walks G (IteT G.K q) H0 as0 (enumD 0 xs) none := fun H as h x rh st => by
  have hq' := sqT_mono x.toEx0 hq
  have lq' := lq.mono x.toEx0
  refine ⟨fun j d hd => ?_, fun j hj => ⟨vs, hq', by rw [lq'.length, ← enumD_len 0]; exact hj⟩⟩
  rw [enumD_get, Option.map_eq_some_iff] at hd
  obtain ⟨d', hd', rfl⟩ := hd
  obtain ⟨v, ev, rv⟩ := lq'.get hd'
  refine ⟨⟨vs, v, hq', ev⟩, fun w H' y => ?_⟩
  obtain ⟨T, z, rfl, hT, rfl, y⟩ := y
  have y := y vs hq'
  rw [ev] at y
  cases y
  rw [Nat.zero_add]
  exact rh.tupNew hT (.cons (.int _) (.cons rv .nil))
theorem tI_en {x : Str} (hK : X.K = G.K) (hx : x = "enumerate") (hg : Gl X x) (hm : X.mg x = none) (pa : PE X a (tE G W ma)) (hs : noStar a = true) : PI X (.Tuple elts kk tpos) (.Call (.Name x p) [a] [] pos) (tI G W (miEn ma)) := by
  subst hx
  have st : starEach [a] X.env = [(false, eval a X.env)] := star1 hs
  have pl : PA X [a] (tCons (tE G W ma) tNil) := pa_cons pa pa_nil st
  refine PI.imp (PI.or (pi_enum hg hm pl st) (pi_enumT hg hm pl st)) fun σ H R q => ?_
  obtain ⟨as, h, en, rh, re, ob⟩ := q
  unfold miEn at ob
  rw [hK]
  cases q : ma en h with
  | err => rw [q] at ob; exact ob.elim
  | exc c w h1 =>
    rw [q] at ob
    exact .inl ⟨as, h, en, rh, re, by dsimp only; rw [q]; exact ob⟩
  | ok d h1 =>
    rw [q, bind_ok] at ob
    cases d with
    | tup xs =>
      refine .inr ⟨as, h, en, rh, re, ?_⟩
      dsimp only
      rw [q]
      intro v H1 as1 x1 rv rh1
      obtain ⟨p, vs, rfl, hp, lp⟩ := rv.tup_inv
      exact ⟨p, vs, rfl, hp, ob _ _ _ x1 (walks_enT hp lp) rh1⟩
    | ref i =>
      refine .inl ⟨as, h, en, rh, re, ?_⟩
      dsimp only
      rw [q]
      intro v H1 as1 x1 rv rh1
      dsimp only at ob
      split at ob
      · rename_i xs e1
        obtain ⟨p, rfl, ep⟩ := rv.ref_inv
        obtain ⟨vs, hp, lp⟩ := rh1.lst ep e1
        exact ⟨p, vs, rfl, SqL.of hp, ob _ _ _ x1 (walks_enL ep) rh1⟩
      · exact ob.elim
    | non => exact ob.elim
    | bl _ => exact ob.elim
    | int _ => exact ob.elim
    | str _ => exact ob.elim
    | frl _ => exact ob.elim
end
/-! ### a dict of the module -/
/-- at a stands a written dict: these keys, these things -/
def KDc (K : PySem.W.Frag) (w : World) (a : Addr) (kvs : List (Tx × D)) : Prop :=
  (∃ es n, KDict K w a es n) ∧ ∀ z : Tx, match kvs.lookup z with
    | some d => ∃ u v, PySem.W.nsIn K a ⟨z.toArray⟩ = some (some u) ∧ RelV v u ∧ ∀ H as, RV K H as v d
    | none => PySem.W.nsIn K a ⟨z.toArray⟩ = some none
section
variable {X : Cx} {G : Wd} {W : WX} {a b c e : Expr} {ma mb mc : M} {pos p : Pos} {H : Hp} {as : List Addr} {x : Str} {q : Addr} {kvs : List (Tx × D)}
theorem KDc.look {K : PySem.W.Frag} {w : World} (k : KDc K w q kvs) (z : Tx) : ∃ r, PySem.W.nsIn K q ⟨z.toArray⟩ = some r ∧ r.isSome = (kvs.lookup z).isSome := by
  have y := k.2 z
  cases e : kvs.lookup z with
  | none => rw [e] at y; exact ⟨none, y, rfl⟩
  | some d =>
    rw [e] at y
    obtain ⟨u, v, h, _⟩ := y
    exact ⟨some u, h, rfl⟩
theorem tE_kin (k : KDc X.K X.w q kvs) (hg : Gl X x) (hm : X.mg x = some (.ref q)) (hd : (x == ("__debug__" : Str)) = false) (pa : PE X a (tE G W ma)) : PE X (.Compare a [.In] [.Name x p] pos) (tE G W (mKIn kvs ma)) ∧ PT X (.Compare a [.In] [.Name x p] pos) (tT G W (mKIn kvs ma)) := by
  obtain ⟨es, n, kd⟩ := k.1
  have pb : PE X (.Name x p) (tC (.ref q)) := pe_glob hg hm rfl hd
  have key : ∀ σ H (Q : VK), tE G W (mKIn kvs ma) σ H Q → tOp (fun x y H Q => ∃ (z : Str) (r : Option Value), x = .str z ∧ y = .ref q ∧ PySem.W.nsIn X.K q z = some r ∧ Q (.bl r.isSome) H) (tE G W ma) (tC (.ref q)) σ H Q := fun σ H Q z => by
    obtain ⟨as, h, en, rh, re, ob⟩ := z
    refine ⟨as, h, en, rh, re, (OutR.bind ob).imp fun v H1 n => ?_⟩
    obtain ⟨d, h1, as1, x1, rv, rh1, re1, o1⟩ := At.nxt re n
    split at o1
    · rename_i z
      cases rv
      obtain ⟨r, h2, h3⟩ := k.look z
      exact ⟨_, r, rfl, rfl, h2, by rw [h3]; exact o1 _ _ _ (Ext.refl _ _) (.bl _) rh1⟩
    · exact o1.elim
  exact ⟨PE.imp (pe_cmpR (op_in_kd kd) pa pb rfl) key, PT.imp (pt_cmpR (op_in_kd kd) pa pb rfl) fun σ H Q z => key σ H _ z⟩
theorem tE_kni (k : KDc X.K X.w q kvs) (hg : Gl X x) (hm : X.mg x = some (.ref q)) (hd : (x == ("__debug__" : Str)) = false) (pa : PE X a (tE G W ma)) : PE X (.Compare a [.NotIn] [.Name x p] pos) (tE G W (mKNi kvs ma)) ∧ PT X (.Compare a [.NotIn] [.Name x p] pos) (tT G W (mKNi kvs ma)) := by
  obtain ⟨es, n, kd⟩ := k.1
  have pb : PE X (.Name x p) (tC (.ref q)) := pe_glob hg hm rfl hd
  have key : ∀ σ H (Q : VK), tE G W (mKNi kvs ma) σ H Q → tOp (fun x y H Q => ∃ (z : Str) (r : Option Value), x = .str z ∧ y = .ref q ∧ PySem.W.nsIn X.K q z = some r ∧ Q (.bl (!r.isSome)) H) (tE G W ma) (tC (.ref q)) σ H Q := fun σ H Q z => by
    obtain ⟨as, h, en, rh, re, ob⟩ := z
    refine ⟨as, h, en, rh, re, (OutR.bind ob).imp fun v H1 n => ?_⟩
    obtain ⟨d, h1, as1, x1, rv, rh1, re1, o1⟩ := At.nxt re n
    split at o1
    · rename_i z
      cases rv
      obtain ⟨r, h2, h3⟩ := k.look z
      exact ⟨_, r, rfl, rfl, h2, by rw [h3]; exact o1 _ _ _ (Ext.refl _ _) (.bl _) rh1⟩
    · exact o1.elim
  exact ⟨PE.imp (pe_cmpR (op_notIn_kd kd) pa pb rfl) key, PT.imp (pt_cmpR (op_notIn_kd kd) pa pb rfl) fun σ H Q z => key σ H _ z⟩
theorem tE_kidx (hK : X.K = G.K) (k : KDc X.K X.w q kvs) (hg : Gl X x) (hm : X.mg x = some (.ref q)) (hd : (x == ("__debug__" : Str)) = false) (pb : PE X b (tE G W mb)) (hs : PlainIx b) : PE X (.Subscript (.Name x p) b pos) (tE G W (mKIdx kvs mb)) := by
  obtain ⟨es, n, kd⟩ := k.1
  have pa : PE X (.Name x p) (tC (.ref q)) := pe_glob hg hm rfl hd
  refine PE.imp (pe_ix ix_kdict pa pb hs) fun σ H Q z => ?_
  obtain ⟨as, h, en, rh, re, ob⟩ := z
  refine ⟨as, h, en, rh, re, (OutR.bind ob).imp fun v H1 n => ?_⟩
  obtain ⟨d, h1, as1, x1, rv, rh1, re1, o1⟩ := At.nxt re n
  split at o1
  · rename_i z
    cases rv
    have y := k.2 z
    cases e : kvs.lookup z with
    | none => rw [e] at o1; exact o1.elim
    | some d =>
      rw [e] at y o1
      obtain ⟨u, v, h2, h3, h4⟩ := y
      exact ⟨q, _, v, rfl, rfl, ⟨es, _, u, kd.at_, kd.lit, h2, h3⟩, o1 _ _ _ (Ext.refl _ _) (by rw [← hK]; exact h4 _ _) rh1⟩
  · exact o1.elim
end
/-- the look at a written dict -/
def kdChk (K : PySem.W.Frag) (a : Addr) (kvs : List (Str × He.Dv)) : Bool := (match K.lookup a with
  | some ⟨_, _, .dict es _, _⟩ => es.toList.all fun e => !e.refKey && kvs.any fun q => e.key.isStr q.1
  | _ => false) && He.valsB K a kvs
def dvOf : D → Option He.Dv
  | .int i => some (.int i)
  | .str z => some (.str ⟨z.toArray⟩)
  | _ => none
def kdvOf : List (Tx × D) → Option (List (Str × He.Dv))
  | [] => some []
  | (z, d) :: r => (dvOf d).bind fun v => (kdvOf r).map fun l => (⟨z.toArray⟩, v) :: l
theorem str_arr {a b : Tx} (h : (⟨a.toArray⟩ : Str) = ⟨b.toArray⟩) : a = b := by
  have := congrArg (fun s : Str => s.cps.toList) h
  simpa using this
theorem kdv_mem : ∀ {kvs : List (Tx × D)} {vs : List (Str × He.Dv)}, kdvOf kvs = some vs → (∀ z d, kvs.lookup z = some d → ∃ v, (⟨z.toArray⟩, v) ∈ vs ∧ dvOf d = some v) ∧ ∀ q ∈ vs, ∃ z d, q.1 = ⟨z.toArray⟩ ∧ kvs.lookup z = some d
  | [], vs, h => by
    cases h
    exact ⟨fun z d e => (nomatch e), fun q hq => (nomatch hq)⟩
  | (y, c) :: r, vs, h => by
    simp only [kdvOf, Option.bind_eq_some_iff, Option.map_eq_some_iff] at h
    obtain ⟨v, hv, l, hl, rfl⟩ := h
    obtain ⟨h1, h2⟩ := kdv_mem hl
    refine ⟨fun z d e => ?_, fun q hq => ?_⟩
    · rw [List.lookup_cons] at e
      cases t : z == y with
      | true =>
        rw [t] at e
        cases e
        have := eq_of_beq t
        subst this
        exact ⟨v, List.mem_cons_self, hv⟩
      | false =>
        rw [t] at e
        obtain ⟨v', m, e'⟩ := h1 z d e
        exact ⟨v', List.mem_cons_of_mem _ m, e'⟩
    · rcases List.mem_cons.mp hq with rfl | hq
      · exact ⟨y, c, rfl, by rw [List.lookup_cons, beq_self_eq_true]⟩
      · obtain ⟨z, d, e1, e2⟩ := h2 q hq
        refine ⟨z, ?_⟩
        rw [List.lookup_cons]
        cases t : z == y with
        | true => exact ⟨c, e1, rfl⟩
        | false => exact ⟨d, e1, e2⟩
theorem kd_of {K : PySem.W.Frag} {w : World} {a : Addr} {kvs : List (Tx × D)} {vs : List (Str × He.Dv)} (hv : kdvOf kvs = some vs) (h : kdChk K a vs = true) (k : ∃ es n, KDict K w a es n) : KDc K w a kvs := by
  unfold kdChk at h
  rw [Bool.and_eq_true] at h
  obtain ⟨hc, hw⟩ := h
  obtain ⟨m1, m2⟩ := kdv_mem hv
  refine ⟨k, fun z => ?_⟩
  cases e : kvs.lookup z with
  | some d =>
    obtain ⟨v, m, ed⟩ := m1 z d e
    obtain ⟨u, h1, h2⟩ := He.valsB_ok hw m
    refine ⟨u, v.v K, h1, h2, fun H as => ?_⟩
    cases d with
    | int i => cases ed; exact .int i
    | str y => cases ed; exact .str y
    | _ => cases ed
  | none =>
    obtain ⟨es, n, kd⟩ := k
    rw [kd.at_] at hc
    dsimp only at hc ⊢
    unfold PySem.W.nsIn
    rw [kd.at_]
    dsimp only
    rw [List.all_eq_true] at hc
    have f0 : es.toList.find? (fun x => x.key.isStr ⟨z.toArray⟩) = none := by
      rw [List.find?_eq_none]
      intro x hx hs
      have y := hc x hx
      rw [Bool.and_eq_true, List.any_eq_true] at y
      obtain ⟨_, q, hq, hs2⟩ := y
      obtain ⟨z', d', e1, e2⟩ := m2 q hq
      cases kx : x.key with
      | str s t =>
        rw [kx] at hs hs2
        have a1 : s = ⟨z.toArray⟩ := eq_of_beq hs
        have a2 : s = q.1 := eq_of_beq hs2
        rw [e1, a1] at a2
        have := str_arr a2
        subst this
        rw [e] at e2
        cases e2
      | _ => rw [kx] at hs; cases hs
    rw [f0]
    dsimp only
    have g0 : es.toList.any (fun x => x.refKey) = false := by
      rw [List.any_eq_false]
      intro x hx
      have y := hc x hx
      rw [Bool.and_eq_true, Bool.not_eq_true'] at y
      rw [y.1]
      exact Bool.false_ne_true
    rw [g0]
    rfl
end Mp

/-! Hy2: an item of a list is put. -/
namespace Mp
open PySem L2 LamX PyProof.Rows
section
variable {X : Cx} {G : Wd} {W : WX} {a o i : Expr} {ma mo mi : M} {pos p : Pos}
theorem tS_itm (po : PE X o (tE G W mo)) (pi : PE X i (tE G W mi)) (pa : PE X a (tE G W ma)) (hs : swapsWithSole [.Subscript o i p] a pos.line X.env = pure false) (hw : swappedStores [.Subscript o i p] a X.env = pure none)
    (ha : ∀ v, assign (.Subscript o i p) X.env v = (do
      let ov ← holding [v] (eval o X.env)
      let iv ← holding [v, ov] (eval i X.env)
      standAt p
      holding [v, ov, iv] (setItem ov iv v)
      release [v, ov, iv] [])) : PS X (.Assign [.Subscript o i p] a pos) (tS G W (sItm mo mi ma)) := PS.imp (ps_asg pa (pg_sub po pi set_list ha) hs hw rfl) fun D σ H ⟨as, h, en, rh, re, ob⟩ => by
  refine ⟨as, h, en, rh, re, (OutR.bindO re ob).imp fun y H1 n => ?_⟩
  obtain ⟨d, h1, as1, x1, rv, rh1, re1, o1⟩ := At.nxt re n
  refine ⟨as1, h1, en, rh1, re1, (OutR.bindO re1 o1).imp fun x H2 n => ?_⟩
  obtain ⟨dx, h2, as2, x2, rx, rh2, re2, o2⟩ := At.nxt re1 n
  refine ⟨as2, h2, en, rh2, re2, (OutR.bindO re2 o2).imp fun z H3 n => ?_⟩
  obtain ⟨dz, h3, as3, x3, rz, rh3, re3, o3⟩ := At.nxt re2 n
  unfold itmR at o3
  split at o3
  · split at o3
    · rename_i xs e1
      split at o3
      · rename_i j ej
        obtain ⟨q, rfl, eq⟩ := (rx.mono x3.toEx0).ref_inv
        obtain ⟨vs, hq, lq⟩ := rh3.lst eq e1
        cases rz
        refine ⟨q, vs, _, j, rfl, rfl, hq, by rw [lq.length]; exact ej, ?_⟩
        have x0 := ex0_put (as := as3) (u := .lst (vs.set j y)) hq rfl
        obtain ⟨x4, rh4⟩ := rh3.put (u := .lst (vs.set j y)) (o := .lst (xs.set j d)) eq ⟨_, upd_same, (lq.mono x0).set (((rv.mono x2.toEx0).mono x3.toEx0).mono x0) j⟩
        exact o3 σ _ as3 x4 (re3.mono x4.toEx0) rh4
      · exact o3.elim
    · exact o3.elim
  · exact o3.elim
end
end Mp

/-! Hy3: a dict that is written and asked at once; a text with parts put otherwise. -/
namespace Mp
open PySem L2 LamX PyProof.Rows
theorem RH.aside2 {G : Wd} {H : Hp} {as : List Addr} {h : DH} (rh : RH G H as h) {q : Addr} {u w : HO} (hq : H q = some w) (kw : ours w = true) (nq : q ∉ as) : RH G (upd H q u) as h := by
  have x0 := ex0_put (as := as) (u := u) hq kw
  refine ⟨rh.len, rh.nd, fun i a o e1 e2 => ?_, fun p hp => ?_⟩
  · have na : a ≠ q := fun z => nq (by rw [← z]; exact List.mem_of_getElem? e1)
    exact (rh.ob i a o e1 e2).mono x0 (by rw [upd_ne na])
  · have ne : ∀ b z, H b = some z → ours z = false → b ≠ q := fun b z eb kz e => by
      subst e; rw [hq] at eb; cases eb; rw [kw] at kz; cases kz
    obtain ⟨ps, h1, h2, h3⟩ := rh.tab p hp
    refine ⟨ps, by rw [upd_ne (ne _ _ h1 rfl)]; exact h1, h2, fun pos cv hc => ?_⟩
    obtain ⟨c, ec, hc2⟩ := h3 pos cv hc
    exact ⟨c, ec, by rw [upd_ne (ne _ _ hc2 rfl)]; exact hc2⟩
theorem Ext.aside2 {H0 H : Hp} {as0 as : List Addr} (x : Ext H0 as0 H as) {q : Addr} {u w : HO} (n0 : H0 q = none) (hq : H q = some w) (kw : ours w = true) : Ext H0 as0 (upd H q u) as := by
  have x0 := ex0_put (as := as) (u := u) hq kw
  have ne : ∀ b w, H0 b = some w → b ≠ q := fun b w e => ne_of_none e n0
  exact ⟨⟨x.pre, fun a xs e => x0.tup a xs (x.tup a xs e), fun a o w e => x0.frz a o w (x.frz a o w e)⟩, fun a o e n t => by rw [upd_ne (ne a o e)]; exact x.kp a o e n t, x.sub⟩
/-- a thing aside stays -/
theorem Ext.keep {H H1 : Hp} {as as1 : List Addr} (x : Ext H as H1 as1) {q : Addr} {u : HO} (hq : H q = some u) (nq : q ∉ as) (nt : ∀ ps, u ≠ .tbl ps) : H1 q = some u ∧ q ∉ as1 :=
  ⟨x.kp q u hq nq nt, fun z => (x.sub q z).elim nq fun w => by
    obtain ⟨ps, e⟩ := w u hq
    exact nt ps e⟩
def dKey (k : Tx) : Key := .inr ⟨k.toArray⟩
def dTrs (G : Wd) (W : WX) : List Tx → List M → List (TE × TE)
  | k :: ks, m :: ms => (tC (.str ⟨k.toArray⟩), tE G W m) :: dTrs G W ks ms
  | _, _ => []
def dPs (ks : List Tx) (vs : List V) : List (Key × V) := (ks.zip vs).map fun q => (dKey q.1, q.2)
section
variable {X : Cx} {G : Wd} {W : WX} {a b o : Expr} {ma mb mo : M} {pos p apos : Pos}
theorem pairs_of (σ : L2.St) : ∀ (ks : List Tx) (ms : List M) (H : Hp) (Q : List V → Hp → Prop), ks.length = ms.length → tL G W ms σ H Q → tPairs (dTrs G W ks ms) σ H fun ps H1 => ∃ vs, ps = (dPs ks vs).map (fun kv => (kV kv.1, kv.2)) ∧ vs.length = ks.length ∧ Q vs H1
  | [], [], H, Q, _, q => by
    obtain ⟨as, h, en, rh, re, ob⟩ := q
    exact ⟨[], rfl, rfl, ob [] H as (Ext.refl _ _) .nil rh⟩
  | k :: ks, m :: ms, H, Q, hl, q => by
    obtain ⟨as, h, en, rh, re, ob⟩ := q
    refine ⟨as, h, en, rh, re, (OutR.bind (rel := RV G.K) ob).imp fun x H1 n => ?_⟩
    obtain ⟨dx, h1, as1, x1, rx, rh1, re1, o1⟩ := At.nxt re n
    have z : tL G W ms σ H1 fun ys H2 => Q (x :: ys) H2 := by
      refine ⟨as1, h1, en, rh1, re1, (OutR.bind (rel := RL G.K) o1).imp fun ys H2 n => ?_⟩
      obtain ⟨ds, h2, as2, x2, rl, rh2, o2⟩ := n
      exact o2 (x :: ys) H2 as2 (Ext.refl _ _) (.cons (rx.mono x2.toEx0) rl) rh2
    have w := pairs_of σ ks ms H1 _ (by simpa using hl) z
    have imp : ∀ (trs : List (TE × TE)) (H : Hp) (P P' : List (V × V) → Hp → Prop), (∀ ps H, P ps H → P' ps H) → (∀ t ∈ trs, (∀ σ H Q Q', (∀ v H, Q v H → Q' v H) → t.1 σ H Q → t.1 σ H Q') ∧ (∀ σ H Q Q', (∀ v H, Q v H → Q' v H) → t.2 σ H Q → t.2 σ H Q')) → tPairs trs σ H P → tPairs trs σ H P' := by
      intro trs
      induction trs with
      | nil => exact fun H P P' k _ z => k _ _ z
      | cons t r ih =>
        intro H P P' k mo z
        exact (mo t List.mem_cons_self).1 _ _ _ _ (fun x H1 z => (mo t List.mem_cons_self).2 _ _ _ _ (fun y H2 z => ih H2 _ _ (fun ps H3 z => k _ _ z) (fun t ht => mo t (List.mem_cons_of_mem _ ht)) z) z) z
    refine imp _ _ _ _ (fun ps H2 w => ?_) ?_ w
    · obtain ⟨vs, e, l, q⟩ := w
      exact ⟨x :: vs, by rw [e]; rfl, by simp [l], q⟩
    · intro t ht
      have : ∀ (ks : List Tx) (ms : List M), t ∈ dTrs G W ks ms → ∃ k m, t = (tC (.str k), tE G W m) := by
        intro ks
        induction ks with
        | nil => intro ms ht; cases ht
        | cons k ks ih =>
          intro ms ht
          cases ms with
          | nil => cases ht
          | cons m ms =>
            rcases List.mem_cons.mp ht with rfl | ht
            · exact ⟨_, _, rfl⟩
            · exact ih ms ht
      obtain ⟨k, m, rfl⟩ := this ks ms ht
      refine ⟨fun σ H Q Q' k z => k _ _ z, fun σ H Q Q' k z => ?_⟩
      obtain ⟨as, h, en, rh, re, ob⟩ := z
      exact ⟨as, h, en, rh, re, OutR.imp ob k⟩
theorem look_merge (j : Key) : ∀ (more acc : List (Key × V)), valV (mergeK acc more) j = more.foldl (fun o kv => if j = kv.1 then some kv.2 else o) (valV acc j)
  | [], acc => rfl
  | kv :: r, acc => by
    show valV (mergeK (putK acc kv.1 kv.2) r) j = _
    rw [look_merge j r, valV_put]
    rfl
theorem dKey_inj {a b : Tx} : dKey a = dKey b ↔ a = b := by
  constructor
  · intro e
    have e := Sum.inr.inj e
    have e := congrArg (fun s : PySem.Str => s.cps.toList) e
    simpa using e
  · rintro rfl; rfl
theorem look_RV {H : Hp} {as : List Addr} (z : Tx) : ∀ (ks : List Tx) (vs : List V) (ds : List D) (ov : Option V) (od : Option D), RL G.K H as vs ds → (∀ d, od = some d → ∃ v, ov = some v ∧ RV G.K H as v d) → (od = none → ov = none) →
    (∀ d, (ks.zip ds).foldl (fun o q => if z = q.1 then some q.2 else o) od = some d → ∃ v, (dPs ks vs).foldl (fun o kv => if dKey z = kv.1 then some kv.2 else o) ov = some v ∧ RV G.K H as v d) ∧
    ((ks.zip ds).foldl (fun o q => if z = q.1 then some q.2 else o) od = none → (dPs ks vs).foldl (fun o kv => if dKey z = kv.1 then some kv.2 else o) ov = none)
  | [], vs, ds, ov, od, _, h1, h2 => ⟨h1, h2⟩
  | k :: ks, _, _, ov, od, .nil, h1, h2 => ⟨h1, h2⟩
  | k :: ks, _, _, ov, od, .cons (v := v) (d := d) r l, h1, h2 => by
    have ih := look_RV z ks _ _ (if dKey z = dKey k then some v else ov) (if z = k then some d else od) l
    by_cases e : z = k
    · have e2 : dKey z = dKey k := dKey_inj.mpr e
      rw [if_pos e, if_pos e2] at ih
      simp only [dPs, List.zip_cons_cons, List.map_cons, List.foldl_cons, e, if_true]
      simp only [dPs, e] at ih
      exact ih (fun d' q => by cases q; exact ⟨v, rfl, r⟩) fun q => nomatch q
    · have e2 : ¬ dKey z = dKey k := fun q => e (dKey_inj.mp q)
      rw [if_neg e, if_neg e2] at ih
      simp only [dPs, List.zip_cons_cons, List.map_cons, List.foldl_cons, e, e2, if_false]
      exact ih h1 h2
/-- the dict is made -/
theorem disp_of {ks : List Tx} {ms : List M} {σ : L2.St} {H : Hp} {Q : VK} (hl : ks.length = ms.length) (h15 : ks.length ≤ 15)
    (z : At G σ H fun e h as => OutL (evL ms e h) G H as (fun _ _ => True) (fun c d H' => W c d σ H') ∧ ∀ (ds : List D) (h1 : DH), evL ms e h = .ok ds h1 → ∀ (q : Addr) (vs : List V) (H1 : Hp) (as1 : List Addr), Ext H as H1 as1 → q ∉ as1 → H1 q = some (.dK (mergeK [] (dPs ks vs))) → RL G.K H1 as1 vs ds → RH G H1 as1 h1 → Q (.ref q) H1) :
    tDisp (dTrs G W ks ms) σ H Q := by
  intro q nq
  obtain ⟨as, h, en, rh, re, ob, kk⟩ := z
  obtain ⟨x0, rh0⟩ := rh.laid (u := .dK []) nq
  have nas := rh.new nq
  have imp : tL G W ms σ (upd H q (.dK [])) fun vs H2 => ∃ (ds : List D) (h2 : DH) (as2 : List Addr), evL ms en h = .ok ds h2 ∧ Ext (upd H q (.dK [])) as H2 as2 ∧ RL G.K H2 as2 vs ds ∧ RH G H2 as2 h2 := by
    refine ⟨as, h, en, rh0, re.mono x0.toEx0, ?_⟩
    dsimp only
    cases qe : evL ms en h with
    | ok ds h2 => exact fun vs H2 as2 x2 rl rh2 => ⟨ds, h2, as2, rfl, x2, rl, rh2⟩
    | exc c w h2 =>
      rw [qe] at ob
      exact OutR.mono ob x0
    | err => rw [qe] at ob; exact ob
  have w := pairs_of σ ks ms _ _ hl imp
  have mono : ∀ (ks : List Tx) (ms : List M) (H : Hp) (P P' : List (V × V) → Hp → Prop), (∀ ps H, P ps H → P' ps H) → tPairs (dTrs G W ks ms) σ H P → tPairs (dTrs G W ks ms) σ H P' := by
    intro ks
    induction ks with
    | nil => exact fun ms H P P' k z => k _ _ z
    | cons k ks ih =>
      intro ms H P P' kp z
      cases ms with
      | nil => exact kp _ _ z
      | cons m ms =>
        obtain ⟨as, h, en, rh, re, ob⟩ := z
        exact ⟨as, h, en, rh, re, OutR.imp ob fun y H2 z => ih ms H2 _ _ (fun ps H3 z => kp _ _ z) z⟩
  refine mono ks ms _ _ _ (fun ps H2 w => ?_) w
  obtain ⟨vs, e, l, ds, h2, as2, ev, x2, rl, rh2⟩ := w
  obtain ⟨hq2, nq2⟩ := x2.keep (u := .dK []) upd_same nas fun _ z => nomatch z
  refine ⟨hq2, dPs ks vs, e, ?_, ?_⟩
  · unfold dPs
    rw [List.length_map, List.length_zip]
    omega
  · have x3 : Ext H as (upd H2 q (.dK (mergeK [] (dPs ks vs)))) as2 := (x0.trans x2).aside2 nq hq2 rfl
    exact kk ds h2 ev q vs _ as2 x3 nq2 upd_same (rl.mono (ex0_put hq2 rfl)) (rh2.aside2 hq2 rfl nq2)
theorem OutR.any {α χ : Type} {rel : Hp → List Addr → χ → α → Prop} {r : Rs α} {H : Hp} {as : List Addr} {β ψ : Type} {rel2 : Hp → List Addr → ψ → β → Prop} {f : α → DH → Rs β} {Q : ψ → Hp → Prop} {E : XK} (o : OutR rel2 (r.bind f) G H as Q E) : OutR rel r G H as (fun _ _ => True) E := by
  cases r with
  | ok d h => exact fun _ _ _ _ _ _ => trivial
  | exc c w h => exact o
  | err => exact o
theorem tE_dlg {ks : List Tx} {ms : List M} {keys : List (Option Expr)} {vals : List Expr} (hu : X.A.units + 1 < cLine) (hl : ks.length = ms.length) (pp : PPs X p keys vals (dTrs G W ks ms)) (hall : keys.all (·.isSome) = true) (hl2 : keys.length = vals.length) (h0 : keys ≠ []) (h15 : keys.length ≤ 15) (hk : ks.length ≤ 15)
    (pa : PE X a (tE G W ma)) (pb : PE X b (tE G W mb)) (m : M2 X (.Dict keys vals p) "get" apos a b pos) : PE X (.Call (.Attribute (.Dict keys vals p) "get" apos) [a, b] [] pos) (tE G W (mDlG ks ms ma mb)) := by
  refine PE.imp (pe_dget2 hu (pe_disp pp hall hl2 h0 h15) pa pb m) fun σ H Q z => ?_
  obtain ⟨as, h, en, rh, re, ob⟩ := z
  refine disp_of hl hk ⟨as, h, en, rh, re, OutR.any (rel := RL G.K) ob, fun ds h1 ev q vs H1 as1 x1 nq hq rl rh1 => ?_⟩
  have ob : OutE ((evL ms en h).bind fun ds h1 => (ma en h1).bind fun x h2 => (mb en h2).bind fun d h3 => dlgR ks ds x d h3) G H as Q _ := ob
  rw [ev, bind_ok] at ob
  have o1 := ob.mono x1
  have re1 := re.mono x1.toEx0
  refine ⟨q, rfl, .inl ⟨_, .inl hq⟩, as1, h1, en, rh1, re1, (OutR.bind o1).imp fun x H2 n => ?_⟩
  obtain ⟨dx, h2, as2, x2, rx, rh2, re2, o2⟩ := At.nxt re1 n
  obtain ⟨hq2, nq2⟩ := x2.keep hq nq fun _ z => nomatch z
  refine ⟨as2, h2, en, rh2, re2, (OutR.bind o2).imp fun y H3 n => ?_⟩
  obtain ⟨dd, h3, as3, x3, ry, rh3, re3, o3⟩ := At.nxt re2 n
  obtain ⟨hq3, nq3⟩ := x3.keep hq2 nq2 fun _ z => nomatch z
  unfold dlgR at o3
  split at o3
  · rename_i zt
    have rx3 := rx.mono x3.toEx0
    cases rx3
    refine ⟨_, DGet.k (k := dKey zt) hq3, ?_⟩
    rw [look_merge]
    have lk := look_RV (G := G) zt ks vs ds none none ((rl.mono x2.toEx0).mono x3.toEx0) (fun _ z => nomatch z) fun _ => rfl
    cases qd : dLook (ks.zip ds) zt with
    | some d =>
      obtain ⟨v, ev2, rv⟩ := lk.1 d qd
      rw [qd] at o3
      have ev3 : (dPs ks vs).foldl (fun o kv => if dKey zt = kv.1 then some kv.2 else o) (valV [] (dKey zt)) = some v := ev2
      rw [ev3]
      exact o3 v H3 as3 (Ext.refl _ _) rv rh3
    | none =>
      rw [qd] at o3
      have ev3 : (dPs ks vs).foldl (fun o kv => if dKey zt = kv.1 then some kv.2 else o) (valV [] (dKey zt)) = none := lk.2 qd
      rw [ev3]
      exact o3 y H3 as3 (Ext.refl _ _) ry rh3
  · exact o3.elim
theorem tE_dli {ks : List Tx} {ms : List M} {keys : List (Option Expr)} {vals : List Expr} (hu : X.A.units + 1 < cLine) (hl : ks.length = ms.length) (pp : PPs X p keys vals (dTrs G W ks ms)) (hall : keys.all (·.isSome) = true) (hl2 : keys.length = vals.length) (h0 : keys ≠ []) (h15 : keys.length ≤ 15) (hk : ks.length ≤ 15)
    (pa : PE X a (tE G W ma)) (hs : NoSl a) : PE X (.Subscript (.Dict keys vals p) a pos) (tE G W (mDlI ks ms ma)) := by
  refine PE.imp (pe_dget hu (pe_disp pp hall hl2 h0 h15) pa hs) fun σ H Q z => ?_
  obtain ⟨as, h, en, rh, re, ob⟩ := z
  refine disp_of hl hk ⟨as, h, en, rh, re, OutR.any (rel := RL G.K) ob, fun ds h1 ev q vs H1 as1 x1 nq hq rl rh1 => ?_⟩
  have ob : OutE ((evL ms en h).bind fun ds h1 => (ma en h1).bind fun x h2 => dliR ks ds x h2) G H as Q _ := ob
  rw [ev, bind_ok] at ob
  have o1 := ob.mono x1
  have re1 := re.mono x1.toEx0
  refine ⟨as1, h1, en, rh1, re1, (OutR.bind o1).imp fun x H2 n => ?_⟩
  obtain ⟨dx, h2, as2, x2, rx, rh2, re2, o2⟩ := At.nxt re1 n
  obtain ⟨hq2, nq2⟩ := x2.keep hq nq fun _ z => nomatch z
  unfold dliR at o2
  split at o2
  · rename_i zt
    cases rx
    have lk := look_RV (G := G) zt ks vs ds none none (rl.mono x2.toEx0) (fun _ z => nomatch z) fun _ => rfl
    cases qd : dLook (ks.zip ds) zt with
    | some d =>
      obtain ⟨v, ev2, rv⟩ := lk.1 d qd
      rw [qd] at o2
      refine ⟨q, v, rfl, ?_, o2 v H2 as2 (Ext.refl _ _) rv rh2⟩
      have g := DGet.k (k := dKey zt) hq2
      rw [look_merge] at g
      have ev3 : (dPs ks vs).foldl (fun o kv => if dKey zt = kv.1 then some kv.2 else o) (valV [] (dKey zt)) = some v := ev2
      rw [ev3] at g
      exact g
    | none =>
      rw [qd] at o2
      exact o2.elim
  · exact o2.elim
/-! ### c + o.replace(y, z) -/
theorem tE_repl {c y z : Str} {j j1 j2 : Nat} {p0 p1 p2 : Pos} (po : PE X o (tE G W mo)) (hyz : (y == z) = false) (ho : plainO o = true) (hline : (apos.endLine == pos.line) = true) :
    PE X (.BinOp (.Constant (.str c) j p0) .Add (.Call (.Attribute o "replace" apos) [.Constant (.str y) j1 p1, .Constant (.str z) j2 p2] [] pos) p) (tE G W (mRepl c.cps.toList y.cps.toList z.cps.toList mo)) := by
  refine ⟨fun pins s σ H Q I q => ?_⟩
  obtain ⟨as, h, en, rh, re, ob⟩ := q
  refine wpAny_BinOp (Calls.Constant_str ?_)
  have pr := CwR.pet_replC (X := X) (o := o) (to := tE G W mo) (y := y) (z := z) (j := j1) (k := j2) (c0 := p1) (c1 := p2) (apos := apos) (pos := pos) po hyz rfl (attr_base ho) hline
  refine thn (pr pins { s with toks := s.toks + 1 } σ H (fun v H1 => ∃ x, v = .str (Txt.replace x y z) ∧ c.length + (Txt.replace x y z).length ≤ sizeLine ∧ Q (.str (c ++ Txt.replace x y z)) H1) (by show 1 ≤ s.toks + 1; omega) (I.tok _) ?_) fun u s2 hu => ?_
  · refine ⟨as, h, en, rh, re, (OutR.bind ob).imp fun v H1 n => ?_⟩
    obtain ⟨d, h1, as1, x1, rv, rh1, re1, o1⟩ := At.nxt re n
    unfold replR at o1
    split at o1
    · split at o1
      · rename_i x hl
        cases rv
        have ez : (⟨z.cps.toList.toArray⟩ : PySem.Str) = z := by simp
        have ey : (⟨y.cps.toList.toArray⟩ : PySem.Str) = y := by simp
        have er : (Txt.replace ⟨x.toArray⟩ y z).cps.toList = repT x y.cps.toList z.cps.toList := by unfold repT; rw [ey, ez]
        have e1 : (Txt.replace ⟨x.toArray⟩ y z).length = (repT x y.cps.toList z.cps.toList).length := by rw [← er]; simp [Str.length]
        have e2 : z.length = z.cps.toList.length := by simp [Str.length]
        have e3 : c.length = c.cps.toList.length := by simp [Str.length]
        refine ⟨⟨x.toArray⟩, rfl, by rw [s_len, e2]; exact hl.1, ⟨x.toArray⟩, rfl, by rw [e1, e3]; exact hl.2, ?_⟩
        have e4 : c ++ Txt.replace ⟨x.toArray⟩ y z = ⟨(c.cps.toList ++ repT x y.cps.toList z.cps.toList).toArray⟩ := by
          apply TL.ext_tl
          rw [TL.tl_append]
          show c.cps.toList ++ (Txt.replace ⟨x.toArray⟩ y z).cps.toList = _
          rw [er]
        rw [e4]
        exact o1 _ _ _ (Ext.refl _ _) (.str _) rh1
      · exact o1.elim
    · exact o1.elim
  · obtain ⟨v, H1, I1, rv, x, ev, hl, q⟩ := hu
    subst ev
    exact op_add_str pins s2 σ H1 (.str c) (.str (Txt.replace x y z)) _ u Q I1 ⟨_, rfl⟩ rv ⟨_, _, rfl, rfl, hl, q⟩
end
end Mp

/-! Mp14: the translator of expressions, and that it is right. -/
namespace Mp
open PySem L2 LamX PyProof.Rows
noncomputable section
structure Gam where
  N : List Str
  cst : List (Str × D)
  fns : List (Str × Nat)
  cls : List (Str × Nat × Nat)
  fld : List (Str × Nat)
  mes : List (Str × List (Nat × Nat))
  exs : List (Str × Nat)
  fo : List (Nat × Nat)
  fre : List Str
  told : Str
  bas : Str
  wrd : Str
  tld : List (Nat × Nat)
  exw : List (Str × Nat)
  kdc : List (Str × List (Tx × D))
  cl : CL
def ixS : List Str → Str → Option Nat
  | [], _ => none
  | y :: r, x => if y = x then some 0 else (ixS r x).map (· + 1)
theorem ixS_ok : ∀ {N : List Str} {x : Str} {i : Nat}, ixS N x = some i → N[i]? = some x
  | [], _, _, h => by cases h
  | y :: r, x, i, h => by
    unfold ixS at h
    split at h
    · rename_i e
      cases h
      rw [e] <;> rfl
    · simp only [Option.map_eq_some_iff] at h
      obtain ⟨j, h, rfl⟩ := h
      have := ixS_ok h
      show r[j]? = some x
      exact this
def okN (x : Str) : Bool := !(x == ("__debug__" : Str)) && !(x == ("__classdict__" : Str))
theorem okN_1 {x : Str} (h : okN x = true) : (x == ("__debug__" : Str)) = false := by
  unfold okN at h
  rw [Bool.and_eq_true, Bool.not_eq_true', Bool.not_eq_true'] at h
  exact h.1
theorem okN_2 {x : Str} (h : okN x = true) : (x == ("__classdict__" : Str)) = false := by
  unfold okN at h
  rw [Bool.and_eq_true, Bool.not_eq_true', Bool.not_eq_true'] at h
  exact h.2
def isGl (sc : Scope) (x : Str) : Bool := decide (sc.names.lookup x = some .globalImplicit)
def isVis (sc : Scope) (x : Str) : Bool := decide (sc.names.lookup x = some .local) || (decide (sc.names.lookup x = some .cell) || decide (sc.names.lookup x = some .free))
def trL (f : Expr → Option M) : List Expr → Option (List M)
  | [] => some []
  | e :: es => (f e).bind fun m => (trL f es).bind fun ms => some (m :: ms)
def trBo (op : M → M → M) (f : Expr → Option M) : List Expr → Option M
  | [] => none
  | [e] => f e
  | e :: es => (f e).bind fun m => (trBo op f es).bind fun r => some (op m r)
def biOf (x : Str) : Option BI :=
  if x = "len" then some .len else if x = "ord" then some .ord else if x = "int" then some .int else if x = "str" then some .str else if x = "min" then some .min else if x = "max" then some .max else if x = "all" then some .all else if x = "any" then some .any else if x = "tuple" then some .tup else none
theorem biOf_ok {x : Str} {b : BI} (h : biOf x = some b) : x = biNm b := by
  unfold biOf at h
  repeat' split at h
  all_goals first | (cases h; assumption) | cases h
def bmOf (x : Str) : Option BM :=
  if x = "join" then some .join else if x = "split" then some .split else if x = "find" then some .find else if x = "append" then some .append else none
theorem bmOf_ok {x : Str} {b : BM} (h : bmOf x = some b) : x = bmNm b := by
  unfold bmOf at h
  repeat' split at h
  all_goals first | (cases h; assumption) | cases h
def itOfN (x : Str) : Option IT :=
  if x = "int" then some .int else if x = "bool" then some .bool else if x = "str" then some .str else if x = "list" then some .list else if x = "tuple" then some .tuple else none
theorem itOfN_ok {x : Str} {b : IT} (h : itOfN x = some b) : x = itNm b := by
  unfold itOfN at h
  repeat' split at h
  all_goals first | (cases h; assumption) | cases h
def names1 : List Expr → Option (List Str)
  | [] => some []
  | .Name x _ :: r => (names1 r).map fun l => x :: l
  | _ :: _ => none
/-- a target's places -/
inductive Tgt where
  | one (i : Nat) | tup (is : List Nat)
def Tgt.st : Tgt → D → En → Option En
  | .one i => stName i
  | .tup is => stTup is
def Tgt.is : Tgt → List Nat
  | .one i => [i]
  | .tup is => is
def ixsS (N : List Str) : List Str → Option (List Nat)
  | [] => some []
  | x :: r => (ixS N x).bind fun i => (ixsS N r).map fun l => i :: l
def isLoc (sc : Scope) (x : Str) : Bool := decide (sc.names.lookup x = some .local)
def isCel (sc : Scope) (x : Str) : Bool := decide (sc.names.lookup x = some .cell)
/-- x may be stored: sc is the scope, own the block's own -/
def stOk (sc own : Scope) (x : Str) : Bool := isLoc sc x || (isCel sc x && isCel own x)
def trT (N : List Str) (sc own : Scope) : Expr → Option Tgt
  | .Name x _ => if stOk sc own x then (ixS N x).map .one else none
  | .Tuple ts _ _ => (names1 ts).bind fun xs => if xs.all (stOk sc own) then (ixsS N xs).map .tup else none
  | _ => none
def tgNames : Expr → List Str
  | .Name x _ => [x]
  | .Tuple ts _ _ => (names1 ts).getD []
  | _ => []
/-- the call of a module's name -/
def trCallN (Γ : Gam) (lo : Nat) (f f0 : Scope → Expr → Option M) (sc : Scope) (x : Str) (args : List Expr) : Option M :=
  if isGl sc x && okN x && args.all noStar then
    match args with
    | [.Lambda params body scope _] =>
      if decide (lo = 2) && decide (x = Γ.told) && lamSB sc scope && params.posonlyargs.isEmpty && params.args.isEmpty && params.vararg.isNone && params.kwonlyargs.isEmpty && params.kw_defaults.isEmpty && params.kwarg.isNone && params.defaults.isEmpty then (f0 scope body).map (mTold fun c => Γ.tld.lookup c) else none
    | args => match Γ.fns.lookup x with
      | some g => (trL (f sc) args).map fun ms => mCall Γ.cl g ms
      | none => match Γ.cls.lookup x with
        | some (c, g) => if lo = 0 then none else (trL (f sc) args).map fun ms => mMake Γ.cl c g ms
        | none => match biOf x with
          | some b => if args.isEmpty || !decide (x ∈ Γ.fre) then none else (trL (f sc) args).map fun ms => mBi b ms
          | none => if x = "isinstance" then match args with
            | [a, .Name y _] => if isGl sc y && decide (x ∈ Γ.fre) && decide (y ∈ Γ.fre) then (itOfN y).bind fun t => (f sc a).map fun m => mIsi m t else none
            | _ => none
            else none
  else none
def meOf (l : List (Nat × Nat)) (c : Nat) : Option Nat := l.lookup c
/-- o.m(..) -/
def trMeth (Γ : Gam) (f : Scope → Expr → Option M) (sc : Scope) (o : Expr) (m : Str) (apos pos : Pos) (args : List Expr) : Option M :=
  if plainO o && args.all noStar && decide (args.length < 30) && (apos.endLine == pos.line) then
    (f sc o).bind fun mo => (trL (f sc) args).bind fun ms => match Γ.mes.lookup m with
      | some (q :: l) => some (mMeth Γ.cl (meOf (q :: l)) mo ms)
      | some [] => none
      | none => if args.isEmpty then none else (bmOf m).map fun b => mBm b mo ms
  else none
def isTupT : Expr → Bool
  | .Tuple _ _ _ => true
  | _ => false
def trIt (Γ : Gam) (f : Scope → Expr → Option M) (sc : Scope) (tg e : Expr) : Option MI := match e with
  | .Call (.Name x _) [a] [] _ => if x = "range" then (if isGl sc x && noStar a && decide (x ∈ Γ.fre) then (f sc a).map miR1 else none) else if x = "enumerate" then (if isTupT tg && (isGl sc x && noStar a && decide (x ∈ Γ.fre)) then (f sc a).map miEn else none) else (f sc e).map miE
  | .Set _ _ _ => none
  | e => (f sc e).map miE
def optE (f : Expr → Option M) : Option Expr → Option (Option M)
  | none => some none
  | some e => (f e).map some
def mTrue : M := mLit (.bl true)
def trComp (Γ : Gam) (f : Scope → Expr → Option M) (sc : Scope) (elt : Expr) (g : Comprehension) (scope : Scope) : Option M :=
  match g with
  | ⟨tg, iter, ifs, a⟩ => if a = 0 then
      (trIt Γ f sc tg iter).bind fun mi => (trT Γ.N (relS scope sc) scope tg).bind fun t => (ixsS Γ.N (tgNames tg)).bind fun own =>
        if blkC Γ.N sc scope ((tgNames tg).zip own) && t.is.all (fun i => decide (i ∈ own)) then
          (f (relS scope sc) elt).bind fun me => match ifs with
            | [] => some (mComp mi own t.st mTrue me)
            | [c] => (f (relS scope sc) c).map fun mc => mComp mi own t.st mc me
            | _ => none
        else none
    else none
/-- the name of a module's dict -/
def kdB (Γ : Gam) (sc : Scope) : Expr → Option (List (Tx × D))
  | .Name x _ => if isGl sc x && okN x then Γ.kdc.lookup x else none
  | _ => none
theorem kdB_ok {Γ : Gam} {sc : Scope} {b : Expr} {kvs : List (Tx × D)} (h : kdB Γ sc b = some kvs) : ∃ x p, b = .Name x p ∧ isGl sc x = true ∧ okN x = true ∧ Γ.kdc.lookup x = some kvs := by
  cases b with
  | Name x p =>
    have h : (if isGl sc x && okN x then Γ.kdc.lookup x else none) = some kvs := h
    cases q : isGl sc x && okN x with
    | false => rw [q] at h; cases h
    | true =>
      rw [q] at h
      rw [Bool.and_eq_true] at q
      exact ⟨x, p, rfl, q.1, q.2, h⟩
  | _ => cases h
/-- the keys of a dict that is written -/
def keysT : List (Option Expr) → Option (List Tx)
  | [] => some []
  | some (.Constant (.str k) _ _) :: r => (keysT r).map fun l => k.cps.toList :: l
  | _ :: _ => none
def dictB : Expr → Option (List Tx × List Expr)
  | .Dict keys vals _ => (keysT keys).bind fun ks => if decide (ks.length = vals.length) && decide (ks.length ≤ 15) && !ks.isEmpty then some (ks, vals) else none
  | _ => none
/-- c + o.replace(y, z) -/
def replB : Expr → Operator → Expr → Option (Str × Str × Str × Expr)
  | .Constant (.str c) _ _, .Add, .Call (.Attribute o m apos) [.Constant (.str y) _ _, .Constant (.str z) _ _] [] pos => if decide (m = "replace") && !(y == z) && plainO o && (apos.endLine == pos.line) then some (c, y, z, o) else none
  | _, _, _ => none
def trDlG (f : Expr → Option M) (m : Str) (apos pos : Pos) (ks : List Tx) (vs : List Expr) : List Expr → Option M
  | [a, b] => if decide (m = "get") && noStar a && noStar b && (apos.endLine == pos.line) then (trL f vs).bind fun ms => (f a).bind fun x => (f b).map fun y => mDlG ks ms x y else none
  | _ => none
def stepE (Γ : Gam) (lo : Nat) (f f0 : Scope → Expr → Option M) (sc : Scope) : Expr → Option M
  | .Constant c _ _ => match c with
    | .int i => some (mLit (.int i))
    | .str s => some (mLit (.str s.cps.toList))
    | .bool b => some (mLit (.bl b))
    | .none => some (mLit .non)
    | _ => none
  | .Name x _ => if okN x then (if isVis sc x then (ixS Γ.N x).map mVar else if isGl sc x then (Γ.cst.lookup x).map mLit else none) else none
  | .BinOp a op b _ => match replB a op b with
    | some (c, y, z, o) => (f sc o).map (mRepl c.cps.toList y.cps.toList z.cps.toList)
    | none => (f sc a).bind fun x => (f sc b).bind fun y => match op with
      | .Add => some (mBin .Add x y)
      | .Sub => some (mBin .Sub x y)
      | .Mult => some (mBin .Mult x y)
      | .Mod => some (mBin .Mod x y)
      | .FloorDiv => some (mBin .FloorDiv x y)
      | .Pow => some (mBin .Pow x y)
      | _ => none
  | .UnaryOp op a _ => (f sc a).bind fun x => match op with
    | .Not => some (mNot x)
    | .USub => some (mNeg x)
    | _ => none
  | .BoolOp op es _ => match op with
    | .And => trBo mAnd (f sc) es
    | .Or => trBo mOr (f sc) es
  | .Compare a [op] [b] _ => match kdB Γ sc b with
    | some kvs => (f sc a).bind fun x => match op with
      | .In => some (mKIn kvs x)
      | .NotIn => some (mKNi kvs x)
      | _ => none
    | none => if behindInMarks op b then none else (f sc a).bind fun x => (f sc b).bind fun y => some (mCmp op x y)
  | .Compare a [op, op'] [b, c] _ => if lastMarks [op, op'] [b, c] then none else (f sc a).bind fun x => (f sc b).bind fun y => (f sc c).bind fun z => some (mChain op op' x y z)
  | .IfExp c a b _ => (f sc c).bind fun x => (f sc a).bind fun y => (f sc b).bind fun z => some (mIf x y z)
  | .Tuple es _ _ => if es.all noStar then (trL (f sc) es).map mTup else none
  | .List es _ => if es.all noStar then (trL (f sc) es).map mLst else none
  | .Subscript a (.Slice lo hi none _) _ => (f sc a).bind fun x => (optE (f sc) lo).bind fun l => (optE (f sc) hi).bind fun u => some (mSlc x l u)
  | .Subscript a (.Slice _ _ (some _) _) _ => none
  | .Subscript a b _ => match dictB a with
    | some (ks, vs) => (trL (f sc) vs).bind fun ms => (f sc b).map fun y => mDlI ks ms y
    | none => match kdB Γ sc a with
      | some kvs => (f sc b).map fun y => mKIdx kvs y
      | none => (f sc a).bind fun x => (f sc b).bind fun y => some (mIdx x y)
  | .Attribute o x _ => if plainO o then (f sc o).bind fun m => (Γ.fld.lookup x).map fun i => mAttr m i else none
  | .Call (.Name x _) args [] _ => trCallN Γ lo f f0 sc x args
  | .Call (.Attribute o m apos) args [] pos => match dictB o with
    | some (ks, vs) => trDlG (f sc) m apos pos ks vs args
    | none => trMeth Γ f sc o m apos pos args
  | .ListComp elt [g] scope _ => trComp Γ f sc elt g scope
  | _ => none
def trE (Γ : Gam) (lo : Nat) : Nat → Scope → Expr → Option M
  | 0, _, _ => none
  | n + 1, sc, e => stepE Γ lo (trE Γ lo n) (trE Γ 1 n) sc e
end
end Mp

/-! Mp15: the translator of expressions is right. -/
namespace Mp
open PySem L2 LamX PyProof.Rows
/-- the module's facts -/
structure Fx (P : Program) (w : World) (K : PySem.W.Frag) (mg : Str → Option Value) (base : Heap) (Γ : Gam) (G : Wd) (k : Nat) : Prop where
  hK : K = G.K
  inj : ∀ f g, G.fnm f = G.fnm g → f = g
  cst : ∀ x d, Γ.cst.lookup x = some d → ∃ u v, mg x = some u ∧ RelV v u ∧ ∀ H as, RV G.K H as v d
  fns : ∀ x g, Γ.fns.lookup x = some g → ∃ fa fd ps, mg x = some (.ref fa) ∧ PySem.W.keepIn K (.ref fa) = true ∧ L2.Binds K fd ps [] ∧ FnOk P w K mg base (L2N.CX P w) (k + 2) fa fd ps (spD G (Γ.cl g))
  cls : ∀ x c g, Γ.cls.lookup x = some (c, g) → ∃ fa fd ps, mg x = some (.ref (G.cls c)) ∧ Mk K (G.cls c) fa ∧ Cls K (G.cls c) ∧ L2.Binds K fd ps [] ∧ FnOk P w K mg base (L2N.CX P w) (k + 2) fa fd ps (spD G (Γ.cl g))
  fld : ∀ x i, Γ.fld.lookup x = some i → G.fnm i = x
  mes : ∀ m l c g, Γ.mes.lookup m = some l → l.lookup c = some g → ∃ fa fd ps, Cls K (G.cls c) ∧ Meth K (G.cls c) m fa ∧ FnOk P w K mg base (L2N.CX P w) (k + 2) fa fd ps (spD G (Γ.cl g)) ∧ L2.Binds K fd ps []
  fre : ∀ x ∈ Γ.fre, mg x = none
  exs : ∀ x c, Γ.exs.lookup x = some c → mg x = some (.ref (G.cls c)) ∧ PySem.W.excIn K (G.cls c) He.veBase "ValueError.__new__" = true ∧ PySem.W.keepIn K (.ref (G.cls c)) = true ∧ PySem.W.subIn K (.ref (G.cls c)) (.type "BaseException") = some true ∧ PySem.W.typeIn K (.ref (G.cls c)) = some (.type "type")
  fo : ∀ q ∈ Γ.fo, NoAttr G.K (G.cls q.1) (G.fnm q.2)
  tld : ∀ c j, Γ.tld.lookup c = some j → ToldC K mg Γ.bas (G.cls c) j
  exw : ∀ x c, Γ.exw.lookup x = some c → ExW K mg x (G.cls c)
  kdc : ∀ x kvs, Γ.kdc.lookup x = some kvs → ∃ a, mg x = some (.ref a) ∧ KDc K w a kvs
/-- where a lambda may be made -/
def LamF (X : Cx) (Γ : Gam) (G : Wd) (k : Nat) : Prop := ∃ c P, TabB X.base X.mg c P ∧ X.env.code = .ref c ∧ (P, X.env.qual ++ "<lambda>") ∈ G.T ∧ (∀ q ∈ G.T, q.1 = P → q.2 = X.env.qual ++ "<lambda>") ∧ ToldF X.K X.mg Γ.told Γ.bas Γ.wrd ∧ Room (k + 5) X.A
structure CxO (Γ : Gam) (G : Wd) (k : Nat) (lo : Nat) (X : Cx) (W : WX) (sc : Scope) : Prop where
  fx : Fx X.prog X.w X.K X.mg X.base Γ G k
  N : X.N = Γ.N
  nd : Γ.N.Nodup
  sc : X.env.scope = sc
  calm : X.calm = true
  tk : L2N.Takes X W
  room : Room (k + 2) X.A
  mkr : lo ≠ 0 → Room (k + 3) X.A
  lam : lo = 2 → LamF X Γ G k
def Good (Γ : Gam) (G : Wd) (k : Nat) (lo : Nat) (sc : Scope) (e : Expr) (m : M) : Prop := ∀ X W, CxO Γ G k lo X W sc → PE X e (tE G W m) ∧ PT X e (tT G W m)
section
variable {Γ : Gam} {G : Wd} {k : Nat} {lo : Nat} {sc : Scope} {X : Cx} {W : WX}
theorem CxO.gl (c : CxO Γ G k lo X W sc) {x : Str} (h : isGl sc x = true) : Gl X x := by
  have := of_decide_eq_true h
  rw [← c.sc] at this
  exact this
theorem CxO.vis (c : CxO Γ G k lo X W sc) {x : Str} (h : isVis sc x = true) : Vis X.env.scope x := by
  unfold isVis at h
  rw [Bool.or_eq_true, Bool.or_eq_true, decide_eq_true_eq, decide_eq_true_eq, decide_eq_true_eq] at h
  rw [c.sc]
  exact h
/-- a plain test -/
theorem good_of {e : Expr} {m : M} (h : ∀ X W, CxO Γ G k lo X W sc → PE X e (tE G W m)) (ht : ∀ env wh, isTrue e env wh = (do let v ← wh; standAt e.pos; holding [v] (truthy v))) : Good Γ G k lo sc e m := fun X W c => ⟨h X W c, tT_of (h X W c) (ht _)⟩
theorem args_ok {f : Expr → Option M} (ih : ∀ e m, f e = some m → Good Γ G k lo sc e m) (c : CxO Γ G k lo X W sc) : ∀ {es : List Expr} {ms : List M}, es.all noStar = true → trL f es = some ms → PA X es (tL G W ms)
  | [], ms, _, h => by
    cases h
    exact tL_nil
  | e :: es, ms, hs, h => by
    rw [List.all_cons, Bool.and_eq_true] at hs
    simp only [trL, Option.bind_eq_some_iff] at h
    obtain ⟨m, h1, ms', h2, h3⟩ := h
    cases h3
    exact tL_cons (ih e m h1 X W c).1 (args_ok ih c hs.2 h2) (star1 hs.1)
theorem replB_ok {a b : Expr} {op : Operator} {c y z : Str} {o : Expr} (h : replB a op b = some (c, y, z, o)) : ∃ j p0 j1 p1 j2 p2 apos pos, a = .Constant (.str c) j p0 ∧ op = .Add ∧ b = .Call (.Attribute o "replace" apos) [.Constant (.str y) j1 p1, .Constant (.str z) j2 p2] [] pos ∧ (y == z) = false ∧ plainO o = true ∧ (apos.endLine == pos.line) = true := by
  unfold replB at h
  split at h
  · split at h
    · rename_i hq
      simp only [Bool.and_eq_true, decide_eq_true_eq, Bool.not_eq_true'] at hq
      obtain ⟨⟨⟨rfl, e1⟩, e2⟩, e3⟩ := hq
      cases h
      exact ⟨_, _, _, _, _, _, _, _, rfl, rfl, rfl, e1, e2, e3⟩
    · cases h
  · cases h
theorem dictB_ok {e : Expr} {ks : List Tx} {vs : List Expr} (h : dictB e = some (ks, vs)) : ∃ keys p, e = .Dict keys vs p ∧ keysT keys = some ks ∧ ks.length = vs.length ∧ ks.length ≤ 15 ∧ ks ≠ [] := by
  cases e with
  | Dict keys vals p =>
    simp only [dictB, Option.bind_eq_some_iff] at h
    obtain ⟨ks', hk, h⟩ := h
    split at h
    · rename_i hq
      simp only [Bool.and_eq_true, decide_eq_true_eq] at hq
      cases h
      refine ⟨keys, p, rfl, hk, hq.1.1, hq.1.2, fun z => ?_⟩
      rw [z] at hq
      exact absurd hq.2 (by decide)
    · cases h
  | _ => cases h
theorem keysT_ok : ∀ {keys : List (Option Expr)} {ks : List Tx}, keysT keys = some ks → keys.all (·.isSome) = true ∧ keys.length = ks.length
  | [], ks, h => by cases h; exact ⟨rfl, rfl⟩
  | none :: r, ks, h => by cases h
  | some e :: r, ks, h => by
    cases e with
    | Constant c j p =>
      cases c with
      | str k =>
        simp only [keysT, Option.map_eq_some_iff] at h
        obtain ⟨l, h, rfl⟩ := h
        obtain ⟨h1, h2⟩ := keysT_ok h
        exact ⟨by rw [List.all_cons, h1]; rfl, by simp [h2]⟩
      | _ => cases h
    | _ => cases h
theorem pps_of {f : Expr → Option M} (ih : ∀ e m, f e = some m → Good Γ G k lo sc e m) (c : CxO Γ G k lo X W sc) {pos : Pos} : ∀ {keys : List (Option Expr)} {vals : List Expr} {ks : List Tx} {ms : List M}, keysT keys = some ks → ks.length = vals.length → trL f vals = some ms → PPs X pos keys vals (dTrs G W ks ms) ∧ ks.length = ms.length
  | [], [], ks, ms, h, _, h2 => by cases h; cases h2; exact ⟨pps_nil, rfl⟩
  | [], v :: vals, ks, ms, h, hl, _ => by cases h; cases hl
  | none :: r, _, ks, _, h, _, _ => by cases h
  | some e :: r, vals, ks, ms, h, hl, h2 => by
    cases e with
    | Constant cn j p =>
      cases cn with
      | str kx =>
        simp only [keysT, Option.map_eq_some_iff] at h
        obtain ⟨l, h, rfl⟩ := h
        cases vals with
        | nil => cases hl
        | cons v vals =>
          simp only [trL, Option.bind_eq_some_iff] at h2
          obtain ⟨m, hm, ms', h2, h3⟩ := h2
          cases h3
          obtain ⟨r1, r2⟩ := pps_of ih c (pos := pos) h (by simpa using hl) h2
          have e : (tC (.str ⟨kx.cps.toList.toArray⟩) : TE) = tC (.str kx) := rfl
          refine ⟨?_, by simp [r2]⟩
          show PPs X pos (some (.Constant (.str kx) j p) :: r) (v :: vals) ((tC (.str ⟨kx.cps.toList.toArray⟩), tE G W m) :: dTrs G W l ms')
          rw [e]
          exact pps_cons pe_str (ih v m hm X W c).1 r1
      | _ => cases h
    | _ => cases h
theorem args_nil {f : Expr → Option M} {es : List Expr} {ms : List M} (h : trL f es = some ms) (e : es = []) : ms = [] := by
  subst e
  cases h
  rfl
section
variable {f f0 : Scope → Expr → Option M} (ih : ∀ sc e m, f sc e = some m → Good Γ G k lo sc e m)
include ih
theorem g_bin {a b : Expr} {op : Operator} {pos : Pos} {m : M} (h : stepE Γ lo f f0 sc (.BinOp a op b pos) = some m) : Good Γ G k lo sc (.BinOp a op b pos) m := by
  simp only [stepE] at h
  split at h
  · rename_i cc y z o hr
    simp only [Option.map_eq_some_iff] at h
    obtain ⟨x, hx, rfl⟩ := h
    obtain ⟨j, p0, j1, p1, j2, p2, apos, q, rfl, rfl, rfl, e1, e2, e3⟩ := replB_ok hr
    exact good_of (fun X W c => tE_repl (ih _ _ _ hx X W c).1 e1 e2 e3) fun _ _ => rfl
  simp only [Option.bind_eq_some_iff] at h
  obtain ⟨x, hx, y, hy, h⟩ := h
  refine good_of (fun X W c => ?_) fun _ _ => rfl
  have pa := (ih _ _ _ hx X W c).1
  have pb := (ih _ _ _ hy X W c).1
  cases op <;> first
    | (cases h; exact tE_add c.fx.hK pa pb)
    | (cases h; exact tE_sub pa pb)
    | (cases h; exact tE_mul pa pb)
    | (cases h; exact tE_mod pa pb)
    | (cases h; exact tE_div pa pb)
    | (cases h; exact tE_pow pa pb)
    | cases h
theorem g_un {a : Expr} {op : UnaryOp} {pos : Pos} {m : M} (h : stepE Γ lo f f0 sc (.UnaryOp op a pos) = some m) : Good Γ G k lo sc (.UnaryOp op a pos) m := by
  simp only [stepE, Option.bind_eq_some_iff] at h
  obtain ⟨x, hx, h⟩ := h
  cases op with
  | Not =>
    cases h
    intro X W c
    obtain ⟨p1, p2⟩ := ih _ _ _ hx X W c
    exact ⟨tE_not p1, tT_not p2⟩
  | USub =>
    cases h
    exact good_of (fun X W c => tE_neg (ih _ _ _ hx X W c).1) fun _ _ => rfl
  | _ => cases h
theorem g_and {pos : Pos} : ∀ {es : List Expr} {m : M}, trBo mAnd (f sc) es = some m → ∀ X W, CxO Γ G k lo X W sc → PE X (.BoolOp .And es pos) (tE G W m) ∧ PW X (.BoolOp .And es pos) (tT G W m)
  | [], _, h, _, _, _ => by cases h
  | [e], m, h, X, W, c => by
    obtain ⟨p1, p2⟩ := ih _ _ _ (show f sc e = some m from h) X W c
    exact ⟨pe_one p1, pw_and1 p2⟩
  | e :: e2 :: es, m, h, X, W, c => by
    simp only [trBo, Option.bind_eq_some_iff] at h
    obtain ⟨x, hx, r, hr, h⟩ := h
    cases h
    obtain ⟨p1, p2⟩ := ih _ _ _ hx X W c
    obtain ⟨q1, q2⟩ := g_and (es := e2 :: es) hr X W c
    exact ⟨tE_and p1 q1, tW_and p2 q2⟩
theorem g_or {pos : Pos} : ∀ {es : List Expr} {m : M}, trBo mOr (f sc) es = some m → ∀ X W, CxO Γ G k lo X W sc → PE X (.BoolOp .Or es pos) (tE G W m) ∧ PW X (.BoolOp .Or es pos) (tT G W m)
  | [], _, h, _, _, _ => by cases h
  | [e], m, h, X, W, c => by
    obtain ⟨p1, p2⟩ := ih _ _ _ (show f sc e = some m from h) X W c
    exact ⟨pe_one p1, pw_or1 p2⟩
  | e :: e2 :: es, m, h, X, W, c => by
    simp only [trBo, Option.bind_eq_some_iff] at h
    obtain ⟨x, hx, r, hr, h⟩ := h
    cases h
    obtain ⟨p1, p2⟩ := ih _ _ _ hx X W c
    obtain ⟨q1, q2⟩ := g_or (es := e2 :: es) hr X W c
    exact ⟨tE_or p1 q1, tW_or p2 q2⟩
theorem g_cmp1 {a b : Expr} {op : CmpOp} {pos : Pos} {m : M} (h : stepE Γ lo f f0 sc (.Compare a [op] [b] pos) = some m) : Good Γ G k lo sc (.Compare a [op] [b] pos) m := by
  simp only [stepE] at h
  split at h
  · rename_i kvs hk
    simp only [Option.bind_eq_some_iff] at h
    obtain ⟨x, hx, h⟩ := h
    obtain ⟨y, py, rfl, g1, g2, hk⟩ := kdB_ok hk
    intro X W c
    obtain ⟨q, e1, e2⟩ := c.fx.kdc y kvs hk
    split at h
    · cases h
      exact tE_kin e2 (c.gl g1) e1 (okN_1 g2) (ih _ _ _ hx X W c).1
    · cases h
      exact tE_kni e2 (c.gl g1) e1 (okN_1 g2) (ih _ _ _ hx X W c).1
    · cases h
  split at h
  · cases h
  · rename_i hb
    simp only [Option.bind_eq_some_iff] at h
    obtain ⟨x, hx, y, hy, h⟩ := h
    cases h
    intro X W c
    exact tE_cmp (cmp_all c.fx.hK c.room.units op) (ih _ _ _ hx X W c).1 (ih _ _ _ hy X W c).1 (by simpa using hb)
theorem g_cmp2 {a b d : Expr} {op op' : CmpOp} {pos : Pos} {m : M} (h : stepE Γ lo f f0 sc (.Compare a [op, op'] [b, d] pos) = some m) : Good Γ G k lo sc (.Compare a [op, op'] [b, d] pos) m := by
  simp only [stepE] at h
  split at h
  · cases h
  · rename_i hb
    simp only [Option.bind_eq_some_iff] at h
    obtain ⟨x, hx, y, hy, z, hz, h⟩ := h
    cases h
    intro X W c
    exact tE_chain (cmp_all c.fx.hK c.room.units op) (cmp_all c.fx.hK c.room.units op') (ih _ _ _ hx X W c).1 (ih _ _ _ hy X W c).1 (ih _ _ _ hz X W c).1 (by simpa using hb)
theorem pt_ifX {X : Cx} {a b c : Expr} {tc ta tb : TT} {pos : Pos} (pc : PT X c tc) (pa : PT X a ta) (pb : PT X b tb) : PT X (.IfExp c a b pos) (fun σ H Q => tc σ H fun d H1 => if d = true then ta σ H1 Q else tb σ H1 Q) := by
  refine ⟨fun pins s σ H Q I h => ?_⟩
  show wpAny _ _ (do if ← isTrue c X.env (eval c X.env) then isTrue a X.env (eval a X.env) else isTrue b X.env (eval b X.env)) _ _ _
  refine wpAny_bind (thn (pc.run pins s σ H _ I h) fun d s1 hd => ?_)
  obtain ⟨H1, I1, q1⟩ := hd
  cases d with
  | true => exact pa.run pins s1 σ H1 Q I1 q1
  | false => exact pb.run pins s1 σ H1 Q I1 q1
theorem g_ife {a b d : Expr} {pos : Pos} {m : M} (h : stepE Γ lo f f0 sc (.IfExp d a b pos) = some m) : Good Γ G k lo sc (.IfExp d a b pos) m := by
  simp only [stepE, Option.bind_eq_some_iff] at h
  obtain ⟨x, hx, y, hy, z, hz, h⟩ := h
  cases h
  intro X W c
  obtain ⟨p1, p2⟩ := ih _ _ _ hx X W c
  obtain ⟨q1, q2⟩ := ih _ _ _ hy X W c
  obtain ⟨r1, r2⟩ := ih _ _ _ hz X W c
  refine ⟨tE_ife p2 q1 r1, PT.imp (pt_ifX ih p2 q2 r2) fun σ H Q w => ?_⟩
  obtain ⟨as, h, en, rh, re, ob⟩ := w
  refine ⟨as, h, en, rh, re, (OutR.bind ob).imp fun v H1 n => ?_⟩
  obtain ⟨d, h1, as1, x1, rv, rh1, re1, o1⟩ := At.nxt re n
  split at o1
  · cases rv
    exact ⟨true, rfl, iteT ⟨as1, h1, en, rh1, re1, o1⟩⟩
  · cases rv
    exact ⟨false, rfl, iteF ⟨as1, h1, en, rh1, re1, o1⟩⟩
  · exact o1.elim
theorem g_tup {es : List Expr} {q : Nat} {pos : Pos} {m : M} (h : stepE Γ lo f f0 sc (.Tuple es q pos) = some m) : Good Γ G k lo sc (.Tuple es q pos) m := by
  simp only [stepE] at h
  split at h
  · rename_i hs
    simp only [Option.map_eq_some_iff] at h
    obtain ⟨ms, h1, rfl⟩ := h
    exact good_of (fun X W c => tE_tup (args_ok (fun e m => ih sc e m) c hs h1)) fun _ _ => rfl
  · cases h
theorem g_lst {es : List Expr} {pos : Pos} {m : M} (h : stepE Γ lo f f0 sc (.List es pos) = some m) : Good Γ G k lo sc (.List es pos) m := by
  simp only [stepE] at h
  split at h
  · rename_i hs
    simp only [Option.map_eq_some_iff] at h
    obtain ⟨ms, h1, rfl⟩ := h
    exact good_of (fun X W c => tE_lst (args_ok (fun e m => ih sc e m) c hs h1)) fun _ _ => rfl
  · cases h
theorem opt_ok {o : Option Expr} {mo : Option M} (h : optE (f sc) o = some mo) (c : CxO Γ G k lo X W sc) : PO X o (tP G W mo) := by
  cases o with
  | none => cases h; exact tP_none
  | some e =>
    simp only [optE, Option.map_eq_some_iff] at h
    obtain ⟨m, h1, rfl⟩ := h
    exact tP_some (ih _ _ _ h1 X W c).1
theorem g_slc {a : Expr} {lo' hi : Option Expr} {p2 pos : Pos} {m : M} (h : stepE Γ lo f f0 sc (.Subscript a (.Slice lo' hi none p2) pos) = some m) : Good Γ G k lo sc (.Subscript a (.Slice lo' hi none p2) pos) m := by
  simp only [stepE, Option.bind_eq_some_iff] at h
  obtain ⟨x, hx, l, hl, u, hu, h⟩ := h
  cases h
  exact good_of (fun X W c => tE_slc c.fx.hK (ih _ _ _ hx X W c).1 (opt_ok ih hl c) (opt_ok ih hu c)) fun _ _ => rfl
theorem g_idx {a b : Expr} {pos : Pos} {m : M} (nb : ∀ l u s p, b ≠ .Slice l u s p) (h : stepE Γ lo f f0 sc (.Subscript a b pos) = some m) : Good Γ G k lo sc (.Subscript a b pos) m := by
  have h' : (match dictB a with | some (ks, vs) => (trL (f sc) vs).bind fun ms => (f sc b).map fun y => mDlI ks ms y | none => match kdB Γ sc a with | some kvs => (f sc b).map fun y => mKIdx kvs y | none => (f sc a).bind fun x => (f sc b).bind fun y => some (mIdx x y)) = some m := by
    cases b <;> first | exact h | exact absurd rfl (nb _ _ _ _)
  split at h'
  · rename_i ks vs hd
    simp only [Option.bind_eq_some_iff, Option.map_eq_some_iff] at h'
    obtain ⟨ms, hms, y, hy, rfl⟩ := h'
    obtain ⟨keys, pd, rfl, hk, hl, h15, h0⟩ := dictB_ok hd
    obtain ⟨k1, k2⟩ := keysT_ok hk
    refine good_of (fun X W c => ?_) fun _ _ => rfl
    obtain ⟨pp, hl2⟩ := pps_of (fun e m => ih sc e m) c (pos := pd) hk hl hms
    refine tE_dli (by have := c.room.units; omega) hl2 pp k1 (by rw [k2, hl]) (fun z => h0 (by rw [z] at k2; exact List.length_eq_zero_iff.mp k2.symm)) (by omega) h15 (ih _ _ _ hy X W c).1 fun o i => ?_
    cases b <;> first | rfl | exact absurd rfl (nb _ _ _ _)
  split at h'
  · rename_i kvs hk
    simp only [Option.map_eq_some_iff] at h'
    obtain ⟨y, hy, rfl⟩ := h'
    obtain ⟨x, px, rfl, g1, g2, hk⟩ := kdB_ok hk
    refine good_of (fun X W c => ?_) fun _ _ => rfl
    obtain ⟨q, e1, e2⟩ := c.fx.kdc x kvs hk
    refine tE_kidx c.fx.hK e2 (c.gl g1) e1 (okN_1 g2) (ih _ _ _ hy X W c).1 fun o i => ?_
    cases b <;> first | rfl | exact absurd rfl (nb _ _ _ _)
  simp only [Option.bind_eq_some_iff] at h'
  obtain ⟨x, hx, y, hy, h'⟩ := h'
  cases h'
  refine good_of (fun X W c => tE_idx c.fx.hK (ih _ _ _ hx X W c).1 (ih _ _ _ hy X W c).1 fun o i => ?_) fun _ _ => rfl
  cases b <;> first | rfl | exact absurd rfl (nb _ _ _ _)
theorem g_attr {o : Expr} {x : Str} {pos : Pos} {m : M} (h : stepE Γ lo f f0 sc (.Attribute o x pos) = some m) : Good Γ G k lo sc (.Attribute o x pos) m := by
  simp only [stepE] at h
  split at h
  · rename_i hp
    simp only [Option.bind_eq_some_iff, Option.map_eq_some_iff] at h
    obtain ⟨y, hy, i, hi, rfl⟩ := h
    refine good_of (fun X W c => ?_) fun _ _ => rfl
    have e := c.fx.fld x i hi
    subst e
    exact tE_attr c.fx.hK c.fx.inj (ih _ _ _ hy X W c).1 (attr_base hp)
  · cases h
end
theorem g_const {c : Const} {j : Nat} {pos : Pos} {f f0 : Scope → Expr → Option M} {m : M} (h : stepE Γ lo f f0 sc (.Constant c j pos) = some m) : Good Γ G k lo sc (.Constant c j pos) m := by
  refine good_of (fun X W cx => ?_) fun _ _ => rfl
  cases c with
  | int i => cases h; exact tE_lit pe_int fun _ _ => .int i
  | str s => cases h; exact tE_lit pe_str fun _ _ => RV.ofStr s
  | bool b => cases h; exact tE_lit pe_bl fun _ _ => .bl b
  | none => cases h; exact tE_lit pe_non fun _ _ => .non
  | _ => cases h
theorem g_name {x : Str} {pos : Pos} {f f0 : Scope → Expr → Option M} {m : M} (h : stepE Γ lo f f0 sc (.Name x pos) = some m) : Good Γ G k lo sc (.Name x pos) m := by
  simp only [stepE] at h
  refine good_of (fun X W c => ?_) fun _ _ => rfl
  split at h
  · rename_i hn
    split at h
    · rename_i hv
      simp only [Option.map_eq_some_iff] at h
      obtain ⟨i, hi, rfl⟩ := h
      exact tE_var (pe_var (by rw [c.N]; exact ixS_ok hi) (c.vis hv) (okN_1 hn) (okN_2 hn))
    · split at h
      · rename_i hg
        simp only [Option.map_eq_some_iff] at h
        obtain ⟨d, hd, rfl⟩ := h
        obtain ⟨u, v, e1, e2, e3⟩ := c.fx.cst x d hd
        exact tE_lit (pe_glob (c.gl hg) e1 e2 (okN_1 hn)) e3
      · cases h
  · cases h
end
end Mp

/-! Mp16: calls and comprehensions translated. -/
namespace Mp
open PySem L2 LamX PyProof.Rows
section
variable {Γ : Gam} {G : Wd} {k : Nat} {lo : Nat} {sc : Scope} {X : Cx} {W : WX} {f f0 : Scope → Expr → Option M}
theorem takes0N {X : Cx} : L2N.Takes X W0 := fun u s x => by
  obtain ⟨_, _, _, _, _, _, _, _, _, _, _, _, _, _, _, _, z⟩ := x
  exact z.elim
theorem CxO.room4 (c : CxO Γ G k lo X W sc) : Room (k + 2) X.A := c.room
theorem and6 {a b : Bool} (h : (a && b) = true) : a = true ∧ b = true := Bool.and_eq_true_iff.mp h
theorem g_told (ih0 : ∀ sc e m, f0 sc e = some m → Good Γ G k 1 sc e m) {x : Str} {params : Arguments} {body : Expr} {scope : Scope} {lpos p pos : Pos} {m : M} (hg : isGl sc x = true) (hn : okN x = true)
    (h : (if decide (lo = 2) && decide (x = Γ.told) && lamSB sc scope && params.posonlyargs.isEmpty && params.args.isEmpty && params.vararg.isNone && params.kwonlyargs.isEmpty && params.kw_defaults.isEmpty && params.kwarg.isNone && params.defaults.isEmpty then (f0 scope body).map (mTold fun c => Γ.tld.lookup c) else none) = some m) :
    Good Γ G k lo sc (.Call (.Name x p) [.Lambda params body scope lpos] [] pos) m := by
  refine good_of (fun X W c => ?_) fun _ _ => rfl
  split at h
  · rename_i hq
    simp only [Option.map_eq_some_iff] at h
    obtain ⟨mb, hb, rfl⟩ := h
    obtain ⟨hq, q10⟩ := and6 hq
    obtain ⟨hq, q9⟩ := and6 hq
    obtain ⟨hq, q8⟩ := and6 hq
    obtain ⟨hq, q7⟩ := and6 hq
    obtain ⟨hq, q6⟩ := and6 hq
    obtain ⟨hq, q5⟩ := and6 hq
    obtain ⟨hq, q4⟩ := and6 hq
    obtain ⟨hq, q3⟩ := and6 hq
    obtain ⟨q1, q2⟩ := and6 hq
    have ex := of_decide_eq_true q2
    subst ex
    obtain ⟨po, ar, va, kw, kd, ka, df⟩ := params
    simp only [List.isEmpty_iff, Option.isNone_iff_eq_none] at q4 q5 q6 q7 q8 q9 q10
    subst q4 q5 q6 q7 q8 q9 q10
    obtain ⟨cc, P, TB, hcode, hmT, hu, TF, hr⟩ := c.lam (of_decide_eq_true q1)
    have L : LamS X.env.scope scope := by rw [c.sc]; exact lamS_by q3
    refine tE_told (k := k + 3) c.fx.hK TF (fun c2 j hj => c.fx.tld c2 j hj) (c.gl hg) TB hcode hmT hu hr L rfl (fun _ _ _ _ _ => rfl) (fun A outer s H E fa c' hr2 => ?_) (okN_1 hn)
    exact (ih0 _ _ _ hb (lamN X A outer s H E scope fa c') _ ⟨c.fx, c.N, c.nd, rfl, rfl, L2N.takes_of rfl rfl rfl rfl, hr2.mono (by omega), fun _ => hr2, fun z => nomatch z⟩).1
  · cases h
theorem g_callN (ih : ∀ sc e m, f sc e = some m → Good Γ G k lo sc e m) (ih0 : ∀ sc e m, f0 sc e = some m → Good Γ G k 1 sc e m) {x : Str} {args : List Expr} {p pos : Pos} {m : M} (h : stepE Γ lo f f0 sc (.Call (.Name x p) args [] pos) = some m) : Good Γ G k lo sc (.Call (.Name x p) args [] pos) m := by
  have h : trCallN Γ lo f f0 sc x args = some m := h
  unfold trCallN at h
  split at h
  · rename_i hq
    obtain ⟨hq, hst⟩ := and6 hq
    obtain ⟨hg, hn⟩ := and6 hq
    split at h
    · exact g_told ih0 hg hn h
    · rename_i args' nl
      split at h
      · rename_i g hf
        simp only [Option.map_eq_some_iff] at h
        obtain ⟨ms, hms, rfl⟩ := h
        refine good_of (fun X W c => ?_) fun _ _ => rfl
        obtain ⟨fa, fd, ps, e1, e2, e3, FO⟩ := c.fx.fns x g hf
        cases args with
        | nil =>
          have := args_nil hms rfl
          subst this
          exact tE_call0 FO c.room4 (c.gl hg) e1 e2 e3 c.tk (okN_1 hn)
        | cons e es => exact tE_call FO c.room4 (c.gl hg) e1 e2 e3 c.tk (args_ok (fun e m => ih sc e m) c hst hms) hst (okN_1 hn)
      · split at h
        · rename_i cn g hf
          split at h
          · cases h
          rename_i hlo
          simp only [Option.map_eq_some_iff] at h
          obtain ⟨ms, hms, rfl⟩ := h
          refine good_of (fun X W c => ?_) fun _ _ => rfl
          obtain ⟨fa, fd, ps, e1, e2, e3, e4, FO⟩ := c.fx.cls x cn g hf
          exact tE_make c.fx.hK e2 e3 FO (c.mkr hlo) (c.gl hg) e1 e4 c.tk (args_ok (fun e m => ih sc e m) c hst hms) hst (okN_1 hn) (args_nil hms)
        · split at h
          · rename_i b hb
            split at h
            · cases h
            · rename_i hne
              simp only [Option.map_eq_some_iff] at h
              obtain ⟨ms, hms, rfl⟩ := h
              rw [Bool.or_eq_true, not_or] at hne
              have fr : x ∈ Γ.fre := by simpa using hne.2
              refine good_of (fun X W c => ?_) fun _ _ => rfl
              cases args with
              | nil => exact absurd rfl hne.1
              | cons e es => exact tE_bi c.fx.hK c.calm (biOf_ok hb) (c.gl hg) (c.fx.fre x fr) (args_ok (fun e m => ih sc e m) c hst hms) hst
          · split at h
            · rename_i hx
              split at h
              · rename_i a y p2
                split at h
                · rename_i hq2
                  obtain ⟨hq2, f2⟩ := and6 hq2
                  obtain ⟨hgy, f1⟩ := and6 hq2
                  simp only [Option.bind_eq_some_iff, Option.map_eq_some_iff] at h
                  obtain ⟨t, ht, ma, hma, rfl⟩ := h
                  refine good_of (fun X W c => ?_) fun _ _ => rfl
                  rw [List.all_cons, Bool.and_eq_true] at hst
                  exact tE_isi c.fx.hK hx (itOfN_ok ht) (c.gl hg) (c.fx.fre _ (of_decide_eq_true f1)) (c.gl hgy) (c.fx.fre _ (of_decide_eq_true f2)) (ih _ _ _ hma X W c).1 hst.1
                · cases h
              · cases h
            · cases h
  · cases h
theorem g_meth (ih : ∀ sc e m, f sc e = some m → Good Γ G k lo sc e m) {o : Expr} {x : Str} {args : List Expr} {apos pos : Pos} {m : M} (h : stepE Γ lo f f0 sc (.Call (.Attribute o x apos) args [] pos) = some m) : Good Γ G k lo sc (.Call (.Attribute o x apos) args [] pos) m := by
  have h : (match dictB o with
    | some (ks, vs) => trDlG (f sc) x apos pos ks vs args
    | none => trMeth Γ f sc o x apos pos args) = some m := h
  split at h
  · rename_i ks vs hd
    unfold trDlG at h
    split at h
    · rename_i a b
      split at h
      · rename_i hq
        obtain ⟨hq, q4⟩ := and6 hq
        obtain ⟨hq, q3⟩ := and6 hq
        obtain ⟨q1, q2⟩ := and6 hq
        have ex := of_decide_eq_true q1
        subst ex
        simp only [Option.bind_eq_some_iff, Option.map_eq_some_iff] at h
        obtain ⟨ms, hms, xa, ha, xb, hb, rfl⟩ := h
        obtain ⟨keys, pd, rfl, hk, hl, h15, h0⟩ := dictB_ok hd
        obtain ⟨k1, k2⟩ := keysT_ok hk
        refine good_of (fun X W c => ?_) fun _ _ => rfl
        obtain ⟨pp, hl2⟩ := pps_of (fun e m => ih sc e m) c (pos := pd) hk hl hms
        refine tE_dlg (by have := c.room.units; omega) hl2 pp k1 (by rw [k2, hl]) (fun z => h0 (by rw [z] at k2; exact List.length_eq_zero_iff.mp k2.symm)) (by omega) h15 (ih _ _ _ ha X W c).1 (ih _ _ _ hb X W c).1 ⟨attr_base rfl, ?_, q4, ?_⟩
        · rw [stars' (by simp [q2, q3])]
          rfl
        · rw [star1 q2, star1 q3]
          rfl
      · cases h
    · cases h
  unfold trMeth at h
  split at h
  · rename_i hq
    obtain ⟨hq, h4⟩ := and6 hq
    obtain ⟨hq, h3⟩ := and6 hq
    obtain ⟨h1, h2⟩ := and6 hq
    have h3 := of_decide_eq_true h3
    simp only [Option.bind_eq_some_iff] at h
    obtain ⟨mo, hmo, ms, hms, h⟩ := h
    refine good_of (fun X W c => ?_) fun _ _ => rfl
    have pl := args_ok (fun e m => ih sc e m) c h2 hms
    have po := (ih _ _ _ hmo X W c).1
    split at h
    · rename_i q l hl
      cases h
      refine tE_meth (c0 := q.1) (f0 := q.2) c.fx.hK po (by obtain ⟨q1, q2⟩ := q; simp [meOf, List.lookup]) (fun cn fi hc => ?_) c.room4 c.tk pl h1 h2 h3 h4 (args_nil hms)
      obtain ⟨fa, fd, ps, e1, e2, e3, e4⟩ := c.fx.mes x _ cn fi hl hc
      exact ⟨fa, fd, ps, e1, e2, e3, e4⟩
    · cases h
    · split at h
      · cases h
      · rename_i hne
        simp only [Option.map_eq_some_iff] at h
        obtain ⟨b, hb, rfl⟩ := h
        cases args with
        | nil => exact absurd rfl hne
        | cons e es => exact tE_bm c.fx.hK (bmOf_ok hb) po pl h1 h2 h3 h4
  · cases h
/-- a target -/
theorem names_ok {N : List Str} {own : Scope} : ∀ {ts : List Expr} {xs : List Str} {is : List Nat}, names1 ts = some xs → xs.all (stOk sc own) = true → ixsS N xs = some is → X.N = N → N.Nodup → X.env.scope = sc → (∀ x, isCel own x = true → X.fn x = true) →
    PGs X ts (tGs G is) ∧ is.length = ts.length ∧ (assignEach ts X.env).length = ts.length ∧ (assignEach ts X.env).findIdx? (·.1) = none
  | [], xs, is, h1, _, h3, _, _, _, _ => by
    cases h1
    cases h3
    exact ⟨tGs_nil, rfl, rfl, rfl⟩
  | .Name x p :: ts, xs, is, h1, h2, h3, e1, e2, e3, e4 => by
    simp only [names1, Option.map_eq_some_iff] at h1
    obtain ⟨ys, h1, rfl⟩ := h1
    simp only [ixsS, Option.bind_eq_some_iff, Option.map_eq_some_iff] at h3
    obtain ⟨i, hi, js, hj, rfl⟩ := h3
    rw [List.all_cons, Bool.and_eq_true] at h2
    obtain ⟨r1, r2, r3, r4⟩ := names_ok h1 h2.2 hj e1 e2 e3 e4
    have so := h2.1
    unfold stOk isLoc isCel at so
    have pg : PG X (.Name x p) (gName i) := by
      rw [Bool.or_eq_true, Bool.and_eq_true, decide_eq_true_eq, decide_eq_true_eq] at so
      have hN : X.N[i]? = some x := by rw [e1]; exact ixS_ok hi
      rcases so with so | ⟨s1, s2⟩
      · exact pg_name (by rw [e1]; exact e2) hN (.inl (by rw [e3]; exact so)) (.inr (by rw [e3]; exact so))
      · exact pg_name (by rw [e1]; exact e2) hN (.inr (by rw [e3]; exact s1)) (.inl (e4 x s2))
    refine ⟨tGs_cons pg r1 rfl, by simp [r2], ?_, ?_⟩
    · show (assignEach ts X.env).length + 1 = ts.length + 1
      rw [r3]
    · show (List.findIdx? (fun q : Bool × (Value → Sem Unit) => q.1) ((false, assign (.Name x p) X.env) :: assignEach ts X.env)) = none
      rw [List.findIdx?_cons]
      simp only [Bool.false_eq_true, if_false]
      rw [r4]
      rfl
theorem tgt_ok {N : List Str} {own : Scope} {tg : Expr} {t : Tgt} (h : trT N sc own tg = some t) (hK : X.K = G.K) (hc : X.calm = true) (e1 : X.N = N) (e2 : N.Nodup) (e3 : X.env.scope = sc) (e4 : ∀ x, isCel own x = true → X.fn x = true) : PG X tg (tG G t.st t.is) := by
  cases tg with
  | Name x p =>
    simp only [trT] at h
    split at h
    · rename_i so
      simp only [Option.map_eq_some_iff] at h
      obtain ⟨i, hi, rfl⟩ := h
      unfold stOk isLoc isCel at so
      rw [Bool.or_eq_true, Bool.and_eq_true, decide_eq_true_eq, decide_eq_true_eq] at so
      have hN : X.N[i]? = some x := by rw [e1]; exact ixS_ok hi
      rcases so with so | ⟨s1, s2⟩
      · exact tG_name (pg_name (by rw [e1]; exact e2) hN (.inl (by rw [e3]; exact so)) (.inr (by rw [e3]; exact so)))
      · exact tG_name (pg_name (by rw [e1]; exact e2) hN (.inr (by rw [e3]; exact s1)) (.inl (e4 x s2)))
    · cases h
  | Tuple ts q p =>
    simp only [trT, Option.bind_eq_some_iff] at h
    obtain ⟨xs, hx, h⟩ := h
    split at h
    · rename_i so
      simp only [Option.map_eq_some_iff] at h
      obtain ⟨is, hi, rfl⟩ := h
      obtain ⟨r1, r2, r3, r4⟩ := names_ok (G := G) hx so hi e1 e2 e3 e4
      exact tG_tup hK hc r1 r2 r3 r4
    · cases h
  | _ => cases h
theorem it_ok (ih : ∀ sc e m, f sc e = some m → Good Γ G k lo sc e m) {e tg : Expr} {mi : MI} (h : trIt Γ f sc tg e = some mi) (c : CxO Γ G k lo X W sc) : PI X tg e (tI G W mi) ∧ ∀ x, foldedSetIterable e X.env x = pure x := by
  have gen : ∀ {e : Expr}, (f sc e).map miE = some mi → PI X tg e (tI G W mi) := fun {e} h => by
    simp only [Option.map_eq_some_iff] at h
    obtain ⟨m, hm, rfl⟩ := h
    exact tI_e c.fx.hK (ih _ _ _ hm X W c).1
  have spec : ∀ {x : Str} {p pos : Pos} {a : Expr}, (if x = "range" then (if isGl sc x && noStar a && decide (x ∈ Γ.fre) then (f sc a).map miR1 else none) else if x = "enumerate" then (if isTupT tg && (isGl sc x && noStar a && decide (x ∈ Γ.fre)) then (f sc a).map miEn else none) else (f sc (.Call (.Name x p) [a] [] pos)).map miE) = some mi → PI X tg (.Call (.Name x p) [a] [] pos) (tI G W mi) := fun {x p pos a} h => by
    split at h
    · rename_i hx
      split at h
      · rename_i hq
        obtain ⟨hq, f1⟩ := and6 hq
        obtain ⟨hg, hs⟩ := and6 hq
        simp only [Option.map_eq_some_iff] at h
        obtain ⟨m, hm, rfl⟩ := h
        exact tI_r1 hx (c.gl hg) (c.fx.fre _ (of_decide_eq_true f1)) (ih _ _ _ hm X W c).1 hs
      · cases h
    · split at h
      · rename_i hx
        split at h
        · rename_i hq
          obtain ⟨ht, hq⟩ := and6 hq
          obtain ⟨hq, f1⟩ := and6 hq
          obtain ⟨hg, hs⟩ := and6 hq
          simp only [Option.map_eq_some_iff] at h
          obtain ⟨m, hm, rfl⟩ := h
          cases tg <;> first | (cases ht; done) | exact tI_en c.fx.hK hx (c.gl hg) (c.fx.fre _ (of_decide_eq_true f1)) (ih _ _ _ hm X W c).1 hs
        · cases h
      · exact gen h
  cases e with
  | Set a b d => cases h
  | Call fn args kws pos =>
    refine ⟨?_, fun _ => rfl⟩
    cases fn with
    | Name x p =>
      cases args with
      | nil => exact gen h
      | cons a args =>
        cases args with
        | cons _ _ => exact gen h
        | nil =>
          cases kws with
          | cons _ _ => exact gen h
          | nil => exact spec h
    | _ => exact gen h
  | _ => exact ⟨gen h, fun _ => rfl⟩
theorem g_comp (ih : ∀ sc e m, f sc e = some m → Good Γ G k lo sc e m) {elt : Expr} {g : Comprehension} {scope : Scope} {m : M} (h : trComp Γ f sc elt g scope = some m) (c : CxO Γ G k lo X W sc) :
    ∃ (tg iter : Expr) (ifs : List Expr) (mi : MI) (own : List (Str × Nat)) (st : D → En → Option En) (is : List Nat) (mc me : M), g = ⟨tg, iter, ifs, 0⟩ ∧ m = mComp mi (own.map (·.2)) st mc me ∧ (∀ i ∈ is, i ∈ own.map (·.2)) ∧ PI X tg iter (tI G W mi) ∧ BlkOk X.N X.env.scope scope own ∧
      (∀ (s : Shared) (H : Hp) (C : Addr) (cl : List (Str × Addr)) (fp : List Addr), PG (X.blk s H scope (compEnvC scope cl C X.env) fp) tg (tG G st is)) ∧
      (∀ (s : Shared) (H : Hp) (C : Addr) (cl : List (Str × Addr)) (fp : List Addr), PTs (X.blk s H scope (compEnvC scope cl C X.env) fp) ifs (tT G W0 mc)) ∧
      (∀ (s : Shared) (H : Hp) (C : Addr) (cl : List (Str × Addr)) (fp : List Addr), PE (X.blk s H scope (compEnvC scope cl C X.env) fp) elt (tE G W0 me)) ∧ ∀ x, foldedSetIterable iter X.env x = pure x := by
  obtain ⟨tg, iter, ifs, a⟩ := g
  unfold trComp at h
  dsimp only at h
  split at h
  · rename_i ha
    subst ha
    simp only [Option.bind_eq_some_iff] at h
    obtain ⟨mi, hmi, t, ht, own, ho, h⟩ := h
    split at h
    · rename_i hq
      obtain ⟨hb, hi⟩ := and6 hq
      simp only [Option.bind_eq_some_iff] at h
      obtain ⟨me, hme, h⟩ := h
      obtain ⟨pi, fo⟩ := it_ok (tg := tg) ih hmi c
      have len : ∀ {xs : List Str} {is : List Nat}, ixsS Γ.N xs = some is → xs.length = is.length := by
        intro xs
        induction xs with
        | nil => intro is z; cases z; rfl
        | cons x xs ih2 =>
          intro is z
          simp only [ixsS, Option.bind_eq_some_iff, Option.map_eq_some_iff] at z
          obtain ⟨i, _, js, hj, rfl⟩ := z
          simp [ih2 hj]
      have eo : ((tgNames tg).zip own).map (·.2) = own := by
        rw [List.map_snd_zip]
        exact Nat.le_of_eq (len ho).symm
      have scE : ∀ (cl : List (Str × Addr)) (C : Addr), (compEnvC scope cl C X.env).scope = relS scope sc := fun cl C => by rw [← c.sc]; rfl
      have cb : ∀ (s : Shared) (H : Hp) (C : Addr) (cl : List (Str × Addr)) (fp : List Addr), CxO Γ G k lo (X.blk s H scope (compEnvC scope cl C X.env) fp) W0 (relS scope sc) := fun s H C cl fp =>
        ⟨c.fx, c.N, c.nd, scE cl C, c.calm, takes0N, c.room, c.mkr, fun z => c.lam z⟩
      have pg : ∀ (s : Shared) (H : Hp) (C : Addr) (cl : List (Str × Addr)) (fp : List Addr), PG (X.blk s H scope (compEnvC scope cl C X.env) fp) tg (tG G t.st t.is) := fun s H C cl fp =>
        tgt_ok (X := X.blk s H scope (compEnvC scope cl C X.env) fp) ht c.fx.hK c.calm c.N c.nd (scE cl C) fun x hx => by
          have := of_decide_eq_true hx
          show (scope.names.lookup x == some .cell) = true
          rw [this]
          rfl
      have pe : ∀ (s : Shared) (H : Hp) (C : Addr) (cl : List (Str × Addr)) (fp : List Addr), PE (X.blk s H scope (compEnvC scope cl C X.env) fp) elt (tE G W0 me) := fun s H C cl fp => (ih _ _ _ hme _ _ (cb s H C cl fp)).1
      have bo : BlkOk X.N X.env.scope scope ((tgNames tg).zip own) := by rw [c.N, c.sc]; exact blkOk_by hb
      have hi' : ∀ i ∈ t.is, i ∈ ((tgNames tg).zip own).map (·.2) := fun i him => by
        rw [eo]
        exact of_decide_eq_true (List.all_eq_true.mp hi i him)
      split at h
      · cases h
        refine ⟨tg, iter, [], mi, (tgNames tg).zip own, t.st, t.is, mTrue, me, rfl, by rw [eo], hi', pi, bo, pg, fun s H C cl fp => ?_, pe, fo⟩
        refine ⟨fun pins s' σ' H' Q' I' hw => pts_nil.run pins s' σ' H' Q' I' ?_⟩
        obtain ⟨as, h, en, rh, re, ob⟩ := hw
        obtain ⟨b, e1, q⟩ := ob (.bl true) H' as (Ext.refl _ _) (.bl true) rh
        cases e1
        exact q
      · rename_i d
        simp only [Option.map_eq_some_iff] at h
        obtain ⟨mc, hmc, rfl⟩ := h
        exact ⟨tg, iter, [d], mi, (tgNames tg).zip own, t.st, t.is, mc, me, rfl, by rw [eo], hi', pi, bo, pg, fun s H C cl fp => pts_one (ih _ _ _ hmc _ _ (cb s H C cl fp)).2, pe, fo⟩
      · cases h
    · cases h
  · cases h
theorem g_lc (ih : ∀ sc e m, f sc e = some m → Good Γ G k lo sc e m) {elt : Expr} {g : Comprehension} {scope : Scope} {pos : Pos} {m : M} (h : stepE Γ lo f f0 sc (.ListComp elt [g] scope pos) = some m) : Good Γ G k lo sc (.ListComp elt [g] scope pos) m := by
  refine good_of (fun X W c => ?_) fun _ _ => rfl
  obtain ⟨tg, iter, ifs, mi, own, st, is, mc, me, rfl, rfl, hi, pi, bo, pg, pt, pe, fo⟩ := g_comp ih h c
  exact PE.imp (pe_lc c.calm (by rw [c.N]; exact c.nd) pi bo pg pt pe fo) fun σ H Q q => comp_key σ H Q hi q
theorem step_ok (ih : ∀ sc e m, f sc e = some m → Good Γ G k lo sc e m) (ih0 : ∀ sc e m, f0 sc e = some m → Good Γ G k 1 sc e m) (e : Expr) (m : M) (h : stepE Γ lo f f0 sc e = some m) : Good Γ G k lo sc e m := by
  cases e with
  | Constant c j p => exact g_const h
  | Name x p => exact g_name h
  | BinOp a op b p => exact g_bin ih h
  | UnaryOp op a p => exact g_un ih h
  | BoolOp op es p =>
    cases op with
    | And =>
      intro X W c
      obtain ⟨p1, p2⟩ := g_and (pos := p) ih (show trBo mAnd (f sc) es = some m from h) X W c
      exact ⟨p1, p2.pt⟩
    | Or =>
      intro X W c
      obtain ⟨p1, p2⟩ := g_or (pos := p) ih (show trBo mOr (f sc) es = some m from h) X W c
      exact ⟨p1, p2.pt⟩
  | Compare a ops cs p =>
    cases ops with
    | nil => cases h
    | cons op ops =>
      cases ops with
      | nil =>
        cases cs with
        | nil => cases h
        | cons b cs =>
          cases cs with
          | nil => exact g_cmp1 ih h
          | cons _ _ => cases h
      | cons op' ops =>
        cases ops with
        | nil =>
          cases cs with
          | nil => cases h
          | cons b cs =>
            cases cs with
            | nil => cases h
            | cons d cs =>
              cases cs with
              | nil => exact g_cmp2 ih h
              | cons _ _ => cases h
        | cons _ _ => cases h
  | IfExp d a b p => exact g_ife ih h
  | Tuple es q p => exact g_tup ih h
  | List es p => exact g_lst ih h
  | Subscript a b p =>
    cases b with
    | Slice l u s p2 =>
      cases s with
      | none => exact g_slc ih h
      | some _ => cases h
    | _ => exact g_idx ih (fun _ _ _ _ z => nomatch z) h
  | Attribute o x p => exact g_attr ih h
  | Call fn args kws p =>
    cases kws with
    | cons _ _ => cases fn <;> cases h
    | nil =>
      cases fn with
      | Name x p => exact g_callN ih ih0 h
      | Attribute o x ap => exact g_meth ih h
      | _ => cases h
  | ListComp elt gs scope p =>
    cases gs with
    | nil => cases h
    | cons g gs =>
      cases gs with
      | nil => exact g_lc ih h
      | cons _ _ => cases h
  | _ => cases h
theorem trE_ok : ∀ (n : Nat) (lo : Nat) (sc : Scope) (e : Expr) (m : M), trE Γ lo n sc e = some m → Good Γ G k lo sc e m
  | 0, _, _, _, _, h => by cases h
  | n + 1, lo, sc, e, m, h => step_ok (fun sc e m => trE_ok n lo sc e m) (fun sc e m => trE_ok n 1 sc e m) e m h
end
end Mp

/-! Mp17: statements translated; a def's promise. -/
namespace Mp
open PySem L2 LamX PyProof.Rows
noncomputable section
def isComp : Expr → Bool
  | .ListComp _ _ _ _ => true
  | .SetComp _ _ _ _ => true
  | .DictComp _ _ _ _ _ => true
  | _ => false
def isSlE : Expr → Bool
  | .Slice _ _ _ _ => true
  | _ => false
def isTupE : Expr → Bool
  | .Tuple _ _ _ => true
  | _ => false
/-- x = [..] on one line -/
def swB (sc : Scope) (y : Str) (py pos : Pos) (scope : Scope) : Bool := decide (sc.kind = .function) && isLoc sc y && (py.line == pos.line) && !(scope.names.any fun (n, k) => n == y && (k == .local || k == .cell))
def trAsg (Γ : Gam) (E : Expr → Option M) (C : Expr → Comprehension → Scope → Option M) (sc : Scope) (tg e : Expr) (pos : Pos) : Option Ms := match tg with
  | .Name y py => match e with
    | .ListComp elt [g] scope cp => if swB sc y py cp scope then (C elt g scope).bind fun m => (ixS Γ.N y).map fun i => sSet (stName i) m
      else if isCel sc y then (C elt g scope).bind fun m => (trT Γ.N sc sc tg).map fun t => sSet t.st m else none
    | e => if isComp e then none else (E e).bind fun m => (trT Γ.N sc sc tg).map fun t => sSet t.st m
  | .Tuple _ _ _ => match e with
    | .ListComp elt [g] scope cp => (C elt g scope).bind fun m => (trT Γ.N sc sc tg).bind fun t => match t with
      | .tup is => some (sUnl is m)
      | .one _ => none
    | e => if isComp e || isTupE e then none else (E e).bind fun m => (trT Γ.N sc sc tg).map fun t => sSet t.st m
  | .Attribute o x _ => (E e).bind fun m => (E o).bind fun mo => (Γ.fld.lookup x).map fun i => sFld Γ.fo mo i m
  | .Subscript o i _ => if isComp e || isSlE i then none else (E e).bind fun m => (E o).bind fun mo => (E i).map fun mi => sItm mo mi m
  | _ => none
def raiseN : Expr → Option Str
  | .Call (.Name x _) [.Constant (.str _) _ _] [] _ => some x
  | _ => none
def raiseA : Expr → Option (Str × Expr)
  | .Call (.Name x _) [a] [] _ => some (x, a)
  | _ => none
def stepS (Γ : Gam) (f : Scope → Expr → Option M) (B : List Stmt → Option Ms) (sc : Scope) : Stmt → Option Ms
  | .Pass _ => some sNext
  | .Continue _ => some sCont
  | .Expr e _ => if isComp e then none else (f sc e).map sDrop
  | .Return (some e) _ => (f sc e).map sRet
  | .If c a b _ => (f sc c).bind fun x => (B a).bind fun y => (B b).map fun z => sIf x y z
  | .While c b [] _ => (f sc c).bind fun x => (B b).map fun y => sWhl x y
  | .For tg it b [] _ => (trIt Γ f sc tg it).bind fun mi => (trT Γ.N sc sc tg).bind fun t => (B b).map fun y => sFor mi t.st y
  | .Assign [tg] e pos => trAsg Γ (f sc) (trComp Γ f sc) sc tg e pos
  | .Raise (some e) none _ => (raiseA e).bind fun x => if isGl sc x.1 && okN x.1 then (match Γ.exw.lookup x.1 with
    | some c => if noStar x.2 then (f sc x.2).map (sRaiseW c) else none
    | none => (raiseN e).bind fun y => if x.1 = y then (Γ.exs.lookup y).map sRaise else none) else none
  | _ => none
def trB1 (S : Stmt → Option Ms) : List Stmt → Option Ms
  | [] => some sNext
  | st :: r => (S st).bind fun a => (trB1 S r).map fun b => sSeq a b
def trSs (Γ : Gam) (lo : Nat) (ne : Nat) : Nat → Scope → List Stmt → Option Ms
  | 0, _, _ => none
  | n + 1, sc, ss => trB1 (stepS Γ (trE Γ lo ne) (trSs Γ lo ne n sc) sc) ss
end
structure CxS (Γ : Gam) (G : Wd) (k : Nat) (lo : Nat) (X : Cx) (W : WX) (sc : Scope) : Prop extends CxO Γ G k lo X W sc where
  fn : ∀ x, X.fn x = true
  own : PassesOwn (model X.prog X.w) X.A X.env X.xe
  room3 : Room (k + 2) X.A
section
variable {Γ : Gam} {G : Wd} {k : Nat} {lo : Nat} {sc : Scope} {X : Cx} {W : WX} {f : Scope → Expr → Option M} {B : List Stmt → Option Ms}
theorem raiseN_ok {e : Expr} {x : Str} (h : raiseN e = some x) : ∃ p msg j p2 p3, e = .Call (.Name x p) [.Constant (.str msg) j p2] [] p3 := by
  unfold raiseN at h
  split at h
  · cases h
    exact ⟨_, _, _, _, _, rfl⟩
  · cases h
theorem raiseA_ok {e a : Expr} {x : Str} (h : raiseA e = some (x, a)) : ∃ p q, e = .Call (.Name x p) [a] [] q := by
  unfold raiseA at h
  split at h
  · cases h
    exact ⟨_, _, rfl⟩
  · cases h
theorem sw_none {e : Expr} {t : Option Expr} {l : Nat} {env : Env} (h : isComp e = false) : swapsWith e t l env = pure false := by
  cases e <;> first | rfl | cases h
theorem sw_attr {e o : Expr} {x : Str} {p : Pos} {l : Nat} {env : Env} : swapsWith e (some (.Attribute o x p)) l env = pure false := by
  cases e <;> rfl
theorem sw_cell {elt : Expr} {gs : List Comprehension} {scope : Scope} {pos py : Pos} {y : Str} {l : Nat} {env : Env} (hy : env.scope.names.lookup y = some .cell) : swapsWith (.ListComp elt gs scope pos) (some (.Name y py)) l env = pure false := by
  have ky : env.kindOf y = some .cell := hy
  unfold swapsWith
  simp only [ky]
  have : (some NameKind.cell == some NameKind.local) = false := by decide
  rw [this]
  simp
theorem sw_tup {e : Expr} {ts : List Expr} {q : Nat} {p : Pos} {env : Env} (h : isTupE e = false) : swappedStores [.Tuple ts q p] e env = pure none := by
  cases e <;> first | rfl | cases h
theorem tgt_S {tg : Expr} {t : Tgt} (h : trT Γ.N sc sc tg = some t) (c : CxS Γ G k lo X W sc) : PG X tg (tG G t.st t.is) :=
  tgt_ok h c.fx.hK c.calm c.N c.nd c.sc fun x _ => c.fn x
theorem st_len : ∀ (is : List Nat) (xs : List D) (e e1 : En), stNames is xs e = some e1 → xs.length = is.length := by
  intro is
  induction is with
  | nil => intro xs e e1 z; cases xs with
    | nil => rfl
    | cons _ _ => cases z
  | cons i is ih => intro xs e e1 z; cases xs with
    | nil => cases z
    | cons x xs => rw [List.length_cons, List.length_cons, ih xs _ _ z]
theorem tS_unl {ts : List Expr} {q : Nat} {p pos : Pos} {is : List Nat} {e : Expr} {ma : M} (h : trT Γ.N sc sc (.Tuple ts q p) = some (.tup is)) (c : CxS Γ G k lo X W sc) (pe : PE X e (tE G W ma)) (hs : swapsWithSole [.Tuple ts q p] e pos.line X.env = pure false) (hw : swappedStores [.Tuple ts q p] e X.env = pure none) : PS X (.Assign [.Tuple ts q p] e pos) (tS G W (sUnl is ma)) := by
  simp only [trT, Option.bind_eq_some_iff] at h
  obtain ⟨xs, hx, h⟩ := h
  split at h
  · rename_i so
    simp only [Option.map_eq_some_iff] at h
    obtain ⟨is', hi, h⟩ := h
    cases h
    obtain ⟨r1, r2, r3, r4⟩ := names_ok (G := G) (X := X) hx so hi c.N c.nd c.sc fun x _ => c.fn x
    refine PS.imp (ps_asg pe (pg_lst (n := ts.length) c.calm r1 r3 r4) hs hw rfl) fun D σ H z => ?_
    obtain ⟨as, h, en, rh, re, ob⟩ := z
    refine ⟨as, h, en, rh, re, (OutR.bindO re ob).imp fun x H1 n => ?_⟩
    obtain ⟨d, h1, as1, x1, rv, rh1, re1, o1⟩ := At.nxt re n
    unfold unlR at o1
    split at o1
    · split at o1
      · rename_i xs e1
        split at o1
        · rename_i e2 hst
          obtain ⟨a, rfl, ea⟩ := rv.ref_inv
          obtain ⟨vs, hq, lq⟩ := rh1.lst ea e1
          exact ⟨a, vs, rfl, SqL.of hq, by rw [lq.length, st_len _ _ _ _ hst, r2], as1, h1, en, xs, rh1, re1, lq, e2, hst, fun σ1 q1 b1 => o1 σ1 H1 as1 (Ext.refl _ _) q1 rh1⟩
        · exact o1.elim
      · exact o1.elim
    · exact o1.elim
  · cases h
theorem s_asg (ih : ∀ sc e m, f sc e = some m → Good Γ G k lo sc e m) {tg e : Expr} {pos : Pos} {m : Ms} (h : trAsg Γ (f sc) (trComp Γ f sc) sc tg e pos = some m) (c : CxS Γ G k lo X W sc) : PS X (.Assign [tg] e pos) (tS G W m) := by
  have nd : X.N.Nodup := by rw [c.N]; exact c.nd
  have plainN : ∀ {y : Str} {py : Pos} {e : Expr} {ma : M} {t : Tgt}, trT Γ.N sc sc (.Name y py) = some t → PE X e (tE G W ma) → swapsWith e (some (.Name y py)) pos.line X.env = pure false → PS X (.Assign [.Name y py] e pos) (tS G W (sSet t.st ma)) := fun {y py e ma t} ht pe hs => by
    have z := ht
    simp only [trT] at z
    split at z
    · rename_i so
      simp only [Option.map_eq_some_iff] at z
      obtain ⟨i, hi, rfl⟩ := z
      unfold stOk isLoc isCel at so
      rw [Bool.or_eq_true, Bool.and_eq_true, decide_eq_true_eq, decide_eq_true_eq] at so
      have hN : X.N[i]? = some y := by rw [c.N]; exact ixS_ok hi
      have hx : Loc X.env.scope y := by
        rw [c.sc]
        rcases so with so | so
        · exact .inl so
        · exact .inr so.1
      have := ps_set (pos := pos) nd hN hx pe hs (.inl (c.fn y))
      refine tS_set (is := [i]) (PS.imp this fun D σ H q => ?_)
      obtain ⟨as, h, en, rh, re, ob⟩ := q
      refine ⟨as, h, en, rh, re, ob.imp fun v H1 n => ?_⟩
      obtain ⟨as1, h1, e1, d, rh1, re1, rv, e2, hst, kk⟩ := n
      cases hst
      exact kk _ (re1.set rv i) (But.set _ _ _)
    · cases z
  cases tg with
  | Name y py =>
    have gen : isComp e = false → ((f sc e).bind fun m => (trT Γ.N sc sc (.Name y py)).map fun t => sSet t.st m) = some m → PS X (.Assign [.Name y py] e pos) (tS G W m) := fun hc h => by
      simp only [Option.bind_eq_some_iff, Option.map_eq_some_iff] at h
      obtain ⟨ma, hma, t, ht, rfl⟩ := h
      exact plainN ht (ih _ _ _ hma X W c.toCxO).1 (sw_none hc)
    have lc : ∀ {elt : Expr} {g : Comprehension} {scope : Scope} {cp : Pos}, e = .ListComp elt [g] scope cp → (if swB sc y py cp scope then (trComp Γ f sc elt g scope).bind fun m => (ixS Γ.N y).map fun i => sSet (stName i) m
      else if isCel sc y then (trComp Γ f sc elt g scope).bind fun m => (trT Γ.N sc sc (.Name y py)).map fun t => sSet t.st m else none) = some m → PS X (.Assign [.Name y py] e pos) (tS G W m) := fun {elt g scope cp} he hh => by
      clear h gen
      have h := hh
      clear hh
      subst he
      split at h
      · rename_i hw
        simp only [Option.bind_eq_some_iff, Option.map_eq_some_iff] at h
        obtain ⟨ma, hma, i, hi, rfl⟩ := h
        obtain ⟨tg, iter, ifs, mi, own, st, is, mc, me, rfl, rfl, hii, pi, bo, pg, pt, pe, fo⟩ := g_comp ih hma c.toCxO
        unfold swB at hw
        obtain ⟨hw, w4⟩ := and6 hw
        obtain ⟨hw, w3⟩ := and6 hw
        obtain ⟨w1, w2⟩ := and6 hw
        have ly : X.env.scope.names.lookup y = some .local := by rw [c.sc]; exact of_decide_eq_true w2
        have kf : X.env.scope.kind = .function := by rw [c.sc]; exact of_decide_eq_true w1
        have hN : X.N[i]? = some y := by rw [c.N]; exact ixS_ok hi
        refine tS_set (is := [i]) (PS.imp (ps_setLc c.calm nd hN ly (sw_true kf ly w3 (by simpa using w4)) pi bo pg pt pe fo) fun D σ H q => ?_)
        refine comp_key (W := W) σ H _ hii ?_
        obtain ⟨as, h, en, rh, re, ob⟩ := q
        refine ⟨as, h, en, rh, re, ob.imp fun v H1 n => ?_⟩
        obtain ⟨as1, h1, e1, d, rh1, re1, rv, e2, hst, kk⟩ := n
        cases hst
        exact kk _ (re1.set rv i) (But.set _ _ _)
      · split at h
        · rename_i hw
          simp only [Option.bind_eq_some_iff, Option.map_eq_some_iff] at h
          obtain ⟨ma, hma, t, ht, rfl⟩ := h
          have hcel : X.env.scope.names.lookup y = some .cell := by rw [c.sc]; exact of_decide_eq_true hw
          have hp : PE X (.ListComp elt [g] scope cp) (tE G W ma) := by
            obtain ⟨tg, iter, ifs, mi, own, st, is, mc, me, rfl, rfl, hii, pi, bo, pg, pt, pe, fo⟩ := g_comp ih hma c.toCxO
            exact PE.imp (pe_lc c.calm nd pi bo pg pt pe fo) fun σ H Q q => comp_key σ H Q hii q
          exact plainN ht hp (sw_cell hcel)
        · cases h
    cases e with
    | ListComp elt gs scope cp =>
      cases gs with
      | nil => cases h
      | cons g gs =>
        cases gs with
        | cons _ _ => cases h
        | nil => exact lc rfl h
    | SetComp _ _ _ _ => cases h
    | DictComp _ _ _ _ _ => cases h
    | _ => exact gen rfl h
  | Tuple ts q p =>
    have lc : ∀ {elt : Expr} {g : Comprehension} {scope : Scope} {cp : Pos}, ((trComp Γ f sc elt g scope).bind fun m => (trT Γ.N sc sc (.Tuple ts q p)).bind fun t => match t with
      | .tup is => some (sUnl is m)
      | .one _ => none) = some m → PS X (.Assign [.Tuple ts q p] (.ListComp elt [g] scope cp) pos) (tS G W m) := fun {elt g scope cp} h => by
      simp only [Option.bind_eq_some_iff] at h
      obtain ⟨ma, hma, t, ht, h⟩ := h
      cases t with
      | one i => cases h
      | tup is =>
        cases h
        have hp : PE X (.ListComp elt [g] scope cp) (tE G W ma) := by
          obtain ⟨tg, iter, ifs, mi, own, st, is, mc, me, rfl, rfl, hii, pi, bo, pg, pt, pe, fo⟩ := g_comp ih hma c.toCxO
          exact PE.imp (pe_lc c.calm nd pi bo pg pt pe fo) fun σ H Q q => comp_key σ H Q hii q
        exact tS_unl ht c hp rfl rfl
    have gen : (if isComp e || isTupE e then none else (f sc e).bind fun m => (trT Γ.N sc sc (.Tuple ts q p)).map fun t => sSet t.st m) = some m → PS X (.Assign [.Tuple ts q p] e pos) (tS G W m) := ?_
    · cases e with
      | ListComp elt gs scope cp =>
        cases gs with
        | nil => cases h
        | cons g gs =>
          cases gs with
          | cons _ _ => cases h
          | nil => exact lc h
      | _ => exact gen h
    clear h
    intro h
    split at h
    · cases h
    · rename_i hc
      rw [Bool.or_eq_true, not_or] at hc
      simp only [Option.bind_eq_some_iff, Option.map_eq_some_iff] at h
      obtain ⟨ma, hma, t, ht, rfl⟩ := h
      have hc1 : isComp e = false := by simpa using hc.1
      have hc2 : isTupE e = false := by simpa using hc.2
      exact tS_set (ps_asg (ih _ _ _ hma X W c.toCxO).1 (tgt_S ht c) (by have z := sw_none (t := some (.Tuple ts q p)) (l := pos.line) (env := X.env) hc1; exact z) (sw_tup hc2) rfl)
  | Attribute o x p =>
    simp only [trAsg, Option.bind_eq_some_iff, Option.map_eq_some_iff] at h
    obtain ⟨ma, hma, mo, hmo, i, hi, rfl⟩ := h
    have e := c.fx.fld x i hi
    subst e
    exact tS_fld c.fx.hK c.fx.inj c.fx.fo (ih _ _ _ hmo X W c.toCxO).1 (ih _ _ _ hma X W c.toCxO).1 sw_attr
  | Subscript o i p =>
    simp only [trAsg] at h
    split at h
    · cases h
    · rename_i hc
      simp only [Option.bind_eq_some_iff, Option.map_eq_some_iff] at h
      obtain ⟨ma, hma, mo, hmo, mi, hmi, rfl⟩ := h
      rw [Bool.or_eq_true, not_or] at hc
      have hc1 : isComp e = false := by simpa using hc.1
      have hc2 : isSlE i = false := by simpa using hc.2
      refine tS_itm (ih _ _ _ hmo X W c.toCxO).1 (ih _ _ _ hmi X W c.toCxO).1 (ih _ _ _ hma X W c.toCxO).1 ?_ ?_ fun v => ?_
      · have z := sw_none (t := some (.Subscript o i p)) (l := pos.line) (env := X.env) hc1
        exact z
      · rfl
      · cases i <;> first | rfl | cases hc2
  | _ => cases h
theorem stepS_ok (ih : ∀ sc e m, f sc e = some m → Good Γ G k lo sc e m) (ib : ∀ ss m, B ss = some m → PSs X ss (tS G W m)) (c : CxS Γ G k lo X W sc) (st : Stmt) (m : Ms) (h : stepS Γ f B sc st = some m) : PS X st (tS G W m) := by
  cases st with
  | Pass p => cases h; exact tS_pass
  | Continue p => cases h; exact tS_cont
  | Expr e p =>
    simp only [stepS] at h
    split at h
    · cases h
    · rename_i hc
      simp only [Option.map_eq_some_iff] at h
      obtain ⟨ma, hma, rfl⟩ := h
      exact tS_drop (ih _ _ _ hma X W c.toCxO).1 (sw_none (by simpa using hc))
  | Return v p =>
    cases v with
    | none => cases h
    | some e =>
      simp only [stepS, Option.map_eq_some_iff] at h
      obtain ⟨ma, hma, rfl⟩ := h
      exact tS_ret (ih _ _ _ hma X W c.toCxO).1
  | If d a b p =>
    simp only [stepS, Option.bind_eq_some_iff, Option.map_eq_some_iff] at h
    obtain ⟨x, hx, y, hy, z, hz, rfl⟩ := h
    exact tS_if (ih _ _ _ hx X W c.toCxO).2 (ib _ _ hy) (ib _ _ hz)
  | While d b el p =>
    cases el with
    | cons _ _ => cases h
    | nil =>
      simp only [stepS, Option.bind_eq_some_iff, Option.map_eq_some_iff] at h
      obtain ⟨x, hx, y, hy, rfl⟩ := h
      exact tS_whl c.own (ih _ _ _ hx X W c.toCxO).2 (ib _ _ hy)
  | For tg it b el p =>
    cases el with
    | cons _ _ => cases h
    | nil =>
      simp only [stepS, Option.bind_eq_some_iff, Option.map_eq_some_iff] at h
      obtain ⟨mi, hmi, t, ht, y, hy, rfl⟩ := h
      obtain ⟨pi, fo⟩ := it_ok (tg := tg) ih hmi c.toCxO
      exact tS_for c.own c.calm pi (tgt_S ht c) (ib _ _ hy) fo
  | Assign tgs e p =>
    cases tgs with
    | nil => cases h
    | cons tg tgs =>
      cases tgs with
      | cons _ _ => cases h
      | nil => exact s_asg ih h c
  | Raise ex ca p =>
    cases ca with
    | some _ => cases ex <;> cases h
    | none =>
      cases ex with
      | none => cases h
      | some e =>
        simp only [stepS, Option.bind_eq_some_iff] at h
        obtain ⟨⟨x, a⟩, ha, h⟩ := h
        split at h
        · rename_i hq
          obtain ⟨hg, hn⟩ := and6 hq
          split at h
          · rename_i cn hcn
            split at h
            · rename_i hs
              simp only [Option.map_eq_some_iff] at h
              obtain ⟨ma, hma, rfl⟩ := h
              obtain ⟨q1, q2, rfl⟩ := raiseA_ok ha
              exact tS_raiseW c.calm c.tk (c.fx.exw _ _ hcn) (c.room3.mono (by omega)) (c.gl hg) (okN_1 hn) (ih _ _ _ hma X W c.toCxO).1 hs
            · cases h
          · simp only [Option.bind_eq_some_iff] at h
            obtain ⟨y, hy, h⟩ := h
            split at h
            · rename_i exy
              dsimp only at exy hg hn
              subst exy
              simp only [Option.map_eq_some_iff] at h
              obtain ⟨cn, hc, rfl⟩ := h
              obtain ⟨e1, e2, e3, e4, e5⟩ := c.fx.exs _ cn hc
              obtain ⟨q1, msg, j, q2, q3, rfl⟩ := raiseN_ok hy
              exact tS_raise c.calm c.tk e2 e1 e3 (raises_own e4 e5) (c.gl hg) (okN_1 hn)
            · cases h
        · cases h
  | _ => cases h
theorem trSs_ok : ∀ (n ne : Nat) (ss : List Stmt) (m : Ms), trSs Γ lo ne n sc ss = some m → CxS Γ G k lo X W sc → PSs X ss (tS G W m)
  | 0, _, _, _, h, _ => by cases h
  | n + 1, ne, ss, m, h, c => by
    have h : trB1 (stepS Γ (trE Γ lo ne) (trSs Γ lo ne n sc) sc) ss = some m := h
    have ib : ∀ ss m, trSs Γ lo ne n sc ss = some m → PSs X ss (tS G W m) := fun ss m h => trSs_ok n ne ss m h c
    have all : ∀ (ss : List Stmt) (m : Ms), trB1 (stepS Γ (trE Γ lo ne) (trSs Γ lo ne n sc) sc) ss = some m → PSs X ss (tS G W m) := by
      intro ss
      induction ss with
      | nil => intro m h; cases h; exact tS_nil
      | cons st r ihr =>
        intro m h
        simp only [trB1, Option.bind_eq_some_iff, Option.map_eq_some_iff] at h
        obtain ⟨a, ha, b, hb, rfl⟩ := h
        exact tS_cons (stepS_ok (fun sc e m => trE_ok ne lo sc e m) ib c st a ha) (ihr b hb)
    exact all ss m h
end
end Mp

/-! Mp18: all defs of a program keep what the plain functions tell. -/
namespace Mp
open PySem L2 LamX PyProof.Rows
structure Def1 where
  d : He.DefD
  N : List Str
  ps : List Str
  lo : Nat
  body : CL → Ms
def Def1.fn (q : Def1) : Fn := ⟨q.ps.length, q.N.length, q.body, q.lo⟩
abbrev Gam.at (Γ : Gam) (N : List Str) (cl : CL) : Gam := { Γ with N := N, cl := cl }
structure DefOk (Γ : Gam) (q : Def1) : Prop where
  sc : FnScope q.N q.ps q.d.scope
  tr : ∀ cl, trSs (Γ.at q.N cl) q.lo 60 40 q.d.scope q.d.body = some (q.body cl)
  bind : ∀ (kV doc pm : Value) (an : Option Addr) (cdv ct : Value) (us : List Value), us.length = q.ps.length → bindArgs (PySem.W.fnOf q.d.name q.d.qual q.d.params q.d.body q.d.scope .none kV doc pm an cdv ct) ⟨us, []⟩ = pure (q.ps.zip us)
  dfl : q.d.dfl = []
  kwd : q.d.kwd = []
/-- facts that hold at every depth -/
structure Sx (w : World) (K : PySem.W.Frag) (mg : Str → Option Value) (base : Heap) (Γ : Gam) (G : Wd) (defs : List Def1) : Prop where
  hK : K = G.K
  inj : ∀ f g, G.fnm f = G.fnm g → f = g
  fund : ∀ q ∈ defs, ∃ fd, FunD K q.d.name q.d.qual q.d.params q.d.body q.d.scope [] [] (He.fAd K q.d.at_) fd
  cst : ∀ x d, Γ.cst.lookup x = some d → ∃ u v, mg x = some u ∧ RelV v u ∧ ∀ H as, RV G.K H as v d
  fns : ∀ x i, Γ.fns.lookup x = some i → ∃ q, defs[i]? = some q ∧ q.d.at_ = (x, none) ∧ mg x = some (.ref (He.ga K x))
  cls : ∀ x c i, Γ.cls.lookup x = some (c, i) → G.cls c = He.ga K x ∧ mg x = some (.ref (He.ga K x)) ∧ Mk K (He.ga K x) (He.ma K (He.ga K x) "__init__") ∧ Cls K (He.ga K x) ∧ ∃ q, defs[i]? = some q ∧ q.d.at_ = (x, some ("__init__" : Str))
  fld : ∀ x i, Γ.fld.lookup x = some i → G.fnm i = x
  mes : ∀ m l c i, Γ.mes.lookup m = some l → l.lookup c = some i → ∃ q C, defs[i]? = some q ∧ G.cls c = He.ga K C ∧ q.d.at_ = (C, some m) ∧ Cls K (He.ga K C) ∧ Meth K (He.ga K C) m (He.ma K (He.ga K C) m)
  fre : ∀ x ∈ Γ.fre, mg x = none
  exs : ∀ x c, Γ.exs.lookup x = some c → mg x = some (.ref (G.cls c)) ∧ PySem.W.excIn K (G.cls c) He.veBase "ValueError.__new__" = true ∧ PySem.W.keepIn K (.ref (G.cls c)) = true ∧ PySem.W.subIn K (.ref (G.cls c)) (.type "BaseException") = some true ∧ PySem.W.typeIn K (.ref (G.cls c)) = some (.type "type")
  fo : ∀ q ∈ Γ.fo, NoAttr G.K (G.cls q.1) (G.fnm q.2)
  tld : ∀ c j, Γ.tld.lookup c = some j → ToldC K mg Γ.bas (G.cls c) j
  exw : ∀ x c, Γ.exw.lookup x = some c → ExW K mg x (G.cls c)
  kdc : ∀ x kvs, Γ.kdc.lookup x = some kvs → ∃ a, mg x = some (.ref a) ∧ KDc K w a kvs
  lam : ∀ q ∈ defs, q.lo = 2 → TabB base mg (He.cT K q.d.at_).1 (He.cT K q.d.at_).2 ∧ ((He.cT K q.d.at_).2, q.d.qual ++ ".<locals>." ++ "<lambda>") ∈ G.T ∧ (∀ z ∈ G.T, z.1 = (He.cT K q.d.at_).2 → z.2 = q.d.qual ++ ".<locals>." ++ "<lambda>") ∧ ToldF K mg Γ.told Γ.bas Γ.wrd
section
variable {P : Program} {w : World} {K : PySem.W.Frag} {mg : Str → Option Value} {base : Heap} {Γ : Gam} {G : Wd} {defs : List Def1}
theorem REn.start {H : Hp} {as : List Addr} {N : List Str} {vs : List V} {ds : List D} (l : RL G.K H as vs ds) : REn G.K H as (L2.start N vs) (ds.map some ++ List.replicate (N.length - ds.length) none) := by
  refine ⟨?_, fun i d e => ?_⟩
  · unfold L2.start
    simp [l.length]
  · unfold L2.start
    by_cases hi : i < ds.length
    · rw [List.getElem?_append_left (by simpa using hi), List.getElem?_map] at e
      cases q : ds[i]? with
      | none => rw [q] at e; cases e
      | some d' =>
        rw [q] at e
        cases e
        obtain ⟨v, ev, rv⟩ := l.get q
        refine ⟨v, ?_, rv⟩
        rw [List.getElem?_append_left (by rw [List.length_map, l.length]; exact hi), List.getElem?_map, ev]
        rfl
    · rw [List.getElem?_append_right (by simpa using hi), List.getElem?_replicate] at e
      split at e <;> cases e
theorem fd_at {x qual : Str} {params : Arguments} {body : List Stmt} {scope : Scope} {dvs : List V} {kws : List (Str × V)} {f : Addr} {fd : FuncData} (F : FunD K x qual params body scope dvs kws f fd) : ∃ oc od osl, K.lookup f = some ⟨oc, od, .func fd, osl⟩ := by
  obtain ⟨oc, od, dV, kV, doc, pm, an, cdv, ct, osl, e, lk, hcd, _, _⟩ := F.ex
  exact ⟨oc, od, osl, lk⟩
/-- what is shown of a def at a depth -/
def DefAt (P : Program) (w : World) (K : PySem.W.Frag) (mg : Str → Option Value) (base : Heap) (G : Wd) (r : Nat) (q : Def1) (F : List D → DH → Res) : Prop :=
  ∃ fd, (∃ oc od osl, K.lookup (He.fAd K q.d.at_) = some ⟨oc, od, .func fd, osl⟩) ∧ L2.Binds K fd q.ps [] ∧ PySem.W.keepIn K (.ref (He.fAd K q.d.at_)) = true ∧ FnOk P w K mg base (L2N.CX P w) r (He.fAd K q.d.at_) fd q.ps (spD G F)
theorem def_err (S : Sx w K mg base Γ G defs) (ok : ∀ q ∈ defs, DefOk Γ q) {r : Nat} {q : Def1} {F : List D → DH → Res} (mq : q ∈ defs) (he : ∀ ds h, F ds h = .err) : DefAt P w K mg base G r q F := by
  obtain ⟨fd, F1⟩ := S.fund q mq
  exact ⟨fd, fd_at F1, F1.bindsN (ok q mq).bind, F1.kp, ⟨fun vs H Q E ⟨_, _, _, _, _, o⟩ => by rw [he] at o; exact o.elim, fun A outer s H args us vs Q E hr he2 hb hv ⟨_, _, _, _, _, o⟩ => by rw [he] at o; exact o.elim⟩⟩
theorem def_step (S : Sx w K mg base Γ G defs) (ok : ∀ q ∈ defs, DefOk Γ q) (k : Nat) (ih : ∀ (i : Nat) (q : Def1), defs[i]? = some q → DefAt P w K mg base G (k + 2) q (callN (defs.map Def1.fn) k i)) {r : Nat} {q : Def1} {F : List D → DH → Res} (mq : q ∈ defs) (hr1 : k + 2 ≤ r) (hr0 : q.lo ≠ 0 → k + 3 ≤ r) (hr2 : q.lo = 2 → k + 5 ≤ r)
    (hsp : ∀ (ds : List D) (h : DH), F ds h = runB (q.body (callN (defs.map Def1.fn) k)) q.ps.length q.N.length ds h) : DefAt P w K mg base G (r + 1) q F := by
    obtain ⟨fd, F⟩ := S.fund q mq
    refine ⟨fd, fd_at F, F.bindsN (ok q mq).bind, F.kp, ?_⟩
    have O := ok q mq
    obtain ⟨oc, od, dV, kV, doc, pm, an, cdv, ct, osl, rfl, lk, hcd, _, _⟩ := F.ex
    have fx : Fx P w K mg base (Γ.at q.N (callN (defs.map Def1.fn) k)) G k := {
      hK := S.hK
      inj := S.inj
      cst := S.cst
      fns := fun x g hg => by
        obtain ⟨q2, h1, h2, h3⟩ := S.fns x g hg
        obtain ⟨fd2, _, b2, kp2, F2⟩ := ih g q2 h1
        have e : He.fAd K q2.d.at_ = He.ga K x := by rw [h2]; rfl
        rw [e] at kp2 F2
        exact ⟨_, fd2, q2.ps, h3, kp2, b2, F2⟩
      cls := fun x c g hg => by
        obtain ⟨h1, h2, h3, h4, q2, h5, h6⟩ := S.cls x c g hg
        obtain ⟨fd2, _, b2, kp2, F2⟩ := ih g q2 h5
        have e : He.fAd K q2.d.at_ = He.ma K (He.ga K x) "__init__" := by rw [h6]; rfl
        rw [e] at F2
        rw [h1]
        exact ⟨_, fd2, q2.ps, h2, h3, h4, b2, F2⟩
      fld := S.fld
      mes := fun m l c g hl hc => by
        obtain ⟨q2, C, h1, h2, h3, h4, h5⟩ := S.mes m l c g hl hc
        obtain ⟨fd2, _, b2, kp2, F2⟩ := ih g q2 h1
        have e : He.fAd K q2.d.at_ = He.ma K (He.ga K C) m := by rw [h3]; rfl
        rw [e] at F2
        rw [h2]
        exact ⟨_, fd2, q2.ps, h4, h5, F2, b2⟩
      fre := S.fre
      exs := S.exs
      fo := S.fo
      tld := S.tld
      exw := S.exw
      kdc := S.kdc }
    refine fn_of (k := r) lk hcd O.sc (fun vs H Q E z => ?_) fun A outer s H vs Q E hr z => ?_
    · obtain ⟨as, h, ds, rh, rl, o⟩ := z
      rw [hsp] at o
      unfold runB at o
      split at o
      · rename_i hl
        rw [rl.length]
        exact hl
      · exact o.elim
    · have cx : CxS (Γ.at q.N (callN (defs.map Def1.fn) k)) G k q.lo (cxOf (L2N.CX P w) P w K mg base q.N q.d.qual q.d.scope (He.fAd K q.d.at_) cdv A outer s H E) (fun cls d _ H => E cls d H) q.d.scope := {
        fx := fx
        N := rfl
        nd := O.sc.nd
        sc := rfl
        calm := rfl
        tk := L2N.takes_of rfl rfl rfl rfl
        room := hr.mono hr1
        mkr := fun hlo => hr.mono (hr0 hlo)
        lam := fun hlo => by
          obtain ⟨h1, h2, h3, h4⟩ := S.lam q mq hlo
          obtain ⟨c, hc⟩ := He.codeIn_ref hcd
          have ec := He.codeOf_eq (p := q.d.at_) (c := c) lk hc
          refine ⟨_, _, h1, ?_, h2, h3, h4, hr.mono (hr2 hlo)⟩
          show cdv = .ref (He.codeOf K q.d.at_)
          rw [ec, hc]
        fn := fun _ => rfl
        own := passes_of rfl
        room3 := hr.mono hr1 }
      refine ⟨_, trSs_ok 40 60 _ _ (O.tr (callN (defs.map Def1.fn) k)) cx, ?_⟩
      obtain ⟨as, h, ds, rh, rl, o⟩ := z
      refine ⟨as, h, _, rh, REn.start rl, ?_⟩
      dsimp only at o ⊢
      rw [hsp] at o
      unfold runB at o
      split at o
      · have eb : ds.length = vs.length := rl.length.symm
        cases qb : q.body (callN (defs.map Def1.fn) k) (ds.map some ++ List.replicate (q.N.length - ds.length) none) h with
        | nx e1 h1 =>
          rw [qb] at o
          exact fun σ' H' as' x _ rh' => o .non H' as' x .non rh'
        | rt d h1 => rw [qb] at o; exact o
        | exc c w e1 h1 =>
          rw [qb] at o
          exact fun dx σ' H' as' x ex _ rh' => o dx H' as' x ex rh'
        | bk _ _ => rw [qb] at o; exact o.elim
        | ct _ _ => rw [qb] at o; exact o.elim
        | err => rw [qb] at o; exact o.elim
      · exact o.elim
theorem callN_0 {k i : Nat} {q : Def1} (hq : defs[i]? = some q) (hl : q.lo = 0) (ds : List D) (h : DH) : callN (defs.map Def1.fn) (k + 1) i ds h = runB (q.body (callN (defs.map Def1.fn) k)) q.ps.length q.N.length ds h := by
  unfold callN
  rw [List.getElem?_map, hq]
  simp only [Option.map_some, Def1.fn, hl]
theorem callN_1 {k i : Nat} {q : Def1} (hq : defs[i]? = some q) (hl : q.lo = 1) (ds : List D) (h : DH) : callN (defs.map Def1.fn) (k + 2) i ds h = runB (q.body (callN (defs.map Def1.fn) k)) q.ps.length q.N.length ds h := by
  unfold callN
  rw [List.getElem?_map, hq]
  simp only [Option.map_some, Def1.fn, hl]
theorem callN_2 {k i : Nat} {q : Def1} (hq : defs[i]? = some q) (hl : q.lo = 2) (ds : List D) (h : DH) : callN (defs.map Def1.fn) (k + 4) i ds h = runB (q.body (callN (defs.map Def1.fn) k)) q.ps.length q.N.length ds h := by
  unfold callN
  rw [List.getElem?_map, hq]
  simp only [Option.map_some, Def1.fn, hl]
theorem callN_e {k i : Nat} {q : Def1} (hq : defs[i]? = some q) (hl : (q.lo = 1 ∧ k = 0) ∨ (q.lo = 2 ∧ k < 3) ∨ 3 ≤ q.lo) (ds : List D) (h : DH) : callN (defs.map Def1.fn) (k + 1) i ds h = .err := by
  unfold callN
  rw [List.getElem?_map, hq]
  simp only [Option.map_some, Def1.fn]
  split <;> first | rfl | (rename_i e; omega) | (exfalso; omega)
theorem defs_ok (S : Sx w K mg base Γ G defs) (ok : ∀ q ∈ defs, DefOk Γ q) : ∀ (k i : Nat) (q : Def1), defs[i]? = some q → DefAt P w K mg base G (k + 2) q (callN (defs.map Def1.fn) k i) := by
  intro k
  induction k using Nat.strongRecOn with
  | ind k ih =>
    intro i q hq
    have mq := List.mem_of_getElem? hq
    cases k with
    | zero => exact def_err S ok mq fun _ _ => rfl
    | succ k =>
      by_cases h0 : q.lo = 0
      · exact def_step S ok k (fun i q hq => ih k (by omega) i q hq) (r := k + 2) mq (by omega) (fun z => absurd h0 z) (fun z => by omega) (callN_0 hq h0)
      by_cases h1 : q.lo = 1
      · cases k with
        | zero => exact def_err S ok mq (callN_e hq (.inl ⟨h1, rfl⟩))
        | succ k => exact def_step S ok k (fun i q hq => ih k (by omega) i q hq) (r := k + 3) mq (by omega) (fun z => by omega) (fun z => by omega) (callN_1 hq h1)
      by_cases h2 : q.lo = 2
      · by_cases h3 : k < 3
        · exact def_err S ok mq (callN_e hq (.inr (.inl ⟨h2, h3⟩)))
        · obtain ⟨j, rfl⟩ : ∃ j, k = j + 3 := ⟨k - 3, by omega⟩
          exact def_step S ok j (fun i q hq => ih j (by omega) i q hq) (r := j + 5) mq (by omega) (fun z => by omega) (fun z => by omega) (callN_2 hq h2)
      · exact def_err S ok mq (callN_e hq (.inr (.inr (by omega))))
end
end Mp

/-! Mp19: a program's tables; the head's facts; the law's end. -/
namespace Mp
open PySem L2 LamX PyProof.Rows
structure Prg where
  gam : Gam
  defs : List Def1
  cn : List Str
  fnn : List Str
  toldD : He.DefD
  wordD : He.DefD
  wcs : Scope
  exiD : List He.DefD
def Prg.cname (p : Prg) (c : Nat) : Str := p.cn.getD c ""
def fnmOf (l : List Str) (i : Nat) : Str := match l[i]? with
  | some x => x
  | none => ⟨Array.replicate (1000 + i) 0⟩
theorem fnm_inj {l : List Str} (nd : l.Nodup) (sh : l.all (fun x => decide (x.cps.size < 1000)) = true) (f g : Nat) (h : fnmOf l f = fnmOf l g) : f = g := by
  unfold fnmOf at h
  have small : ∀ {i : Nat} {x : Str}, l[i]? = some x → x.cps.size < 1000 := fun {i x} e => of_decide_eq_true (List.all_eq_true.mp sh x (List.mem_of_getElem? e))
  cases e1 : l[f]? with
  | some x =>
    cases e2 : l[g]? with
    | some y =>
      rw [e1, e2] at h
      have h : x = y := h
      subst h
      obtain ⟨h1, q1⟩ := List.getElem?_eq_some_iff.mp e1
      obtain ⟨h2, q2⟩ := List.getElem?_eq_some_iff.mp e2
      exact (List.getElem_inj nd).mp (q1.trans q2.symm)
    | none =>
      rw [e1, e2] at h
      have h : x = _ := h
      have := small e1
      rw [h] at this
      simp at this
      omega
  | none =>
    cases e2 : l[g]? with
    | some y =>
      rw [e1, e2] at h
      have h : _ = y := h
      have := small e2
      rw [← h] at this
      simp at this
      omega
    | none =>
      rw [e1, e2] at h
      have h := congrArg (fun s : Str => s.cps.size) h
      simp at h
      exact h
def Prg.los (p : Prg) : List Def1 := p.defs.filter (fun q => decide (q.lo = 2))
def lamQ (q : Def1) : Str := q.d.qual ++ ".<locals>." ++ "<lambda>"
def Prg.G (p : Prg) (K : PySem.W.Frag) : Wd := { K := K, cls := fun c => He.ga K (p.cname c), fnm := fnmOf p.fnn, T := p.los.map fun q => ((He.cT K q.d.at_).2, lamQ q) }
def cstFa : Str × D → Option He.Fa
  | (x, .int i) => some (.int x i)
  | (x, .str z) => some (.str x ⟨z.toArray⟩)
  | (x, .tup _) => some (.glo x)
  | _ => none
def dvsOf : List D → Option (List He.Dv)
  | [] => some []
  | d :: r => (dvOf d).bind fun v => (dvsOf r).map fun l => v :: l
def Prg.last (p : Prg) : List He.Fa := [.glo p.gam.told, .glo p.gam.bas, .glo "law", .glo p.gam.wrd] ++ (W6.map .glo ++ ([.free "isinstance", .free "sum", .free "int", .free "ValueError"] ++ (p.gam.exw.map (fun q => .glo q.1) ++ p.gam.kdc.map fun q => .glo q.1)))
def excCB (K : PySem.W.Frag) (D : Addr) : Bool := decide (PySem.W.findIn K (.ref D) "__getattribute__" = some (some (.builtin "BaseException.__getattribute__"))) && (decide (PySem.W.findIn K (.ref D) "__getattr__" = some none) && (decide (PySem.W.subIn K (.ref D) (.type "BaseException") = some true) && (PySem.W.hasDictIn K D && (decide (PySem.W.findIn K (.ref D) "__class__" = some (some (.builtin "object.__class__"))) &&
  (decide (PySem.W.specialIn K (.builtin "object.__class__") "__get__" = some (some (.builtin "getset_descriptor.__get__"))) && (decide (PySem.W.takesIn K (.builtin "object.__class__") = some true) && decide (PySem.W.mroIn K D (.type "object") = some true)))))))
theorem excCB_ok {K : PySem.W.Frag} {D : Addr} (h : excCB K D = true) : ExcC K D := by
  unfold excCB at h
  simp only [Bool.and_eq_true, decide_eq_true_eq] at h
  obtain ⟨h1, h2, h3, h4, h5, h6, h7, h8⟩ := h
  exact ⟨h1, h2, h3, h4, h5, h6, h7, h8⟩
def toldCB (K : PySem.W.Frag) (bas : Str) (D : Addr) (j : Nat) : Bool := decide (PySem.W.exmOne K (.ref D) (.ref (He.ga K bas)) = some true) && (excCB K D && (((List.range 6).all fun i => decide (PySem.W.kitOne K (.ref D) (.ref (He.ga K (W6.getD i ""))) = some (decide (i = j)))) && (decide (PySem.W.kitOne K (.ref D) (.type "ValueError") = some true) && (decide (j ≠ 5) || decide (PySem.W.findIn K (.ref D) "word" = some none)))))
theorem toldCB_ok {K : PySem.W.Frag} {mg : Str → Option Value} {bas : Str} {D : Addr} {j : Nat} (h : toldCB K bas D j = true) (mb : mg bas = some (.ref (He.ga K bas))) (m6 : ∀ x ∈ W6, mg x = some (.ref (He.ga K x))) (mv : mg "ValueError" = none) : ToldC K mg bas D j := by
  unfold toldCB at h
  simp only [Bool.and_eq_true, Bool.or_eq_true, decide_eq_true_eq, List.all_eq_true] at h
  obtain ⟨h1, h2, h3, h4, h5⟩ := h
  refine ⟨fun CS hc => ?_, ⟨excCB_ok h2, by simp [hot6], fun i x b hx hb => ?_, h4, mv⟩, fun hj => ?_⟩
  · rw [mb] at hc
    cases hc
    exact h1
  · have hi : i < 6 := by
      have := (List.getElem?_eq_some_iff.mp hx).1
      exact this
    refine ⟨He.ga K x, m6 x (List.mem_of_getElem? hx), ?_⟩
    have z := h3 i (List.mem_range.mpr hi)
    have e1 : W6.getD i "" = x := by rw [List.getD_eq_getElem?_getD, hx]; rfl
    rw [e1] at z
    unfold hot6 at hb
    rw [List.getElem?_map, List.getElem?_range hi] at hb
    cases hb
    exact z
  · rcases h5 with h5 | h5
    · exact absurd hj h5
    · exact h5
def exwB (K : PySem.W.Frag) (C : Addr) : Bool := oexB K C && (decide (PySem.W.findIn K (.ref C) "word" = some none) && (decide (PySem.W.findIn K (.ref C) "__init__" = some (some (.ref (He.ma K C "__init__")))) && decide (PySem.W.typeIn K (.ref (He.ma K C "__init__")) = some (.type "function"))))
structure InitOk (d : He.DefD) : Prop where
  dfl : d.dfl = []
  kwd : d.kwd = []
  bd : initV d.body = true
  sc : FnScope ["self", "word"] ["self", "word"] d.scope
  v0 : Vis d.scope "self"
  v1 : Vis d.scope "word"
  bind : ∀ (kV doc pm : Value) (an : Option Addr) (cdv ct : Value) (us : List Value), us.length = ([("self" : Str), "word"] : List Str).length → bindArgs (PySem.W.fnOf d.name d.qual d.params d.body d.scope .none kV doc pm an cdv ct) ⟨us, []⟩ = pure (([("self" : Str), "word"] : List Str).zip us)
structure WordOk (d : He.DefD) (cs : Scope) : Prop where
  dfl : d.dfl = []
  kwd : d.kwd = []
  bd : wordV cs d.body = true
  sc : WordS ["e", "flags", "flag"] d.scope cs
  bind : ∀ (kV doc pm : Value) (an : Option Addr) (cdv ct : Value) (us : List Value), us.length = ([("e" : Str)] : List Str).length → bindArgs (PySem.W.fnOf d.name d.qual d.params d.body d.scope .none kV doc pm an cdv ct) ⟨us, []⟩ = pure (([("e" : Str)] : List Str).zip us)
theorem word_of {K : PySem.W.Frag} {mg : Str → Option Value} {d : He.DefD} {cs : Scope} {wd : Str} {fd : FuncData} (F : FunD K d.name d.qual d.params d.body d.scope (d.dvs K) (d.kws K) (He.fAd K d.at_) fd) (W : WordOk d cs) (at_ : d.at_ = (wd, none)) (mw : mg wd = some (.ref (He.ga K wd))) (fre : ∀ x ∈ (["isinstance", "sum", "int"] : List Str), mg x = none) : WordF K mg wd := by
  have e1 : d.dvs K = [] := by unfold He.DefD.dvs; rw [W.dfl]; rfl
  have e2 : d.kws K = [] := by unfold He.DefD.kws; rw [W.kwd]; rfl
  rw [e1, e2] at F
  have hb := F.bindsN W.bind
  have kp := F.kp
  obtain ⟨oc, od, dV, kV, doc, pm, an, cdv, ct, osl, rfl, lk, hcd, _, _⟩ := F.ex
  have ea : He.fAd K d.at_ = He.ga K wd := by rw [at_]; rfl
  rw [ea] at kp lk
  exact ⟨_, _, mw, kp, hb, fun P w base => word_fn lk hcd W.bd W.sc fre⟩
theorem exw_of {K : PySem.W.Frag} {mg : Str → Option Value} {d : He.DefD} {x : Str} {fd : FuncData} (F : FunD K d.name d.qual d.params d.body d.scope (d.dvs K) (d.kws K) (He.fAd K d.at_) fd) (W : InitOk d) (at_ : d.at_ = (x, some ("__init__" : Str))) (mw : mg x = some (.ref (He.ga K x))) (h : exwB K (He.ga K x) = true) : ExW K mg x (He.ga K x) := by
  have e1 : d.dvs K = [] := by unfold He.DefD.dvs; rw [W.dfl]; rfl
  have e2 : d.kws K = [] := by unfold He.DefD.kws; rw [W.kwd]; rfl
  rw [e1, e2] at F
  have hb := F.bindsN W.bind
  obtain ⟨oc, od, dV, kV, doc, pm, an, cdv, ct, osl, rfl, lk, hcd, _, _⟩ := F.ex
  have ea : He.fAd K d.at_ = He.ma K (He.ga K x) "__init__" := by rw [at_]; rfl
  rw [ea] at lk
  unfold exwB at h
  simp only [Bool.and_eq_true, decide_eq_true_eq] at h
  obtain ⟨h1, h2, h3, h4⟩ := h
  exact ⟨mw, oexB_ok h1, _, _, h3, h4, hb, fun P w m base => init_fn lk hcd W.bd W.sc W.v0 W.v1 (oexB_ok h1) h2⟩
def Prg.fa (p : Prg) : List He.Fa :=
  p.gam.fns.map (fun q => .glo q.1) ++ (p.gam.cls.map (fun q => .glo q.1) ++ (p.gam.cls.map (fun q => .cls q.1) ++ (p.gam.cls.map (fun q => .mkr q.1) ++
  (p.gam.mes.flatMap (fun q => q.2.map fun z => .meth (p.cname z.1) q.1) ++ (p.gam.fre.map .free ++ (p.gam.exs.map (fun q => .glo q.1) ++ (p.gam.exs.map (fun q => .exc q.1) ++
  (p.gam.fo.map (fun q => .noat (p.cname q.1) (fnmOf p.fnn q.2)) ++ (p.gam.cst.filterMap cstFa ++ p.last)))))))))
def Prg.fn (p : Prg) : List He.DefD := p.defs.map (·.d) ++ ([p.toldD, p.wordD] ++ p.exiD)
def Prg.ts (p : Prg) : List He.Tab := p.gam.kdc.map fun q => (fun K => He.ga K q.1, q.2.map fun z => (⟨z.1.toArray⟩ : Str))
def kdOne (K : PySem.W.Frag) (q : Str × List (Tx × D)) : Bool := match kdvOf q.2 with
  | some vs => kdChk K (He.ga K q.1) vs
  | none => false
def Prg.tf (p : Prg) : List He.Defn := p.los.map (·.d.at_)
def tupCst (K : PySem.W.Frag) : Str × D → Bool
  | (x, .tup ds) => match dvsOf ds with
    | some vs => He.tupB K x vs
    | none => false
  | _ => true
def Prg.ex (p : Prg) (K : PySem.W.Frag) : Bool := p.gam.cst.all (tupCst K) && ((p.gam.tld.all fun q => toldCB K p.gam.bas (He.ga K (p.cname q.1)) q.2) && ((p.gam.exw.all fun q => exwB K (He.ga K (p.cname q.2))) && (p.gam.kdc.all (kdOne K) && p.los.all fun q => p.los.all fun r => !((He.cT K q.d.at_).2 == (He.cT K r.d.at_).2) || decide (lamQ q = lamQ r))))
/-- what is looked at in the tables alone -/
def Prg.okB (p : Prg) : Bool :=
  (p.gam.fns.all fun q => match p.defs[q.2]? with | some d => decide (d.d.at_ = (q.1, none)) | none => false) &&
  ((p.gam.cls.all fun q => decide (p.cname q.2.1 = q.1) && (match p.defs[q.2.2]? with | some d => decide (d.d.at_ = (q.1, some ("__init__" : Str))) | none => false)) &&
  ((p.gam.fld.all fun q => decide (p.fnn[q.2]? = some q.1)) &&
  ((p.gam.mes.all fun q => q.2.all fun z => decide (p.cname z.1 ∈ p.gam.cls.map (·.1)) && (match p.defs[z.2]? with | some d => decide (d.d.at_ = (p.cname z.1, some q.1)) | none => false)) &&
  ((p.gam.exs.all fun q => decide (p.cname q.2 = q.1)) &&
  ((p.gam.exw.all fun q => decide (p.cname q.2 = q.1) && p.exiD.any fun d => decide (d.at_ = (q.1, some ("__init__" : Str)))) &&
  (decide p.fnn.Nodup && (p.fnn.all (fun x => decide (x.cps.size < 1000)) && (p.gam.cst.all fun q => (cstFa q).isSome))))))))
theorem look_mem {α : Type} {x : Str} {v : α} : ∀ {l : List (Str × α)}, l.lookup x = some v → (x, v) ∈ l
  | [], h => by cases h
  | (y, u) :: r, h => by
    rw [List.lookup_cons] at h
    cases q : x == y with
    | true =>
      rw [q] at h
      cases h
      rw [eq_of_beq q]
      exact List.mem_cons_self
    | false =>
      rw [q] at h
      exact List.mem_cons_of_mem _ (look_mem h)
theorem lookN_mem {α : Type} {x : Nat} {v : α} : ∀ {l : List (Nat × α)}, l.lookup x = some v → (x, v) ∈ l
  | [], h => by cases h
  | (y, u) :: r, h => by
    rw [List.lookup_cons] at h
    cases q : x == y with
    | true =>
      rw [q] at h
      cases h
      rw [eq_of_beq q]
      exact List.mem_cons_self
    | false =>
      rw [q] at h
      exact List.mem_cons_of_mem _ (lookN_mem h)
theorem dvs_RL {K : PySem.W.Frag} {G : Wd} {H : Hp} {as : List Addr} : ∀ {ds : List D} {vs : List He.Dv}, dvsOf ds = some vs → RL G.K H as (vs.map (He.Dv.v K)) ds
  | [], vs, h => by cases h; exact .nil
  | d :: r, vs, h => by
    simp only [dvsOf, Option.bind_eq_some_iff, Option.map_eq_some_iff] at h
    obtain ⟨v, hv, l, hl, rfl⟩ := h
    refine .cons ?_ (dvs_RL hl)
    cases d with
    | int i => cases hv; exact .int i
    | str z => cases hv; exact .str z
    | _ => cases hv
section
variable {p : Prg} {w : World} {K : PySem.W.Frag} {mg : Str → Option Value} {base h hh : Heap}
theorem sx_of (X : K.In hh) (Gs : hh.Ns mainGlobals mg) (c : He.SaysX p.fa p.fn p.ts p.tf p.ex w h K) (okb : p.okB = true) (ok : ∀ q ∈ p.defs, DefOk p.gam q) (TB : ∀ q ∈ p.los, TabB base mg (He.cT K q.d.at_).1 (He.cT K q.d.at_).2) (TF : ToldF K mg p.gam.told p.gam.bas p.gam.wrd) (IO : ∀ d ∈ p.exiD, InitOk d) : Sx w K mg base p.gam (p.G K) p.defs := by
  obtain ⟨b1, okb⟩ := and6 okb
  obtain ⟨b2, okb⟩ := and6 okb
  obtain ⟨b3, okb⟩ := and6 okb
  obtain ⟨b4, okb⟩ := and6 okb
  obtain ⟨b5, okb⟩ := and6 okb
  obtain ⟨b9, okb⟩ := and6 okb
  obtain ⟨b6, okb⟩ := and6 okb
  obtain ⟨b7, b8⟩ := and6 okb
  obtain ⟨x1, x2⟩ := and6 c.more
  obtain ⟨x3, x2⟩ := and6 x2
  obtain ⟨x4, x2⟩ := and6 x2
  obtain ⟨x5, x2⟩ := and6 x2
  have fa : ∀ {f : He.Fa}, f ∈ p.fa → f.ok K = true := fun hf => c.t.d.facts hf
  have m1 : ∀ {f : He.Fa} {a b : List He.Fa}, f ∈ a → f ∈ a ++ b := fun h => List.mem_append_left _ h
  have m2 : ∀ {f : He.Fa} {a b : List He.Fa}, f ∈ b → f ∈ a ++ b := fun h => List.mem_append_right _ h
  refine { hK := rfl, inj := fnm_inj (of_decide_eq_true b6) b7, fund := fun q hq => ?_, cst := fun x d hx => ?_, fns := fun x i hx => ?_, cls := fun x cc i hx => ?_, fld := fun x i hx => ?_, mes := fun m l cc i hm hl => ?_, fre := fun x hx => ?_, exs := fun x cc hx => ?_, fo := fun q hq => ?_, lam := fun q hq hlo => ?_, tld := fun cc j hx => ?_, exw := fun x cc hx => ?_, kdc := fun x kvs hx => ?_ }
  · obtain ⟨fd, F⟩ := c.t.d.defs (d := q.d) (List.mem_append_left _ (List.mem_map.mpr ⟨q, hq, rfl⟩))
    refine ⟨fd, ?_⟩
    have e1 : q.d.dvs K = [] := by unfold He.DefD.dvs; rw [(ok q hq).dfl]; rfl
    have e2 : q.d.kws K = [] := by unfold He.DefD.kws; rw [(ok q hq).kwd]; rfl
    rw [e1, e2] at F
    exact F
  · have hm := look_mem hx
    have fb := List.all_eq_true.mp b8 _ hm
    have tb := List.all_eq_true.mp x1 _ hm
    have inF : ∀ {f : He.Fa}, cstFa (x, d) = some f → f.ok K = true := fun {f} hf => fa (m2 (m2 (m2 (m2 (m2 (m2 (m2 (m2 (m2 (m1 (List.mem_filterMap.mpr ⟨(x, d), hm, hf⟩)))))))))))
    cases d with
    | int i =>
      obtain ⟨t, ht⟩ := He.int_ok X Gs (inF rfl)
      exact ⟨_, .int i, ht, ⟨t, rfl⟩, fun _ _ => .int i⟩
    | str z =>
      obtain ⟨t, ht⟩ := He.str_ok X Gs (inF rfl)
      exact ⟨_, .str ⟨z.toArray⟩, ht, ⟨t, rfl⟩, fun _ _ => .str z⟩
    | tup ds =>
      have hg := He.glo_ok X Gs (inF rfl)
      refine ⟨_, .ref (He.ga K x), hg, rfl, fun H as => ?_⟩
      have tb : (match dvsOf ds with | some vs => He.tupB K x vs | none => false) = true := tb
      cases q : dvsOf ds with
      | none => rw [q] at tb; cases tb
      | some vs =>
        rw [q] at tb
        exact .tup (He.tupB_ok tb H) (dvs_RL (K := K) (G := p.G K) q)
    | _ => cases fb
  · have hm := look_mem hx
    have z := List.all_eq_true.mp b1 _ hm
    dsimp only at z
    split at z
    · rename_i q hq
      exact ⟨q, hq, of_decide_eq_true z, He.glo_ok X Gs (fa (m1 (List.mem_map.mpr ⟨(x, i), hm, rfl⟩)))⟩
    · cases z
  · have hm := look_mem hx
    obtain ⟨z1, z2⟩ := and6 (List.all_eq_true.mp b2 _ hm)
    have ez := of_decide_eq_true z1
    dsimp only at z2 ez
    split at z2
    · rename_i q hq
      refine ⟨by show He.ga K (p.cname cc) = _; rw [ez], He.glo_ok X Gs (fa (m2 (m1 (List.mem_map.mpr ⟨_, hm, rfl⟩)))), He.mkr_ok (fa (m2 (m2 (m2 (m1 (List.mem_map.mpr ⟨_, hm, rfl⟩)))))), He.cls_ok (fa (m2 (m2 (m1 (List.mem_map.mpr ⟨_, hm, rfl⟩))))), q, hq, of_decide_eq_true z2⟩
    · cases z2
  · have z := of_decide_eq_true (List.all_eq_true.mp b3 _ (look_mem hx))
    show fnmOf p.fnn i = x
    unfold fnmOf
    have z : p.fnn[i]? = some x := z
    rw [z]
  · have hm := look_mem hm
    have hl := lookN_mem hl
    obtain ⟨z1, z2⟩ := and6 (List.all_eq_true.mp (List.all_eq_true.mp b4 _ hm) _ hl)
    have z1 := of_decide_eq_true z1
    dsimp only at z1 z2
    split at z2
    · rename_i q hq
      obtain ⟨y, hy, ey⟩ := List.mem_map.mp z1
      have hc : Cls K (He.ga K (p.cname cc)) := by
        rw [← ey]
        exact He.cls_ok (fa (m2 (m2 (m1 (List.mem_map.mpr ⟨_, hy, rfl⟩)))))
      exact ⟨q, p.cname cc, hq, rfl, of_decide_eq_true z2, hc, He.meth_ok (fa (m2 (m2 (m2 (m2 (m1 (List.mem_flatMap.mpr ⟨_, hm, List.mem_map.mpr ⟨_, hl, rfl⟩⟩)))))))⟩
    · cases z2
  · exact He.free_ok X Gs (fa (m2 (m2 (m2 (m2 (m2 (m1 (List.mem_map.mpr ⟨x, hx, rfl⟩))))))))
  · have hm := look_mem hx
    have ez := of_decide_eq_true (List.all_eq_true.mp b5 _ hm)
    have ec : (p.G K).cls cc = He.ga K x := by show He.ga K (p.cname cc) = _; rw [show p.cname cc = x from ez]
    rw [ec]
    obtain ⟨y1, y2, y3, y4⟩ := He.exc_ok (fa (m2 (m2 (m2 (m2 (m2 (m2 (m2 (m1 (List.mem_map.mpr ⟨_, hm, rfl⟩))))))))))
    exact ⟨He.glo_ok X Gs (fa (m2 (m2 (m2 (m2 (m2 (m2 (m1 (List.mem_map.mpr ⟨_, hm, rfl⟩))))))))), y1, y2, y3, y4⟩
  · exact He.noat_ok (fa (m2 (m2 (m2 (m2 (m2 (m2 (m2 (m2 (m1 (List.mem_map.mpr ⟨q, hq, rfl⟩)))))))))))
  · have hm := lookN_mem hx
    have z := List.all_eq_true.mp x3 _ hm
    have la : ∀ {f : He.Fa}, f ∈ p.last → f.ok K = true := fun hf => fa (m2 (m2 (m2 (m2 (m2 (m2 (m2 (m2 (m2 (m2 hf))))))))))
    exact toldCB_ok z (He.glo_ok X Gs (la (by unfold Prg.last; simp))) (fun x hx => He.glo_ok X Gs (la (List.mem_append_right _ (List.mem_append_left _ (List.mem_map.mpr ⟨x, hx, rfl⟩))))) (He.free_ok X Gs (la (by unfold Prg.last; simp)))
  · have hm := look_mem hx
    have z := List.all_eq_true.mp x4 _ hm
    obtain ⟨y1, y2⟩ := and6 (List.all_eq_true.mp b9 _ hm)
    have y1 : p.cname cc = x := of_decide_eq_true y1
    obtain ⟨d, hd, hat⟩ := List.any_eq_true.mp y2
    have hat : d.at_ = (x, some ("__init__" : Str)) := of_decide_eq_true hat
    have la : ∀ {f : He.Fa}, f ∈ p.last → f.ok K = true := fun hf => fa (m2 (m2 (m2 (m2 (m2 (m2 (m2 (m2 (m2 (m2 hf))))))))))
    obtain ⟨fd, F⟩ := c.t.d.defs (d := d) (List.mem_append_right _ (List.mem_append_right _ hd))
    have ec : (p.G K).cls cc = He.ga K x := by show He.ga K (p.cname cc) = _; rw [y1]
    have z : exwB K (He.ga K (p.cname cc)) = true := z
    rw [y1] at z
    rw [ec]
    exact exw_of F (IO d hd) hat (He.glo_ok X Gs (la (List.mem_append_right _ (List.mem_append_right _ (List.mem_append_right _ (List.mem_append_left _ (List.mem_map.mpr ⟨_, hm, rfl⟩))))))) z
  · have hm := look_mem hx
    have z := List.all_eq_true.mp x5 _ hm
    unfold kdOne at z
    dsimp only at z
    split at z
    · rename_i vs hv
      have la : ∀ {f : He.Fa}, f ∈ p.last → f.ok K = true := fun hf => fa (m2 (m2 (m2 (m2 (m2 (m2 (m2 (m2 (m2 (m2 hf))))))))))
      obtain ⟨i, hi⟩ := List.mem_iff_getElem?.mp hm
      refine ⟨He.ga K x, He.glo_ok X Gs (la (List.mem_append_right _ (List.mem_append_right _ (List.mem_append_right _ (List.mem_append_right _ (List.mem_map.mpr ⟨_, hm, rfl⟩)))))), kd_of hv z ?_⟩
      exact c.t.tab i (t := (fun K => He.ga K x, kvs.map fun z => (⟨z.1.toArray⟩ : Str))) (by unfold Prg.ts; rw [List.getElem?_map, hi]; rfl)
    · cases z
  · have hl : q ∈ p.los := List.mem_filter.mpr ⟨hq, decide_eq_true hlo⟩
    refine ⟨TB q hl, List.mem_map.mpr ⟨q, hl, rfl⟩, fun z hz ez => ?_, TF⟩
    obtain ⟨r, hr, rfl⟩ := List.mem_map.mp hz
    have y := List.all_eq_true.mp (List.all_eq_true.mp x2 q hl) r hr
    rw [Bool.or_eq_true, Bool.not_eq_true', beq_eq_false_iff_ne, decide_eq_true_eq] at y
    rcases y with y | y
    · exact absurd ez.symm y
    · exact y.symm
end
end Mp

/-! Mp20: the law's end. -/
namespace Mp
open PySem L2 LamX PyProof.Rows
/-- told's body -/
def toldV (a e n wd : Str) : List Stmt → Bool
  | [.Try [.Return (some (.Call (.Name a' _) [] [] _)) _] [.ExceptHandler (some (.Name e' _)) (some n') [.Return (some (.Call (.Name w' _) [.Name m' _] [] _)) _] _] [] [] _] => decide (a' = a) && (decide (e' = e) && (decide (n' = n) && (decide (w' = wd) && decide (m' = n))))
  | _ => false
theorem toldV_ok {a e n wd : Str} {b : List Stmt} (h : toldV a e n wd b = true) : ∃ (p1 p2 p3 p4 p5 p6 p7 p8 p9 p10 : Pos), b = [.Try [.Return (some (.Call (.Name a p1) [] [] p2)) p3] [.ExceptHandler (some (.Name e p4)) (some n) [.Return (some (.Call (.Name wd p5) [.Name n p6] [] p7)) p8] p9] [] [] p10] := by
  unfold toldV at h
  split at h
  · simp only [Bool.and_eq_true, decide_eq_true_eq] at h
    obtain ⟨rfl, rfl, rfl, rfl, rfl⟩ := h
    exact ⟨_, _, _, _, _, _, _, _, _, _, rfl⟩
  · cases h
structure ToldOk (p : Prg) (a n : Str) : Prop where
  at_ : p.toldD.at_ = (p.gam.told, none)
  nm : p.toldD.name = p.gam.told
  ql : p.toldD.qual = p.gam.told
  bd : toldV a p.gam.bas n p.gam.wrd p.toldD.body = true
  dfl : p.toldD.dfl = []
  kwd : p.toldD.kwd = []
  bind : ∀ (kV doc pm : Value) (an : Option Addr) (cdv ct : Value) (us : List Value), us.length = [a].length → bindArgs (PySem.W.fnOf p.toldD.name p.toldD.qual p.toldD.params p.toldD.body p.toldD.scope .none kV doc pm an cdv ct) ⟨us, []⟩ = pure ([a].zip us)
  sc : FnScope [a, n] [a] p.toldD.scope
  va : Vis p.toldD.scope a
  ln : p.toldD.scope.names.lookup n = some .local
  ge : p.toldD.scope.names.lookup p.gam.bas = some .globalImplicit
  gw : p.toldD.scope.names.lookup p.gam.wrd = some .globalImplicit
  de : (p.gam.bas == ("__debug__" : Str)) = false
  dw : (p.gam.wrd == ("__debug__" : Str)) = false
  da : (a == ("__debug__" : Str)) = false
  ca : (a == ("__classdict__" : Str)) = false
  dn : (n == ("__debug__" : Str)) = false
  cn : (n == ("__classdict__" : Str)) = false
  wo : WordOk p.wordD p.wcs
  wat : p.wordD.at_ = (p.gam.wrd, none)
  io : ∀ d ∈ p.exiD, InitOk d
section
variable {p : Prg} {w : World} {K : PySem.W.Frag} {mg : Str → Option Value} {base h hh : Heap}
theorem fa_in {f : He.Fa} (c : He.SaysX p.fa p.fn p.ts p.tf p.ex w h K) (hf : f ∈ p.last) : f.ok K = true := by
  refine c.t.d.facts ?_
  unfold Prg.fa
  refine List.mem_append_right _ (List.mem_append_right _ (List.mem_append_right _ (List.mem_append_right _ (List.mem_append_right _ (List.mem_append_right _ (List.mem_append_right _ (List.mem_append_right _ (List.mem_append_right _ (List.mem_append_right _ hf)))))))))
theorem told_of {a n : Str} (X : K.In hh) (Gs : hh.Ns mainGlobals mg) (c : He.SaysX p.fa p.fn p.ts p.tf p.ex w h K) (T : ToldOk p a n) : ToldF K mg p.gam.told p.gam.bas p.gam.wrd := by
  obtain ⟨fd, F⟩ := c.t.d.defs (d := p.toldD) (List.mem_append_right _ (List.mem_append_left _ List.mem_cons_self))
  obtain ⟨fdw, Fw⟩ := c.t.d.defs (d := p.wordD) (List.mem_append_right _ (List.mem_append_left _ (List.mem_cons_of_mem _ List.mem_cons_self)))
  have e1 : p.toldD.dvs K = [] := by unfold He.DefD.dvs; rw [T.dfl]; rfl
  have e2 : p.toldD.kws K = [] := by unfold He.DefD.kws; rw [T.kwd]; rfl
  rw [e1, e2] at F
  have hb := F.bindsN T.bind
  obtain ⟨oc, od, dV, kV, doc, pm, an, cdv, ct, osl, rfl, lk, hcd, _, _⟩ := F.ex
  obtain ⟨p1, p2, p3, p4, p5, p6, p7, p8, p9, p10, eb⟩ := toldV_ok T.bd
  have ef : He.fAd K p.toldD.at_ = He.ga K p.gam.told := by rw [T.at_]; rfl
  have kp := F.kp
  rw [ef] at lk kp
  rw [eb, T.nm, T.ql] at hb lk
  rw [T.ql] at hcd
  have g1 : mg p.gam.told = some (.ref (He.ga K p.gam.told)) := He.glo_ok X Gs (fa_in c (by unfold Prg.last; simp))
  have g2 : mg p.gam.bas = some (.ref (He.ga K p.gam.bas)) := He.glo_ok X Gs (fa_in c (by unfold Prg.last; simp))
  have g3 : mg p.gam.wrd = some (.ref (He.ga K p.gam.wrd)) := He.glo_ok X Gs (fa_in c (by unfold Prg.last; simp))
  refine ⟨word_of Fw T.wo T.wat g3 fun x hx => ?_, T.dw, _, _, _, _, _, _, _, _, _, _, _, _, _, _, _, _, _, 1, p1, p2, p3, p4, p5, p6, p7, p8, p9, p10, g1, kp, lk, hcd, hb, T.sc, rfl, T.va, rfl, T.ln, T.ge, T.gw, g2, T.de, T.da, T.ca, T.dn, T.cn⟩
  refine He.free_ok X Gs (fa_in c ?_)
  unfold Prg.last
  rcases List.mem_cons.mp hx with rfl | hx
  · simp
  rcases List.mem_cons.mp hx with rfl | hx
  · simp
  rcases List.mem_cons.mp hx with rfl | hx
  · simp
  · cases hx
/-- the law's value at the plain level, the script in its two shapes -/
def LawD (tab : List Fn) (kk li n : Nat) : Prop := ∀ (ns : List Int) (sd : D) (h0 : DH), ns.length ≤ n → (∀ z ∈ ns, Builtin.Int.intBits z ≤ 1048576) → (sd = .frl (ns.map .int) ∧ h0 = [] ∨ sd = .ref 0 ∧ h0 = [.lst (ns.map .int)]) → ∃ h', callN tab kk li [sd] h0 = .ok (.bl true) h'
theorem ints_RL {G : PySem.W.Frag} {H : Hp} {as : List Addr} : ∀ ns : List Int, RL G H as (ns.map V.int) (ns.map D.int)
  | [] => .nil
  | z :: r => .cons (.int z) (ints_RL r)
theorem lawAt {l : PySem.W.OpenLaw} {kk li n : Nat} {q : Def1} {a e : Str} {fa : Addr} (X : K.In h) (Gs : h.Ns mainGlobals mg) (hmg : mg "law" = some (.ref fa)) (c : He.SaysX p.fa p.fn p.ts p.tf p.ex w h K) (okb : p.okB = true) (ok : ∀ q ∈ p.defs, DefOk p.gam q) (T : ToldOk p a e)
    (hq : p.defs[li]? = some q) (hat : q.d.at_ = (("law" : Str), none)) (hps : q.ps = [("script" : Str)]) (LD : LawD (p.defs.map Def1.fn) kk li n) : LawAtS l w K (L2N.CX l.prog w) (kk + 2) n "script" mg fa h := by
  have mq : q ∈ p.defs := List.mem_of_getElem? hq
  obtain ⟨fd, F⟩ := c.t.d.defs (d := q.d) (List.mem_append_left _ (List.mem_map.mpr ⟨q, mq, rfl⟩))
  have e1 : q.d.dvs K = [] := by unfold He.DefD.dvs; rw [(ok q mq).dfl]; rfl
  have e2 : q.d.kws K = [] := by unfold He.DefD.kws; rw [(ok q mq).kwd]; rfl
  rw [e1, e2] at F
  have hb := FunD.bindsA (ps := q.ps) F (ok q mq).bind
  have ef : He.fAd K q.d.at_ = fa := by
    rw [hat]
    have z := hmg.symm.trans (He.glo_ok X Gs (fa_in c (f := .glo "law") (by unfold Prg.last; simp)))
    cases z
    rfl
  have cs : ∀ z ∈ p.los.map (fun r => He.cT K r.d.at_), ∃ r ∈ p.tf, z = He.cT K r := fun z hz => by
    obtain ⟨r, hr, rfl⟩ := List.mem_map.mp hz
    exact ⟨r.d.at_, List.mem_map.mpr ⟨r, hr, rfl⟩, rfl⟩
  refine ⟨fd, p.los.map fun r => He.cT K r.d.at_, spD (p.G K) (callN (p.defs.map Def1.fn) kk li), fun z hz => ?_, fun z hz => ?_, fun z hz => ?_, fun s u => ?_, fun H a ns hl hbit hT hS => ?_, fun base X2 G2 TB => ?_⟩
  · obtain ⟨r, hr, rfl⟩ := cs z hz
    exact c.empty r hr
  · obtain ⟨r, hr, rfl⟩ := cs z hz
    exact c.out r hr
  · obtain ⟨r, hr, rfl⟩ := cs z hz
    exact PySem.W.codeHd_of_K X (c.hd r hr)
  · have z := hb s [u] (by rw [hps]; rfl)
    rw [hps] at z
    exact z
  · have tabs : Tabs (p.G K).T H := fun z hz => by
      obtain ⟨r, hr, rfl⟩ := List.mem_map.mp hz
      exact TabS.nil (hT _ (List.mem_map.mpr ⟨r, hr, rfl⟩))
    have fin : ∀ (sd : D) (h0 : DH) (as : List Addr), (sd = .frl (ns.map .int) ∧ h0 = [] ∨ sd = .ref 0 ∧ h0 = [.lst (ns.map .int)]) → RH (p.G K) H as h0 → RV (p.G K).K H as (.ref a) sd → spD (p.G K) (callN (p.defs.map Def1.fn) kk li) [.ref a] H (fun v _ => v = .bl true) fun _ _ _ => False := fun sd h0 as hs rh rv => by
      obtain ⟨h', e⟩ := LD ns sd h0 hl hbit hs
      refine ⟨as, h0, [sd], rh, .cons rv .nil, ?_⟩
      rw [e]
      intro v H' as' x r rh'
      cases r
      rfl
    have frz : FrL K H a (ns.map V.int) → spD (p.G K) (callN (p.defs.map Def1.fn) kk li) [.ref a] H (fun v _ => v = .bl true) fun _ _ _ => False := fun fr =>
      fin _ [] [] (.inl ⟨rfl, rfl⟩) ⟨rfl, .nil, fun i a o e1 e2 => by simp at e1, tabs⟩ (.frl fr (ints_RL ns))
    rcases hS with (hS | ⟨o, hS⟩) | hS
    · refine fin (.ref 0) [.lst (ns.map .int)] [a] (.inr ⟨rfl, rfl⟩) ⟨rfl, by simp, fun i b o e1 e2 => ?_, tabs⟩ (.ref rfl)
      cases i with
      | zero =>
        cases e1
        cases e2
        exact ⟨_, hS, ints_RL ns⟩
      | succ i => simp at e1
    · exact frz (.inl ⟨o, hS⟩)
    · exact frz (.inr hS)
  · have S : Sx w K mg base p.gam (p.G K) p.defs := sx_of X2 G2 c okb ok (fun r hr => TB _ (List.mem_map.mpr ⟨r, hr, rfl⟩)) (told_of X2 G2 c T) T.io
    obtain ⟨fd2, ⟨_, _, _, l2⟩, b2, kp2, F2⟩ := defs_ok (P := l.prog) (w := w) S ok kk li q hq
    obtain ⟨_, _, _, l1⟩ := fd_at F
    rw [l1] at l2
    cases l2
    rw [hps, ef] at F2
    exact F2
end
end Mp

/-! Mp21: plain functions evaluated by simp. -/
namespace Mp
open PySem L2
def varR (o : Option (Option D)) (h : DH) : Res := match o with
  | some (some d) => .ok d h
  | _ => .err
def andR (x : D) (r : Res) (h : DH) : Res := match x with
  | .bl true => r
  | .bl false => .ok (.bl false) h
  | _ => .err
def orR (x : D) (r : Res) (h : DH) : Res := match x with
  | .bl true => .ok (.bl true) h
  | .bl false => r
  | _ => .err
def ifR (x : D) (a b : Res) : Res := match x with
  | .bl true => a
  | .bl false => b
  | _ => .err
def ifO (x : D) (a b : Out) : Out := match x with
  | .bl true => a
  | .bl false => b
  | _ => .err
def notR (x : D) (h : DH) : Res := match x with
  | .bl b => .ok (.bl (!b)) h
  | _ => .err
def negR (x : D) (h : DH) : Res := match x with
  | .int i => .ok (.int (-i)) h
  | _ => .err
def attR (o : Option O) (f : Nat) (h : DH) : Res := match o with
  | some (.ins _ fs) => optD (fldOf fs f) h
  | _ => .err
def methR (cl : CL) (me : Nat → Option Nat) (i : Nat) (o : Option O) (as : List M) (e : En) (h : DH) : Res := match o with
  | some (.ins c _) => match me c with
    | some f => (evL as e h).bind fun ds h2 => cl f (.ref i :: ds) h2
    | none => .err
  | _ => .err
def putR (fo : List (Nat × Nat)) (o : Option O) (i f : Nat) (y : D) (e : En) (h : DH) : Out := match o with
  | some (.ins c fs) => if fs.length < 1000 ∧ (c, f) ∈ fo then .nx e (h.set i (.ins c (putN f y fs))) else .err
  | _ => .err
def seqO (r : Out) (b : Ms) : Out := match r with
  | .nx e1 h1 => b e1 h1
  | r => r
def setO (o : Option En) (h : DH) : Out := match o with
  | some e => .nx e h
  | none => .err
def finO (r : Out) : Res := match r with
  | .nx _ h1 => .ok .non h1
  | .rt d h1 => .ok d h1
  | .exc c w _ h1 => .exc c w h1
  | _ => .err
def noneR (r : D) (i : Nat) (h : DH) : Res := match r with
  | .non => .ok (.ref i) h
  | _ => .err
def intP (x : D) (h : DH) : Rs (Option Int) := match x with
  | .int i => .ok (some i) h
  | _ => .err
section
variable {e : En} {h : DH} {a b c : M} {d x y : D} {i j f : Nat} {op op' : _} {cl : CL} {as ms : List M} {s t : Ms} {b1 : Bool} {r r' : Res} {o o' : Out}
@[simp] theorem v_lit : mLit d e h = .ok d h := rfl
@[simp] theorem v_true : mTrue e h = .ok (.bl true) h := rfl
@[simp] theorem v_var : mVar i e h = varR e[i]? h := rfl
@[simp] theorem varR_ok : varR (some (some d)) h = .ok d h := rfl
@[simp] theorem v_tup : mTup ms e h = (evL ms e h).bind fun ds h1 => if ds.length ≤ sizeLine then .ok (.tup ds) h1 else .err := rfl
@[simp] theorem v_lst : mLst ms e h = (evL ms e h).bind fun ds h1 => if ds.length ≤ sizeLine then .ok (.ref h1.length) (h1 ++ [.lst ds]) else .err := rfl
@[simp] theorem v_nil : evL [] e h = .ok [] h := rfl
@[simp] theorem v_cons : evL (a :: ms) e h = (a e h).bind fun d h1 => (evL ms e h1).bind fun ds h2 => .ok (d :: ds) h2 := rfl
@[simp] theorem v_bin : mBin op a b e h = (a e h).bind fun x h1 => (b e h1).bind fun y h2 => dBin op x y h2 := rfl
@[simp] theorem v_neg : mNeg a e h = (a e h).bind fun x h1 => negR x h1 := rfl
@[simp] theorem negR_ok {i : Int} : negR (.int i) h = .ok (.int (-i)) h := rfl
@[simp] theorem v_cmp : mCmp op a b e h = (a e h).bind fun x h1 => (b e h1).bind fun y h2 => optB (dCmp op x y h2) h2 := rfl
@[simp] theorem optB_some : optB (some b1) h = .ok (.bl b1) h := rfl
@[simp] theorem optD_some : optD (some d) h = .ok d h := rfl
@[simp] theorem v_chain : mChain op op' a b c e h = (a e h).bind fun x h1 => (b e h1).bind fun y h2 => (optB (dCmp op x y h2) h2).bind fun r h3 => andR r ((c e h3).bind fun z h4 => optB (dCmp op' y z h4) h4) h3 := by
  unfold mChain
  congr 1
@[simp] theorem v_and : mAnd a b e h = (a e h).bind fun x h1 => andR x (b e h1) h1 := rfl
@[simp] theorem v_or : mOr a b e h = (a e h).bind fun x h1 => orR x (b e h1) h1 := rfl
@[simp] theorem v_not : mNot a e h = (a e h).bind fun x h1 => notR x h1 := rfl
@[simp] theorem v_if : mIf c a b e h = (c e h).bind fun x h1 => ifR x (a e h1) (b e h1) := rfl
@[simp] theorem andR_ok : andR (.bl b1) r h = if b1 then r else .ok (.bl false) h := by cases b1 <;> rfl
@[simp] theorem orR_ok : orR (.bl b1) r h = if b1 then .ok (.bl true) h else r := by cases b1 <;> rfl
@[simp] theorem ifR_ok : ifR (.bl b1) r r' = if b1 then r else r' := by cases b1 <;> rfl
@[simp] theorem ifO_ok : ifO (.bl b1) o o' = if b1 then o else o' := by cases b1 <;> rfl
@[simp] theorem notR_ok : notR (.bl b1) h = .ok (.bl (!b1)) h := rfl
@[simp] theorem v_idx : mIdx a b e h = (a e h).bind fun x h1 => (b e h1).bind fun y h2 => dIdx x y h2 := rfl
@[simp] theorem v_slc {lo hi : Option M} : mSlc a lo hi e h = (a e h).bind fun x h1 => (evP lo e h1).bind fun l h2 => (evP hi e h2).bind fun u h3 => dSlc x l u h3 := rfl
@[simp] theorem evP_none : evP none e h = .ok none h := rfl
@[simp] theorem evP_some : evP (some a) e h = (a e h).bind fun x h1 => intP x h1 := rfl
@[simp] theorem intP_ok {i : Int} : intP (.int i) h = .ok (some i) h := rfl
@[simp] theorem v_call : mCall cl f as e h = (evL as e h).bind fun ds h1 => cl f ds h1 := rfl
@[simp] theorem v_make : mMake cl i f as e h = (evL as e h).bind fun ds h1 => (cl f (.ref h1.length :: ds) (h1 ++ [.ins i []])).bind fun r h2 => noneR r h1.length h2 := rfl
@[simp] theorem noneR_ok : noneR .non i h = .ok (.ref i) h := rfl
def attX (x : D) (f : Nat) (h : DH) : Res := match x with
  | .ref i => attR h[i]? f h
  | _ => .err
@[simp] theorem v_att : mAttr a f e h = (a e h).bind fun x h1 => attX x f h1 := by
  unfold mAttr
  congr 1
@[simp] theorem attX_ok : attX (.ref i) f h = attR h[i]? f h := rfl
@[simp] theorem attR_ok {c : Nat} {fs : List (Nat × D)} : attR (some (.ins c fs)) f h = optD (fldOf fs f) h := rfl
def methX (cl : CL) (me : Nat → Option Nat) (x : D) (as : List M) (e : En) (h : DH) : Res := match x with
  | .ref i => methR cl me i h[i]? as e h
  | _ => .err
@[simp] theorem v_meth {me : Nat → Option Nat} : mMeth cl me a as e h = (a e h).bind fun x h1 => methX cl me x as e h1 := by
  unfold mMeth
  congr 1
@[simp] theorem methX_ok {me : Nat → Option Nat} : methX cl me (.ref i) as e h = methR cl me i h[i]? as e h := rfl
def methC (cl : CL) (o : Option Nat) (i : Nat) (as : List M) (e : En) (h : DH) : Res := match o with
  | some f => (evL as e h).bind fun ds h2 => cl f (.ref i :: ds) h2
  | none => .err
@[simp] theorem methR_ins {me : Nat → Option Nat} {c : Nat} {fs : List (Nat × D)} : methR cl me i (some (.ins c fs)) as e h = methC cl (me c) i as e h := by
  cases q : me c <;> simp only [methR, methC, q]
@[simp] theorem methC_ok : methC cl (some f) i as e h = (evL as e h).bind fun ds h2 => cl f (.ref i :: ds) h2 := rfl
@[simp] theorem v_bi {q : BI} : mBi q as e h = (evL as e h).bind fun ds h1 => dBi q ds h1 := rfl
@[simp] theorem v_bm {q : BM} : mBm q a as e h = (a e h).bind fun x h1 => if okTo q x h1 then (evL as e h1).bind fun ds h2 => dBm q x ds h2 else .err := rfl
@[simp] theorem v_isi {q : IT} : mIsi a q e h = (a e h).bind fun x h1 => optB (dIsi x q h1) h1 := rfl
@[simp] theorem s_next : sNext e h = .nx e h := rfl
@[simp] theorem s_seq : sSeq s t e h = seqO (s e h) t := by unfold sSeq seqO; rfl
@[simp] theorem seqO_nx : seqO (.nx e h) t = t e h := rfl
@[simp] theorem seqO_rt : seqO (.rt d h) t = .rt d h := rfl
@[simp] theorem seqO_ct : seqO (.ct e h) t = .ct e h := rfl
@[simp] theorem seqO_exc {w : Option D} : seqO (.exc i w e h) t = .exc i w e h := rfl
@[simp] theorem s_set {st : D → En → Option En} : sSet st a e h = (a e h).bindO e fun x h1 => setO (st x e) h1 := by
  unfold sSet setO
  congr 1
@[simp] theorem setO_ok {e' : En} : setO (some e') h = .nx e' h := rfl
@[simp] theorem s_drop : sDrop a e h = (a e h).bindO e fun _ h1 => .nx e h1 := rfl
@[simp] theorem s_ret : sRet a e h = (a e h).bindO e fun x h1 => .rt x h1 := rfl
@[simp] theorem s_if : sIf c s t e h = (c e h).bindO e fun x h1 => ifO x (s e h1) (t e h1) := by
  unfold sIf
  congr 1
@[simp] theorem s_ct : sCont e h = .ct e h := rfl
@[simp] theorem s_raise : sRaise i e h = .exc i none e h := rfl
def putX (fo : List (Nat × Nat)) (x : D) (f : Nat) (y : D) (e : En) (h : DH) : Out := match x with
  | .ref i => putR fo h[i]? i f y e h
  | _ => .err
@[simp] theorem s_fld {fo : List (Nat × Nat)} : sFld fo c f a e h = (a e h).bindO e fun y h1 => (c e h1).bindO e fun x h2 => putX fo x f y e h2 := by
  unfold sFld
  congr 1
@[simp] theorem putX_ok {fo : List (Nat × Nat)} : putX fo (.ref i) f y e h = putR fo h[i]? i f y e h := rfl
theorem putR_ok {fo : List (Nat × Nat)} {c : Nat} {fs : List (Nat × D)} (q : fs.length < 1000 ∧ (c, f) ∈ fo) : putR fo (some (.ins c fs)) i f y e h = .nx e (h.set i (.ins c (putN f y fs))) := by
  unfold putR
  exact if_pos q
@[simp] theorem s_for {it : MI} {st : D → En → Option En} : sFor it st s e h = (it e h).bindO e fun p h1 => forL p.2 st s p.1 e h1 := rfl
@[simp] theorem i_e : miE a e h = (a e h).bind itOf := rfl
@[simp] theorem fin_nx : finO (.nx e h) = .ok .non h := rfl
@[simp] theorem fin_rt : finO (.rt d h) = .ok d h := rfl
@[simp] theorem fin_exc {w : Option D} : finO (.exc i w e h) = .exc i w h := rfl
/-- what told makes of an answer -/
def toldR (tt : Nat → Option Nat) (r : Res) : Res := match r with
  | .ok d h1 => .ok d h1
  | .exc c w h1 => match toldT tt c w with
    | some d => .ok d h1
    | none => .err
  | .err => .err
theorem v_told {tt : Nat → Option Nat} : mTold tt a e h = toldR tt (a e h) := by
  unfold mTold toldR
  rfl
@[simp] theorem toldR_ok {tt : Nat → Option Nat} : toldR tt (.ok d h) = .ok d h := rfl
theorem toldR_exc {tt : Nat → Option Nat} {w : Option D} {d : D} (q : toldT tt i w = some d) : toldR tt (.exc i w h) = .ok d h := by
  unfold toldR
  simp only [q]
@[simp] theorem s_raiseW : sRaiseW i a e h = (a e h).bindO e fun d h1 => .exc i (some d) e h1 := rfl
theorem call_eqL {tab : List Fn} {k g : Nat} {fn : Fn} {ds : List D} (q : tab[g]? = some fn) (l : ds.length = fn.np) (t : fn.lo = 2 := by rfl) : callN tab (k + 4) g ds h = finO (fn.body (callN tab k) (ds.map some ++ List.replicate (fn.ns - ds.length) none) h) := by
  unfold callN
  simp only [q, t]
  unfold runB
  rw [if_pos l]
  rfl
theorem call_eqM {tab : List Fn} {k g : Nat} {fn : Fn} {ds : List D} (q : tab[g]? = some fn) (l : ds.length = fn.np) (t : fn.lo = 1 := by rfl) : callN tab (k + 2) g ds h = finO (fn.body (callN tab k) (ds.map some ++ List.replicate (fn.ns - ds.length) none) h) := by
  unfold callN
  simp only [q, t]
  unfold runB
  rw [if_pos l]
  rfl
theorem call_eq {tab : List Fn} {k g : Nat} {fn : Fn} {ds : List D} (q : tab[g]? = some fn) (l : ds.length = fn.np) (t : fn.lo = 0 := by rfl) : callN tab (k + 1) g ds h = finO (fn.body (callN tab k) (ds.map some ++ List.replicate (fn.ns - ds.length) none) h) := by
  unfold callN
  simp only [q, t]
  unfold runB
  rw [if_pos l]
  rfl
end
/-! ### data -/
section
variable {h : DH} {i j : Int} {x y : Tx} {ds : List D}
@[simp] theorem stName_ok {k : Nat} {d : D} {e : En} : stName k d e = some (e.set k (some d)) := rfl
@[simp] theorem add_int : dBin .Add (.int i) (.int j) h = .ok (.int (i + j)) h := rfl
@[simp] theorem sub_int : dBin .Sub (.int i) (.int j) h = .ok (.int (i - j)) h := rfl
theorem mul_int (q : i.natAbs.log2 + j.natAbs.log2 < 100000000) : dBin .Mult (.int i) (.int j) h = .ok (.int (i * j)) h := if_pos q
theorem mod_int (q : 0 < j) : dBin .Mod (.int i) (.int j) h = .ok (.int (i % j)) h := if_pos q
theorem div_int (q : 0 < j ∧ j.natAbs.log2 < 9000) : dBin .FloorDiv (.int i) (.int j) h = .ok (.int (i / j)) h := if_pos q
theorem pow_int (q : 0 ≤ j ∧ j ≤ 1000000 ∧ i.natAbs < 2 ^ 64) : dBin .Pow (.int i) (.int j) h = .ok (.int (i ^ j.toNat)) h := if_pos q
theorem add_str (q : x.length + y.length ≤ sizeLine) : dBin .Add (.str x) (.str y) h = .ok (.str (x ++ y)) h := if_pos q
theorem mul_str (q : j < 2 ^ 62 ∧ -(2 ^ 62) < j ∧ x.length * j.toNat ≤ sizeLine) : dBin .Mult (.str x) (.int j) h = .ok (.str (List.replicate j.toNat x).flatten) h := if_pos q
@[simp] theorem lt_int : dCmp .Lt (.int i) (.int j) h = some (decide (i < j)) := rfl
@[simp] theorem le_int : dCmp .LtE (.int i) (.int j) h = some (decide (i ≤ j)) := rfl
@[simp] theorem gt_int : dCmp .Gt (.int i) (.int j) h = some (decide (j < i)) := rfl
@[simp] theorem ge_int : dCmp .GtE (.int i) (.int j) h = some (decide (j ≤ i)) := rfl
@[simp] theorem le_str : dCmp .LtE (.str x) (.str y) h = some (!decide (y < x)) := rfl
theorem lst1_lt {a b : Nat} : ([a] < [b]) ↔ a < b := by
  rw [List.cons_lt_cons_iff]
  constructor
  · rintro (z | ⟨_, z⟩)
    · exact z
    · exact absurd z (List.not_lt_nil _)
  · exact .inl
@[simp high] theorem le_chr {a b : Nat} : dCmp .LtE (.str [a]) (.str [b]) h = some (decide (a ≤ b)) := by
  show some (!decide ([b] < [a])) = _
  congr 1
  rw [Bool.eq_iff_iff]
  simp only [Bool.not_eq_true', decide_eq_false_iff_not, decide_eq_true_eq, lst1_lt]
  omega
theorem set_same {i : Nat} {o : O} (q : h[i]? = some o) : h.set i o = h := by
  apply List.ext_getElem?
  intro j
  rw [List.getElem?_set]
  split
  · rename_i e
    subst e
    split
    · exact q.symm
    · rename_i z
      rw [List.getElem?_eq_none (by omega)] at q
      cases q
  · rfl
@[simp] theorem ne_eq' {a b : D} : dCmp .NotEq a b h = (dCmp .Eq a b h).map (!·) := rfl
@[simp] theorem eq_int : dCmp .Eq (.int i) (.int j) h = some (decide (i = j)) := by
  show (if SeqAt.shaped (.int i) && SeqAt.shaped (.int j) then some (PyData.eqv (.int i) (.int j)) else none) = _
  rw [if_pos (by rfl)]
  simp [PyData.eqv, BEq.beq]
@[simp] theorem eq_str : dCmp .Eq (.str x) (.str y) h = some (decide (x = y)) := rfl
@[simp] theorem in_char {c : Nat} {z : Tx} : dCmp .In (.str [c]) (.str z) h = some (decide (c ∈ z)) := rfl
theorem in_tup {zs : List Tx} (q : strsOf ds = some zs) : dCmp .In (.str x) (.tup ds) h = some (decide (x ∈ zs)) := by
  show dIn (.str x) (.tup ds) h = _
  simp only [dIn, q]
  rfl
theorem in_lst {zs : List Tx} {k : Nat} (q0 : h[k]? = some (.lst ds)) (q : strsOf ds = some zs) : dCmp .In (.str x) (.ref k) h = some (decide (x ∈ zs)) := by
  show dIn (.str x) (.ref k) h = _
  unfold dIn
  simp only [q0, q]
  rfl
@[simp] theorem notin' {a b : D} : dCmp .NotIn a b h = (dCmp .In a b h).map (!·) := rfl
theorem strs_map (zs : List Tx) : strsOf (zs.map .str) = some zs := by
  induction zs with
  | nil => rfl
  | cons z r ih => simp only [List.map_cons, strsOf, ih]; rfl
theorem bols_map (zs : List Bool) : bolsOf (zs.map .bl) = some zs := by
  induction zs with
  | nil => rfl
  | cons z r ih => simp only [List.map_cons, bolsOf, ih]; rfl
theorem len_str (q : x.length ≤ sizeLine) : dBi .len [.str x] h = .ok (.int x.length) h := if_pos q
@[simp] theorem len_tup : dBi .len [.tup ds] h = .ok (.int ds.length) h := rfl
@[simp] theorem len_frl : dBi .len [.frl ds] h = .ok (.int ds.length) h := rfl
theorem len_ref {k : Nat} (q : h[k]? = some (.lst ds)) : dBi .len [.ref k] h = .ok (.int ds.length) h := by
  show dLen [.ref k] h = _
  simp only [dLen, q]
@[simp] theorem ord_ok {c : Nat} : dBi .ord [.str [c]] h = .ok (.int c) h := rfl
@[simp] theorem int_int : dBi .int [.int i] h = .ok (.int i) h := rfl
@[simp] theorem int_bl {b : Bool} : dBi .int [.bl b] h = .ok (.int (if b then 1 else 0)) h := rfl
theorem int_str {n : Int} (q : PySem.intText? ⟨x.toArray⟩ = some n) (l : x.length ≤ 640) : dBi .int [.str x] h = .ok (.int n) h := by
  show dInt [.str x] h = _
  unfold dInt
  simp only [q]
  rw [if_pos l]
theorem str_int (q : i.natAbs.log2 < 1920) : dBi .str [.int i] h = .ok (.str (sInt i)) h := if_pos q
@[simp] theorem min_int : dBi .min [.int i, .int j] h = .ok (.int (if j < i then j else i)) h := rfl
@[simp] theorem max_int : dBi .max [.int i, .int j] h = .ok (.int (if j > i then j else i)) h := rfl
theorem all_ref {k : Nat} {bs : List Bool} (q : h[k]? = some (.lst ds)) (q2 : bolsOf ds = some bs) : dBi .all [.ref k] h = .ok (.bl (bs.all id)) h := by
  show dAll [.ref k] h = _
  unfold dAll
  simp only [q, q2]
theorem any_ref {k : Nat} {bs : List Bool} (q : h[k]? = some (.lst ds)) (q2 : bolsOf ds = some bs) : dBi .any [.ref k] h = .ok (.bl (bs.any id)) h := by
  show dAny [.ref k] h = _
  unfold dAny
  simp only [q, q2]
theorem idx_ref {k : Nat} (q : h[k]? = some (.lst ds)) : dIdx (.ref k) (.int i) h = optD (atI ds i) h := by
  unfold dIdx
  simp only [q]
@[simp] theorem idx_tup : dIdx (.tup ds) (.int i) h = optD (atI ds i) h := rfl
@[simp] theorem idx_frl : dIdx (.frl ds) (.int i) h = optD (atI ds i) h := rfl
theorem idx_str (q : x.length ≤ sizeLine) : dIdx (.str x) (.int i) h = optD ((atI x i).map fun c => .str [c]) h := if_pos q
theorem slc_str {lo hi : Option Int} (q : x.length ≤ sizeLine) : dSlc (.str x) lo hi h = .ok (.str (cutG x lo hi)) h := if_pos q
theorem atI_nat {α : Type} (xs : List α) (k : Nat) (hk : k < xs.length) : atI xs (k : Int) = xs[k]? := by
  unfold atI ixN
  rw [if_pos (by omega), if_pos (by omega)]
  simp
theorem atI_lt {α : Type} {xs : List α} {i : Int} (h0 : 0 ≤ i) (h1 : i < xs.length) (d : α) : atI xs i = some (xs.getD i.toNat d) := by
  obtain ⟨k, rfl⟩ := Int.eq_ofNat_of_zero_le h0
  rw [atI_nat xs k (by omega)]
  simp only [Int.toNat_natCast, List.getD_eq_getElem?_getD]
  rw [List.getElem?_eq_getElem (by omega)]
  rfl
theorem atI_last {α : Type} {xs : List α} (q : xs ≠ []) : atI xs (-1) = xs.getLast? := by
  have hl : 0 < xs.length := List.length_pos_iff.mpr q
  unfold atI ixN
  rw [if_neg (by omega), if_pos (by omega)]
  rw [List.getLast?_eq_getElem?]
  show xs[_]? = _
  congr 1
  omega
end
/-! ### turns -/
def nxtO (o : Out) (k : Ms) : Out := match o with
  | .nx e h => k e h
  | .ct e h => k e h
  | .bk e h => .nx e h
  | .rt d h => .rt d h
  | .exc c w e h => .exc c w e h
  | .err => .err
section
variable {e : En} {h : DH} {k : Ms} {d : D} {c : Nat} {w : Option D}
@[simp] theorem nxt_nx : nxtO (.nx e h) k = k e h := rfl
@[simp] theorem nxt_ct : nxtO (.ct e h) k = k e h := rfl
@[simp] theorem nxt_rt : nxtO (.rt d h) k = .rt d h := rfl
@[simp] theorem nxt_exc : nxtO (.exc c w e h) k = .exc c w e h := rfl
theorem forL_cons {g : Option (Nat × List D)} {st : D → En → Option En} {b : Ms} {x : D} {r : List D} {e1 : En} (q : Still g h) (q1 : st x e = some e1) : forL g st b (x :: r) e h = nxtO (b e1 h) (forL g st b r) := by
  rw [forL, if_pos q]
  simp only [q1]
  cases b e1 h <;> rfl
theorem forL_nil {g : Option (Nat × List D)} {st : D → En → Option En} {b : Ms} (q : Still g h) : forL g st b [] e h = .nx e h := by
  rw [forL, if_pos q]
theorem still_none : Still none h := trivial
@[simp] theorem v_comp {it : MI} {own : List Nat} {st : D → En → Option En} {cond elt : M} : mComp it own st cond elt e h = (it e h).bind fun p h1 => if p.1.length ≤ sizeLine then (compL p.2 st cond elt (wipeD e own) p.1 h1).bind fun ds h2 => .ok (.ref h2.length) (h2 ++ [.lst ds]) else .err := rfl
theorem compL_map {g : Option (Nat × List D)} {st : D → En → Option En} {cond elt : M} {e0 : En} (f : D → D) (q : Still g h) : ∀ xs : List D, (∀ x ∈ xs, ∃ e, st x e0 = some e ∧ cond e h = .ok (.bl true) h ∧ elt e h = .ok (f x) h) → compL g st cond elt e0 xs h = .ok (xs.map f) h
  | [], _ => by rw [compL, if_pos q]; rfl
  | x :: r, a => by
    obtain ⟨e, h1, h2, h3⟩ := a x List.mem_cons_self
    rw [compL, if_pos q]
    simp only [h1, h2, h3]
    rw [compL_map f q r fun y hy => a y (List.mem_cons_of_mem _ hy)]
    rfl
theorem compL_one {g : Option (Nat × List D)} {st : D → En → Option En} {elt : M} {e0 e1 : En} {x y : D} {r : List D} {h2 : DH} (q : Still g h) (a : st x e0 = some e1) (c : elt e1 h = .ok y h2) : compL g st mTrue elt e0 (x :: r) h = (compL g st mTrue elt e0 r h2).bind fun ds h3 => .ok (y :: ds) h3 := by
  rw [compL, if_pos q]
  have t : mTrue e1 h = .ok (.bl true) h := rfl
  simp only [a, t, c]
theorem compL_end {g : Option (Nat × List D)} {st : D → En → Option En} {elt : M} {e0 : En} (q : Still g h) : compL g st mTrue elt e0 [] h = .ok [] h := by
  rw [compL, if_pos q]
theorem compL_filt {g : Option (Nat × List D)} {st : D → En → Option En} {cond elt : M} {e0 : En} (p : D → Bool) (f : D → D) (q : Still g h) : ∀ xs : List D, (∀ x ∈ xs, ∃ e, st x e0 = some e ∧ cond e h = .ok (.bl (p x)) h ∧ (p x = true → elt e h = .ok (f x) h)) → compL g st cond elt e0 xs h = .ok ((xs.filter p).map f) h
  | [], _ => by rw [compL, if_pos q]; rfl
  | x :: r, a => by
    obtain ⟨e, h1, h2, h3⟩ := a x List.mem_cons_self
    rw [compL, if_pos q]
    have ih := compL_filt p f q r fun y hy => a y (List.mem_cons_of_mem _ hy)
    cases hp : p x with
    | true =>
      rw [hp] at h2
      simp only [h1, h2, h3 hp]
      rw [ih, List.filter_cons, if_pos hp]
      rfl
    | false =>
      rw [hp] at h2
      simp only [h1, h2]
      rw [ih, List.filter_cons, if_neg (by rw [hp]; simp)]
@[simp] theorem it_str {x : Tx} : itOf (.str x) h = .ok (x.map fun c => .str [c], none) h := rfl
@[simp] theorem it_tup {x : List D} : itOf (.tup x) h = .ok (x, none) h := rfl
@[simp] theorem it_frl {x : List D} : itOf (.frl x) h = .ok (x, none) h := rfl
theorem it_ref {x : List D} {i : Nat} (q : h[i]? = some (.lst x)) : itOf (.ref i) h = .ok (x, some (i, x)) h := by
  simp only [itOf, q]
theorem i_r1 {a : M} : miR1 a e h = (a e h).bind fun x h1 => match x with
  | .int j => if -(2 ^ 62) ≤ j ∧ j < 2 ^ 62 then .ok (rangeD 0 j.toNat, none) h1 else .err
  | _ => .err := rfl
theorem append_ok {i : Nat} {xs : List D} (q : h[i]? = some (.lst xs)) (l : xs.length < sizeLine) : dBm .append (.ref i) [d] h = .ok .non (h.set i (.lst (xs ++ [d]))) := by
  show dAppend (.ref i) [d] h = _
  simp only [dAppend, q]
  rw [if_pos l]
theorem okTo_app {i : Nat} {xs : List D} (q : h[i]? = some (.lst xs)) : okTo .append (.ref i) h = true := by
  simp only [okTo, q]
@[simp] theorem okTo_join {x : Tx} : okTo .join (.str x) h = true := rfl
@[simp] theorem okTo_find {x : Tx} : okTo .find (.str x) h = true := rfl
@[simp] theorem okTo_split {x : Tx} : okTo .split (.str x) h = true := rfl
@[simp] theorem find_2 {x y : Tx} {i : Int} : dBm .find (.str x) [.str y, .int i] h = .ok (.int (Txt.find3 ⟨x.toArray⟩ ⟨y.toArray⟩ i)) h := rfl
@[simp] theorem find_1 {x y : Tx} : dBm .find (.str x) [.str y] h = .ok (.int (Txt.find ⟨x.toArray⟩ ⟨y.toArray⟩)) h := rfl
theorem isi_lst {i : Nat} {xs : List D} (q : h[i]? = some (.lst xs)) : dIsi (.ref i) .list h = some true := by
  simp only [dIsi, q]
@[simp] theorem isi_str_bool {x : Tx} : dIsi (.str x) .bool h = some false := rfl
@[simp] theorem isi_int_bool {x : Int} : dIsi (.int x) .bool h = some false := rfl
end
/-! ### lists, read without a premise -/
def refL {α : Type} (o : Option O) (f : List D → Rs α) : Rs α := match o with
  | some (.lst xs) => f xs
  | _ => .err
def refP {α : Type} (o : Option O) (f : List D → Option α) : Option α := match o with
  | some (.lst xs) => f xs
  | _ => none
section
variable {h : DH} {i : Int} {k : Nat} {x : Tx} {d : D}
@[simp] theorem refL_ok {α : Type} {xs : List D} {f : List D → Rs α} : refL (some (.lst xs)) f = f xs := rfl
@[simp] theorem refP_ok {α : Type} {xs : List D} {f : List D → Option α} : refP (some (.lst xs)) f = f xs := rfl
theorem idx_refU : dIdx (.ref k) (.int i) h = refL h[k]? fun xs => optD (atI xs i) h := by
  cases q : h[k]? with
  | none => simp only [dIdx, refL, q]
  | some o => cases o <;> simp only [dIdx, refL, q]
theorem len_refU : dBi .len [.ref k] h = refL h[k]? fun xs => .ok (.int xs.length) h := by
  show dLen [.ref k] h = _
  cases q : h[k]? with
  | none => simp only [dLen, refL, q]
  | some o => cases o <;> simp only [dLen, refL, q]
def ofB (o : Option Bool) (h : DH) : Res := match o with
  | some b => .ok (.bl b) h
  | none => .err
@[simp] theorem ofB_ok {b : Bool} : ofB (some b) h = .ok (.bl b) h := rfl
theorem any_refU : dBi .any [.ref k] h = refL h[k]? fun xs => ofB ((bolsOf xs).map (·.any id)) h := by
  show dAny [.ref k] h = _
  cases q : h[k]? with
  | none => simp only [dAny, refL, q]
  | some o =>
    cases o with
    | lst xs => cases q2 : bolsOf xs <;> simp only [dAny, refL, q, q2, Option.map_some, Option.map_none, ofB]
    | _ => simp only [dAny, refL, q]
theorem all_refU : dBi .all [.ref k] h = refL h[k]? fun xs => ofB ((bolsOf xs).map (·.all id)) h := by
  show dAll [.ref k] h = _
  cases q : h[k]? with
  | none => simp only [dAll, refL, q]
  | some o =>
    cases o with
    | lst xs => cases q2 : bolsOf xs <;> simp only [dAll, refL, q, q2, Option.map_some, Option.map_none, ofB]
    | _ => simp only [dAll, refL, q]
theorem in_refU : dCmp .In (.str x) (.ref k) h = refP h[k]? fun ys => (strsOf ys).map fun zs => decide (x ∈ zs) := by
  show dIn (.str x) (.ref k) h = _
  cases q : h[k]? with
  | none => cases x with
    | nil => simp only [dIn, refP, q]
    | cons c r => cases r <;> simp only [dIn, refP, q]
  | some o => cases o <;> (cases x with
    | nil => simp only [dIn, refP, q]
    | cons c r => cases r <;> simp only [dIn, refP, q])
theorem in_tupU {ds : List D} : dCmp .In (.str x) (.tup ds) h = (strsOf ds).map fun zs => decide (x ∈ zs) := by
  show dIn (.str x) (.tup ds) h = _
  cases x with
  | nil => rfl
  | cons c r => cases r <;> rfl
def isLst : Option O → Bool
  | some (.lst _) => true
  | _ => false
@[simp] theorem isLst_ok {xs : List D} : isLst (some (.lst xs)) = true := rfl
theorem okTo_appU : okTo .append (.ref k) h = isLst h[k]? := by
  cases q : h[k]? with
  | none => simp only [okTo, isLst, q]
  | some o => cases o <;> simp only [okTo, isLst, q]
theorem append_U : dBm .append (.ref k) [d] h = refL h[k]? fun xs => if xs.length < sizeLine then .ok .non (h.set k (.lst (xs ++ [d]))) else .err := by
  show dAppend (.ref k) [d] h = _
  cases q : h[k]? with
  | none => simp only [dAppend, refL, q]
  | some o => cases o <;> simp only [dAppend, refL, q]
theorem it_refU : itOf (.ref k) h = refL h[k]? fun xs => .ok (xs, some (k, xs)) h := by
  cases q : h[k]? with
  | none => simp only [itOf, refL, q]
  | some o => cases o <;> simp only [itOf, refL, q]
def joinR (s : Tx) (o : Option (List Tx)) (h : DH) : Res := match o with
  | some ys => if (ys.map (fun y => y.length)).sum + ys.length * s.length ≤ 16777216 then .ok (.str (TL.joinL s ys)) h else .err
  | none => .err
theorem join_refU {s : Tx} : dBm .join (.str s) [.ref k] h = refL h[k]? fun xs => joinR s (strsOf xs) h := by
  show dJoin (.str s) [.ref k] h = _
  cases q : h[k]? with
  | none => simp only [dJoin, refL, q]
  | some o =>
    cases o with
    | lst xs => cases q2 : strsOf xs <;> simp only [dJoin, refL, joinR, q, q2]
    | _ => simp only [dJoin, refL, q]
theorem add_refU {k2 : Nat} : dBin .Add (.ref k) (.ref k2) h = refL h[k]? fun xs => refL h[k2]? fun ys => if xs.length + ys.length ≤ sizeLine then .ok (.ref h.length) (h ++ [.lst (xs ++ ys)]) else .err := by
  show dAdd (.ref k) (.ref k2) h = _
  cases q : h[k]? with
  | none => simp only [dAdd, refL, q]
  | some o =>
    cases o with
    | lst xs =>
      cases q2 : h[k2]? with
      | none => simp only [dAdd, refL, q, q2]
      | some o2 => cases o2 <;> simp only [dAdd, refL, q, q2]
    | _ => simp only [dAdd, refL, q]
theorem isi_refU : dIsi (.ref k) .list h = refP h[k]? fun _ => some true := by
  cases q : h[k]? with
  | none => simp only [dIsi, refP, q]
  | some o => cases o <;> simp only [dIsi, refP, q]
end
theorem cast_62 {z : Nat} (hz : z ≤ 1000000) : ((z : Int) < 2 ^ 62) ∧ -(2 ^ 62) < (z : Int) :=
  ⟨Int.lt_of_le_of_lt (Int.ofNat_le.mpr hz) (by decide), Int.lt_of_lt_of_le (by decide) (Int.natCast_nonneg z)⟩
theorem mul_chr {z c : Nat} {h : DH} (hz : z ≤ 1000000) : dBin .Mult (.str [c]) (.int (z : Int)) h = .ok (.str (List.replicate z c)) h := by
  have hs : ([c] : Tx).length * ((z : Int)).toNat ≤ sizeLine := by
    rw [Int.toNat_natCast, List.length_singleton, Nat.one_mul]
    rw [sizeLine_eq]
    exact Nat.le_trans hz (by decide)
  rw [mul_str ⟨(cast_62 hz).1, (cast_62 hz).2, hs⟩]
  congr 2
  rw [Int.toNat_natCast]
  clear hz hs
  induction z with
  | zero => rfl
  | succ z ih => rw [List.replicate_succ, List.flatten_cons, ih, List.replicate_succ]; rfl
theorem get_app {α : Type} {h l : List α} {i : Nat} : (h ++ l)[h.length + i]? = l[i]? := by
  rw [List.getElem?_append_right (Nat.le_add_right _ _), Nat.add_sub_cancel_left]
theorem get_app0 {α : Type} {h l : List α} : (h ++ l)[h.length]? = l[0]? := get_app (i := 0)
theorem pick {α : Type} {xs : List α} {i : Int} (h0 : 0 ≤ i) (h1 : i < xs.length) : ∃ d ∈ xs, atI xs i = some d := by
  obtain ⟨k, rfl⟩ := Int.eq_ofNat_of_zero_le h0
  have hk : k < xs.length := by omega
  exact ⟨xs[k], List.getElem_mem hk, by rw [atI_nat xs k hk, List.getElem?_eq_getElem hk]⟩
theorem pickI {vs : List Int} {i : Int} (h0 : 0 ≤ i) (h1 : i < vs.length) : ∃ v ∈ vs, atI (vs.map D.int) i = some (.int v) := by
  obtain ⟨d, hd, e⟩ := pick (xs := vs.map D.int) h0 (by rw [List.length_map]; exact h1)
  obtain ⟨v, hv, rfl⟩ := List.mem_map.mp hd
  exact ⟨v, hv, e⟩
theorem pickS {vs : List Tx} {i : Int} (h0 : 0 ≤ i) (h1 : i < vs.length) : ∃ v ∈ vs, atI (vs.map D.str) i = some (.str v) := by
  obtain ⟨d, hd, e⟩ := pick (xs := vs.map D.str) h0 (by rw [List.length_map]; exact h1)
  obtain ⟨v, hv, rfl⟩ := List.mem_map.mp hd
  exact ⟨v, hv, e⟩
def rngR (x : D) (h : DH) : ItR := match x with
  | .int j => if -(2 ^ 62) ≤ j ∧ j < 2 ^ 62 then .ok (rangeD 0 j.toNat, none) h else .err
  | _ => .err
@[simp] theorem v_rng {a : M} {e : En} {h : DH} : miR1 a e h = (a e h).bind fun x h1 => rngR x h1 := rfl
theorem rngR_ok {j : Int} {h : DH} (q : -(2 ^ 62) ≤ j ∧ j < 2 ^ 62) : rngR (.int j) h = .ok (rangeD 0 j.toNat, none) h := if_pos q
theorem rng_U {e : En} {h : DH} {a : M} {j : Int} {h1 : DH} (q : a e h = .ok (.int j) h1) (q2 : -(2 ^ 62) ≤ j ∧ j < 2 ^ 62) : miR1 a e h = .ok (rangeD 0 j.toNat, none) h1 := by
  rw [i_r1, q]
  exact if_pos q2
theorem size_le {n : Nat} (h : n ≤ 16777216) : n ≤ sizeLine := by rw [sizeLine_eq]; exact Nat.le_trans h (by decide)
theorem le_size {n : Nat} (h : n ≤ 16777216) : (n ≤ sizeLine) = True := eq_true (size_le h)
/-! ### turns that make new things -/
theorem Still.app {g : Option (Nat × List D)} {h k : DH} (s : Still g h) : Still g (h ++ k) := by
  cases g with
  | none => exact trivial
  | some p =>
    obtain ⟨i, xs⟩ := p
    have s : h[i]? = some (.lst xs) := s
    show (h ++ k)[i]? = some (.lst xs)
    rw [List.getElem?_append_left (List.getElem?_eq_some_iff.mp s).1]
    exact s
theorem compL_grow {g : Option (Nat × List D)} {st : D → En → Option En} {elt : M} {e0 : En} (R : D → D → Prop) : ∀ (xs : List D) (h : DH), Still g h → (∀ x ∈ xs, ∃ e, st x e0 = some e ∧ ∀ k : DH, ∃ d k2, elt e (h ++ k) = .ok d (h ++ k2) ∧ R x d) →
    ∃ ds k, compL g st mTrue elt e0 xs h = .ok ds (h ++ k) ∧ Paired R xs ds
  | xs, h, s, a => by
    have main : ∀ (ys : List D), (∀ x ∈ ys, x ∈ xs) → ∀ k : DH, ∃ ds k2, compL g st mTrue elt e0 ys (h ++ k) = .ok ds (h ++ k2) ∧ Paired R ys ds := by
      intro ys
      induction ys with
      | nil =>
        intro _ k
        exact ⟨[], k, by rw [compL, if_pos s.app], .nil⟩
      | cons x r ih =>
        intro hm k
        obtain ⟨e, h1, h2⟩ := a x (hm x List.mem_cons_self)
        obtain ⟨d, k2, h3, h4⟩ := h2 k
        obtain ⟨ds, k3, h5, h6⟩ := ih (fun y hy => hm y (List.mem_cons_of_mem _ hy)) k2
        refine ⟨d :: ds, k3, ?_, .cons h4 h6⟩
        rw [compL, if_pos s.app]
        have ht : mTrue e (h ++ k) = .ok (.bl true) (h ++ k) := rfl
        simp only [h1, ht, h3]
        rw [h5]
        rfl
    have z := main xs (fun _ hx => hx) []
    rw [List.append_nil] at z
    exact z
/-! ### module dicts, enumerate, and more -/
def kinR (kvs : List (Tx × D)) (x : D) (h : DH) : Res := match x with
  | .str z => .ok (.bl (kvs.lookup z).isSome) h
  | _ => .err
def kniR (kvs : List (Tx × D)) (x : D) (h : DH) : Res := match x with
  | .str z => .ok (.bl (!(kvs.lookup z).isSome)) h
  | _ => .err
def kidR (kvs : List (Tx × D)) (x : D) (h : DH) : Res := match x with
  | .str z => optD (kvs.lookup z) h
  | _ => .err
def enR (x : D) (h : DH) : ItR := match x with
  | .tup xs => .ok (enumD 0 xs, none) h
  | .ref i => match h[i]? with
    | some (.lst xs) => .ok (enumD 0 xs, some (i, xs)) h
    | _ => .err
  | _ => .err
section
variable {kvs : List (Tx × D)} {a : M} {e : En} {h : DH} {z : Tx} {x : D} {xs : List D} {i j : Int} {k : Nat} {b : Bool} {lo hi : Option Int}
@[simp] theorem v_kin : mKIn kvs a e h = (a e h).bind fun x h1 => kinR kvs x h1 := rfl
@[simp] theorem v_kni : mKNi kvs a e h = (a e h).bind fun x h1 => kniR kvs x h1 := rfl
@[simp] theorem v_kid : mKIdx kvs a e h = (a e h).bind fun x h1 => kidR kvs x h1 := rfl
@[simp] theorem kinR_ok : kinR kvs (.str z) h = .ok (.bl (kvs.lookup z).isSome) h := rfl
@[simp] theorem kniR_ok : kniR kvs (.str z) h = .ok (.bl (!(kvs.lookup z).isSome)) h := rfl
@[simp] theorem kidR_ok : kidR kvs (.str z) h = optD (kvs.lookup z) h := rfl
@[simp] theorem v_en : miEn a e h = (a e h).bind fun x h1 => enR x h1 := rfl
@[simp] theorem enR_tup : enR (.tup xs) h = .ok (enumD 0 xs, none) h := rfl
theorem en_refU : enR (.ref k) h = refL h[k]? fun xs => .ok (enumD 0 xs, some (k, xs)) h := by
  cases q : h[k]? with
  | none => simp only [enR, refL, q]
  | some o => cases o <;> simp only [enR, refL, q]
theorem mul_refU : dBin .Mult (.ref k) (.int j) h = refL h[k]? fun xs => if j < 2 ^ 62 ∧ -(2 ^ 62) < j ∧ xs.length * j.toNat ≤ sizeLine then .ok (.ref h.length) (h ++ [.lst (List.replicate j.toNat xs).flatten]) else .err := by
  show dMul (.ref k) (.int j) h = _
  cases q : h[k]? with
  | none => simp only [dMul, refL, q]
  | some o => cases o <;> simp only [dMul, refL, q]
@[simp] theorem tupF_tup : dBi .tup [.tup xs] h = .ok (.tup xs) h := rfl
theorem tupF_refU : dBi .tup [.ref k] h = refL h[k]? fun xs => .ok (.tup xs) h := by
  show dTupF [.ref k] h = _
  cases q : h[k]? with
  | none => simp only [dTupF, refL, q]
  | some o => cases o <;> simp only [dTupF, refL, q]
theorem slc_refU : dSlc (.ref k) lo hi h = refL h[k]? fun xs => .ok (.ref h.length) (h ++ [.lst (cutG xs lo hi)]) := by
  cases q : h[k]? with
  | none => simp only [dSlc, refL, q]
  | some o => cases o <;> simp only [dSlc, refL, q]
@[simp] theorem slc_tup : dSlc (.tup xs) lo hi h = .ok (.tup (cutG xs lo hi)) h := rfl
@[simp] theorem is_non : dCmp .Is x .non h = some (isNon x) := rfl
@[simp] theorem isnot_non : dCmp .IsNot x .non h = some (!isNon x) := rfl
@[simp] theorem isNon_non : isNon .non = true := rfl
@[simp] theorem isNon_str : isNon (.str z) = false := rfl
@[simp] theorem isNon_tup : isNon (.tup xs) = false := rfl
@[simp] theorem isNon_int : isNon (.int i) = false := rfl
@[simp] theorem isi_tup : dIsi (.tup xs) .tuple h = some true := rfl
@[simp] theorem isi_tup_s : dIsi (.tup xs) .str h = some false := rfl
@[simp] theorem isi_str : dIsi (.str z) .str h = some true := rfl
@[simp] theorem isi_str_i : dIsi (.str z) .int h = some false := rfl
@[simp] theorem isi_str_t : dIsi (.str z) .tuple h = some false := rfl
@[simp] theorem isi_int : dIsi (.int i) .int h = some true := rfl
@[simp] theorem isi_int_s : dIsi (.int i) .str h = some false := rfl
@[simp] theorem in_ints : dCmp .In (.int i) (.tup xs) h = (intsOf xs).map fun zs => decide (i ∈ zs) := rfl
end
section
variable {e : En} {h : DH} {a o i : M} {y : D} {xs : List D} {k : Int} {p j : Nat} {x : Tx}
@[simp] theorem s_itm : sItm o i a e h = (a e h).bindO e fun y h1 => (o e h1).bindO e fun x h2 => (i e h2).bindO e fun z h3 => itmR x z y e h3 := rfl
theorem itm_ok (q : h[p]? = some (.lst xs)) (r : ixN xs.length k = some j) : itmR (.ref p) (.int k) y e h = .nx e (h.set p (.lst (xs.set j y))) := by
  simp only [itmR, q, r]
@[simp] theorem s_unl {is : List Nat} : sUnl is a e h = (a e h).bindO e fun x h1 => unlR is x e h1 := rfl
theorem unl_ok {is : List Nat} {e1 : En} (q : h[p]? = some (.lst xs)) (r : stNames is xs e = some e1) : unlR is (.ref p) e h = .nx e1 h := by
  simp only [unlR, q, r]
@[simp] theorem v_dlg {ks : List Tx} {ms : List M} {b : M} : mDlG ks ms a b e h = (evL ms e h).bind fun ds h1 => (a e h1).bind fun x h2 => (b e h2).bind fun d h3 => dlgR ks ds x d h3 := rfl
@[simp] theorem v_dli {ks : List Tx} {ms : List M} : mDlI ks ms a e h = (evL ms e h).bind fun ds h1 => (a e h1).bind fun x h2 => dliR ks ds x h2 := rfl
@[simp] theorem dlgR_ok {ks : List Tx} {ds : List D} {d : D} : dlgR ks ds (.str x) d h = .ok ((dLook (ks.zip ds) x).getD d) h := rfl
@[simp] theorem dliR_ok {ks : List Tx} {ds : List D} : dliR ks ds (.str x) h = optD (dLook (ks.zip ds) x) h := rfl
@[simp] theorem v_repl {c y z : Tx} : mRepl c y z a e h = (a e h).bind fun x h1 => replR c y z x h1 := rfl
theorem replR_ok {c y z : Tx} (q : x.length + (x.length + 1) * z.length ≤ 16777216 ∧ c.length + (repT x y z).length ≤ sizeLine) : replR c y z (.str x) h = .ok (.str (c ++ repT x y z)) h := if_pos q
@[simp] theorem str_str : dBi .str [.str x] h = .ok (.str x) h := rfl
end
end Mp

namespace K20
open PySem PySem.Spec PyProof.Rows L2 Mp
def top (i : Nat) : Stmt := PySem.Challenge.pw_rowspeak_k20_terms_written_and_read.main.body.getD i (.Pass ⟨0, 0, 0, 0⟩)
def k_KINDS : List (Tx × D) := [([65, 66, 83], (.str [110])), ([83, 71, 78], (.str [110])), ([76, 69, 78], (.str [115])), ([86, 65, 76], (.str [115])), ([70, 73, 78, 68], (.str [115, 115])), ([83, 84, 82, 36], (.str [110])), ([76, 69, 70, 84, 36], (.str [115, 110])), ([82, 73, 71, 72, 84, 36], (.str [115, 110])), ([77, 73, 68, 36], (.str [115, 110, 110]))]
def k_STRENGTHS : List (Tx × D) := [([79, 82], (.int 1)), ([65, 78, 68], (.int 2)), ([43], (.int 5)), ([45], (.int 5)), ([42], (.int 6)), ([68, 73, 86], (.int 6)), ([77, 79, 68], (.int 6))]
def c_MOST_WITHIN : D := (.int 20)
def c_MOST_NUMBER : D := (.int 999999999)
def c_MOST_TEXT : D := (.int 60)
def c_BARRED : D := (.int 37)
def c_WORDS : D := (.tup [(.str [76, 69, 84]), (.str [80, 82, 73, 78, 84]), (.str [73, 78, 80, 85, 84]), (.str [73, 70]), (.str [84, 72, 69, 78]), (.str [69, 76, 83, 69]), (.str [71, 79, 84, 79]), (.str [71, 79, 83, 85, 66]), (.str [82, 69, 84, 85, 82, 78]), (.str [70, 79, 82]), (.str [84, 79]), (.str [83, 84, 69, 80]), (.str [78, 69, 88, 84]), (.str [79, 78]), (.str [68, 73, 77]), (.str [68, 65, 84, 65]), (.str [82, 69, 65, 68]), (.str [82, 69, 83, 84, 79, 82, 69]), (.str [82, 69, 77]), (.str [69, 78, 68]), (.str [83, 84, 79, 80]), (.str [65, 78, 68]), (.str [79, 82]), (.str [78, 79, 84]), (.str [68, 73, 86]), (.str [77, 79, 68])])
def c_CAPITALS : D := (.str [65, 66, 67, 68, 69, 70, 71, 72, 73, 74, 75, 76, 77, 78, 79, 80, 81, 82, 83, 84, 85, 86, 87, 88, 89, 90])
def c_MOST_NAME : D := (.int 8)
def c_FIGURES : D := (.str [48, 49, 50, 51, 52, 53, 54, 55, 56, 57])
def c_COMPARING : D := (.tup [(.str [61]), (.str [60, 62]), (.str [60]), (.str [62]), (.str [60, 61]), (.str [62, 61])])
def c_COMPARING_STRENGTH : D := (.int 4)
def c_NOT_STRENGTH : D := (.int 3)
def c_MINUS_STRENGTH : D := (.int 7)
def c_PLAIN_STRENGTH : D := (.int 8)
def c_MOST_SIGNS : D := (.int 200)
def c_MARKS : D := (.tup [(.str [60, 61]), (.str [62, 61]), (.str [60, 62]), (.str [43]), (.str [45]), (.str [42]), (.str [40]), (.str [41]), (.str [44]), (.str [59]), (.str [58]), (.str [61]), (.str [60]), (.str [62])])
def c_MOST_FIGURES : D := (.int 9)
def tld : List (Nat × Nat) := [(3, 0), (2, 1), (4, 2), (5, 3), (6, 4), (7, 5)]
abbrev tldf : Nat → Option Nat := fun c => tld.lookup c
def foo : List (Nat × Nat) := [(0, 0), (0, 1), (1, 2), (1, 1)]
def gam0 : Gam where
  N := []
  cst := ([(("MOST_WITHIN" : Str), c_MOST_WITHIN), (("MOST_NUMBER" : Str), c_MOST_NUMBER), (("MOST_TEXT" : Str), c_MOST_TEXT), (("BARRED" : Str), c_BARRED), (("WORDS" : Str), c_WORDS), (("CAPITALS" : Str), c_CAPITALS), (("MOST_NAME" : Str), c_MOST_NAME), (("FIGURES" : Str), c_FIGURES), (("COMPARING" : Str), c_COMPARING), (("COMPARING_STRENGTH" : Str), c_COMPARING_STRENGTH), (("NOT_STRENGTH" : Str), c_NOT_STRENGTH), (("MINUS_STRENGTH" : Str), c_MINUS_STRENGTH), (("PLAIN_STRENGTH" : Str), c_PLAIN_STRENGTH), (("MOST_SIGNS" : Str), c_MOST_SIGNS), (("MARKS" : Str), c_MARKS), (("MOST_FIGURES" : Str), c_MOST_FIGURES)] : List (Str × D))
  fns := ([(("_law_drawn" : Str), 0), (("_law_joined" : Str), 1), (("_law_signs" : Str), 2), (("_law_text" : Str), 3), (("_law_leaf" : Str), 4), (("_law_term" : Str), 5), (("_law_strength" : Str), 6), (("_law_part" : Str), 7), (("_law_due" : Str), 8), (("_law_typed" : Str), 9), (("_law_cell" : Str), 10), (("_law_barred" : Str), 11), (("_law_names" : Str), 12), (("_law_tower" : Str), 13), (("need_terms" : Str), 14), (("is_count" : Str), 15), (("is_sign" : Str), 16), (("is_text" : Str), 17), (("need_all" : Str), 18), (("is_name" : Str), 19)] : List (Str × Nat)) ++ ([(("is_operator" : Str), 20), (("need_term" : Str), 21), (("strength_of" : Str), 22), (("strength" : Str), 23), (("within" : Str), 24), (("plain_text" : Str), 25), (("written_term" : Str), 26), (("term_by" : Str), 36), (("need_tokens" : Str), 37), (("tokens_of" : Str), 47), (("term_of" : Str), 48)] : List (Str × Nat))
  cls := [(("Reader" : Str), 0, 27), (("Signs" : Str), 1, 38)]
  fld := [(("tokens" : Str), 0), (("place" : Str), 1), (("line" : Str), 2)]
  mes := [(("peek" : Str), [(0, 28)]), (("take_if" : Str), [(0, 29)]), (("take" : Str), [(0, 30)]), (("places" : Str), [(0, 31)]), (("plain" : Str), [(0, 32)]), (("first" : Str), [(0, 33)]), (("operator" : Str), [(0, 34)]), (("term" : Str), [(0, 35)]), (("run" : Str), [(1, 39)]), (("skip" : Str), [(1, 40)]), (("mark" : Str), [(1, 41)]), (("number" : Str), [(1, 42)]), (("worded" : Str), [(1, 43)]), (("quoted" : Str), [(1, 44)]), (("token" : Str), [(1, 45)]), (("note" : Str), [(1, 46)])]
  exs := [(("BadTerm" : Str), 2), (("BadToken" : Str), 3), (("BadDeed" : Str), 4), (("BadRow" : Str), 5), (("BadPicture" : Str), 6)]
  bas := "SpeakError"
  wrd := "_law_word"
  tld := tld
  exw := [(("Fault" : Str), 7)]
  kdc := [(("KINDS" : Str), k_KINDS), (("STRENGTHS" : Str), k_STRENGTHS)]
  fo := foo
  fre := [("range" : Str), ("max" : Str), ("int" : Str), ("str" : Str), ("len" : Str), ("min" : Str), ("tuple" : Str), ("enumerate" : Str), ("isinstance" : Str), ("bool" : Str), ("all" : Str), ("ord" : Str)]
  told := ("_law_told" : Str)
  cl := fun _ _ _ => .err
def d0 : He.DefD := ⟨(("_law_drawn" : Str), none), "_law_drawn", "_law_drawn", defArgs (top 51), defBody (top 51), defScope (top 51), [], []⟩
noncomputable def b__law_drawn (cl : CL) : Ms :=
  (sSeq (sSet (stName 2) (mBin .Mod (mBin .Add (mBin .Mult (mVar 0) (mLit (.int 6364136223846793005))) (mBin .Mult (mBin .Add (mVar 1) (mLit (.int 1))) (mLit (.int 1442695040888963407)))) (mLit (.int 340282366920938463463374607431768211507)))) (sSeq (sSet (stName 2) (mBin .Mod (mBin .Mult (mVar 2) (mVar 2)) (mLit (.int 340282366920938463463374607431768211297)))) (sSeq (sSet (stName 2) (mBin .Mult (mBin .Mult (mBin .Add (mBin .Mod (mVar 2) (mLit (.int 18446744073709551557))) (mLit (.int 1))) (mBin .Add (mBin .FloorDiv (mVar 2) (mLit (.int 18446744073709551557))) (mLit (.int 1)))) (mVar 2))) (sSeq (sRet (mBin .Mod (mVar 2) (mLit (.int 340282366920938463463374607431768211507)))) sNext))))
noncomputable def q0 : Def1 := ⟨d0, [("cell" : Str), ("k" : Str), ("more" : Str)], [("cell" : Str), ("k" : Str)], 0, b__law_drawn⟩
theorem o0 : DefOk gam0 q0 := ⟨⟨rfl, rfl, rfl, by decide +kernel, rfl, by decide +kernel, by decide +kernel⟩, fun cl => by kernel_rfl, fun _ _ _ _ _ _ us hl => match us, hl with | [_, _], _ => rfl, rfl, rfl⟩
def d1 : He.DefD := ⟨(("_law_joined" : Str), none), "_law_joined", "_law_joined", defArgs (top 60), defBody (top 60), defScope (top 60), [], []⟩
noncomputable def t__law_joined_1 (cl : CL) : M :=
  (mCall cl 5 [(mVar 16), (mVar 1), (mLit (.str [110])), (mVar 3), (mVar 4)])
noncomputable def t__law_joined_2 (cl : CL) : M :=
  (mCall cl 0 [(mVar 0), (mVar 15)])
noncomputable def b__law_joined (cl : CL) : Ms :=
  (sSeq (sSet (stName 5) (mComp (miR1 (mLit (.int 3))) [15] (stName 15) mTrue (t__law_joined_2 cl))) (sSeq (sUnl [6, 7, 8] (mComp (miE (mVar 5)) [16] (stName 16) mTrue (t__law_joined_1 cl))) (sSeq (sSet (stName 9) (mCall cl 5 [(mIdx (mVar 5) (mLit (.int 0))), (mVar 1), (mLit (.str [115])), (mVar 3), (mVar 4)])) (sSeq (sSet (stName 10) (mCall cl 5 [(mIdx (mVar 5) (mLit (.int 1))), (mVar 1), (mLit (.str [115])), (mVar 3), (mVar 4)])) (sSeq (sSet (stName 11) (mIdx (mLst [(mTup [(mLit (.str [110, 117, 109])), (mBin .Mod (mBin .FloorDiv (mIdx (mVar 5) (mLit (.int 2))) (mLit (.int 8))) (mLit (.int 9)))]), (mVar 8)]) (mBi .int [(mCmp .Eq (mBin .Mod (mIdx (mVar 5) (mLit (.int 2))) (mLit (.int 3))) (mLit (.int 0)))]))) (sSeq (sSet (stName 12) (mBin .Mod (mVar 0) (mLit (.int 9)))) (sSeq (sIf (mCmp .Eq (mVar 2) (mLit (.str [115]))) (sSeq (sSet (stName 14) (mLst [(mTup [(mLit (.str [111, 112])), (mLit (.str [43])), (mVar 9), (mVar 10)]), (mTup [(mLit (.str [99, 97, 108, 108])), (mLit (.str [83, 84, 82, 36])), (mTup [(mVar 6)])]), (mTup [(mLit (.str [99, 97, 108, 108])), (mLit (.str [76, 69, 70, 84, 36])), (mTup [(mVar 9), (mVar 11)])])])) (sSeq (sSet (stName 14) (mBin .Add (mVar 14) (mLst [(mTup [(mLit (.str [99, 97, 108, 108])), (mLit (.str [82, 73, 71, 72, 84, 36])), (mTup [(mVar 9), (mVar 11)])]), (mTup [(mLit (.str [99, 97, 108, 108])), (mLit (.str [77, 73, 68, 36])), (mTup [(mVar 9), (mVar 7), (mVar 11)])])]))) (sSeq (sSet (stName 14) (mBin .Add (mVar 14) (mLst [(mTup [(mLit (.str [99, 97, 108, 108])), (mLit (.str [77, 73, 68, 36])), (mTup [(mVar 9), (mTup [(mLit (.str [110, 117, 109])), (mBin .Add (mLit (.int 1)) (mBin .Mod (mBin .FloorDiv (mIdx (mVar 5) (mLit (.int 1))) (mBin .Pow (mLit (.int 2)) (mLit (.int 60)))) (mLit (.int 5))))]), (mVar 11)])])]))) (sSeq (sRet (mIdx (mVar 14) (mIdx (mLst [(mLit (.int 0)), (mLit (.int 0)), (mLit (.int 0)), (mLit (.int 1)), (mLit (.int 2)), (mLit (.int 3)), (mLit (.int 4)), (mLit (.int 5)), (mLit (.int 5))]) (mVar 12)))) sNext)))) sNext) (sSeq (sSet (stName 13) (mIdx (mLst [(mLit (.str [61])), (mLit (.str [60, 62])), (mLit (.str [60])), (mLit (.str [62])), (mLit (.str [60, 61])), (mLit (.str [62, 61])), (mLit (.str [65, 78, 68])), (mLit (.str [79, 82])), (mLit (.str [43])), (mLit (.str [45])), (mLit (.str [42])), (mLit (.str [68, 73, 86])), (mLit (.str [77, 79, 68]))]) (mBin .Mod (mBin .FloorDiv (mVar 0) (mLit (.int 16))) (mLit (.int 13))))) (sSeq (sIf (mCmp .Lt (mVar 12) (mLit (.int 4))) (sSeq (sRet (mTup [(mLit (.str [111, 112])), (mVar 13), (mVar 6), (mVar 7)])) sNext) sNext) (sSeq (sIf (mCmp .Eq (mVar 12) (mLit (.int 4))) (sSeq (sRet (mTup [(mLit (.str [111, 112])), (mIdx (mLst [(mLit (.str [61])), (mLit (.str [60, 62])), (mLit (.str [60])), (mLit (.str [62])), (mLit (.str [60, 61])), (mLit (.str [62, 61]))]) (mBin .Mod (mBin .FloorDiv (mVar 0) (mLit (.int 16))) (mLit (.int 6)))), (mVar 9), (mVar 10)])) sNext) sNext) (sSeq (sIf (mCmp .Lt (mVar 12) (mLit (.int 7))) (sSeq (sRet (mTup [(mIdx (mLst [(mLit (.str [109, 105, 110, 117, 115])), (mLit (.str [110, 111, 116]))]) (mBin .Sub (mVar 12) (mLit (.int 5)))), (mVar 6)])) sNext) sNext) (sSeq (sIf (mCmp .Eq (mVar 12) (mLit (.int 7))) (sSeq (sRet (mTup [(mLit (.str [99, 97, 108, 108])), (mIdx (mLst [(mLit (.str [65, 66, 83])), (mLit (.str [83, 71, 78]))]) (mBin .Mod (mBin .FloorDiv (mVar 0) (mLit (.int 16))) (mLit (.int 2)))), (mTup [(mVar 6)])])) sNext) sNext) (sSeq (sRet (mIdx (mLst [(mTup [(mLit (.str [99, 97, 108, 108])), (mLit (.str [76, 69, 78])), (mTup [(mVar 9)])]), (mTup [(mLit (.str [99, 97, 108, 108])), (mLit (.str [86, 65, 76])), (mTup [(mVar 9)])]), (mTup [(mLit (.str [99, 97, 108, 108])), (mLit (.str [70, 73, 78, 68])), (mTup [(mVar 9), (mVar 10)])])]) (mBin .Mod (mBin .FloorDiv (mVar 0) (mLit (.int 16))) (mLit (.int 3))))) sNext)))))))))))))
noncomputable def q1 : Def1 := ⟨d1, [("more" : Str), ("deep" : Str), ("kind" : Str), ("pool" : Str), ("odd" : Str), ("row" : Str), ("number" : Str), ("next_number" : Str), ("last" : Str), ("text" : Str), ("next_text" : Str), ("few" : Str), ("way" : Str), ("sign" : Str), ("some" : Str), ("j" : Str), ("one" : Str)], [("more" : Str), ("deep" : Str), ("kind" : Str), ("pool" : Str), ("odd" : Str)], 0, b__law_joined⟩
theorem o1 : DefOk gam0 q1 := ⟨⟨rfl, rfl, rfl, by decide +kernel, rfl, by decide +kernel, by decide +kernel⟩, fun cl => by kernel_rfl, fun _ _ _ _ _ _ us hl => match us, hl with | [_, _, _, _, _], _ => rfl, rfl, rfl⟩
def d2 : He.DefD := ⟨(("_law_signs" : Str), none), "_law_signs", "_law_signs", defArgs (top 54), defBody (top 54), defScope (top 54), [], []⟩
noncomputable def b__law_signs (cl : CL) : Ms :=
  (sSeq (sRet (mLit (.str [32, 33, 35, 36, 38, 39, 40, 41, 42, 43, 44, 45, 46, 47, 48, 49, 50, 51, 52, 53, 54, 55, 56, 57, 58, 59, 60, 61, 62, 63, 64, 65, 66, 67, 68, 69, 70, 71, 72, 73, 74, 75, 76, 77, 78, 79, 80, 81, 82, 83, 84, 85, 86, 87, 88, 89, 90, 91, 92, 93, 94, 95, 96, 97, 98, 99, 100, 101, 102, 103, 104, 105, 106, 107, 108, 109, 110, 111, 112, 113, 114, 115, 116, 117, 118, 119, 120, 121, 122, 123, 124, 125, 126]))) sNext)
noncomputable def q2 : Def1 := ⟨d2, [], [], 0, b__law_signs⟩
theorem o2 : DefOk gam0 q2 := ⟨⟨rfl, rfl, rfl, by decide +kernel, rfl, by decide +kernel, by decide +kernel⟩, fun cl => by kernel_rfl, fun _ _ _ _ _ _ us hl => match us, hl with | [], _ => rfl, rfl, rfl⟩
def d3 : He.DefD := ⟨(("_law_text" : Str), none), "_law_text", "_law_text", defArgs (top 55), defBody (top 55), defScope (top 55), [], []⟩
noncomputable def t__law_text_1 (cl : CL) : M :=
  (mIdx (mVar 2) (mBin .Mod (mCall cl 0 [(mVar 0), (mVar 4)]) (mBi .len [(mVar 2)])))
noncomputable def b__law_text (cl : CL) : Ms :=
  (sSeq (sSet (stName 2) (mCall cl 2 [])) (sSeq (sIf (mCmp .Eq (mBin .Mod (mVar 0) (mLit (.int 4))) (mLit (.int 0))) (sSeq (sRet (mBin .Add (mIdx (mLst [(mLit (.str [])), (mLit (.str [45]))]) (mBin .Mod (mBin .FloorDiv (mVar 0) (mLit (.int 4))) (mLit (.int 2)))) (mBi .str [(mBin .Mod (mBin .FloorDiv (mVar 0) (mLit (.int 8))) (mIdx (mLst [(mLit (.int 10)), (mLit (.int 1000)), (mBin .Pow (mLit (.int 10)) (mLit (.int 7)))]) (mBin .Mod (mBin .FloorDiv (mVar 0) (mBin .Pow (mLit (.int 2)) (mLit (.int 30)))) (mLit (.int 3)))))]))) sNext) sNext) (sSeq (sSet (stName 3) (mIdx (mLst [(mLit (.int 0)), (mLit (.int 1)), (mLit (.int 2)), (mLit (.int 4)), (mVar 1)]) (mBin .Mod (mBin .FloorDiv (mVar 0) (mLit (.int 4))) (mLit (.int 5))))) (sSeq (sRet (mBm .join (mLit (.str [])) [(mComp (miR1 (mBi .min [(mVar 3), (mVar 1)])) [4] (stName 4) mTrue (t__law_text_1 cl))])) sNext))))
noncomputable def q3 : Def1 := ⟨d3, [("more" : Str), ("most" : Str), ("signs" : Str), ("many" : Str), ("j" : Str)], [("more" : Str), ("most" : Str)], 0, b__law_text⟩
theorem o3 : DefOk gam0 q3 := ⟨⟨rfl, rfl, rfl, by decide +kernel, rfl, by decide +kernel, by decide +kernel⟩, fun cl => by kernel_rfl, fun _ _ _ _ _ _ us hl => match us, hl with | [_, _], _ => rfl, rfl, rfl⟩
def d4 : He.DefD := ⟨(("_law_leaf" : Str), none), "_law_leaf", "_law_leaf", defArgs (top 58), defBody (top 58), defScope (top 58), [], []⟩
noncomputable def b__law_leaf (cl : CL) : Ms :=
  (sSeq (sSet (stName 3) (mIdx (mVar 2) (mBi .int [(mCmp .Eq (mVar 1) (mLit (.str [115])))]))) (sSeq (sIf (mCmp .Lt (mBin .Mod (mVar 0) (mLit (.int 4))) (mLit (.int 2))) (sSeq (sRet (mTup [(mLit (.str [110, 97, 109, 101])), (mIdx (mVar 3) (mBin .Mod (mBin .FloorDiv (mVar 0) (mLit (.int 4))) (mBi .len [(mVar 3)])))])) sNext) sNext) (sSeq (sIf (mCmp .Eq (mVar 1) (mLit (.str [115]))) (sSeq (sRet (mTup [(mLit (.str [116, 101, 120, 116])), (mCall cl 3 [(mBin .FloorDiv (mVar 0) (mLit (.int 16))), (mLit (.int 9))])])) sNext) sNext) (sSeq (sRet (mTup [(mLit (.str [110, 117, 109])), (mBin .Mod (mBin .FloorDiv (mVar 0) (mBin .Pow (mLit (.int 2)) (mLit (.int 10)))) (mIdx (mLst [(mLit (.int 4)), (mLit (.int 12)), (mLit (.int 1000)), (mBin .Pow (mLit (.int 10)) (mLit (.int 9)))]) (mBin .Mod (mBin .FloorDiv (mVar 0) (mLit (.int 16))) (mLit (.int 4)))))])) sNext))))
noncomputable def q4 : Def1 := ⟨d4, [("more" : Str), ("kind" : Str), ("pool" : Str), ("names" : Str)], [("more" : Str), ("kind" : Str), ("pool" : Str)], 0, b__law_leaf⟩
theorem o4 : DefOk gam0 q4 := ⟨⟨rfl, rfl, rfl, by decide +kernel, rfl, by decide +kernel, by decide +kernel⟩, fun cl => by kernel_rfl, fun _ _ _ _ _ _ us hl => match us, hl with | [_, _, _], _ => rfl, rfl, rfl⟩
def d5 : He.DefD := ⟨(("_law_term" : Str), none), "_law_term", "_law_term", defArgs (top 59), defBody (top 59), defScope (top 59), [], []⟩
noncomputable def l__law_term_1 (cl : CL) : Ms :=
  (sSeq (sSet (stName 9) (mCall cl 0 [(mVar 5), (mVar 7)])) (sSeq (sDrop (mBm .append (mVar 6) [(mIdx (mLst [(mTup [(mLit (.str [110, 117, 109])), (mBin .Mod (mBin .FloorDiv (mVar 9) (mLit (.int 4))) (mLit (.int 12)))]), (mCall cl 5 [(mVar 9), (mLit (.int 0)), (mLit (.str [110])), (mVar 3), (mVar 4)])]) (mBi .int [(mCmp .Eq (mBin .Mod (mVar 9) (mLit (.int 4))) (mLit (.int 0)))]))])) sNext))
noncomputable def b__law_term (cl : CL) : Ms :=
  (sSeq (sIf (mAnd (mCmp .Gt (mVar 4) (mLit (.int 0))) (mCmp .Eq (mBin .Mod (mBin .FloorDiv (mVar 0) (mBin .Pow (mLit (.int 2)) (mLit (.int 60)))) (mVar 4)) (mLit (.int 0)))) (sSeq (sSet (stName 2) (mIdx (mLst [(mLit (.str [110])), (mLit (.str [115]))]) (mBi .int [(mCmp .Eq (mVar 2) (mLit (.str [110])))]))) sNext) sNext) (sSeq (sSet (stName 5) (mBin .FloorDiv (mVar 0) (mLit (.int 64)))) (sSeq (sIf (mOr (mCmp .Eq (mVar 1) (mLit (.int 0))) (mCmp .Eq (mBin .Mod (mVar 0) (mLit (.int 4))) (mLit (.int 0)))) (sSeq (sRet (mCall cl 4 [(mVar 5), (mVar 2), (mVar 3)])) sNext) sNext) (sSeq (sIf (mCmp .Eq (mBin .Mod (mBin .FloorDiv (mVar 0) (mLit (.int 4))) (mLit (.int 4))) (mLit (.int 0))) (sSeq (sSet (stName 6) (mLst [])) (sSeq (sFor (miR1 (mBin .Add (mLit (.int 1)) (mBin .Mod (mBin .FloorDiv (mVar 5) (mLit (.int 64))) (mLit (.int 2))))) (stName 7) (l__law_term_1 cl)) (sSeq (sSet (stName 8) (mIdx (mVar 3) (mBi .int [(mCmp .Eq (mVar 2) (mLit (.str [115])))]))) (sSeq (sRet (mTup [(mLit (.str [99, 101, 108, 108])), (mIdx (mVar 8) (mBin .Mod (mBin .FloorDiv (mVar 5) (mLit (.int 128))) (mBi .len [(mVar 8)]))), (mBi .tup [(mVar 6)])])) sNext)))) sNext) (sSeq (sRet (mCall cl 1 [(mVar 5), (mBin .Sub (mVar 1) (mLit (.int 1))), (mVar 2), (mVar 3), (mVar 4)])) sNext)))))
noncomputable def q5 : Def1 := ⟨d5, [("more" : Str), ("deep" : Str), ("kind" : Str), ("pool" : Str), ("odd" : Str), ("here" : Str), ("places" : Str), ("j" : Str), ("names" : Str), ("one" : Str)], [("more" : Str), ("deep" : Str), ("kind" : Str), ("pool" : Str), ("odd" : Str)], 0, b__law_term⟩
theorem o5 : DefOk gam0 q5 := ⟨⟨rfl, rfl, rfl, by decide +kernel, rfl, by decide +kernel, by decide +kernel⟩, fun cl => by kernel_rfl, fun _ _ _ _ _ _ us hl => match us, hl with | [_, _, _, _, _], _ => rfl, rfl, rfl⟩
def d6 : He.DefD := ⟨(("_law_strength" : Str), none), "_law_strength", "_law_strength", defArgs (top 62), defBody (top 62), defScope (top 62), [], []⟩
noncomputable def b__law_strength (cl : CL) : Ms :=
  (sSeq (sIf (mCmp .Eq (mIdx (mVar 0) (mLit (.int 0))) (mLit (.str [111, 112]))) (sSeq (sRet (mDlG [[79, 82], [65, 78, 68], [43], [45], [42], [68, 73, 86], [77, 79, 68]] [(mLit (.int 1)), (mLit (.int 2)), (mLit (.int 5)), (mLit (.int 5)), (mLit (.int 6)), (mLit (.int 6)), (mLit (.int 6))] (mIdx (mVar 0) (mLit (.int 1))) (mLit (.int 4)))) sNext) sNext) (sSeq (sRet (mDlG [[110, 111, 116], [109, 105, 110, 117, 115]] [(mLit (.int 3)), (mLit (.int 7))] (mIdx (mVar 0) (mLit (.int 0))) (mLit (.int 8)))) sNext))
noncomputable def q6 : Def1 := ⟨d6, [("term" : Str)], [("term" : Str)], 0, b__law_strength⟩
theorem o6 : DefOk gam0 q6 := ⟨⟨rfl, rfl, rfl, by decide +kernel, rfl, by decide +kernel, by decide +kernel⟩, fun cl => by kernel_rfl, fun _ _ _ _ _ _ us hl => match us, hl with | [_], _ => rfl, rfl, rfl⟩
def d7 : He.DefD := ⟨(("_law_part" : Str), none), "_law_part", "_law_part", defArgs (top 63), defBody (top 63), defScope (top 63), [], []⟩
noncomputable def b__law_part (cl : CL) : Ms :=
  (sSeq (sSet (stName 2) (mCall cl 8 [(mVar 0)])) (sSeq (sRet (mIf (mCmp .GtE (mCall cl 6 [(mVar 0)]) (mVar 1)) (mVar 2) (mBin .Add (mBin .Add (mLit (.str [40])) (mVar 2)) (mLit (.str [41]))))) sNext))
noncomputable def q7 : Def1 := ⟨d7, [("term" : Str), ("least" : Str), ("found" : Str)], [("term" : Str), ("least" : Str)], 0, b__law_part⟩
theorem o7 : DefOk gam0 q7 := ⟨⟨rfl, rfl, rfl, by decide +kernel, rfl, by decide +kernel, by decide +kernel⟩, fun cl => by kernel_rfl, fun _ _ _ _ _ _ us hl => match us, hl with | [_, _], _ => rfl, rfl, rfl⟩
def d8 : He.DefD := ⟨(("_law_due" : Str), none), "_law_due", "_law_due", defArgs (top 64), defBody (top 64), defScope (top 64), [], []⟩
noncomputable def t__law_due_1 (cl : CL) : M :=
  (mCall cl 8 [(mVar 3)])
noncomputable def b__law_due (cl : CL) : Ms :=
  (sSeq (sSet (stName 1) (mIdx (mVar 0) (mLit (.int 0)))) (sSeq (sIf (mCmp .In (mVar 1) (mTup [(mLit (.str [110, 117, 109])), (mLit (.str [110, 97, 109, 101]))])) (sSeq (sRet (mBi .str [(mIdx (mVar 0) (mLit (.int 1)))])) sNext) sNext) (sSeq (sIf (mCmp .Eq (mVar 1) (mLit (.str [116, 101, 120, 116]))) (sSeq (sRet (mBin .Add (mBin .Add (mLit (.str [34])) (mIdx (mVar 0) (mLit (.int 1)))) (mLit (.str [34])))) sNext) sNext) (sSeq (sIf (mCmp .In (mVar 1) (mTup [(mLit (.str [99, 101, 108, 108])), (mLit (.str [99, 97, 108, 108]))])) (sSeq (sRet (mBin .Add (mBin .Add (mBin .Add (mIdx (mVar 0) (mLit (.int 1))) (mLit (.str [40]))) (mBm .join (mLit (.str [44, 32])) [(mComp (miE (mIdx (mVar 0) (mLit (.int 2)))) [3] (stName 3) mTrue (t__law_due_1 cl))])) (mLit (.str [41])))) sNext) sNext) (sSeq (sSet (stName 2) (mCall cl 6 [(mVar 0)])) (sSeq (sIf (mCmp .Eq (mVar 1) (mLit (.str [111, 112]))) (sSeq (sRet (mBin .Add (mBin .Add (mBin .Add (mBin .Add (mCall cl 7 [(mIdx (mVar 0) (mLit (.int 2))), (mVar 2)]) (mLit (.str [32]))) (mIdx (mVar 0) (mLit (.int 1)))) (mLit (.str [32]))) (mCall cl 7 [(mIdx (mVar 0) (mLit (.int 3))), (mBin .Add (mVar 2) (mLit (.int 1)))]))) sNext) sNext) (sSeq (sRet (mBin .Add (mIdx (mLst [(mLit (.str [45])), (mLit (.str [78, 79, 84, 32]))]) (mBi .int [(mCmp .Eq (mVar 1) (mLit (.str [110, 111, 116])))])) (mCall cl 7 [(mIdx (mVar 0) (mLit (.int 1))), (mVar 2)]))) sNext)))))))
noncomputable def q8 : Def1 := ⟨d8, [("term" : Str), ("word" : Str), ("least" : Str), ("one" : Str)], [("term" : Str)], 0, b__law_due⟩
theorem o8 : DefOk gam0 q8 := ⟨⟨rfl, rfl, rfl, by decide +kernel, rfl, by decide +kernel, by decide +kernel⟩, fun cl => by kernel_rfl, fun _ _ _ _ _ _ us hl => match us, hl with | [_], _ => rfl, rfl, rfl⟩
def d9 : He.DefD := ⟨(("_law_typed" : Str), none), "_law_typed", "_law_typed", defArgs (top 61), defBody (top 61), defScope (top 61), [], []⟩
noncomputable def t__law_typed_1 (cl : CL) : M :=
  (mCall cl 9 [(mVar 3)])
noncomputable def b__law_typed (cl : CL) : Ms :=
  (sSeq (sSet (stName 1) (mIdx (mVar 0) (mLit (.int 0)))) (sSeq (sIf (mCmp .In (mVar 1) (mTup [(mLit (.str [110, 117, 109])), (mLit (.str [110, 97, 109, 101]))])) (sSeq (sRet (mBi .str [(mIdx (mVar 0) (mLit (.int 1)))])) sNext) sNext) (sSeq (sIf (mCmp .Eq (mVar 1) (mLit (.str [116, 101, 120, 116]))) (sSeq (sRet (mBin .Add (mBin .Add (mLit (.str [34])) (mIdx (mVar 0) (mLit (.int 1)))) (mLit (.str [34])))) sNext) sNext) (sSeq (sIf (mCmp .In (mVar 1) (mTup [(mLit (.str [99, 101, 108, 108])), (mLit (.str [99, 97, 108, 108]))])) (sSeq (sRet (mBin .Add (mBin .Add (mBin .Add (mIdx (mVar 0) (mLit (.int 1))) (mLit (.str [40]))) (mBm .join (mLit (.str [44, 32])) [(mComp (miE (mIdx (mVar 0) (mLit (.int 2)))) [3] (stName 3) mTrue (t__law_typed_1 cl))])) (mLit (.str [41])))) sNext) sNext) (sSeq (sIf (mCmp .Eq (mVar 1) (mLit (.str [111, 112]))) (sSeq (sSet (stName 2) (mBin .Add (mBin .Add (mBin .Add (mLit (.str [40])) (mCall cl 9 [(mIdx (mVar 0) (mLit (.int 2)))])) (mLit (.str [41, 32]))) (mIdx (mVar 0) (mLit (.int 1))))) (sSeq (sRet (mBin .Add (mBin .Add (mBin .Add (mVar 2) (mLit (.str [32, 40]))) (mCall cl 9 [(mIdx (mVar 0) (mLit (.int 3)))])) (mLit (.str [41])))) sNext)) sNext) (sSeq (sRet (mBin .Add (mBin .Add (mBin .Add (mIdx (mLst [(mLit (.str [45])), (mLit (.str [78, 79, 84, 32]))]) (mBi .int [(mCmp .Eq (mVar 1) (mLit (.str [110, 111, 116])))])) (mLit (.str [40]))) (mCall cl 9 [(mIdx (mVar 0) (mLit (.int 1)))])) (mLit (.str [41])))) sNext))))))
noncomputable def q9 : Def1 := ⟨d9, [("term" : Str), ("word" : Str), ("ahead" : Str), ("one" : Str)], [("term" : Str)], 0, b__law_typed⟩
theorem o9 : DefOk gam0 q9 := ⟨⟨rfl, rfl, rfl, by decide +kernel, rfl, by decide +kernel, by decide +kernel⟩, fun cl => by kernel_rfl, fun _ _ _ _ _ _ us hl => match us, hl with | [_], _ => rfl, rfl, rfl⟩
def d10 : He.DefD := ⟨(("_law_cell" : Str), none), "_law_cell", "_law_cell", defArgs (top 50), defBody (top 50), defScope (top 50), [], []⟩
noncomputable def b__law_cell (cl : CL) : Ms :=
  (sSeq (sIf (mCmp .Eq (mVar 0) (mLst [])) (sSeq (sRet (mBin .Mult (mVar 1) (mLit (.int 7919)))) sNext) sNext) (sSeq (sRet (mBin .Add (mIdx (mVar 0) (mBin .Mod (mVar 1) (mBi .len [(mVar 0)]))) (mBin .Mult (mBin .FloorDiv (mVar 1) (mBi .len [(mVar 0)])) (mLit (.int 104729))))) sNext))
noncomputable def q10 : Def1 := ⟨d10, [("script" : Str), ("k" : Str)], [("script" : Str), ("k" : Str)], 0, b__law_cell⟩
theorem o10 : DefOk gam0 q10 := ⟨⟨rfl, rfl, rfl, by decide +kernel, rfl, by decide +kernel, by decide +kernel⟩, fun cl => by kernel_rfl, fun _ _ _ _ _ _ us hl => match us, hl with | [_, _], _ => rfl, rfl, rfl⟩
def d11 : He.DefD := ⟨(("_law_barred" : Str), none), "_law_barred", "_law_barred", defArgs (top 56), defBody (top 56), defScope (top 56), [], []⟩
noncomputable def b__law_barred (cl : CL) : Ms :=
  (sSeq (sSet (stName 0) (mLit (.str [76, 69, 84, 32, 80, 82, 73, 78, 84, 32, 73, 78, 80, 85, 84, 32, 73, 70, 32, 84, 72, 69, 78, 32, 69, 76, 83, 69, 32, 71, 79, 84, 79, 32, 71, 79, 83, 85, 66, 32, 82, 69, 84, 85, 82, 78, 32, 70, 79, 82, 32, 84, 79, 32, 83, 84, 69, 80, 32, 78, 69, 88, 84, 32, 79, 78, 32, 68, 73, 77, 32, 68, 65, 84, 65, 32, 82, 69, 65, 68, 32, 82, 69, 83, 84, 79, 82, 69, 32, 82, 69, 77, 32, 69, 78, 68, 32, 83, 84, 79, 80]))) (sSeq (sSet (stName 0) (mBin .Add (mVar 0) (mLit (.str [32, 65, 78, 68, 32, 79, 82, 32, 78, 79, 84, 32, 68, 73, 86, 32, 77, 79, 68, 32, 65, 66, 83, 32, 83, 71, 78, 32, 76, 69, 78, 32, 86, 65, 76, 32, 70, 73, 78, 68, 32, 83, 84, 82, 36, 32, 76, 69, 70, 84, 36, 32, 82, 73, 71, 72, 84, 36, 32, 77, 73, 68, 36])))) (sSeq (sRet (mBm .split (mVar 0) [(mLit (.str [32]))])) sNext)))
noncomputable def q11 : Def1 := ⟨d11, [("found" : Str)], [], 0, b__law_barred⟩
theorem o11 : DefOk gam0 q11 := ⟨⟨rfl, rfl, rfl, by decide +kernel, rfl, by decide +kernel, by decide +kernel⟩, fun cl => by kernel_rfl, fun _ _ _ _ _ _ us hl => match us, hl with | [], _ => rfl, rfl, rfl⟩
def d12 : He.DefD := ⟨(("_law_names" : Str), none), "_law_names", "_law_names", defArgs (top 57), defBody (top 57), defScope (top 57), [], []⟩
noncomputable def t__law_names_1 (cl : CL) : M :=
  (mOr (mCmp .In (mVar 10) (mVar 6)) (mCmp .In (mVar 10) (mCall cl 11 [])))
noncomputable def l__law_names_1 (cl : CL) : Ms :=
  (sSeq (sSet (stName 10) (mBin .Add (mIdx (mVar 3) (mBin .Mod (mBin .Add (mBm .find (mVar 3) [(mIdx (mVar 10) (mLit (.int 0)))]) (mLit (.int 1))) (mLit (.int 26)))) (mSlc (mVar 10) (some (mLit (.int 1))) none))) sNext)
noncomputable def t__law_names_2 (cl : CL) : M :=
  (mIdx (mVar 4) (mBin .Mod (mCall cl 0 [(mVar 0), (mVar 11)]) (mLit (.int 36))))
noncomputable def l__law_names_2 (cl : CL) : Ms :=
  (sSeq (sSet (stName 8) (mCall cl 0 [(mVar 0), (mBin .Add (mLit (.int 90)) (mVar 7))])) (sSeq (sSet (stName 9) (mComp (miR1 (mVar 5)) [11] (stName 11) mTrue (t__law_names_2 cl))) (sSeq (sItm (mVar 9) (mBin .Mod (mVar 8) (mVar 5)) (mIdx (mVar 4) (mBin .Mod (mBin .FloorDiv (mVar 8) (mLit (.int 8))) (mLit (.int 36))))) (sSeq (sIf (mCmp .NotIn (mIdx (mVar 9) (mLit (.int 0))) (mVar 3)) (sSeq (sItm (mVar 9) (mLit (.int 0)) (mIdx (mVar 3) (mBin .Mod (mBin .FloorDiv (mVar 8) (mLit (.int 512))) (mLit (.int 26))))) sNext) sNext) (sSeq (sSet (stName 10) (mBin .Add (mBm .join (mLit (.str [])) [(mVar 9)]) (mVar 2))) (sSeq (sWhl (t__law_names_1 cl) (l__law_names_1 cl)) (sSeq (sDrop (mBm .append (mVar 6) [(mVar 10)])) sNext)))))))
noncomputable def b__law_names (cl : CL) : Ms :=
  (sSeq (sSet (stName 3) (mLit (.str [65, 66, 67, 68, 69, 70, 71, 72, 73, 74, 75, 76, 77, 78, 79, 80, 81, 82, 83, 84, 85, 86, 87, 88, 89, 90]))) (sSeq (sSet (stName 4) (mBin .Add (mVar 3) (mLit (.str [48, 49, 50, 51, 52, 53, 54, 55, 56, 57])))) (sSeq (sSet (stName 5) (mIdx (mLst [(mLit (.int 1)), (mLit (.int 2)), (mLit (.int 3)), (mBin .Sub (mLit (.int 8)) (mBi .len [(mVar 2)]))]) (mBin .Mod (mVar 0) (mLit (.int 4))))) (sSeq (sSet (stName 6) (mLst [])) (sSeq (sFor (miR1 (mVar 1)) (stName 7) (l__law_names_2 cl)) (sSeq (sRet (mVar 6)) sNext))))))
noncomputable def q12 : Def1 := ⟨d12, [("more" : Str), ("many" : Str), ("end" : Str), ("letters" : Str), ("signs" : Str), ("long" : Str), ("found" : Str), ("j" : Str), ("here" : Str), ("row" : Str), ("name" : Str), ("at" : Str)], [("more" : Str), ("many" : Str), ("end" : Str)], 0, b__law_names⟩
theorem o12 : DefOk gam0 q12 := ⟨⟨rfl, rfl, rfl, by decide +kernel, rfl, by decide +kernel, by decide +kernel⟩, fun cl => by kernel_rfl, fun _ _ _ _ _ _ us hl => match us, hl with | [_, _, _], _ => rfl, rfl, rfl⟩
def d13 : He.DefD := ⟨(("_law_tower" : Str), none), "_law_tower", "_law_tower", defArgs (top 65), defBody (top 65), defScope (top 65), [], []⟩
noncomputable def l__law_tower_1 (cl : CL) : Ms :=
  (sSeq (sSet (stName 3) (mCall cl 0 [(mVar 1), (mVar 2)])) (sSeq (sSet (stName 4) (mBin .Mod (mVar 3) (mLit (.int 4)))) (sSeq (sSet (stName 5) (mTup [(mLit (.str [110, 117, 109])), (mBin .Mod (mBin .FloorDiv (mVar 3) (mLit (.int 8))) (mLit (.int 10)))])) (sSeq (sIf (mCmp .Lt (mVar 4) (mLit (.int 2))) (sSeq (sSet (stName 0) (mTup [(mIdx (mLst [(mLit (.str [109, 105, 110, 117, 115])), (mLit (.str [110, 111, 116]))]) (mVar 4)), (mVar 0)])) sNext) (sSeq (sIf (mCmp .Eq (mVar 4) (mLit (.int 2))) (sSeq (sSet (stName 0) (mTup [(mLit (.str [111, 112])), (mIdx (mLst [(mLit (.str [79, 82])), (mLit (.str [65, 78, 68])), (mLit (.str [60])), (mLit (.str [43])), (mLit (.str [77, 79, 68]))]) (mBin .Mod (mBin .FloorDiv (mVar 3) (mLit (.int 16))) (mLit (.int 5)))), (mVar 5), (mVar 0)])) sNext) (sSeq (sSet (stName 0) (mTup [(mLit (.str [111, 112])), (mIdx (mLst [(mLit (.str [79, 82])), (mLit (.str [65, 78, 68])), (mLit (.str [61])), (mLit (.str [45])), (mLit (.str [42]))]) (mBin .Mod (mBin .FloorDiv (mVar 3) (mLit (.int 16))) (mLit (.int 5)))), (mVar 0), (mVar 5)])) sNext)) sNext)) sNext))))
noncomputable def b__law_tower (cl : CL) : Ms :=
  (sSeq (sFor (miR1 (mBin .Mod (mVar 1) (mLit (.int 20)))) (stName 2) (l__law_tower_1 cl)) (sSeq (sRet (mVar 0)) sNext))
noncomputable def q13 : Def1 := ⟨d13, [("term" : Str), ("more" : Str), ("j" : Str), ("here" : Str), ("way" : Str), ("other" : Str)], [("term" : Str), ("more" : Str)], 0, b__law_tower⟩
theorem o13 : DefOk gam0 q13 := ⟨⟨rfl, rfl, rfl, by decide +kernel, rfl, by decide +kernel, by decide +kernel⟩, fun cl => by kernel_rfl, fun _ _ _ _ _ _ us hl => match us, hl with | [_, _], _ => rfl, rfl, rfl⟩
def d14 : He.DefD := ⟨(("need_terms" : Str), none), "need", "need", defArgs (top 33), defBody (top 33), defScope (top 33), [], []⟩
noncomputable def b_need_terms (cl : CL) : Ms :=
  (sSeq (sIf (mNot (mVar 0)) (sSeq (sRaise 2) sNext) sNext) sNext)
noncomputable def q14 : Def1 := ⟨d14, [("good" : Str)], [("good" : Str)], 0, b_need_terms⟩
theorem o14 : DefOk gam0 q14 := ⟨⟨rfl, rfl, rfl, by decide +kernel, rfl, by decide +kernel, by decide +kernel⟩, fun cl => by kernel_rfl, fun _ _ _ _ _ _ us hl => match us, hl with | [_], _ => rfl, rfl, rfl⟩
def d15 : He.DefD := ⟨(("is_count" : Str), none), "is_count", "is_count", defArgs (top 35), defBody (top 35), defScope (top 35), [], []⟩
noncomputable def b_is_count (cl : CL) : Ms :=
  (sSeq (sRet (mAnd (mIsi (mVar 0) .int) (mAnd (mNot (mIsi (mVar 0) .bool)) (mChain .LtE .LtE (mVar 1) (mVar 0) (mVar 2))))) sNext)
noncomputable def q15 : Def1 := ⟨d15, [("thing" : Str), ("least" : Str), ("most" : Str)], [("thing" : Str), ("least" : Str), ("most" : Str)], 0, b_is_count⟩
theorem o15 : DefOk gam0 q15 := ⟨⟨rfl, rfl, rfl, by decide +kernel, rfl, by decide +kernel, by decide +kernel⟩, fun cl => by kernel_rfl, fun _ _ _ _ _ _ us hl => match us, hl with | [_, _, _], _ => rfl, rfl, rfl⟩
def d16 : He.DefD := ⟨(("is_sign" : Str), none), "is_sign", "is_sign", defArgs (top 19), defBody (top 19), defScope (top 19), [], []⟩
noncomputable def b_is_sign (cl : CL) : Ms :=
  (sSeq (sRet (mAnd (mChain .LtE .LtE (mLit (.str [32])) (mVar 0) (mLit (.str [126]))) (mCmp .NotEq (mBi .ord [(mVar 0)]) (mLit c_BARRED)))) sNext)
noncomputable def q16 : Def1 := ⟨d16, [("sign" : Str)], [("sign" : Str)], 0, b_is_sign⟩
theorem o16 : DefOk gam0 q16 := ⟨⟨rfl, rfl, rfl, by decide +kernel, rfl, by decide +kernel, by decide +kernel⟩, fun cl => by kernel_rfl, fun _ _ _ _ _ _ us hl => match us, hl with | [_], _ => rfl, rfl, rfl⟩
def d17 : He.DefD := ⟨(("is_text" : Str), none), "is_text", "is_text", defArgs (top 37), defBody (top 37), defScope (top 37), [], []⟩
noncomputable def t_is_text_1 (cl : CL) : M :=
  (mAnd (mCall cl 16 [(mVar 1)]) (mCmp .NotEq (mVar 1) (mLit (.str [34]))))
noncomputable def b_is_text (cl : CL) : Ms :=
  (sSeq (sIf (mOr (mNot (mIsi (mVar 0) .str)) (mCmp .Gt (mBi .len [(mVar 0)]) (mLit c_MOST_TEXT))) (sSeq (sRet (mLit (.bl false))) sNext) sNext) (sSeq (sRet (mBi .all [(mComp (miE (mVar 0)) [1] (stName 1) mTrue (t_is_text_1 cl))])) sNext))
noncomputable def q17 : Def1 := ⟨d17, [("thing" : Str), ("sign" : Str)], [("thing" : Str)], 0, b_is_text⟩
theorem o17 : DefOk gam0 q17 := ⟨⟨rfl, rfl, rfl, by decide +kernel, rfl, by decide +kernel, by decide +kernel⟩, fun cl => by kernel_rfl, fun _ _ _ _ _ _ us hl => match us, hl with | [_], _ => rfl, rfl, rfl⟩
def d18 : He.DefD := ⟨(("need_all" : Str), none), "need_all", "need_all", defArgs (top 40), defBody (top 40), defScope (top 40), [], []⟩
noncomputable def l_need_all_1 (cl : CL) : Ms :=
  (sSeq (sDrop (mCall cl 21 [(mVar 2), (mVar 1)])) sNext)
noncomputable def b_need_all (cl : CL) : Ms :=
  (sSeq (sDrop (mCall cl 14 [(mIsi (mVar 0) .tuple)])) (sSeq (sFor (miE (mVar 0)) (stName 2) (l_need_all_1 cl)) sNext))
noncomputable def q18 : Def1 := ⟨d18, [("terms" : Str), ("deep" : Str), ("term" : Str)], [("terms" : Str), ("deep" : Str)], 0, b_need_all⟩
theorem o18 : DefOk gam0 q18 := ⟨⟨rfl, rfl, rfl, by decide +kernel, rfl, by decide +kernel, by decide +kernel⟩, fun cl => by kernel_rfl, fun _ _ _ _ _ _ us hl => match us, hl with | [_, _], _ => rfl, rfl, rfl⟩
def d19 : He.DefD := ⟨(("is_name" : Str), none), "is_name", "is_name", defArgs (top 36), defBody (top 36), defScope (top 36), [], []⟩
noncomputable def t_is_name_1 (cl : CL) : M :=
  (mCmp .In (mVar 2) (mBin .Add (mLit c_CAPITALS) (mLit c_FIGURES)))
noncomputable def b_is_name (cl : CL) : Ms :=
  (sSeq (sIf (mOr (mNot (mIsi (mVar 0) .str)) (mOr (mNot (mChain .LtE .LtE (mLit (.int 1)) (mBi .len [(mVar 0)]) (mLit c_MOST_NAME))) (mOr (mCmp .In (mVar 0) (mLit c_WORDS)) (mKIn k_KINDS (mVar 0))))) (sSeq (sRet (mLit (.bl false))) sNext) sNext) (sSeq (sSet (stName 1) (mIf (mCmp .Eq (mIdx (mVar 0) (mNeg (mLit (.int 1)))) (mLit (.str [36]))) (mSlc (mVar 0) none (some (mBin .Sub (mBi .len [(mVar 0)]) (mLit (.int 1))))) (mVar 0))) (sSeq (sRet (mAnd (mCmp .NotEq (mVar 1) (mLit (.str []))) (mAnd (mCmp .In (mIdx (mVar 1) (mLit (.int 0))) (mLit c_CAPITALS)) (mBi .all [(mComp (miE (mVar 1)) [2] (stName 2) mTrue (t_is_name_1 cl))])))) sNext)))
noncomputable def q19 : Def1 := ⟨d19, [("thing" : Str), ("plain" : Str), ("sign" : Str)], [("thing" : Str)], 0, b_is_name⟩
theorem o19 : DefOk gam0 q19 := ⟨⟨rfl, rfl, rfl, by decide +kernel, rfl, by decide +kernel, by decide +kernel⟩, fun cl => by kernel_rfl, fun _ _ _ _ _ _ us hl => match us, hl with | [_], _ => rfl, rfl, rfl⟩
def d20 : He.DefD := ⟨(("is_operator" : Str), none), "is_operator", "is_operator", defArgs (top 39), defBody (top 39), defScope (top 39), [], []⟩
noncomputable def b_is_operator (cl : CL) : Ms :=
  (sSeq (sRet (mAnd (mIsi (mVar 0) .str) (mOr (mCmp .In (mVar 0) (mLit c_COMPARING)) (mKIn k_STRENGTHS (mVar 0))))) sNext)
noncomputable def q20 : Def1 := ⟨d20, [("thing" : Str)], [("thing" : Str)], 0, b_is_operator⟩
theorem o20 : DefOk gam0 q20 := ⟨⟨rfl, rfl, rfl, by decide +kernel, rfl, by decide +kernel, by decide +kernel⟩, fun cl => by kernel_rfl, fun _ _ _ _ _ _ us hl => match us, hl with | [_], _ => rfl, rfl, rfl⟩
def d21 : He.DefD := ⟨(("need_term" : Str), none), "need_term", "need_term", defArgs (top 41), defBody (top 41), defScope (top 41), [], []⟩
noncomputable def b_need_term (cl : CL) : Ms :=
  (sSeq (sDrop (mCall cl 14 [(mAnd (mIsi (mVar 0) .tuple) (mAnd (mCmp .Gt (mBi .len [(mVar 0)]) (mLit (.int 1))) (mCmp .LtE (mVar 1) (mLit c_MOST_WITHIN))))])) (sSeq (sSet (stName 2) (mIdx (mVar 0) (mLit (.int 0)))) (sSeq (sIf (mCmp .Eq (mVar 2) (mLit (.str [110, 117, 109]))) (sSeq (sDrop (mCall cl 14 [(mAnd (mCmp .Eq (mBi .len [(mVar 0)]) (mLit (.int 2))) (mCall cl 15 [(mIdx (mVar 0) (mLit (.int 1))), (mLit (.int 0)), (mLit c_MOST_NUMBER)]))])) sNext) (sSeq (sIf (mCmp .Eq (mVar 2) (mLit (.str [116, 101, 120, 116]))) (sSeq (sDrop (mCall cl 14 [(mAnd (mCmp .Eq (mBi .len [(mVar 0)]) (mLit (.int 2))) (mCall cl 17 [(mIdx (mVar 0) (mLit (.int 1)))]))])) sNext) (sSeq (sIf (mCmp .Eq (mVar 2) (mLit (.str [110, 97, 109, 101]))) (sSeq (sDrop (mCall cl 14 [(mAnd (mCmp .Eq (mBi .len [(mVar 0)]) (mLit (.int 2))) (mCall cl 19 [(mIdx (mVar 0) (mLit (.int 1)))]))])) sNext) (sSeq (sIf (mCmp .Eq (mVar 2) (mLit (.str [99, 101, 108, 108]))) (sSeq (sDrop (mCall cl 14 [(mAnd (mCmp .Eq (mBi .len [(mVar 0)]) (mLit (.int 3))) (mCall cl 19 [(mIdx (mVar 0) (mLit (.int 1)))]))])) (sSeq (sDrop (mCall cl 18 [(mIdx (mVar 0) (mLit (.int 2))), (mBin .Add (mVar 1) (mLit (.int 1)))])) (sSeq (sDrop (mCall cl 14 [(mCmp .In (mBi .len [(mIdx (mVar 0) (mLit (.int 2)))]) (mTup [(mLit (.int 1)), (mLit (.int 2))]))])) sNext))) (sSeq (sIf (mCmp .Eq (mVar 2) (mLit (.str [99, 97, 108, 108]))) (sSeq (sDrop (mCall cl 14 [(mAnd (mCmp .Eq (mBi .len [(mVar 0)]) (mLit (.int 3))) (mAnd (mIsi (mIdx (mVar 0) (mLit (.int 1))) .str) (mKIn k_KINDS (mIdx (mVar 0) (mLit (.int 1))))))])) (sSeq (sDrop (mCall cl 18 [(mIdx (mVar 0) (mLit (.int 2))), (mBin .Add (mVar 1) (mLit (.int 1)))])) (sSeq (sDrop (mCall cl 14 [(mCmp .Eq (mBi .len [(mIdx (mVar 0) (mLit (.int 2)))]) (mBi .len [(mKIdx k_KINDS (mIdx (mVar 0) (mLit (.int 1))))]))])) sNext))) (sSeq (sIf (mCmp .In (mVar 2) (mTup [(mLit (.str [109, 105, 110, 117, 115])), (mLit (.str [110, 111, 116]))])) (sSeq (sDrop (mCall cl 14 [(mCmp .Eq (mBi .len [(mVar 0)]) (mLit (.int 2)))])) (sSeq (sDrop (mCall cl 21 [(mIdx (mVar 0) (mLit (.int 1))), (mBin .Add (mVar 1) (mLit (.int 1)))])) sNext)) (sSeq (sDrop (mCall cl 14 [(mAnd (mCmp .Eq (mVar 2) (mLit (.str [111, 112]))) (mAnd (mCmp .Eq (mBi .len [(mVar 0)]) (mLit (.int 4))) (mCall cl 20 [(mIdx (mVar 0) (mLit (.int 1)))])))])) (sSeq (sDrop (mCall cl 18 [(mSlc (mVar 0) (some (mLit (.int 2))) none), (mBin .Add (mVar 1) (mLit (.int 1)))])) sNext))) sNext)) sNext)) sNext)) sNext)) sNext)) sNext)))
noncomputable def q21 : Def1 := ⟨d21, [("term" : Str), ("deep" : Str), ("word" : Str)], [("term" : Str), ("deep" : Str)], 0, b_need_term⟩
theorem o21 : DefOk gam0 q21 := ⟨⟨rfl, rfl, rfl, by decide +kernel, rfl, by decide +kernel, by decide +kernel⟩, fun cl => by kernel_rfl, fun _ _ _ _ _ _ us hl => match us, hl with | [_, _], _ => rfl, rfl, rfl⟩
def d22 : He.DefD := ⟨(("strength_of" : Str), none), "strength_of", "strength_of", defArgs (top 38), defBody (top 38), defScope (top 38), [], []⟩
noncomputable def b_strength_of (cl : CL) : Ms :=
  (sSeq (sRet (mIf (mCmp .In (mVar 0) (mLit c_COMPARING)) (mLit c_COMPARING_STRENGTH) (mKIdx k_STRENGTHS (mVar 0)))) sNext)
noncomputable def q22 : Def1 := ⟨d22, [("sign" : Str)], [("sign" : Str)], 0, b_strength_of⟩
theorem o22 : DefOk gam0 q22 := ⟨⟨rfl, rfl, rfl, by decide +kernel, rfl, by decide +kernel, by decide +kernel⟩, fun cl => by kernel_rfl, fun _ _ _ _ _ _ us hl => match us, hl with | [_], _ => rfl, rfl, rfl⟩
def d23 : He.DefD := ⟨(("strength" : Str), none), "strength", "strength", defArgs (top 42), defBody (top 42), defScope (top 42), [], []⟩
noncomputable def b_strength (cl : CL) : Ms :=
  (sSeq (sIf (mCmp .Eq (mIdx (mVar 0) (mLit (.int 0))) (mLit (.str [111, 112]))) (sSeq (sRet (mCall cl 22 [(mIdx (mVar 0) (mLit (.int 1)))])) sNext) sNext) (sSeq (sIf (mCmp .Eq (mIdx (mVar 0) (mLit (.int 0))) (mLit (.str [110, 111, 116]))) (sSeq (sRet (mLit c_NOT_STRENGTH)) sNext) sNext) (sSeq (sRet (mIf (mCmp .Eq (mIdx (mVar 0) (mLit (.int 0))) (mLit (.str [109, 105, 110, 117, 115]))) (mLit c_MINUS_STRENGTH) (mLit c_PLAIN_STRENGTH))) sNext)))
noncomputable def q23 : Def1 := ⟨d23, [("term" : Str)], [("term" : Str)], 0, b_strength⟩
theorem o23 : DefOk gam0 q23 := ⟨⟨rfl, rfl, rfl, by decide +kernel, rfl, by decide +kernel, by decide +kernel⟩, fun cl => by kernel_rfl, fun _ _ _ _ _ _ us hl => match us, hl with | [_], _ => rfl, rfl, rfl⟩
def d24 : He.DefD := ⟨(("within" : Str), none), "within", "within", defArgs (top 43), defBody (top 43), defScope (top 43), [], []⟩
noncomputable def b_within (cl : CL) : Ms :=
  (sSeq (sSet (stName 2) (mCall cl 25 [(mVar 0)])) (sSeq (sRet (mIf (mCmp .Lt (mCall cl 23 [(mVar 0)]) (mVar 1)) (mBin .Add (mBin .Add (mLit (.str [40])) (mVar 2)) (mLit (.str [41]))) (mVar 2))) sNext))
noncomputable def q24 : Def1 := ⟨d24, [("term" : Str), ("least" : Str), ("found" : Str)], [("term" : Str), ("least" : Str)], 0, b_within⟩
theorem o24 : DefOk gam0 q24 := ⟨⟨rfl, rfl, rfl, by decide +kernel, rfl, by decide +kernel, by decide +kernel⟩, fun cl => by kernel_rfl, fun _ _ _ _ _ _ us hl => match us, hl with | [_, _], _ => rfl, rfl, rfl⟩
def d25 : He.DefD := ⟨(("plain_text" : Str), none), "plain_text", "plain_text", defArgs (top 44), defBody (top 44), defScope (top 44), [], []⟩
noncomputable def t_plain_text_1 (cl : CL) : M :=
  (mCall cl 25 [(mVar 3)])
noncomputable def b_plain_text (cl : CL) : Ms :=
  (sSeq (sSet (stName 1) (mIdx (mVar 0) (mLit (.int 0)))) (sSeq (sIf (mCmp .Eq (mVar 1) (mLit (.str [110, 117, 109]))) (sSeq (sRet (mBi .str [(mIdx (mVar 0) (mLit (.int 1)))])) sNext) sNext) (sSeq (sIf (mCmp .Eq (mVar 1) (mLit (.str [116, 101, 120, 116]))) (sSeq (sRet (mBin .Add (mBin .Add (mLit (.str [34])) (mIdx (mVar 0) (mLit (.int 1)))) (mLit (.str [34])))) sNext) sNext) (sSeq (sIf (mCmp .Eq (mVar 1) (mLit (.str [110, 97, 109, 101]))) (sSeq (sRet (mIdx (mVar 0) (mLit (.int 1)))) sNext) sNext) (sSeq (sIf (mCmp .In (mVar 1) (mTup [(mLit (.str [99, 101, 108, 108])), (mLit (.str [99, 97, 108, 108]))])) (sSeq (sRet (mBin .Add (mBin .Add (mBin .Add (mIdx (mVar 0) (mLit (.int 1))) (mLit (.str [40]))) (mBm .join (mLit (.str [44, 32])) [(mComp (miE (mIdx (mVar 0) (mLit (.int 2)))) [3] (stName 3) mTrue (t_plain_text_1 cl))])) (mLit (.str [41])))) sNext) sNext) (sSeq (sIf (mCmp .Eq (mVar 1) (mLit (.str [109, 105, 110, 117, 115]))) (sSeq (sRet (mBin .Add (mLit (.str [45])) (mCall cl 24 [(mIdx (mVar 0) (mLit (.int 1))), (mLit c_MINUS_STRENGTH)]))) sNext) sNext) (sSeq (sIf (mCmp .Eq (mVar 1) (mLit (.str [110, 111, 116]))) (sSeq (sRet (mBin .Add (mLit (.str [78, 79, 84, 32])) (mCall cl 24 [(mIdx (mVar 0) (mLit (.int 1))), (mLit c_NOT_STRENGTH)]))) sNext) sNext) (sSeq (sSet (stName 2) (mCall cl 22 [(mIdx (mVar 0) (mLit (.int 1)))])) (sSeq (sRet (mBin .Add (mBin .Add (mBin .Add (mBin .Add (mCall cl 24 [(mIdx (mVar 0) (mLit (.int 2))), (mVar 2)]) (mLit (.str [32]))) (mIdx (mVar 0) (mLit (.int 1)))) (mLit (.str [32]))) (mCall cl 24 [(mIdx (mVar 0) (mLit (.int 3))), (mBin .Add (mVar 2) (mLit (.int 1)))]))) sNext)))))))))
noncomputable def q25 : Def1 := ⟨d25, [("term" : Str), ("word" : Str), ("least" : Str), ("one" : Str)], [("term" : Str)], 0, b_plain_text⟩
theorem o25 : DefOk gam0 q25 := ⟨⟨rfl, rfl, rfl, by decide +kernel, rfl, by decide +kernel, by decide +kernel⟩, fun cl => by kernel_rfl, fun _ _ _ _ _ _ us hl => match us, hl with | [_], _ => rfl, rfl, rfl⟩
def d26 : He.DefD := ⟨(("written_term" : Str), none), "written_term", "written_term", defArgs (top 45), defBody (top 45), defScope (top 45), [], []⟩
noncomputable def b_written_term (cl : CL) : Ms :=
  (sSeq (sDrop (mCall cl 21 [(mVar 0), (mLit (.int 1))])) (sSeq (sRet (mCall cl 25 [(mVar 0)])) sNext))
noncomputable def q26 : Def1 := ⟨d26, [("term" : Str)], [("term" : Str)], 0, b_written_term⟩
theorem o26 : DefOk gam0 q26 := ⟨⟨rfl, rfl, rfl, by decide +kernel, rfl, by decide +kernel, by decide +kernel⟩, fun cl => by kernel_rfl, fun _ _ _ _ _ _ us hl => match us, hl with | [_], _ => rfl, rfl, rfl⟩
def d27 : He.DefD := ⟨(("Reader" : Str), some ("__init__" : Str)), "__init__", "Reader.__init__", defArgs (inClass (top 46) 0), defBody (inClass (top 46) 0), defScope (inClass (top 46) 0), [], []⟩
noncomputable def b_Reader_init (cl : CL) : Ms :=
  (sSeq (sFld foo (mVar 0) 0 (mVar 1)) (sSeq (sFld foo (mVar 0) 1 (mLit (.int 0))) sNext))
noncomputable def q27 : Def1 := ⟨d27, [("self" : Str), ("tokens" : Str)], [("self" : Str), ("tokens" : Str)], 0, b_Reader_init⟩
theorem o27 : DefOk gam0 q27 := ⟨⟨rfl, rfl, rfl, by decide +kernel, rfl, by decide +kernel, by decide +kernel⟩, fun cl => by kernel_rfl, fun _ _ _ _ _ _ us hl => match us, hl with | [_, _], _ => rfl, rfl, rfl⟩
def d28 : He.DefD := ⟨(("Reader" : Str), some ("peek" : Str)), "peek", "Reader.peek", defArgs (inClass (top 46) 1), defBody (inClass (top 46) 1), defScope (inClass (top 46) 1), [], []⟩
noncomputable def b_Reader_peek (cl : CL) : Ms :=
  (sSeq (sRet (mIf (mCmp .Lt (mAttr (mVar 0) 1) (mBi .len [(mAttr (mVar 0) 0)])) (mIdx (mAttr (mVar 0) 0) (mAttr (mVar 0) 1)) (mTup [(mLit (.str [101, 110, 100])), (mLit (.str []))]))) sNext)
noncomputable def q28 : Def1 := ⟨d28, [("self" : Str)], [("self" : Str)], 0, b_Reader_peek⟩
theorem o28 : DefOk gam0 q28 := ⟨⟨rfl, rfl, rfl, by decide +kernel, rfl, by decide +kernel, by decide +kernel⟩, fun cl => by kernel_rfl, fun _ _ _ _ _ _ us hl => match us, hl with | [_], _ => rfl, rfl, rfl⟩
def d29 : He.DefD := ⟨(("Reader" : Str), some ("take_if" : Str)), "take_if", "Reader.take_if", defArgs (inClass (top 46) 3), defBody (inClass (top 46) 3), defScope (inClass (top 46) 3), [], []⟩
noncomputable def b_Reader_take_if (cl : CL) : Ms :=
  (sSeq (sSet (stName 2) (mCmp .Eq (mMeth cl (meOf [(0, 28)]) (mVar 0) []) (mVar 1))) (sSeq (sIf (mVar 2) (sSeq (sFld foo (mVar 0) 1 (mBin .Add (mAttr (mVar 0) 1) (mLit (.int 1)))) sNext) sNext) (sSeq (sRet (mVar 2)) sNext)))
noncomputable def q29 : Def1 := ⟨d29, [("self" : Str), ("token" : Str), ("is_it" : Str)], [("self" : Str), ("token" : Str)], 0, b_Reader_take_if⟩
theorem o29 : DefOk gam0 q29 := ⟨⟨rfl, rfl, rfl, by decide +kernel, rfl, by decide +kernel, by decide +kernel⟩, fun cl => by kernel_rfl, fun _ _ _ _ _ _ us hl => match us, hl with | [_, _], _ => rfl, rfl, rfl⟩
def d30 : He.DefD := ⟨(("Reader" : Str), some ("take" : Str)), "take", "Reader.take", defArgs (inClass (top 46) 2), defBody (inClass (top 46) 2), defScope (inClass (top 46) 2), [], []⟩
noncomputable def b_Reader_take (cl : CL) : Ms :=
  (sSeq (sSet (stName 1) (mMeth cl (meOf [(0, 28)]) (mVar 0) [])) (sSeq (sFld foo (mVar 0) 1 (mBin .Add (mAttr (mVar 0) 1) (mLit (.int 1)))) (sSeq (sRet (mVar 1)) sNext)))
noncomputable def q30 : Def1 := ⟨d30, [("self" : Str), ("found" : Str)], [("self" : Str)], 0, b_Reader_take⟩
theorem o30 : DefOk gam0 q30 := ⟨⟨rfl, rfl, rfl, by decide +kernel, rfl, by decide +kernel, by decide +kernel⟩, fun cl => by kernel_rfl, fun _ _ _ _ _ _ us hl => match us, hl with | [_], _ => rfl, rfl, rfl⟩
def d31 : He.DefD := ⟨(("Reader" : Str), some ("places" : Str)), "places", "Reader.places", defArgs (inClass (top 46) 7), defBody (inClass (top 46) 7), defScope (inClass (top 46) 7), [], []⟩
noncomputable def t_Reader_places_1 (cl : CL) : M :=
  (mMeth cl (meOf [(0, 29)]) (mVar 0) [(mTup [(mLit (.str [109, 97, 114, 107])), (mLit (.str [44]))])])
noncomputable def l_Reader_places_1 (cl : CL) : Ms :=
  (sSeq (sDrop (mBm .append (mVar 2) [(mMeth cl (meOf [(0, 35)]) (mVar 0) [(mLit (.int 1)), (mBin .Add (mVar 1) (mLit (.int 1)))])])) sNext)
noncomputable def b_Reader_places (cl : CL) : Ms :=
  (sSeq (sSet (stName 2) (mLst [(mMeth cl (meOf [(0, 35)]) (mVar 0) [(mLit (.int 1)), (mBin .Add (mVar 1) (mLit (.int 1)))])])) (sSeq (sWhl (t_Reader_places_1 cl) (l_Reader_places_1 cl)) (sSeq (sDrop (mCall cl 14 [(mMeth cl (meOf [(0, 29)]) (mVar 0) [(mTup [(mLit (.str [109, 97, 114, 107])), (mLit (.str [41]))])])])) (sSeq (sRet (mBi .tup [(mVar 2)])) sNext))))
noncomputable def q31 : Def1 := ⟨d31, [("self" : Str), ("deep" : Str), ("found" : Str)], [("self" : Str), ("deep" : Str)], 0, b_Reader_places⟩
theorem o31 : DefOk gam0 q31 := ⟨⟨rfl, rfl, rfl, by decide +kernel, rfl, by decide +kernel, by decide +kernel⟩, fun cl => by kernel_rfl, fun _ _ _ _ _ _ us hl => match us, hl with | [_, _], _ => rfl, rfl, rfl⟩
def d32 : He.DefD := ⟨(("Reader" : Str), some ("plain" : Str)), "plain", "Reader.plain", defArgs (inClass (top 46) 8), defBody (inClass (top 46) 8), defScope (inClass (top 46) 8), [], []⟩
noncomputable def b_Reader_plain (cl : CL) : Ms :=
  (sSeq (sSet (stTup [2, 3]) (mMeth cl (meOf [(0, 30)]) (mVar 0) [])) (sSeq (sIf (mCmp .Eq (mVar 2) (mLit (.str [110, 117, 109, 98, 101, 114]))) (sSeq (sRet (mTup [(mLit (.str [110, 117, 109])), (mVar 3)])) sNext) sNext) (sSeq (sIf (mCmp .Eq (mVar 2) (mLit (.str [116, 101, 120, 116]))) (sSeq (sDrop (mCall cl 14 [(mCmp .LtE (mBi .len [(mVar 3)]) (mLit c_MOST_TEXT))])) (sSeq (sRet (mTup [(mLit (.str [116, 101, 120, 116])), (mVar 3)])) sNext)) sNext) (sSeq (sDrop (mCall cl 14 [(mCmp .Eq (mVar 2) (mLit (.str [110, 97, 109, 101])))])) (sSeq (sIf (mNot (mMeth cl (meOf [(0, 29)]) (mVar 0) [(mTup [(mLit (.str [109, 97, 114, 107])), (mLit (.str [40]))])])) (sSeq (sDrop (mCall cl 14 [(mKNi k_KINDS (mVar 3))])) (sSeq (sRet (mTup [(mLit (.str [110, 97, 109, 101])), (mVar 3)])) sNext)) sNext) (sSeq (sSet (stName 4) (mMeth cl (meOf [(0, 31)]) (mVar 0) [(mVar 1)])) (sSeq (sIf (mKIn k_KINDS (mVar 3)) (sSeq (sDrop (mCall cl 14 [(mCmp .Eq (mBi .len [(mVar 4)]) (mBi .len [(mKIdx k_KINDS (mVar 3))]))])) (sSeq (sRet (mTup [(mLit (.str [99, 97, 108, 108])), (mVar 3), (mVar 4)])) sNext)) sNext) (sSeq (sDrop (mCall cl 14 [(mCmp .In (mBi .len [(mVar 4)]) (mTup [(mLit (.int 1)), (mLit (.int 2))]))])) (sSeq (sRet (mTup [(mLit (.str [99, 101, 108, 108])), (mVar 3), (mVar 4)])) sNext)))))))))
noncomputable def q32 : Def1 := ⟨d32, [("self" : Str), ("deep" : Str), ("kind" : Str), ("thing" : Str), ("places" : Str)], [("self" : Str), ("deep" : Str)], 0, b_Reader_plain⟩
theorem o32 : DefOk gam0 q32 := ⟨⟨rfl, rfl, rfl, by decide +kernel, rfl, by decide +kernel, by decide +kernel⟩, fun cl => by kernel_rfl, fun _ _ _ _ _ _ us hl => match us, hl with | [_, _], _ => rfl, rfl, rfl⟩
def d33 : He.DefD := ⟨(("Reader" : Str), some ("first" : Str)), "first", "Reader.first", defArgs (inClass (top 46) 6), defBody (inClass (top 46) 6), defScope (inClass (top 46) 6), [], []⟩
noncomputable def b_Reader_first (cl : CL) : Ms :=
  (sSeq (sIf (mAnd (mCmp .LtE (mVar 1) (mLit c_NOT_STRENGTH)) (mMeth cl (meOf [(0, 29)]) (mVar 0) [(mTup [(mLit (.str [119, 111, 114, 100])), (mLit (.str [78, 79, 84]))])])) (sSeq (sRet (mTup [(mLit (.str [110, 111, 116])), (mMeth cl (meOf [(0, 35)]) (mVar 0) [(mLit c_NOT_STRENGTH), (mBin .Add (mVar 2) (mLit (.int 1)))])])) sNext) sNext) (sSeq (sIf (mMeth cl (meOf [(0, 29)]) (mVar 0) [(mTup [(mLit (.str [109, 97, 114, 107])), (mLit (.str [45]))])]) (sSeq (sRet (mTup [(mLit (.str [109, 105, 110, 117, 115])), (mMeth cl (meOf [(0, 35)]) (mVar 0) [(mLit c_MINUS_STRENGTH), (mBin .Add (mVar 2) (mLit (.int 1)))])])) sNext) sNext) (sSeq (sIf (mMeth cl (meOf [(0, 29)]) (mVar 0) [(mTup [(mLit (.str [109, 97, 114, 107])), (mLit (.str [40]))])]) (sSeq (sSet (stName 3) (mMeth cl (meOf [(0, 35)]) (mVar 0) [(mLit (.int 1)), (mVar 2)])) (sSeq (sDrop (mCall cl 14 [(mMeth cl (meOf [(0, 29)]) (mVar 0) [(mTup [(mLit (.str [109, 97, 114, 107])), (mLit (.str [41]))])])])) (sSeq (sRet (mVar 3)) sNext))) sNext) (sSeq (sRet (mMeth cl (meOf [(0, 32)]) (mVar 0) [(mVar 2)])) sNext))))
noncomputable def q33 : Def1 := ⟨d33, [("self" : Str), ("least" : Str), ("deep" : Str), ("found" : Str)], [("self" : Str), ("least" : Str), ("deep" : Str)], 0, b_Reader_first⟩
theorem o33 : DefOk gam0 q33 := ⟨⟨rfl, rfl, rfl, by decide +kernel, rfl, by decide +kernel, by decide +kernel⟩, fun cl => by kernel_rfl, fun _ _ _ _ _ _ us hl => match us, hl with | [_, _, _], _ => rfl, rfl, rfl⟩
def d34 : He.DefD := ⟨(("Reader" : Str), some ("operator" : Str)), "operator", "Reader.operator", defArgs (inClass (top 46) 4), defBody (inClass (top 46) 4), defScope (inClass (top 46) 4), [], []⟩
noncomputable def b_Reader_operator (cl : CL) : Ms :=
  (sSeq (sSet (stTup [1, 2]) (mMeth cl (meOf [(0, 28)]) (mVar 0) [])) (sSeq (sRet (mIf (mAnd (mCmp .In (mVar 1) (mTup [(mLit (.str [109, 97, 114, 107])), (mLit (.str [119, 111, 114, 100]))])) (mCall cl 20 [(mVar 2)])) (mVar 2) (mLit .non))) sNext))
noncomputable def q34 : Def1 := ⟨d34, [("self" : Str), ("kind" : Str), ("thing" : Str)], [("self" : Str)], 0, b_Reader_operator⟩
theorem o34 : DefOk gam0 q34 := ⟨⟨rfl, rfl, rfl, by decide +kernel, rfl, by decide +kernel, by decide +kernel⟩, fun cl => by kernel_rfl, fun _ _ _ _ _ _ us hl => match us, hl with | [_], _ => rfl, rfl, rfl⟩
def d35 : He.DefD := ⟨(("Reader" : Str), some ("term" : Str)), "term", "Reader.term", defArgs (inClass (top 46) 5), defBody (inClass (top 46) 5), defScope (inClass (top 46) 5), [], []⟩
noncomputable def t_Reader_term_1 (cl : CL) : M :=
  (mAnd (mCmp .IsNot (mVar 4) (mLit .non)) (mCmp .GtE (mCall cl 22 [(mVar 4)]) (mVar 1)))
noncomputable def l_Reader_term_1 (cl : CL) : Ms :=
  (sSeq (sDrop (mMeth cl (meOf [(0, 30)]) (mVar 0) [])) (sSeq (sSet (stName 3) (mTup [(mLit (.str [111, 112])), (mVar 4), (mVar 3), (mMeth cl (meOf [(0, 35)]) (mVar 0) [(mBin .Add (mCall cl 22 [(mVar 4)]) (mLit (.int 1))), (mBin .Add (mVar 2) (mLit (.int 1)))])])) (sSeq (sSet (stName 4) (mMeth cl (meOf [(0, 34)]) (mVar 0) [])) sNext)))
noncomputable def b_Reader_term (cl : CL) : Ms :=
  (sSeq (sDrop (mCall cl 14 [(mCmp .LtE (mVar 2) (mLit c_MOST_WITHIN))])) (sSeq (sSet (stName 3) (mMeth cl (meOf [(0, 33)]) (mVar 0) [(mVar 1), (mVar 2)])) (sSeq (sSet (stName 4) (mMeth cl (meOf [(0, 34)]) (mVar 0) [])) (sSeq (sWhl (t_Reader_term_1 cl) (l_Reader_term_1 cl)) (sSeq (sRet (mVar 3)) sNext)))))
noncomputable def q35 : Def1 := ⟨d35, [("self" : Str), ("least" : Str), ("deep" : Str), ("found" : Str), ("sign" : Str)], [("self" : Str), ("least" : Str), ("deep" : Str)], 0, b_Reader_term⟩
theorem o35 : DefOk gam0 q35 := ⟨⟨rfl, rfl, rfl, by decide +kernel, rfl, by decide +kernel, by decide +kernel⟩, fun cl => by kernel_rfl, fun _ _ _ _ _ _ us hl => match us, hl with | [_, _, _], _ => rfl, rfl, rfl⟩
def d36 : He.DefD := ⟨(("term_by" : Str), none), "term_by", "term_by", defArgs (top 47), defBody (top 47), defScope (top 47), [], []⟩
noncomputable def b_term_by (cl : CL) : Ms :=
  (sSeq (sSet (stName 1) (mMeth cl (meOf [(0, 35)]) (mVar 0) [(mLit (.int 1)), (mLit (.int 1))])) (sSeq (sDrop (mCall cl 21 [(mVar 1), (mLit (.int 1))])) (sSeq (sRet (mVar 1)) sNext)))
noncomputable def q36 : Def1 := ⟨d36, [("reader" : Str), ("found" : Str)], [("reader" : Str)], 0, b_term_by⟩
theorem o36 : DefOk gam0 q36 := ⟨⟨rfl, rfl, rfl, by decide +kernel, rfl, by decide +kernel, by decide +kernel⟩, fun cl => by kernel_rfl, fun _ _ _ _ _ _ us hl => match us, hl with | [_], _ => rfl, rfl, rfl⟩
def d37 : He.DefD := ⟨(("need_tokens" : Str), none), "need", "need", defArgs (top 17), defBody (top 17), defScope (top 17), [], []⟩
noncomputable def b_need_tokens (cl : CL) : Ms :=
  (sSeq (sIf (mNot (mVar 0)) (sSeq (sRaise 3) sNext) sNext) sNext)
noncomputable def q37 : Def1 := ⟨d37, [("good" : Str)], [("good" : Str)], 0, b_need_tokens⟩
theorem o37 : DefOk gam0 q37 := ⟨⟨rfl, rfl, rfl, by decide +kernel, rfl, by decide +kernel, by decide +kernel⟩, fun cl => by kernel_rfl, fun _ _ _ _ _ _ us hl => match us, hl with | [_], _ => rfl, rfl, rfl⟩
def d38 : He.DefD := ⟨(("Signs" : Str), some ("__init__" : Str)), "__init__", "Signs.__init__", defArgs (inClass (top 20) 0), defBody (inClass (top 20) 0), defScope (inClass (top 20) 0), [], []⟩
noncomputable def t_Signs_init_1 (cl : CL) : M :=
  (mCall cl 16 [(mVar 2)])
noncomputable def b_Signs_init (cl : CL) : Ms :=
  (sSeq (sDrop (mCall cl 37 [(mAnd (mCmp .LtE (mBi .len [(mVar 1)]) (mLit c_MOST_SIGNS)) (mBi .all [(mComp (miE (mVar 1)) [2] (stName 2) mTrue (t_Signs_init_1 cl))]))])) (sSeq (sFld foo (mVar 0) 2 (mVar 1)) (sSeq (sFld foo (mVar 0) 1 (mLit (.int 0))) sNext)))
noncomputable def q38 : Def1 := ⟨d38, [("self" : Str), ("text" : Str), ("sign" : Str)], [("self" : Str), ("text" : Str)], 0, b_Signs_init⟩
theorem o38 : DefOk gam0 q38 := ⟨⟨rfl, rfl, rfl, by decide +kernel, rfl, by decide +kernel, by decide +kernel⟩, fun cl => by kernel_rfl, fun _ _ _ _ _ _ us hl => match us, hl with | [_, _], _ => rfl, rfl, rfl⟩
def d39 : He.DefD := ⟨(("Signs" : Str), some ("run" : Str)), "run", "Signs.run", defArgs (inClass (top 20) 1), defBody (inClass (top 20) 1), defScope (inClass (top 20) 1), [], []⟩
noncomputable def t_Signs_run_1 (cl : CL) : M :=
  (mAnd (mCmp .Lt (mAttr (mVar 0) 1) (mBi .len [(mAttr (mVar 0) 2)])) (mCmp .In (mIdx (mAttr (mVar 0) 2) (mAttr (mVar 0) 1)) (mVar 1)))
noncomputable def l_Signs_run_1 (cl : CL) : Ms :=
  (sSeq (sFld foo (mVar 0) 1 (mBin .Add (mAttr (mVar 0) 1) (mLit (.int 1)))) sNext)
noncomputable def b_Signs_run (cl : CL) : Ms :=
  (sSeq (sSet (stName 2) (mAttr (mVar 0) 1)) (sSeq (sWhl (t_Signs_run_1 cl) (l_Signs_run_1 cl)) (sSeq (sRet (mSlc (mAttr (mVar 0) 2) (some (mVar 2)) (some (mAttr (mVar 0) 1)))) sNext)))
noncomputable def q39 : Def1 := ⟨d39, [("self" : Str), ("allowed" : Str), ("begin" : Str)], [("self" : Str), ("allowed" : Str)], 0, b_Signs_run⟩
theorem o39 : DefOk gam0 q39 := ⟨⟨rfl, rfl, rfl, by decide +kernel, rfl, by decide +kernel, by decide +kernel⟩, fun cl => by kernel_rfl, fun _ _ _ _ _ _ us hl => match us, hl with | [_, _], _ => rfl, rfl, rfl⟩
def d40 : He.DefD := ⟨(("Signs" : Str), some ("skip" : Str)), "skip", "Signs.skip", defArgs (inClass (top 20) 2), defBody (inClass (top 20) 2), defScope (inClass (top 20) 2), [], []⟩
noncomputable def b_Signs_skip (cl : CL) : Ms :=
  (sSeq (sDrop (mMeth cl (meOf [(1, 39)]) (mVar 0) [(mLit (.str [32]))])) sNext)
noncomputable def q40 : Def1 := ⟨d40, [("self" : Str)], [("self" : Str)], 0, b_Signs_skip⟩
theorem o40 : DefOk gam0 q40 := ⟨⟨rfl, rfl, rfl, by decide +kernel, rfl, by decide +kernel, by decide +kernel⟩, fun cl => by kernel_rfl, fun _ _ _ _ _ _ us hl => match us, hl with | [_], _ => rfl, rfl, rfl⟩
def d41 : He.DefD := ⟨(("Signs" : Str), some ("mark" : Str)), "mark", "Signs.mark", defArgs (inClass (top 20) 6), defBody (inClass (top 20) 6), defScope (inClass (top 20) 6), [], []⟩
noncomputable def l_Signs_mark_1 (cl : CL) : Ms :=
  (sSeq (sIf (mCmp .Eq (mSlc (mAttr (mVar 0) 2) (some (mAttr (mVar 0) 1)) (some (mBin .Add (mAttr (mVar 0) 1) (mBi .len [(mVar 1)])))) (mVar 1)) (sSeq (sFld foo (mVar 0) 1 (mBin .Add (mAttr (mVar 0) 1) (mBi .len [(mVar 1)]))) (sSeq (sRet (mTup [(mLit (.str [109, 97, 114, 107])), (mVar 1)])) sNext)) sNext) sNext)
noncomputable def b_Signs_mark (cl : CL) : Ms :=
  (sSeq (sFor (miE (mLit c_MARKS)) (stName 1) (l_Signs_mark_1 cl)) (sSeq (sRaise 3) sNext))
noncomputable def q41 : Def1 := ⟨d41, [("self" : Str), ("mark" : Str)], [("self" : Str)], 0, b_Signs_mark⟩
theorem o41 : DefOk gam0 q41 := ⟨⟨rfl, rfl, rfl, by decide +kernel, rfl, by decide +kernel, by decide +kernel⟩, fun cl => by kernel_rfl, fun _ _ _ _ _ _ us hl => match us, hl with | [_], _ => rfl, rfl, rfl⟩
def d42 : He.DefD := ⟨(("Signs" : Str), some ("number" : Str)), "number", "Signs.number", defArgs (inClass (top 20) 3), defBody (inClass (top 20) 3), defScope (inClass (top 20) 3), [], []⟩
noncomputable def b_Signs_number (cl : CL) : Ms :=
  (sSeq (sSet (stName 1) (mMeth cl (meOf [(1, 39)]) (mVar 0) [(mLit c_FIGURES)])) (sSeq (sDrop (mCall cl 37 [(mCmp .LtE (mBi .len [(mVar 1)]) (mLit c_MOST_FIGURES))])) (sSeq (sRet (mTup [(mLit (.str [110, 117, 109, 98, 101, 114])), (mBi .int [(mVar 1)])])) sNext)))
noncomputable def q42 : Def1 := ⟨d42, [("self" : Str), ("figures" : Str)], [("self" : Str)], 0, b_Signs_number⟩
theorem o42 : DefOk gam0 q42 := ⟨⟨rfl, rfl, rfl, by decide +kernel, rfl, by decide +kernel, by decide +kernel⟩, fun cl => by kernel_rfl, fun _ _ _ _ _ _ us hl => match us, hl with | [_], _ => rfl, rfl, rfl⟩
def d43 : He.DefD := ⟨(("Signs" : Str), some ("worded" : Str)), "worded", "Signs.worded", defArgs (inClass (top 20) 4), defBody (inClass (top 20) 4), defScope (inClass (top 20) 4), [], []⟩
noncomputable def b_Signs_worded (cl : CL) : Ms :=
  (sSeq (sSet (stName 1) (mMeth cl (meOf [(1, 39)]) (mVar 0) [(mBin .Add (mLit c_CAPITALS) (mLit c_FIGURES))])) (sSeq (sIf (mCmp .Eq (mSlc (mAttr (mVar 0) 2) (some (mAttr (mVar 0) 1)) (some (mBin .Add (mAttr (mVar 0) 1) (mLit (.int 1))))) (mLit (.str [36]))) (sSeq (sFld foo (mVar 0) 1 (mBin .Add (mAttr (mVar 0) 1) (mLit (.int 1)))) (sSeq (sSet (stName 1) (mBin .Add (mVar 1) (mLit (.str [36])))) sNext)) sNext) (sSeq (sIf (mCmp .In (mVar 1) (mLit c_WORDS)) (sSeq (sRet (mTup [(mLit (.str [119, 111, 114, 100])), (mVar 1)])) sNext) sNext) (sSeq (sDrop (mCall cl 37 [(mCmp .LtE (mBi .len [(mVar 1)]) (mLit c_MOST_NAME))])) (sSeq (sRet (mTup [(mLit (.str [110, 97, 109, 101])), (mVar 1)])) sNext)))))
noncomputable def q43 : Def1 := ⟨d43, [("self" : Str), ("name" : Str)], [("self" : Str)], 0, b_Signs_worded⟩
theorem o43 : DefOk gam0 q43 := ⟨⟨rfl, rfl, rfl, by decide +kernel, rfl, by decide +kernel, by decide +kernel⟩, fun cl => by kernel_rfl, fun _ _ _ _ _ _ us hl => match us, hl with | [_], _ => rfl, rfl, rfl⟩
def d44 : He.DefD := ⟨(("Signs" : Str), some ("quoted" : Str)), "quoted", "Signs.quoted", defArgs (inClass (top 20) 5), defBody (inClass (top 20) 5), defScope (inClass (top 20) 5), [], []⟩
noncomputable def b_Signs_quoted (cl : CL) : Ms :=
  (sSeq (sSet (stName 1) (mBm .find (mAttr (mVar 0) 2) [(mLit (.str [34])), (mBin .Add (mAttr (mVar 0) 1) (mLit (.int 1)))])) (sSeq (sDrop (mCall cl 37 [(mCmp .GtE (mVar 1) (mLit (.int 0)))])) (sSeq (sSet (stName 2) (mSlc (mAttr (mVar 0) 2) (some (mBin .Add (mAttr (mVar 0) 1) (mLit (.int 1)))) (some (mVar 1)))) (sSeq (sFld foo (mVar 0) 1 (mBin .Add (mVar 1) (mLit (.int 1)))) (sSeq (sRet (mTup [(mLit (.str [116, 101, 120, 116])), (mVar 2)])) sNext)))))
noncomputable def q44 : Def1 := ⟨d44, [("self" : Str), ("end" : Str), ("found" : Str)], [("self" : Str)], 0, b_Signs_quoted⟩
theorem o44 : DefOk gam0 q44 := ⟨⟨rfl, rfl, rfl, by decide +kernel, rfl, by decide +kernel, by decide +kernel⟩, fun cl => by kernel_rfl, fun _ _ _ _ _ _ us hl => match us, hl with | [_], _ => rfl, rfl, rfl⟩
def d45 : He.DefD := ⟨(("Signs" : Str), some ("token" : Str)), "token", "Signs.token", defArgs (inClass (top 20) 8), defBody (inClass (top 20) 8), defScope (inClass (top 20) 8), [], []⟩
noncomputable def b_Signs_token (cl : CL) : Ms :=
  (sSeq (sSet (stName 1) (mIdx (mAttr (mVar 0) 2) (mAttr (mVar 0) 1))) (sSeq (sIf (mCmp .In (mVar 1) (mLit c_FIGURES)) (sSeq (sRet (mMeth cl (meOf [(1, 42)]) (mVar 0) [])) sNext) sNext) (sSeq (sIf (mCmp .In (mVar 1) (mLit c_CAPITALS)) (sSeq (sRet (mMeth cl (meOf [(1, 43)]) (mVar 0) [])) sNext) sNext) (sSeq (sIf (mCmp .Eq (mVar 1) (mLit (.str [34]))) (sSeq (sRet (mMeth cl (meOf [(1, 44)]) (mVar 0) [])) sNext) sNext) (sSeq (sRet (mMeth cl (meOf [(1, 41)]) (mVar 0) [])) sNext)))))
noncomputable def q45 : Def1 := ⟨d45, [("self" : Str), ("sign" : Str)], [("self" : Str)], 0, b_Signs_token⟩
theorem o45 : DefOk gam0 q45 := ⟨⟨rfl, rfl, rfl, by decide +kernel, rfl, by decide +kernel, by decide +kernel⟩, fun cl => by kernel_rfl, fun _ _ _ _ _ _ us hl => match us, hl with | [_], _ => rfl, rfl, rfl⟩
def d46 : He.DefD := ⟨(("Signs" : Str), some ("note" : Str)), "note", "Signs.note", defArgs (inClass (top 20) 7), defBody (inClass (top 20) 7), defScope (inClass (top 20) 7), [], []⟩
noncomputable def b_Signs_note (cl : CL) : Ms :=
  (sSeq (sIf (mCmp .Eq (mSlc (mAttr (mVar 0) 2) (some (mAttr (mVar 0) 1)) (some (mBin .Add (mAttr (mVar 0) 1) (mLit (.int 1))))) (mLit (.str [32]))) (sSeq (sFld foo (mVar 0) 1 (mBin .Add (mAttr (mVar 0) 1) (mLit (.int 1)))) sNext) sNext) (sSeq (sSet (stName 1) (mSlc (mAttr (mVar 0) 2) (some (mAttr (mVar 0) 1)) none)) (sSeq (sFld foo (mVar 0) 1 (mBi .len [(mAttr (mVar 0) 2)])) (sSeq (sRet (mTup [(mLit (.str [110, 111, 116, 101])), (mVar 1)])) sNext))))
noncomputable def q46 : Def1 := ⟨d46, [("self" : Str), ("found" : Str)], [("self" : Str)], 0, b_Signs_note⟩
theorem o46 : DefOk gam0 q46 := ⟨⟨rfl, rfl, rfl, by decide +kernel, rfl, by decide +kernel, by decide +kernel⟩, fun cl => by kernel_rfl, fun _ _ _ _ _ _ us hl => match us, hl with | [_], _ => rfl, rfl, rfl⟩
def d47 : He.DefD := ⟨(("tokens_of" : Str), none), "tokens_of", "tokens_of", defArgs (top 21), defBody (top 21), defScope (top 21), [], []⟩
noncomputable def t_tokens_of_1 (cl : CL) : M :=
  (mCmp .Lt (mAttr (mVar 1) 1) (mBi .len [(mVar 0)]))
noncomputable def l_tokens_of_1 (cl : CL) : Ms :=
  (sSeq (sDrop (mBm .append (mVar 2) [(mMeth cl (meOf [(1, 45)]) (mVar 1) [])])) (sSeq (sIf (mCmp .Eq (mIdx (mVar 2) (mNeg (mLit (.int 1)))) (mTup [(mLit (.str [119, 111, 114, 100])), (mLit (.str [82, 69, 77]))])) (sSeq (sDrop (mBm .append (mVar 2) [(mMeth cl (meOf [(1, 46)]) (mVar 1) [])])) sNext) sNext) (sSeq (sDrop (mMeth cl (meOf [(1, 40)]) (mVar 1) [])) sNext)))
noncomputable def b_tokens_of (cl : CL) : Ms :=
  (sSeq (sSet (stName 1) (mMake cl 1 38 [(mVar 0)])) (sSeq (sSet (stName 2) (mLst [])) (sSeq (sDrop (mMeth cl (meOf [(1, 40)]) (mVar 1) [])) (sSeq (sWhl (t_tokens_of_1 cl) (l_tokens_of_1 cl)) (sSeq (sRet (mVar 2)) sNext)))))
noncomputable def q47 : Def1 := ⟨d47, [("text" : Str), ("signs" : Str), ("found" : Str)], [("text" : Str)], 1, b_tokens_of⟩
theorem o47 : DefOk gam0 q47 := ⟨⟨rfl, rfl, rfl, by decide +kernel, rfl, by decide +kernel, by decide +kernel⟩, fun cl => by kernel_rfl, fun _ _ _ _ _ _ us hl => match us, hl with | [_], _ => rfl, rfl, rfl⟩
def d48 : He.DefD := ⟨(("term_of" : Str), none), "term_of", "term_of", defArgs (top 48), defBody (top 48), defScope (top 48), [], []⟩
noncomputable def b_term_of (cl : CL) : Ms :=
  (sSeq (sSet (stName 1) (mMake cl 0 27 [(mCall cl 47 [(mVar 0)])])) (sSeq (sSet (stName 2) (mCall cl 36 [(mVar 1)])) (sSeq (sDrop (mCall cl 14 [(mCmp .Eq (mIdx (mMeth cl (meOf [(0, 28)]) (mVar 1) []) (mLit (.int 0))) (mLit (.str [101, 110, 100])))])) (sSeq (sRet (mVar 2)) sNext))))
noncomputable def q48 : Def1 := ⟨d48, [("text" : Str), ("reader" : Str), ("found" : Str)], [("text" : Str)], 1, b_term_of⟩
theorem o48 : DefOk gam0 q48 := ⟨⟨rfl, rfl, rfl, by decide +kernel, rfl, by decide +kernel, by decide +kernel⟩, fun cl => by kernel_rfl, fun _ _ _ _ _ _ us hl => match us, hl with | [_], _ => rfl, rfl, rfl⟩
def d49 : He.DefD := ⟨(("law" : Str), none), "law", "law", defArgs (top 66), defBody (top 66), defScope (top 66), [], []⟩
noncomputable def l_law_1 (cl : CL) : Ms :=
  (sSeq (sIf (mOr (mCmp .Gt (mBi .len [(mVar 11)]) (mLit (.int 200))) (mAnd (mCmp .Eq (mVar 10) (mLit (.int 2))) (mCmp .In (mLit (.str [34])) (mVar 11)))) (sSeq sCont sNext) sNext) (sSeq (sIf (mCmp .NotEq (mTold tldf (mCall cl 48 [(mVar 11)])) (mVar 5)) (sSeq (sRet (mLit (.bl false))) sNext) sNext) sNext))
noncomputable def l_law_2 (cl : CL) : Ms :=
  (sSeq (sSet (stName 2) (mCall cl 0 [(mCall cl 10 [(mVar 0), (mVar 1)]), (mVar 1)])) (sSeq (sSet (stName 3) (mTup [(mCall cl 12 [(mCall cl 0 [(mVar 2), (mLit (.int 1))]), (mLit (.int 2)), (mLit (.str []))]), (mCall cl 12 [(mCall cl 0 [(mVar 2), (mLit (.int 2))]), (mLit (.int 2)), (mLit (.str [36]))])])) (sSeq (sSet (stName 4) (mIdx (mLst [(mLit (.int 1)), (mLit (.int 1)), (mLit (.int 2)), (mLit (.int 2)), (mLit (.int 3)), (mLit (.int 4))]) (mBin .Mod (mVar 2) (mLit (.int 6))))) (sSeq (sSet (stName 5) (mCall cl 5 [(mCall cl 0 [(mVar 2), (mLit (.int 3))]), (mVar 4), (mIdx (mLit (.str [110, 115])) (mBin .Mod (mBin .FloorDiv (mVar 2) (mLit (.int 8))) (mLit (.int 2)))), (mVar 3), (mBin .Mult (mBin .Mod (mBin .FloorDiv (mVar 2) (mLit (.int 16))) (mLit (.int 2))) (mLit (.int 9)))])) (sSeq (sIf (mCmp .Eq (mBin .Mod (mBin .FloorDiv (mVar 2) (mLit (.int 32))) (mLit (.int 3))) (mLit (.int 0))) (sSeq (sSet (stName 5) (mCall cl 13 [(mCall cl 4 [(mBin .FloorDiv (mVar 2) (mLit (.int 128))), (mLit (.str [110])), (mVar 3)]), (mBin .FloorDiv (mVar 2) (mBin .Pow (mLit (.int 2)) (mLit (.int 20))))])) sNext) sNext) (sSeq (sSet (stName 6) (mCall cl 8 [(mVar 5)])) (sSeq (sIf (mCmp .NotEq (mTold tldf (mCall cl 26 [(mVar 5)])) (mVar 6)) (sSeq (sRet (mLit (.bl false))) sNext) sNext) (sSeq (sSet (stName 7) (mCall cl 9 [(mVar 5)])) (sSeq (sSet (stName 8) (mBin .Add (mLit (.int 1)) (mBin .Mod (mBin .FloorDiv (mVar 2) (mBin .Pow (mLit (.int 2)) (mLit (.int 30)))) (mLit (.int 30))))) (sSeq (sSet (stName 9) (mLst [(mVar 6), (mVar 7), (mBin .Add (mRepl [32, 32] [32, 40] [32, 32, 40, 32] (mVar 6)) (mLit (.str [32]))), (mBin .Add (mBin .Add (mBin .Mult (mLit (.str [40])) (mVar 8)) (mVar 6)) (mBin .Mult (mLit (.str [32, 41])) (mVar 8)))])) (sSeq (sSet (stName 9) (mBin .Add (mVar 9) (mLst [(mBin .Add (mBin .Add (mLit (.str [40, 32])) (mVar 6)) (mLit (.str [41])))]))) (sSeq (sFor (miEn (mVar 9)) (stTup [10, 11]) (l_law_1 cl)) sNext))))))))))))
noncomputable def b_law (cl : CL) : Ms :=
  (sSeq (sFor (miR1 (mBi .max [(mLit (.int 1)), (mBi .min [(mLit (.int 3)), (mBi .len [(mVar 0)])])])) (stName 1) (l_law_2 cl)) (sSeq (sRet (mLit (.bl true))) sNext))
noncomputable def q49 : Def1 := ⟨d49, [("script" : Str), ("k" : Str), ("more" : Str), ("pool" : Str), ("deep" : Str), ("term" : Str), ("due" : Str), ("typed" : Str), ("around" : Str), ("texts" : Str), ("at" : Str), ("text" : Str)], [("script" : Str)], 2, b_law⟩
theorem o49 : DefOk gam0 q49 := ⟨⟨rfl, rfl, rfl, by decide +kernel, rfl, by decide +kernel, by decide +kernel⟩, fun cl => by kernel_rfl, fun _ _ _ _ _ _ us hl => match us, hl with | [_], _ => rfl, rfl, rfl⟩
def dTold : He.DefD := ⟨(("_law_told" : Str), none), "_law_told", "_law_told", defArgs (top 53), defBody (top 53), defScope (top 53), [], []⟩
def dWord : He.DefD := ⟨(("_law_word" : Str), none), "_law_word", "_law_word", defArgs (top 52), defBody (top 52), defScope (top 52), [], []⟩
def dIni_Fault : He.DefD := ⟨(("Fault" : Str), some ("__init__" : Str)), "__init__", "Fault.__init__", defArgs (inClass (top 7) 0), defBody (inClass (top 7) 0), defScope (inClass (top 7) 0), [], []⟩
noncomputable def defs : List Def1 := ([q0, q1, q2, q3, q4, q5, q6, q7, q8, q9, q10, q11, q12, q13, q14, q15, q16, q17, q18, q19] : List Def1) ++ ([q20, q21, q22, q23, q24, q25, q26, q27, q28, q29, q30, q31, q32, q33, q34, q35, q36, q37, q38, q39] : List Def1) ++ ([q40, q41, q42, q43, q44, q45, q46, q47, q48, q49] : List Def1)
def wcs : Scope := match dWord.body with | _ :: _ :: .If (.BoolOp _ (.Compare (.Call _ [.ListComp _ _ c _] _ _) _ _ _ :: _) _) _ _ _ :: _ => c | _ => dWord.scope
noncomputable def prg : Prg where
  gam := gam0
  defs := defs
  cn := [("Reader" : Str), ("Signs" : Str), ("BadTerm" : Str), ("BadToken" : Str), ("BadDeed" : Str), ("BadRow" : Str), ("BadPicture" : Str), ("Fault" : Str)]
  fnn := [("tokens" : Str), ("place" : Str), ("line" : Str)]
  toldD := dTold
  wordD := dWord
  wcs := wcs
  exiD := [dIni_Fault]
theorem oks : ∀ q ∈ prg.defs, DefOk prg.gam q := by
  intro q hq
  have hq : q ∈ defs := hq
  simp only [defs, List.mem_append, List.mem_cons, List.not_mem_nil, or_false] at hq
  rcases hq with (((rfl | rfl | rfl | rfl | rfl | rfl | rfl | rfl | rfl | rfl | rfl | rfl | rfl | rfl | rfl | rfl | rfl | rfl | rfl | rfl) | (rfl | rfl | rfl | rfl | rfl | rfl | rfl | rfl | rfl | rfl | rfl | rfl | rfl | rfl | rfl | rfl | rfl | rfl | rfl | rfl)) | (rfl | rfl | rfl | rfl | rfl | rfl | rfl | rfl | rfl | rfl))
  · exact o0
  · exact o1
  · exact o2
  · exact o3
  · exact o4
  · exact o5
  · exact o6
  · exact o7
  · exact o8
  · exact o9
  · exact o10
  · exact o11
  · exact o12
  · exact o13
  · exact o14
  · exact o15
  · exact o16
  · exact o17
  · exact o18
  · exact o19
  · exact o20
  · exact o21
  · exact o22
  · exact o23
  · exact o24
  · exact o25
  · exact o26
  · exact o27
  · exact o28
  · exact o29
  · exact o30
  · exact o31
  · exact o32
  · exact o33
  · exact o34
  · exact o35
  · exact o36
  · exact o37
  · exact o38
  · exact o39
  · exact o40
  · exact o41
  · exact o42
  · exact o43
  · exact o44
  · exact o45
  · exact o46
  · exact o47
  · exact o48
  · exact o49
theorem okb : prg.okB = true := by kernel_rfl
theorem oWord : WordOk dWord wcs := ⟨rfl, rfl, by kernel_rfl, ⟨⟨rfl, rfl, rfl, by decide +kernel, rfl, by decide +kernel, by decide +kernel⟩, .inl (by kernel_rfl), by kernel_rfl, by decide +kernel, by kernel_rfl, by kernel_rfl, by kernel_rfl⟩, fun _ _ _ _ _ _ us hl => match us, hl with | [_], _ => rfl⟩
theorem oIni_Fault : InitOk dIni_Fault := ⟨rfl, rfl, by kernel_rfl, ⟨rfl, rfl, rfl, by decide +kernel, rfl, by decide +kernel, by decide +kernel⟩, .inl (by kernel_rfl), .inl (by kernel_rfl), fun _ _ _ _ _ _ us hl => match us, hl with | [_, _], _ => rfl⟩
theorem oIni : ∀ d ∈ prg.exiD, InitOk d := by
  intro d hd
  have hd : d ∈ ([dIni_Fault] : List He.DefD) := hd
  simp only [List.mem_cons, List.not_mem_nil, or_false] at hd
  rcases hd with rfl
  · exact oIni_Fault
theorem oTold : ToldOk prg "deed" "e" := ⟨rfl, rfl, rfl, by kernel_rfl, rfl, rfl, fun _ _ _ _ _ _ us hl => match us, hl with | [_], _ => rfl, ⟨rfl, rfl, rfl, by decide +kernel, rfl, by decide +kernel, by decide +kernel⟩, .inl (by kernel_rfl), by kernel_rfl, by kernel_rfl, by kernel_rfl, by decide +kernel, by decide +kernel, by decide +kernel, by decide +kernel, by decide +kernel, by decide +kernel, oWord, rfl, oIni⟩
end K20

namespace K20
open PySem L2 Mp
noncomputable abbrev T : List Fn := prg.defs.map Def1.fn
/-! ### numbers -/
theorem log_lt {i : Int} {n : Nat} (h : i.natAbs < 2 ^ n) (hn : 0 < n) : i.natAbs.log2 < n := PySem.Flt.log2_lt_of hn h
def drawn (c k : Int) : Int :=
  let m := (c * 6364136223846793005 + (k + 1) * 1442695040888963407) % 340282366920938463463374607431768211507
  let m := m * m % 340282366920938463463374607431768211297
  let m := (m % 18446744073709551557 + 1) * (m / 18446744073709551557 + 1) * m
  m % 340282366920938463463374607431768211507
theorem drawn_nn (c k : Int) : 0 ≤ drawn c k := Int.emod_nonneg _ (by decide)
theorem drawn_lt (c k : Int) : drawn c k < 340282366920938463463374607431768211507 := Int.emod_lt_of_pos _ (by decide)
theorem nn_log {i : Int} {n : Nat} (h0 : 0 ≤ i) (h : i < 2 ^ n) (hn : 0 < n) : i.natAbs.log2 < n := by
  refine log_lt ?_ hn
  have : (i.natAbs : Int) < ((2 ^ n : Nat) : Int) := by
    rw [Int.natAbs_of_nonneg h0]
    exact_mod_cast h
  exact_mod_cast this
theorem emod_log {p : Int} {n : Nat} (x : Int) (h0 : 0 < p) (h : p ≤ 2 ^ n) (hn : 0 < n) : (x % p).natAbs.log2 < n := nn_log (Int.emod_nonneg _ (by omega)) (Int.lt_of_lt_of_le (Int.emod_lt_of_pos _ h0) h) hn
theorem c_drawn (n : Nat) (c k : Int) (h : DH) (hc : c.natAbs.log2 < 2000000) (hk : (k + 1).natAbs.log2 < 2000000) : callN T (n + 1) 0 [.int c, .int k] h = .ok (.int (drawn c k)) h := by
  rw [call_eq (fn := q0.fn) rfl rfl]
  have e1 : (6364136223846793005 : Int).natAbs.log2 < 64 := by decide
  have e2 : (1442695040888963407 : Int).natAbs.log2 < 64 := by decide
  simp only [Def1.fn, q0, b__law_drawn, drawn]
  have a1 := emod_log (n := 129) (c * 6364136223846793005 + (k + 1) * 1442695040888963407) (p := 340282366920938463463374607431768211507) (by decide) (by decide) (by decide)
  simp (disch := first | with_reducible assumption | omega | with_reducible exact size_le (by omega) | decide | (simp only [List.length_cons, List.length_nil, List.length_append]; first | omega | with_reducible exact size_le (by omega)) | exact ⟨by simp only [List.length_cons, List.length_nil]; omega, by decide⟩ | fail) [-getElem?_pos, -getElem?_neg, -Int.natCast_add, le_size, rngR_ok, mul_int, mod_int, div_int, pow_int, add_str, len_str, len_refU, idx_refU, any_refU, all_refU, in_refU, in_tupU, okTo_appU, append_U, it_refU, join_refU, add_refU, isi_refU, idx_str, slc_str, str_int, int_str, meOf, List.lookup, fldOf, putN, putR_ok, List.getElem?_cons_zero, List.getElem?_cons_succ, List.getElem?_concat_length, get_app, get_app0, en_refU, mul_refU, tupF_refU, slc_refU]
  generalize hm : ((c * 6364136223846793005 + (k + 1) * 1442695040888963407) % 340282366920938463463374607431768211507 * ((c * 6364136223846793005 + (k + 1) * 1442695040888963407) % 340282366920938463463374607431768211507) % 340282366920938463463374607431768211297) = m
  have m0 : 0 ≤ m := by rw [← hm]; exact Int.emod_nonneg _ (by decide)
  have m1 : m < 340282366920938463463374607431768211297 := by rw [← hm]; exact Int.emod_lt_of_pos _ (by decide)
  have l0 : m.natAbs.log2 < 129 := nn_log m0 (by omega) (by decide)
  have l1 : (m % 18446744073709551557 + 1).natAbs.log2 < 65 := nn_log (by omega) (by omega) (by decide)
  have l2 : (m / 18446744073709551557 + 1).natAbs.log2 < 66 := nn_log (by omega) (by omega) (by decide)
  have l3 : ((m % 18446744073709551557 + 1) * (m / 18446744073709551557 + 1)).natAbs.log2 < 131 := by
    refine log_lt ?_ (by decide)
    rw [Int.natAbs_mul, show (2 : Nat) ^ 131 = 2 ^ 65 * 2 ^ 66 by decide]
    exact Nat.mul_lt_mul'' (by omega) (by omega)
  simp (disch := first | with_reducible assumption | omega | with_reducible exact size_le (by omega) | decide | (simp only [List.length_cons, List.length_nil, List.length_append]; first | omega | with_reducible exact size_le (by omega)) | exact ⟨by simp only [List.length_cons, List.length_nil]; omega, by decide⟩ | fail) [-getElem?_pos, -getElem?_neg, -Int.natCast_add, le_size, rngR_ok, mul_int, mod_int, div_int, pow_int, add_str, len_str, len_refU, idx_refU, any_refU, all_refU, in_refU, in_tupU, okTo_appU, append_U, it_refU, join_refU, add_refU, isi_refU, idx_str, slc_str, str_int, int_str, meOf, List.lookup, fldOf, putN, putR_ok, List.getElem?_cons_zero, List.getElem?_cons_succ, List.getElem?_concat_length, get_app, get_app0, en_refU, mul_refU, tupF_refU, slc_refU]
end K20

namespace K20
open PySem L2 Mp
def sg (line : Tx) (p : Nat) : O := .ins 1 [(2, .str line), (1, .int p)]
theorem get_set {h : DH} {i : Nat} {x : O} (hi : i < h.length) : (h.set i x)[i]? = some x := by simp [hi]
theorem cut_nat {x : Tx} {a b : Nat} : cutG x (some (a : Int)) (some (b : Int)) = (x.drop a).take (b - a) := by
  unfold cutG
  rw [HT.sIx_nat, HT.sIx_nat]
  by_cases ha : a ≤ x.length
  · rw [Nat.min_eq_left ha]
    by_cases hb : b ≤ x.length
    · rw [Nat.min_eq_left hb]
    · rw [Nat.min_eq_right (by omega)]
      rw [List.take_of_length_le (by rw [List.length_drop]; omega), List.take_of_length_le (by rw [List.length_drop]; omega)]
  · rw [Nat.min_eq_right (Nat.le_of_lt (Nat.lt_of_not_le ha)), List.drop_of_length_le (Nat.le_refl _), List.drop_of_length_le (Nat.le_of_lt (Nat.lt_of_not_le ha))]
    simp
theorem cut_nat0 {x : Tx} {a : Nat} : cutG x (some (a : Int)) none = x.drop a := by
  unfold cutG
  rw [HT.sIx_nat, HT.sIx_none]
  by_cases ha : a ≤ x.length
  · rw [Nat.min_eq_left ha, List.take_of_length_le (by rw [List.length_drop]; omega)]
  · rw [Nat.min_eq_right (by omega), List.drop_of_length_le (by omega), List.drop_of_length_le (by omega)]
    simp
section
variable {line : Tx} {p : Nat} {h : DH} {e : En} {i : Nat} {cl : CL} {as : List M} {me : Nat → Option Nat}
@[simp] theorem sg_line : attR (some (sg line p)) 2 h = .ok (.str line) h := rfl
@[simp] theorem sg_place : attR (some (sg line p)) 1 h = .ok (.int p) h := rfl
@[simp] theorem sg_meth : methR cl me i (some (sg line p)) as e h = methC cl (me 1) i as e h := methR_ins
@[simp] theorem sg_put1 : putR foo (some (sg line p)) i 1 (.int ((p : Int) + 1)) e h = .nx e (h.set i (sg line (p + 1))) := rfl
@[simp] theorem sg_put {q : Nat} : putR foo (some (sg line p)) i 1 (.int (q : Int)) e h = .nx e (h.set i (sg line q)) := rfl
end
theorem c_need (n : Nat) (h : DH) : callN T (n + 1) 37 [.bl true] h = .ok .non h := by
  rw [call_eq (fn := q37.fn) rfl rfl]
  simp only [Def1.fn, q37, b_need_tokens]
  simp (disch := first | with_reducible assumption | omega | with_reducible exact size_le (by omega) | decide | (simp only [List.length_cons, List.length_nil, List.length_append]; first | omega | with_reducible exact size_le (by omega)) | exact ⟨by simp only [List.length_cons, List.length_nil]; omega, by decide⟩ | fail) [-getElem?_pos, -getElem?_neg, -Int.natCast_add, le_size, rngR_ok, mul_int, mod_int, div_int, pow_int, add_str, len_str, len_refU, idx_refU, any_refU, all_refU, in_refU, in_tupU, okTo_appU, append_U, it_refU, join_refU, add_refU, isi_refU, idx_str, slc_str, str_int, int_str, meOf, List.lookup, fldOf, putN, putR_ok, List.getElem?_cons_zero, List.getElem?_cons_succ, List.getElem?_concat_length, get_app, get_app0, en_refU, mul_refU, tupF_refU, slc_refU]
theorem c_need' {b : Bool} (n : Nat) (h : DH) (q : b = true) : callN T (n + 1) 37 [.bl b] h = .ok .non h := by
  rw [q]
  exact c_need n h
def signB (c : Nat) : Bool := decide (32 ≤ c) && (decide (c ≤ 126) && !decide (c = 37))
theorem c_sign (n : Nat) (c : Nat) (h : DH) : callN T (n + 1) 16 [.str [c]] h = .ok (.bl (signB c)) h := by
  rw [call_eq (fn := q16.fn) rfl rfl]
  simp only [Def1.fn, q16, b_is_sign, c_BARRED, signB]
  have e : decide ((c : Int) = 37) = decide (c = 37) := decide_eq_decide.mpr (by omega)
  by_cases h1 : 32 ≤ c
  · by_cases h2 : c ≤ 126
    · simp (disch := first | with_reducible assumption | omega | with_reducible exact size_le (by omega) | decide | (simp only [List.length_cons, List.length_nil, List.length_append]; first | omega | with_reducible exact size_le (by omega)) | exact ⟨by simp only [List.length_cons, List.length_nil]; omega, by decide⟩ | fail) [-getElem?_pos, -getElem?_neg, -Int.natCast_add, le_size, rngR_ok, mul_int, mod_int, div_int, pow_int, add_str, len_str, len_refU, idx_refU, any_refU, all_refU, in_refU, in_tupU, okTo_appU, append_U, it_refU, join_refU, add_refU, isi_refU, idx_str, slc_str, str_int, int_str, meOf, List.lookup, fldOf, putN, putR_ok, List.getElem?_cons_zero, List.getElem?_cons_succ, List.getElem?_concat_length, get_app, get_app0, en_refU, mul_refU, tupF_refU, slc_refU, h1, h2, e]
    · simp (disch := first | with_reducible assumption | omega | with_reducible exact size_le (by omega) | decide | (simp only [List.length_cons, List.length_nil, List.length_append]; first | omega | with_reducible exact size_le (by omega)) | exact ⟨by simp only [List.length_cons, List.length_nil]; omega, by decide⟩ | fail) [-getElem?_pos, -getElem?_neg, -Int.natCast_add, le_size, rngR_ok, mul_int, mod_int, div_int, pow_int, add_str, len_str, len_refU, idx_refU, any_refU, all_refU, in_refU, in_tupU, okTo_appU, append_U, it_refU, join_refU, add_refU, isi_refU, idx_str, slc_str, str_int, int_str, meOf, List.lookup, fldOf, putN, putR_ok, List.getElem?_cons_zero, List.getElem?_cons_succ, List.getElem?_concat_length, get_app, get_app0, en_refU, mul_refU, tupF_refU, slc_refU, h1, h2, e]
  · simp (disch := first | with_reducible assumption | omega | with_reducible exact size_le (by omega) | decide | (simp only [List.length_cons, List.length_nil, List.length_append]; first | omega | with_reducible exact size_le (by omega)) | exact ⟨by simp only [List.length_cons, List.length_nil]; omega, by decide⟩ | fail) [-getElem?_pos, -getElem?_neg, -Int.natCast_add, le_size, rngR_ok, mul_int, mod_int, div_int, pow_int, add_str, len_str, len_refU, idx_refU, any_refU, all_refU, in_refU, in_tupU, okTo_appU, append_U, it_refU, join_refU, add_refU, isi_refU, idx_str, slc_str, str_int, int_str, meOf, List.lookup, fldOf, putN, putR_ok, List.getElem?_cons_zero, List.getElem?_cons_succ, List.getElem?_concat_length, get_app, get_app0, en_refU, mul_refU, tupF_refU, slc_refU, h1]
/-! ### run -/
theorem run_loop (line al : Tx) (hl : line.length ≤ 1000) (i : Nat) (z : D) : ∀ (rest : Tx) (p : Nat) (h : DH), i < h.length → line.drop p = rest → h[i]? = some (sg line p) → 
    sWhl (mAnd (mCmp .Lt (mAttr (mVar 0) 1) (mBi .len [(mAttr (mVar 0) 2)])) (mCmp .In (mIdx (mAttr (mVar 0) 2) (mAttr (mVar 0) 1)) (mVar 1))) (sSeq (sFld foo (mVar 0) 1 (mBin .Add (mAttr (mVar 0) 1) (mLit (.int 1)))) sNext)
      [some (.ref i), some (.str al), some z] h = .nx [some (.ref i), some (.str al), some z] (h.set i (sg line (p + (rest.takeWhile (fun c => decide (c ∈ al))).length)))
  | [], p, h, hi, hr, hg => by
    have hp : line.length ≤ p := List.drop_eq_nil_iff.mp hr
    rw [sWhl_stop (h1 := h)]
    · simp only [List.takeWhile_nil, List.length_nil, Nat.add_zero]
      congr 1
      exact (set_same hg).symm
    · have hz : line.length ≤ sizeLine := size_le (by omega)
      have hn : ¬ p < line.length := by omega
      simp (disch := first | with_reducible assumption | omega | with_reducible exact size_le (by omega) | decide | (simp only [List.length_cons, List.length_nil, List.length_append]; first | omega | with_reducible exact size_le (by omega)) | exact ⟨by simp only [List.length_cons, List.length_nil]; omega, by decide⟩ | fail) [-getElem?_pos, -getElem?_neg, -Int.natCast_add, le_size, rngR_ok, mul_int, mod_int, div_int, pow_int, add_str, len_str, len_refU, idx_refU, any_refU, all_refU, in_refU, in_tupU, okTo_appU, append_U, it_refU, join_refU, add_refU, isi_refU, idx_str, slc_str, str_int, int_str, meOf, List.lookup, fldOf, putN, putR_ok, List.getElem?_cons_zero, List.getElem?_cons_succ, List.getElem?_concat_length, get_app, get_app0, en_refU, mul_refU, tupF_refU, slc_refU, hg, hn]
  | c :: rest, p, h, hi, hr, hg => by
    have hz : line.length ≤ sizeLine := size_le (by omega)
    have hp : p < line.length := by
      rcases Nat.lt_or_ge p line.length with q | q
      · exact q
      · rw [List.drop_of_length_le q] at hr
        cases hr
    have hc : line[p]? = some c := by
      have e := congrArg (fun l => l[0]?) hr
      simpa using e
    have hr2 : line.drop (p + 1) = rest := by
      have e := congrArg List.tail hr
      simpa using e
    have ha : atI line (p : Int) = some c := by rw [atI_nat line p hp, hc]
    by_cases hm : c ∈ al
    · rw [sWhl_go (h1 := h) (h2 := h.set i (sg line (p + 1))) (e2 := [some (.ref i), some (.str al), some z])]
      · rw [run_loop line al hl i z rest (p + 1) (h.set i (sg line (p + 1))) (by simpa using hi) hr2 (get_set hi)]
        rw [List.takeWhile_cons, if_pos (by simpa using hm), List.set_set, List.length_cons, Nat.add_right_comm, Nat.add_assoc]
      · simp (disch := first | with_reducible assumption | omega | with_reducible exact size_le (by omega) | decide | (simp only [List.length_cons, List.length_nil, List.length_append]; first | omega | with_reducible exact size_le (by omega)) | exact ⟨by simp only [List.length_cons, List.length_nil]; omega, by decide⟩ | fail) [-getElem?_pos, -getElem?_neg, -Int.natCast_add, le_size, rngR_ok, mul_int, mod_int, div_int, pow_int, add_str, len_str, len_refU, idx_refU, any_refU, all_refU, in_refU, in_tupU, okTo_appU, append_U, it_refU, join_refU, add_refU, isi_refU, idx_str, slc_str, str_int, int_str, meOf, List.lookup, fldOf, putN, putR_ok, List.getElem?_cons_zero, List.getElem?_cons_succ, List.getElem?_concat_length, get_app, get_app0, en_refU, mul_refU, tupF_refU, slc_refU, hg, hp, ha, hm]
      · simp (disch := first | with_reducible assumption | omega | with_reducible exact size_le (by omega) | decide | (simp only [List.length_cons, List.length_nil, List.length_append]; first | omega | with_reducible exact size_le (by omega)) | exact ⟨by simp only [List.length_cons, List.length_nil]; omega, by decide⟩ | fail) [-getElem?_pos, -getElem?_neg, -Int.natCast_add, le_size, rngR_ok, mul_int, mod_int, div_int, pow_int, add_str, len_str, len_refU, idx_refU, any_refU, all_refU, in_refU, in_tupU, okTo_appU, append_U, it_refU, join_refU, add_refU, isi_refU, idx_str, slc_str, str_int, int_str, meOf, List.lookup, fldOf, putN, putR_ok, List.getElem?_cons_zero, List.getElem?_cons_succ, List.getElem?_concat_length, get_app, get_app0, en_refU, mul_refU, tupF_refU, slc_refU, hg]
    · rw [sWhl_stop (h1 := h)]
      · rw [List.takeWhile_cons, if_neg (by simpa using hm)]
        congr 1
        exact (set_same hg).symm
      · simp (disch := first | with_reducible assumption | omega | with_reducible exact size_le (by omega) | decide | (simp only [List.length_cons, List.length_nil, List.length_append]; first | omega | with_reducible exact size_le (by omega)) | exact ⟨by simp only [List.length_cons, List.length_nil]; omega, by decide⟩ | fail) [-getElem?_pos, -getElem?_neg, -Int.natCast_add, le_size, rngR_ok, mul_int, mod_int, div_int, pow_int, add_str, len_str, len_refU, idx_refU, any_refU, all_refU, in_refU, in_tupU, okTo_appU, append_U, it_refU, join_refU, add_refU, isi_refU, idx_str, slc_str, str_int, int_str, meOf, List.lookup, fldOf, putN, putR_ok, List.getElem?_cons_zero, List.getElem?_cons_succ, List.getElem?_concat_length, get_app, get_app0, en_refU, mul_refU, tupF_refU, slc_refU, hg, hp, ha, hm]
theorem c_run (n : Nat) (line al : Tx) (hl : line.length ≤ 1000) (i p : Nat) (h : DH) (hi : i < h.length) (hg : h[i]? = some (sg line p)) :
    callN T (n + 1) 39 [.ref i, .str al] h = .ok (.str ((line.drop p).takeWhile (fun c => decide (c ∈ al)))) (h.set i (sg line (p + ((line.drop p).takeWhile (fun c => decide (c ∈ al))).length))) := by
  have hz : line.length ≤ sizeLine := size_le (by omega)
  rw [call_eq (fn := q39.fn) rfl rfl]
  simp only [Def1.fn, q39, b_Signs_run, t_Signs_run_1, l_Signs_run_1]
  have e := run_loop line al hl i (.int p) _ p h hi rfl hg
  generalize hk : ((line.drop p).takeWhile (fun c => decide (c ∈ al))).length = k at e ⊢
  have g2 : (h.set i (sg line (p + k)))[i]? = some (sg line (p + k)) := get_set hi
  have hcut : cutG line (some (p : Int)) (some ((p + k : Nat) : Int)) = (line.drop p).takeWhile (fun c => decide (c ∈ al)) := by
    rw [cut_nat, Nat.add_sub_cancel_left, ← hk]
    exact (List.prefix_iff_eq_take.mp (List.takeWhile_prefix _)).symm
  simp (disch := first | with_reducible assumption | omega | with_reducible exact size_le (by omega) | decide | (simp only [List.length_cons, List.length_nil, List.length_append]; first | omega | with_reducible exact size_le (by omega)) | exact ⟨by simp only [List.length_cons, List.length_nil]; omega, by decide⟩ | fail) [-getElem?_pos, -getElem?_neg, -Int.natCast_add, le_size, rngR_ok, mul_int, mod_int, div_int, pow_int, add_str, len_str, len_refU, idx_refU, any_refU, all_refU, in_refU, in_tupU, okTo_appU, append_U, it_refU, join_refU, add_refU, isi_refU, idx_str, slc_str, str_int, int_str, meOf, List.lookup, fldOf, putN, putR_ok, List.getElem?_cons_zero, List.getElem?_cons_succ, List.getElem?_concat_length, get_app, get_app0, en_refU, mul_refU, tupF_refU, slc_refU, hg, fldOf, List.lookup, e]
  simp (disch := first | with_reducible assumption | omega | with_reducible exact size_le (by omega) | decide | (simp only [List.length_cons, List.length_nil, List.length_append]; first | omega | with_reducible exact size_le (by omega)) | exact ⟨by simp only [List.length_cons, List.length_nil]; omega, by decide⟩ | fail) [-getElem?_pos, -getElem?_neg, -Int.natCast_add, le_size, rngR_ok, mul_int, mod_int, div_int, pow_int, add_str, len_str, len_refU, idx_refU, any_refU, all_refU, in_refU, in_tupU, okTo_appU, append_U, it_refU, join_refU, add_refU, isi_refU, idx_str, slc_str, str_int, int_str, meOf, List.lookup, fldOf, putN, putR_ok, List.getElem?_cons_zero, List.getElem?_cons_succ, List.getElem?_concat_length, get_app, get_app0, en_refU, mul_refU, tupF_refU, slc_refU, g2, fldOf, List.lookup, hcut]

/-! ### texts -/
def tw (al x : Tx) : Tx := x.takeWhile fun c => decide (c ∈ al)
def dw (al x : Tx) : Tx := x.dropWhile fun c => decide (c ∈ al)
def NH (al x : Tx) : Prop := ∀ c, x.head? = some c → c ∉ al
theorem tw_app {al w r : Tx} (h : ∀ c ∈ w, c ∈ al) (n : NH al r) : tw al (w ++ r) = w := by
  unfold tw
  induction w with
  | nil =>
    cases r with
    | nil => rfl
    | cons c r => rw [List.nil_append, List.takeWhile_cons, if_neg (by simpa using n c rfl)]
  | cons c w ih => rw [List.cons_append, List.takeWhile_cons, if_pos (by simpa using h c List.mem_cons_self), ih fun x hx => h x (List.mem_cons_of_mem _ hx)]
theorem drop_tw (al x : Tx) : x.drop (tw al x).length = dw al x := by
  unfold tw dw
  induction x with
  | nil => rfl
  | cons c r ih =>
    rw [List.takeWhile_cons, List.dropWhile_cons]
    split
    · exact ih
    · rfl
def FIG : Tx := [48, 49, 50, 51, 52, 53, 54, 55, 56, 57]
def CAP : Tx := [65, 66, 67, 68, 69, 70, 71, 72, 73, 74, 75, 76, 77, 78, 79, 80, 81, 82, 83, 84, 85, 86, 87, 88, 89, 90]
def CF : Tx := CAP ++ FIG
theorem mem_FIG {c : Nat} : c ∈ FIG ↔ 48 ≤ c ∧ c ≤ 57 := by
  unfold FIG
  simp only [List.mem_cons, List.not_mem_nil, or_false]
  omega
theorem mem_CAP {c : Nat} : c ∈ CAP ↔ 65 ≤ c ∧ c ≤ 90 := by
  unfold CAP
  simp only [List.mem_cons, List.not_mem_nil, or_false]
  omega
def strL : D → List Tx
  | .tup ds => (strsOf ds).getD []
  | _ => []
def WORDS : List Tx := strL c_WORDS
def MARKS : List Tx := strL c_MARKS
theorem words_eq : c_WORDS = .tup (WORDS.map .str) := by rfl
theorem marks_eq : c_MARKS = .tup (MARKS.map .str) := by rfl
theorem fig_eq : c_FIGURES = .str FIG := rfl
theorem cap_eq : c_CAPITALS = .str CAP := rfl
section
variable {n i p : Nat} {line : Tx} {h : DH}
theorem c_run' (n : Nat) (line al : Tx) (hl : line.length ≤ 1000) (i p : Nat) (h : DH) (hi : i < h.length) (hg : h[i]? = some (sg line p)) :
    callN T (n + 1) 39 [.ref i, .str al] h = .ok (.str (tw al (line.drop p))) (h.set i (sg line (p + (tw al (line.drop p)).length))) := c_run n line al hl i p h hi hg
theorem lt_of_get {h : DH} {i : Nat} {o : O} (q : h[i]? = some o) : i < h.length := by
  rcases Nat.lt_or_ge i h.length with z | z
  · exact z
  · rw [List.getElem?_eq_none z] at q
    cases q
theorem c_skip (hl : line.length ≤ 1000) (hg : h[i]? = some (sg line p)) : callN T (n + 2) 40 [.ref i] h = .ok .non (h.set i (sg line (p + (tw [32] (line.drop p)).length))) := by
  rw [call_eq (k := n + 1) (fn := q40.fn) rfl rfl]
  simp only [Def1.fn, q40, b_Signs_skip]
  have e := c_run' n line [32] hl i p h (lt_of_get hg) hg
  simp (disch := first | with_reducible assumption | omega | with_reducible exact size_le (by omega) | decide | (simp only [List.length_cons, List.length_nil, List.length_append]; first | omega | with_reducible exact size_le (by omega)) | exact ⟨by simp only [List.length_cons, List.length_nil]; omega, by decide⟩ | fail) [-getElem?_pos, -getElem?_neg, -Int.natCast_add, le_size, rngR_ok, mul_int, mod_int, div_int, pow_int, add_str, len_str, len_refU, idx_refU, any_refU, all_refU, in_refU, in_tupU, okTo_appU, append_U, it_refU, join_refU, add_refU, isi_refU, idx_str, slc_str, str_int, int_str, meOf, List.lookup, fldOf, putN, putR_ok, List.getElem?_cons_zero, List.getElem?_cons_succ, List.getElem?_concat_length, get_app, get_app0, en_refU, mul_refU, tupF_refU, slc_refU, hg, e]
theorem c_number {w : Tx} {v : Int} (hl : line.length ≤ 1000) (hg : h[i]? = some (sg line p)) (hw : tw FIG (line.drop p) = w) (h9 : w.length ≤ 9) (hv : PySem.intText? ⟨w.toArray⟩ = some v) :
    callN T (n + 2) 42 [.ref i] h = .ok (.tup [.str [110, 117, 109, 98, 101, 114], .int v]) (h.set i (sg line (p + w.length))) := by
  rw [call_eq (k := n + 1) (fn := q42.fn) rfl rfl]
  simp only [Def1.fn, q42, b_Signs_number, fig_eq, c_MOST_FIGURES]
  have e := c_run' n line FIG hl i p h (lt_of_get hg) hg
  rw [hw] at e
  have h9' : (w.length : Int) ≤ 9 := by omega
  simp (disch := first | with_reducible assumption | omega | with_reducible exact size_le (by omega) | decide | (simp only [List.length_cons, List.length_nil, List.length_append]; first | omega | with_reducible exact size_le (by omega)) | exact ⟨by simp only [List.length_cons, List.length_nil]; omega, by decide⟩ | fail) [-getElem?_pos, -getElem?_neg, -Int.natCast_add, le_size, rngR_ok, mul_int, mod_int, div_int, pow_int, add_str, len_str, len_refU, idx_refU, any_refU, all_refU, in_refU, in_tupU, okTo_appU, append_U, it_refU, join_refU, add_refU, isi_refU, idx_str, slc_str, str_int, int_str, meOf, List.lookup, fldOf, putN, putR_ok, List.getElem?_cons_zero, List.getElem?_cons_succ, List.getElem?_concat_length, get_app, get_app0, en_refU, mul_refU, tupF_refU, slc_refU, hg, e, c_need, h9', int_str hv]
section
variable {w : Tx}
theorem cut_at {x : Tx} {a : Nat} : cutG x (some (a : Int)) (some ((a : Int) + 1)) = (x.drop a).take 1 := by
  rw [show (a : Int) + 1 = ((a + 1 : Nat) : Int) by omega, cut_nat, Nat.add_sub_cancel_left]
theorem c_worded_d (hl : line.length ≤ 1000) (hg : h[i]? = some (sg line p)) (hw : tw CF (line.drop p) = w) (h7 : w.length ≤ 7) (hd : (line.drop (p + w.length)).take 1 = [36]) (hn : w ++ [36] ∉ WORDS) :
    callN T (n + 2) 43 [.ref i] h = .ok (.tup [.str [110, 97, 109, 101], .str (w ++ [36])]) (h.set i (sg line (p + w.length + 1))) := by
  rw [call_eq (k := n + 1) (fn := q43.fn) rfl rfl]
  simp only [Def1.fn, q43, b_Signs_worded, fig_eq, cap_eq, c_MOST_NAME, words_eq]
  have e := c_run' n line CF hl i p h (lt_of_get hg) hg
  rw [hw] at e
  have g3 : (h.set i (sg line (p + w.length)))[i]? = some (sg line (p + w.length)) := get_set (lt_of_get hg)
  have e2 : (CAP ++ FIG).length = 36 := rfl
  have ew : strsOf (WORDS.map .str) = some WORDS := strs_map _
  have h8 : ((w.length + 1 : Nat) : Int) ≤ 8 := by omega
  simp (disch := first | with_reducible assumption | omega | with_reducible exact size_le (by omega) | decide | (simp only [List.length_cons, List.length_nil, List.length_append]; first | omega | with_reducible exact size_le (by omega)) | exact ⟨by simp only [List.length_cons, List.length_nil]; omega, by decide⟩ | fail) [-getElem?_pos, -getElem?_neg, -Int.natCast_add, le_size, rngR_ok, mul_int, mod_int, div_int, pow_int, add_str, len_str, len_refU, idx_refU, any_refU, all_refU, in_refU, in_tupU, okTo_appU, append_U, it_refU, join_refU, add_refU, isi_refU, idx_str, slc_str, str_int, int_str, meOf, List.lookup, fldOf, putN, putR_ok, List.getElem?_cons_zero, List.getElem?_cons_succ, List.getElem?_concat_length, get_app, get_app0, en_refU, mul_refU, tupF_refU, slc_refU, hg, e, e2, show CAP ++ FIG = CF from rfl, g3, cut_at, hd, ew, hn, c_need, h8]
theorem c_worded_w (hl : line.length ≤ 1000) (hg : h[i]? = some (sg line p)) (hw : tw CF (line.drop p) = w) (hd : (line.drop (p + w.length)).take 1 ≠ [36]) (hn : w ∈ WORDS) :
    callN T (n + 2) 43 [.ref i] h = .ok (.tup [.str [119, 111, 114, 100], .str w]) (h.set i (sg line (p + w.length))) := by
  rw [call_eq (k := n + 1) (fn := q43.fn) rfl rfl]
  simp only [Def1.fn, q43, b_Signs_worded, fig_eq, cap_eq, c_MOST_NAME, words_eq]
  have e := c_run' n line CF hl i p h (lt_of_get hg) hg
  rw [hw] at e
  have g3 : (h.set i (sg line (p + w.length)))[i]? = some (sg line (p + w.length)) := get_set (lt_of_get hg)
  have e2 : (CAP ++ FIG).length = 36 := rfl
  have ew : strsOf (WORDS.map .str) = some WORDS := strs_map _
  simp (disch := first | with_reducible assumption | omega | with_reducible exact size_le (by omega) | decide | (simp only [List.length_cons, List.length_nil, List.length_append]; first | omega | with_reducible exact size_le (by omega)) | exact ⟨by simp only [List.length_cons, List.length_nil]; omega, by decide⟩ | fail) [-getElem?_pos, -getElem?_neg, -Int.natCast_add, le_size, rngR_ok, mul_int, mod_int, div_int, pow_int, add_str, len_str, len_refU, idx_refU, any_refU, all_refU, in_refU, in_tupU, okTo_appU, append_U, it_refU, join_refU, add_refU, isi_refU, idx_str, slc_str, str_int, int_str, meOf, List.lookup, fldOf, putN, putR_ok, List.getElem?_cons_zero, List.getElem?_cons_succ, List.getElem?_concat_length, get_app, get_app0, en_refU, mul_refU, tupF_refU, slc_refU, hg, e, e2, show CAP ++ FIG = CF from rfl, g3, cut_at, hd, ew, hn]
theorem c_worded_n (hl : line.length ≤ 1000) (hg : h[i]? = some (sg line p)) (hw : tw CF (line.drop p) = w) (h8 : w.length ≤ 8) (hd : (line.drop (p + w.length)).take 1 ≠ [36]) (hn : w ∉ WORDS) :
    callN T (n + 2) 43 [.ref i] h = .ok (.tup [.str [110, 97, 109, 101], .str w]) (h.set i (sg line (p + w.length))) := by
  rw [call_eq (k := n + 1) (fn := q43.fn) rfl rfl]
  simp only [Def1.fn, q43, b_Signs_worded, fig_eq, cap_eq, c_MOST_NAME, words_eq]
  have e := c_run' n line CF hl i p h (lt_of_get hg) hg
  rw [hw] at e
  have g3 : (h.set i (sg line (p + w.length)))[i]? = some (sg line (p + w.length)) := get_set (lt_of_get hg)
  have e2 : (CAP ++ FIG).length = 36 := rfl
  have ew : strsOf (WORDS.map .str) = some WORDS := strs_map _
  have h8 : (w.length : Int) ≤ 8 := by omega
  simp (disch := first | with_reducible assumption | omega | with_reducible exact size_le (by omega) | decide | (simp only [List.length_cons, List.length_nil, List.length_append]; first | omega | with_reducible exact size_le (by omega)) | exact ⟨by simp only [List.length_cons, List.length_nil]; omega, by decide⟩ | fail) [-getElem?_pos, -getElem?_neg, -Int.natCast_add, le_size, rngR_ok, mul_int, mod_int, div_int, pow_int, add_str, len_str, len_refU, idx_refU, any_refU, all_refU, in_refU, in_tupU, okTo_appU, append_U, it_refU, join_refU, add_refU, isi_refU, idx_str, slc_str, str_int, int_str, meOf, List.lookup, fldOf, putN, putR_ok, List.getElem?_cons_zero, List.getElem?_cons_succ, List.getElem?_concat_length, get_app, get_app0, en_refU, mul_refU, tupF_refU, slc_refU, hg, e, e2, show CAP ++ FIG = CF from rfl, g3, cut_at, hd, ew, hn, c_need, h8]
end
theorem find_q {x s r : Tx} {q c : Nat} (e : x.drop q = s ++ c :: r) (hs : c ∉ s) : Txt.find3 ⟨x.toArray⟩ ⟨[c].toArray⟩ (q : Int) = ((q + s.length : Nat) : Int) := by
  have hlen : x.length = q + s.length + (r.length + 1) := by
    have z := congrArg List.length e
    rw [List.length_drop, List.length_append, List.length_cons] at z
    omega
  have at_ : ∀ v, q ≤ v → x[v]? = (s ++ c :: r)[v - q]? := fun v hv => by
    rw [← e, List.getElem?_drop, Nat.add_sub_cancel' hv]
  have gd : ∀ v, (⟨x.toArray⟩ : PySem.Str).cps.getD v 0 = (x[v]?).getD 0 := fun v => by
    simp [Array.getD_eq_getD_getElem?]
  have fi : fromIndex (⟨x.toArray⟩ : PySem.Str).length (q : Int) = q := by
    unfold fromIndex
    rw [if_neg (by omega)]
    omega
  have xl : (⟨x.toArray⟩ : PySem.Str).length = x.length := rfl
  have hc : x[q + s.length]? = some c := by
    rw [at_ _ (by omega), Nat.add_sub_cancel_left, List.getElem?_append_right (Nat.le_refl _), Nat.sub_self]
    rfl
  rcases StrLaws.find3_spec ⟨x.toArray⟩ c (q : Int) with ⟨_, hn⟩ | ⟨k, h0, hlo, hk, hc2, hn⟩
  · refine absurd ?_ (hn (q + s.length) (by rw [fi]; omega) (by rw [xl]; omega))
    rw [gd, hc]
    rfl
  · rw [fi] at hlo hn
    rw [show (⟨[c].toArray⟩ : PySem.Str) = ⟨#[c]⟩ from rfl, h0]
    rcases Nat.lt_trichotomy k (q + s.length) with z | z | z
    · rw [gd, at_ k hlo, List.getElem?_append_left (by omega)] at hc2
      rw [List.getElem?_eq_getElem (by omega)] at hc2
      have hm := List.getElem_mem (l := s) (n := k - q) (by omega)
      have hc2 : s[k - q] = c := hc2
      rw [hc2] at hm
      exact absurd hm hs
    · rw [z]
    · refine absurd ?_ (hn (q + s.length) (by omega) z)
      rw [gd, hc]
      rfl
theorem c_quoted {s r : Tx} (hl : line.length ≤ 1000) (hg : h[i]? = some (sg line p)) (e : line.drop (p + 1) = s ++ 34 :: r) (hs : 34 ∉ s) :
    callN T (n + 2) 44 [.ref i] h = .ok (.tup [.str [116, 101, 120, 116], .str s]) (h.set i (sg line (p + s.length + 2))) := by
  rw [call_eq (k := n + 1) (fn := q44.fn) rfl rfl]
  simp only [Def1.fn, q44, b_Signs_quoted]
  have f := find_q e hs
  rw [show ((p + 1 : Nat) : Int) = (p : Int) + 1 by omega] at f
  have hcut : cutG line (some ((p : Int) + 1)) (some (((p + 1 + s.length : Nat) : Int))) = s := by
    rw [show (p : Int) + 1 = ((p + 1 : Nat) : Int) by omega, cut_nat, e, Nat.add_sub_cancel_left]
    simp
  have hp : putR foo (some (sg line p)) i 1 (.int (((p + 1 + s.length : Nat) : Int) + 1)) [some (.ref i), some (.int ((p + 1 + s.length : Nat) : Int)), some (.str s)] h = .nx [some (.ref i), some (.int ((p + 1 + s.length : Nat) : Int)), some (.str s)] (h.set i (sg line (p + s.length + 2))) := by
    rw [show ((p + 1 + s.length : Nat) : Int) + 1 = ((p + s.length + 2 : Nat) : Int) by omega]
    rfl
  have z0 : (0 : Int) ≤ ((p + 1 + s.length : Nat) : Int) := by omega
  simp (disch := first | with_reducible assumption | omega | with_reducible exact size_le (by omega) | decide | (simp only [List.length_cons, List.length_nil, List.length_append]; first | omega | with_reducible exact size_le (by omega)) | exact ⟨by simp only [List.length_cons, List.length_nil]; omega, by decide⟩ | fail) [-getElem?_pos, -getElem?_neg, -Int.natCast_add, le_size, rngR_ok, mul_int, mod_int, div_int, pow_int, add_str, len_str, len_refU, idx_refU, any_refU, all_refU, in_refU, in_tupU, okTo_appU, append_U, it_refU, join_refU, add_refU, isi_refU, idx_str, slc_str, str_int, int_str, meOf, List.lookup, fldOf, putN, putR_ok, List.getElem?_cons_zero, List.getElem?_cons_succ, List.getElem?_concat_length, get_app, get_app0, en_refU, mul_refU, tupF_refU, slc_refU, hg, f, hcut, hp, z0, c_need]
/-! ### marks -/
theorem mark_loop (hl : line.length ≤ 1000) (hg : h[i]? = some (sg line p)) (m : Tx) : ∀ (ms : List Tx) (z : Option D), (∀ m ∈ ms, m.length ≤ 2) → ms.find? (fun m => decide ((line.drop p).take m.length = m)) = some m →
    forL none (stName 1) (sSeq (sIf (mCmp .Eq (mSlc (mAttr (mVar 0) 2) (some (mAttr (mVar 0) 1)) (some (mBin .Add (mAttr (mVar 0) 1) (mBi .len [(mVar 1)])))) (mVar 1)) (sSeq (sFld foo (mVar 0) 1 (mBin .Add (mAttr (mVar 0) 1) (mBi .len [(mVar 1)]))) (sSeq (sRet (mTup [(mLit (.str [109, 97, 114, 107])), (mVar 1)])) sNext)) sNext) sNext)
      (ms.map .str) [some (.ref i), z] h = .rt (.tup [.str [109, 97, 114, 107], .str m]) (h.set i (sg line (p + m.length)))
  | [], z, _, hf => by cases hf
  | a :: ms, z, hb, hf => by
    rw [List.map_cons, forL_cons still_none rfl]
    have ha := hb a List.mem_cons_self
    have hcut : cutG line (some (p : Int)) (some ((p : Int) + (a.length : Int))) = (line.drop p).take a.length := by
      rw [show (p : Int) + (a.length : Int) = ((p + a.length : Nat) : Int) by omega, cut_nat, Nat.add_sub_cancel_left]
    have hp : ∀ e, putR foo (some (sg line p)) i 1 (.int ((p : Int) + (a.length : Int))) e h = .nx e (h.set i (sg line (p + a.length))) := fun e => by
      rw [show (p : Int) + (a.length : Int) = ((p + a.length : Nat) : Int) by omega]
      rfl
    rw [List.find?_cons] at hf
    by_cases q : (line.drop p).take a.length = a
    · rw [decide_eq_true q] at hf
      cases hf
      simp (disch := first | with_reducible assumption | omega | with_reducible exact size_le (by omega) | decide | (simp only [List.length_cons, List.length_nil, List.length_append]; first | omega | with_reducible exact size_le (by omega)) | exact ⟨by simp only [List.length_cons, List.length_nil]; omega, by decide⟩ | fail) [-getElem?_pos, -getElem?_neg, -Int.natCast_add, le_size, rngR_ok, mul_int, mod_int, div_int, pow_int, add_str, len_str, len_refU, idx_refU, any_refU, all_refU, in_refU, in_tupU, okTo_appU, append_U, it_refU, join_refU, add_refU, isi_refU, idx_str, slc_str, str_int, int_str, meOf, List.lookup, fldOf, putN, putR_ok, List.getElem?_cons_zero, List.getElem?_cons_succ, List.getElem?_concat_length, get_app, get_app0, en_refU, mul_refU, tupF_refU, slc_refU, hg, hcut, q, hp]
    · rw [decide_eq_false q] at hf
      have ih := mark_loop hl hg m ms (some (.str a)) (fun x hx => hb x (List.mem_cons_of_mem _ hx)) hf
      simp (disch := first | with_reducible assumption | omega | with_reducible exact size_le (by omega) | decide | (simp only [List.length_cons, List.length_nil, List.length_append]; first | omega | with_reducible exact size_le (by omega)) | exact ⟨by simp only [List.length_cons, List.length_nil]; omega, by decide⟩ | fail) [-getElem?_pos, -getElem?_neg, -Int.natCast_add, le_size, rngR_ok, mul_int, mod_int, div_int, pow_int, add_str, len_str, len_refU, idx_refU, any_refU, all_refU, in_refU, in_tupU, okTo_appU, append_U, it_refU, join_refU, add_refU, isi_refU, idx_str, slc_str, str_int, int_str, meOf, List.lookup, fldOf, putN, putR_ok, List.getElem?_cons_zero, List.getElem?_cons_succ, List.getElem?_concat_length, get_app, get_app0, en_refU, mul_refU, tupF_refU, slc_refU, hg, hcut, q, ih]
theorem c_mark {m : Tx} (hl : line.length ≤ 1000) (hg : h[i]? = some (sg line p)) (hf : MARKS.find? (fun m => decide ((line.drop p).take m.length = m)) = some m) :
    callN T (n + 2) 41 [.ref i] h = .ok (.tup [.str [109, 97, 114, 107], .str m]) (h.set i (sg line (p + m.length))) := by
  rw [call_eq (k := n + 1) (fn := q41.fn) rfl rfl]
  simp only [Def1.fn, q41, b_Signs_mark, l_Signs_mark_1, marks_eq]
  have e := mark_loop (i := i) hl hg m MARKS none (by decide) hf
  simp (disch := first | with_reducible assumption | omega | with_reducible exact size_le (by omega) | decide | (simp only [List.length_cons, List.length_nil, List.length_append]; first | omega | with_reducible exact size_le (by omega)) | exact ⟨by simp only [List.length_cons, List.length_nil]; omega, by decide⟩ | fail) [-getElem?_pos, -getElem?_neg, -Int.natCast_add, le_size, rngR_ok, mul_int, mod_int, div_int, pow_int, add_str, len_str, len_refU, idx_refU, any_refU, all_refU, in_refU, in_tupU, okTo_appU, append_U, it_refU, join_refU, add_refU, isi_refU, idx_str, slc_str, str_int, int_str, meOf, List.lookup, fldOf, putN, putR_ok, List.getElem?_cons_zero, List.getElem?_cons_succ, List.getElem?_concat_length, get_app, get_app0, en_refU, mul_refU, tupF_refU, slc_refU, e]
theorem c_note {s : Tx} (hl : line.length ≤ 1000) (hg : h[i]? = some (sg line p)) (hs : s = if (line.drop p).take 1 = [32] then line.drop (p + 1) else line.drop p) :
    callN T (n + 2) 46 [.ref i] h = .ok (.tup [.str [110, 111, 116, 101], .str s]) (h.set i (sg line line.length)) := by
  rw [call_eq (k := n + 1) (fn := q46.fn) rfl rfl]
  simp only [Def1.fn, q46, b_Signs_note]
  have hi := lt_of_get hg
  have g3 : (h.set i (sg line (p + 1)))[i]? = some (sg line (p + 1)) := get_set hi
  have hz : line.length ≤ sizeLine := size_le (by omega)
  have hcut : cutG line (some (((p : Int) + 1))) none = line.drop (p + 1) := by
    rw [show (p : Int) + 1 = ((p + 1 : Nat) : Int) by omega, cut_nat0]
  by_cases q : (line.drop p).take 1 = [32]
  · rw [if_pos q] at hs
    subst hs
    simp (disch := first | with_reducible assumption | omega | with_reducible exact size_le (by omega) | decide | (simp only [List.length_cons, List.length_nil, List.length_append]; first | omega | with_reducible exact size_le (by omega)) | exact ⟨by simp only [List.length_cons, List.length_nil]; omega, by decide⟩ | fail) [-getElem?_pos, -getElem?_neg, -Int.natCast_add, le_size, rngR_ok, mul_int, mod_int, div_int, pow_int, add_str, len_str, len_refU, idx_refU, any_refU, all_refU, in_refU, in_tupU, okTo_appU, append_U, it_refU, join_refU, add_refU, isi_refU, idx_str, slc_str, str_int, int_str, meOf, List.lookup, fldOf, putN, putR_ok, List.getElem?_cons_zero, List.getElem?_cons_succ, List.getElem?_concat_length, get_app, get_app0, en_refU, mul_refU, tupF_refU, slc_refU, hg, cut_at, q, g3, cut_nat0]
  · rw [if_neg q] at hs
    subst hs
    simp (disch := first | with_reducible assumption | omega | with_reducible exact size_le (by omega) | decide | (simp only [List.length_cons, List.length_nil, List.length_append]; first | omega | with_reducible exact size_le (by omega)) | exact ⟨by simp only [List.length_cons, List.length_nil]; omega, by decide⟩ | fail) [-getElem?_pos, -getElem?_neg, -Int.natCast_add, le_size, rngR_ok, mul_int, mod_int, div_int, pow_int, add_str, len_str, len_refU, idx_refU, any_refU, all_refU, in_refU, in_tupU, okTo_appU, append_U, it_refU, join_refU, add_refU, isi_refU, idx_str, slc_str, str_int, int_str, meOf, List.lookup, fldOf, putN, putR_ok, List.getElem?_cons_zero, List.getElem?_cons_succ, List.getElem?_concat_length, get_app, get_app0, en_refU, mul_refU, tupF_refU, slc_refU, hg, cut_at, q, cut_nat0]
end
end K20

namespace K20
open PySem L2 Mp
inductive Tok where
  | num (v : Int) | word (w : Tx) | name (w : Tx) | text (s : Tx) | mark (m : Tx) | note (s : Tx)
deriving DecidableEq
def tokD : Tok → D
  | .num v => .tup [.str [110, 117, 109, 98, 101, 114], .int v]
  | .word w => .tup [.str [119, 111, 114, 100], .str w]
  | .name w => .tup [.str [110, 97, 109, 101], .str w]
  | .text w => .tup [.str [116, 101, 120, 116], .str w]
  | .mark w => .tup [.str [109, 97, 114, 107], .str w]
  | .note w => .tup [.str [110, 111, 116, 101], .str w]
def REM : Tx := [82, 69, 77]
/-- what one token is read from, and what stands behind -/
inductive Tk : Tok → Tx → Tx → Prop
  | num {v : Int} {w r : Tx} : w ≠ [] → (∀ c ∈ w, c ∈ FIG) → w.length ≤ 9 → PySem.intText? ⟨w.toArray⟩ = some v → NH FIG r → Tk (.num v) w r
  | word {w r : Tx} : (∀ c, w.head? = some c → c ∈ CAP) → w ≠ [] → (∀ c ∈ w, c ∈ CF) → w ∈ WORDS → NH CF r → NH [36] r → Tk (.word w) w r
  | name {w r : Tx} : (∀ c, w.head? = some c → c ∈ CAP) → w ≠ [] → (∀ c ∈ w, c ∈ CF) → w ∉ WORDS → w.length ≤ 8 → NH CF r → NH [36] r → Tk (.name w) w r
  | named {w r : Tx} : (∀ c, w.head? = some c → c ∈ CAP) → w ≠ [] → (∀ c ∈ w, c ∈ CF) → w ++ [36] ∉ WORDS → w.length ≤ 7 → Tk (.name (w ++ [36])) (w ++ [36]) r
  | text {s r : Tx} : 34 ∉ s → Tk (.text s) (34 :: (s ++ [34])) r
  | mark {m r : Tx} : MARKS.find? (fun a => decide ((m ++ r).take a.length = a)) = some m → Tk (.mark m) m r
section
variable {n i p : Nat} {line : Tx} {h : DH}
theorem NH_take {r : Tx} (q : NH [36] r) : r.take 1 ≠ [36] := fun z => by
  cases r with
  | nil => cases z
  | cons c r =>
    have z : [c] = [36] := z
    cases z
    exact q 36 rfl List.mem_cons_self
theorem drop_app {w r : Tx} (e : line.drop p = w ++ r) : line.drop (p + w.length) = r := by
  rw [← List.drop_drop, e]
  simp
theorem head_at {c : Nat} {r : Tx} (e : line.drop p = c :: r) : atI line (p : Int) = some c := by
  have hp : p < line.length := by
    rcases Nat.lt_or_ge p line.length with q | q
    · exact q
    · rw [List.drop_of_length_le q] at e
      cases e
  rw [atI_nat line p hp]
  have z := congrArg (fun l => l[0]?) e
  simpa using z
theorem cap_ne {c : Nat} (h : c ∈ CAP) : c ∉ FIG ∧ c ≠ 34 := by
  rw [mem_CAP] at h
  rw [mem_FIG]
  omega
theorem mark_head {m : Tx} (hm : m ∈ MARKS) : ∃ c r, m = c :: r ∧ c ∉ FIG ∧ c ∉ CAP ∧ c ≠ 34 := by
  have key : ∀ m ∈ MARKS, m ≠ [] ∧ (m.headD 0) ∉ FIG ∧ (m.headD 0) ∉ CAP ∧ (m.headD 0) ≠ 34 := by decide
  obtain ⟨h1, h2⟩ := key m hm
  cases m with
  | nil => exact absurd rfl h1
  | cons c r => exact ⟨c, r, rfl, h2⟩
theorem c_token {t : Tok} {w r : Tx} (hl : line.length ≤ 1000) (hg : h[i]? = some (sg line p)) (e : line.drop p = w ++ r) (k : Tk t w r) :
    callN T (n + 3) 45 [.ref i] h = .ok (tokD t) (h.set i (sg line (p + w.length))) := by
  rw [call_eq (k := n + 2) (fn := q45.fn) rfl rfl]
  simp only [Def1.fn, q45, b_Signs_token, fig_eq, cap_eq]
  cases k with
  | num h1 h2 h3 h4 h5 =>
    obtain ⟨c, w', rfl⟩ := List.exists_cons_of_ne_nil h1
    have ha := head_at (c := c) (r := w' ++ r) e
    have hc := h2 c List.mem_cons_self
    have z := c_number (n := n) hl hg (w := c :: w') (by rw [e]; exact tw_app h2 h5) h3 h4
    simp (disch := first | with_reducible assumption | omega | with_reducible exact size_le (by omega) | decide | (simp only [List.length_cons, List.length_nil, List.length_append]; first | omega | with_reducible exact size_le (by omega)) | exact ⟨by simp only [List.length_cons, List.length_nil]; omega, by decide⟩ | fail) [-getElem?_pos, -getElem?_neg, -Int.natCast_add, le_size, rngR_ok, mul_int, mod_int, div_int, pow_int, add_str, len_str, len_refU, idx_refU, any_refU, all_refU, in_refU, in_tupU, okTo_appU, append_U, it_refU, join_refU, add_refU, isi_refU, idx_str, slc_str, str_int, int_str, meOf, List.lookup, fldOf, putN, putR_ok, List.getElem?_cons_zero, List.getElem?_cons_succ, List.getElem?_concat_length, get_app, get_app0, en_refU, mul_refU, tupF_refU, slc_refU, hg, ha, hc, z, tokD]
  | word h1 h2 h3 h4 h5 h6 =>
    obtain ⟨c, w', rfl⟩ := List.exists_cons_of_ne_nil h2
    have ha := head_at (c := c) (r := w' ++ r) e
    have hc := h1 c rfl
    have hf := (cap_ne hc).1
    have z := c_worded_w (n := n) hl hg (w := c :: w') (by rw [e]; exact tw_app h3 h5) (by rw [drop_app e]; exact NH_take h6) h4
    simp (disch := first | with_reducible assumption | omega | with_reducible exact size_le (by omega) | decide | (simp only [List.length_cons, List.length_nil, List.length_append]; first | omega | with_reducible exact size_le (by omega)) | exact ⟨by simp only [List.length_cons, List.length_nil]; omega, by decide⟩ | fail) [-getElem?_pos, -getElem?_neg, -Int.natCast_add, le_size, rngR_ok, mul_int, mod_int, div_int, pow_int, add_str, len_str, len_refU, idx_refU, any_refU, all_refU, in_refU, in_tupU, okTo_appU, append_U, it_refU, join_refU, add_refU, isi_refU, idx_str, slc_str, str_int, int_str, meOf, List.lookup, fldOf, putN, putR_ok, List.getElem?_cons_zero, List.getElem?_cons_succ, List.getElem?_concat_length, get_app, get_app0, en_refU, mul_refU, tupF_refU, slc_refU, hg, ha, hc, hf, z, tokD]
  | name h1 h2 h3 h4 h8 h5 h6 =>
    obtain ⟨c, w', rfl⟩ := List.exists_cons_of_ne_nil h2
    have ha := head_at (c := c) (r := w' ++ r) e
    have hc := h1 c rfl
    have hf := (cap_ne hc).1
    have z := c_worded_n (n := n) hl hg (w := c :: w') (by rw [e]; exact tw_app h3 h5) h8 (by rw [drop_app e]; exact NH_take h6) h4
    simp (disch := first | with_reducible assumption | omega | with_reducible exact size_le (by omega) | decide | (simp only [List.length_cons, List.length_nil, List.length_append]; first | omega | with_reducible exact size_le (by omega)) | exact ⟨by simp only [List.length_cons, List.length_nil]; omega, by decide⟩ | fail) [-getElem?_pos, -getElem?_neg, -Int.natCast_add, le_size, rngR_ok, mul_int, mod_int, div_int, pow_int, add_str, len_str, len_refU, idx_refU, any_refU, all_refU, in_refU, in_tupU, okTo_appU, append_U, it_refU, join_refU, add_refU, isi_refU, idx_str, slc_str, str_int, int_str, meOf, List.lookup, fldOf, putN, putR_ok, List.getElem?_cons_zero, List.getElem?_cons_succ, List.getElem?_concat_length, get_app, get_app0, en_refU, mul_refU, tupF_refU, slc_refU, hg, ha, hc, hf, z, tokD]
  | @named w _ h1 h2 h3 h4 h7 =>
    obtain ⟨c, w', rfl⟩ := List.exists_cons_of_ne_nil h2
    have e' : line.drop p = (c :: w') ++ (36 :: r) := by rw [e]; simp
    have ha := head_at (c := c) (r := w' ++ 36 :: r) e'
    have hc := h1 c rfl
    have hf := (cap_ne hc).1
    have z := c_worded_d (n := n) hl hg (w := c :: w') (by rw [e']; exact tw_app h3 (fun x hx => by cases hx; decide)) h7 (by rw [drop_app e']; rfl) h4
    simp (disch := first | with_reducible assumption | omega | with_reducible exact size_le (by omega) | decide | (simp only [List.length_cons, List.length_nil, List.length_append]; first | omega | with_reducible exact size_le (by omega)) | exact ⟨by simp only [List.length_cons, List.length_nil]; omega, by decide⟩ | fail) [-getElem?_pos, -getElem?_neg, -Int.natCast_add, le_size, rngR_ok, mul_int, mod_int, div_int, pow_int, add_str, len_str, len_refU, idx_refU, any_refU, all_refU, in_refU, in_tupU, okTo_appU, append_U, it_refU, join_refU, add_refU, isi_refU, idx_str, slc_str, str_int, int_str, meOf, List.lookup, fldOf, putN, putR_ok, List.getElem?_cons_zero, List.getElem?_cons_succ, List.getElem?_concat_length, get_app, get_app0, en_refU, mul_refU, tupF_refU, slc_refU, hg, ha, hc, hf, z, tokD]
    rfl
  | @text s _ h1 =>
    have e' : line.drop p = 34 :: (s ++ 34 :: r) := by rw [e]; simp
    have e2 : line.drop (p + 1) = s ++ 34 :: r := by
      have z := congrArg List.tail e'
      simpa using z
    have ha := head_at e'
    have z := c_quoted (n := n) hl hg e2 h1
    simp (disch := first | with_reducible assumption | omega | with_reducible exact size_le (by omega) | decide | (simp only [List.length_cons, List.length_nil, List.length_append]; first | omega | with_reducible exact size_le (by omega)) | exact ⟨by simp only [List.length_cons, List.length_nil]; omega, by decide⟩ | fail) [-getElem?_pos, -getElem?_neg, -Int.natCast_add, le_size, rngR_ok, mul_int, mod_int, div_int, pow_int, add_str, len_str, len_refU, idx_refU, any_refU, all_refU, in_refU, in_tupU, okTo_appU, append_U, it_refU, join_refU, add_refU, isi_refU, idx_str, slc_str, str_int, int_str, meOf, List.lookup, fldOf, putN, putR_ok, List.getElem?_cons_zero, List.getElem?_cons_succ, List.getElem?_concat_length, get_app, get_app0, en_refU, mul_refU, tupF_refU, slc_refU, hg, ha, z, tokD, show (34 ∈ FIG) = False from eq_false (by decide), show (34 ∈ CAP) = False from eq_false (by decide)]
    rfl
  | mark h1 =>
    have hm := List.mem_of_find?_eq_some h1
    obtain ⟨c, r', rfl, q1, q2, q3⟩ := mark_head hm
    have ha := head_at (c := c) (r := r' ++ r) e
    rw [← e] at h1
    have z := c_mark (n := n) hl hg h1
    simp (disch := first | with_reducible assumption | omega | with_reducible exact size_le (by omega) | decide | (simp only [List.length_cons, List.length_nil, List.length_append]; first | omega | with_reducible exact size_le (by omega)) | exact ⟨by simp only [List.length_cons, List.length_nil]; omega, by decide⟩ | fail) [-getElem?_pos, -getElem?_neg, -Int.natCast_add, le_size, rngR_ok, mul_int, mod_int, div_int, pow_int, add_str, len_str, len_refU, idx_refU, any_refU, all_refU, in_refU, in_tupU, okTo_appU, append_U, it_refU, join_refU, add_refU, isi_refU, idx_str, slc_str, str_int, int_str, meOf, List.lookup, fldOf, putN, putR_ok, List.getElem?_cons_zero, List.getElem?_cons_succ, List.getElem?_concat_length, get_app, get_app0, en_refU, mul_refU, tupF_refU, slc_refU, hg, ha, q1, q2, q3, z, tokD]
end
end K20

namespace K20
open PySem L2 Mp
def pay : Tok → Tx
  | .num _ => []
  | .word w => w
  | .name w => w
  | .text w => w
  | .mark w => w
  | .note w => w
def GoodT (t : Tok) : Prop := ∀ c ∈ pay t, c < 1114112
def tokPy (t : Tok) : PyData := match t with
  | .num v => .tuple [.str ⟨#[110, 117, 109, 98, 101, 114]⟩, .int v]
  | .word w => .tuple [.str ⟨#[119, 111, 114, 100]⟩, .str ⟨w.toArray⟩]
  | .name w => .tuple [.str ⟨#[110, 97, 109, 101]⟩, .str ⟨w.toArray⟩]
  | .text w => .tuple [.str ⟨#[116, 101, 120, 116]⟩, .str ⟨w.toArray⟩]
  | .mark w => .tuple [.str ⟨#[109, 97, 114, 107]⟩, .str ⟨w.toArray⟩]
  | .note w => .tuple [.str ⟨#[110, 111, 116, 101]⟩, .str ⟨w.toArray⟩]
theorem tok_py (t : Tok) : pyD (tokD t) = some (tokPy t) := by cases t <;> rfl
theorem toks_py : ∀ ts : List Tok, pyL (ts.map tokD) = some (ts.map tokPy)
  | [] => rfl
  | t :: r => by
    rw [List.map_cons, List.map_cons, pyL, tok_py, toks_py r]
theorem strOk_of {w : Tx} (h : ∀ c ∈ w, c < 1114112) : PyData.strOk ⟨w.toArray⟩ = true := by
  unfold PyData.strOk
  rw [Array.all_eq_true_iff_forall_mem]
  intro c hc
  exact decide_eq_true (h c (by simpa using hc))
theorem tok_lay {t : Tok} (g : GoodT t) : (tokPy t).canLay0 = true ∧ (tokPy t).depth = 1 := by
  have z := strOk_of g
  cases t <;> refine ⟨?_, rfl⟩ <;> simp [tokPy, PyData.canLay0, PyData.canLayAll0] <;> first | decide +kernel | exact ⟨by decide +kernel, z⟩
theorem toks_lay : ∀ {ts : List Tok}, (∀ t ∈ ts, GoodT t) → PyData.canLayAll0 (ts.map tokPy) = true ∧ PyData.depthAll (ts.map tokPy) ≤ 1
  | [], _ => ⟨rfl, by decide⟩
  | t :: r, g => by
    obtain ⟨h1, h2⟩ := tok_lay (g t List.mem_cons_self)
    obtain ⟨h3, h4⟩ := toks_lay fun x hx => g x (List.mem_cons_of_mem _ hx)
    rw [List.map_cons]
    refine ⟨?_, ?_⟩
    · show ((tokPy t).canLay0 && PyData.canLayAll0 (r.map tokPy)) = true
      rw [h1, h3]; rfl
    · show max (tokPy t).depth (PyData.depthAll (r.map tokPy)) ≤ 1
      omega
theorem toks_eq {h : DH} {a b : Nat} {ts : List Tok} (ha : h[a]? = some (.lst (ts.map tokD))) (hb : h[b]? = some (.lst (ts.map tokD))) (g : ∀ t ∈ ts, GoodT t) : dCmp .Eq (.ref a) (.ref b) h = some true := by
  show dEqD (.ref a) (.ref b) h = _
  obtain ⟨h1, h2⟩ := toks_lay g
  have s : SeqAt.shaped (.list (ts.map tokPy)) = true := by
    unfold SeqAt.shaped
    rw [Bool.and_eq_true]
    refine ⟨h1, decide_eq_true ?_⟩
    show PyData.depthAll (ts.map tokPy) + 1 ≤ 64
    omega
  simp only [dEqD, pyR, ha, hb, toks_py, Option.map_some, s, Bool.and_self, if_true]
  rw [SeqAt.eqv_refl _ (SeqAt.canLay_of_shaped s)]
theorem eq_rem {h : DH} {t : Tok} (g : GoodT t) : dCmp .Eq (tokD t) (.tup [.str [119, 111, 114, 100], .str [82, 69, 77]]) h = some (decide (t = .word REM)) := by
  have e : ∀ x y : D, (∃ a, x = .tup a) → dCmp .Eq x y h = dEqD x y h := fun x y ⟨a, q⟩ => by subst q; rfl
  have s2 : SeqAt.shaped (tokPy (.word REM)) = true := by decide +kernel
  have s1 : SeqAt.shaped (tokPy t) = true := by
    obtain ⟨h1, h2⟩ := tok_lay g
    unfold SeqAt.shaped
    rw [h1, h2]
    rfl
  have p1 : pyR h (tokD t) = some (tokPy t) := by
    have : pyR h (tokD t) = pyD (tokD t) := by cases t <;> rfl
    rw [this, tok_py]
  have p2 : pyR h (.tup [.str [119, 111, 114, 100], .str [82, 69, 77]]) = some (tokPy (.word REM)) := rfl
  rw [e _ _ (by cases t <;> exact ⟨_, rfl⟩)]
  simp only [dEqD, p1, p2, s1, s2, Bool.and_self, if_true]
  congr 1
  rw [Bool.eq_iff_iff, decide_eq_true_iff]
  constructor
  · intro z
    cases t with
    | word w =>
      have z : ((⟨#[119, 111, 114, 100]⟩ : PySem.Str) == ⟨#[119, 111, 114, 100]⟩ && ((⟨w.toArray⟩ : PySem.Str) == ⟨REM.toArray⟩ && true)) = true := z
      rw [Bool.and_true, Bool.and_eq_true] at z
      have z2 := eq_of_beq z.2
      have z2 := congrArg (fun s : PySem.Str => s.cps.toList) z2
      have z2 : w = REM := by simpa using z2
      rw [z2]
    | _ =>
      exfalso
      revert z
      simp only [tokPy, PyData.eqv, PyData.eqvAll]
      intro z
      rw [Bool.and_eq_true] at z
      exact absurd z.1 (by decide +kernel)
  · rintro rfl
    exact SeqAt.eqv_refl _ (SeqAt.canLay_of_shaped s2)
/-- what a line is read as -/
inductive Lex : Tx → List Tok → Prop
  | nil : Lex [] []
  | cons {t : Tok} {w r : Tx} {ts : List Tok} : Tk t w r → t ≠ .word REM → GoodT t → Lex (dw [32] r) ts → Lex (w ++ r) (t :: ts)
  | rem {r s : Tx} : NH CF r → NH [36] r → s = (if r.take 1 = [32] then r.drop 1 else r) → Lex (REM ++ r) [.word REM, .note s]
theorem atI_snoc {α : Type} {xs : List α} {x : α} : atI (xs ++ [x]) (-1) = some x := by
  rw [atI_last (by simp)]
  simp
theorem tk_rem {r : Tx} (h1 : NH CF r) (h2 : NH [36] r) : Tk (.word REM) REM r := .word (by intro c hc; cases hc; decide) (by decide) (by decide) (by decide) h1 h2
theorem tk_ne {t : Tok} {w r : Tx} (k : Tk t w r) : w ≠ [] := by
  cases k with
  | num h => exact h
  | word _ h => exact h
  | name _ h => exact h
  | named => simp
  | text => simp
  | mark h =>
    obtain ⟨c, r', rfl, _⟩ := mark_head (List.mem_of_find?_eq_some h)
    simp
section
variable {n i j : Nat} {line : Tx}
theorem set3 {h : DH} {a b c : O} (hij : i ≠ j) : ((h.set i a).set j b).set i c = (h.set i c).set j b := by
  rw [List.set_comm b c hij.symm, List.set_set]
theorem set4 {h : DH} {a b c d : O} (hij : i ≠ j) : (((h.set i a).set j b).set i c).set j d = (h.set i c).set j d := by
  rw [set3 hij, List.set_set]
theorem tok_loop (hl : line.length ≤ 1000) (hij : i ≠ j) {rest : Tx} {ts : List Tok} (L : Lex rest ts) : ∀ (p : Nat) (h : DH) (fs : List D), line.drop p = rest → h[i]? = some (sg line p) → h[j]? = some (.lst fs) → fs.length + ts.length ≤ 100000 →
    ∃ p', sWhl (mCmp .Lt (mAttr (mVar 1) 1) (mBi .len [(mVar 0)])) (sSeq (sDrop (mBm .append (mVar 2) [(mMeth (callN T (n + 3)) (meOf [(1, 45)]) (mVar 1) [])])) (sSeq (sIf (mCmp .Eq (mIdx (mVar 2) (mNeg (mLit (.int 1)))) (mTup [(mLit (.str [119, 111, 114, 100])), (mLit (.str [82, 69, 77]))])) (sSeq (sDrop (mBm .append (mVar 2) [(mMeth (callN T (n + 3)) (meOf [(1, 46)]) (mVar 1) [])])) sNext) sNext) (sSeq (sDrop (mMeth (callN T (n + 3)) (meOf [(1, 40)]) (mVar 1) [])) sNext)))
      [some (.str line), some (.ref i), some (.ref j)] h = .nx [some (.str line), some (.ref i), some (.ref j)] ((h.set i (sg line p')).set j (.lst (fs ++ ts.map tokD))) := by
  have hz : line.length ≤ sizeLine := size_le (by omega)
  induction L with
  | nil =>
    intro p h fs hr hg hf hn
    have hp : ¬ p < line.length := by
      have := List.drop_eq_nil_iff.mp hr
      omega
    refine ⟨p, ?_⟩
    rw [sWhl_stop (h1 := h)]
    · rw [set_same hg, List.map_nil, List.append_nil, set_same hf]
    · simp (disch := first | with_reducible assumption | omega | with_reducible exact size_le (by omega) | decide | (simp only [List.length_cons, List.length_nil, List.length_append]; first | omega | with_reducible exact size_le (by omega)) | exact ⟨by simp only [List.length_cons, List.length_nil]; omega, by decide⟩ | fail) [-getElem?_pos, -getElem?_neg, -Int.natCast_add, le_size, rngR_ok, mul_int, mod_int, div_int, pow_int, add_str, len_str, len_refU, idx_refU, any_refU, all_refU, in_refU, in_tupU, okTo_appU, append_U, it_refU, join_refU, add_refU, isi_refU, idx_str, slc_str, str_int, int_str, meOf, List.lookup, fldOf, putN, putR_ok, List.getElem?_cons_zero, List.getElem?_cons_succ, List.getElem?_concat_length, get_app, get_app0, en_refU, mul_refU, tupF_refU, slc_refU, hg, hp]
  | @cons t w r ts k hne hgd L ih =>
    intro p h fs hr hg hf hn
    have hp : p < line.length := by
      rcases Nat.lt_or_ge p line.length with q | q
      · exact q
      · rw [List.drop_of_length_le q] at hr
        exact absurd (List.append_eq_nil_iff.mp hr.symm).1 (tk_ne k)
    have hi := lt_of_get hg
    have hj := lt_of_get hf
    have z := c_token (n := n) hl hg hr k
    have g1 : (h.set i (sg line (p + w.length)))[j]? = some (.lst fs) := by rw [List.getElem?_set_ne hij]; exact hf
    have g2 : ((h.set i (sg line (p + w.length))).set j (.lst (fs ++ [tokD t])))[j]? = some (.lst (fs ++ [tokD t])) := get_set (by simpa using hj)
    have g3 : ((h.set i (sg line (p + w.length))).set j (.lst (fs ++ [tokD t])))[i]? = some (sg line (p + w.length)) := by rw [List.getElem?_set_ne (Ne.symm hij)]; exact get_set hi
    have sk := c_skip (n := n + 1) hl g3
    rw [drop_app hr] at sk
    have hr2 : line.drop (p + w.length + (tw [32] r).length) = dw [32] r := by
      rw [← List.drop_drop, drop_app hr, drop_tw]
    have hfl : fs.length < sizeLine := size_le (n := fs.length + 1) (by omega)
    have hs : (((h.set i (sg line (p + w.length))).set j (.lst (fs ++ [tokD t]))).set i (sg line (p + w.length + (tw [32] r).length))) = (h.set i (sg line (p + w.length + (tw [32] r).length))).set j (.lst (fs ++ [tokD t])) := by
      rw [set3 hij]
    rw [hs] at sk
    rw [List.length_cons] at hn
    obtain ⟨p', e⟩ := ih (p + w.length + (tw [32] r).length) ((h.set i (sg line (p + w.length + (tw [32] r).length))).set j (.lst (fs ++ [tokD t]))) (fs ++ [tokD t]) hr2 (by rw [List.getElem?_set_ne (Ne.symm hij)]; exact get_set hi) (get_set (by simpa using hj)) (by rw [List.length_append, List.length_singleton]; omega)
    refine ⟨p', ?_⟩
    rw [sWhl_go (h1 := h) (e2 := [some (.str line), some (.ref i), some (.ref j)]) (h2 := (h.set i (sg line (p + w.length + (tw [32] r).length))).set j (.lst (fs ++ [tokD t])))]
    · rw [e, set4 hij, List.map_cons, List.append_assoc, List.singleton_append]
    · simp (disch := first | with_reducible assumption | omega | with_reducible exact size_le (by omega) | decide | (simp only [List.length_cons, List.length_nil, List.length_append]; first | omega | with_reducible exact size_le (by omega)) | exact ⟨by simp only [List.length_cons, List.length_nil]; omega, by decide⟩ | fail) [-getElem?_pos, -getElem?_neg, -Int.natCast_add, le_size, rngR_ok, mul_int, mod_int, div_int, pow_int, add_str, len_str, len_refU, idx_refU, any_refU, all_refU, in_refU, in_tupU, okTo_appU, append_U, it_refU, join_refU, add_refU, isi_refU, idx_str, slc_str, str_int, int_str, meOf, List.lookup, fldOf, putN, putR_ok, List.getElem?_cons_zero, List.getElem?_cons_succ, List.getElem?_concat_length, get_app, get_app0, en_refU, mul_refU, tupF_refU, slc_refU, hg, hp]
    · simp (disch := first | with_reducible assumption | omega | with_reducible exact size_le (by omega) | decide | (simp only [List.length_cons, List.length_nil, List.length_append]; first | omega | with_reducible exact size_le (by omega)) | exact ⟨by simp only [List.length_cons, List.length_nil]; omega, by decide⟩ | fail) [-getElem?_pos, -getElem?_neg, -Int.natCast_add, le_size, rngR_ok, mul_int, mod_int, div_int, pow_int, add_str, len_str, len_refU, idx_refU, any_refU, all_refU, in_refU, in_tupU, okTo_appU, append_U, it_refU, join_refU, add_refU, isi_refU, idx_str, slc_str, str_int, int_str, meOf, List.lookup, fldOf, putN, putR_ok, List.getElem?_cons_zero, List.getElem?_cons_succ, List.getElem?_concat_length, get_app, get_app0, en_refU, mul_refU, tupF_refU, slc_refU, hg, z, hf, g1, hfl, g2, atI_snoc, eq_rem hgd, hne, g3, sk]
  | @rem r s h1 h2 h3 =>
    intro p h fs hr hg hf hn
    have hp : p < line.length := by
      rcases Nat.lt_or_ge p line.length with q | q
      · exact q
      · rw [List.drop_of_length_le q] at hr
        exact absurd (List.append_eq_nil_iff.mp hr.symm).1 (by decide)
    have hi := lt_of_get hg
    have hj := lt_of_get hf
    have hgd : GoodT (.word REM) := by
      show ∀ c ∈ REM, c < 1114112
      decide
    have z := c_token (n := n) hl hg hr (tk_rem h1 h2)
    have g1 : (h.set i (sg line (p + REM.length)))[j]? = some (.lst fs) := by rw [List.getElem?_set_ne hij]; exact hf
    have g2 : ((h.set i (sg line (p + REM.length))).set j (.lst (fs ++ [tokD (.word REM)])))[j]? = some (.lst (fs ++ [tokD (.word REM)])) := get_set (by simpa using hj)
    have g3 : ((h.set i (sg line (p + REM.length))).set j (.lst (fs ++ [tokD (.word REM)])))[i]? = some (sg line (p + REM.length)) := by rw [List.getElem?_set_ne (Ne.symm hij)]; exact get_set hi
    have hdr := drop_app hr
    have nt := c_note (n := n + 1) (s := s) hl g3 (by
      have hd2 : line.drop (p + REM.length + 1) = r.drop 1 := by rw [← hdr, List.drop_drop]
      rw [hd2, hdr]
      exact h3)
    rw [set3 hij] at nt
    have g4 : ((h.set i (sg line line.length)).set j (.lst (fs ++ [tokD (.word REM)])))[j]? = some (.lst (fs ++ [tokD (.word REM)])) := get_set (by simpa using hj)
    have g5 : ((h.set i (sg line line.length)).set j (.lst (fs ++ [tokD (.word REM)] ++ [tokD (.note s)])))[i]? = some (sg line line.length) := by rw [List.getElem?_set_ne (Ne.symm hij)]; exact get_set hi
    have sk := c_skip (n := n + 1) hl g5
    rw [List.drop_length, show tw [32] [] = [] from rfl, show line.length + ([] : Tx).length = line.length from rfl, set_same g5] at sk
    have hfl : fs.length < sizeLine := size_le (n := fs.length + 1) (by omega)
    have hfl2 : (fs ++ [tokD (.word REM)]).length < sizeLine := size_le (n := (fs ++ [tokD (.word REM)]).length + 1) (by rw [List.length_append, List.length_singleton]; omega)
    have a2 := append_ok (d := tokD (.note s)) g4 hfl2
    rw [List.set_set] at a2
    refine ⟨line.length, ?_⟩
    rw [sWhl_go (h1 := h) (e2 := [some (.str line), some (.ref i), some (.ref j)]) (h2 := (h.set i (sg line line.length)).set j (.lst (fs ++ [tokD (.word REM)] ++ [tokD (.note s)])))]
    · rw [sWhl_stop (h1 := (h.set i (sg line line.length)).set j (.lst (fs ++ [tokD (.word REM)] ++ [tokD (.note s)])))]
      · rw [List.append_assoc]; rfl
      · simp (disch := first | with_reducible assumption | omega | with_reducible exact size_le (by omega) | decide | (simp only [List.length_cons, List.length_nil, List.length_append]; first | omega | with_reducible exact size_le (by omega)) | exact ⟨by simp only [List.length_cons, List.length_nil]; omega, by decide⟩ | fail) [-getElem?_pos, -getElem?_neg, -Int.natCast_add, le_size, rngR_ok, mul_int, mod_int, div_int, pow_int, add_str, len_str, len_refU, idx_refU, any_refU, all_refU, in_refU, in_tupU, okTo_appU, append_U, it_refU, join_refU, add_refU, isi_refU, idx_str, slc_str, str_int, int_str, meOf, List.lookup, fldOf, putN, putR_ok, List.getElem?_cons_zero, List.getElem?_cons_succ, List.getElem?_concat_length, get_app, get_app0, en_refU, mul_refU, tupF_refU, slc_refU, g5]
    · simp (disch := first | with_reducible assumption | omega | with_reducible exact size_le (by omega) | decide | (simp only [List.length_cons, List.length_nil, List.length_append]; first | omega | with_reducible exact size_le (by omega)) | exact ⟨by simp only [List.length_cons, List.length_nil]; omega, by decide⟩ | fail) [-getElem?_pos, -getElem?_neg, -Int.natCast_add, le_size, rngR_ok, mul_int, mod_int, div_int, pow_int, add_str, len_str, len_refU, idx_refU, any_refU, all_refU, in_refU, in_tupU, okTo_appU, append_U, it_refU, join_refU, add_refU, isi_refU, idx_str, slc_str, str_int, int_str, meOf, List.lookup, fldOf, putN, putR_ok, List.getElem?_cons_zero, List.getElem?_cons_succ, List.getElem?_concat_length, get_app, get_app0, en_refU, mul_refU, tupF_refU, slc_refU, hg, hp]
    · have nt' : callN T (n + 3) 46 [.ref i] ((h.set i (sg line (p + REM.length))).set j (.lst (fs ++ [tokD (.word REM)]))) = .ok (tokD (.note s)) ((h.set i (sg line line.length)).set j (.lst (fs ++ [tokD (.word REM)]))) := nt
      have sk' : callN T (n + 3) 40 [.ref i] ((h.set i (sg line line.length)).set j (.lst (fs ++ [tokD (.word REM)] ++ [tokD (.note s)]))) = .ok .non ((h.set i (sg line line.length)).set j (.lst (fs ++ [tokD (.word REM)] ++ [tokD (.note s)]))) := sk
      have er := eq_rem (h := (h.set i (sg line (p + REM.length))).set j (.lst (fs ++ [tokD (.word REM)]))) hgd
      rw [decide_eq_true rfl] at er
      have hfl3 : fs.length + 1 < sizeLine := by
        rw [List.length_append, List.length_singleton] at hfl2
        exact hfl2
      generalize tokD (.word REM) = tw' at *
      generalize tokD (.note s) = tn' at *
      simp (disch := first | with_reducible assumption | omega | with_reducible exact size_le (by omega) | decide | (simp only [List.length_cons, List.length_nil, List.length_append]; first | omega | with_reducible exact size_le (by omega)) | exact ⟨by simp only [List.length_cons, List.length_nil]; omega, by decide⟩ | fail) [-getElem?_pos, -getElem?_neg, -Int.natCast_add, le_size, rngR_ok, mul_int, mod_int, div_int, pow_int, add_str, len_str, len_refU, idx_refU, any_refU, all_refU, in_refU, in_tupU, okTo_appU, append_U, it_refU, join_refU, add_refU, isi_refU, idx_str, slc_str, str_int, int_str, meOf, List.lookup, fldOf, putN, putR_ok, List.getElem?_cons_zero, List.getElem?_cons_succ, List.getElem?_concat_length, get_app, get_app0, en_refU, mul_refU, tupF_refU, slc_refU, -List.append_assoc, hg, z, hf, g1, hfl, g2, atI_snoc, er, g3, nt', g4, hfl2, hfl3, g5, sk']
/-! ### the whole -/
theorem c_init {x : Tx} {h : DH} (hl : x.length ≤ 200) (hs : ∀ c ∈ x, signB c = true) (hg : h[i]? = some (.ins 1 [])) :
    callN T (n + 2) 38 [.ref i, .str x] h = .ok .non ((h ++ [O.lst (x.map fun _ => D.bl true)]).set i (sg x 0)) := by
  rw [call_eq (k := n + 1) (fn := q38.fn) rfl rfl]
  simp only [Def1.fn, q38, b_Signs_init, t_Signs_init_1, c_MOST_SIGNS]
  have hl' : (x.length : Int) ≤ 200 := by omega
  have hi := lt_of_get hg
  have cm : compL none (stName 2) mTrue (mCall (callN T (n + 1)) 16 [mVar 2]) [some (.ref i), some (.str x), none] (x.map fun c => .str [c]) h = .ok (x.map fun _ => .bl true) h := by
    rw [compL_map (fun _ => .bl true) still_none, List.map_map]
    · rfl
    · intro d hd
      obtain ⟨c, hc, rfl⟩ := List.mem_map.mp hd
      refine ⟨_, rfl, rfl, ?_⟩
      have z := c_sign n c h
      rw [hs c hc] at z
      simp (disch := first | with_reducible assumption | omega | with_reducible exact size_le (by omega) | decide | (simp only [List.length_cons, List.length_nil, List.length_append]; first | omega | with_reducible exact size_le (by omega)) | exact ⟨by simp only [List.length_cons, List.length_nil]; omega, by decide⟩ | fail) [-getElem?_pos, -getElem?_neg, -Int.natCast_add, le_size, rngR_ok, mul_int, mod_int, div_int, pow_int, add_str, len_str, len_refU, idx_refU, any_refU, all_refU, in_refU, in_tupU, okTo_appU, append_U, it_refU, join_refU, add_refU, isi_refU, idx_str, slc_str, str_int, int_str, meOf, List.lookup, fldOf, putN, putR_ok, List.getElem?_cons_zero, List.getElem?_cons_succ, List.getElem?_concat_length, get_app, get_app0, en_refU, mul_refU, tupF_refU, slc_refU, z]
  have gb : (h ++ [O.lst (x.map fun _ => D.bl true)])[h.length]? = some (.lst (x.map fun _ => D.bl true)) := List.getElem?_concat_length
  have bs : bolsOf (x.map fun _ => D.bl true) = some (x.map fun _ => true) := by
    have := bols_map (x.map fun _ => true)
    rw [List.map_map] at this
    exact this
  
  have al : (x.map fun _ => true).all id = true := by simp
  have g1 : (h ++ [O.lst (x.map fun _ => D.bl true)])[i]? = some (.ins 1 []) := by rw [List.getElem?_append_left hi]; exact hg
  have g2 : ((h ++ [O.lst (x.map fun _ => D.bl true)]).set i (.ins 1 [(2, .str x)]))[i]? = some (.ins 1 [(2, .str x)]) := get_set (by rw [List.length_append]; omega)
  have g3 : (h.set i (.ins 1 [(2, .str x)]) ++ [O.lst (x.map fun _ => D.bl true)])[i]? = some (.ins 1 [(2, .str x)]) := by
    rw [List.getElem?_append_left (by rw [List.length_set]; exact hi)]
    exact get_set hi
  simp (disch := first | with_reducible assumption | omega | with_reducible exact size_le (by omega) | decide | (simp only [List.length_cons, List.length_nil, List.length_append]; first | omega | with_reducible exact size_le (by omega)) | exact ⟨by simp only [List.length_cons, List.length_nil]; omega, by decide⟩ | fail) [-getElem?_pos, -getElem?_neg, -Int.natCast_add, le_size, rngR_ok, mul_int, mod_int, div_int, pow_int, add_str, len_str, len_refU, idx_refU, any_refU, all_refU, in_refU, in_tupU, okTo_appU, append_U, it_refU, join_refU, add_refU, isi_refU, idx_str, slc_str, str_int, int_str, meOf, List.lookup, fldOf, putN, putR_ok, List.getElem?_cons_zero, List.getElem?_cons_succ, List.getElem?_concat_length, get_app, get_app0, en_refU, mul_refU, tupF_refU, slc_refU, hl', cm, gb, bs, al, wipeD, c_need, g1, g2, g3, sg, putN]
  rw [List.set_append_left _ _ (by rw [List.length_set]; exact hi), List.set_set]
theorem c_tokens {x : Tx} {ts : List Tok} (h : DH) (hl : x.length ≤ 200) (hs : ∀ c ∈ x, signB c = true) (L : Lex (dw [32] x) ts) (ht : ts.length ≤ 1000) :
    ∃ o1 o2, callN T (n + 5) 47 [.str x] h = .ok (.ref (h.length + 2)) (h ++ [o1, o2, .lst (ts.map tokD)]) := by
  rw [call_eqM (k := n + 3) (fn := q47.fn) rfl rfl]
  simp only [Def1.fn, q47, b_tokens_of, t_tokens_of_1, l_tokens_of_1]
  have hg : (h ++ [O.ins 1 []])[h.length]? = some (.ins 1 []) := List.getElem?_concat_length
  have z := c_init (n := n + 1) hl hs hg
  generalize eB : O.lst (x.map fun _ => D.bl true) = B at z
  have eh : ((h ++ [O.ins 1 []]) ++ [B]).set h.length (sg x 0) = h ++ [sg x 0, B] := by simp
  rw [eh] at z
  have g1 : (h ++ [sg x 0, B, O.lst []])[h.length]? = some (sg x 0) := by simp
  have sk := c_skip (n := n + 1) (by omega) g1
  rw [List.drop_zero] at sk
  have e2 : (h ++ [sg x 0, B, O.lst []]).set h.length (sg x (0 + (tw [32] x).length)) = h ++ [sg x (0 + (tw [32] x).length), B, .lst []] := by simp
  rw [e2] at sk
  obtain ⟨p', lp⟩ := tok_loop (n := n) (i := h.length) (j := h.length + 2) (line := x) (by omega) (by omega) L (0 + (tw [32] x).length) (h ++ [sg x (0 + (tw [32] x).length), B, .lst []]) [] (by rw [Nat.zero_add, drop_tw]) (by simp) (by simp) (by simp; omega)
  have e3 : ((h ++ [sg x (0 + (tw [32] x).length), B, .lst []]).set h.length (sg x p')).set (h.length + 2) (.lst ([] ++ ts.map tokD)) = h ++ [sg x p', B, .lst (ts.map tokD)] := by simp
  rw [e3] at lp
  refine ⟨sg x p', B, ?_⟩
  simp only [Nat.zero_add] at lp sk
  simp (disch := first | with_reducible assumption | omega | with_reducible exact size_le (by omega) | decide | (simp only [List.length_cons, List.length_nil, List.length_append]; first | omega | with_reducible exact size_le (by omega)) | exact ⟨by simp only [List.length_cons, List.length_nil]; omega, by decide⟩ | fail) [-getElem?_pos, -getElem?_neg, -Int.natCast_add, le_size, rngR_ok, mul_int, mod_int, div_int, pow_int, add_str, len_str, len_refU, idx_refU, any_refU, all_refU, in_refU, in_tupU, okTo_appU, append_U, it_refU, join_refU, add_refU, isi_refU, idx_str, slc_str, str_int, int_str, meOf, List.lookup, fldOf, putN, putR_ok, List.getElem?_cons_zero, List.getElem?_cons_succ, List.getElem?_concat_length, get_app, get_app0, en_refU, mul_refU, tupF_refU, slc_refU, z, g1, sk, lp]

end
end K20

namespace K20
open PySem L2 Mp
/-! ### terms -/
inductive Tm where
  | num (v : Int) | text (s : Tx) | name (x : Tx) | cell (x : Tx) (as : List Tm) | call (x : Tx) (as : List Tm) | minus (t : Tm) | not (t : Tm) | op (o : Tx) (a b : Tm)
mutual
def tmD : Tm → D
  | .num v => .tup [.str [110, 117, 109], .int v]
  | .text s => .tup [.str [116, 101, 120, 116], .str s]
  | .name x => .tup [.str [110, 97, 109, 101], .str x]
  | .cell x as => .tup [.str [99, 101, 108, 108], .str x, .tup (tmDs as)]
  | .call x as => .tup [.str [99, 97, 108, 108], .str x, .tup (tmDs as)]
  | .minus t => .tup [.str [109, 105, 110, 117, 115], tmD t]
  | .not t => .tup [.str [110, 111, 116], tmD t]
  | .op o a b => .tup [.str [111, 112], .str o, tmD a, tmD b]
def tmDs : List Tm → List D
  | [] => []
  | t :: r => tmD t :: tmDs r
end
theorem tmDs_map : ∀ l : List Tm, tmDs l = l.map tmD
  | [] => rfl
  | t :: r => by rw [tmDs, tmDs_map r, List.map_cons]
/-! ### operators -/
def CMPS : List Tx := [[61], [60, 62], [60], [62], [60, 61], [62, 61]]
def STRS : List (Tx × Int) := [([79, 82], 1), ([65, 78, 68], 2), ([43], 5), ([45], 5), ([42], 6), ([68, 73, 86], 6), ([77, 79, 68], 6)]
theorem cmps_eq : c_COMPARING = .tup (CMPS.map .str) := rfl
theorem strs_eq : k_STRENGTHS = STRS.map fun q => (q.1, .int q.2) := rfl
theorem lookup_map {α β : Type} (f : α → β) (z : Tx) : ∀ l : List (Tx × α), (l.map fun q => (q.1, f q.2)).lookup z = (l.lookup z).map f
  | [] => rfl
  | (y, v) :: r => by
    rw [List.map_cons, List.lookup_cons, List.lookup_cons]
    cases z == y with
    | true => rfl
    | false => exact lookup_map f z r
theorem strs_look (z : Tx) : k_STRENGTHS.lookup z = (STRS.lookup z).map .int := by
  rw [strs_eq]
  exact lookup_map D.int z STRS
def opStr (s : Tx) : Option Int := if s ∈ CMPS then some 4 else STRS.lookup s
theorem c_isop (n : Nat) (s : Tx) (h : DH) : callN T (n + 1) 20 [.str s] h = .ok (.bl (opStr s).isSome) h := by
  rw [call_eq (fn := q20.fn) rfl rfl]
  simp only [Def1.fn, q20, b_is_operator, cmps_eq]
  have z := strs_look s
  by_cases hc : s ∈ CMPS
  · simp (disch := first | with_reducible assumption | omega | with_reducible exact size_le (by omega) | decide | (simp only [List.length_cons, List.length_nil, List.length_append]; first | omega | with_reducible exact size_le (by omega)) | exact ⟨by simp only [List.length_cons, List.length_nil]; omega, by decide⟩ | fail) [-getElem?_pos, -getElem?_neg, -Int.natCast_add, le_size, rngR_ok, mul_int, mod_int, div_int, pow_int, add_str, len_str, len_refU, idx_refU, any_refU, all_refU, in_refU, in_tupU, okTo_appU, append_U, it_refU, join_refU, add_refU, isi_refU, idx_str, slc_str, str_int, int_str, meOf, List.lookup, fldOf, putN, putR_ok, List.getElem?_cons_zero, List.getElem?_cons_succ, List.getElem?_concat_length, get_app, get_app0, en_refU, mul_refU, tupF_refU, slc_refU, hc, strs_map, opStr]
  · simp (disch := first | with_reducible assumption | omega | with_reducible exact size_le (by omega) | decide | (simp only [List.length_cons, List.length_nil, List.length_append]; first | omega | with_reducible exact size_le (by omega)) | exact ⟨by simp only [List.length_cons, List.length_nil]; omega, by decide⟩ | fail) [-getElem?_pos, -getElem?_neg, -Int.natCast_add, le_size, rngR_ok, mul_int, mod_int, div_int, pow_int, add_str, len_str, len_refU, idx_refU, any_refU, all_refU, in_refU, in_tupU, okTo_appU, append_U, it_refU, join_refU, add_refU, isi_refU, idx_str, slc_str, str_int, int_str, meOf, List.lookup, fldOf, putN, putR_ok, List.getElem?_cons_zero, List.getElem?_cons_succ, List.getElem?_concat_length, get_app, get_app0, en_refU, mul_refU, tupF_refU, slc_refU, hc, strs_map, opStr, z]
theorem c_strength (n : Nat) (s : Tx) (k : Int) (h : DH) (q : opStr s = some k) : callN T (n + 1) 22 [.str s] h = .ok (.int k) h := by
  rw [call_eq (fn := q22.fn) rfl rfl]
  simp only [Def1.fn, q22, b_strength_of, cmps_eq, c_COMPARING_STRENGTH]
  have z := strs_look s
  unfold opStr at q
  by_cases hc : s ∈ CMPS
  · rw [if_pos hc] at q
    cases q
    simp (disch := first | with_reducible assumption | omega | with_reducible exact size_le (by omega) | decide | (simp only [List.length_cons, List.length_nil, List.length_append]; first | omega | with_reducible exact size_le (by omega)) | exact ⟨by simp only [List.length_cons, List.length_nil]; omega, by decide⟩ | fail) [-getElem?_pos, -getElem?_neg, -Int.natCast_add, le_size, rngR_ok, mul_int, mod_int, div_int, pow_int, add_str, len_str, len_refU, idx_refU, any_refU, all_refU, in_refU, in_tupU, okTo_appU, append_U, it_refU, join_refU, add_refU, isi_refU, idx_str, slc_str, str_int, int_str, meOf, List.lookup, fldOf, putN, putR_ok, List.getElem?_cons_zero, List.getElem?_cons_succ, List.getElem?_concat_length, get_app, get_app0, en_refU, mul_refU, tupF_refU, slc_refU, hc, strs_map]
  · rw [if_neg hc] at q
    rw [q] at z
    simp (disch := first | with_reducible assumption | omega | with_reducible exact size_le (by omega) | decide | (simp only [List.length_cons, List.length_nil, List.length_append]; first | omega | with_reducible exact size_le (by omega)) | exact ⟨by simp only [List.length_cons, List.length_nil]; omega, by decide⟩ | fail) [-getElem?_pos, -getElem?_neg, -Int.natCast_add, le_size, rngR_ok, mul_int, mod_int, div_int, pow_int, add_str, len_str, len_refU, idx_refU, any_refU, all_refU, in_refU, in_tupU, okTo_appU, append_U, it_refU, join_refU, add_refU, isi_refU, idx_str, slc_str, str_int, int_str, meOf, List.lookup, fldOf, putN, putR_ok, List.getElem?_cons_zero, List.getElem?_cons_succ, List.getElem?_concat_length, get_app, get_app0, en_refU, mul_refU, tupF_refU, slc_refU, hc, strs_map, z]
theorem c_needt (n : Nat) (h : DH) : callN T (n + 1) 14 [.bl true] h = .ok .non h := by
  rw [call_eq (fn := q14.fn) rfl rfl]
  simp only [Def1.fn, q14, b_need_terms]
  simp (disch := first | with_reducible assumption | omega | with_reducible exact size_le (by omega) | decide | (simp only [List.length_cons, List.length_nil, List.length_append]; first | omega | with_reducible exact size_le (by omega)) | exact ⟨by simp only [List.length_cons, List.length_nil]; omega, by decide⟩ | fail) [-getElem?_pos, -getElem?_neg, -Int.natCast_add, le_size, rngR_ok, mul_int, mod_int, div_int, pow_int, add_str, len_str, len_refU, idx_refU, any_refU, all_refU, in_refU, in_tupU, okTo_appU, append_U, it_refU, join_refU, add_refU, isi_refU, idx_str, slc_str, str_int, int_str, meOf, List.lookup, fldOf, putN, putR_ok, List.getElem?_cons_zero, List.getElem?_cons_succ, List.getElem?_concat_length, get_app, get_app0, en_refU, mul_refU, tupF_refU, slc_refU]
/-! ### tokens compared -/
theorem str_beq {a b : Tx} : ((⟨a.toArray⟩ : PySem.Str) == ⟨b.toArray⟩) = decide (a = b) := by
  by_cases q : a = b
  · subst q; simp
  · rw [decide_eq_false q]
    exact beq_eq_false_iff_ne.mpr fun z => q (str_arr z)
def KIND : Tok → Tx
  | .num _ => [110, 117, 109, 98, 101, 114]
  | .word _ => [119, 111, 114, 100]
  | .name _ => [110, 97, 109, 101]
  | .text _ => [116, 101, 120, 116]
  | .mark _ => [109, 97, 114, 107]
  | .note _ => [110, 111, 116, 101]
def SND : Tok → D
  | .num v => .int v
  | .word w => .str w
  | .name w => .str w
  | .text w => .str w
  | .mark w => .str w
  | .note w => .str w
theorem tokD_eq (t : Tok) : tokD t = .tup [.str (KIND t), SND t] := by cases t <;> rfl
def endD : D := .tup [.str [101, 110, 100], .str []]
def pkD : List Tok → D
  | [] => endD
  | t :: _ => tokD t
theorem tok_shaped {t : Tok} (g : GoodT t) : SeqAt.shaped (tokPy t) = true := by
  obtain ⟨h1, h2⟩ := tok_lay g
  unfold SeqAt.shaped
  rw [h1, h2]
  rfl
theorem eqv_pair {a b c d : Tx} : PyData.eqv (.tuple [.str ⟨a.toArray⟩, .str ⟨b.toArray⟩]) (.tuple [.str ⟨c.toArray⟩, .str ⟨d.toArray⟩]) = (decide (a = c) && decide (b = d)) := by
  show ((⟨a.toArray⟩ : PySem.Str) == ⟨c.toArray⟩ && ((⟨b.toArray⟩ : PySem.Str) == ⟨d.toArray⟩ && true)) = _
  rw [str_beq, str_beq, Bool.and_true]
theorem dEq_tup {xs ys : List D} {h : DH} : dCmp .Eq (.tup xs) (.tup ys) h = dEqD (.tup xs) (.tup ys) h := rfl
/-- a token and a pair of texts -/
theorem tok_pair {t u : Tok} {k v : Tx} {h : DH} (gt : GoodT t) (gu : GoodT u) (hu : tokD u = .tup [.str k, .str v]) : dCmp .Eq (tokD t) (.tup [.str k, .str v]) h = some (decide (t = u)) := by
  rw [← hu]
  have e : dCmp .Eq (tokD t) (tokD u) h = dEqD (tokD t) (tokD u) h := by rw [tokD_eq, tokD_eq]; rfl
  have p : ∀ t : Tok, pyR h (tokD t) = some (tokPy t) := fun t => by
    have : pyR h (tokD t) = pyD (tokD t) := by cases t <;> rfl
    rw [this, tok_py]
  rw [e]
  simp only [dEqD, p, tok_shaped gt, tok_shaped gu, Bool.and_self, if_true]
  congr 1
  by_cases q : t = u
  · subst q
    rw [decide_eq_true rfl]
    exact SeqAt.eqv_refl _ (SeqAt.canLay_of_shaped (tok_shaped gt))
  · rw [decide_eq_false q]
    cases u with
    | num w => cases hu
    | _ =>
      cases t <;> first
        | (rename_i a b; simp only [tokPy]; rw [show (#[119, 111, 114, 100] : Array Nat) = ([119, 111, 114, 100] : Tx).toArray from rfl, eqv_pair]; simp only [decide_true, Bool.true_and, decide_eq_false_iff_not]; intro z; subst z; exact q rfl)
        | (rename_i a b; simp only [tokPy]; rw [show (#[109, 97, 114, 107] : Array Nat) = ([109, 97, 114, 107] : Tx).toArray from rfl, eqv_pair]; simp only [decide_true, Bool.true_and, decide_eq_false_iff_not]; intro z; subst z; exact q rfl)
        | (rename_i a b; simp only [tokPy]; rw [show (#[110, 97, 109, 101] : Array Nat) = ([110, 97, 109, 101] : Tx).toArray from rfl, eqv_pair]; simp only [decide_true, Bool.true_and, decide_eq_false_iff_not]; intro z; subst z; exact q rfl)
        | (rename_i a b; simp only [tokPy]; rw [show (#[116, 101, 120, 116] : Array Nat) = ([116, 101, 120, 116] : Tx).toArray from rfl, eqv_pair]; simp only [decide_true, Bool.true_and, decide_eq_false_iff_not]; intro z; subst z; exact q rfl)
        | (rename_i a b; simp only [tokPy]; rw [show (#[110, 111, 116, 101] : Array Nat) = ([110, 111, 116, 101] : Tx).toArray from rfl, eqv_pair]; simp only [decide_true, Bool.true_and, decide_eq_false_iff_not]; intro z; subst z; exact q rfl)
        | (simp only [tokPy, PyData.eqv, PyData.eqvAll]; rw [Bool.and_eq_false_iff]; left; decide +kernel)
end K20

namespace K20
open PySem L2 Mp
def rdo (l p : Nat) : O := .ins 0 [(0, .ref l), (1, .int p)]
section
variable {l p q : Nat} {h : DH} {e : En} {i : Nat} {cl : CL} {as : List M} {me : Nat → Option Nat}
@[simp] theorem rd_toks : attR (some (rdo l p)) 0 h = .ok (.ref l) h := rfl
@[simp] theorem rd_place : attR (some (rdo l p)) 1 h = .ok (.int p) h := rfl
@[simp] theorem rd_meth : methR cl me i (some (rdo l p)) as e h = methC cl (me 0) i as e h := methR_ins
@[simp] theorem rd_put1 : putR foo (some (rdo l p)) i 1 (.int ((p : Int) + 1)) e h = .nx e (h.set i (rdo l (p + 1))) := rfl
end
structure St (h : DH) (i l : Nat) (ts : List Tok) (p : Nat) : Prop where
  ri : h[i]? = some (rdo l p)
  rl : h[l]? = some (.lst (ts.map tokD))
  ne : i ≠ l
  gd : ∀ t ∈ ts, GoodT t
  sz : ts.length ≤ 1000
section
variable {h : DH} {i l p q : Nat} {ts : List Tok}
theorem St.lt (s : St h i l ts p) : i < h.length := lt_of_get s.ri
theorem St.set (s : St h i l ts p) (q : Nat) : St (h.set i (rdo l q)) i l ts q := ⟨get_set s.lt, by rw [List.getElem?_set_ne s.ne]; exact s.rl, s.ne, s.gd, s.sz⟩
theorem St.app (s : St h i l ts p) (g : DH) : St (h ++ g) i l ts p := ⟨by rw [List.getElem?_append_left s.lt]; exact s.ri, by rw [List.getElem?_append_left (lt_of_get s.rl)]; exact s.rl, s.ne, s.gd, s.sz⟩
theorem set_app {x y : O} {g : DH} (hi : i < h.length) : (h.set i x ++ g).set i y = h.set i y ++ g := by
  rw [List.set_append_left _ _ (by rw [List.length_set]; exact hi), List.set_set]
theorem St.head (s : St h i l ts p) {t : Tok} {r : List Tok} (e : ts.drop p = t :: r) : p < ts.length ∧ atI (ts.map tokD) (p : Int) = some (tokD t) ∧ ts.drop (p + 1) = r ∧ GoodT t := by
  have hp : p < ts.length := by
    rcases Nat.lt_or_ge p ts.length with z | z
    · exact z
    · rw [List.drop_of_length_le z] at e; cases e
  have hg : ts[p]? = some t := by
    have z := congrArg (fun l => l[0]?) e
    simpa using z
  refine ⟨hp, ?_, ?_, s.gd t (List.mem_of_getElem? hg)⟩
  · rw [atI_nat _ p (by rw [List.length_map]; exact hp), List.getElem?_map, hg]; rfl
  · have z := congrArg List.tail e
    simpa using z
theorem c_peek (n : Nat) (s : St h i l ts p) : callN T (n + 1) 28 [.ref i] h = .ok (pkD (ts.drop p)) h := by
  rw [call_eq (fn := q28.fn) rfl rfl]
  simp only [Def1.fn, q28, b_Reader_peek]
  have h1 := s.ri
  have h2 := s.rl
  cases e : ts.drop p with
  | nil =>
    have hp : ¬ p < ts.length := by
      have := List.drop_eq_nil_iff.mp e
      omega
    simp (disch := first | with_reducible assumption | omega | with_reducible exact size_le (by omega) | decide | (simp only [List.length_cons, List.length_nil, List.length_append]; first | omega | with_reducible exact size_le (by omega)) | exact ⟨by simp only [List.length_cons, List.length_nil]; omega, by decide⟩ | fail) [-getElem?_pos, -getElem?_neg, -Int.natCast_add, le_size, rngR_ok, mul_int, mod_int, div_int, pow_int, add_str, len_str, len_refU, idx_refU, any_refU, all_refU, in_refU, in_tupU, okTo_appU, append_U, it_refU, join_refU, add_refU, isi_refU, idx_str, slc_str, str_int, int_str, meOf, List.lookup, fldOf, putN, putR_ok, List.getElem?_cons_zero, List.getElem?_cons_succ, List.getElem?_concat_length, get_app, get_app0, en_refU, mul_refU, tupF_refU, slc_refU, h1, h2, hp, pkD, endD]
  | cons t r =>
    obtain ⟨hp, ha, _, _⟩ := s.head e
    simp (disch := first | with_reducible assumption | omega | with_reducible exact size_le (by omega) | decide | (simp only [List.length_cons, List.length_nil, List.length_append]; first | omega | with_reducible exact size_le (by omega)) | exact ⟨by simp only [List.length_cons, List.length_nil]; omega, by decide⟩ | fail) [-getElem?_pos, -getElem?_neg, -Int.natCast_add, le_size, rngR_ok, mul_int, mod_int, div_int, pow_int, add_str, len_str, len_refU, idx_refU, any_refU, all_refU, in_refU, in_tupU, okTo_appU, append_U, it_refU, join_refU, add_refU, isi_refU, idx_str, slc_str, str_int, int_str, meOf, List.lookup, fldOf, putN, putR_ok, List.getElem?_cons_zero, List.getElem?_cons_succ, List.getElem?_concat_length, get_app, get_app0, en_refU, mul_refU, tupF_refU, slc_refU, h1, h2, hp, ha, pkD]
theorem c_take (n : Nat) (s : St h i l ts p) : callN T (n + 2) 30 [.ref i] h = .ok (pkD (ts.drop p)) (h.set i (rdo l (p + 1))) := by
  rw [call_eq (k := n + 1) (fn := q30.fn) rfl rfl]
  simp only [Def1.fn, q30, b_Reader_take]
  have h1 := s.ri
  have z := c_peek n s
  simp (disch := first | with_reducible assumption | omega | with_reducible exact size_le (by omega) | decide | (simp only [List.length_cons, List.length_nil, List.length_append]; first | omega | with_reducible exact size_le (by omega)) | exact ⟨by simp only [List.length_cons, List.length_nil]; omega, by decide⟩ | fail) [-getElem?_pos, -getElem?_neg, -Int.natCast_add, le_size, rngR_ok, mul_int, mod_int, div_int, pow_int, add_str, len_str, len_refU, idx_refU, any_refU, all_refU, in_refU, in_tupU, okTo_appU, append_U, it_refU, join_refU, add_refU, isi_refU, idx_str, slc_str, str_int, int_str, meOf, List.lookup, fldOf, putN, putR_ok, List.getElem?_cons_zero, List.getElem?_cons_succ, List.getElem?_concat_length, get_app, get_app0, en_refU, mul_refU, tupF_refU, slc_refU, h1, z]
theorem pk_pair {ts : List Tok} {u : Tok} {k v : Tx} {h : DH} (g : ∀ t ∈ ts, GoodT t) (gu : GoodT u) (hu : tokD u = .tup [.str k, .str v]) : dCmp .Eq (pkD ts) (.tup [.str k, .str v]) h = some (decide (ts.head? = some u)) := by
  cases ts with
  | nil =>
    rw [← hu]
    have e : dCmp .Eq (pkD []) (tokD u) h = dEqD endD (tokD u) h := by rw [tokD_eq]; rfl
    have p : pyR h (tokD u) = some (tokPy u) := by
      have : pyR h (tokD u) = pyD (tokD u) := by cases u <;> rfl
      rw [this, tok_py]
    have pe : pyR h endD = some (.tuple [.str ⟨#[101, 110, 100]⟩, .str ⟨#[]⟩]) := rfl
    have se : SeqAt.shaped (.tuple [.str ⟨#[101, 110, 100]⟩, .str ⟨#[]⟩]) = true := by decide +kernel
    rw [e]
    simp only [dEqD, p, pe, se, tok_shaped gu, Bool.and_self, if_true]
    congr 1
    cases u <;> (simp only [tokPy, PyData.eqv, PyData.eqvAll]; simp only [List.head?_nil, reduceCtorEq, decide_false]; rw [Bool.and_eq_false_iff]; left; decide +kernel)
  | cons t r =>
    have z := tok_pair (h := h) (g t List.mem_cons_self) gu hu
    rw [show pkD (t :: r) = tokD t from rfl, z]
    simp
theorem c_tif_y (n : Nat) (s : St h i l ts p) {u : Tok} {k v : Tx} {r : List Tok} (hu : tokD u = .tup [.str k, .str v]) (e : ts.drop p = u :: r) : callN T (n + 2) 29 [.ref i, .tup [.str k, .str v]] h = .ok (.bl true) (h.set i (rdo l (p + 1))) := by
  rw [call_eq (k := n + 1) (fn := q29.fn) rfl rfl]
  simp only [Def1.fn, q29, b_Reader_take_if]
  have h1 := s.ri
  have z := c_peek n s
  have z2 := pk_pair (h := h) (ts := ts.drop p) (u := u) (k := k) (v := v) (fun t ht => s.gd t (List.mem_of_mem_drop ht)) (s.head e).2.2.2 hu
  rw [e] at z z2
  simp only [List.head?_cons, decide_true] at z2
  simp (disch := first | with_reducible assumption | omega | with_reducible exact size_le (by omega) | decide | (simp only [List.length_cons, List.length_nil, List.length_append]; first | omega | with_reducible exact size_le (by omega)) | exact ⟨by simp only [List.length_cons, List.length_nil]; omega, by decide⟩ | fail) [-getElem?_pos, -getElem?_neg, -Int.natCast_add, le_size, rngR_ok, mul_int, mod_int, div_int, pow_int, add_str, len_str, len_refU, idx_refU, any_refU, all_refU, in_refU, in_tupU, okTo_appU, append_U, it_refU, join_refU, add_refU, isi_refU, idx_str, slc_str, str_int, int_str, meOf, List.lookup, fldOf, putN, putR_ok, List.getElem?_cons_zero, List.getElem?_cons_succ, List.getElem?_concat_length, get_app, get_app0, en_refU, mul_refU, tupF_refU, slc_refU, h1, z, z2]
theorem c_tif_n (n : Nat) (s : St h i l ts p) {u : Tok} {k v : Tx} (hu : tokD u = .tup [.str k, .str v]) (gu : GoodT u) (e : (ts.drop p).head? ≠ some u) : callN T (n + 2) 29 [.ref i, .tup [.str k, .str v]] h = .ok (.bl false) h := by
  rw [call_eq (k := n + 1) (fn := q29.fn) rfl rfl]
  simp only [Def1.fn, q29, b_Reader_take_if]
  have h1 := s.ri
  have z := c_peek n s
  have z2 := pk_pair (h := h) (ts := ts.drop p) (u := u) (k := k) (v := v) (fun t ht => s.gd t (List.mem_of_mem_drop ht)) gu hu
  rw [decide_eq_false e] at z2
  simp (disch := first | with_reducible assumption | omega | with_reducible exact size_le (by omega) | decide | (simp only [List.length_cons, List.length_nil, List.length_append]; first | omega | with_reducible exact size_le (by omega)) | exact ⟨by simp only [List.length_cons, List.length_nil]; omega, by decide⟩ | fail) [-getElem?_pos, -getElem?_neg, -Int.natCast_add, le_size, rngR_ok, mul_int, mod_int, div_int, pow_int, add_str, len_str, len_refU, idx_refU, any_refU, all_refU, in_refU, in_tupU, okTo_appU, append_U, it_refU, join_refU, add_refU, isi_refU, idx_str, slc_str, str_int, int_str, meOf, List.lookup, fldOf, putN, putR_ok, List.getElem?_cons_zero, List.getElem?_cons_succ, List.getElem?_concat_length, get_app, get_app0, en_refU, mul_refU, tupF_refU, slc_refU, h1, z, z2]
/-- the operator that is next -/
def opOf : List Tok → Option Tx
  | .mark s :: _ => if (opStr s).isSome then some s else none
  | .word s :: _ => if (opStr s).isSome then some s else none
  | _ => none
def opD (a : List Tok) : D := match opOf a with
  | some s => .str s
  | none => .non
theorem c_oper (n : Nat) (s : St h i l ts p) : callN T (n + 2) 34 [.ref i] h = .ok (opD (ts.drop p)) h := by
  rw [call_eq (k := n + 1) (fn := q34.fn) rfl rfl]
  simp only [Def1.fn, q34, b_Reader_operator]
  have h1 := s.ri
  have z := c_peek n s
  have st2 : ∀ (x y : D) (e : En), stTup [1, 2] (.tup [x, y]) e = some ((e.set 1 (some x)).set 2 (some y)) := fun _ _ _ => rfl
  cases e : ts.drop p with
  | nil =>
    rw [e] at z
    simp (disch := first | with_reducible assumption | omega | with_reducible exact size_le (by omega) | decide | (simp only [List.length_cons, List.length_nil, List.length_append]; first | omega | with_reducible exact size_le (by omega)) | exact ⟨by simp only [List.length_cons, List.length_nil]; omega, by decide⟩ | fail) [-getElem?_pos, -getElem?_neg, -Int.natCast_add, le_size, rngR_ok, mul_int, mod_int, div_int, pow_int, add_str, len_str, len_refU, idx_refU, any_refU, all_refU, in_refU, in_tupU, okTo_appU, append_U, it_refU, join_refU, add_refU, isi_refU, idx_str, slc_str, str_int, int_str, meOf, List.lookup, fldOf, putN, putR_ok, List.getElem?_cons_zero, List.getElem?_cons_succ, List.getElem?_concat_length, get_app, get_app0, en_refU, mul_refU, tupF_refU, slc_refU, h1, z, pkD, endD, st2, strsOf, opD, opOf]
  | cons t r =>
    rw [e] at z
    cases t with
    | mark m =>
      have y := c_isop n m h
      cases hm : (opStr m).isSome with
      | true => simp (disch := first | with_reducible assumption | omega | with_reducible exact size_le (by omega) | decide | (simp only [List.length_cons, List.length_nil, List.length_append]; first | omega | with_reducible exact size_le (by omega)) | exact ⟨by simp only [List.length_cons, List.length_nil]; omega, by decide⟩ | fail) [-getElem?_pos, -getElem?_neg, -Int.natCast_add, le_size, rngR_ok, mul_int, mod_int, div_int, pow_int, add_str, len_str, len_refU, idx_refU, any_refU, all_refU, in_refU, in_tupU, okTo_appU, append_U, it_refU, join_refU, add_refU, isi_refU, idx_str, slc_str, str_int, int_str, meOf, List.lookup, fldOf, putN, putR_ok, List.getElem?_cons_zero, List.getElem?_cons_succ, List.getElem?_concat_length, get_app, get_app0, en_refU, mul_refU, tupF_refU, slc_refU, h1, z, pkD, tokD, st2, strsOf, opD, opOf, y, hm]
      | false => simp (disch := first | with_reducible assumption | omega | with_reducible exact size_le (by omega) | decide | (simp only [List.length_cons, List.length_nil, List.length_append]; first | omega | with_reducible exact size_le (by omega)) | exact ⟨by simp only [List.length_cons, List.length_nil]; omega, by decide⟩ | fail) [-getElem?_pos, -getElem?_neg, -Int.natCast_add, le_size, rngR_ok, mul_int, mod_int, div_int, pow_int, add_str, len_str, len_refU, idx_refU, any_refU, all_refU, in_refU, in_tupU, okTo_appU, append_U, it_refU, join_refU, add_refU, isi_refU, idx_str, slc_str, str_int, int_str, meOf, List.lookup, fldOf, putN, putR_ok, List.getElem?_cons_zero, List.getElem?_cons_succ, List.getElem?_concat_length, get_app, get_app0, en_refU, mul_refU, tupF_refU, slc_refU, h1, z, pkD, tokD, st2, strsOf, opD, opOf, y, hm]
    | word m =>
      have y := c_isop n m h
      cases hm : (opStr m).isSome with
      | true => simp (disch := first | with_reducible assumption | omega | with_reducible exact size_le (by omega) | decide | (simp only [List.length_cons, List.length_nil, List.length_append]; first | omega | with_reducible exact size_le (by omega)) | exact ⟨by simp only [List.length_cons, List.length_nil]; omega, by decide⟩ | fail) [-getElem?_pos, -getElem?_neg, -Int.natCast_add, le_size, rngR_ok, mul_int, mod_int, div_int, pow_int, add_str, len_str, len_refU, idx_refU, any_refU, all_refU, in_refU, in_tupU, okTo_appU, append_U, it_refU, join_refU, add_refU, isi_refU, idx_str, slc_str, str_int, int_str, meOf, List.lookup, fldOf, putN, putR_ok, List.getElem?_cons_zero, List.getElem?_cons_succ, List.getElem?_concat_length, get_app, get_app0, en_refU, mul_refU, tupF_refU, slc_refU, h1, z, pkD, tokD, st2, strsOf, opD, opOf, y, hm]
      | false => simp (disch := first | with_reducible assumption | omega | with_reducible exact size_le (by omega) | decide | (simp only [List.length_cons, List.length_nil, List.length_append]; first | omega | with_reducible exact size_le (by omega)) | exact ⟨by simp only [List.length_cons, List.length_nil]; omega, by decide⟩ | fail) [-getElem?_pos, -getElem?_neg, -Int.natCast_add, le_size, rngR_ok, mul_int, mod_int, div_int, pow_int, add_str, len_str, len_refU, idx_refU, any_refU, all_refU, in_refU, in_tupU, okTo_appU, append_U, it_refU, join_refU, add_refU, isi_refU, idx_str, slc_str, str_int, int_str, meOf, List.lookup, fldOf, putN, putR_ok, List.getElem?_cons_zero, List.getElem?_cons_succ, List.getElem?_concat_length, get_app, get_app0, en_refU, mul_refU, tupF_refU, slc_refU, h1, z, pkD, tokD, st2, strsOf, opD, opOf, y, hm]
    | _ => simp (disch := first | with_reducible assumption | omega | with_reducible exact size_le (by omega) | decide | (simp only [List.length_cons, List.length_nil, List.length_append]; first | omega | with_reducible exact size_le (by omega)) | exact ⟨by simp only [List.length_cons, List.length_nil]; omega, by decide⟩ | fail) [-getElem?_pos, -getElem?_neg, -Int.natCast_add, le_size, rngR_ok, mul_int, mod_int, div_int, pow_int, add_str, len_str, len_refU, idx_refU, any_refU, all_refU, in_refU, in_tupU, okTo_appU, append_U, it_refU, join_refU, add_refU, isi_refU, idx_str, slc_str, str_int, int_str, meOf, List.lookup, fldOf, putN, putR_ok, List.getElem?_cons_zero, List.getElem?_cons_succ, List.getElem?_concat_length, get_app, get_app0, en_refU, mul_refU, tupF_refU, slc_refU, h1, z, pkD, tokD, st2, strsOf, opD, opOf]
end
end K20

namespace K20
open PySem L2 Mp
def NOTW : Tx := [78, 79, 84]
inductive Kd where
  | term (l : Int) | first (l : Int) | loop (l : Int) (t : Tm) | pl | mo (acc : List Tm)
/-- what is read from which tokens; n: how deep it goes, m: how many calls -/
inductive Rk : Kd → List Tok → List Tok → List Tm → Nat → Nat → Prop
  | term {l : Int} {a b c : List Tok} {t0 t : Tm} {n m : Nat} : Rk (.first l) a b [t0] n m → Rk (.loop l t0) b c [t] n m → Rk (.term l) a c [t] n m
  | fnot {l : Int} {a b : List Tok} {t : Tm} {n m : Nat} : l ≤ 3 → Rk (.term 3) a b [t] n m → Rk (.first l) (.word NOTW :: a) b [.not t] (n + 1) (m + 2)
  | fmin {l : Int} {a b : List Tok} {t : Tm} {n m : Nat} : Rk (.term 7) a b [t] n m → Rk (.first l) (.mark [45] :: a) b [.minus t] (n + 1) (m + 2)
  | fpar {l : Int} {a b : List Tok} {t : Tm} {n m : Nat} : Rk (.term 1) a (.mark [41] :: b) [t] n m → Rk (.first l) (.mark [40] :: a) b [t] n (m + 2)
  | fnum {l v : Int} {b : List Tok} {n m : Nat} : Rk (.first l) (.num v :: b) b [.num v] n m
  | ftext {l : Int} {s : Tx} {b : List Tok} {n m : Nat} : s.length ≤ 60 → Rk (.first l) (.text s :: b) b [.text s] n m
  | fname {l : Int} {x : Tx} {b : List Tok} {n m : Nat} : k_KINDS.lookup x = none → b.head? ≠ some (.mark [40]) → Rk (.first l) (.name x :: b) b [.name x] n m
  | fcell {l : Int} {x : Tx} {a b : List Tok} {as : List Tm} {n m : Nat} : k_KINDS.lookup x = none → Rk .pl a b as n m → (as.length = 1 ∨ as.length = 2) → Rk (.first l) (.name x :: .mark [40] :: a) b [.cell x as] n (m + 4)
  | fcall {l : Int} {x ks : Tx} {a b : List Tok} {as : List Tm} {n m : Nat} : k_KINDS.lookup x = some (.str ks) → Rk .pl a b as n m → as.length = ks.length → Rk (.first l) (.name x :: .mark [40] :: a) b [.call x as] n (m + 4)
  | pl {a b c : List Tok} {t : Tm} {as : List Tm} {n m : Nat} : Rk (.term 1) a b [t] n m → Rk (.mo [t]) b c as (n + 1) m → Rk .pl a c as (n + 1) m
  | moc {a b c : List Tok} {t : Tm} {acc as : List Tm} {n m : Nat} : acc.length ≤ 1000 → Rk (.term 1) a b [t] n m → Rk (.mo (acc ++ [t])) b c as (n + 1) m → Rk (.mo acc) (.mark [44] :: a) c as (n + 1) m
  | moe {c : List Tok} {acc : List Tm} {n m : Nat} : Rk (.mo acc) (.mark [41] :: c) c acc n m
  | stop {l : Int} {t : Tm} {b : List Tok} {n m : Nat} : (∀ s k, opOf b = some s → opStr s = some k → k < l) → Rk (.loop l t) b b [t] n m
  | lop {l k : Int} {s : Tx} {u : Tok} {t0 t' t : Tm} {a b c : List Tok} {n m : Nat} : opOf [u] = some s → opStr s = some k → l ≤ k → Rk (.term (k + 1)) a b [t'] n m → Rk (.loop l (.op s t0 t')) b c [t] (n + 1) (m + 1) → Rk (.loop l t0) (u :: a) c [t] (n + 1) (m + 1)
theorem Rk.mono {k : Kd} {a b : List Tok} {o : List Tm} {n m : Nat} (r : Rk k a b o n m) : ∀ {n' m' : Nat}, n ≤ n' → m ≤ m' → Rk k a b o n' m' := by
  induction r with
  | term _ _ i1 i2 => exact fun h1 h2 => .term (i1 h1 h2) (i2 h1 h2)
  | fnot h _ i1 =>
    intro n' m' h1 h2
    obtain ⟨n', rfl⟩ : ∃ x, n' = x + 1 := ⟨n' - 1, by omega⟩
    obtain ⟨m', rfl⟩ : ∃ x, m' = x + 2 := ⟨m' - 2, by omega⟩
    exact .fnot h (i1 (by omega) (by omega))
  | fmin _ i1 =>
    intro n' m' h1 h2
    obtain ⟨n', rfl⟩ : ∃ x, n' = x + 1 := ⟨n' - 1, by omega⟩
    obtain ⟨m', rfl⟩ : ∃ x, m' = x + 2 := ⟨m' - 2, by omega⟩
    exact .fmin (i1 (by omega) (by omega))
  | fpar _ i1 =>
    intro n' m' h1 h2
    obtain ⟨m', rfl⟩ : ∃ x, m' = x + 2 := ⟨m' - 2, by omega⟩
    exact .fpar (i1 (by omega) (by omega))
  | fnum => exact fun _ _ => .fnum
  | ftext h => exact fun _ _ => .ftext h
  | fname h h2 => exact fun _ _ => .fname h h2
  | fcell h _ h2 i1 =>
    intro n' m' h3 h4
    obtain ⟨m', rfl⟩ : ∃ x, m' = x + 4 := ⟨m' - 4, by omega⟩
    exact .fcell h (i1 (by omega) (by omega)) h2
  | fcall h _ h2 i1 =>
    intro n' m' h3 h4
    obtain ⟨m', rfl⟩ : ∃ x, m' = x + 4 := ⟨m' - 4, by omega⟩
    exact .fcall h (i1 (by omega) (by omega)) h2
  | pl _ _ i1 i2 =>
    intro n' m' h1 h2
    obtain ⟨n', rfl⟩ : ∃ x, n' = x + 1 := ⟨n' - 1, by omega⟩
    exact .pl (i1 (by omega) h2) (i2 h1 h2)
  | moc h _ _ i1 i2 =>
    intro n' m' h1 h2
    obtain ⟨n', rfl⟩ : ∃ x, n' = x + 1 := ⟨n' - 1, by omega⟩
    exact .moc h (i1 (by omega) h2) (i2 h1 h2)
  | moe => exact fun _ _ => .moe
  | stop h => exact fun _ _ => .stop h
  | lop h1 h2 h3 _ _ i1 i2 =>
    intro n' m' h4 h5
    obtain ⟨n', rfl⟩ : ∃ x, n' = x + 1 := ⟨n' - 1, by omega⟩
    obtain ⟨m', rfl⟩ : ∃ x, m' = x + 1 := ⟨m' - 1, by omega⟩
    exact .lop h1 h2 h3 (i1 (by omega) (by omega)) (i2 h4 h5)
theorem fin_ret {r : Res} {e : En} {t : Ms} : finO (seqO (r.bindO e fun x h1 => .rt x h1) t) = r := by
  cases r <;> rfl
theorem good_mark {c : Nat} (h : c < 1114112) : GoodT (.mark [c]) := fun x hx => by
  have hx : x ∈ ([c] : Tx) := hx
  rw [List.mem_singleton] at hx
  rw [hx]
  exact h
theorem good_not : GoodT (.word NOTW) := by
  show ∀ c ∈ NOTW, c < 1114112
  decide
section
variable {h : DH} {i lr p : Nat} {ts : List Tok} {l deep : Int}
theorem c_not (n : Nat) (s : St h i lr ts p) (h1 : (ts.drop p).head? ≠ some (.word NOTW)) : callN T (n + 2) 29 [.ref i, .tup [.str [119, 111, 114, 100], .str [78, 79, 84]]] h = .ok (.bl false) h := c_tif_n n s (u := .word NOTW) rfl good_not h1
theorem c_no (n : Nat) (s : St h i lr ts p) {c : Nat} (hc : c < 1114112) (h1 : (ts.drop p).head? ≠ some (.mark [c])) : callN T (n + 2) 29 [.ref i, .tup [.str [109, 97, 114, 107], .str [c]]] h = .ok (.bl false) h := c_tif_n n s (u := .mark [c]) rfl (good_mark hc) h1
theorem c_first_plain (n : Nat) (s : St h i lr ts p) (h1 : (ts.drop p).head? ≠ some (.word NOTW)) (h2 : (ts.drop p).head? ≠ some (.mark [45])) (h3 : (ts.drop p).head? ≠ some (.mark [40])) :
    callN T (n + 3) 33 [.ref i, .int l, .int deep] h = callN T (n + 2) 32 [.ref i, .int deep] h := by
  rw [call_eq (k := n + 2) (fn := q33.fn) rfl rfl]
  simp only [Def1.fn, q33, b_Reader_first, c_NOT_STRENGTH]
  have hr := s.ri
  have y1 := c_not n s h1
  have y2 := c_no n s (by decide) h2
  have y3 := c_no n s (by decide) h3
  by_cases hl : l ≤ 3
  · simp (disch := first | with_reducible assumption | omega | with_reducible exact size_le (by omega) | decide | (simp only [List.length_cons, List.length_nil, List.length_append]; first | omega | with_reducible exact size_le (by omega)) | exact ⟨by simp only [List.length_cons, List.length_nil]; omega, by decide⟩ | fail) [-getElem?_pos, -getElem?_neg, -Int.natCast_add, le_size, rngR_ok, mul_int, mod_int, div_int, pow_int, add_str, len_str, len_refU, idx_refU, any_refU, all_refU, in_refU, in_tupU, okTo_appU, append_U, it_refU, join_refU, add_refU, isi_refU, idx_str, slc_str, str_int, int_str, meOf, List.lookup, fldOf, putN, putR_ok, List.getElem?_cons_zero, List.getElem?_cons_succ, List.getElem?_concat_length, get_app, get_app0, en_refU, mul_refU, tupF_refU, slc_refU, hr, y1, y2, y3, hl, fin_ret]
  · simp (disch := first | with_reducible assumption | omega | with_reducible exact size_le (by omega) | decide | (simp only [List.length_cons, List.length_nil, List.length_append]; first | omega | with_reducible exact size_le (by omega)) | exact ⟨by simp only [List.length_cons, List.length_nil]; omega, by decide⟩ | fail) [-getElem?_pos, -getElem?_neg, -Int.natCast_add, le_size, rngR_ok, mul_int, mod_int, div_int, pow_int, add_str, len_str, len_refU, idx_refU, any_refU, all_refU, in_refU, in_tupU, okTo_appU, append_U, it_refU, join_refU, add_refU, isi_refU, idx_str, slc_str, str_int, int_str, meOf, List.lookup, fldOf, putN, putR_ok, List.getElem?_cons_zero, List.getElem?_cons_succ, List.getElem?_concat_length, get_app, get_app0, en_refU, mul_refU, tupF_refU, slc_refU, hr, y1, y2, y3, hl, fin_ret]
theorem c_first_not (n : Nat) (s : St h i lr ts p) {a : List Tok} (e : ts.drop p = .word NOTW :: a) (hl : l ≤ 3) {d : D} {h2 : DH} (z : callN T (n + 2) 35 [.ref i, .int 3, .int (deep + 1)] (h.set i (rdo lr (p + 1))) = .ok d h2) :
    callN T (n + 3) 33 [.ref i, .int l, .int deep] h = .ok (.tup [.str [110, 111, 116], d]) h2 := by
  rw [call_eq (k := n + 2) (fn := q33.fn) rfl rfl]
  simp only [Def1.fn, q33, b_Reader_first, c_NOT_STRENGTH]
  have hr := s.ri
  have hr2 := (s.set (p + 1)).ri
  have y1 : callN T (n + 2) 29 [.ref i, .tup [.str [119, 111, 114, 100], .str [78, 79, 84]]] h = .ok (.bl true) (h.set i (rdo lr (p + 1))) := c_tif_y n s (u := .word NOTW) rfl e
  generalize h.set i (rdo lr (p + 1)) = H at *
  simp (disch := first | with_reducible assumption | omega | with_reducible exact size_le (by omega) | decide | (simp only [List.length_cons, List.length_nil, List.length_append]; first | omega | with_reducible exact size_le (by omega)) | exact ⟨by simp only [List.length_cons, List.length_nil]; omega, by decide⟩ | fail) [-getElem?_pos, -getElem?_neg, -Int.natCast_add, le_size, rngR_ok, mul_int, mod_int, div_int, pow_int, add_str, len_str, len_refU, idx_refU, any_refU, all_refU, in_refU, in_tupU, okTo_appU, append_U, it_refU, join_refU, add_refU, isi_refU, idx_str, slc_str, str_int, int_str, meOf, List.lookup, fldOf, putN, putR_ok, List.getElem?_cons_zero, List.getElem?_cons_succ, List.getElem?_concat_length, get_app, get_app0, en_refU, mul_refU, tupF_refU, slc_refU, hr, y1, hl, hr2, z]
theorem c_first_min (n : Nat) (s : St h i lr ts p) {a : List Tok} (e : ts.drop p = .mark [45] :: a) {d : D} {h2 : DH} (z : callN T (n + 2) 35 [.ref i, .int 7, .int (deep + 1)] (h.set i (rdo lr (p + 1))) = .ok d h2) :
    callN T (n + 3) 33 [.ref i, .int l, .int deep] h = .ok (.tup [.str [109, 105, 110, 117, 115], d]) h2 := by
  rw [call_eq (k := n + 2) (fn := q33.fn) rfl rfl]
  simp only [Def1.fn, q33, b_Reader_first, c_NOT_STRENGTH, c_MINUS_STRENGTH]
  have hr := s.ri
  have hr2 := (s.set (p + 1)).ri
  have y1 := c_not n s (by rw [e]; simp)
  have y2 : callN T (n + 2) 29 [.ref i, .tup [.str [109, 97, 114, 107], .str [45]]] h = .ok (.bl true) (h.set i (rdo lr (p + 1))) := c_tif_y n s (u := .mark [45]) rfl e
  generalize h.set i (rdo lr (p + 1)) = H at *
  by_cases hl : l ≤ 3
  · simp (disch := first | with_reducible assumption | omega | with_reducible exact size_le (by omega) | decide | (simp only [List.length_cons, List.length_nil, List.length_append]; first | omega | with_reducible exact size_le (by omega)) | exact ⟨by simp only [List.length_cons, List.length_nil]; omega, by decide⟩ | fail) [-getElem?_pos, -getElem?_neg, -Int.natCast_add, le_size, rngR_ok, mul_int, mod_int, div_int, pow_int, add_str, len_str, len_refU, idx_refU, any_refU, all_refU, in_refU, in_tupU, okTo_appU, append_U, it_refU, join_refU, add_refU, isi_refU, idx_str, slc_str, str_int, int_str, meOf, List.lookup, fldOf, putN, putR_ok, List.getElem?_cons_zero, List.getElem?_cons_succ, List.getElem?_concat_length, get_app, get_app0, en_refU, mul_refU, tupF_refU, slc_refU, hr, y1, y2, hl, hr2, z]
  · simp (disch := first | with_reducible assumption | omega | with_reducible exact size_le (by omega) | decide | (simp only [List.length_cons, List.length_nil, List.length_append]; first | omega | with_reducible exact size_le (by omega)) | exact ⟨by simp only [List.length_cons, List.length_nil]; omega, by decide⟩ | fail) [-getElem?_pos, -getElem?_neg, -Int.natCast_add, le_size, rngR_ok, mul_int, mod_int, div_int, pow_int, add_str, len_str, len_refU, idx_refU, any_refU, all_refU, in_refU, in_tupU, okTo_appU, append_U, it_refU, join_refU, add_refU, isi_refU, idx_str, slc_str, str_int, int_str, meOf, List.lookup, fldOf, putN, putR_ok, List.getElem?_cons_zero, List.getElem?_cons_succ, List.getElem?_concat_length, get_app, get_app0, en_refU, mul_refU, tupF_refU, slc_refU, hr, y1, y2, hl, hr2, z]
theorem c_first_par (n : Nat) (s : St h i lr ts p) {a : List Tok} (e : ts.drop p = .mark [40] :: a) {d : D} {g : DH} {p' : Nat} {b : List Tok} (z : callN T (n + 3) 35 [.ref i, .int 1, .int deep] (h.set i (rdo lr (p + 1))) = .ok d (h.set i (rdo lr p') ++ g)) (e' : ts.drop p' = .mark [41] :: b) :
    callN T (n + 4) 33 [.ref i, .int l, .int deep] h = .ok d (h.set i (rdo lr (p' + 1)) ++ g) := by
  rw [call_eq (k := n + 3) (fn := q33.fn) rfl rfl]
  simp only [Def1.fn, q33, b_Reader_first, c_NOT_STRENGTH, c_MINUS_STRENGTH]
  have hr := s.ri
  have hr2 := (s.set (p + 1)).ri
  have s3 := (s.set p').app g
  have hr3 := s3.ri
  have y1 := c_not (n + 1) s (by rw [e]; simp)
  have y2 := c_no (n + 1) s (c := 45) (by decide) (by rw [e]; simp)
  have y3 : callN T (n + 3) 29 [.ref i, .tup [.str [109, 97, 114, 107], .str [40]]] h = .ok (.bl true) (h.set i (rdo lr (p + 1))) := c_tif_y (n + 1) s (u := .mark [40]) rfl e
  have y4 : callN T (n + 3) 29 [.ref i, .tup [.str [109, 97, 114, 107], .str [41]]] (h.set i (rdo lr p') ++ g) = .ok (.bl true) ((h.set i (rdo lr p') ++ g).set i (rdo lr (p' + 1))) := c_tif_y (n + 1) s3 (u := .mark [41]) rfl e'
  rw [set_app s.lt] at y4
  have y5 := c_needt (n + 2) (h.set i (rdo lr (p' + 1)) ++ g)
  have y1' : callN T (n + 3) 29 [.ref i, .tup [.str [119, 111, 114, 100], .str [78, 79, 84]]] h = .ok (.bl false) h := y1
  have y2' : callN T (n + 3) 29 [.ref i, .tup [.str [109, 97, 114, 107], .str [45]]] h = .ok (.bl false) h := y2
  have y5' : callN T (n + 3) 14 [.bl true] (h.set i (rdo lr (p' + 1)) ++ g) = .ok .non (h.set i (rdo lr (p' + 1)) ++ g) := y5
  generalize h.set i (rdo lr (p + 1)) = H at *
  generalize h.set i (rdo lr p') ++ g = H2 at *
  generalize h.set i (rdo lr (p' + 1)) ++ g = H3 at *
  by_cases hl : l ≤ 3
  · simp (disch := first | with_reducible assumption | omega | with_reducible exact size_le (by omega) | decide | (simp only [List.length_cons, List.length_nil, List.length_append]; first | omega | with_reducible exact size_le (by omega)) | exact ⟨by simp only [List.length_cons, List.length_nil]; omega, by decide⟩ | fail) [-getElem?_pos, -getElem?_neg, -Int.natCast_add, le_size, rngR_ok, mul_int, mod_int, div_int, pow_int, add_str, len_str, len_refU, idx_refU, any_refU, all_refU, in_refU, in_tupU, okTo_appU, append_U, it_refU, join_refU, add_refU, isi_refU, idx_str, slc_str, str_int, int_str, meOf, List.lookup, fldOf, putN, putR_ok, List.getElem?_cons_zero, List.getElem?_cons_succ, List.getElem?_concat_length, get_app, get_app0, en_refU, mul_refU, tupF_refU, slc_refU, hr, y1', y2', y3, hl, hr2, z, hr3, y4, y5']
  · simp (disch := first | with_reducible assumption | omega | with_reducible exact size_le (by omega) | decide | (simp only [List.length_cons, List.length_nil, List.length_append]; first | omega | with_reducible exact size_le (by omega)) | exact ⟨by simp only [List.length_cons, List.length_nil]; omega, by decide⟩ | fail) [-getElem?_pos, -getElem?_neg, -Int.natCast_add, le_size, rngR_ok, mul_int, mod_int, div_int, pow_int, add_str, len_str, len_refU, idx_refU, any_refU, all_refU, in_refU, in_tupU, okTo_appU, append_U, it_refU, join_refU, add_refU, isi_refU, idx_str, slc_str, str_int, int_str, meOf, List.lookup, fldOf, putN, putR_ok, List.getElem?_cons_zero, List.getElem?_cons_succ, List.getElem?_concat_length, get_app, get_app0, en_refU, mul_refU, tupF_refU, slc_refU, hr, y1', y2', y3, hl, hr2, z, hr3, y4, y5']
end
end K20

namespace K20
open PySem L2 Mp
section
variable {h : DH} {i lr p : Nat} {ts : List Tok} {l deep : Int}
theorem st23 (x y : D) (e : En) : stTup [2, 3] (.tup [x, y]) e = some ((e.set 2 (some x)).set 3 (some y)) := rfl
theorem c_plain_num (n : Nat) (s : St h i lr ts p) {v : Int} {b : List Tok} (e : ts.drop p = .num v :: b) : callN T (n + 3) 32 [.ref i, .int deep] h = .ok (tmD (.num v)) (h.set i (rdo lr (p + 1))) := by
  rw [call_eq (k := n + 2) (fn := q32.fn) rfl rfl]
  simp only [Def1.fn, q32, b_Reader_plain]
  have hr := s.ri
  have z := c_take n s
  rw [e] at z
  simp (disch := first | with_reducible assumption | omega | with_reducible exact size_le (by omega) | decide | (simp only [List.length_cons, List.length_nil, List.length_append]; first | omega | with_reducible exact size_le (by omega)) | exact ⟨by simp only [List.length_cons, List.length_nil]; omega, by decide⟩ | fail) [-getElem?_pos, -getElem?_neg, -Int.natCast_add, le_size, rngR_ok, mul_int, mod_int, div_int, pow_int, add_str, len_str, len_refU, idx_refU, any_refU, all_refU, in_refU, in_tupU, okTo_appU, append_U, it_refU, join_refU, add_refU, isi_refU, idx_str, slc_str, str_int, int_str, meOf, List.lookup, fldOf, putN, putR_ok, List.getElem?_cons_zero, List.getElem?_cons_succ, List.getElem?_concat_length, get_app, get_app0, en_refU, mul_refU, tupF_refU, slc_refU, hr, z, pkD, tokD, st23, tmD]
theorem c_plain_text (n : Nat) (s : St h i lr ts p) {x : Tx} {b : List Tok} (e : ts.drop p = .text x :: b) (hx : x.length ≤ 60) : callN T (n + 3) 32 [.ref i, .int deep] h = .ok (tmD (.text x)) (h.set i (rdo lr (p + 1))) := by
  rw [call_eq (k := n + 2) (fn := q32.fn) rfl rfl]
  simp only [Def1.fn, q32, b_Reader_plain, c_MOST_TEXT]
  have hr := s.ri
  have z := c_take n s
  rw [e] at z
  have hx' : (x.length : Int) ≤ 60 := by omega
  have y := c_needt (n + 1) (h.set i (rdo lr (p + 1)))
  simp (disch := first | with_reducible assumption | omega | with_reducible exact size_le (by omega) | decide | (simp only [List.length_cons, List.length_nil, List.length_append]; first | omega | with_reducible exact size_le (by omega)) | exact ⟨by simp only [List.length_cons, List.length_nil]; omega, by decide⟩ | fail) [-getElem?_pos, -getElem?_neg, -Int.natCast_add, le_size, rngR_ok, mul_int, mod_int, div_int, pow_int, add_str, len_str, len_refU, idx_refU, any_refU, all_refU, in_refU, in_tupU, okTo_appU, append_U, it_refU, join_refU, add_refU, isi_refU, idx_str, slc_str, str_int, int_str, meOf, List.lookup, fldOf, putN, putR_ok, List.getElem?_cons_zero, List.getElem?_cons_succ, List.getElem?_concat_length, get_app, get_app0, en_refU, mul_refU, tupF_refU, slc_refU, hr, z, pkD, tokD, st23, tmD, hx', y]
theorem c_plain_name (n : Nat) (s : St h i lr ts p) {x : Tx} {b : List Tok} (e : ts.drop p = .name x :: b) (hx : k_KINDS.lookup x = none) (hb : b.head? ≠ some (.mark [40])) : callN T (n + 3) 32 [.ref i, .int deep] h = .ok (tmD (.name x)) (h.set i (rdo lr (p + 1))) := by
  rw [call_eq (k := n + 2) (fn := q32.fn) rfl rfl]
  simp only [Def1.fn, q32, b_Reader_plain, c_MOST_TEXT]
  have hr := s.ri
  have z := c_take n s
  have s2 := s.set (p + 1)
  have hr2 := s2.ri
  have y := c_needt (n + 1) (h.set i (rdo lr (p + 1)))
  have y2 := c_no n s2 (c := 40) (by decide) (by rw [(s.head e).2.2.1]; exact hb)
  rw [e] at z
  generalize h.set i (rdo lr (p + 1)) = H at *
  simp (disch := first | with_reducible assumption | omega | with_reducible exact size_le (by omega) | decide | (simp only [List.length_cons, List.length_nil, List.length_append]; first | omega | with_reducible exact size_le (by omega)) | exact ⟨by simp only [List.length_cons, List.length_nil]; omega, by decide⟩ | fail) [-getElem?_pos, -getElem?_neg, -Int.natCast_add, le_size, rngR_ok, mul_int, mod_int, div_int, pow_int, add_str, len_str, len_refU, idx_refU, any_refU, all_refU, in_refU, in_tupU, okTo_appU, append_U, it_refU, join_refU, add_refU, isi_refU, idx_str, slc_str, str_int, int_str, meOf, List.lookup, fldOf, putN, putR_ok, List.getElem?_cons_zero, List.getElem?_cons_succ, List.getElem?_concat_length, get_app, get_app0, en_refU, mul_refU, tupF_refU, slc_refU, hr, z, pkD, tokD, st23, tmD, hr2, y, y2, hx]
theorem c_plain_pl (n : Nat) (s : St h i lr ts p) {x : Tx} {a : List Tok} (e : ts.drop p = .name x :: .mark [40] :: a) {as : List Tm} {h2 : DH} (z2 : callN T (n + 2) 31 [.ref i, .int deep] (h.set i (rdo lr (p + 2))) = .ok (.tup (tmDs as)) h2) :
    (k_KINDS.lookup x = none → (as.length = 1 ∨ as.length = 2) → callN T (n + 3) 32 [.ref i, .int deep] h = .ok (tmD (.cell x as)) h2) ∧
    ∀ ks, k_KINDS.lookup x = some (.str ks) → as.length = ks.length → callN T (n + 3) 32 [.ref i, .int deep] h = .ok (tmD (.call x as)) h2 := by
  have hr := s.ri
  have z := c_take n s
  have s2 := s.set (p + 1)
  have hr2 := s2.ri
  have y := c_needt (n + 1) (h.set i (rdo lr (p + 1)))
  have y2 : callN T (n + 2) 29 [.ref i, .tup [.str [109, 97, 114, 107], .str [40]]] (h.set i (rdo lr (p + 1))) = .ok (.bl true) ((h.set i (rdo lr (p + 1))).set i (rdo lr (p + 1 + 1))) := c_tif_y n s2 (u := .mark [40]) rfl (s.head e).2.2.1
  rw [List.set_set] at y2
  have s3 := s.set (p + 2)
  have hr3 := s3.ri
  have y3 := c_needt (n + 1) h2
  have hl : (tmDs as).length = as.length := by rw [tmDs_map, List.length_map]
  rw [e] at z
  refine ⟨fun hx ha => ?_, fun ks hx ha => ?_⟩
  · rw [call_eq (k := n + 2) (fn := q32.fn) rfl rfl]
    simp only [Def1.fn, q32, b_Reader_plain, c_MOST_TEXT]
    generalize h.set i (rdo lr (p + 1)) = H at *
    generalize h.set i (rdo lr (p + 2)) = H2 at *
    have hm : decide (((as.length : Int)) ∈ ([1, 2] : List Int)) = true := by
      rcases ha with ha | ha <;> rw [ha] <;> decide
    simp (disch := first | with_reducible assumption | omega | with_reducible exact size_le (by omega) | decide | (simp only [List.length_cons, List.length_nil, List.length_append]; first | omega | with_reducible exact size_le (by omega)) | exact ⟨by simp only [List.length_cons, List.length_nil]; omega, by decide⟩ | fail) [-getElem?_pos, -getElem?_neg, -Int.natCast_add, le_size, rngR_ok, mul_int, mod_int, div_int, pow_int, add_str, len_str, len_refU, idx_refU, any_refU, all_refU, in_refU, in_tupU, okTo_appU, append_U, it_refU, join_refU, add_refU, isi_refU, idx_str, slc_str, str_int, int_str, meOf, List.lookup, fldOf, putN, putR_ok, List.getElem?_cons_zero, List.getElem?_cons_succ, List.getElem?_concat_length, get_app, get_app0, en_refU, mul_refU, tupF_refU, slc_refU, hr, z, pkD, tokD, st23, tmD, hr2, y, y2, hx, hr3, z2, y3, hl, intsOf, -List.mem_cons, hm]
  · have hks : ks.length ≤ sizeLine := by
      have key : ∀ q ∈ k_KINDS, ∀ ks, q.2 = .str ks → ks.length ≤ 3 := by
        intro q hq ks e
        simp only [k_KINDS, List.mem_cons, List.not_mem_nil, or_false] at hq
        rcases hq with rfl | rfl | rfl | rfl | rfl | rfl | rfl | rfl | rfl <;> (cases e; decide)
      obtain ⟨q, hq, e2⟩ : ∃ q ∈ k_KINDS, q.2 = .str ks := by
        have : ∀ (l : List (Tx × D)) (d : D), l.lookup x = some d → ∃ q ∈ l, q.2 = d := by
          intro l
          induction l with
          | nil => intro d e; cases e
          | cons q r ih =>
            intro d e
            obtain ⟨q1, q2⟩ := q
            rw [List.lookup_cons] at e
            cases t : x == q1 with
            | true => rw [t] at e; cases e; exact ⟨_, List.mem_cons_self, rfl⟩
            | false =>
              rw [t] at e
              obtain ⟨q, hq, e⟩ := ih d e
              exact ⟨q, List.mem_cons_of_mem _ hq, e⟩
        exact this _ _ hx
      exact size_le (Nat.le_trans (key q hq ks e2) (by decide))
    rw [call_eq (k := n + 2) (fn := q32.fn) rfl rfl]
    simp only [Def1.fn, q32, b_Reader_plain, c_MOST_TEXT]
    generalize h.set i (rdo lr (p + 1)) = H at *
    generalize h.set i (rdo lr (p + 2)) = H2 at *
    simp (disch := first | with_reducible assumption | omega | with_reducible exact size_le (by omega) | decide | (simp only [List.length_cons, List.length_nil, List.length_append]; first | omega | with_reducible exact size_le (by omega)) | exact ⟨by simp only [List.length_cons, List.length_nil]; omega, by decide⟩ | fail) [-getElem?_pos, -getElem?_neg, -Int.natCast_add, le_size, rngR_ok, mul_int, mod_int, div_int, pow_int, add_str, len_str, len_refU, idx_refU, any_refU, all_refU, in_refU, in_tupU, okTo_appU, append_U, it_refU, join_refU, add_refU, isi_refU, idx_str, slc_str, str_int, int_str, meOf, List.lookup, fldOf, putN, putR_ok, List.getElem?_cons_zero, List.getElem?_cons_succ, List.getElem?_concat_length, get_app, get_app0, en_refU, mul_refU, tupF_refU, slc_refU, hr, z, pkD, tokD, st23, tmD, hr2, y, y2, hx, hr3, z2, y3, hl, ha, hks]
end
/-! ### the claim -/
def Cl : Kd → List Tok → List Tok → List Tm → Nat → Nat → Prop
  | .term l, a, b, out, n, m => ∀ t, out = [t] → ∀ (e : Nat) (h : DH) (i lr : Nat) (ts : List Tok) (p : Nat) (deep : Int), St h i lr ts p → ts.drop p = a → deep + n ≤ 20 → ∃ g p', ts.drop p' = b ∧ callN T (e + m + 5) 35 [.ref i, .int l, .int deep] h = .ok (tmD t) (h.set i (rdo lr p') ++ g)
  | .first l, a, b, out, n, m => ∀ t, out = [t] → ∀ (e : Nat) (h : DH) (i lr : Nat) (ts : List Tok) (p : Nat) (deep : Int), St h i lr ts p → ts.drop p = a → deep + n ≤ 20 → ∃ g p', ts.drop p' = b ∧ callN T (e + m + 4) 33 [.ref i, .int l, .int deep] h = .ok (tmD t) (h.set i (rdo lr p') ++ g)
  | .loop l t0, a, b, out, n, m => ∀ t, out = [t] → ∀ (e : Nat) (h : DH) (i lr : Nat) (ts : List Tok) (p : Nat) (deep : Int), St h i lr ts p → ts.drop p = a → deep + n ≤ 20 → ∃ g p', ts.drop p' = b ∧ sWhl (t_Reader_term_1 (callN T (e + m + 4))) (l_Reader_term_1 (callN T (e + m + 4))) [some (.ref i), some (.int l), some (.int deep), some (tmD t0), some (opD a)] h = .nx [some (.ref i), some (.int l), some (.int deep), some (tmD t), some (opD b)] (h.set i (rdo lr p') ++ g)
  | .pl, a, b, out, n, m => ∀ (e : Nat) (h : DH) (i lr : Nat) (ts : List Tok) (p : Nat) (deep : Int), St h i lr ts p → ts.drop p = a → deep + n ≤ 20 → ∃ g p', ts.drop p' = b ∧ callN T (e + m + 6) 31 [.ref i, .int deep] h = .ok (.tup (tmDs out)) (h.set i (rdo lr p') ++ g)
  | .mo acc, a, b, out, n, m => ∀ (e : Nat) (h : DH) (i lr : Nat) (ts : List Tok) (p : Nat) (deep : Int) (j : Nat), St h i lr ts p → ts.drop p = a → deep + n ≤ 20 → h[j]? = some (.lst (tmDs acc)) → j ≠ i → j ≠ lr → ∃ g p', ts.drop p' = .mark [41] :: b ∧ sWhl (t_Reader_places_1 (callN T (e + m + 5))) (l_Reader_places_1 (callN T (e + m + 5))) [some (.ref i), some (.int deep), some (.ref j)] h = .nx [some (.ref i), some (.int deep), some (.ref j)] ((h.set i (rdo lr p')).set j (.lst (tmDs out)) ++ g)
end K20

namespace K20
open PySem L2 Mp
theorem set_nil {h : DH} {i : Nat} {x : O} : h.set i x = h.set i x ++ [] := (List.append_nil _).symm
theorem c_term_of (e m : Nat) {h h1 : DH} {i lr p p1 : Nat} {ts : List Tok} {l deep : Int} {t0 t : Tm} {b c : List Tok} {g : DH} (s : St h i lr ts p) (hd : deep ≤ 20)
    (z1 : callN T (e + m + 4) 33 [.ref i, .int l, .int deep] h = .ok (tmD t0) (h.set i (rdo lr p1) ++ g)) (e1 : ts.drop p1 = b)
    (z2 : sWhl (t_Reader_term_1 (callN T (e + m + 4))) (l_Reader_term_1 (callN T (e + m + 4))) [some (.ref i), some (.int l), some (.int deep), some (tmD t0), some (opD b)] (h.set i (rdo lr p1) ++ g) = .nx [some (.ref i), some (.int l), some (.int deep), some (tmD t), some (opD c)] h1) :
    callN T (e + m + 5) 35 [.ref i, .int l, .int deep] h = .ok (tmD t) h1 := by
  rw [call_eq (k := e + m + 4) (fn := q35.fn) rfl rfl]
  simp only [Def1.fn, q35, b_Reader_term, c_MOST_WITHIN]
  have hr := s.ri
  have s2 := (s.set p1).app g
  have hr2 := s2.ri
  have y : callN T (e + m + 4) 14 [.bl true] h = .ok .non h := c_needt (e + m + 3) h
  have y2 : callN T (e + m + 4) 34 [.ref i] (h.set i (rdo lr p1) ++ g) = .ok (opD (ts.drop p1)) (h.set i (rdo lr p1) ++ g) := c_oper (e + m + 2) s2
  rw [e1] at y2
  generalize h.set i (rdo lr p1) ++ g = H at *
  simp (disch := first | with_reducible assumption | omega | with_reducible exact size_le (by omega) | decide | (simp only [List.length_cons, List.length_nil, List.length_append]; first | omega | with_reducible exact size_le (by omega)) | exact ⟨by simp only [List.length_cons, List.length_nil]; omega, by decide⟩ | fail) [-getElem?_pos, -getElem?_neg, -Int.natCast_add, le_size, rngR_ok, mul_int, mod_int, div_int, pow_int, add_str, len_str, len_refU, idx_refU, any_refU, all_refU, in_refU, in_tupU, okTo_appU, append_U, it_refU, join_refU, add_refU, isi_refU, idx_str, slc_str, str_int, int_str, meOf, List.lookup, fldOf, putN, putR_ok, List.getElem?_cons_zero, List.getElem?_cons_succ, List.getElem?_concat_length, get_app, get_app0, en_refU, mul_refU, tupF_refU, slc_refU, hr, hd, y, z1, hr2, y2, z2]
theorem opD_cons {u : Tok} {a : List Tok} {s : Tx} (h : opOf [u] = some s) : opOf (u :: a) = some s := by
  cases u <;> first | exact h | cases h
theorem c_stop (e m : Nat) {h : DH} {i lr p : Nat} {ts : List Tok} {l deep : Int} {t : Tm} {b : List Tok} (hb : ∀ s k, opOf b = some s → opStr s = some k → k < l) :
    sWhl (t_Reader_term_1 (callN T (e + m + 4))) (l_Reader_term_1 (callN T (e + m + 4))) [some (.ref i), some (.int l), some (.int deep), some (tmD t), some (opD b)] h = .nx [some (.ref i), some (.int l), some (.int deep), some (tmD t), some (opD b)] h := by
  refine sWhl_stop (h1 := h) ?_
  simp only [t_Reader_term_1, c_COMPARING_STRENGTH]
  cases q : opOf b with
  | none => simp (disch := first | with_reducible assumption | omega | with_reducible exact size_le (by omega) | decide | (simp only [List.length_cons, List.length_nil, List.length_append]; first | omega | with_reducible exact size_le (by omega)) | exact ⟨by simp only [List.length_cons, List.length_nil]; omega, by decide⟩ | fail) [-getElem?_pos, -getElem?_neg, -Int.natCast_add, le_size, rngR_ok, mul_int, mod_int, div_int, pow_int, add_str, len_str, len_refU, idx_refU, any_refU, all_refU, in_refU, in_tupU, okTo_appU, append_U, it_refU, join_refU, add_refU, isi_refU, idx_str, slc_str, str_int, int_str, meOf, List.lookup, fldOf, putN, putR_ok, List.getElem?_cons_zero, List.getElem?_cons_succ, List.getElem?_concat_length, get_app, get_app0, en_refU, mul_refU, tupF_refU, slc_refU, opD, q]
  | some s =>
    have hs : ∃ k, opStr s = some k := by
      unfold opOf at q
      split at q
      · split at q
        · rename_i hh; cases q; exact Option.isSome_iff_exists.mp hh
        · cases q
      · split at q
        · rename_i hh; cases q; exact Option.isSome_iff_exists.mp hh
        · cases q
      · cases q
    obtain ⟨k, hk⟩ := hs
    have z : callN T (e + m + 4) 22 [.str s] h = .ok (.int k) h := c_strength (e + m + 3) s k h hk
    have y := hb s k q hk
    have y2 : ¬ l ≤ k := by omega
    simp (disch := first | with_reducible assumption | omega | with_reducible exact size_le (by omega) | decide | (simp only [List.length_cons, List.length_nil, List.length_append]; first | omega | with_reducible exact size_le (by omega)) | exact ⟨by simp only [List.length_cons, List.length_nil]; omega, by decide⟩ | fail) [-getElem?_pos, -getElem?_neg, -Int.natCast_add, le_size, rngR_ok, mul_int, mod_int, div_int, pow_int, add_str, len_str, len_refU, idx_refU, any_refU, all_refU, in_refU, in_tupU, okTo_appU, append_U, it_refU, join_refU, add_refU, isi_refU, idx_str, slc_str, str_int, int_str, meOf, List.lookup, fldOf, putN, putR_ok, List.getElem?_cons_zero, List.getElem?_cons_succ, List.getElem?_concat_length, get_app, get_app0, en_refU, mul_refU, tupF_refU, slc_refU, opD, q, z, y2]
theorem c_lop (e m : Nat) {h : DH} {i lr p p1 : Nat} {ts : List Tok} {l deep k : Int} {t0 t' : Tm} {u : Tok} {a b : List Tok} {s : Tx} {g : DH} (st : St h i lr ts p) (e0 : ts.drop p = u :: a) (hs : opOf [u] = some s) (hk : opStr s = some k) (hl : l ≤ k)
    (z1 : callN T (e + m + 4) 35 [.ref i, .int (k + 1), .int (deep + 1)] (h.set i (rdo lr (p + 1))) = .ok (tmD t') (h.set i (rdo lr p1) ++ g)) (e1 : ts.drop p1 = b) :
    sWhl (t_Reader_term_1 (callN T (e + m + 4))) (l_Reader_term_1 (callN T (e + m + 4))) [some (.ref i), some (.int l), some (.int deep), some (tmD t0), some (opD (u :: a))] h = sWhl (t_Reader_term_1 (callN T (e + m + 4))) (l_Reader_term_1 (callN T (e + m + 4))) [some (.ref i), some (.int l), some (.int deep), some (tmD (.op s t0 t')), some (opD b)] (h.set i (rdo lr p1) ++ g) := by
  have od : opD (u :: a) = .str s := by unfold opD; rw [opD_cons hs]
  have zs : ∀ H, callN T (e + m + 4) 22 [.str s] H = .ok (.int k) H := fun H => c_strength (e + m + 3) s k H hk
  have hr := st.ri
  have s1 := st.set (p + 1)
  have hr1 := s1.ri
  have s2 := (st.set p1).app g
  have hr2 := s2.ri
  have zt : callN T (e + m + 4) 30 [.ref i] h = .ok (pkD (ts.drop p)) (h.set i (rdo lr (p + 1))) := c_take (e + m + 2) st
  have zo : callN T (e + m + 4) 34 [.ref i] (h.set i (rdo lr p1) ++ g) = .ok (opD (ts.drop p1)) (h.set i (rdo lr p1) ++ g) := c_oper (e + m + 2) s2
  rw [e1] at zo
  rw [od]
  refine sWhl_go (h1 := h) ?_ ?_
  · simp only [t_Reader_term_1]
    simp (disch := first | with_reducible assumption | omega | with_reducible exact size_le (by omega) | decide | (simp only [List.length_cons, List.length_nil, List.length_append]; first | omega | with_reducible exact size_le (by omega)) | exact ⟨by simp only [List.length_cons, List.length_nil]; omega, by decide⟩ | fail) [-getElem?_pos, -getElem?_neg, -Int.natCast_add, le_size, rngR_ok, mul_int, mod_int, div_int, pow_int, add_str, len_str, len_refU, idx_refU, any_refU, all_refU, in_refU, in_tupU, okTo_appU, append_U, it_refU, join_refU, add_refU, isi_refU, idx_str, slc_str, str_int, int_str, meOf, List.lookup, fldOf, putN, putR_ok, List.getElem?_cons_zero, List.getElem?_cons_succ, List.getElem?_concat_length, get_app, get_app0, en_refU, mul_refU, tupF_refU, slc_refU, zs, hl]
  · simp only [l_Reader_term_1]
    generalize h.set i (rdo lr (p + 1)) = H at *
    generalize h.set i (rdo lr p1) ++ g = H2 at *
    simp (disch := first | with_reducible assumption | omega | with_reducible exact size_le (by omega) | decide | (simp only [List.length_cons, List.length_nil, List.length_append]; first | omega | with_reducible exact size_le (by omega)) | exact ⟨by simp only [List.length_cons, List.length_nil]; omega, by decide⟩ | fail) [-getElem?_pos, -getElem?_neg, -Int.natCast_add, le_size, rngR_ok, mul_int, mod_int, div_int, pow_int, add_str, len_str, len_refU, idx_refU, any_refU, all_refU, in_refU, in_tupU, okTo_appU, append_U, it_refU, join_refU, add_refU, isi_refU, idx_str, slc_str, str_int, int_str, meOf, List.lookup, fldOf, putN, putR_ok, List.getElem?_cons_zero, List.getElem?_cons_succ, List.getElem?_concat_length, get_app, get_app0, en_refU, mul_refU, tupF_refU, slc_refU, hr, zt, zs, hr1, z1, hr2, zo, tmD]
theorem c_places_of (e m : Nat) {h : DH} {i lr p p1 p2 : Nat} {ts : List Tok} {deep : Int} {t : Tm} {as : List Tm} {c : List Tok} {g g2 : DH} (st : St h i lr ts p)
    (z1 : callN T (e + m + 5) 35 [.ref i, .int 1, .int (deep + 1)] h = .ok (tmD t) (h.set i (rdo lr p1) ++ g)) (e2 : ts.drop p2 = .mark [41] :: c)
    (z2 : sWhl (t_Reader_places_1 (callN T (e + m + 5))) (l_Reader_places_1 (callN T (e + m + 5))) [some (.ref i), some (.int deep), some (.ref (h.set i (rdo lr p1) ++ g).length)] (h.set i (rdo lr p1) ++ g ++ [O.lst [tmD t]]) = .nx [some (.ref i), some (.int deep), some (.ref (h.set i (rdo lr p1) ++ g).length)] (((h.set i (rdo lr p1) ++ g ++ [O.lst [tmD t]]).set i (rdo lr p2)).set (h.set i (rdo lr p1) ++ g).length (O.lst (tmDs as)) ++ g2)) :
    callN T (e + m + 6) 31 [.ref i, .int deep] h = .ok (.tup (tmDs as)) (h.set i (rdo lr (p2 + 1)) ++ (g ++ [O.lst (tmDs as)] ++ g2)) := by
  rw [call_eq (k := e + m + 5) (fn := q31.fn) rfl rfl]
  simp only [Def1.fn, q31, b_Reader_places]
  have hr := st.ri
  have hi := st.lt
  have es : ∀ (q : Nat) (x : List D), ((h.set i (rdo lr p1) ++ g ++ [O.lst x]).set i (rdo lr q)) = h.set i (rdo lr q) ++ g ++ [O.lst x] := fun q x => by
    rw [List.append_assoc, set_app hi, List.append_assoc]
  have el : (h.set i (rdo lr p1) ++ g).length = (h.set i (rdo lr p2) ++ g).length := by simp
  rw [es, el] at z2
  have ej : (h.set i (rdo lr p2) ++ g ++ [O.lst [tmD t]]).set (h.set i (rdo lr p2) ++ g).length (O.lst (tmDs as)) = h.set i (rdo lr p2) ++ g ++ [O.lst (tmDs as)] := by
    rw [List.set_append_right _ _ (Nat.le_refl _), Nat.sub_self]
    rfl
  rw [ej, ← el] at z2
  have s2 : St (h.set i (rdo lr p2) ++ (g ++ [O.lst (tmDs as)] ++ g2)) i lr ts p2 := (st.set p2).app _
  have ez : h.set i (rdo lr p2) ++ g ++ [O.lst (tmDs as)] ++ g2 = h.set i (rdo lr p2) ++ (g ++ [O.lst (tmDs as)] ++ g2) := by simp
  rw [ez] at z2
  have hr2 := s2.ri
  have zy : callN T (e + m + 5) 29 [.ref i, .tup [.str [109, 97, 114, 107], .str [41]]] (h.set i (rdo lr p2) ++ (g ++ [O.lst (tmDs as)] ++ g2)) = .ok (.bl true) ((h.set i (rdo lr p2) ++ (g ++ [O.lst (tmDs as)] ++ g2)).set i (rdo lr (p2 + 1))) := c_tif_y (e + m + 3) s2 (u := .mark [41]) rfl e2
  rw [set_app hi] at zy
  have zn : callN T (e + m + 5) 14 [.bl true] (h.set i (rdo lr (p2 + 1)) ++ (g ++ [O.lst (tmDs as)] ++ g2)) = .ok .non (h.set i (rdo lr (p2 + 1)) ++ (g ++ [O.lst (tmDs as)] ++ g2)) := c_needt (e + m + 4) _
  have gj : (h.set i (rdo lr (p2 + 1)) ++ (g ++ [O.lst (tmDs as)] ++ g2))[(h.set i (rdo lr p1) ++ g).length]? = some (O.lst (tmDs as)) := by
    have e3 : (h.set i (rdo lr p1) ++ g).length = (h.set i (rdo lr (p2 + 1)) ++ g).length := by simp
    rw [e3, show h.set i (rdo lr (p2 + 1)) ++ (g ++ [O.lst (tmDs as)] ++ g2) = (h.set i (rdo lr (p2 + 1)) ++ g) ++ ([O.lst (tmDs as)] ++ g2) by simp, get_app0]
    rfl
  generalize h.set i (rdo lr (p2 + 1)) ++ (g ++ [O.lst (tmDs as)] ++ g2) = H3 at *
  generalize h.set i (rdo lr p2) ++ (g ++ [O.lst (tmDs as)] ++ g2) = H2 at *
  generalize hH : h.set i (rdo lr p1) ++ g = H1 at *
  simp (disch := first | with_reducible assumption | omega | with_reducible exact size_le (by omega) | decide | (simp only [List.length_cons, List.length_nil, List.length_append]; first | omega | with_reducible exact size_le (by omega)) | exact ⟨by simp only [List.length_cons, List.length_nil]; omega, by decide⟩ | fail) [-getElem?_pos, -getElem?_neg, -Int.natCast_add, le_size, rngR_ok, mul_int, mod_int, div_int, pow_int, add_str, len_str, len_refU, idx_refU, any_refU, all_refU, in_refU, in_tupU, okTo_appU, append_U, it_refU, join_refU, add_refU, isi_refU, idx_str, slc_str, str_int, int_str, meOf, List.lookup, fldOf, putN, putR_ok, List.getElem?_cons_zero, List.getElem?_cons_succ, List.getElem?_concat_length, get_app, get_app0, en_refU, mul_refU, tupF_refU, slc_refU, hr, z1, z2, hr2, zy, zn, gj]
theorem c_moe (e m : Nat) {h : DH} {i lr p j : Nat} {ts : List Tok} {deep : Int} {c : List Tok} (st : St h i lr ts p) (e0 : ts.drop p = .mark [41] :: c) :
    sWhl (t_Reader_places_1 (callN T (e + m + 5))) (l_Reader_places_1 (callN T (e + m + 5))) [some (.ref i), some (.int deep), some (.ref j)] h = .nx [some (.ref i), some (.int deep), some (.ref j)] h := by
  refine sWhl_stop (h1 := h) ?_
  have hr := st.ri
  have y : callN T (e + m + 5) 29 [.ref i, .tup [.str [109, 97, 114, 107], .str [44]]] h = .ok (.bl false) h := c_no (e + m + 3) st (c := 44) (by decide) (by rw [e0]; simp)
  simp only [t_Reader_places_1]
  simp (disch := first | with_reducible assumption | omega | with_reducible exact size_le (by omega) | decide | (simp only [List.length_cons, List.length_nil, List.length_append]; first | omega | with_reducible exact size_le (by omega)) | exact ⟨by simp only [List.length_cons, List.length_nil]; omega, by decide⟩ | fail) [-getElem?_pos, -getElem?_neg, -Int.natCast_add, le_size, rngR_ok, mul_int, mod_int, div_int, pow_int, add_str, len_str, len_refU, idx_refU, any_refU, all_refU, in_refU, in_tupU, okTo_appU, append_U, it_refU, join_refU, add_refU, isi_refU, idx_str, slc_str, str_int, int_str, meOf, List.lookup, fldOf, putN, putR_ok, List.getElem?_cons_zero, List.getElem?_cons_succ, List.getElem?_concat_length, get_app, get_app0, en_refU, mul_refU, tupF_refU, slc_refU, hr, y]
theorem c_moc (e m : Nat) {h : DH} {i lr p p1 j : Nat} {ts : List Tok} {deep : Int} {t : Tm} {acc : List Tm} {a : List Tok} {g : DH} (st : St h i lr ts p) (e0 : ts.drop p = .mark [44] :: a) (hj : h[j]? = some (O.lst (tmDs acc))) (ji : j ≠ i) (ha : acc.length ≤ 1000)
    (z1 : callN T (e + m + 5) 35 [.ref i, .int 1, .int (deep + 1)] (h.set i (rdo lr (p + 1))) = .ok (tmD t) (h.set i (rdo lr p1) ++ g)) :
    sWhl (t_Reader_places_1 (callN T (e + m + 5))) (l_Reader_places_1 (callN T (e + m + 5))) [some (.ref i), some (.int deep), some (.ref j)] h = sWhl (t_Reader_places_1 (callN T (e + m + 5))) (l_Reader_places_1 (callN T (e + m + 5))) [some (.ref i), some (.int deep), some (.ref j)] ((h.set i (rdo lr p1)).set j (O.lst (tmDs (acc ++ [t]))) ++ g) := by
  have hr := st.ri
  have s1 := st.set (p + 1)
  have hr1 := s1.ri
  have y : callN T (e + m + 5) 29 [.ref i, .tup [.str [109, 97, 114, 107], .str [44]]] h = .ok (.bl true) (h.set i (rdo lr (p + 1))) := c_tif_y (e + m + 3) st (u := .mark [44]) rfl e0
  have hj1 : (h.set i (rdo lr (p + 1)))[j]? = some (O.lst (tmDs acc)) := by rw [List.getElem?_set_ne (Ne.symm ji)]; exact hj
  have hj2 : (h.set i (rdo lr p1) ++ g)[j]? = some (O.lst (tmDs acc)) := by
    rw [List.getElem?_append_left (by rw [List.length_set]; exact lt_of_get hj), List.getElem?_set_ne (Ne.symm ji)]
    exact hj
  have hl : (tmDs acc).length < sizeLine := by
    rw [tmDs_map, List.length_map]
    exact size_le (n := acc.length + 1) (by omega)
  have hsj : (h.set i (rdo lr p1) ++ g).set j (O.lst (tmDs acc ++ [tmD t])) = (h.set i (rdo lr p1)).set j (O.lst (tmDs (acc ++ [t]))) ++ g := by
    rw [List.set_append_left _ _ (by rw [List.length_set]; exact lt_of_get hj), tmDs_map, tmDs_map, List.map_append]
    rfl
  refine sWhl_go (h1 := h.set i (rdo lr (p + 1))) ?_ ?_
  · simp only [t_Reader_places_1]
    simp (disch := first | with_reducible assumption | omega | with_reducible exact size_le (by omega) | decide | (simp only [List.length_cons, List.length_nil, List.length_append]; first | omega | with_reducible exact size_le (by omega)) | exact ⟨by simp only [List.length_cons, List.length_nil]; omega, by decide⟩ | fail) [-getElem?_pos, -getElem?_neg, -Int.natCast_add, le_size, rngR_ok, mul_int, mod_int, div_int, pow_int, add_str, len_str, len_refU, idx_refU, any_refU, all_refU, in_refU, in_tupU, okTo_appU, append_U, it_refU, join_refU, add_refU, isi_refU, idx_str, slc_str, str_int, int_str, meOf, List.lookup, fldOf, putN, putR_ok, List.getElem?_cons_zero, List.getElem?_cons_succ, List.getElem?_concat_length, get_app, get_app0, en_refU, mul_refU, tupF_refU, slc_refU, hr, y]
  · simp only [l_Reader_places_1]
    rw [← hsj]
    generalize h.set i (rdo lr (p + 1)) = H at *
    generalize h.set i (rdo lr p1) ++ g = H2 at *
    simp (disch := first | with_reducible assumption | omega | with_reducible exact size_le (by omega) | decide | (simp only [List.length_cons, List.length_nil, List.length_append]; first | omega | with_reducible exact size_le (by omega)) | exact ⟨by simp only [List.length_cons, List.length_nil]; omega, by decide⟩ | fail) [-getElem?_pos, -getElem?_neg, -Int.natCast_add, le_size, rngR_ok, mul_int, mod_int, div_int, pow_int, add_str, len_str, len_refU, idx_refU, any_refU, all_refU, in_refU, in_tupU, okTo_appU, append_U, it_refU, join_refU, add_refU, isi_refU, idx_str, slc_str, str_int, int_str, meOf, List.lookup, fldOf, putN, putR_ok, List.getElem?_cons_zero, List.getElem?_cons_succ, List.getElem?_concat_length, get_app, get_app0, en_refU, mul_refU, tupF_refU, slc_refU, hr1, hj1, z1, hj2, hl]
theorem rk_ok {k : Kd} {a b : List Tok} {o : List Tm} {n m : Nat} (r : Rk k a b o n m) : Cl k a b o n m := by
  induction r with
  | @term l a b c t0 t n m _ _ i1 i2 =>
    intro t' et e h i lr ts p deep s e0 hd
    cases et
    obtain ⟨g, p1, e1, z1⟩ := i1 t0 rfl e h i lr ts p deep s e0 hd
    obtain ⟨g2, p2, e2, z2⟩ := i2 t rfl e _ i lr ts p1 deep ((s.set p1).app g) e1 hd
    rw [set_app s.lt] at z2
    exact ⟨g ++ g2, p2, e2, by rw [c_term_of e m (h1 := h.set i (rdo lr p2) ++ g ++ g2) s (by omega) z1 e1 z2, List.append_assoc]⟩
  | @fnot l a b t n m hl _ i1 =>
    intro t' et e h i lr ts p deep s e0 hd
    cases et
    obtain ⟨g, p1, e1, z1⟩ := i1 t rfl e _ i lr ts (p + 1) (deep + 1) (s.set (p + 1)) (s.head e0).2.2.1 (by omega)
    rw [List.set_set] at z1
    refine ⟨g, p1, e1, ?_⟩
    have z := c_first_not (e + m + 3) (l := l) (deep := deep) s e0 hl z1
    exact z
  | @fmin l a b t n m _ i1 =>
    intro t' et e h i lr ts p deep s e0 hd
    cases et
    obtain ⟨g, p1, e1, z1⟩ := i1 t rfl e _ i lr ts (p + 1) (deep + 1) (s.set (p + 1)) (s.head e0).2.2.1 (by omega)
    rw [List.set_set] at z1
    refine ⟨g, p1, e1, ?_⟩
    have z := c_first_min (e + m + 3) (l := l) (deep := deep) s e0 z1
    exact z
  | @fpar l a b t n m _ i1 =>
    intro t' et e h i lr ts p deep s e0 hd
    cases et
    obtain ⟨g, p1, e1, z1⟩ := i1 t rfl e _ i lr ts (p + 1) deep (s.set (p + 1)) (s.head e0).2.2.1 hd
    rw [List.set_set] at z1
    exact ⟨g, p1 + 1, ((s.set p1).head e1).2.2.1, c_first_par (e + m + 2) (l := l) (deep := deep) s e0 z1 e1⟩
  | @fnum l v b n m =>
    intro t' et e h i lr ts p deep s e0 hd
    cases et
    refine ⟨[], p + 1, (s.head e0).2.2.1, ?_⟩
    have z := c_first_plain (e + m + 1) (l := l) (deep := deep) s (by rw [e0]; simp) (by rw [e0]; simp) (by rw [e0]; simp)
    have z2 := c_plain_num (e + m) (deep := deep) s e0
    rw [List.append_nil]
    exact z.trans z2
  | @ftext l x b n m hx =>
    intro t' et e h i lr ts p deep s e0 hd
    cases et
    refine ⟨[], p + 1, (s.head e0).2.2.1, ?_⟩
    have z := c_first_plain (e + m + 1) (l := l) (deep := deep) s (by rw [e0]; simp) (by rw [e0]; simp) (by rw [e0]; simp)
    have z2 := c_plain_text (e + m) (deep := deep) s e0 hx
    rw [List.append_nil]
    exact z.trans z2
  | @fname l x b n m hx hb =>
    intro t' et e h i lr ts p deep s e0 hd
    cases et
    refine ⟨[], p + 1, (s.head e0).2.2.1, ?_⟩
    have z := c_first_plain (e + m + 1) (l := l) (deep := deep) s (by rw [e0]; simp) (by rw [e0]; simp) (by rw [e0]; simp)
    have z2 := c_plain_name (e + m) (deep := deep) s e0 hx hb
    rw [List.append_nil]
    exact z.trans z2
  | @fcell l x a b as n m hx _ ha i1 =>
    intro t' et e h i lr ts p deep s e0 hd
    cases et
    have e2 : ts.drop (p + 2) = a := ((s.set (p + 1)).head (s.head e0).2.2.1).2.2.1
    obtain ⟨g, p1, e1, z1⟩ := i1 e _ i lr ts (p + 2) deep (s.set (p + 2)) e2 hd
    rw [List.set_set] at z1
    refine ⟨g, p1, e1, ?_⟩
    have z := c_first_plain (e + m + 5) (l := l) (deep := deep) s (by rw [e0]; simp) (by rw [e0]; simp) (by rw [e0]; simp)
    have z2 := (c_plain_pl (e + m + 4) (deep := deep) s e0 z1).1 hx ha
    exact z.trans z2
  | @fcall l x ks a b as n m hx _ ha i1 =>
    intro t' et e h i lr ts p deep s e0 hd
    cases et
    have e2 : ts.drop (p + 2) = a := ((s.set (p + 1)).head (s.head e0).2.2.1).2.2.1
    obtain ⟨g, p1, e1, z1⟩ := i1 e _ i lr ts (p + 2) deep (s.set (p + 2)) e2 hd
    rw [List.set_set] at z1
    refine ⟨g, p1, e1, ?_⟩
    have z := c_first_plain (e + m + 5) (l := l) (deep := deep) s (by rw [e0]; simp) (by rw [e0]; simp) (by rw [e0]; simp)
    have z2 := (c_plain_pl (e + m + 4) (deep := deep) s e0 z1).2 ks hx ha
    exact z.trans z2
  | @pl a b c t as n m _ _ i1 i2 =>
    intro e h i lr ts p deep s e0 hd
    obtain ⟨g, p1, e1, z1⟩ := i1 t rfl e h i lr ts p (deep + 1) s e0 (by omega)
    have hi := s.lt
    have hl := lt_of_get s.rl
    obtain ⟨g2, p2, e2, z2⟩ := i2 e (h.set i (rdo lr p1) ++ g ++ [O.lst [tmD t]]) i lr ts p1 deep (h.set i (rdo lr p1) ++ g).length (((s.set p1).app g).app _) e1 hd (by simp [tmDs]) (by simp; omega) (by simp; omega)
    exact ⟨_, p2 + 1, ((s.set p2).head e2).2.2.1, c_places_of e m s z1 e2 z2⟩
  | @moc a b c t acc as n m hac _ _ i1 i2 =>
    intro e h i lr ts p deep j s e0 hd hj ji jl
    obtain ⟨g, p1, e1, z1⟩ := i1 t rfl e _ i lr ts (p + 1) (deep + 1) (s.set (p + 1)) (s.head e0).2.2.1 (by omega)
    rw [List.set_set] at z1
    have hi := s.lt
    have hjl := lt_of_get hj
    have s1 : St ((h.set i (rdo lr p1)).set j (O.lst (tmDs (acc ++ [t]))) ++ g) i lr ts p1 := by
      refine St.app ⟨?_, ?_, s.ne, s.gd, s.sz⟩ g
      · rw [List.getElem?_set_ne ji]; exact get_set hi
      · rw [List.getElem?_set_ne jl, List.getElem?_set_ne s.ne]; exact s.rl
    obtain ⟨g2, p2, e2, z2⟩ := i2 e _ i lr ts p1 deep j s1 e1 hd (by rw [List.getElem?_append_left (by simp; omega)]; exact get_set (by simp; omega)) ji jl
    refine ⟨g ++ g2, p2, e2, ?_⟩
    rw [c_moc e m s e0 hj ji hac z1, z2]
    congr 1
    rw [List.set_append_left _ _ (by simp; omega), List.set_append_left _ _ (by simp; omega), set3 (Ne.symm ji), List.set_set, List.append_assoc]
  | @moe c acc n m =>
    intro e h i lr ts p deep j s e0 hd hj ji jl
    refine ⟨[], p, e0, ?_⟩
    rw [c_moe e m s e0, set_same s.ri, set_same hj, List.append_nil]
  | @stop l t b n m hb =>
    intro t' et e h i lr ts p deep s e0 hd
    cases et
    refine ⟨[], p, e0, ?_⟩
    rw [set_same s.ri, List.append_nil]
    exact c_stop e m (lr := lr) (p := p) (ts := ts) hb
  | @lop l k s' u t0 t1 t a b c n m hs hk hl _ _ i1 i2 =>
    intro t' et e h i lr ts p deep s e0 hd
    cases et
    obtain ⟨g, p1, e1, z1⟩ := i1 t1 rfl e _ i lr ts (p + 1) (deep + 1) (s.set (p + 1)) (s.head e0).2.2.1 (by omega)
    rw [List.set_set] at z1
    obtain ⟨g2, p2, e2, z2⟩ := i2 t rfl e _ i lr ts p1 deep ((s.set p1).app g) e1 hd
    rw [set_app s.lt] at z2
    refine ⟨g ++ g2, p2, e2, ?_⟩
    have z := c_lop e (m + 1) (l := l) (deep := deep) (t0 := t0) s e0 hs hk hl z1 e1
    rw [z, ← List.append_assoc]
    exact z2
end K20

namespace K20
open PySem L2 Mp
/-! ### names, texts, numbers -/
structure NameV (x : Tx) : Prop where
  ex : ∃ w e, x = w ++ e ∧ (e = [] ∨ e = [36]) ∧ w ≠ [] ∧ (∀ c, w.head? = some c → c ∈ CAP) ∧ ∀ c ∈ w, c ∈ CF
  nw : x ∉ WORDS
  nk : k_KINDS.lookup x = none
  len : x.length ≤ 8
theorem all_true (w : Tx) : ((w.map fun _ => true).all id) = true := by simp
theorem bols_true (w : Tx) : bolsOf (w.map fun _ => D.bl true) = some (w.map fun _ => true) := by
  have := bols_map (w.map fun _ => true)
  rw [List.map_map] at this
  exact this
theorem cut_init {w : Tx} {c : Nat} : cutG (w ++ [c]) none (some (((w ++ [c]).length : Int) - 1)) = w := by
  have e : (((w ++ [c]).length : Int) - 1) = (w.length : Int) := by simp
  rw [e]
  unfold cutG
  rw [HT.sIx_nat, HT.sIx_none]
  simp
theorem c_isname (n : Nat) {x : Tx} (v : NameV x) (h : DH) : ∃ g, callN T (n + 1) 19 [.str x] h = .ok (.bl true) (h ++ g) := by
  obtain ⟨w, e, rfl, he, hw, hc, hf⟩ := v.ex
  have hl := v.len
  rw [List.length_append] at hl
  have hwl : 1 ≤ w.length := List.length_pos_iff.mpr hw
  have hz : (w ++ e).length ≤ sizeLine := size_le (by rw [List.length_append]; omega)
  have hz2 : w.length ≤ sizeLine := size_le (by omega)
  obtain ⟨c, w', ew⟩ := List.exists_cons_of_ne_nil hw
  have hcc : c ∈ CAP := hc c (by rw [ew]; rfl)
  have h0 : atI w 0 = some c := by
    have := atI_nat w 0 (by omega)
    rw [show ((0 : Nat) : Int) = 0 from rfl] at this
    rw [this, ew]
    rfl
  refine ⟨[.lst (w.map fun _ => .bl true)], ?_⟩
  rw [call_eq (fn := q19.fn) rfl rfl]
  simp only [Def1.fn, q19, b_is_name, words_eq, cap_eq, fig_eq, c_MOST_NAME]
  have a1 : (1 : Int) ≤ ((w ++ e).length : Int) := by rw [List.length_append]; omega
  have a2 : ((w ++ e).length : Int) ≤ 8 := by rw [List.length_append]; omega
  have a3 := v.nw
  have a4 := v.nk
  have cm : ∀ (y : D), compL none (stName 2) mTrue (t_is_name_1 (callN T n)) [some (.str (w ++ e)), some (.str w), none] (w.map fun c => .str [c]) h = .ok (w.map fun _ => .bl true) h := fun y => by
    rw [compL_map (fun _ => .bl true) still_none, List.map_map]
    · rfl
    · intro d hd
      obtain ⟨c, hcm, rfl⟩ := List.mem_map.mp hd
      refine ⟨_, rfl, rfl, ?_⟩
      have hcf : c ∈ CAP ++ FIG := hf c hcm
      have hzz : CAP.length + FIG.length ≤ sizeLine := size_le (by decide)
      simp only [t_is_name_1, cap_eq, fig_eq]
      simp (disch := first | with_reducible assumption | omega | with_reducible exact size_le (by omega) | decide | (simp only [List.length_cons, List.length_nil, List.length_append]; first | omega | with_reducible exact size_le (by omega)) | exact ⟨by simp only [List.length_cons, List.length_nil]; omega, by decide⟩ | fail) [-getElem?_pos, -getElem?_neg, -Int.natCast_add, le_size, rngR_ok, mul_int, mod_int, div_int, pow_int, add_str, len_str, len_refU, idx_refU, any_refU, all_refU, in_refU, in_tupU, okTo_appU, append_U, it_refU, join_refU, add_refU, isi_refU, idx_str, slc_str, str_int, int_str, meOf, List.lookup, fldOf, putN, putR_ok, List.getElem?_cons_zero, List.getElem?_cons_succ, List.getElem?_concat_length, get_app, get_app0, en_refU, mul_refU, tupF_refU, slc_refU, hzz, -List.mem_append, hcf]
  have cm := cm .non
  have gb : (h ++ [O.lst (w.map fun _ => D.bl true)])[h.length]? = some (.lst (w.map fun _ => D.bl true)) := List.getElem?_concat_length
  have wn : w ≠ [] := hw
  have last : atI (w ++ e) (-1) = (w ++ e).getLast? := atI_last (by simp [hw])
  generalize hX : w ++ e = X at *
  rcases he with rfl | rfl
  · rw [List.append_nil] at hX
    subst hX
    obtain ⟨y, hy⟩ : ∃ y, w.getLast? = some y := by
      cases q : w.getLast? with
      | none => exact absurd (List.getLast?_eq_none_iff.mp q) hw
      | some y => exact ⟨y, rfl⟩
    have hyf := hf y (List.mem_of_getLast? hy)
    have hy36 : y ≠ 36 := fun z => by
      subst z
      exact absurd hyf (by decide)
    simp (disch := first | with_reducible assumption | omega | with_reducible exact size_le (by omega) | decide | (simp only [List.length_cons, List.length_nil, List.length_append]; first | omega | with_reducible exact size_le (by omega)) | exact ⟨by simp only [List.length_cons, List.length_nil]; omega, by decide⟩ | fail) [-getElem?_pos, -getElem?_neg, -Int.natCast_add, le_size, rngR_ok, mul_int, mod_int, div_int, pow_int, add_str, len_str, len_refU, idx_refU, any_refU, all_refU, in_refU, in_tupU, okTo_appU, append_U, it_refU, join_refU, add_refU, isi_refU, idx_str, slc_str, str_int, int_str, meOf, List.lookup, fldOf, putN, putR_ok, List.getElem?_cons_zero, List.getElem?_cons_succ, List.getElem?_concat_length, get_app, get_app0, en_refU, mul_refU, tupF_refU, slc_refU, a1, a2, a3, a4, strs_map, last, hy, hy36, wn, h0, hcc, cm, gb, bols_true, all_true, wipeD]
  · have cut : cutG X none (some ((X.length : Int) - 1)) = w := by rw [← hX]; exact cut_init
    have hy : X.getLast? = some 36 := by rw [← hX]; simp
    simp (disch := first | with_reducible assumption | omega | with_reducible exact size_le (by omega) | decide | (simp only [List.length_cons, List.length_nil, List.length_append]; first | omega | with_reducible exact size_le (by omega)) | exact ⟨by simp only [List.length_cons, List.length_nil]; omega, by decide⟩ | fail) [-getElem?_pos, -getElem?_neg, -Int.natCast_add, le_size, rngR_ok, mul_int, mod_int, div_int, pow_int, add_str, len_str, len_refU, idx_refU, any_refU, all_refU, in_refU, in_tupU, okTo_appU, append_U, it_refU, join_refU, add_refU, isi_refU, idx_str, slc_str, str_int, int_str, meOf, List.lookup, fldOf, putN, putR_ok, List.getElem?_cons_zero, List.getElem?_cons_succ, List.getElem?_concat_length, get_app, get_app0, en_refU, mul_refU, tupF_refU, slc_refU, a1, a2, a3, a4, strs_map, last, hy, wn, h0, hcc, cut, cm, gb, bols_true, all_true, wipeD]
theorem c_istext (n : Nat) {x : Tx} (hl : x.length ≤ 60) (hs : ∀ c ∈ x, signB c = true ∧ c ≠ 34) (h : DH) : ∃ g, callN T (n + 2) 17 [.str x] h = .ok (.bl true) (h ++ g) := by
  refine ⟨[.lst (x.map fun _ => .bl true)], ?_⟩
  rw [call_eq (k := n + 1) (fn := q17.fn) rfl rfl]
  simp only [Def1.fn, q17, b_is_text, c_MOST_TEXT]
  have hz : x.length ≤ sizeLine := size_le (by omega)
  have a1 : ¬ (60 : Int) < (x.length : Int) := by omega
  have cm : compL none (stName 1) mTrue (t_is_text_1 (callN T (n + 1))) [some (.str x), none] (x.map fun c => .str [c]) h = .ok (x.map fun _ => .bl true) h := by
    rw [compL_map (fun _ => .bl true) still_none, List.map_map]
    · rfl
    · intro d hd
      obtain ⟨c, hcm, rfl⟩ := List.mem_map.mp hd
      refine ⟨_, rfl, rfl, ?_⟩
      obtain ⟨h1, h2⟩ := hs c hcm
      have z := c_sign n c h
      rw [h1] at z
      simp only [t_is_text_1]
      simp (disch := first | with_reducible assumption | omega | with_reducible exact size_le (by omega) | decide | (simp only [List.length_cons, List.length_nil, List.length_append]; first | omega | with_reducible exact size_le (by omega)) | exact ⟨by simp only [List.length_cons, List.length_nil]; omega, by decide⟩ | fail) [-getElem?_pos, -getElem?_neg, -Int.natCast_add, le_size, rngR_ok, mul_int, mod_int, div_int, pow_int, add_str, len_str, len_refU, idx_refU, any_refU, all_refU, in_refU, in_tupU, okTo_appU, append_U, it_refU, join_refU, add_refU, isi_refU, idx_str, slc_str, str_int, int_str, meOf, List.lookup, fldOf, putN, putR_ok, List.getElem?_cons_zero, List.getElem?_cons_succ, List.getElem?_concat_length, get_app, get_app0, en_refU, mul_refU, tupF_refU, slc_refU, z, h2]
  have gb : (h ++ [O.lst (x.map fun _ => D.bl true)])[h.length]? = some (.lst (x.map fun _ => D.bl true)) := List.getElem?_concat_length
  simp (disch := first | with_reducible assumption | omega | with_reducible exact size_le (by omega) | decide | (simp only [List.length_cons, List.length_nil, List.length_append]; first | omega | with_reducible exact size_le (by omega)) | exact ⟨by simp only [List.length_cons, List.length_nil]; omega, by decide⟩ | fail) [-getElem?_pos, -getElem?_neg, -Int.natCast_add, le_size, rngR_ok, mul_int, mod_int, div_int, pow_int, add_str, len_str, len_refU, idx_refU, any_refU, all_refU, in_refU, in_tupU, okTo_appU, append_U, it_refU, join_refU, add_refU, isi_refU, idx_str, slc_str, str_int, int_str, meOf, List.lookup, fldOf, putN, putR_ok, List.getElem?_cons_zero, List.getElem?_cons_succ, List.getElem?_concat_length, get_app, get_app0, en_refU, mul_refU, tupF_refU, slc_refU, a1, cm, gb, bols_true, all_true, wipeD]
theorem c_iscount (n : Nat) {v a b : Int} (h1 : a ≤ v) (h2 : v ≤ b) (h : DH) : callN T (n + 1) 15 [.int v, .int a, .int b] h = .ok (.bl true) h := by
  rw [call_eq (fn := q15.fn) rfl rfl]
  simp only [Def1.fn, q15, b_is_count]
  simp (disch := first | with_reducible assumption | omega | with_reducible exact size_le (by omega) | decide | (simp only [List.length_cons, List.length_nil, List.length_append]; first | omega | with_reducible exact size_le (by omega)) | exact ⟨by simp only [List.length_cons, List.length_nil]; omega, by decide⟩ | fail) [-getElem?_pos, -getElem?_neg, -Int.natCast_add, le_size, rngR_ok, mul_int, mod_int, div_int, pow_int, add_str, len_str, len_refU, idx_refU, any_refU, all_refU, in_refU, in_tupU, okTo_appU, append_U, it_refU, join_refU, add_refU, isi_refU, idx_str, slc_str, str_int, int_str, meOf, List.lookup, fldOf, putN, putR_ok, List.getElem?_cons_zero, List.getElem?_cons_succ, List.getElem?_concat_length, get_app, get_app0, en_refU, mul_refU, tupF_refU, slc_refU, h1, h2]
theorem lookup_mem {x : Tx} : ∀ {l : List (Tx × D)} {d : D}, l.lookup x = some d → ∃ q ∈ l, q.2 = d
  | [], _, e => by cases e
  | (y, v) :: r, d, e => by
    rw [List.lookup_cons] at e
    cases t : x == y with
    | true => rw [t] at e; cases e; exact ⟨_, List.mem_cons_self, rfl⟩
    | false =>
      rw [t] at e
      obtain ⟨q, hq, e⟩ := lookup_mem e
      exact ⟨q, List.mem_cons_of_mem _ hq, e⟩
theorem kinds_len {x ks : Tx} (hx : k_KINDS.lookup x = some (.str ks)) : ks.length ≤ sizeLine := by
  have key : ∀ q ∈ k_KINDS, ∀ ks, q.2 = .str ks → ks.length ≤ 3 := by
    intro q hq ks e
    simp only [k_KINDS, List.mem_cons, List.not_mem_nil, or_false] at hq
    rcases hq with rfl | rfl | rfl | rfl | rfl | rfl | rfl | rfl | rfl <;> (cases e; decide)
  obtain ⟨q, hq, e2⟩ := lookup_mem hx
  exact size_le (Nat.le_trans (key q hq ks e2) (by decide))
theorem cut_natG {α : Type} {xs : List α} {a : Nat} : cutG xs (some (a : Int)) none = xs.drop a := by
  unfold cutG
  rw [HT.sIx_nat, HT.sIx_none]
  by_cases ha : a ≤ xs.length
  · rw [Nat.min_eq_left ha, List.take_of_length_le (by rw [List.length_drop]; omega)]
  · rw [Nat.min_eq_right (by omega), List.drop_of_length_le (by omega), List.drop_of_length_le (by omega)]
    simp
end K20

namespace K20
open PySem L2 Mp
/-- a term as it must be, so high at most -/
inductive VT : Tm → Nat → Prop
  | num {v : Int} {d : Nat} : 0 ≤ v → v ≤ 999999999 → VT (.num v) (d + 1)
  | text {x : Tx} {d : Nat} : x.length ≤ 60 → (∀ c ∈ x, signB c = true ∧ c ≠ 34) → VT (.text x) (d + 1)
  | name {x : Tx} {d : Nat} : NameV x → VT (.name x) (d + 1)
  | cell {x : Tx} {as : List Tm} {d : Nat} : NameV x → (as.length = 1 ∨ as.length = 2) → (∀ t ∈ as, VT t d) → VT (.cell x as) (d + 1)
  | call {x ks : Tx} {as : List Tm} {d : Nat} : k_KINDS.lookup x = some (.str ks) → as.length = ks.length → (∀ t ∈ as, VT t d) → VT (.call x as) (d + 1)
  | minus {t : Tm} {d : Nat} : VT t d → VT (.minus t) (d + 1)
  | not {t : Tm} {d : Nat} : VT t d → VT (.not t) (d + 1)
  | op {o : Tx} {a b : Tm} {d : Nat} : (opStr o).isSome = true → VT a d → VT b d → VT (.op o a b) (d + 1)
theorem VT.mono {t : Tm} {d : Nat} (v : VT t d) : ∀ {d' : Nat}, d ≤ d' → VT t d' := by
  induction v with
  | num h1 h2 => intro d' h; obtain ⟨k, rfl⟩ : ∃ k, d' = k + 1 := ⟨d' - 1, by omega⟩; exact .num h1 h2
  | text h1 h2 => intro d' h; obtain ⟨k, rfl⟩ : ∃ k, d' = k + 1 := ⟨d' - 1, by omega⟩; exact .text h1 h2
  | name h1 => intro d' h; obtain ⟨k, rfl⟩ : ∃ k, d' = k + 1 := ⟨d' - 1, by omega⟩; exact .name h1
  | cell h1 h2 _ ih => intro d' h; obtain ⟨k, rfl⟩ : ∃ k, d' = k + 1 := ⟨d' - 1, by omega⟩; exact .cell h1 h2 fun t ht => ih t ht (by omega)
  | call h1 h2 _ ih => intro d' h; obtain ⟨k, rfl⟩ : ∃ k, d' = k + 1 := ⟨d' - 1, by omega⟩; exact .call h1 h2 fun t ht => ih t ht (by omega)
  | minus _ ih => intro d' h; obtain ⟨k, rfl⟩ : ∃ k, d' = k + 1 := ⟨d' - 1, by omega⟩; exact .minus (ih (by omega))
  | not _ ih => intro d' h; obtain ⟨k, rfl⟩ : ∃ k, d' = k + 1 := ⟨d' - 1, by omega⟩; exact .not (ih (by omega))
  | op h1 _ _ i1 i2 => intro d' h; obtain ⟨k, rfl⟩ : ∃ k, d' = k + 1 := ⟨d' - 1, by omega⟩; exact .op h1 (i1 (by omega)) (i2 (by omega))
theorem c_needall (k : Nat) {as : List Tm} {deep : Int} (ih : ∀ t ∈ as, ∀ h, ∃ g, callN T (k + 1) 21 [tmD t, .int deep] h = .ok .non (h ++ g)) (h : DH) : ∃ g, callN T (k + 2) 18 [.tup (tmDs as), .int deep] h = .ok .non (h ++ g) := by
  have lp : ∀ (bs : List Tm), (∀ t ∈ bs, t ∈ as) → ∀ (z : Option D) (h : DH), ∃ y g, forL none (stName 2) (l_need_all_1 (callN T (k + 1))) (tmDs bs) [some (.tup (tmDs as)), some (.int deep), z] h = .nx [some (.tup (tmDs as)), some (.int deep), y] (h ++ g) := by
    intro bs
    induction bs with
    | nil =>
      intro _ z h
      exact ⟨z, [], by rw [tmDs, forL_nil still_none, List.append_nil]⟩
    | cons t bs ihb =>
      intro hm z h
      obtain ⟨g, e⟩ := ih t (hm t List.mem_cons_self) h
      obtain ⟨y, g2, e2⟩ := ihb (fun x hx => hm x (List.mem_cons_of_mem _ hx)) (some (tmD t)) (h ++ g)
      refine ⟨y, g ++ g2, ?_⟩
      rw [tmDs, forL_cons still_none rfl]
      have eb : l_need_all_1 (callN T (k + 1)) ([some (.tup (tmDs as)), some (.int deep), z].set 2 (some (tmD t))) h = .nx [some (.tup (tmDs as)), some (.int deep), some (tmD t)] (h ++ g) := by
        simp only [l_need_all_1]
        simp (disch := first | with_reducible assumption | omega | with_reducible exact size_le (by omega) | decide | (simp only [List.length_cons, List.length_nil, List.length_append]; first | omega | with_reducible exact size_le (by omega)) | exact ⟨by simp only [List.length_cons, List.length_nil]; omega, by decide⟩ | fail) [-getElem?_pos, -getElem?_neg, -Int.natCast_add, le_size, rngR_ok, mul_int, mod_int, div_int, pow_int, add_str, len_str, len_refU, idx_refU, any_refU, all_refU, in_refU, in_tupU, okTo_appU, append_U, it_refU, join_refU, add_refU, isi_refU, idx_str, slc_str, str_int, int_str, meOf, List.lookup, fldOf, putN, putR_ok, List.getElem?_cons_zero, List.getElem?_cons_succ, List.getElem?_concat_length, get_app, get_app0, en_refU, mul_refU, tupF_refU, slc_refU, e]
      rw [eb, nxt_nx, e2, List.append_assoc]
  obtain ⟨y, g, e⟩ := lp as (fun _ ht => ht) none h
  refine ⟨g, ?_⟩
  rw [call_eq (k := k + 1) (fn := q18.fn) rfl rfl]
  simp only [Def1.fn, q18, b_need_all]
  have z := c_needt k h
  simp (disch := first | with_reducible assumption | omega | with_reducible exact size_le (by omega) | decide | (simp only [List.length_cons, List.length_nil, List.length_append]; first | omega | with_reducible exact size_le (by omega)) | exact ⟨by simp only [List.length_cons, List.length_nil]; omega, by decide⟩ | fail) [-getElem?_pos, -getElem?_neg, -Int.natCast_add, le_size, rngR_ok, mul_int, mod_int, div_int, pow_int, add_str, len_str, len_refU, idx_refU, any_refU, all_refU, in_refU, in_tupU, okTo_appU, append_U, it_refU, join_refU, add_refU, isi_refU, idx_str, slc_str, str_int, int_str, meOf, List.lookup, fldOf, putN, putR_ok, List.getElem?_cons_zero, List.getElem?_cons_succ, List.getElem?_concat_length, get_app, get_app0, en_refU, mul_refU, tupF_refU, slc_refU, z, e]
theorem at0 {a b : D} {r : List D} : atI (a :: b :: r) 0 = some a ∧ atI (a :: b :: r) 1 = some b := by
  have h0 := atI_nat (a :: b :: r) 0 (by simp)
  have h1 := atI_nat (a :: b :: r) 1 (by simp)
  exact ⟨h0, h1⟩
theorem at2 {a b c : D} {r : List D} : atI (a :: b :: c :: r) 2 = some c := atI_nat (a :: b :: c :: r) 2 (by simp)
theorem needterm_ok {t : Tm} {d : Nat} (v : VT t d) : ∀ (e : Nat) (deep : Int) (h : DH), deep + d ≤ 21 → ∃ g, callN T (e + 2 * d + 3) 21 [tmD t, .int deep] h = .ok .non (h ++ g) := by
  have key : ∀ (k : Nat) (ds : List D) (deep : Int) (h : DH), callN T (k + 1) 21 [.tup ds, .int deep] h = finO (b_need_term (callN T k) ([D.tup ds, D.int deep].map some ++ List.replicate (3 - 2) none) h) := fun k ds deep h => call_eq (fn := q21.fn) rfl rfl
  induction v with
  | @num v d h1 h2 =>
    intro e deep h hd
    have hd2 : deep ≤ 20 := by omega
    refine ⟨[], ?_⟩
    rw [List.append_nil, tmD, key (e + 2 * (d + 1) + 2)]
    simp only [b_need_term, c_MOST_WITHIN, c_MOST_NUMBER]
    have z := c_needt (e + 2 * (d + 1) + 1) h
    have y := c_iscount (e + 2 * (d + 1) + 1) h1 h2 h
    simp (disch := first | with_reducible assumption | omega | with_reducible exact size_le (by omega) | decide | (simp only [List.length_cons, List.length_nil, List.length_append]; first | omega | with_reducible exact size_le (by omega)) | exact ⟨by simp only [List.length_cons, List.length_nil]; omega, by decide⟩ | fail) [-getElem?_pos, -getElem?_neg, -Int.natCast_add, le_size, rngR_ok, mul_int, mod_int, div_int, pow_int, add_str, len_str, len_refU, idx_refU, any_refU, all_refU, in_refU, in_tupU, okTo_appU, append_U, it_refU, join_refU, add_refU, isi_refU, idx_str, slc_str, str_int, int_str, meOf, List.lookup, fldOf, putN, putR_ok, List.getElem?_cons_zero, List.getElem?_cons_succ, List.getElem?_concat_length, get_app, get_app0, en_refU, mul_refU, tupF_refU, slc_refU, hd2, at0, z, y]
  | @text x d h1 h2 =>
    intro e deep h hd
    have hd2 : deep ≤ 20 := by omega
    obtain ⟨g, y⟩ := c_istext (e + 2 * (d + 1)) h1 h2 h
    refine ⟨g, ?_⟩
    rw [tmD, key (e + 2 * (d + 1) + 2)]
    simp only [b_need_term, c_MOST_WITHIN, c_MOST_NUMBER]
    have z := c_needt (e + 2 * (d + 1) + 1) h
    have z2 := c_needt (e + 2 * (d + 1) + 1) (h ++ g)
    simp (disch := first | with_reducible assumption | omega | with_reducible exact size_le (by omega) | decide | (simp only [List.length_cons, List.length_nil, List.length_append]; first | omega | with_reducible exact size_le (by omega)) | exact ⟨by simp only [List.length_cons, List.length_nil]; omega, by decide⟩ | fail) [-getElem?_pos, -getElem?_neg, -Int.natCast_add, le_size, rngR_ok, mul_int, mod_int, div_int, pow_int, add_str, len_str, len_refU, idx_refU, any_refU, all_refU, in_refU, in_tupU, okTo_appU, append_U, it_refU, join_refU, add_refU, isi_refU, idx_str, slc_str, str_int, int_str, meOf, List.lookup, fldOf, putN, putR_ok, List.getElem?_cons_zero, List.getElem?_cons_succ, List.getElem?_concat_length, get_app, get_app0, en_refU, mul_refU, tupF_refU, slc_refU, hd2, at0, z, y, z2]
  | @name x d h1 =>
    intro e deep h hd
    have hd2 : deep ≤ 20 := by omega
    obtain ⟨g, y⟩ := c_isname (e + 2 * (d + 1) + 1) h1 h
    refine ⟨g, ?_⟩
    rw [tmD, key (e + 2 * (d + 1) + 2)]
    simp only [b_need_term, c_MOST_WITHIN, c_MOST_NUMBER]
    have z := c_needt (e + 2 * (d + 1) + 1) h
    have z2 := c_needt (e + 2 * (d + 1) + 1) (h ++ g)
    simp (disch := first | with_reducible assumption | omega | with_reducible exact size_le (by omega) | decide | (simp only [List.length_cons, List.length_nil, List.length_append]; first | omega | with_reducible exact size_le (by omega)) | exact ⟨by simp only [List.length_cons, List.length_nil]; omega, by decide⟩ | fail) [-getElem?_pos, -getElem?_neg, -Int.natCast_add, le_size, rngR_ok, mul_int, mod_int, div_int, pow_int, add_str, len_str, len_refU, idx_refU, any_refU, all_refU, in_refU, in_tupU, okTo_appU, append_U, it_refU, join_refU, add_refU, isi_refU, idx_str, slc_str, str_int, int_str, meOf, List.lookup, fldOf, putN, putR_ok, List.getElem?_cons_zero, List.getElem?_cons_succ, List.getElem?_concat_length, get_app, get_app0, en_refU, mul_refU, tupF_refU, slc_refU, hd2, at0, z, y, z2]
  | @cell x as d h1 h2 _ ih =>
    intro e deep h hd
    have hd2 : deep ≤ 20 := by omega
    obtain ⟨g, y⟩ := c_isname (e + 2 * (d + 1) + 1) h1 h
    obtain ⟨g2, y2⟩ := c_needall (e + 2 * d + 2) (as := as) (deep := deep + 1) (fun t ht h => ih t ht e (deep + 1) h (by omega)) (h ++ g)
    have y2' : callN T (e + 2 * (d + 1) + 2) 18 [.tup (tmDs as), .int (deep + 1)] (h ++ g) = .ok .non (h ++ g ++ g2) := y2
    refine ⟨g ++ g2, ?_⟩
    rw [tmD, key (e + 2 * (d + 1) + 2)]
    simp only [b_need_term, c_MOST_WITHIN, c_MOST_NUMBER]
    have z := c_needt (e + 2 * (d + 1) + 1) h
    have z2 := c_needt (e + 2 * (d + 1) + 1) (h ++ g)
    have z3 := c_needt (e + 2 * (d + 1) + 1) (h ++ g ++ g2)
    have hl : (tmDs as).length = as.length := by rw [tmDs_map, List.length_map]
    have hm : decide (((as.length : Int)) ∈ ([1, 2] : List Int)) = true := by
      rcases h2 with ha | ha <;> rw [ha] <;> decide
    generalize hH : h ++ g = H at *
    rw [show h ++ (g ++ g2) = H ++ g2 by rw [← hH]; simp]
    simp (disch := first | with_reducible assumption | omega | with_reducible exact size_le (by omega) | decide | (simp only [List.length_cons, List.length_nil, List.length_append]; first | omega | with_reducible exact size_le (by omega)) | exact ⟨by simp only [List.length_cons, List.length_nil]; omega, by decide⟩ | fail) [-getElem?_pos, -getElem?_neg, -Int.natCast_add, le_size, rngR_ok, mul_int, mod_int, div_int, pow_int, add_str, len_str, len_refU, idx_refU, any_refU, all_refU, in_refU, in_tupU, okTo_appU, append_U, it_refU, join_refU, add_refU, isi_refU, idx_str, slc_str, str_int, int_str, meOf, List.lookup, fldOf, putN, putR_ok, List.getElem?_cons_zero, List.getElem?_cons_succ, List.getElem?_concat_length, get_app, get_app0, en_refU, mul_refU, tupF_refU, slc_refU, hd2, at0, at2, z, y, z2, y2', z3, hl, intsOf, -List.mem_cons, hm]
  | @call x ks as d h1 h2 _ ih =>
    intro e deep h hd
    have hd2 : deep ≤ 20 := by omega
    obtain ⟨g2, y2⟩ := c_needall (e + 2 * d + 2) (as := as) (deep := deep + 1) (fun t ht h => ih t ht e (deep + 1) h (by omega)) h
    have y2' : callN T (e + 2 * (d + 1) + 2) 18 [.tup (tmDs as), .int (deep + 1)] h = .ok .non (h ++ g2) := y2
    refine ⟨g2, ?_⟩
    rw [tmD, key (e + 2 * (d + 1) + 2)]
    simp only [b_need_term, c_MOST_WITHIN, c_MOST_NUMBER]
    have z := c_needt (e + 2 * (d + 1) + 1) h
    have z3 := c_needt (e + 2 * (d + 1) + 1) (h ++ g2)
    have hl : (tmDs as).length = as.length := by rw [tmDs_map, List.length_map]
    have hks : ks.length ≤ sizeLine := kinds_len h1
    simp (disch := first | with_reducible assumption | omega | with_reducible exact size_le (by omega) | decide | (simp only [List.length_cons, List.length_nil, List.length_append]; first | omega | with_reducible exact size_le (by omega)) | exact ⟨by simp only [List.length_cons, List.length_nil]; omega, by decide⟩ | fail) [-getElem?_pos, -getElem?_neg, -Int.natCast_add, le_size, rngR_ok, mul_int, mod_int, div_int, pow_int, add_str, len_str, len_refU, idx_refU, any_refU, all_refU, in_refU, in_tupU, okTo_appU, append_U, it_refU, join_refU, add_refU, isi_refU, idx_str, slc_str, str_int, int_str, meOf, List.lookup, fldOf, putN, putR_ok, List.getElem?_cons_zero, List.getElem?_cons_succ, List.getElem?_concat_length, get_app, get_app0, en_refU, mul_refU, tupF_refU, slc_refU, hd2, at0, at2, z, y2', z3, hl, h1, h2, hks]
  | @minus t d _ ih =>
    intro e deep h hd
    have hd2 : deep ≤ 20 := by omega
    obtain ⟨g2, y2⟩ := ih (e + 1) (deep + 1) h (by omega)
    have y2' : callN T (e + 2 * (d + 1) + 2) 21 [tmD t, .int (deep + 1)] h = .ok .non (h ++ g2) := by
      rw [show e + 2 * (d + 1) + 2 = e + 1 + 2 * d + 3 by omega]
      exact y2
    refine ⟨g2, ?_⟩
    rw [tmD, key (e + 2 * (d + 1) + 2)]
    simp only [b_need_term, c_MOST_WITHIN, c_MOST_NUMBER]
    have z := c_needt (e + 2 * (d + 1) + 1) h
    simp (disch := first | with_reducible assumption | omega | with_reducible exact size_le (by omega) | decide | (simp only [List.length_cons, List.length_nil, List.length_append]; first | omega | with_reducible exact size_le (by omega)) | exact ⟨by simp only [List.length_cons, List.length_nil]; omega, by decide⟩ | fail) [-getElem?_pos, -getElem?_neg, -Int.natCast_add, le_size, rngR_ok, mul_int, mod_int, div_int, pow_int, add_str, len_str, len_refU, idx_refU, any_refU, all_refU, in_refU, in_tupU, okTo_appU, append_U, it_refU, join_refU, add_refU, isi_refU, idx_str, slc_str, str_int, int_str, meOf, List.lookup, fldOf, putN, putR_ok, List.getElem?_cons_zero, List.getElem?_cons_succ, List.getElem?_concat_length, get_app, get_app0, en_refU, mul_refU, tupF_refU, slc_refU, hd2, at0, at2, z, y2', strsOf]
  | @not t d _ ih =>
    intro e deep h hd
    have hd2 : deep ≤ 20 := by omega
    obtain ⟨g2, y2⟩ := ih (e + 1) (deep + 1) h (by omega)
    have y2' : callN T (e + 2 * (d + 1) + 2) 21 [tmD t, .int (deep + 1)] h = .ok .non (h ++ g2) := by
      rw [show e + 2 * (d + 1) + 2 = e + 1 + 2 * d + 3 by omega]
      exact y2
    refine ⟨g2, ?_⟩
    rw [tmD, key (e + 2 * (d + 1) + 2)]
    simp only [b_need_term, c_MOST_WITHIN, c_MOST_NUMBER]
    have z := c_needt (e + 2 * (d + 1) + 1) h
    simp (disch := first | with_reducible assumption | omega | with_reducible exact size_le (by omega) | decide | (simp only [List.length_cons, List.length_nil, List.length_append]; first | omega | with_reducible exact size_le (by omega)) | exact ⟨by simp only [List.length_cons, List.length_nil]; omega, by decide⟩ | fail) [-getElem?_pos, -getElem?_neg, -Int.natCast_add, le_size, rngR_ok, mul_int, mod_int, div_int, pow_int, add_str, len_str, len_refU, idx_refU, any_refU, all_refU, in_refU, in_tupU, okTo_appU, append_U, it_refU, join_refU, add_refU, isi_refU, idx_str, slc_str, str_int, int_str, meOf, List.lookup, fldOf, putN, putR_ok, List.getElem?_cons_zero, List.getElem?_cons_succ, List.getElem?_concat_length, get_app, get_app0, en_refU, mul_refU, tupF_refU, slc_refU, hd2, at0, at2, z, y2', strsOf]
  | @op o a b d h1 _ _ i1 i2 =>
    intro e deep h hd
    have hd2 : deep ≤ 20 := by omega
    obtain ⟨g2, y2⟩ := c_needall (e + 2 * d + 2) (as := [a, b]) (deep := deep + 1) (fun t ht h => by
      rcases List.mem_cons.mp ht with rfl | ht
      · exact i1 e (deep + 1) h (by omega)
      · rw [List.mem_singleton] at ht
        subst ht
        exact i2 e (deep + 1) h (by omega)) h
    have y2' : callN T (e + 2 * (d + 1) + 2) 18 [.tup [tmD a, tmD b], .int (deep + 1)] h = .ok .non (h ++ g2) := y2
    refine ⟨g2, ?_⟩
    rw [tmD, key (e + 2 * (d + 1) + 2)]
    simp only [b_need_term, c_MOST_WITHIN, c_MOST_NUMBER]
    have z := c_needt (e + 2 * (d + 1) + 1) h
    have y := c_isop (e + 2 * (d + 1) + 1) o h
    rw [h1] at y
    have cut : cutG [D.str [111, 112], D.str o, tmD a, tmD b] (some 2) none = [tmD a, tmD b] := by
      have := cut_natG (xs := [D.str [111, 112], D.str o, tmD a, tmD b]) (a := 2)
      exact this
    simp (disch := first | with_reducible assumption | omega | with_reducible exact size_le (by omega) | decide | (simp only [List.length_cons, List.length_nil, List.length_append]; first | omega | with_reducible exact size_le (by omega)) | exact ⟨by simp only [List.length_cons, List.length_nil]; omega, by decide⟩ | fail) [-getElem?_pos, -getElem?_neg, -Int.natCast_add, le_size, rngR_ok, mul_int, mod_int, div_int, pow_int, add_str, len_str, len_refU, idx_refU, any_refU, all_refU, in_refU, in_tupU, okTo_appU, append_U, it_refU, join_refU, add_refU, isi_refU, idx_str, slc_str, str_int, int_str, meOf, List.lookup, fldOf, putN, putR_ok, List.getElem?_cons_zero, List.getElem?_cons_succ, List.getElem?_concat_length, get_app, get_app0, en_refU, mul_refU, tupF_refU, slc_refU, hd2, at0, at2, z, y, y2', strsOf, cut]
end K20

namespace K20
open PySem L2 Mp
theorem c_rinit (n : Nat) {h : DH} {i l : Nat} (hg : h[i]? = some (.ins 0 [])) : callN T (n + 1) 27 [.ref i, .ref l] h = .ok .non (h.set i (rdo l 0)) := by
  rw [call_eq (fn := q27.fn) rfl rfl]
  simp only [Def1.fn, q27, b_Reader_init]
  have hi := lt_of_get hg
  have g2 : (h.set i (.ins 0 [(0, .ref l)]))[i]? = some (.ins 0 [(0, .ref l)]) := get_set hi
  simp (disch := first | with_reducible assumption | omega | with_reducible exact size_le (by omega) | decide | (simp only [List.length_cons, List.length_nil, List.length_append]; first | omega | with_reducible exact size_le (by omega)) | exact ⟨by simp only [List.length_cons, List.length_nil]; omega, by decide⟩ | fail) [-getElem?_pos, -getElem?_neg, -Int.natCast_add, le_size, rngR_ok, mul_int, mod_int, div_int, pow_int, add_str, len_str, len_refU, idx_refU, any_refU, all_refU, in_refU, in_tupU, okTo_appU, append_U, it_refU, join_refU, add_refU, isi_refU, idx_str, slc_str, str_int, int_str, meOf, List.lookup, fldOf, putN, putR_ok, List.getElem?_cons_zero, List.getElem?_cons_succ, List.getElem?_concat_length, get_app, get_app0, en_refU, mul_refU, tupF_refU, slc_refU, hg, g2, rdo]
theorem c_termby (e m d : Nat) {h : DH} {i lr : Nat} {ts b : List Tok} {p : Nat} {t : Tm} {n : Nat} (s : St h i lr ts p) (r : Rk (.term 1) (ts.drop p) b [t] n m) (hn : n ≤ 19) (v : VT t d) (hd : d ≤ 20) :
    ∃ g p', ts.drop p' = b ∧ callN T (e + m + 2 * d + 7) 36 [.ref i] h = .ok (tmD t) (h.set i (rdo lr p') ++ g) := by
  obtain ⟨g, p', e1, z1⟩ := rk_ok r t rfl (e + 2 * d + 1) h i lr ts p 1 s rfl (by omega)
  have z1' : callN T (e + m + 2 * d + 6) 35 [.ref i, .int 1, .int 1] h = .ok (tmD t) (h.set i (rdo lr p') ++ g) := by
    rw [show e + m + 2 * d + 6 = e + 2 * d + 1 + m + 5 by omega]
    exact z1
  obtain ⟨g2, z2⟩ := needterm_ok v (e + m + 3) 1 (h.set i (rdo lr p') ++ g) (by omega)
  have z2' : callN T (e + m + 2 * d + 6) 21 [tmD t, .int 1] (h.set i (rdo lr p') ++ g) = .ok .non (h.set i (rdo lr p') ++ g ++ g2) := by
    rw [show e + m + 2 * d + 6 = e + m + 3 + 2 * d + 3 by omega]
    exact z2
  refine ⟨g ++ g2, p', e1, ?_⟩
  rw [call_eq (k := e + m + 2 * d + 6) (fn := q36.fn) rfl rfl]
  simp only [Def1.fn, q36, b_term_by]
  have hr := s.ri
  generalize hH : h.set i (rdo lr p') ++ g = H at *
  rw [show h.set i (rdo lr p') ++ (g ++ g2) = H ++ g2 by rw [← hH]; simp]
  simp (disch := first | with_reducible assumption | omega | with_reducible exact size_le (by omega) | decide | (simp only [List.length_cons, List.length_nil, List.length_append]; first | omega | with_reducible exact size_le (by omega)) | exact ⟨by simp only [List.length_cons, List.length_nil]; omega, by decide⟩ | fail) [-getElem?_pos, -getElem?_neg, -Int.natCast_add, le_size, rngR_ok, mul_int, mod_int, div_int, pow_int, add_str, len_str, len_refU, idx_refU, any_refU, all_refU, in_refU, in_tupU, okTo_appU, append_U, it_refU, join_refU, add_refU, isi_refU, idx_str, slc_str, str_int, int_str, meOf, List.lookup, fldOf, putN, putR_ok, List.getElem?_cons_zero, List.getElem?_cons_succ, List.getElem?_concat_length, get_app, get_app0, en_refU, mul_refU, tupF_refU, slc_refU, hr, z1', z2']
theorem c_termof (e m d : Nat) {x : Tx} {ts : List Tok} {t : Tm} {n : Nat} (h : DH) (hl : x.length ≤ 200) (hs : ∀ c ∈ x, signB c = true) (L : Lex (dw [32] x) ts) (ht : ts.length ≤ 1000) (gd : ∀ t ∈ ts, GoodT t) (r : Rk (.term 1) ts [] [t] n m) (hn : n ≤ 19) (v : VT t d) (hd : d ≤ 20) :
    ∃ g, callN T (e + m + 2 * d + 9) 48 [.str x] h = .ok (tmD t) (h ++ g) := by
  obtain ⟨o1, o2, z0⟩ := c_tokens (n := e + m + 2 * d + 2) h hl hs L ht
  generalize hL : O.lst (ts.map tokD) = LL at z0
  have zi := c_rinit (e + m + 2 * d + 6) (h := h ++ [o1, o2, LL, .ins 0 []]) (i := h.length + 3) (l := h.length + 2) (by simp)
  have ei : (h ++ [o1, o2, LL, .ins 0 []]).set (h.length + 3) (rdo (h.length + 2) 0) = h ++ [o1, o2, LL, rdo (h.length + 2) 0] := by simp
  rw [ei] at zi
  have s : St (h ++ [o1, o2, LL, rdo (h.length + 2) 0]) (h.length + 3) (h.length + 2) ts 0 := ⟨by simp, by simp [hL], by omega, gd, ht⟩
  obtain ⟨g, p', e1, z1⟩ := c_termby e m d s (by rw [List.drop_zero]; exact r) hn v hd
  have s2 := (s.set p').app g
  have pk := c_peek (e + m + 2 * d + 6) s2
  rw [e1] at pk
  have er : (h ++ [o1, o2, LL, rdo (h.length + 2) 0]).set (h.length + 3) (rdo (h.length + 2) p') ++ g = h ++ ([o1, o2, LL, rdo (h.length + 2) p'] ++ g) := by simp
  have zn := c_needt (e + m + 2 * d + 6) (h ++ ([o1, o2, LL, rdo (h.length + 2) p'] ++ g))
  refine ⟨[o1, o2, LL, rdo (h.length + 2) p'] ++ g, ?_⟩
  have hr2 := s2.ri
  rw [er] at z1 pk hr2
  rw [call_eqM (k := e + m + 2 * d + 7) (fn := q48.fn) rfl rfl]
  simp only [Def1.fn, q48, b_term_of]
  have le : (h ++ [o1, o2, LL]).length = h.length + 3 := by simp
  have ap : h ++ [o1, o2, LL] ++ [O.ins 0 []] = h ++ [o1, o2, LL, .ins 0 []] := by simp
  generalize h ++ ([o1, o2, LL, rdo (h.length + 2) p'] ++ g) = H4 at *
  generalize h ++ [o1, o2, LL, rdo (h.length + 2) 0] = H3 at *
  generalize hH2 : h ++ [o1, o2, LL, .ins 0 []] = H2 at *
  generalize hH1 : h ++ [o1, o2, LL] = H1 at *
  simp (disch := first | with_reducible assumption | omega | with_reducible exact size_le (by omega) | decide | (simp only [List.length_cons, List.length_nil, List.length_append]; first | omega | with_reducible exact size_le (by omega)) | exact ⟨by simp only [List.length_cons, List.length_nil]; omega, by decide⟩ | fail) [-getElem?_pos, -getElem?_neg, -Int.natCast_add, le_size, rngR_ok, mul_int, mod_int, div_int, pow_int, add_str, len_str, len_refU, idx_refU, any_refU, all_refU, in_refU, in_tupU, okTo_appU, append_U, it_refU, join_refU, add_refU, isi_refU, idx_str, slc_str, str_int, int_str, meOf, List.lookup, fldOf, putN, putR_ok, List.getElem?_cons_zero, List.getElem?_cons_succ, List.getElem?_concat_length, get_app, get_app0, en_refU, mul_refU, tupF_refU, slc_refU, z0, le, ap, zi, z1, pk, hr2, pkD, endD, at0, zn]
end K20

namespace K20
open PySem L2 Mp
/-! ### data that may be compared -/
def pyOk (d : D) (k : Nat) : Prop := ∃ p, pyD d = some p ∧ p.canLay0 = true ∧ p.depth ≤ k
def pyOks (ds : List D) (k : Nat) : Prop := ∃ ps, pyL ds = some ps ∧ PyData.canLayAll0 ps = true ∧ PyData.depthAll ps ≤ k
def GoodX (x : Tx) : Prop := ∀ c ∈ x, c < 1114112
theorem ok_str {x : Tx} {k : Nat} (g : GoodX x) : pyOk (.str x) k := ⟨_, rfl, strOk_of g, Nat.zero_le _⟩
theorem ok_int {i : Int} {k : Nat} : pyOk (.int i) k := ⟨_, rfl, rfl, Nat.zero_le _⟩
theorem ok_non {k : Nat} : pyOk .non k := ⟨_, rfl, rfl, Nat.zero_le _⟩
theorem ok_nil {k : Nat} : pyOks [] k := ⟨[], rfl, rfl, Nat.zero_le _⟩
theorem ok_cons {d : D} {ds : List D} {k : Nat} (h : pyOk d k) (hs : pyOks ds k) : pyOks (d :: ds) k := by
  obtain ⟨p, e1, e2, e3⟩ := h
  obtain ⟨ps, f1, f2, f3⟩ := hs
  refine ⟨p :: ps, by rw [pyL, e1, f1], ?_, ?_⟩
  · show (p.canLay0 && PyData.canLayAll0 ps) = true
    rw [e2, f2]; rfl
  · show max p.depth (PyData.depthAll ps) ≤ k
    omega
theorem ok_tup {ds : List D} {k : Nat} (hs : pyOks ds k) : pyOk (.tup ds) (k + 1) := by
  obtain ⟨ps, f1, f2, f3⟩ := hs
  refine ⟨.tuple ps, by rw [pyD, f1]; rfl, f2, ?_⟩
  show PyData.depthAll ps + 1 ≤ k + 1
  omega
theorem ok_all {ds : List D} {k : Nat} (h : ∀ d ∈ ds, pyOk d k) : pyOks ds k := by
  induction ds with
  | nil => exact ok_nil
  | cons d r ih => exact ok_cons (h d List.mem_cons_self) (ih fun x hx => h x (List.mem_cons_of_mem _ hx))
theorem ok_up {d : D} {k k' : Nat} (h : pyOk d k) (l : k ≤ k') : pyOk d k' := by
  obtain ⟨p, e1, e2, e3⟩ := h
  exact ⟨p, e1, e2, by omega⟩
theorem shp {p : PyData} {k : Nat} (h1 : p.canLay0 = true) (h2 : p.depth ≤ k) (hk : k ≤ 64) : SeqAt.shaped p = true := by
  unfold SeqAt.shaped
  rw [h1, Bool.true_and]
  exact decide_eq_true (by omega)
theorem eq_self {ds : List D} {h : DH} {k : Nat} (o : pyOk (.tup ds) k) (hk : k ≤ 64) : dCmp .Eq (.tup ds) (.tup ds) h = some true := by
  obtain ⟨p, e1, e2, e3⟩ := o
  rw [dEq_tup]
  have e : pyR h (.tup ds) = some p := e1
  have s := shp e2 e3 hk
  simp only [dEqD, e, s, Bool.and_self, if_true]
  rw [SeqAt.eqv_refl _ (SeqAt.canLay_of_shaped s)]
theorem eq_first {a b : Tx} {xs ys : List D} {h : DH} {k k' : Nat} (o : pyOk (.tup (.str a :: xs)) k) (o' : pyOk (.tup (.str b :: ys)) k') (hk : k ≤ 64) (hk' : k' ≤ 64) (ne : a ≠ b) : dCmp .Eq (.tup (.str a :: xs)) (.tup (.str b :: ys)) h = some false := by
  obtain ⟨p, e1, e2, e3⟩ := o
  obtain ⟨p', f1, f2, f3⟩ := o'
  rw [dEq_tup]
  have e : pyR h (.tup (.str a :: xs)) = some p := e1
  have f : pyR h (.tup (.str b :: ys)) = some p' := f1
  simp only [dEqD, e, f, shp e2 e3 hk, shp f2 f3 hk', Bool.and_self, if_true]
  congr 1
  simp only [pyD, pyL] at e1 f1
  cases q : pyL xs with
  | none => rw [q] at e1; cases e1
  | some ps =>
    cases q' : pyL ys with
    | none => rw [q'] at f1; cases f1
    | some ps' =>
      rw [q] at e1
      rw [q'] at f1
      cases e1
      cases f1
      show ((⟨a.toArray⟩ : PySem.Str) == ⟨b.toArray⟩ && PyData.eqvAll ps ps') = false
      rw [str_beq, decide_eq_false ne]
      rfl
theorem eq_pair {a b c d : Tx} {h : DH} (ga : GoodX a) (gb : GoodX b) (gc : GoodX c) (gd : GoodX d) : dCmp .Eq (.tup [.str a, .str b]) (.tup [.str c, .str d]) h = some (decide (a = c) && decide (b = d)) := by
  rw [dEq_tup]
  have s : ∀ {a b : Tx}, GoodX a → GoodX b → SeqAt.shaped (.tuple [.str ⟨a.toArray⟩, .str ⟨b.toArray⟩]) = true := fun {a b} ga gb => by
    obtain ⟨p, e1, e2, e3⟩ := ok_tup (ok_cons (k := 0) (ok_str ga) (ok_cons (ok_str gb) ok_nil))
    cases e1
    exact shp e2 e3 (by decide)
  have e : ∀ a b : Tx, pyR h (.tup [.str a, .str b]) = some (.tuple [.str ⟨a.toArray⟩, .str ⟨b.toArray⟩]) := fun a b => rfl
  simp only [dEqD, e, s ga gb, s gc gd, Bool.and_self, if_true]
  rw [eqv_pair]
theorem goodX {x : Tx} (h : x.all (fun c => decide (c < 1114112)) = true) : GoodX x := fun c hc => of_decide_eq_true (List.all_eq_true.mp h c hc)
theorem good_sign {x : Tx} (h : ∀ c ∈ x, signB c = true) : GoodX x := fun c hc => by
  have z := h c hc
  unfold signB at z
  simp only [Bool.and_eq_true, decide_eq_true_eq] at z
  omega
/-- names are good -/
theorem name_good {x : Tx} (v : NameV x) : ∀ c ∈ x, signB c = true := by
  obtain ⟨w, e, rfl, he, _, _, hf⟩ := v.ex
  have kf : ∀ c ∈ CF, signB c = true := by decide
  intro c hc
  rcases List.mem_append.mp hc with hc | hc
  · exact kf c (hf c hc)
  · rcases he with rfl | rfl
    · cases hc
    · rw [List.mem_singleton.mp hc]; decide
theorem kinds_good {x : Tx} {d : D} (h : k_KINDS.lookup x = some d) : GoodX x := by
  have key : ∀ q ∈ k_KINDS.map (·.1), q.all (fun c => decide (c < 1114112)) = true := by decide
  have : ∀ (l : List (Tx × D)), l.lookup x = some d → x ∈ l.map (·.1) := by
    intro l
    induction l with
    | nil => intro e; cases e
    | cons q r ih =>
      intro e
      obtain ⟨y, v⟩ := q
      rw [List.lookup_cons] at e
      cases t : x == y with
      | true => rw [eq_of_beq t]; exact List.mem_cons_self
      | false => rw [t] at e; exact List.mem_cons_of_mem _ (ih e)
  exact goodX (key x (this _ h))
theorem op_good {s : Tx} (h : (opStr s).isSome = true) : GoodX s := by
  unfold opStr at h
  split at h
  · rename_i hc
    have key : ∀ s ∈ CMPS, s.all (fun c => decide (c < 1114112)) = true := by decide
    exact goodX (key s hc)
  · obtain ⟨k, hk⟩ := Option.isSome_iff_exists.mp h
    have key : ∀ q ∈ STRS.map (·.1), q.all (fun c => decide (c < 1114112)) = true := by decide
    have : ∀ (l : List (Tx × Int)), l.lookup s = some k → s ∈ l.map (·.1) := by
      intro l
      induction l with
      | nil => intro e; cases e
      | cons q r ih =>
        intro e
        obtain ⟨y, v⟩ := q
        rw [List.lookup_cons] at e
        cases t : s == y with
        | true => rw [eq_of_beq t]; exact List.mem_cons_self
        | false => rw [t] at e; exact List.mem_cons_of_mem _ (ih e)
    exact goodX (key s (this _ hk))
theorem ok_tm {t : Tm} {d : Nat} (v : VT t d) : pyOk (tmD t) (2 * d) := by
  induction v with
  | num h1 h2 => rw [tmD]; exact ok_up (ok_tup (ok_cons (k := 0) (ok_str (goodX (by decide))) (ok_cons ok_int ok_nil))) (by omega)
  | text h1 h2 => rw [tmD]; exact ok_up (ok_tup (ok_cons (k := 0) (ok_str (goodX (by decide))) (ok_cons (ok_str (good_sign fun c hc => (h2 c hc).1)) ok_nil))) (by omega)
  | name h1 => rw [tmD]; exact ok_up (ok_tup (ok_cons (k := 0) (ok_str (goodX (by decide))) (ok_cons (ok_str (good_sign (name_good h1))) ok_nil))) (by omega)
  | @cell x as d h1 h2 _ ih =>
    rw [tmD, tmDs_map]
    exact ok_tup (ok_cons (k := 2 * d + 1) (ok_str (goodX (by decide))) (ok_cons (ok_str (good_sign (name_good h1))) (ok_cons (ok_tup (ok_all fun y hy => by obtain ⟨t, ht, rfl⟩ := List.mem_map.mp hy; exact ih t ht)) ok_nil)))
  | @call x ks as d h1 h2 _ ih =>
    rw [tmD, tmDs_map]
    exact ok_tup (ok_cons (k := 2 * d + 1) (ok_str (goodX (by decide))) (ok_cons (ok_str (kinds_good h1)) (ok_cons (ok_tup (ok_all fun y hy => by obtain ⟨t, ht, rfl⟩ := List.mem_map.mp hy; exact ih t ht)) ok_nil)))
  | minus _ ih => rw [tmD]; exact ok_up (ok_tup (ok_cons (ok_str (goodX (by decide))) (ok_cons ih ok_nil))) (by omega)
  | not _ ih => rw [tmD]; exact ok_up (ok_tup (ok_cons (ok_str (goodX (by decide))) (ok_cons ih ok_nil))) (by omega)
  | op h1 _ _ i1 i2 => rw [tmD]; exact ok_up (ok_tup (ok_cons (ok_str (goodX (by decide))) (ok_cons (ok_str (op_good h1)) (ok_cons i1 (ok_cons i2 ok_nil))))) (by omega)
theorem tm_tup (t : Tm) : ∃ ds, tmD t = .tup ds := by cases t <;> exact ⟨_, by rw [tmD]⟩
theorem tm_eq {t : Tm} {d : Nat} {h : DH} (v : VT t d) (hd : d ≤ 32) : dCmp .Eq (tmD t) (tmD t) h = some true := by
  have o := ok_tm v
  obtain ⟨ds, e⟩ := tm_tup t
  rw [e] at o ⊢
  exact eq_self o (by omega)
end K20

namespace K20
open PySem L2 Mp
theorem split_U {x s : Tx} {h : DH} (q : s.length ≠ 0 ∧ x.length + 2 ≤ sizeLine) : dBm .split (.str x) [.str s] h = .ok (.ref h.length) (h ++ [.lst ((Txt.split ⟨x.toArray⟩ ⟨s.toArray⟩).map fun z => .str z.cps.toList)]) := if_pos q
theorem find_cap : ∀ c ∈ CAP, Txt.find ⟨CAP.toArray⟩ ⟨([c] : List Nat).toArray⟩ = ((c - 65 : Nat) : Int) := by decide +kernel
theorem join_one : ∀ l : List Nat, TL.joinL [] (l.map fun c => [c]) = l
  | [] => rfl
  | [c] => rfl
  | c :: d :: r => by
    have := join_one (d :: r)
    simp only [List.map_cons] at this ⊢
    rw [TL.joinL, this]
    rfl
theorem sum_one (l : List Nat) : ((l.map fun c => [c]).map fun y : Tx => y.length).sum = l.length := by
  induction l with
  | nil => rfl
  | cons c r ih => simp only [List.map_cons, List.sum_cons, ih, List.length_cons, List.length_nil]; omega
def chD (al : Tx) (more : Int) (m : Int) : D → D
  | .int j => .str [al.getD ((drawn more j) % m).toNat 0]
  | _ => .non
theorem ch_map (al : Tx) (more m : Int) (k : Nat) : (rangeD 0 k).map (chD al more m) = ((List.range k).map fun j : Nat => [al.getD ((drawn more (j : Int)) % m).toNat 0]).map .str := by
  unfold rangeD
  rw [List.map_map, List.map_map]
  apply List.map_congr_left
  intro j _
  simp [chD]
theorem idx_ch {al : Tx} {x : Int} {h : DH} (hz : al.length ≤ sizeLine) (h0 : 0 ≤ x) (h1 : x < al.length) : dIdx (.str al) (.int x) h = .ok (.str [al.getD x.toNat 0]) h := by
  rw [idx_str hz, atI_lt h0 h1 0]
  rfl
theorem getD_mem {al : Tx} {k : Nat} (h : k < al.length) : al.getD k 0 ∈ al := by
  rw [List.getD_eq_getElem?_getD, List.getElem?_eq_getElem h]
  exact List.getElem_mem h
section
variable {n : Nat}
theorem nat_log {j : Nat} (h : j < 1000000) : ((j : Int) + 1).natAbs.log2 < 2000000 := by
  have := nn_log (i := (j : Int) + 1) (n := 21) (by omega) (by omega) (by decide)
  omega
theorem joinR_one (l : List Nat) (hl : l.length ≤ 16777216) (h : DH) : joinR [] (some (l.map fun c => [c])) h = .ok (.str l) h := by
  show (if ((l.map fun c => [c]).map fun y : Tx => y.length).sum + (l.map fun c => [c]).length * ([] : Tx).length ≤ 16777216 then Rs.ok (D.str (TL.joinL [] (l.map fun c => [c]))) h else Rs.err) = _
  rw [if_pos (by rw [sum_one, show ([] : Tx).length = 0 from rfl]; omega), join_one]
theorem draw_join (al : Tx) (more m : Int) (k : Nat) (hm : 0 < m) (hm2 : m ≤ al.length) (hk : k ≤ 16777216) : ∃ u : Tx, u.length = k ∧ (∀ x ∈ u, x ∈ al) ∧ ∀ h, joinR [] (strsOf ((rangeD 0 k).map (chD al more m))) h = .ok (.str u) h := by
  refine ⟨(List.range k).map fun j : Nat => al.getD ((drawn more (j : Int)) % m).toNat 0, by rw [List.length_map, List.length_range], fun x hx => ?_, fun h => ?_⟩
  · obtain ⟨j, _, rfl⟩ := List.mem_map.mp hx
    have z1 := Int.emod_nonneg (drawn more (j : Int)) (show m ≠ 0 by omega)
    have z2 := Int.emod_lt_of_pos (drawn more (j : Int)) hm
    exact getD_mem (by omega)
  · rw [ch_map, strs_map]
    have z := joinR_one ((List.range k).map fun j : Nat => al.getD ((drawn more (j : Int)) % m).toNat 0) (by rw [List.length_map, List.length_range]; exact hk) h
    rw [List.map_map] at z
    exact z
end
def Kp (n : Nat) (h h' : DH) : Prop := n ≤ h'.length ∧ ∀ i, i < n → h'[i]? = h[i]?
theorem Kp.refl {h : DH} {n : Nat} (l : n ≤ h.length) : Kp n h h := ⟨l, fun _ _ => rfl⟩
theorem Kp.app {n : Nat} {h h' g : DH} (k : Kp n h h') : Kp n h (h' ++ g) := ⟨by rw [List.length_append]; have := k.1; omega, fun i hi => by
  rw [List.getElem?_append_left (by have := k.1; omega)]
  exact k.2 i hi⟩
theorem Kp.set {n i : Nat} {h h' : DH} {x : O} (k : Kp n h h') (hi : n ≤ i) : Kp n h (h'.set i x) := ⟨by rw [List.length_set]; exact k.1, fun j hj => by
  rw [List.getElem?_set_ne (by omega)]
  exact k.2 j hj⟩
theorem Kp.out {h h' : DH} (k : Kp h.length h h') : ∃ g, h' = h ++ g := by
  refine ⟨h'.drop h.length, ?_⟩
  conv => lhs; rw [← List.take_append_drop h.length h']
  congr 1
  apply List.ext_getElem?
  intro i
  by_cases hi : i < h.length
  · rw [List.getElem?_take_of_lt hi, k.2 i hi]
  · rw [List.getElem?_eq_none (by rw [List.length_take]; omega), List.getElem?_eq_none (by omega)]
theorem Kp.trans {n : Nat} {h h1 h2 : DH} (a : Kp n h h1) (b : Kp n h1 h2) : Kp n h h2 := ⟨b.1, fun i hi => (b.2 i hi).trans (a.2 i hi)⟩
def Scr (ns : List Int) (sd : D) (h : DH) : Prop := sd = .frl (ns.map .int) ∨ ∃ i, sd = .ref i ∧ h[i]? = some (.lst (ns.map .int))
theorem Scr.keep {ns : List Int} {sd : D} {h h' : DH} (s : Scr ns sd h) (k : Kp h.length h h') : Scr ns sd h' := by
  rcases s with rfl | ⟨i, rfl, q⟩
  · exact .inl rfl
  · exact .inr ⟨i, rfl, by rw [k.2 i (lt_of_get q)]; exact q⟩
theorem ints_py : ∀ ns : List Int, pyL (ns.map D.int) = some (ns.map PyData.int)
  | [] => rfl
  | z :: r => by rw [List.map_cons, List.map_cons, pyL, ints_py r]; rfl
theorem ints_lay : ∀ ns : List Int, PyData.canLayAll0 (ns.map PyData.int) = true ∧ PyData.depthAll (ns.map PyData.int) = 0
  | [] => ⟨rfl, rfl⟩
  | z :: r => by
    obtain ⟨h1, h2⟩ := ints_lay r
    refine ⟨?_, ?_⟩
    · show ((PyData.int z).canLay0 && PyData.canLayAll0 (r.map PyData.int)) = true
      rw [h1]; rfl
    · show max (PyData.int z).depth (PyData.depthAll (r.map PyData.int)) = 0
      rw [h2]; rfl
theorem scr_eq {ns : List Int} {sd : D} {h : DH} {b : Nat} (s : Scr ns sd h) (hb : h[b]? = some (.lst [])) : dCmp .Eq sd (.ref b) h = some (decide (ns = [])) := by
  have e : pyR h sd = some (.list (ns.map PyData.int)) := by
    rcases s with rfl | ⟨i, rfl, q⟩
    · show (pyL (ns.map D.int)).map PyData.list = _
      rw [ints_py]; rfl
    · simp only [pyR, q, ints_py]; rfl
  have e0 : dCmp .Eq sd (.ref b) h = dEqD sd (.ref b) h := by rcases s with rfl | ⟨i, rfl, q⟩ <;> rfl
  have e2 : pyR h (.ref b) = some (.list []) := by simp only [pyR, hb, pyL]; rfl
  obtain ⟨h1, h2⟩ := ints_lay ns
  have sh : SeqAt.shaped (.list (ns.map PyData.int)) = true := by
    unfold SeqAt.shaped
    rw [Bool.and_eq_true]
    refine ⟨h1, decide_eq_true ?_⟩
    show PyData.depthAll (ns.map PyData.int) + 1 ≤ 64
    omega
  have s2 : SeqAt.shaped (.list []) = true := by decide
  rw [e0]
  simp only [dEqD, e, e2, sh, s2, Bool.and_self, if_true]
  cases ns with
  | nil => rfl
  | cons t r => simp [PyData.eqv, PyData.eqvAll]
theorem scr_len {ns : List Int} {sd : D} {h : DH} (s : Scr ns sd h) : dBi .len [sd] h = .ok (.int ns.length) h := by
  rcases s with rfl | ⟨i, rfl, q⟩
  · rw [len_frl, List.length_map]
  · rw [len_ref q, List.length_map]
theorem scr_at {ns : List Int} {sd : D} {h : DH} {i : Int} (s : Scr ns sd h) (h0 : 0 ≤ i) (h1 : i < ns.length) : ∃ v ∈ ns, dIdx sd (.int i) h = .ok (.int v) h := by
  obtain ⟨v, hv, e⟩ := pickI (vs := ns) h0 h1
  refine ⟨v, hv, ?_⟩
  rcases s with rfl | ⟨j, rfl, q⟩
  · rw [idx_frl, e]; rfl
  · rw [idx_ref q, e]; rfl
theorem bits_log {z : Int} (h : Builtin.Int.intBits z ≤ 1048576) : z.natAbs < 2 ^ 1048576 := by
  unfold Builtin.Int.intBits at h
  split at h
  · rename_i q
    have : z = 0 := by simpa using q
    subst this
    exact Nat.pow_pos (by decide)
  · exact Nat.lt_of_lt_of_le Nat.lt_log2_self (Nat.pow_le_pow_right (by decide) h)
def Small (ns : List Int) : Prop := ∀ z ∈ ns, z.natAbs < 2 ^ 1048576
theorem small_of {ns : List Int} (h : ∀ z ∈ ns, Builtin.Int.intBits z ≤ 1048576) : Small ns := fun z hz => bits_log (h z hz)
section
variable {n : Nat}
theorem c_cell {ns : List Int} {sd : D} {h : DH} (s : Scr ns sd h) (hb : Small ns) {k : Int} (hk : 0 ≤ k) (hk2 : k ≤ 100) (hl : ns.length ≤ 63) : ∃ c g, c.natAbs.log2 < 2000000 ∧ callN T (n + 1) 10 [sd, .int k] h = .ok (.int c) (h ++ g) := by
  rw [call_eq (fn := q10.fn) rfl rfl]
  simp only [Def1.fn, q10, b__law_cell]
  have s' : Scr ns sd (h ++ [.lst []]) := s.keep (Kp.refl (Nat.le_refl _)).app
  have eq := scr_eq s' (b := h.length) (by simp)
  have lk : k.natAbs.log2 < 10 := nn_log hk (by omega) (by decide)
  have l7 : (7919 : Int).natAbs.log2 < 100 := by decide
  by_cases q : ns = []
  · rw [decide_eq_true q] at eq
    refine ⟨k * 7919, [.lst []], ?_, ?_⟩
    · have := nn_log (i := k * 7919) (n := 20) (by omega) (by omega) (by decide)
      omega
    · simp (disch := first | with_reducible assumption | omega | with_reducible exact size_le (by omega) | decide | (simp only [List.length_cons, List.length_nil, List.length_append]; first | omega | with_reducible exact size_le (by omega)) | exact ⟨by simp only [List.length_cons, List.length_nil]; omega, by decide⟩ | fail) [-getElem?_pos, -getElem?_neg, -Int.natCast_add, le_size, rngR_ok, mul_int, mod_int, div_int, pow_int, add_str, len_str, len_refU, idx_refU, any_refU, all_refU, in_refU, in_tupU, okTo_appU, append_U, it_refU, join_refU, add_refU, isi_refU, idx_str, slc_str, str_int, int_str, meOf, List.lookup, fldOf, putN, putR_ok, List.getElem?_cons_zero, List.getElem?_cons_succ, List.getElem?_concat_length, get_app, get_app0, en_refU, mul_refU, tupF_refU, slc_refU, eq]
  · rw [decide_eq_false q] at eq
    have hp : 0 < ns.length := List.length_pos_iff.mpr q
    obtain ⟨N, hN⟩ : ∃ N : Int, N = (ns.length : Int) := ⟨_, rfl⟩
    have el := scr_len s'
    rw [← hN] at el
    have hN0 : 0 < N := by omega
    have hN1 : N ≤ 63 := by omega
    have lN : N.natAbs.log2 < 9000 := by
      have := nn_log (i := N) (n := 10) (by omega) (by omega) (by decide)
      omega
    obtain ⟨v, hv, ea⟩ := scr_at s' (i := k % N) (Int.emod_nonneg _ (by omega)) (by rw [← hN]; exact Int.emod_lt_of_pos _ hN0)
    have hd0 : 0 ≤ k / N := Int.ediv_nonneg hk (by omega)
    have hd1 : k / N ≤ 100 := by
      have := Int.ediv_le_self N hk
      omega
    have ld : (k / N).natAbs.log2 < 10 := nn_log hd0 (by omega) (by decide)
    have l1 : (104729 : Int).natAbs.log2 < 100 := by decide
    refine ⟨v + k / N * 104729, [.lst []], ?_, ?_⟩
    · have hz := hb v hv
      refine Nat.lt_of_lt_of_le (log_lt (n := 1048577) ?_ (by decide)) (by decide)
      have h20 : (k / N * 104729).natAbs < 2 ^ 1048576 := by
        refine Nat.lt_of_lt_of_le (m := 2 ^ 30) ?_ (Nat.pow_le_pow_right (by decide) (by decide))
        omega
      have : (2 : Nat) ^ 1048577 = 2 ^ 1048576 + 2 ^ 1048576 := by rw [Nat.pow_succ]; omega
      rw [this]
      exact Nat.lt_of_le_of_lt (Int.natAbs_add_le _ _) (Nat.add_lt_add hz h20)
    · have hdv : (0 < N ∧ N.natAbs.log2 < 9000) := ⟨hN0, lN⟩
      simp (disch := first | with_reducible assumption | omega | with_reducible exact size_le (by omega) | decide | (simp only [List.length_cons, List.length_nil, List.length_append]; first | omega | with_reducible exact size_le (by omega)) | exact ⟨by simp only [List.length_cons, List.length_nil]; omega, by decide⟩ | fail) [-getElem?_pos, -getElem?_neg, -Int.natCast_add, le_size, rngR_ok, mul_int, mod_int, div_int, pow_int, add_str, len_str, len_refU, idx_refU, any_refU, all_refU, in_refU, in_tupU, okTo_appU, append_U, it_refU, join_refU, add_refU, isi_refU, idx_str, slc_str, str_int, int_str, meOf, List.lookup, fldOf, putN, putR_ok, List.getElem?_cons_zero, List.getElem?_cons_succ, List.getElem?_concat_length, get_app, get_app0, en_refU, mul_refU, tupF_refU, slc_refU, eq, el, ea, hdv]
theorem c_draw {ns : List Int} {sd : D} {h : DH} (s : Scr ns sd h) (hb : Small ns) {k : Int} (hk : 0 ≤ k) (hk2 : k ≤ 100) (hl : ns.length ≤ 63) {j : Int} (hj : 0 ≤ j) (hj2 : j ≤ 1000) : ∃ c g, callN T (n + 1) 10 [sd, .int k] h = .ok (.int c) (h ++ g) ∧ ∃ d, 0 ≤ d ∧ d < 340282366920938463463374607431768211507 ∧ callN T (n + 1) 0 [.int c, .int j] (h ++ g) = .ok (.int d) (h ++ g) := by
  obtain ⟨c, g, lc, ec⟩ := c_cell (n := n) s hb hk hk2 hl
  have lj : (j + 1).natAbs.log2 < 2000000 := by
    have := nn_log (i := j + 1) (n := 20) (by omega) (by omega) (by decide)
    omega
  exact ⟨c, g, ec, _, drawn_nn c j, drawn_lt c j, c_drawn n c j (h ++ g) lc lj⟩
end
def SG (k : Int) : List Tx := if k = 1 then [[79, 82]] else if k = 2 then [[65, 78, 68]] else if k = 4 then CMPS else if k = 5 then [[43], [45]] else if k = 6 then [[42], [68, 73, 86], [77, 79, 68]] else []
theorem str_mem {s : Tx} {k : Int} (h : opStr s = some k) : s ∈ SG k ∧ (k = 1 ∨ k = 2 ∨ k = 4 ∨ k = 5 ∨ k = 6) := by
  unfold opStr at h
  split at h
  · rename_i hc
    cases h
    exact ⟨hc, by omega⟩
  · have key : ∀ (l : List (Tx × Int)), l.lookup s = some k → (s, k) ∈ l := by
      intro l
      induction l with
      | nil => intro e; cases e
      | cons q r ih =>
        intro e
        obtain ⟨y, v⟩ := q
        rw [List.lookup_cons] at e
        cases t : s == y with
        | true => rw [t] at e; cases e; rw [eq_of_beq t]; exact List.mem_cons_self
        | false => rw [t] at e; exact List.mem_cons_of_mem _ (ih e)
    have z := key _ h
    simp only [STRS, List.mem_cons, Prod.mk.injEq, List.not_mem_nil, or_false] at z
    rcases z with ⟨rfl, rfl⟩ | ⟨rfl, rfl⟩ | ⟨rfl, rfl⟩ | ⟨rfl, rfl⟩ | ⟨rfl, rfl⟩ | ⟨rfl, rfl⟩ | ⟨rfl, rfl⟩ <;> exact ⟨by decide, by decide⟩
theorem sg_str {s : Tx} {k : Int} (h : s ∈ SG k) : opStr s = some k := by
  unfold SG at h
  split at h
  · rename_i e; subst e; rw [List.mem_singleton] at h; subst h; decide
  split at h
  · rename_i e; subst e; rw [List.mem_singleton] at h; subst h; decide
  split at h
  · rename_i e; subst e; unfold opStr; rw [if_pos h]
  split at h
  · rename_i e; subst e
    have key : ∀ s ∈ ([[43], [45]] : List Tx), opStr s = some 5 := by decide
    exact key s h
  split at h
  · rename_i e; subst e
    have key : ∀ s ∈ ([[42], [68, 73, 86], [77, 79, 68]] : List Tx), opStr s = some 6 := by decide
    exact key s h
  · cases h
def TWO : List Tx := [[60, 61], [62, 61], [60, 62]]
theorem find_mark {m r : Tx} (hm : m ∈ MARKS) (hf : m.length = 1 → m ++ r.take 1 ∉ TWO) : MARKS.find? (fun a => decide ((m ++ r).take a.length = a)) = some m := by
  have hM : MARKS = [[60, 61], [62, 61], [60, 62], [43], [45], [42], [40], [41], [44], [59], [58], [61], [60], [62]] := rfl
  rw [hM] at hm ⊢
  simp only [List.mem_cons, List.not_mem_nil, or_false] at hm
  cases r with
  | nil => rcases hm with rfl | rfl | rfl | rfl | rfl | rfl | rfl | rfl | rfl | rfl | rfl | rfl | rfl | rfl <;> rfl
  | cons c r =>
    rcases hm with rfl | rfl | rfl | rfl | rfl | rfl | rfl | rfl | rfl | rfl | rfl | rfl | rfl | rfl <;> simp [TWO, List.find?] at hf ⊢ <;> simp [hf]
theorem dw_rep (k : Nat) (r : Tx) : dw [32] (List.replicate k 32 ++ r) = dw [32] r := by
  induction k with
  | zero => rfl
  | succ k ih => rw [List.replicate_succ, List.cons_append]; exact ih
theorem dw_sp (r : Tx) : dw [32] (32 :: r) = dw [32] r := rfl
theorem dw_id {c : Nat} {r : Tx} (h : c ≠ 32) : dw [32] (c :: r) = c :: r := by
  unfold dw
  rw [List.dropWhile_cons, if_neg (by simpa using h)]
def SIG : Tx := [32, 33, 35, 36, 38, 39, 40, 41, 42, 43, 44, 45, 46, 47, 48, 49, 50, 51, 52, 53, 54, 55, 56, 57, 58, 59, 60, 61, 62, 63, 64, 65, 66, 67, 68, 69, 70, 71, 72, 73, 74, 75, 76, 77, 78, 79, 80, 81, 82, 83] ++ [84, 85, 86, 87, 88, 89, 90, 91, 92, 93, 94, 95, 96, 97, 98, 99, 100, 101, 102, 103, 104, 105, 106, 107, 108, 109, 110, 111, 112, 113, 114, 115, 116, 117, 118, 119, 120, 121, 122, 123, 124, 125, 126]
theorem sig_of {c : Nat} (h : c ∈ SIG) : 32 ≤ c ∧ c ≤ 126 ∧ c ≠ 34 ∧ c ≠ 37 := by
  have key : ∀ c ∈ SIG, 32 ≤ c ∧ c ≤ 126 ∧ c ≠ 34 ∧ c ≠ 37 := by decide
  exact key c h
theorem fig_sig {c : Nat} (h : 48 ≤ c ∧ c ≤ 57) : c ∈ SIG := by
  have key : ∀ c ∈ FIG, c ∈ SIG := by decide
  exact key c (mem_FIG.mpr h)
theorem sig_len : SIG.length = 93 := by decide +kernel
theorem num_sig (v : Int) (h0 : 0 ≤ v) : ∃ m : Nat, v = m ∧ sInt v = TL.numL m := by
  obtain ⟨m, rfl⟩ := Int.eq_ofNat_of_zero_le h0
  refine ⟨m, rfl, ?_⟩
  unfold sInt
  rw [show Str.ofString (toString ((m : Nat) : Int)) = SX.S (TL.numL m) from SX.num_S m]
end K20

namespace K20
open PySem L2 Mp
/-! ### names -/
def BRD : List Tx := [[76, 69, 84], [80, 82, 73, 78, 84], [73, 78, 80, 85, 84], [73, 70], [84, 72, 69, 78], [69, 76, 83, 69], [71, 79, 84, 79], [71, 79, 83, 85, 66], [82, 69, 84, 85, 82, 78], [70, 79, 82], [84, 79], [83, 84, 69, 80], [78, 69, 88, 84], [79, 78], [68, 73, 77], [68, 65, 84, 65], [82, 69, 65, 68], [82, 69, 83, 84, 79, 82, 69], [82, 69, 77], [69, 78, 68], [83, 84, 79, 80], [65, 78, 68], [79, 82], [78, 79, 84], [68, 73, 86], [77, 79, 68], [65, 66, 83], [83, 71, 78], [76, 69, 78], [86, 65, 76], [70, 73, 78, 68], [83, 84, 82, 36], [76, 69, 70, 84, 36], [82, 73, 71, 72, 84, 36], [77, 73, 68, 36]]
theorem c_barred {n : Nat} (h : DH) : callN T (n + 1) 11 [] h = .ok (.ref h.length) (h ++ [.lst (BRD.map .str)]) := by
  rw [call_eq (fn := q11.fn) rfl rfl]
  simp only [Def1.fn, q11, b__law_barred]
  simp (disch := first | exact size_le (by decide) | exact ⟨by decide, size_le (by decide)⟩) only [s_seq, s_set, v_lit, bindO_ok, stName_ok, setO_ok, seqO_nx, s_ret, v_bm, v_bin, v_var, v_cons, v_nil, List.map_nil, List.nil_append, List.length_nil, List.length_cons, Nat.reduceSub, Nat.reduceAdd, List.replicate, List.set_cons_zero, List.getElem?_cons_zero, varR_ok, bind_ok, add_str, okTo_split, if_true, split_U, seqO_rt, fin_rt]
  congr 3
  kernel_rfl
theorem brd_words {x : Tx} (h : x ∉ BRD) : x ∉ WORDS := by
  have key : ∀ s ∈ WORDS, s ∈ BRD := by decide
  exact fun z => h (key x z)
def FREE : Tx := [66, 67, 72, 74, 75, 81, 85, 87, 88, 89, 90]
theorem free_ok : ∀ c ∈ FREE, c ∈ CAP ∧ ∀ x ∈ BRD, x.headD 0 ≠ c := by decide
theorem free_at (r : Tx) : ∀ (found : List Tx) (L : Tx), L.Nodup → found.length < L.length → ∃ c ∈ L, c :: r ∉ found
  | [], L, _, hl => by
    cases L with
    | nil => cases hl
    | cons c L => exact ⟨c, List.mem_cons_self, fun z => nomatch z⟩
  | y :: f, L, nd, hl => by
    rw [List.length_cons] at hl
    by_cases q : ∃ c ∈ L, y = c :: r
    · obtain ⟨c0, hc0, rfl⟩ := q
      obtain ⟨c, hc, n⟩ := free_at r f (L.erase c0) (nd.erase c0) (by rw [List.length_erase_of_mem hc0]; omega)
      refine ⟨c, List.mem_of_mem_erase hc, fun z => ?_⟩
      rcases List.mem_cons.mp z with z | z
      · have z := (List.cons.inj z).1
        rw [z] at hc
        exact (List.Nodup.not_mem_erase nd) hc
      · exact n z
    · obtain ⟨c, hc, n⟩ := free_at r f L nd (by omega)
      refine ⟨c, hc, fun z => ?_⟩
      rcases List.mem_cons.mp z with z | z
      · exact q ⟨c, hc, z.symm⟩
      · exact n z
/-- a name with its end -/
structure NmE (e x : Tx) : Prop where
  ex : ∃ w, x = w ++ e ∧ w ≠ [] ∧ (∀ c, w.head? = some c → c ∈ CAP) ∧ (∀ c ∈ w, c ∈ CF) ∧ w.length + e.length ≤ 8
  nb : x ∉ BRD
theorem NmE.v {e x : Tx} (h : NmE e x) (he : e = [] ∨ e = [36]) : NameV x := by
  obtain ⟨w, rfl, h1, h2, h3, h4⟩ := h.ex
  refine ⟨⟨w, e, rfl, he, h1, h2, h3⟩, brd_words h.nb, ?_, by rw [List.length_append]; exact h4⟩
  have key : ∀ q ∈ k_KINDS.map (·.1), q ∈ BRD := by decide
  have look : ∀ (l : List (Tx × D)), (∀ q ∈ l.map (·.1), q ∈ BRD) → l.lookup (w ++ e) = none := by
    intro l
    induction l with
    | nil => exact fun _ => rfl
    | cons q r ih =>
      intro hq
      obtain ⟨y, v⟩ := q
      rw [List.lookup_cons]
      have ne : (w ++ e == y) = false := beq_eq_false_iff_ne.mpr fun z => h.nb (z ▸ hq y (by simp))
      rw [ne]
      exact ih fun z hz => hq z (List.mem_cons_of_mem _ hz)
  exact look _ key
theorem strs_one (l : Tx) : strsOf (l.map fun c => D.str [c]) = some (l.map fun c => [c]) := by
  have := strs_map (l.map fun c => ([c] : Tx))
  rw [List.map_map] at this
  exact this
section
variable {n : Nat}
def nxtC (c : Nat) : Nat := CAP.getD ((c - 65 + 1) % 26) 0
theorem nxt_ok : ∀ c ∈ CAP, nxtC c ∈ CAP ∧ nxtC c = (if c = 90 then 65 else c + 1) := by decide
theorem nm_loop {found : List Tx} {f : Nat} {r : Tx} (hr : r.length ≤ 7) (a0 a1 a2 a4 a5 a7 a8 a9 a11 : Option D) {t : Nat} (ht : t ∈ CAP) (hf1 : t :: r ∉ found) (hf2 : t :: r ∉ BRD) : ∀ (k c : Nat) (h : DH), c ∈ CAP → (t + 26 - c) % 26 = k → h[f]? = some (.lst (found.map .str)) →
    ∃ c' g, c' ∈ CAP ∧ c' :: r ∉ found ∧ c' :: r ∉ BRD ∧ sWhl (t__law_names_1 (callN T (n + 1))) (l__law_names_1 (callN T (n + 1))) [a0, a1, a2, some (.str CAP), a4, a5, some (.ref f), a7, a8, a9, some (.str (c :: r)), a11] h
      = .nx [a0, a1, a2, some (.str CAP), a4, a5, some (.ref f), a7, a8, a9, some (.str (c' :: r)), a11] (h ++ g) := by
  intro k
  have ew : strsOf (BRD.map .str) = some BRD := strs_map _
  have ef : strsOf (found.map .str) = some found := strs_map _
  have cond : ∀ (c : Nat) (h : DH), h[f]? = some (.lst (found.map .str)) → ∃ g, t__law_names_1 (callN T (n + 1)) [a0, a1, a2, some (.str CAP), a4, a5, some (.ref f), a7, a8, a9, some (.str (c :: r)), a11] h = .ok (.bl (decide (c :: r ∈ found) || decide (c :: r ∈ BRD))) (h ++ g) := fun c h hf => by
    by_cases q : c :: r ∈ found
    · refine ⟨[], ?_⟩
      simp only [t__law_names_1]
      simp (disch := first | with_reducible assumption | omega | with_reducible exact size_le (by omega) | decide | (simp only [List.length_cons, List.length_nil, List.length_append]; first | omega | with_reducible exact size_le (by omega)) | exact ⟨by simp only [List.length_cons, List.length_nil]; omega, by decide⟩ | fail) [-getElem?_pos, -getElem?_neg, -Int.natCast_add, le_size, rngR_ok, mul_int, mod_int, div_int, pow_int, add_str, len_str, len_refU, idx_refU, any_refU, all_refU, in_refU, in_tupU, okTo_appU, append_U, it_refU, join_refU, add_refU, isi_refU, idx_str, slc_str, str_int, int_str, meOf, List.lookup, fldOf, putN, putR_ok, List.getElem?_cons_zero, List.getElem?_cons_succ, List.getElem?_concat_length, get_app, get_app0, en_refU, mul_refU, tupF_refU, slc_refU, hf, ef, q]
    · refine ⟨[.lst (BRD.map .str)], ?_⟩
      simp only [t__law_names_1]
      simp (disch := first | with_reducible assumption | omega | with_reducible exact size_le (by omega) | decide | (simp only [List.length_cons, List.length_nil, List.length_append]; first | omega | with_reducible exact size_le (by omega)) | exact ⟨by simp only [List.length_cons, List.length_nil]; omega, by decide⟩ | fail) [-getElem?_pos, -getElem?_neg, -Int.natCast_add, le_size, rngR_ok, mul_int, mod_int, div_int, pow_int, add_str, len_str, len_refU, idx_refU, any_refU, all_refU, in_refU, in_tupU, okTo_appU, append_U, it_refU, join_refU, add_refU, isi_refU, idx_str, slc_str, str_int, int_str, meOf, List.lookup, fldOf, putN, putR_ok, List.getElem?_cons_zero, List.getElem?_cons_succ, List.getElem?_concat_length, get_app, get_app0, en_refU, mul_refU, tupF_refU, slc_refU, hf, ef, q, c_barred, ew]
  induction k with
  | zero =>
    intro c h hc hk hf
    have e : c = t := by
      have h1 := mem_CAP.mp hc
      have h2 := mem_CAP.mp ht
      omega
    subst e
    obtain ⟨g, e⟩ := cond c h hf
    rw [decide_eq_false hf1, decide_eq_false hf2] at e
    exact ⟨c, g, hc, hf1, hf2, sWhl_stop e⟩
  | succ k ih =>
    intro c h hc hk hf
    obtain ⟨g, e⟩ := cond c h hf
    by_cases q : c :: r ∈ found ∨ c :: r ∈ BRD
    · have eb : (decide (c :: r ∈ found) || decide (c :: r ∈ BRD)) = true := by
        rw [Bool.or_eq_true, decide_eq_true_eq, decide_eq_true_eq]
        exact q
      rw [eb] at e
      have hf' : (h ++ g)[f]? = some (.lst (found.map .str)) := by rw [List.getElem?_append_left (lt_of_get hf)]; exact hf
      obtain ⟨n1, n2⟩ := nxt_ok c hc
      obtain ⟨c', g', r1, r2, r3, r4⟩ := ih (nxtC c) (h ++ g) n1 (by
        have h1 := mem_CAP.mp hc
        have h2 := mem_CAP.mp ht
        rw [n2]
        split <;> omega) hf'
      refine ⟨c', g ++ g', r1, r2, r3, ?_⟩
      rw [sWhl_go e (e2 := [a0, a1, a2, some (.str CAP), a4, a5, some (.ref f), a7, a8, a9, some (.str (nxtC c :: r)), a11]) (h2 := h ++ g), r4, List.append_assoc]
      have fc := find_cap c hc
      have i0 : atI (c :: r) 0 = some c := atI_nat (c :: r) 0 (by simp)
      have cutt : cutG (c :: r) (some 1) none = r := cut_nat0 (x := c :: r) (a := 1)
      have hcm := mem_CAP.mp hc
      have pk := idx_ch (al := CAP) (x := (((c - 65 : Nat) : Int) + 1) % 26) (h := h ++ g) (size_le (by decide)) (by omega) (by show _ < ((26 : Nat) : Int); omega)
      have ex : ((((c - 65 : Nat) : Int) + 1) % 26).toNat = (c - 65 + 1) % 26 := by omega
      rw [ex] at pk
      generalize h ++ g = H at *
      simp only [l__law_names_1]
      simp (disch := first | with_reducible assumption | omega | with_reducible exact size_le (by omega) | decide | (simp only [List.length_cons, List.length_nil, List.length_append]; first | omega | with_reducible exact size_le (by omega)) | exact ⟨by simp only [List.length_cons, List.length_nil]; omega, by decide⟩ | fail) [-getElem?_pos, -getElem?_neg, -Int.natCast_add, le_size, rngR_ok, mul_int, mod_int, div_int, pow_int, add_str, len_str, len_refU, idx_refU, any_refU, all_refU, in_refU, in_tupU, okTo_appU, append_U, it_refU, join_refU, add_refU, isi_refU, idx_str, slc_str, str_int, int_str, meOf, List.lookup, fldOf, putN, putR_ok, List.getElem?_cons_zero, List.getElem?_cons_succ, List.getElem?_concat_length, get_app, get_app0, en_refU, mul_refU, tupF_refU, slc_refU, i0, fc, pk, cutt, nxtC]
    · rw [not_or] at q
      rw [decide_eq_false q.1, decide_eq_false q.2] at e
      exact ⟨c, g, hc, q.1, q.2, sWhl_stop e⟩
end
end K20

namespace K20
open PySem L2 Mp
def rowC (l : Tx) : List D := l.map fun c => .str [c]
theorem ixN_lt {m : Nat} {k : Int} (h0 : 0 ≤ k) (h1 : k < m) : ixN m k = some k.toNat := by
  unfold ixN
  simp only [h0, h1, if_true]
theorem rowC_set (l : Tx) (k c : Nat) : (rowC l).set k (.str [c]) = rowC (l.set k c) := by
  unfold rowC
  rw [List.map_set]
theorem rowC_len (l : Tx) : (rowC l).length = l.length := by unfold rowC; rw [List.length_map]
theorem rowC_at (l : Tx) {c : Nat} {r : Tx} (e : l = c :: r) : atI (rowC l) 0 = some (.str [c]) := by
  subst e
  have := atI_nat (rowC (c :: r)) 0 (by simp [rowC])
  exact this
theorem set_app2 {h : DH} {x y : O} : (h ++ [x]).set h.length y = h ++ [y] := by simp
section
variable {n : Nat}
theorem nm_body {e : Tx} (he : e = [] ∨ e = [36]) {more many l j : Int} (h0 : 0 ≤ more) (h1 : more < 2 ^ 129) (hl : 1 ≤ l) (hl2 : l + e.length ≤ 8) {found : List Tx} (hfl : found.length ≤ 9) {f : Nat} (hj : 0 ≤ j) (hj2 : j ≤ 100) (a8 a9 a10 : Option D) (h : DH) (hf : h[f]? = some (.lst (found.map .str))) :
    ∃ x g y8 y9, NmE e x ∧ x ∉ found ∧ l__law_names_2 (callN T (n + 1)) [some (.int more), some (.int many), some (.str e), some (.str CAP), some (.str CF), some (.int l), some (.ref f), some (.int j), a8, a9, a10, none] h
      = .nx [some (.int more), some (.int many), some (.str e), some (.str CAP), some (.str CF), some (.int l), some (.ref f), some (.int j), y8, y9, some (.str x), none] (h.set f (.lst ((found ++ [x]).map .str)) ++ g) := by
  have hel : e.length ≤ 1 := by rcases he with rfl | rfl <;> decide
  have l0 : more.natAbs.log2 < 2000000 := by
    have := nn_log h0 h1 (by decide)
    omega
  have lj : ((90 + j) + 1).natAbs.log2 < 2000000 := by
    have := nn_log (i := (90 + j) + 1) (n := 20) (by omega) (by omega) (by decide)
    omega
  have ed := c_drawn n more (90 + j) h l0 lj
  have d0 := drawn_nn more (90 + j)
  have d1 := drawn_lt more (90 + j)
  generalize drawn more (90 + j) = here at *
  obtain ⟨L, hL⟩ : ∃ L : Nat, l = L := Int.eq_ofNat_of_zero_le (by omega)
  have hz36 : CF.length ≤ sizeLine := size_le (by decide)
  have cm : compL none (stName 11) mTrue (t__law_names_2 (callN T (n + 1))) [some (.int more), some (.int many), some (.str e), some (.str CAP), some (.str CF), some (.int l), some (.ref f), some (.int j), some (.int here), a9, a10, none] (rangeD 0 l.toNat) h = .ok ((rangeD 0 l.toNat).map (chD CF more 36)) h := by
    refine compL_map _ still_none _ fun d hd => ?_
    unfold rangeD at hd
    obtain ⟨k, hk, rfl⟩ := List.mem_map.mp hd
    rw [List.mem_range] at hk
    have hd2 := c_drawn n more ((0 : Int) + (k : Int)) h l0 (by rw [Int.zero_add]; exact nat_log (by omega))
    have hi := idx_ch (al := CF) (x := drawn more (0 + (k : Int)) % 36) (h := h) hz36 (by omega) (by show _ < ((36 : Nat) : Int); omega)
    refine ⟨_, rfl, rfl, ?_⟩
    simp only [t__law_names_2]
    simp (disch := first | with_reducible assumption | omega | with_reducible exact size_le (by omega) | decide | (simp only [List.length_cons, List.length_nil, List.length_append]; first | omega | with_reducible exact size_le (by omega)) | exact ⟨by simp only [List.length_cons, List.length_nil]; omega, by decide⟩ | fail) [-getElem?_pos, -getElem?_neg, -Int.natCast_add, le_size, rngR_ok, mul_int, mod_int, div_int, pow_int, add_str, len_str, len_refU, idx_refU, any_refU, all_refU, in_refU, in_tupU, okTo_appU, append_U, it_refU, join_refU, add_refU, isi_refU, idx_str, slc_str, str_int, int_str, meOf, List.lookup, fldOf, putN, putR_ok, List.getElem?_cons_zero, List.getElem?_cons_succ, List.getElem?_concat_length, get_app, get_app0, en_refU, mul_refU, tupF_refU, slc_refU, -Int.zero_add, hd2, hi, chD]
  have eL : l.toNat = L := by omega
  rw [eL, ch_map] at cm
  obtain ⟨r0, er0, hr0, hc0⟩ : ∃ r0 : Tx, ((List.range L).map fun j : Nat => [CF.getD ((drawn more (j : Int)) % 36).toNat 0]).map D.str = rowC r0 ∧ r0.length = L ∧ ∀ c ∈ r0, c ∈ CF := by
    refine ⟨(List.range L).map fun j : Nat => CF.getD ((drawn more (j : Int)) % 36).toNat 0, by unfold rowC; rw [List.map_map, List.map_map]; rfl, by rw [List.length_map, List.length_range], fun c hc => ?_⟩
    obtain ⟨k, _, rfl⟩ := List.mem_map.mp hc
    exact getD_mem (by show _ < 36; omega)
  rw [er0] at cm
  have hrl : (rangeD 0 l.toNat).length ≤ sizeLine := size_le (by unfold rangeD; rw [List.length_map, List.length_range]; omega)
  have hz26 : CAP.length ≤ sizeLine := size_le (by decide)
  -- row[here % l] = ..
  have p1 := idx_ch (al := CF) (x := here / 8 % 36) (h := h ++ [.lst (rowC r0)]) hz36 (by omega) (by show _ < ((36 : Nat) : Int); omega)
  have c1m : CF.getD (here / 8 % 36).toNat 0 ∈ CF := getD_mem (by show _ < 36; omega)
  generalize CF.getD (here / 8 % 36).toNat 0 = c1 at *
  have k0 : 0 ≤ here % l := Int.emod_nonneg _ (by omega)
  have k1 : here % l < l := Int.emod_lt_of_pos _ (by omega)
  have g1 : (h ++ [O.lst (rowC r0)])[h.length]? = some (.lst (rowC r0)) := by simp
  have it1 := itm_ok (y := D.str [c1]) (e := [some (.int more), some (.int many), some (.str e), some (.str CAP), some (.str CF), some (.int l), some (.ref f), some (.int j), some (.int here), some (.ref h.length), a10, none]) g1 (ixN_lt (k := here % l) k0 (by rw [rowC_len, hr0]; omega))
  rw [rowC_set, set_app2] at it1
  generalize hr1 : r0.set (here % l).toNat c1 = r1 at *
  have hr1l : r1.length = L := by rw [← hr1, List.length_set]; exact hr0
  have hr1c : ∀ c ∈ r1, c ∈ CF := fun c hc => by
    rw [← hr1] at hc
    rcases List.mem_or_eq_of_mem_set hc with hc | rfl
    · exact hc0 c hc
    · exact c1m
  obtain ⟨b, rr, eb⟩ := List.exists_cons_of_ne_nil (l := r1) (fun z => by rw [z] at hr1l; simp at hr1l; omega)
  have a0 := rowC_at r1 eb
  have g2 : (h ++ [O.lst (rowC r1)])[h.length]? = some (.lst (rowC r1)) := by simp
  have p2 := atI_lt (xs := CAP) (i := here / 512 % 26) (by omega) (by show _ < ((26 : Nat) : Int); omega) 0
  have c2m : CAP.getD (here / 512 % 26).toNat 0 ∈ CAP := getD_mem (by show _ < 26; omega)
  generalize CAP.getD (here / 512 % 26).toNat 0 = c2 at *
  have it2 := itm_ok (y := D.str [c2]) (e := [some (.int more), some (.int many), some (.str e), some (.str CAP), some (.str CF), some (.int l), some (.ref f), some (.int j), some (.int here), some (.ref h.length), a10, none]) g2 (ixN_lt (k := 0) (Int.le_refl _) (by rw [rowC_len, hr1l]; omega))
  rw [rowC_set, set_app2] at it2
  -- the row as it is joined
  obtain ⟨b2, r2, hb2, hr2, st⟩ : ∃ b2 r2, b2 ∈ CAP ∧ (b2 :: r2).length = L ∧ (∀ c ∈ r2, c ∈ CF) ∧ sIf (mCmp .NotIn (mIdx (mVar 9) (mLit (.int 0))) (mVar 3)) (sSeq (sItm (mVar 9) (mLit (.int 0)) (mIdx (mVar 3) (mBin .Mod (mBin .FloorDiv (mVar 8) (mLit (.int 512))) (mLit (.int 26))))) sNext) sNext
      [some (.int more), some (.int many), some (.str e), some (.str CAP), some (.str CF), some (.int l), some (.ref f), some (.int j), some (.int here), some (.ref h.length), a10, none] (h ++ [.lst (rowC r1)])
      = .nx [some (.int more), some (.int many), some (.str e), some (.str CAP), some (.str CF), some (.int l), some (.ref f), some (.int j), some (.int here), some (.ref h.length), a10, none] (h ++ [.lst (rowC (b2 :: r2))]) := by
    by_cases q : b ∈ CAP
    · refine ⟨b, rr, q, by rw [← eb]; exact hr1l, fun c hc => hr1c c (by rw [eb]; exact List.mem_cons_of_mem _ hc), ?_⟩
      rw [← eb]
      generalize h ++ [O.lst (rowC r1)] = H at *
      simp (disch := first | with_reducible assumption | omega | with_reducible exact size_le (by omega) | decide | (simp only [List.length_cons, List.length_nil, List.length_append]; first | omega | with_reducible exact size_le (by omega)) | exact ⟨by simp only [List.length_cons, List.length_nil]; omega, by decide⟩ | fail) [-getElem?_pos, -getElem?_neg, -Int.natCast_add, le_size, rngR_ok, mul_int, mod_int, div_int, pow_int, add_str, len_str, len_refU, idx_refU, any_refU, all_refU, in_refU, in_tupU, okTo_appU, append_U, it_refU, join_refU, add_refU, isi_refU, idx_str, slc_str, str_int, int_str, meOf, List.lookup, fldOf, putN, putR_ok, List.getElem?_cons_zero, List.getElem?_cons_succ, List.getElem?_concat_length, get_app, get_app0, en_refU, mul_refU, tupF_refU, slc_refU, g2, a0, q]
    · have e2 : r1.set (0 : Int).toNat c2 = c2 :: rr := by rw [eb]; rfl
      rw [e2] at it2
      refine ⟨c2, rr, c2m, by rw [List.length_cons]; rw [eb, List.length_cons] at hr1l; exact hr1l, fun c hc => hr1c c (by rw [eb]; exact List.mem_cons_of_mem _ hc), ?_⟩
      generalize h ++ [O.lst (rowC r1)] = H at *
      simp (disch := first | with_reducible assumption | omega | with_reducible exact size_le (by omega) | decide | (simp only [List.length_cons, List.length_nil, List.length_append]; first | omega | with_reducible exact size_le (by omega)) | exact ⟨by simp only [List.length_cons, List.length_nil]; omega, by decide⟩ | fail) [-getElem?_pos, -getElem?_neg, -Int.natCast_add, le_size, rngR_ok, mul_int, mod_int, div_int, pow_int, add_str, len_str, len_refU, idx_refU, any_refU, all_refU, in_refU, in_tupU, okTo_appU, append_U, it_refU, join_refU, add_refU, isi_refU, idx_str, slc_str, str_int, int_str, meOf, List.lookup, fldOf, putN, putR_ok, List.getElem?_cons_zero, List.getElem?_cons_succ, List.getElem?_concat_length, get_app, get_app0, en_refU, mul_refU, tupF_refU, slc_refU, g2, a0, q, p2, it2]
  obtain ⟨hr2c, st⟩ := st
  have g3 : (h ++ [O.lst (rowC (b2 :: r2))])[h.length]? = some (.lst (rowC (b2 :: r2))) := by simp
  have jn : joinR [] (strsOf (rowC (b2 :: r2))) (h ++ [O.lst (rowC (b2 :: r2))]) = .ok (.str (b2 :: r2)) (h ++ [O.lst (rowC (b2 :: r2))]) := by
    unfold rowC
    rw [strs_one]
    exact joinR_one _ (by omega) _
  have hf3 : (h ++ [O.lst (rowC (b2 :: r2))])[f]? = some (.lst (found.map .str)) := by rw [List.getElem?_append_left (lt_of_get hf)]; exact hf
  obtain ⟨t, ht, hn1⟩ := free_at (r2 ++ e) found FREE (by decide) (by show _ < 11; omega)
  obtain ⟨t1, t2⟩ := free_ok t ht
  have hn2 : t :: (r2 ++ e) ∉ BRD := fun z => t2 _ z rfl
  rw [List.length_cons] at hr2
  obtain ⟨c', g, q1, q2, q3, lp⟩ := nm_loop (n := n) (r := r2 ++ e) (by rw [List.length_append]; omega) (some (.int more)) (some (.int many)) (some (.str e)) (some (.str CF)) (some (.int l)) (some (.int j)) (some (.int here)) (some (.ref h.length)) none t1 hn1 hn2 _ b2 (h ++ [O.lst (rowC (b2 :: r2))]) hb2 rfl hf3
  refine ⟨c' :: (r2 ++ e), [O.lst (rowC (b2 :: r2))] ++ g, some (.int here), some (.ref h.length), ⟨⟨c' :: r2, rfl, by simp, fun c hc => by cases hc; exact q1, fun c hc => ?_, by rw [List.length_cons]; omega⟩, q3⟩, q2, ?_⟩
  · rcases List.mem_cons.mp hc with rfl | hc
    · exact List.mem_append_left _ q1
    · exact hr2c c hc
  · have hf4 : (h ++ [O.lst (rowC (b2 :: r2))] ++ g)[f]? = some (.lst (found.map .str)) := by rw [List.getElem?_append_left (lt_of_get hf3)]; exact hf3
    have es : (h ++ [O.lst (rowC (b2 :: r2))] ++ g).set f (.lst ((found ++ [c' :: (r2 ++ e)]).map .str)) = h.set f (.lst ((found ++ [c' :: (r2 ++ e)]).map .str)) ++ ([O.lst (rowC (b2 :: r2))] ++ g) := by
      rw [List.append_assoc, List.set_append_left _ _ (lt_of_get hf)]
    rw [← es]
    have fl : found.length < sizeLine := size_le (n := found.length + 1) (by omega)
    have sj : sSet (stName 10) (mBin .Add (mBm .join (mLit (.str [])) [(mVar 9)]) (mVar 2)) [some (.int more), some (.int many), some (.str e), some (.str CAP), some (.str CF), some (.int l), some (.ref f), some (.int j), some (.int here), some (.ref h.length), a10, none] (h ++ [.lst (rowC (b2 :: r2))])
        = .nx [some (.int more), some (.int many), some (.str e), some (.str CAP), some (.str CF), some (.int l), some (.ref f), some (.int j), some (.int here), some (.ref h.length), some (.str (b2 :: (r2 ++ e))), none] (h ++ [.lst (rowC (b2 :: r2))]) := by
      generalize h ++ [O.lst (rowC (b2 :: r2))] = H at *
      simp (disch := first | with_reducible assumption | omega | with_reducible exact size_le (by omega) | decide | (simp only [List.length_cons, List.length_nil, List.length_append]; first | omega | with_reducible exact size_le (by omega)) | exact ⟨by simp only [List.length_cons, List.length_nil]; omega, by decide⟩ | fail) [-getElem?_pos, -getElem?_neg, -Int.natCast_add, le_size, rngR_ok, mul_int, mod_int, div_int, pow_int, add_str, len_str, len_refU, idx_refU, any_refU, all_refU, in_refU, in_tupU, okTo_appU, append_U, it_refU, join_refU, add_refU, isi_refU, idx_str, slc_str, str_int, int_str, meOf, List.lookup, fldOf, putN, putR_ok, List.getElem?_cons_zero, List.getElem?_cons_succ, List.getElem?_concat_length, get_app, get_app0, en_refU, mul_refU, tupF_refU, slc_refU, g3, jn]
    have sa : sDrop (mBm .append (mVar 6) [(mVar 10)]) [some (.int more), some (.int many), some (.str e), some (.str CAP), some (.str CF), some (.int l), some (.ref f), some (.int j), some (.int here), some (.ref h.length), some (.str (c' :: (r2 ++ e))), none] (h ++ [O.lst (rowC (b2 :: r2))] ++ g)
        = .nx [some (.int more), some (.int many), some (.str e), some (.str CAP), some (.str CF), some (.int l), some (.ref f), some (.int j), some (.int here), some (.ref h.length), some (.str (c' :: (r2 ++ e))), none] ((h ++ [O.lst (rowC (b2 :: r2))] ++ g).set f (.lst ((found ++ [c' :: (r2 ++ e)]).map .str))) := by
      generalize h ++ [O.lst (rowC (b2 :: r2))] ++ g = H at *
      simp (disch := first | with_reducible assumption | omega | with_reducible exact size_le (by omega) | decide | (simp only [List.length_cons, List.length_nil, List.length_append]; first | omega | with_reducible exact size_le (by omega)) | exact ⟨by simp only [List.length_cons, List.length_nil]; omega, by decide⟩ | fail) [-getElem?_pos, -getElem?_neg, -Int.natCast_add, le_size, rngR_ok, mul_int, mod_int, div_int, pow_int, add_str, len_str, len_refU, idx_refU, any_refU, all_refU, in_refU, in_tupU, okTo_appU, append_U, it_refU, join_refU, add_refU, isi_refU, idx_str, slc_str, str_int, int_str, meOf, List.lookup, fldOf, putN, putR_ok, List.getElem?_cons_zero, List.getElem?_cons_succ, List.getElem?_concat_length, get_app, get_app0, en_refU, mul_refU, tupF_refU, slc_refU, hf4, fl]
    have s1 : sSet (stName 8) (mCall (callN T (n + 1)) 0 [(mVar 0), (mBin .Add (mLit (.int 90)) (mVar 7))]) [some (.int more), some (.int many), some (.str e), some (.str CAP), some (.str CF), some (.int l), some (.ref f), some (.int j), a8, a9, a10, none] h
        = .nx [some (.int more), some (.int many), some (.str e), some (.str CAP), some (.str CF), some (.int l), some (.ref f), some (.int j), some (.int here), a9, a10, none] h := by
      simp (disch := first | with_reducible assumption | omega | with_reducible exact size_le (by omega) | decide | (simp only [List.length_cons, List.length_nil, List.length_append]; first | omega | with_reducible exact size_le (by omega)) | exact ⟨by simp only [List.length_cons, List.length_nil]; omega, by decide⟩ | fail) [-getElem?_pos, -getElem?_neg, -Int.natCast_add, le_size, rngR_ok, mul_int, mod_int, div_int, pow_int, add_str, len_str, len_refU, idx_refU, any_refU, all_refU, in_refU, in_tupU, okTo_appU, append_U, it_refU, join_refU, add_refU, isi_refU, idx_str, slc_str, str_int, int_str, meOf, List.lookup, fldOf, putN, putR_ok, List.getElem?_cons_zero, List.getElem?_cons_succ, List.getElem?_concat_length, get_app, get_app0, en_refU, mul_refU, tupF_refU, slc_refU, ed]
    have rr1 : rngR (.int l) h = .ok (rangeD 0 L, none) h := by rw [rngR_ok (by omega), eL]
    have hrl2 : (rangeD 0 L).length ≤ sizeLine := by rw [← eL]; exact hrl
    have s2 : sSet (stName 9) (mComp (miR1 (mVar 5)) [11] (stName 11) mTrue (t__law_names_2 (callN T (n + 1)))) [some (.int more), some (.int many), some (.str e), some (.str CAP), some (.str CF), some (.int l), some (.ref f), some (.int j), some (.int here), a9, a10, none] h
        = .nx [some (.int more), some (.int many), some (.str e), some (.str CAP), some (.str CF), some (.int l), some (.ref f), some (.int j), some (.int here), some (.ref h.length), a10, none] (h ++ [.lst (rowC r0)]) := by
      simp (disch := first | with_reducible assumption | omega | with_reducible exact size_le (by omega) | decide | (simp only [List.length_cons, List.length_nil, List.length_append]; first | omega | with_reducible exact size_le (by omega)) | exact ⟨by simp only [List.length_cons, List.length_nil]; omega, by decide⟩ | fail) [-getElem?_pos, -getElem?_neg, -Int.natCast_add, le_size, rngR_ok, mul_int, mod_int, div_int, pow_int, add_str, len_str, len_refU, idx_refU, any_refU, all_refU, in_refU, in_tupU, okTo_appU, append_U, it_refU, join_refU, add_refU, isi_refU, idx_str, slc_str, str_int, int_str, meOf, List.lookup, fldOf, putN, putR_ok, List.getElem?_cons_zero, List.getElem?_cons_succ, List.getElem?_concat_length, get_app, get_app0, en_refU, mul_refU, tupF_refU, slc_refU, rr1, hrl2, wipeD, cm]
    have s3 : sItm (mVar 9) (mBin .Mod (mVar 8) (mVar 5)) (mIdx (mVar 4) (mBin .Mod (mBin .FloorDiv (mVar 8) (mLit (.int 8))) (mLit (.int 36)))) [some (.int more), some (.int many), some (.str e), some (.str CAP), some (.str CF), some (.int l), some (.ref f), some (.int j), some (.int here), some (.ref h.length), a10, none] (h ++ [.lst (rowC r0)])
        = .nx [some (.int more), some (.int many), some (.str e), some (.str CAP), some (.str CF), some (.int l), some (.ref f), some (.int j), some (.int here), some (.ref h.length), a10, none] (h ++ [.lst (rowC r1)]) := by
      generalize h ++ [O.lst (rowC r0)] = H at *
      simp (disch := first | with_reducible assumption | omega | with_reducible exact size_le (by omega) | decide | (simp only [List.length_cons, List.length_nil, List.length_append]; first | omega | with_reducible exact size_le (by omega)) | exact ⟨by simp only [List.length_cons, List.length_nil]; omega, by decide⟩ | fail) [-getElem?_pos, -getElem?_neg, -Int.natCast_add, le_size, rngR_ok, mul_int, mod_int, div_int, pow_int, add_str, len_str, len_refU, idx_refU, any_refU, all_refU, in_refU, in_tupU, okTo_appU, append_U, it_refU, join_refU, add_refU, isi_refU, idx_str, slc_str, str_int, int_str, meOf, List.lookup, fldOf, putN, putR_ok, List.getElem?_cons_zero, List.getElem?_cons_succ, List.getElem?_concat_length, get_app, get_app0, en_refU, mul_refU, tupF_refU, slc_refU, p1, it1]
    simp only [l__law_names_2]
    rw [s_seq, s1, seqO_nx, s_seq, s2, seqO_nx, s_seq, s3, seqO_nx, s_seq, st, seqO_nx, s_seq, sj, seqO_nx, s_seq, lp, seqO_nx, s_seq, sa, seqO_nx, s_next]
theorem nm_for {e : Tx} (he : e = [] ∨ e = [36]) {more many l : Int} (h0 : 0 ≤ more) (h1 : more < 2 ^ 129) (hl : 1 ≤ l) (hl2 : l + e.length ≤ 8) {f : Nat} : ∀ (js : List D) (found : List Tx) (a7 a8 a9 a10 : Option D) (h : DH), (∀ d ∈ js, ∃ j : Int, d = .int j ∧ 0 ≤ j ∧ j ≤ 100) → found.length + js.length ≤ 10 → (∀ x ∈ found, NmE e x) → found.Nodup → h[f]? = some (.lst (found.map .str)) →
    ∃ (ns : List Tx) (g : DH) (y7 y8 y9 y10 : Option D), ns.length = found.length + js.length ∧ (∀ x ∈ ns, NmE e x) ∧ ns.Nodup ∧ forL none (stName 7) (l__law_names_2 (callN T (n + 1))) js [some (.int more), some (.int many), some (.str e), some (.str CAP), some (.str CF), some (.int l), some (.ref f), a7, a8, a9, a10, none] h
      = .nx [some (.int more), some (.int many), some (.str e), some (.str CAP), some (.str CF), some (.int l), some (.ref f), y7, y8, y9, y10, none] (h.set f (.lst (ns.map .str)) ++ g)
  | [], found, a7, a8, a9, a10, h, _, _, ha, nd, hf => ⟨found, [], a7, a8, a9, a10, rfl, ha, nd, by rw [forL_nil still_none, set_same hf, List.append_nil]⟩
  | d :: js, found, a7, a8, a9, a10, h, hj, hn, ha, nd, hf => by
    obtain ⟨j, rfl, j0, j1⟩ := hj d List.mem_cons_self
    rw [List.length_cons] at hn
    obtain ⟨x, g, y8, y9, hx, hxf, eb⟩ := nm_body (n := n) (many := many) he h0 h1 hl hl2 (by omega) j0 j1 a8 a9 a10 h hf
    have hf2 : (h.set f (.lst ((found ++ [x]).map .str)) ++ g)[f]? = some (.lst ((found ++ [x]).map .str)) := by
      rw [List.getElem?_append_left (by rw [List.length_set]; exact lt_of_get hf)]
      exact get_set (lt_of_get hf)
    obtain ⟨ns, g2, z7, z8, z9, z10, r1, r2, r3, r4⟩ := nm_for he h0 h1 hl hl2 js (found ++ [x]) (some (.int j)) y8 y9 (some (.str x)) _ (fun d hd => hj d (List.mem_cons_of_mem _ hd)) (by rw [List.length_append, List.length_singleton]; omega) (fun z hz => by
      rcases List.mem_append.mp hz with hz | hz
      · exact ha z hz
      · rw [List.mem_singleton.mp hz]; exact hx) (by
      rw [List.nodup_append]
      exact ⟨nd, by simp, fun a ha b hb => by
        rw [List.mem_singleton] at hb
        subst hb
        exact fun z => hxf (z ▸ ha)⟩) hf2
    refine ⟨ns, g ++ g2, z7, z8, z9, z10, by rw [r1, List.length_append, List.length_singleton, List.length_cons]; omega, r2, r3, ?_⟩
    rw [forL_cons (e1 := [some (.int more), some (.int many), some (.str e), some (.str CAP), some (.str CF), some (.int l), some (.ref f), some (.int j), a8, a9, a10, none]) still_none rfl, eb, nxt_nx, r4, List.set_append_left _ _ (by rw [List.length_set]; exact lt_of_get hf), List.set_set, List.append_assoc]
/-- names -/
theorem c_names {e : Tx} (he : e = [] ∨ e = [36]) {more : Int} {many : Nat} (h0 : 0 ≤ more) (h1 : more < 2 ^ 129) (hm : many ≤ 10) (h : DH) :
    ∃ (ns : List Tx) (f : Nat) (g : DH), ns.length = many ∧ (∀ x ∈ ns, NmE e x) ∧ ns.Nodup ∧ h.length ≤ f ∧ (h ++ g)[f]? = some (.lst (ns.map .str)) ∧ callN T (n + 2) 12 [.int more, .int many, .str e] h = .ok (.ref f) (h ++ g) := by
  have hel : e.length ≤ 1 := by rcases he with rfl | rfl <;> decide
  obtain ⟨l, hl, e2⟩ := pickI (vs := [1, 2, 3, 8 - (e.length : Int)]) (i := more % 4) (by omega) (by show _ < ((4 : Nat) : Int); omega)
  simp only [List.map_cons, List.map_nil] at e2
  have hl : l = 1 ∨ l = 2 ∨ l = 3 ∨ l = 8 - (e.length : Int) := by simpa using hl
  obtain ⟨mi, hmi⟩ : ∃ mi : Int, (many : Int) = mi := ⟨_, rfl⟩
  rw [hmi]
  obtain ⟨ns, g, y7, y8, y9, y10, r1, r2, r3, r4⟩ := nm_for (n := n) (many := mi) he h0 h1 (by omega) (by omega) (f := h.length + 1) (l := l) (rangeD 0 mi.toNat) [] none none none none (h ++ [O.lst [D.int 1, D.int 2, D.int 3, D.int (8 - ↑(List.length e))], O.lst []]) (fun d hd => by
    unfold rangeD at hd
    obtain ⟨j, hj, rfl⟩ := List.mem_map.mp hd
    rw [List.mem_range] at hj
    exact ⟨_, rfl, by omega, by omega⟩) (by unfold rangeD; rw [List.length_map, List.length_range, List.length_nil]; omega) (fun _ z => nomatch z) .nil (by simp)
  have es : (h ++ [O.lst [D.int 1, D.int 2, D.int 3, D.int (8 - ↑(List.length e))], O.lst []]).set (h.length + 1) (.lst (ns.map .str)) ++ g = h ++ ([O.lst [D.int 1, D.int 2, D.int 3, D.int (8 - ↑(List.length e))], O.lst (ns.map .str)] ++ g) := by simp
  rw [es] at r4
  have rr : rngR (.int mi) (h ++ [O.lst [D.int 1, D.int 2, D.int 3, D.int (8 - ↑(List.length e))], O.lst []]) = .ok (rangeD 0 mi.toNat, none) (h ++ [O.lst [D.int 1, D.int 2, D.int 3, D.int (8 - ↑(List.length e))], O.lst []]) := rngR_ok (by omega)
  refine ⟨ns, h.length + 1, [O.lst [D.int 1, D.int 2, D.int 3, D.int (8 - ↑(List.length e))], O.lst (ns.map .str)] ++ g, ?_, r2, r3, by omega, by simp, ?_⟩
  · rw [r1]
    unfold rangeD
    rw [List.length_map, List.length_range, List.length_nil]
    omega
  · rw [call_eq (k := n + 1) (fn := q12.fn) rfl rfl]
    simp only [Def1.fn, q12, b__law_names]
    simp only [show ([65, 66, 67, 68, 69, 70, 71, 72, 73, 74, 75, 76, 77, 78, 79, 80, 81, 82, 83, 84, 85, 86, 87, 88, 89, 90] : List Nat) = CAP from rfl, show ([48, 49, 50, 51, 52, 53, 54, 55, 56, 57] : List Nat) = FIG from rfl]
    have cl : CAP.length = 26 := rfl
    have cl2 : FIG.length = 10 := rfl
    have cf : CAP ++ FIG = CF := rfl
    have ap : h ++ [O.lst [D.int 1, D.int 2, D.int 3, D.int (8 - ↑(List.length e))]] ++ [O.lst []] = h ++ [O.lst [D.int 1, D.int 2, D.int 3, D.int (8 - ↑(List.length e))], O.lst []] := by simp
    simp (disch := first | with_reducible assumption | omega | with_reducible exact size_le (by omega) | decide | (simp only [List.length_cons, List.length_nil, List.length_append]; first | omega | with_reducible exact size_le (by omega)) | exact ⟨by simp only [List.length_cons, List.length_nil]; omega, by decide⟩ | fail) [-getElem?_pos, -getElem?_neg, -Int.natCast_add, le_size, rngR_ok, mul_int, mod_int, div_int, pow_int, add_str, len_str, len_refU, idx_refU, any_refU, all_refU, in_refU, in_tupU, okTo_appU, append_U, it_refU, join_refU, add_refU, isi_refU, idx_str, slc_str, str_int, int_str, meOf, List.lookup, fldOf, putN, putR_ok, List.getElem?_cons_zero, List.getElem?_cons_succ, List.getElem?_concat_length, get_app, get_app0, en_refU, mul_refU, tupF_refU, slc_refU, cl, cl2, cf, e2, rr, r4, ap]
end
end K20

namespace K20
open PySem L2 Mp
section
variable {n : Nat}
theorem c_signs (h : DH) : callN T (n + 1) 2 [] h = .ok (.str SIG) h := by
  rw [call_eq (fn := q2.fn) rfl rfl]
  simp only [Def1.fn, q2, b__law_signs]
  simp only [s_seq, s_ret, v_lit, bindO_ok, seqO_rt, fin_rt, SIG, List.cons_append, List.nil_append]
theorem c_text (more most : Int) (h0 : 0 ≤ more) (h1 : more < 2 ^ 129) (hm0 : 0 ≤ most) (hm1 : most ≤ 1000) (h : DH) : ∃ s g, (∀ c ∈ s, c ∈ SIG) ∧ ((s.length : Int) ≤ 8 ∨ (s.length : Int) ≤ most) ∧ callN T (n + 2) 3 [.int more, .int most] h = .ok (.str s) (h ++ g) := by
  rw [call_eq (k := n + 1) (fn := q3.fn) rfl rfl]
  simp only [Def1.fn, q3, b__law_text, t__law_text_1]
  have l0 : more.natAbs.log2 < 2000000 := by
    have := nn_log h0 h1 (by decide)
    omega
  by_cases q4 : more % 4 = 0
  · obtain ⟨e, he, e1⟩ := pickS (vs := [[], [45]]) (i := more / 4 % 2) (by omega) (by show _ < ((2 : Nat) : Int); omega)
    simp only [List.map_cons, List.map_nil] at e1
    have he : e = [] ∨ e = [45] := by simpa using he
    have hel : e.length ≤ 1 := by rcases he with rfl | rfl <;> decide
    obtain ⟨l, hl, e2⟩ := pickI (vs := [10, 1000, 10000000]) (i := more / 1073741824 % 3) (by omega) (by show _ < ((3 : Nat) : Int); omega)
    simp only [List.map_cons, List.map_nil] at e2
    have hl : l = 10 ∨ l = 1000 ∨ l = 10000000 := by simpa using hl
    have hv0 : 0 ≤ more / 8 % l := Int.emod_nonneg _ (by omega)
    have hv1 : more / 8 % l < l := Int.emod_lt_of_pos _ (by omega)
    obtain ⟨m, hm, es⟩ := num_sig _ hv0
    have hlog : (more / 8 % l).natAbs.log2 < 1920 := by
      have := nn_log (n := 30) hv0 (by omega) (by decide)
      omega
    have hml : (TL.numL m).length ≤ 7 := TL.numL_len (by decide) (by omega)
    have p1 : (10 : Int) ^ (7 : Int).toNat = 10000000 := by decide
    have p2 : (2 : Int) ^ (30 : Int).toNat = 1073741824 := by decide
    refine ⟨e ++ TL.numL m, [O.lst [D.str [], D.str [45]], O.lst [.int 10, .int 1000, .int 10000000]], fun c hc => ?_, .inl (by rw [List.length_append]; omega), ?_⟩
    · rcases List.mem_append.mp hc with hc | hc
      · rcases he with rfl | rfl
        · cases hc
        · rw [List.mem_singleton.mp hc]; decide
      · exact fig_sig (TL.numL_digits m c hc)
    · simp (disch := first | with_reducible assumption | omega | with_reducible exact size_le (by omega) | decide | (simp only [List.length_cons, List.length_nil, List.length_append]; first | omega | with_reducible exact size_le (by omega)) | exact ⟨by simp only [List.length_cons, List.length_nil]; omega, by decide⟩ | fail) [-getElem?_pos, -getElem?_neg, -Int.natCast_add, le_size, rngR_ok, mul_int, mod_int, div_int, pow_int, add_str, len_str, len_refU, idx_refU, any_refU, all_refU, in_refU, in_tupU, okTo_appU, append_U, it_refU, join_refU, add_refU, isi_refU, idx_str, slc_str, str_int, int_str, meOf, List.lookup, fldOf, putN, putR_ok, List.getElem?_cons_zero, List.getElem?_cons_succ, List.getElem?_concat_length, get_app, get_app0, en_refU, mul_refU, tupF_refU, slc_refU, c_signs, q4, e1, e2, es, p1, p2]
  · obtain ⟨l, hl, e2⟩ := pickI (vs := [0, 1, 2, 4, most]) (i := more / 4 % 5) (by omega) (by show _ < ((5 : Nat) : Int); omega)
    simp only [List.map_cons, List.map_nil] at e2
    have hl : l = 0 ∨ l = 1 ∨ l = 2 ∨ l = 4 ∨ l = most := by simpa using hl
    have hmin : ∃ K : Int, (if most < l then most else l) = K ∧ 0 ≤ K ∧ K ≤ most := by
      refine ⟨_, rfl, ?_, ?_⟩ <;> split <;> omega
    obtain ⟨K, hk2, hk0, hk3⟩ := hmin
    obtain ⟨k, hk⟩ : ∃ k : Nat, K.toNat = k := ⟨_, rfl⟩
    have hz : SIG.length ≤ sizeLine := size_le (by rw [sig_len]; decide)
    have cm : ∀ h' : DH, compL none (stName 4) mTrue (mIdx (mVar 2) (mBin .Mod (mCall (callN T (n + 1)) 0 [(mVar 0), (mVar 4)]) (mBi .len [(mVar 2)]))) [some (.int more), some (.int most), some (.str SIG), some (.int l), none] (rangeD 0 k) h' = .ok ((rangeD 0 k).map (chD SIG more 93)) h' := fun h' => by
      refine compL_map _ still_none _ fun d hd => ?_
      unfold rangeD at hd
      obtain ⟨j, hj, rfl⟩ := List.mem_map.mp hd
      rw [List.mem_range] at hj
      have hd2 := c_drawn n more ((0 : Int) + (j : Int)) h' l0 (by rw [Int.zero_add]; exact nat_log (by omega))
      have hi := idx_ch (al := SIG) (x := drawn more (0 + (j : Int)) % 93) (h := h') hz (by omega) (by rw [sig_len]; omega)
      refine ⟨_, rfl, rfl, ?_⟩
      simp (disch := first | with_reducible assumption | omega | with_reducible exact size_le (by omega) | decide | (simp only [List.length_cons, List.length_nil, List.length_append]; first | omega | with_reducible exact size_le (by omega)) | exact ⟨by simp only [List.length_cons, List.length_nil]; omega, by decide⟩ | fail) [-getElem?_pos, -getElem?_neg, -Int.natCast_add, le_size, rngR_ok, mul_int, mod_int, div_int, pow_int, add_str, len_str, len_refU, idx_refU, any_refU, all_refU, in_refU, in_tupU, okTo_appU, append_U, it_refU, join_refU, add_refU, isi_refU, idx_str, slc_str, str_int, int_str, meOf, List.lookup, fldOf, putN, putR_ok, List.getElem?_cons_zero, List.getElem?_cons_succ, List.getElem?_concat_length, get_app, get_app0, en_refU, mul_refU, tupF_refU, slc_refU, -Int.zero_add, hd2, hi, chD, sig_len]
    have hrl : (rangeD 0 k).length ≤ sizeLine := size_le (by unfold rangeD; rw [List.length_map, List.length_range]; omega)
    obtain ⟨u, hul, huc, jn⟩ := draw_join SIG more 93 k (by decide) (by rw [sig_len]; decide) (by omega)
    refine ⟨u, [O.lst [.int 0, .int 1, .int 2, .int 4, .int most], O.lst ((rangeD 0 k).map (chD SIG more 93))], huc, .inr (by omega), ?_⟩
    simp (disch := first | with_reducible assumption | omega | with_reducible exact size_le (by omega) | decide | (simp only [List.length_cons, List.length_nil, List.length_append]; first | omega | with_reducible exact size_le (by omega)) | exact ⟨by simp only [List.length_cons, List.length_nil]; omega, by decide⟩ | fail) [-getElem?_pos, -getElem?_neg, -Int.natCast_add, le_size, rngR_ok, mul_int, mod_int, div_int, pow_int, add_str, len_str, len_refU, idx_refU, any_refU, all_refU, in_refU, in_tupU, okTo_appU, append_U, it_refU, join_refU, add_refU, isi_refU, idx_str, slc_str, str_int, int_str, meOf, List.lookup, fldOf, putN, putR_ok, List.getElem?_cons_zero, List.getElem?_cons_succ, List.getElem?_concat_length, get_app, get_app0, en_refU, mul_refU, tupF_refU, slc_refU, c_signs, q4, e2, hk2, hk, cm, hrl, wipeD, jn]
end
/-! ### terms drawn -/
/-- a pool of names, of numbers and of texts -/
structure Pool (h : DH) (pd : D) : Prop where
  ex : ∃ (a b : Nat) (ns ms : List Tx), pd = .tup [.ref a, .ref b] ∧ h[a]? = some (.lst (ns.map .str)) ∧ h[b]? = some (.lst (ms.map .str)) ∧ 0 < ns.length ∧ 0 < ms.length ∧ ns.length ≤ 1000 ∧ ms.length ≤ 1000 ∧ (∀ x ∈ ns, NmE [] x) ∧ ∀ x ∈ ms, NmE [36] x
theorem Pool.app {h g : DH} {pd : D} (p : Pool h pd) : Pool (h ++ g) pd := by
  obtain ⟨a, b, ns, ms, e, ha, hb, r⟩ := p.ex
  exact ⟨a, b, ns, ms, e, by rw [List.getElem?_append_left (lt_of_get ha)]; exact ha, by rw [List.getElem?_append_left (lt_of_get hb)]; exact hb, r⟩
def kdX (b : Bool) : Tx := if b then [115] else [110]
/-- the names of a kind -/
theorem Pool.of {h : DH} {pd : D} (p : Pool h pd) (b : Bool) : ∃ (a : Nat) (ns : List Tx), dIdx pd (.int (if b then 1 else 0)) h = .ok (.ref a) h ∧ h[a]? = some (.lst (ns.map .str)) ∧ 0 < ns.length ∧ ns.length ≤ 1000 ∧ ∀ x ∈ ns, NmE (if b then [36] else []) x := by
  obtain ⟨x, y, ns, ms, rfl, ha, hb, r1, r2, r3, r4, r5, r6⟩ := p.ex
  cases b with
  | true => exact ⟨y, ms, rfl, hb, r2, r4, r6⟩
  | false => exact ⟨x, ns, rfl, ha, r1, r3, r5⟩
theorem NmE.vb {b : Bool} {x : Tx} (h : NmE (if b then [36] else []) x) : NameV x := h.v (by cases b <;> simp)
mutual
def tsz : Tm → Nat
  | .num _ => 1
  | .text _ => 1
  | .name _ => 1
  | .cell _ as => 1 + tszs as
  | .call _ as => 1 + tszs as
  | .minus t => 1 + tsz t
  | .not t => 1 + tsz t
  | .op _ a b => 1 + tsz a + tsz b
def tszs : List Tm → Nat
  | [] => 0
  | t :: r => tsz t + tszs r
end
theorem p10 : (2 : Int) ^ (10 : Int).toNat = 1024 := by decide
theorem p60 : (2 : Int) ^ (60 : Int).toNat = 1152921504606846976 := by decide
theorem pt9 : (10 : Int) ^ (9 : Int).toNat = 1000000000 := by decide
section
variable {n : Nat}
theorem c_leaf {more : Int} {b : Bool} {pd : D} {h : DH} (h0 : 0 ≤ more) (h1 : more < 2 ^ 129) (p : Pool h pd) : ∃ t g, VT t 1 ∧ tsz t = 1 ∧ callN T (n + 3) 4 [.int more, .str (kdX b), pd] h = .ok (tmD t) (h ++ g) := by
  obtain ⟨a, ns, ei, ea, hn, hn2, hv⟩ := p.of b
  rw [call_eq (k := n + 2) (fn := q4.fn) rfl rfl]
  simp only [Def1.fn, q4, b__law_leaf]
  have ek : decide (kdX b = [115]) = b := by cases b <;> decide
  have s1 : sSet (stName 3) (mIdx (mVar 2) (mBi .int [(mCmp .Eq (mVar 1) (mLit (.str [115])))])) [some (.int more), some (.str (kdX b)), some pd, none] h = .nx [some (.int more), some (.str (kdX b)), some pd, some (.ref a)] h := by
    cases b <;> (simp (disch := first | with_reducible assumption | omega | with_reducible exact size_le (by omega) | decide | (simp only [List.length_cons, List.length_nil, List.length_append]; first | omega | with_reducible exact size_le (by omega)) | exact ⟨by simp only [List.length_cons, List.length_nil]; omega, by decide⟩ | fail) [-getElem?_pos, -getElem?_neg, -Int.natCast_add, le_size, rngR_ok, mul_int, mod_int, div_int, pow_int, add_str, len_str, len_refU, idx_refU, any_refU, all_refU, in_refU, in_tupU, okTo_appU, append_U, it_refU, join_refU, add_refU, isi_refU, idx_str, slc_str, str_int, int_str, meOf, List.lookup, fldOf, putN, putR_ok, List.getElem?_cons_zero, List.getElem?_cons_succ, List.getElem?_concat_length, get_app, get_app0, en_refU, mul_refU, tupF_refU, slc_refU, kdX]; simp only [Bool.false_eq_true, if_false, if_true] at ei; rw [ei]; rfl)
  by_cases q4 : more % 4 < 2
  · obtain ⟨N, hN⟩ : ∃ N : Int, (ns.length : Int) = N := ⟨_, rfl⟩
    obtain ⟨x, hx, ex⟩ := pickS (vs := ns) (i := more / 4 % N) (Int.emod_nonneg _ (by omega)) (by rw [hN]; exact Int.emod_lt_of_pos _ (by omega))
    refine ⟨.name x, [], .name (hv x hx).vb, by rw [tsz], ?_⟩
    show finO (sSeq _ _ [some (.int more), some (.str (kdX b)), some pd, none] h) = _
    rw [s_seq, s1, seqO_nx, List.append_nil]
    have hN0 : 0 < N := by omega
    simp (disch := first | with_reducible assumption | omega | with_reducible exact size_le (by omega) | decide | (simp only [List.length_cons, List.length_nil, List.length_append]; first | omega | with_reducible exact size_le (by omega)) | exact ⟨by simp only [List.length_cons, List.length_nil]; omega, by decide⟩ | fail) [-getElem?_pos, -getElem?_neg, -Int.natCast_add, le_size, rngR_ok, mul_int, mod_int, div_int, pow_int, add_str, len_str, len_refU, idx_refU, any_refU, all_refU, in_refU, in_tupU, okTo_appU, append_U, it_refU, join_refU, add_refU, isi_refU, idx_str, slc_str, str_int, int_str, meOf, List.lookup, fldOf, putN, putR_ok, List.getElem?_cons_zero, List.getElem?_cons_succ, List.getElem?_concat_length, get_app, get_app0, en_refU, mul_refU, tupF_refU, slc_refU, q4, ea, hN, ex, tmD]
  · cases b with
    | true =>
      obtain ⟨s, g, s1', s2', e⟩ := c_text (n := n) (more / 16) 9 (by omega) (by omega) (by decide) (by decide) h
      refine ⟨.text s, g, .text (by omega) fun c hc => ?_, by rw [tsz], ?_⟩
      · have := sig_of (s1' c hc)
        unfold signB
        simp only [Bool.and_eq_true, decide_eq_true_eq, Bool.not_eq_true', decide_eq_false_iff_not]
        omega
      · show finO (sSeq _ _ [some (.int more), some (.str (kdX true)), some pd, none] h) = _
        rw [s_seq, s1, seqO_nx]
        simp (disch := first | with_reducible assumption | omega | with_reducible exact size_le (by omega) | decide | (simp only [List.length_cons, List.length_nil, List.length_append]; first | omega | with_reducible exact size_le (by omega)) | exact ⟨by simp only [List.length_cons, List.length_nil]; omega, by decide⟩ | fail) [-getElem?_pos, -getElem?_neg, -Int.natCast_add, le_size, rngR_ok, mul_int, mod_int, div_int, pow_int, add_str, len_str, len_refU, idx_refU, any_refU, all_refU, in_refU, in_tupU, okTo_appU, append_U, it_refU, join_refU, add_refU, isi_refU, idx_str, slc_str, str_int, int_str, meOf, List.lookup, fldOf, putN, putR_ok, List.getElem?_cons_zero, List.getElem?_cons_succ, List.getElem?_concat_length, get_app, get_app0, en_refU, mul_refU, tupF_refU, slc_refU, q4, kdX, e, tmD]
    | false =>
      obtain ⟨l, hl, e2⟩ := pickI (vs := [4, 12, 1000, 1000000000]) (i := more / 16 % 4) (by omega) (by show _ < ((4 : Nat) : Int); omega)
      simp only [List.map_cons, List.map_nil] at e2
      have hl : l = 4 ∨ l = 12 ∨ l = 1000 ∨ l = 1000000000 := by simpa using hl
      have v0 : 0 ≤ more / 1024 % l := Int.emod_nonneg _ (by omega)
      have v1 : more / 1024 % l < l := Int.emod_lt_of_pos _ (by omega)
      have hl0 : 0 < l := by omega
      refine ⟨.num (more / 1024 % l), [O.lst [.int 4, .int 12, .int 1000, .int 1000000000]], .num v0 (by omega), by rw [tsz], ?_⟩
      show finO (sSeq _ _ [some (.int more), some (.str (kdX false)), some pd, none] h) = _
      rw [s_seq, s1, seqO_nx]
      simp (disch := first | with_reducible assumption | omega | with_reducible exact size_le (by omega) | decide | (simp only [List.length_cons, List.length_nil, List.length_append]; first | omega | with_reducible exact size_le (by omega)) | exact ⟨by simp only [List.length_cons, List.length_nil]; omega, by decide⟩ | fail) [-getElem?_pos, -getElem?_neg, -Int.natCast_add, le_size, rngR_ok, mul_int, mod_int, div_int, pow_int, add_str, len_str, len_refU, idx_refU, any_refU, all_refU, in_refU, in_tupU, okTo_appU, append_U, it_refU, join_refU, add_refU, isi_refU, idx_str, slc_str, str_int, int_str, meOf, List.lookup, fldOf, putN, putR_ok, List.getElem?_cons_zero, List.getElem?_cons_succ, List.getElem?_concat_length, get_app, get_app0, en_refU, mul_refU, tupF_refU, slc_refU, q4, kdX, e2, tmD, p10, pt9]
end
end K20

namespace K20
open PySem L2 Mp
section
variable {α : Type} {a b c d e f g i j : α} {r : List α}
theorem x0 : atI (a :: r) 0 = some a := atI_nat (a :: r) 0 (by simp)
theorem x1 : atI (a :: b :: r) 1 = some b := atI_nat (a :: b :: r) 1 (by simp)
theorem x2 : atI (a :: b :: c :: r) 2 = some c := atI_nat (a :: b :: c :: r) 2 (by simp)
theorem x3 : atI (a :: b :: c :: d :: r) 3 = some d := atI_nat (a :: b :: c :: d :: r) 3 (by simp)
theorem x4 : atI (a :: b :: c :: d :: e :: r) 4 = some e := atI_nat (a :: b :: c :: d :: e :: r) 4 (by simp)
theorem x5 : atI (a :: b :: c :: d :: e :: f :: r) 5 = some f := atI_nat (a :: b :: c :: d :: e :: f :: r) 5 (by simp)
theorem x6 : atI (a :: b :: c :: d :: e :: f :: g :: r) 6 = some g := atI_nat (a :: b :: c :: d :: e :: f :: g :: r) 6 (by simp)
theorem x7 : atI (a :: b :: c :: d :: e :: f :: g :: i :: r) 7 = some i := atI_nat (a :: b :: c :: d :: e :: f :: g :: i :: r) 7 (by simp)
theorem x8 : atI (a :: b :: c :: d :: e :: f :: g :: i :: j :: r) 8 = some j := atI_nat (a :: b :: c :: d :: e :: f :: g :: i :: j :: r) 8 (by simp)
end
def OP13 : List Tx := [[61], [60, 62], [60], [62], [60, 61], [62, 61], [65, 78, 68], [79, 82], [43], [45], [42], [68, 73, 86], [77, 79, 68]]
def OP6 : List Tx := [[61], [60, 62], [60], [62], [60, 61], [62, 61]]
theorem op13_ok : ∀ s ∈ OP13, (opStr s).isSome = true := by decide
theorem op6_ok : ∀ s ∈ OP6, (opStr s).isSome = true := by decide
section
variable {n : Nat}
/-- a term is drawn -/
def DrawT (k : Nat) (deep : Nat) : Prop := ∀ (more odd : Int) (b : Bool) (pd : D) (h : DH), 0 ≤ more → more < 2 ^ 129 → 0 ≤ odd → odd < 1000000 → Pool h pd → ∃ t g, VT t (deep + 1) ∧ tsz t ≤ 4 ^ deep ∧ callN T k 5 [.int more, .int deep, .str (kdX b), pd, .int odd] h = .ok (tmD t) (h ++ g)
theorem sz3 {S : Nat} (h : 1 ≤ S) {a b c : Nat} (ha : a ≤ S) (hb : b ≤ S) (hc : c ≤ S) : 1 + (a + (b + (c + 0))) ≤ 4 * S ∧ 1 + (a + (b + 0)) ≤ 4 * S ∧ 1 + (a + 0) ≤ 4 * S ∧ 1 + a + b ≤ 4 * S ∧ 1 + a ≤ 4 * S := by omega
theorem c_joined {k deep : Nat} (D1 : DrawT (k + 1) deep) {more odd : Int} {b : Bool} {pd : D} {h : DH} (h0 : 0 ≤ more) (h1 : more < 2 ^ 129) (ho : 0 ≤ odd) (ho2 : odd < 1000000) (p : Pool h pd) :
    ∃ t, VT t (deep + 2) ∧ tsz t ≤ 4 ^ (deep + 1) ∧ ∃ g, callN T (k + 2) 1 [.int more, .int deep, .str (kdX b), pd, .int odd] h = .ok (tmD t) (h ++ g) := by
  have lm : more.natAbs.log2 < 2000000 := by
    have := nn_log h0 h1 (by decide)
    omega
  -- the row
  have rl : ∀ j : Int, 0 ≤ j → j ≤ 2 → 0 ≤ drawn more j ∧ drawn more j < 2 ^ 129 := fun j _ _ => by
    have a := drawn_nn more j
    have b := drawn_lt more j
    omega
  obtain ⟨w0, w0'⟩ := rl 0 (by decide) (by decide)
  obtain ⟨w1, w1'⟩ := rl 1 (by decide) (by decide)
  obtain ⟨w2, w2'⟩ := rl 2 (by decide) (by decide)
  have cm : ∀ (e : En), e.length = 17 → e[0]? = some (some (.int more)) → compL none (stName 15) mTrue (t__law_joined_2 (callN T (k + 1))) (wipeD e [15]) (rangeD 0 3) h = .ok [.int (drawn more 0), .int (drawn more 1), .int (drawn more 2)] h := fun e he e0 => by
    have z := compL_map (g := none) (st := stName 15) (cond := mTrue) (elt := t__law_joined_2 (callN T (k + 1))) (e0 := wipeD e [15]) (h := h) (fun d => match d with | .int j => .int (drawn more j) | _ => .non) still_none (rangeD 0 3) (fun d hd => by
      unfold rangeD at hd
      obtain ⟨j, hj, rfl⟩ := List.mem_map.mp hd
      rw [List.mem_range] at hj
      have hd2 := c_drawn k more ((0 : Int) + (j : Int)) h lm (by rw [Int.zero_add]; exact nat_log (by omega))
      refine ⟨_, rfl, rfl, ?_⟩
      have g0 : (((wipeD e [15]).set 15 (some (D.int (0 + (j : Int)))))[0]?) = some (some (.int more)) := by simp [wipeD, e0]
      have g15 : (((wipeD e [15]).set 15 (some (D.int (0 + (j : Int)))))[15]?) = some (some (.int (0 + (j : Int)))) := by simp [wipeD, he]
      simp only [t__law_joined_2, v_call, v_cons, v_nil, v_var, g0, g15, varR_ok, bind_ok, hd2])
    rw [z]
    rfl
  rw [call_eq (k := k + 1) (fn := q1.fn) rfl rfl]
  simp only [Def1.fn, q1, b__law_joined]
  simp only [List.map_cons, List.map_nil, List.length_cons, List.length_nil, Nat.reduceAdd, Nat.reduceSub, List.replicate, List.cons_append, List.nil_append]
  generalize drawn more 0 = d0 at *
  generalize drawn more 1 = d1 at *
  generalize drawn more 2 = d2 at *
  have s1 : sSet (stName 5) (mComp (miR1 (mLit (.int 3))) [15] (stName 15) mTrue (t__law_joined_2 (callN T (k + 1)))) [some (.int more), some (.int deep), some (.str (kdX b)), some pd, some (.int odd), none, none, none, none, none, none, none, none, none, none, none, none] h
      = .nx [some (.int more), some (.int deep), some (.str (kdX b)), some pd, some (.int odd), some (.ref h.length), none, none, none, none, none, none, none, none, none, none, none] (h ++ [.lst [.int d0, .int d1, .int d2]]) := by
    have r3 : rngR (.int 3) h = .ok (rangeD 0 3, none) h := rngR_ok (by decide)
    have l3 : (rangeD 0 3).length ≤ sizeLine := size_le (by decide)
    have z := cm [some (.int more), some (.int deep), some (.str (kdX b)), some pd, some (.int odd), none, none, none, none, none, none, none, none, none, none, none, none] rfl rfl
    simp (disch := first | with_reducible assumption | omega | with_reducible exact size_le (by omega) | decide | (simp only [List.length_cons, List.length_nil, List.length_append]; first | omega | with_reducible exact size_le (by omega)) | exact ⟨by simp only [List.length_cons, List.length_nil]; omega, by decide⟩ | fail) [-getElem?_pos, -getElem?_neg, -Int.natCast_add, le_size, rngR_ok, mul_int, mod_int, div_int, pow_int, add_str, len_str, len_refU, idx_refU, any_refU, all_refU, in_refU, in_tupU, okTo_appU, append_U, it_refU, join_refU, add_refU, isi_refU, idx_str, slc_str, str_int, int_str, meOf, List.lookup, fldOf, putN, putR_ok, List.getElem?_cons_zero, List.getElem?_cons_succ, List.getElem?_concat_length, get_app, get_app0, en_refU, mul_refU, tupF_refU, slc_refU, r3, l3, z]
  have gR : (h ++ [O.lst [D.int d0, .int d1, .int d2]])[h.length]? = some (.lst [.int d0, .int d1, .int d2]) := by simp
  have p1 : Pool (h ++ [.lst [.int d0, .int d1, .int d2]]) pd := p.app
  generalize hH : h ++ [O.lst [D.int d0, .int d1, .int d2]] = H at *
  obtain ⟨t6, g6, v6, z6, e6⟩ := D1 d0 odd false pd H w0 w0' ho ho2 p1
  obtain ⟨t7, g7, v7, z7, e7⟩ := D1 d1 odd false pd (H ++ g6) w1 w1' ho ho2 p1.app
  obtain ⟨t8, g8, v8, z8, e8⟩ := D1 d2 odd false pd (H ++ g6 ++ g7) w2 w2' ho ho2 p1.app.app
  obtain ⟨t9, g9, v9, z9, e9⟩ := D1 d0 odd true pd (H ++ g6 ++ g7 ++ g8 ++ [.lst [tmD t6, tmD t7, tmD t8]]) w0 w0' ho ho2 p1.app.app.app.app
  obtain ⟨t10, g10, v10, z10, e10⟩ := D1 d1 odd true pd (H ++ g6 ++ g7 ++ g8 ++ [.lst [tmD t6, tmD t7, tmD t8]] ++ g9) w1 w1' ho ho2 p1.app.app.app.app.app
  have ap : ∀ {x g : DH} {R : Nat} {o : O}, x[R]? = some o → (x ++ g)[R]? = some o := fun {x g R o} q => by rw [List.getElem?_append_left (lt_of_get q)]; exact q
  have gR6 : (H ++ g6)[h.length]? = some (.lst [.int d0, .int d1, .int d2]) := ap gR
  have gR7 : (H ++ g6 ++ g7)[h.length]? = some (.lst [.int d0, .int d1, .int d2]) := ap gR6
  have gR8 : (H ++ g6 ++ g7 ++ g8)[h.length]? = some (.lst [.int d0, .int d1, .int d2]) := ap gR7
  have gR9 : (H ++ g6 ++ g7 ++ g8 ++ [O.lst [tmD t6, tmD t7, tmD t8]])[h.length]? = some (.lst [.int d0, .int d1, .int d2]) := ap gR8
  have gRa : (H ++ g6 ++ g7 ++ g8 ++ [O.lst [tmD t6, tmD t7, tmD t8]] ++ g9)[h.length]? = some (.lst [.int d0, .int d1, .int d2]) := ap gR9
  have gRb : (H ++ g6 ++ g7 ++ g8 ++ [O.lst [tmD t6, tmD t7, tmD t8]] ++ g9 ++ g10)[h.length]? = some (.lst [.int d0, .int d1, .int d2]) := ap gRa
  have gL : (H ++ g6 ++ g7 ++ g8 ++ [O.lst [tmD t6, tmD t7, tmD t8]])[(H ++ g6 ++ g7 ++ g8).length]? = some (.lst [tmD t6, tmD t7, tmD t8]) := List.getElem?_concat_length
  have st : ∀ {x : DH}, x[h.length]? = some (.lst [.int d0, .int d1, .int d2]) → Still (some (h.length, [.int d0, .int d1, .int d2])) x := fun q => q
  have cm2 : compL (some (h.length, [.int d0, .int d1, .int d2])) (stName 16) mTrue (t__law_joined_1 (callN T (k + 1))) [some (.int more), some (.int deep), some (.str (kdX b)), some pd, some (.int odd), some (.ref h.length), none, none, none, none, none, none, none, none, none, none, none] [.int d0, .int d1, .int d2] H = .ok [tmD t6, tmD t7, tmD t8] (H ++ g6 ++ g7 ++ g8) := by
    have el : ∀ (x : Int) (x2 x3 : DH) (d : D), callN T (k + 1) 5 [.int x, .int deep, .str (kdX false), pd, .int odd] x2 = .ok d x3 → t__law_joined_1 (callN T (k + 1)) ([some (.int more), some (.int deep), some (.str (kdX b)), some pd, some (.int odd), some (.ref h.length), none, none, none, none, none, none, none, none, none, none, none].set 16 (some (.int x))) x2 = .ok d x3 := fun x x2 x3 d z => by
      simp only [t__law_joined_1]
      simp (disch := first | with_reducible assumption | omega | with_reducible exact size_le (by omega) | decide | (simp only [List.length_cons, List.length_nil, List.length_append]; first | omega | with_reducible exact size_le (by omega)) | exact ⟨by simp only [List.length_cons, List.length_nil]; omega, by decide⟩ | fail) [-getElem?_pos, -getElem?_neg, -Int.natCast_add, le_size, rngR_ok, mul_int, mod_int, div_int, pow_int, add_str, len_str, len_refU, idx_refU, any_refU, all_refU, in_refU, in_tupU, okTo_appU, append_U, it_refU, join_refU, add_refU, isi_refU, idx_str, slc_str, str_int, int_str, meOf, List.lookup, fldOf, putN, putR_ok, List.getElem?_cons_zero, List.getElem?_cons_succ, List.getElem?_concat_length, get_app, get_app0, en_refU, mul_refU, tupF_refU, slc_refU, z, show ([110] : Tx) = kdX false from rfl]
    have e6' := el _ _ _ _ e6
    have e7' := el _ _ _ _ e7
    have e8' := el _ _ _ _ e8
    have a1 : stName 16 (.int d0) [some (.int more), some (.int deep), some (.str (kdX b)), some pd, some (.int odd), some (.ref h.length), none, none, none, none, none, none, none, none, none, none, none] = some ([some (.int more), some (.int deep), some (.str (kdX b)), some pd, some (.int odd), some (.ref h.length), none, none, none, none, none, none, none, none, none, none, none].set 16 (some (.int d0))) := rfl
    have a2 : stName 16 (.int d1) [some (.int more), some (.int deep), some (.str (kdX b)), some pd, some (.int odd), some (.ref h.length), none, none, none, none, none, none, none, none, none, none, none] = some ([some (.int more), some (.int deep), some (.str (kdX b)), some pd, some (.int odd), some (.ref h.length), none, none, none, none, none, none, none, none, none, none, none].set 16 (some (.int d1))) := rfl
    have a3 : stName 16 (.int d2) [some (.int more), some (.int deep), some (.str (kdX b)), some pd, some (.int odd), some (.ref h.length), none, none, none, none, none, none, none, none, none, none, none] = some ([some (.int more), some (.int deep), some (.str (kdX b)), some pd, some (.int odd), some (.ref h.length), none, none, none, none, none, none, none, none, none, none, none].set 16 (some (.int d2))) := rfl
    rw [compL_one (st gR) a1 e6', compL_one (st gR6) a2 e7', compL_one (st gR7) a3 e8', compL_end (st gR8)]
    rfl
  have s2 : sUnl [6, 7, 8] (mComp (miE (mVar 5)) [16] (stName 16) mTrue (t__law_joined_1 (callN T (k + 1)))) [some (.int more), some (.int deep), some (.str (kdX b)), some pd, some (.int odd), some (.ref h.length), none, none, none, none, none, none, none, none, none, none, none] H
      = .nx [some (.int more), some (.int deep), some (.str (kdX b)), some pd, some (.int odd), some (.ref h.length), some (tmD t6), some (tmD t7), some (tmD t8), none, none, none, none, none, none, none, none] (H ++ g6 ++ g7 ++ g8 ++ [.lst [tmD t6, tmD t7, tmD t8]]) := by
    have u := unl_ok (is := [6, 7, 8]) (e := [some (.int more), some (.int deep), some (.str (kdX b)), some pd, some (.int odd), some (.ref h.length), none, none, none, none, none, none, none, none, none, none, none]) (e1 := [some (.int more), some (.int deep), some (.str (kdX b)), some pd, some (.int odd), some (.ref h.length), some (tmD t6), some (tmD t7), some (tmD t8), none, none, none, none, none, none, none, none]) gL rfl
    generalize hH4 : H ++ g6 ++ g7 ++ g8 = H4 at *
    simp (disch := first | with_reducible assumption | omega | with_reducible exact size_le (by omega) | decide | (simp only [List.length_cons, List.length_nil, List.length_append]; first | omega | with_reducible exact size_le (by omega)) | exact ⟨by simp only [List.length_cons, List.length_nil]; omega, by decide⟩ | fail) [-getElem?_pos, -getElem?_neg, -Int.natCast_add, le_size, rngR_ok, mul_int, mod_int, div_int, pow_int, add_str, len_str, len_refU, idx_refU, any_refU, all_refU, in_refU, in_tupU, okTo_appU, append_U, it_refU, join_refU, add_refU, isi_refU, idx_str, slc_str, str_int, int_str, meOf, List.lookup, fldOf, putN, putR_ok, List.getElem?_cons_zero, List.getElem?_cons_succ, List.getElem?_concat_length, get_app, get_app0, en_refU, mul_refU, tupF_refU, slc_refU, gR, wipeD, cm2, u]
  have s3 : sSet (stName 9) (mCall (callN T (k + 1)) 5 [(mIdx (mVar 5) (mLit (.int 0))), (mVar 1), (mLit (.str [115])), (mVar 3), (mVar 4)]) [some (.int more), some (.int deep), some (.str (kdX b)), some pd, some (.int odd), some (.ref h.length), some (tmD t6), some (tmD t7), some (tmD t8), none, none, none, none, none, none, none, none] (H ++ g6 ++ g7 ++ g8 ++ [.lst [tmD t6, tmD t7, tmD t8]])
      = .nx [some (.int more), some (.int deep), some (.str (kdX b)), some pd, some (.int odd), some (.ref h.length), some (tmD t6), some (tmD t7), some (tmD t8), some (tmD t9), none, none, none, none, none, none, none] (H ++ g6 ++ g7 ++ g8 ++ [.lst [tmD t6, tmD t7, tmD t8]] ++ g9) := by
    generalize H ++ g6 ++ g7 ++ g8 ++ [O.lst [tmD t6, tmD t7, tmD t8]] ++ g9 = H6 at *
    generalize H ++ g6 ++ g7 ++ g8 ++ [O.lst [tmD t6, tmD t7, tmD t8]] = H5 at *
    simp (disch := first | with_reducible assumption | omega | with_reducible exact size_le (by omega) | decide | (simp only [List.length_cons, List.length_nil, List.length_append]; first | omega | with_reducible exact size_le (by omega)) | exact ⟨by simp only [List.length_cons, List.length_nil]; omega, by decide⟩ | fail) [-getElem?_pos, -getElem?_neg, -Int.natCast_add, le_size, rngR_ok, mul_int, mod_int, div_int, pow_int, add_str, len_str, len_refU, idx_refU, any_refU, all_refU, in_refU, in_tupU, okTo_appU, append_U, it_refU, join_refU, add_refU, isi_refU, idx_str, slc_str, str_int, int_str, meOf, List.lookup, fldOf, putN, putR_ok, List.getElem?_cons_zero, List.getElem?_cons_succ, List.getElem?_concat_length, get_app, get_app0, en_refU, mul_refU, tupF_refU, slc_refU, gR9, x0, show ([115] : Tx) = kdX true from rfl, e9]
  have s4 : sSet (stName 10) (mCall (callN T (k + 1)) 5 [(mIdx (mVar 5) (mLit (.int 1))), (mVar 1), (mLit (.str [115])), (mVar 3), (mVar 4)]) [some (.int more), some (.int deep), some (.str (kdX b)), some pd, some (.int odd), some (.ref h.length), some (tmD t6), some (tmD t7), some (tmD t8), some (tmD t9), none, none, none, none, none, none, none] (H ++ g6 ++ g7 ++ g8 ++ [.lst [tmD t6, tmD t7, tmD t8]] ++ g9)
      = .nx [some (.int more), some (.int deep), some (.str (kdX b)), some pd, some (.int odd), some (.ref h.length), some (tmD t6), some (tmD t7), some (tmD t8), some (tmD t9), some (tmD t10), none, none, none, none, none, none] (H ++ g6 ++ g7 ++ g8 ++ [.lst [tmD t6, tmD t7, tmD t8]] ++ g9 ++ g10) := by
    generalize H ++ g6 ++ g7 ++ g8 ++ [O.lst [tmD t6, tmD t7, tmD t8]] ++ g9 ++ g10 = H6 at *
    generalize H ++ g6 ++ g7 ++ g8 ++ [O.lst [tmD t6, tmD t7, tmD t8]] ++ g9 = H5 at *
    simp (disch := first | with_reducible assumption | omega | with_reducible exact size_le (by omega) | decide | (simp only [List.length_cons, List.length_nil, List.length_append]; first | omega | with_reducible exact size_le (by omega)) | exact ⟨by simp only [List.length_cons, List.length_nil]; omega, by decide⟩ | fail) [-getElem?_pos, -getElem?_neg, -Int.natCast_add, le_size, rngR_ok, mul_int, mod_int, div_int, pow_int, add_str, len_str, len_refU, idx_refU, any_refU, all_refU, in_refU, in_tupU, okTo_appU, append_U, it_refU, join_refU, add_refU, isi_refU, idx_str, slc_str, str_int, int_str, meOf, List.lookup, fldOf, putN, putR_ok, List.getElem?_cons_zero, List.getElem?_cons_succ, List.getElem?_concat_length, get_app, get_app0, en_refU, mul_refU, tupF_refU, slc_refU, gRa, x1, show ([115] : Tx) = kdX true from rfl, e10]
  rw [s_seq, s1, seqO_nx, s_seq, s2, seqO_nx, s_seq, s3, seqO_nx, s_seq, s4, seqO_nx]
  have hG : ∃ G, H ++ g6 ++ g7 ++ g8 ++ [O.lst [tmD t6, tmD t7, tmD t8]] ++ g9 ++ g10 = h ++ G := by
    rw [← hH]
    exact ⟨[.lst [.int d0, .int d1, .int d2]] ++ (g6 ++ (g7 ++ (g8 ++ ([.lst [tmD t6, tmD t7, tmD t8]] ++ (g9 ++ g10))))), by simp only [List.append_assoc]⟩
  clear s1 s2 s3 s4 cm cm2 gL gR gR6 gR7 gR8 gR9 gRa e6 e7 e8 e9 e10 st
  generalize H ++ g6 ++ g7 ++ g8 ++ [O.lst [tmD t6, tmD t7, tmD t8]] ++ g9 ++ g10 = HB at *
  obtain ⟨G, hG⟩ := hG
  have fin : ∀ {X : Res}, (∃ t, VT t (deep + 2) ∧ tsz t ≤ 4 ^ (deep + 1) ∧ ∃ g, X = .ok (tmD t) (HB ++ g)) → ∃ t, VT t (deep + 2) ∧ tsz t ≤ 4 ^ (deep + 1) ∧ ∃ g, X = .ok (tmD t) (h ++ g) := fun {X} ⟨t, a, b, g, e⟩ => ⟨t, a, b, G ++ g, by rw [e, hG, List.append_assoc]⟩
  apply fin
  clear fin
  -- few
  obtain ⟨t11, v11, z11, s5⟩ : ∃ t11, VT t11 (deep + 1) ∧ tsz t11 ≤ 4 ^ deep ∧ sSet (stName 11) (mIdx (mLst [(mTup [(mLit (.str [110, 117, 109])), (mBin .Mod (mBin .FloorDiv (mIdx (mVar 5) (mLit (.int 2))) (mLit (.int 8))) (mLit (.int 9)))]), (mVar 8)]) (mBi .int [(mCmp .Eq (mBin .Mod (mIdx (mVar 5) (mLit (.int 2))) (mLit (.int 3))) (mLit (.int 0)))])) [some (.int more), some (.int deep), some (.str (kdX b)), some pd, some (.int odd), some (.ref h.length), some (tmD t6), some (tmD t7), some (tmD t8), some (tmD t9), some (tmD t10), none, none, none, none, none, none] HB
      = .nx [some (.int more), some (.int deep), some (.str (kdX b)), some pd, some (.int odd), some (.ref h.length), some (tmD t6), some (tmD t7), some (tmD t8), some (tmD t9), some (tmD t10), some (tmD t11), none, none, none, none, none] (HB ++ [.lst [tmD (.num (d2 / 8 % 9)), tmD t8]]) := by
    have gRc : (HB ++ [O.lst [D.tup [D.str [110, 117, 109], D.int (d2 / 8 % 9)], tmD t8]])[h.length]? = some (.lst [.int d0, .int d1, .int d2]) := ap gRb
    by_cases q : d2 % 3 = 0
    · refine ⟨t8, v8, z8, ?_⟩
      simp (disch := first | with_reducible assumption | omega | with_reducible exact size_le (by omega) | decide | (simp only [List.length_cons, List.length_nil, List.length_append]; first | omega | with_reducible exact size_le (by omega)) | exact ⟨by simp only [List.length_cons, List.length_nil]; omega, by decide⟩ | fail) [-getElem?_pos, -getElem?_neg, -Int.natCast_add, le_size, rngR_ok, mul_int, mod_int, div_int, pow_int, add_str, len_str, len_refU, idx_refU, any_refU, all_refU, in_refU, in_tupU, okTo_appU, append_U, it_refU, join_refU, add_refU, isi_refU, idx_str, slc_str, str_int, int_str, meOf, List.lookup, fldOf, putN, putR_ok, List.getElem?_cons_zero, List.getElem?_cons_succ, List.getElem?_concat_length, get_app, get_app0, en_refU, mul_refU, tupF_refU, slc_refU, gRb, gRc, x2, q, x1, tmD]
    · refine ⟨.num (d2 / 8 % 9), .num (by omega) (by omega), by rw [tsz]; exact Nat.one_le_pow _ _ (by decide), ?_⟩
      simp (disch := first | with_reducible assumption | omega | with_reducible exact size_le (by omega) | decide | (simp only [List.length_cons, List.length_nil, List.length_append]; first | omega | with_reducible exact size_le (by omega)) | exact ⟨by simp only [List.length_cons, List.length_nil]; omega, by decide⟩ | fail) [-getElem?_pos, -getElem?_neg, -Int.natCast_add, le_size, rngR_ok, mul_int, mod_int, div_int, pow_int, add_str, len_str, len_refU, idx_refU, any_refU, all_refU, in_refU, in_tupU, okTo_appU, append_U, it_refU, join_refU, add_refU, isi_refU, idx_str, slc_str, str_int, int_str, meOf, List.lookup, fldOf, putN, putR_ok, List.getElem?_cons_zero, List.getElem?_cons_succ, List.getElem?_concat_length, get_app, get_app0, en_refU, mul_refU, tupF_refU, slc_refU, gRb, gRc, x2, q, x0, tmD]
  rw [s_seq, s5, seqO_nx]
  have gRc : (HB ++ [O.lst [tmD (.num (d2 / 8 % 9)), tmD t8]])[h.length]? = some (.lst [.int d0, .int d1, .int d2]) := ap gRb
  have fin : ∀ {X : Res}, (∃ t, VT t (deep + 2) ∧ tsz t ≤ 4 ^ (deep + 1) ∧ ∃ g, X = .ok (tmD t) (HB ++ [.lst [tmD (.num (d2 / 8 % 9)), tmD t8]] ++ g)) → ∃ t, VT t (deep + 2) ∧ tsz t ≤ 4 ^ (deep + 1) ∧ ∃ g, X = .ok (tmD t) (HB ++ g) := fun {X} ⟨t, a, b, g, e⟩ => ⟨t, a, b, [.lst [tmD (.num (d2 / 8 % 9)), tmD t8]] ++ g, by rw [e, List.append_assoc]⟩
  apply fin
  clear fin s5 gRb hG
  generalize HB ++ [O.lst [tmD (.num (d2 / 8 % 9)), tmD t8]] = HC at *
  have gRd : ∀ x : DH, (HC ++ x)[h.length]? = some (.lst [.int d0, .int d1, .int d2]) := fun x => ap gRc
  have S1 : 1 ≤ 4 ^ deep := Nat.one_le_pow _ _ (by decide)
  have S4 : 4 ^ (deep + 1) = 4 * 4 ^ deep := by rw [Nat.pow_succ]; omega
  rw [S4]
  generalize 4 ^ deep = S at *
  have w9 : more % 9 = 0 ∨ more % 9 = 1 ∨ more % 9 = 2 ∨ more % 9 = 3 ∨ more % 9 = 4 ∨ more % 9 = 5 ∨ more % 9 = 6 ∨ more % 9 = 7 ∨ more % 9 = 8 := by omega
  cases b with
  | true =>
    have v1 : 0 ≤ 1 + d1 / 1152921504606846976 % 5 := by omega
    have v2 : 1 + d1 / 1152921504606846976 % 5 ≤ 999999999 := by omega
    have c2 : ∀ {x : Tx} {a b : Tm}, k_KINDS.lookup x = some (.str [115, 110]) → VT a (deep + 1) → VT b (deep + 1) → VT (.call x [a, b]) (deep + 2) := fun {x a b} hk ha hb => .call hk rfl fun t ht => by
      rcases List.mem_cons.mp ht with rfl | ht
      · exact ha
      · rw [List.mem_singleton.mp ht]; exact hb
    have c3 : ∀ {x : Tx} {a b c : Tm}, k_KINDS.lookup x = some (.str [115, 110, 110]) → VT a (deep + 1) → VT b (deep + 1) → VT c (deep + 1) → VT (.call x [a, b, c]) (deep + 2) := fun {x a b c} hk ha hb hc => .call hk rfl fun t ht => by
      rcases List.mem_cons.mp ht with rfl | ht
      · exact ha
      rcases List.mem_cons.mp ht with rfl | ht
      · exact hb
      · rw [List.mem_singleton.mp ht]; exact hc
    rcases w9 with q | q | q | q | q | q | q | q | q
    · exact ⟨.op [43] t9 t10, .op (by decide) v9 v10, by simp only [tsz]; omega, by simp (disch := first | with_reducible assumption | omega | with_reducible exact size_le (by omega) | decide | (simp only [List.length_cons, List.length_nil, List.length_append]; first | omega | with_reducible exact size_le (by omega)) | exact ⟨by simp only [List.length_cons, List.length_nil]; omega, by decide⟩ | fail) [-getElem?_pos, -getElem?_neg, -Int.natCast_add, le_size, rngR_ok, mul_int, mod_int, div_int, pow_int, add_str, len_str, len_refU, idx_refU, any_refU, all_refU, in_refU, in_tupU, okTo_appU, append_U, it_refU, join_refU, add_refU, isi_refU, idx_str, slc_str, str_int, int_str, meOf, List.lookup, fldOf, putN, putR_ok, List.getElem?_cons_zero, List.getElem?_cons_succ, List.getElem?_concat_length, get_app, get_app0, en_refU, mul_refU, tupF_refU, slc_refU, q, kdX, gRc, gRd, x1, p60, x0, tmD, tmDs]⟩
    · exact ⟨.op [43] t9 t10, .op (by decide) v9 v10, by simp only [tsz]; omega, by simp (disch := first | with_reducible assumption | omega | with_reducible exact size_le (by omega) | decide | (simp only [List.length_cons, List.length_nil, List.length_append]; first | omega | with_reducible exact size_le (by omega)) | exact ⟨by simp only [List.length_cons, List.length_nil]; omega, by decide⟩ | fail) [-getElem?_pos, -getElem?_neg, -Int.natCast_add, le_size, rngR_ok, mul_int, mod_int, div_int, pow_int, add_str, len_str, len_refU, idx_refU, any_refU, all_refU, in_refU, in_tupU, okTo_appU, append_U, it_refU, join_refU, add_refU, isi_refU, idx_str, slc_str, str_int, int_str, meOf, List.lookup, fldOf, putN, putR_ok, List.getElem?_cons_zero, List.getElem?_cons_succ, List.getElem?_concat_length, get_app, get_app0, en_refU, mul_refU, tupF_refU, slc_refU, q, kdX, gRc, gRd, x1, p60, x0, tmD, tmDs]⟩
    · exact ⟨.op [43] t9 t10, .op (by decide) v9 v10, by simp only [tsz]; omega, by simp (disch := first | with_reducible assumption | omega | with_reducible exact size_le (by omega) | decide | (simp only [List.length_cons, List.length_nil, List.length_append]; first | omega | with_reducible exact size_le (by omega)) | exact ⟨by simp only [List.length_cons, List.length_nil]; omega, by decide⟩ | fail) [-getElem?_pos, -getElem?_neg, -Int.natCast_add, le_size, rngR_ok, mul_int, mod_int, div_int, pow_int, add_str, len_str, len_refU, idx_refU, any_refU, all_refU, in_refU, in_tupU, okTo_appU, append_U, it_refU, join_refU, add_refU, isi_refU, idx_str, slc_str, str_int, int_str, meOf, List.lookup, fldOf, putN, putR_ok, List.getElem?_cons_zero, List.getElem?_cons_succ, List.getElem?_concat_length, get_app, get_app0, en_refU, mul_refU, tupF_refU, slc_refU, q, kdX, gRc, gRd, x1, x2, p60, x0, tmD, tmDs]⟩
    · exact ⟨.call [83, 84, 82, 36] [t6], .call (ks := [110]) rfl rfl (fun t ht => by rw [List.mem_singleton.mp ht]; exact v6), by simp only [tsz, tszs]; omega, by simp (disch := first | with_reducible assumption | omega | with_reducible exact size_le (by omega) | decide | (simp only [List.length_cons, List.length_nil, List.length_append]; first | omega | with_reducible exact size_le (by omega)) | exact ⟨by simp only [List.length_cons, List.length_nil]; omega, by decide⟩ | fail) [-getElem?_pos, -getElem?_neg, -Int.natCast_add, le_size, rngR_ok, mul_int, mod_int, div_int, pow_int, add_str, len_str, len_refU, idx_refU, any_refU, all_refU, in_refU, in_tupU, okTo_appU, append_U, it_refU, join_refU, add_refU, isi_refU, idx_str, slc_str, str_int, int_str, meOf, List.lookup, fldOf, putN, putR_ok, List.getElem?_cons_zero, List.getElem?_cons_succ, List.getElem?_concat_length, get_app, get_app0, en_refU, mul_refU, tupF_refU, slc_refU, q, kdX, gRc, gRd, x1, x3, p60, x0, tmD, tmDs]⟩
    · exact ⟨.call [76, 69, 70, 84, 36] [t9, t11], c2 rfl v9 v11, by simp only [tsz, tszs]; omega, by simp (disch := first | with_reducible assumption | omega | with_reducible exact size_le (by omega) | decide | (simp only [List.length_cons, List.length_nil, List.length_append]; first | omega | with_reducible exact size_le (by omega)) | exact ⟨by simp only [List.length_cons, List.length_nil]; omega, by decide⟩ | fail) [-getElem?_pos, -getElem?_neg, -Int.natCast_add, le_size, rngR_ok, mul_int, mod_int, div_int, pow_int, add_str, len_str, len_refU, idx_refU, any_refU, all_refU, in_refU, in_tupU, okTo_appU, append_U, it_refU, join_refU, add_refU, isi_refU, idx_str, slc_str, str_int, int_str, meOf, List.lookup, fldOf, putN, putR_ok, List.getElem?_cons_zero, List.getElem?_cons_succ, List.getElem?_concat_length, get_app, get_app0, en_refU, mul_refU, tupF_refU, slc_refU, q, kdX, gRc, gRd, x1, x2, x4, p60, x0, tmD, tmDs]⟩
    · exact ⟨.call [82, 73, 71, 72, 84, 36] [t9, t11], c2 rfl v9 v11, by simp only [tsz, tszs]; omega, by simp (disch := first | with_reducible assumption | omega | with_reducible exact size_le (by omega) | decide | (simp only [List.length_cons, List.length_nil, List.length_append]; first | omega | with_reducible exact size_le (by omega)) | exact ⟨by simp only [List.length_cons, List.length_nil]; omega, by decide⟩ | fail) [-getElem?_pos, -getElem?_neg, -Int.natCast_add, le_size, rngR_ok, mul_int, mod_int, div_int, pow_int, add_str, len_str, len_refU, idx_refU, any_refU, all_refU, in_refU, in_tupU, okTo_appU, append_U, it_refU, join_refU, add_refU, isi_refU, idx_str, slc_str, str_int, int_str, meOf, List.lookup, fldOf, putN, putR_ok, List.getElem?_cons_zero, List.getElem?_cons_succ, List.getElem?_concat_length, get_app, get_app0, en_refU, mul_refU, tupF_refU, slc_refU, q, kdX, gRc, gRd, x1, x3, x5, p60, x0, tmD, tmDs]⟩
    · exact ⟨.call [77, 73, 68, 36] [t9, t7, t11], c3 rfl v9 v7 v11, by simp only [tsz, tszs]; omega, by simp (disch := first | with_reducible assumption | omega | with_reducible exact size_le (by omega) | decide | (simp only [List.length_cons, List.length_nil, List.length_append]; first | omega | with_reducible exact size_le (by omega)) | exact ⟨by simp only [List.length_cons, List.length_nil]; omega, by decide⟩ | fail) [-getElem?_pos, -getElem?_neg, -Int.natCast_add, le_size, rngR_ok, mul_int, mod_int, div_int, pow_int, add_str, len_str, len_refU, idx_refU, any_refU, all_refU, in_refU, in_tupU, okTo_appU, append_U, it_refU, join_refU, add_refU, isi_refU, idx_str, slc_str, str_int, int_str, meOf, List.lookup, fldOf, putN, putR_ok, List.getElem?_cons_zero, List.getElem?_cons_succ, List.getElem?_concat_length, get_app, get_app0, en_refU, mul_refU, tupF_refU, slc_refU, q, kdX, gRc, gRd, x1, x4, x6, p60, x0, tmD, tmDs]⟩
    · exact ⟨.call [77, 73, 68, 36] [t9, .num (1 + d1 / 1152921504606846976 % 5), t11], c3 rfl v9 (.num v1 v2) v11, by simp only [tsz, tszs]; omega, by simp (disch := first | with_reducible assumption | omega | with_reducible exact size_le (by omega) | decide | (simp only [List.length_cons, List.length_nil, List.length_append]; first | omega | with_reducible exact size_le (by omega)) | exact ⟨by simp only [List.length_cons, List.length_nil]; omega, by decide⟩ | fail) [-getElem?_pos, -getElem?_neg, -Int.natCast_add, le_size, rngR_ok, mul_int, mod_int, div_int, pow_int, add_str, len_str, len_refU, idx_refU, any_refU, all_refU, in_refU, in_tupU, okTo_appU, append_U, it_refU, join_refU, add_refU, isi_refU, idx_str, slc_str, str_int, int_str, meOf, List.lookup, fldOf, putN, putR_ok, List.getElem?_cons_zero, List.getElem?_cons_succ, List.getElem?_concat_length, get_app, get_app0, en_refU, mul_refU, tupF_refU, slc_refU, q, kdX, gRc, gRd, x1, x5, x7, p60, x0, tmD, tmDs]⟩
    · exact ⟨.call [77, 73, 68, 36] [t9, .num (1 + d1 / 1152921504606846976 % 5), t11], c3 rfl v9 (.num v1 v2) v11, by simp only [tsz, tszs]; omega, by simp (disch := first | with_reducible assumption | omega | with_reducible exact size_le (by omega) | decide | (simp only [List.length_cons, List.length_nil, List.length_append]; first | omega | with_reducible exact size_le (by omega)) | exact ⟨by simp only [List.length_cons, List.length_nil]; omega, by decide⟩ | fail) [-getElem?_pos, -getElem?_neg, -Int.natCast_add, le_size, rngR_ok, mul_int, mod_int, div_int, pow_int, add_str, len_str, len_refU, idx_refU, any_refU, all_refU, in_refU, in_tupU, okTo_appU, append_U, it_refU, join_refU, add_refU, isi_refU, idx_str, slc_str, str_int, int_str, meOf, List.lookup, fldOf, putN, putR_ok, List.getElem?_cons_zero, List.getElem?_cons_succ, List.getElem?_concat_length, get_app, get_app0, en_refU, mul_refU, tupF_refU, slc_refU, q, kdX, gRc, gRd, x1, x5, x8, p60, x0, tmD, tmDs]⟩
  | false =>
    obtain ⟨sg, hsg, esg⟩ := pickS (vs := OP13) (i := more / 16 % 13) (by omega) (by show _ < ((13 : Nat) : Int); omega)
    obtain ⟨s6, hs6, es6⟩ := pickS (vs := OP6) (i := more / 16 % 6) (by omega) (by show _ < ((6 : Nat) : Int); omega)
    simp only [OP13, List.map_cons, List.map_nil] at esg
    simp only [OP6, List.map_cons, List.map_nil] at es6
    have o13 := op13_ok sg hsg
    have o6 := op6_ok s6 hs6
    have c1 : ∀ {x ks : Tx} {a : Tm}, k_KINDS.lookup x = some (.str ks) → ks.length = 1 → VT a (deep + 1) → VT (.call x [a]) (deep + 2) := fun {x ks a} hk hl ha => .call hk (by rw [hl]; rfl) fun t ht => by
      rw [List.mem_singleton.mp ht]; exact ha
    rcases w9 with q | q | q | q | q | q | q | q | q
    · exact ⟨.op sg t6 t7, .op o13 v6 v7, by simp only [tsz]; omega, by simp (disch := first | with_reducible assumption | omega | with_reducible exact size_le (by omega) | decide | (simp only [List.length_cons, List.length_nil, List.length_append]; first | omega | with_reducible exact size_le (by omega)) | exact ⟨by simp only [List.length_cons, List.length_nil]; omega, by decide⟩ | fail) [-getElem?_pos, -getElem?_neg, -Int.natCast_add, le_size, rngR_ok, mul_int, mod_int, div_int, pow_int, add_str, len_str, len_refU, idx_refU, any_refU, all_refU, in_refU, in_tupU, okTo_appU, append_U, it_refU, join_refU, add_refU, isi_refU, idx_str, slc_str, str_int, int_str, meOf, List.lookup, fldOf, putN, putR_ok, List.getElem?_cons_zero, List.getElem?_cons_succ, List.getElem?_concat_length, get_app, get_app0, en_refU, mul_refU, tupF_refU, slc_refU, q, kdX, esg, tmD]⟩
    · exact ⟨.op sg t6 t7, .op o13 v6 v7, by simp only [tsz]; omega, by simp (disch := first | with_reducible assumption | omega | with_reducible exact size_le (by omega) | decide | (simp only [List.length_cons, List.length_nil, List.length_append]; first | omega | with_reducible exact size_le (by omega)) | exact ⟨by simp only [List.length_cons, List.length_nil]; omega, by decide⟩ | fail) [-getElem?_pos, -getElem?_neg, -Int.natCast_add, le_size, rngR_ok, mul_int, mod_int, div_int, pow_int, add_str, len_str, len_refU, idx_refU, any_refU, all_refU, in_refU, in_tupU, okTo_appU, append_U, it_refU, join_refU, add_refU, isi_refU, idx_str, slc_str, str_int, int_str, meOf, List.lookup, fldOf, putN, putR_ok, List.getElem?_cons_zero, List.getElem?_cons_succ, List.getElem?_concat_length, get_app, get_app0, en_refU, mul_refU, tupF_refU, slc_refU, q, kdX, esg, tmD]⟩
    · exact ⟨.op sg t6 t7, .op o13 v6 v7, by simp only [tsz]; omega, by simp (disch := first | with_reducible assumption | omega | with_reducible exact size_le (by omega) | decide | (simp only [List.length_cons, List.length_nil, List.length_append]; first | omega | with_reducible exact size_le (by omega)) | exact ⟨by simp only [List.length_cons, List.length_nil]; omega, by decide⟩ | fail) [-getElem?_pos, -getElem?_neg, -Int.natCast_add, le_size, rngR_ok, mul_int, mod_int, div_int, pow_int, add_str, len_str, len_refU, idx_refU, any_refU, all_refU, in_refU, in_tupU, okTo_appU, append_U, it_refU, join_refU, add_refU, isi_refU, idx_str, slc_str, str_int, int_str, meOf, List.lookup, fldOf, putN, putR_ok, List.getElem?_cons_zero, List.getElem?_cons_succ, List.getElem?_concat_length, get_app, get_app0, en_refU, mul_refU, tupF_refU, slc_refU, q, kdX, esg, tmD]⟩
    · exact ⟨.op sg t6 t7, .op o13 v6 v7, by simp only [tsz]; omega, by simp (disch := first | with_reducible assumption | omega | with_reducible exact size_le (by omega) | decide | (simp only [List.length_cons, List.length_nil, List.length_append]; first | omega | with_reducible exact size_le (by omega)) | exact ⟨by simp only [List.length_cons, List.length_nil]; omega, by decide⟩ | fail) [-getElem?_pos, -getElem?_neg, -Int.natCast_add, le_size, rngR_ok, mul_int, mod_int, div_int, pow_int, add_str, len_str, len_refU, idx_refU, any_refU, all_refU, in_refU, in_tupU, okTo_appU, append_U, it_refU, join_refU, add_refU, isi_refU, idx_str, slc_str, str_int, int_str, meOf, List.lookup, fldOf, putN, putR_ok, List.getElem?_cons_zero, List.getElem?_cons_succ, List.getElem?_concat_length, get_app, get_app0, en_refU, mul_refU, tupF_refU, slc_refU, q, kdX, esg, tmD]⟩
    · exact ⟨.op s6 t9 t10, .op o6 v9 v10, by simp only [tsz]; omega, by simp (disch := first | with_reducible assumption | omega | with_reducible exact size_le (by omega) | decide | (simp only [List.length_cons, List.length_nil, List.length_append]; first | omega | with_reducible exact size_le (by omega)) | exact ⟨by simp only [List.length_cons, List.length_nil]; omega, by decide⟩ | fail) [-getElem?_pos, -getElem?_neg, -Int.natCast_add, le_size, rngR_ok, mul_int, mod_int, div_int, pow_int, add_str, len_str, len_refU, idx_refU, any_refU, all_refU, in_refU, in_tupU, okTo_appU, append_U, it_refU, join_refU, add_refU, isi_refU, idx_str, slc_str, str_int, int_str, meOf, List.lookup, fldOf, putN, putR_ok, List.getElem?_cons_zero, List.getElem?_cons_succ, List.getElem?_concat_length, get_app, get_app0, en_refU, mul_refU, tupF_refU, slc_refU, q, kdX, esg, es6, tmD]⟩
    · exact ⟨.minus t6, .minus v6, by simp only [tsz]; omega, by simp (disch := first | with_reducible assumption | omega | with_reducible exact size_le (by omega) | decide | (simp only [List.length_cons, List.length_nil, List.length_append]; first | omega | with_reducible exact size_le (by omega)) | exact ⟨by simp only [List.length_cons, List.length_nil]; omega, by decide⟩ | fail) [-getElem?_pos, -getElem?_neg, -Int.natCast_add, le_size, rngR_ok, mul_int, mod_int, div_int, pow_int, add_str, len_str, len_refU, idx_refU, any_refU, all_refU, in_refU, in_tupU, okTo_appU, append_U, it_refU, join_refU, add_refU, isi_refU, idx_str, slc_str, str_int, int_str, meOf, List.lookup, fldOf, putN, putR_ok, List.getElem?_cons_zero, List.getElem?_cons_succ, List.getElem?_concat_length, get_app, get_app0, en_refU, mul_refU, tupF_refU, slc_refU, q, kdX, esg, x0, tmD]⟩
    · exact ⟨.not t6, .not v6, by simp only [tsz]; omega, by simp (disch := first | with_reducible assumption | omega | with_reducible exact size_le (by omega) | decide | (simp only [List.length_cons, List.length_nil, List.length_append]; first | omega | with_reducible exact size_le (by omega)) | exact ⟨by simp only [List.length_cons, List.length_nil]; omega, by decide⟩ | fail) [-getElem?_pos, -getElem?_neg, -Int.natCast_add, le_size, rngR_ok, mul_int, mod_int, div_int, pow_int, add_str, len_str, len_refU, idx_refU, any_refU, all_refU, in_refU, in_tupU, okTo_appU, append_U, it_refU, join_refU, add_refU, isi_refU, idx_str, slc_str, str_int, int_str, meOf, List.lookup, fldOf, putN, putR_ok, List.getElem?_cons_zero, List.getElem?_cons_succ, List.getElem?_concat_length, get_app, get_app0, en_refU, mul_refU, tupF_refU, slc_refU, q, kdX, esg, x1, tmD]⟩
    · rcases (by omega : more / 16 % 2 = 0 ∨ more / 16 % 2 = 1) with q2 | q2
      · exact ⟨.call [65, 66, 83] [t6], c1 rfl rfl v6, by simp only [tsz, tszs]; omega, by simp (disch := first | with_reducible assumption | omega | with_reducible exact size_le (by omega) | decide | (simp only [List.length_cons, List.length_nil, List.length_append]; first | omega | with_reducible exact size_le (by omega)) | exact ⟨by simp only [List.length_cons, List.length_nil]; omega, by decide⟩ | fail) [-getElem?_pos, -getElem?_neg, -Int.natCast_add, le_size, rngR_ok, mul_int, mod_int, div_int, pow_int, add_str, len_str, len_refU, idx_refU, any_refU, all_refU, in_refU, in_tupU, okTo_appU, append_U, it_refU, join_refU, add_refU, isi_refU, idx_str, slc_str, str_int, int_str, meOf, List.lookup, fldOf, putN, putR_ok, List.getElem?_cons_zero, List.getElem?_cons_succ, List.getElem?_concat_length, get_app, get_app0, en_refU, mul_refU, tupF_refU, slc_refU, q, q2, kdX, esg, x0, tmD, tmDs]⟩
      · exact ⟨.call [83, 71, 78] [t6], c1 rfl rfl v6, by simp only [tsz, tszs]; omega, by simp (disch := first | with_reducible assumption | omega | with_reducible exact size_le (by omega) | decide | (simp only [List.length_cons, List.length_nil, List.length_append]; first | omega | with_reducible exact size_le (by omega)) | exact ⟨by simp only [List.length_cons, List.length_nil]; omega, by decide⟩ | fail) [-getElem?_pos, -getElem?_neg, -Int.natCast_add, le_size, rngR_ok, mul_int, mod_int, div_int, pow_int, add_str, len_str, len_refU, idx_refU, any_refU, all_refU, in_refU, in_tupU, okTo_appU, append_U, it_refU, join_refU, add_refU, isi_refU, idx_str, slc_str, str_int, int_str, meOf, List.lookup, fldOf, putN, putR_ok, List.getElem?_cons_zero, List.getElem?_cons_succ, List.getElem?_concat_length, get_app, get_app0, en_refU, mul_refU, tupF_refU, slc_refU, q, q2, kdX, esg, x1, tmD, tmDs]⟩
    · rcases (by omega : more / 16 % 3 = 0 ∨ more / 16 % 3 = 1 ∨ more / 16 % 3 = 2) with q2 | q2 | q2
      · exact ⟨.call [76, 69, 78] [t9], c1 rfl rfl v9, by simp only [tsz, tszs]; omega, by simp (disch := first | with_reducible assumption | omega | with_reducible exact size_le (by omega) | decide | (simp only [List.length_cons, List.length_nil, List.length_append]; first | omega | with_reducible exact size_le (by omega)) | exact ⟨by simp only [List.length_cons, List.length_nil]; omega, by decide⟩ | fail) [-getElem?_pos, -getElem?_neg, -Int.natCast_add, le_size, rngR_ok, mul_int, mod_int, div_int, pow_int, add_str, len_str, len_refU, idx_refU, any_refU, all_refU, in_refU, in_tupU, okTo_appU, append_U, it_refU, join_refU, add_refU, isi_refU, idx_str, slc_str, str_int, int_str, meOf, List.lookup, fldOf, putN, putR_ok, List.getElem?_cons_zero, List.getElem?_cons_succ, List.getElem?_concat_length, get_app, get_app0, en_refU, mul_refU, tupF_refU, slc_refU, q, q2, kdX, esg, x0, tmD, tmDs]⟩
      · exact ⟨.call [86, 65, 76] [t9], c1 rfl rfl v9, by simp only [tsz, tszs]; omega, by simp (disch := first | with_reducible assumption | omega | with_reducible exact size_le (by omega) | decide | (simp only [List.length_cons, List.length_nil, List.length_append]; first | omega | with_reducible exact size_le (by omega)) | exact ⟨by simp only [List.length_cons, List.length_nil]; omega, by decide⟩ | fail) [-getElem?_pos, -getElem?_neg, -Int.natCast_add, le_size, rngR_ok, mul_int, mod_int, div_int, pow_int, add_str, len_str, len_refU, idx_refU, any_refU, all_refU, in_refU, in_tupU, okTo_appU, append_U, it_refU, join_refU, add_refU, isi_refU, idx_str, slc_str, str_int, int_str, meOf, List.lookup, fldOf, putN, putR_ok, List.getElem?_cons_zero, List.getElem?_cons_succ, List.getElem?_concat_length, get_app, get_app0, en_refU, mul_refU, tupF_refU, slc_refU, q, q2, kdX, esg, x1, tmD, tmDs]⟩
      · exact ⟨.call [70, 73, 78, 68] [t9, t10], .call (ks := [115, 115]) rfl rfl (fun t ht => by
          rcases List.mem_cons.mp ht with rfl | ht
          · exact v9
          · rw [List.mem_singleton.mp ht]; exact v10), by simp only [tsz, tszs]; omega, by simp (disch := first | with_reducible assumption | omega | with_reducible exact size_le (by omega) | decide | (simp only [List.length_cons, List.length_nil, List.length_append]; first | omega | with_reducible exact size_le (by omega)) | exact ⟨by simp only [List.length_cons, List.length_nil]; omega, by decide⟩ | fail) [-getElem?_pos, -getElem?_neg, -Int.natCast_add, le_size, rngR_ok, mul_int, mod_int, div_int, pow_int, add_str, len_str, len_refU, idx_refU, any_refU, all_refU, in_refU, in_tupU, okTo_appU, append_U, it_refU, join_refU, add_refU, isi_refU, idx_str, slc_str, str_int, int_str, meOf, List.lookup, fldOf, putN, putR_ok, List.getElem?_cons_zero, List.getElem?_cons_succ, List.getElem?_concat_length, get_app, get_app0, en_refU, mul_refU, tupF_refU, slc_refU, q, q2, kdX, esg, x2, tmD, tmDs]⟩
end
end K20

namespace K20
open PySem L2 Mp
theorem ap_get {x g : DH} {R : Nat} {o : O} (q : x[R]? = some o) : (x ++ g)[R]? = some o := by rw [List.getElem?_append_left (lt_of_get q)]; exact q
theorem tmDs_snoc (l : List Tm) (t : Tm) : tmDs (l ++ [t]) = tmDs l ++ [tmD t] := by rw [tmDs_map, tmDs_map, List.map_append]; rfl
section
variable {k : Nat}
theorem odd_step {more odd : Int} {b : Bool} (ho : 0 ≤ odd) (ho2 : odd < 1000000) (h0 : 0 ≤ more) (a1 a3 a5 a6 a7 a8 a9 : Option D) (h : DH) : ∃ b' g, sIf (mAnd (mCmp .Gt (mVar 4) (mLit (.int 0))) (mCmp .Eq (mBin .Mod (mBin .FloorDiv (mVar 0) (mBin .Pow (mLit (.int 2)) (mLit (.int 60)))) (mVar 4)) (mLit (.int 0)))) (sSeq (sSet (stName 2) (mIdx (mLst [(mLit (.str [110])), (mLit (.str [115]))]) (mBi .int [(mCmp .Eq (mVar 2) (mLit (.str [110])))]))) sNext) sNext
      [some (.int more), a1, some (.str (kdX b)), a3, some (.int odd), a5, a6, a7, a8, a9] h = .nx [some (.int more), a1, some (.str (kdX b')), a3, some (.int odd), a5, a6, a7, a8, a9] (h ++ g) := by
  by_cases q : 0 < odd
  · by_cases q2 : more / 1152921504606846976 % odd = 0
    · refine ⟨!b, [.lst [.str [110], .str [115]]], ?_⟩
      cases b <;> simp (disch := first | with_reducible assumption | omega | with_reducible exact size_le (by omega) | decide | (simp only [List.length_cons, List.length_nil, List.length_append]; first | omega | with_reducible exact size_le (by omega)) | exact ⟨by simp only [List.length_cons, List.length_nil]; omega, by decide⟩ | fail) [-getElem?_pos, -getElem?_neg, -Int.natCast_add, le_size, rngR_ok, mul_int, mod_int, div_int, pow_int, add_str, len_str, len_refU, idx_refU, any_refU, all_refU, in_refU, in_tupU, okTo_appU, append_U, it_refU, join_refU, add_refU, isi_refU, idx_str, slc_str, str_int, int_str, meOf, List.lookup, fldOf, putN, putR_ok, List.getElem?_cons_zero, List.getElem?_cons_succ, List.getElem?_concat_length, get_app, get_app0, en_refU, mul_refU, tupF_refU, slc_refU, q, q2, p60, kdX, x0, x1]
    · refine ⟨b, [], ?_⟩
      simp (disch := first | with_reducible assumption | omega | with_reducible exact size_le (by omega) | decide | (simp only [List.length_cons, List.length_nil, List.length_append]; first | omega | with_reducible exact size_le (by omega)) | exact ⟨by simp only [List.length_cons, List.length_nil]; omega, by decide⟩ | fail) [-getElem?_pos, -getElem?_neg, -Int.natCast_add, le_size, rngR_ok, mul_int, mod_int, div_int, pow_int, add_str, len_str, len_refU, idx_refU, any_refU, all_refU, in_refU, in_tupU, okTo_appU, append_U, it_refU, join_refU, add_refU, isi_refU, idx_str, slc_str, str_int, int_str, meOf, List.lookup, fldOf, putN, putR_ok, List.getElem?_cons_zero, List.getElem?_cons_succ, List.getElem?_concat_length, get_app, get_app0, en_refU, mul_refU, tupF_refU, slc_refU, q, q2, p60]
  · refine ⟨b, [], ?_⟩
    simp (disch := first | with_reducible assumption | omega | with_reducible exact size_le (by omega) | decide | (simp only [List.length_cons, List.length_nil, List.length_append]; first | omega | with_reducible exact size_le (by omega)) | exact ⟨by simp only [List.length_cons, List.length_nil]; omega, by decide⟩ | fail) [-getElem?_pos, -getElem?_neg, -Int.natCast_add, le_size, rngR_ok, mul_int, mod_int, div_int, pow_int, add_str, len_str, len_refU, idx_refU, any_refU, all_refU, in_refU, in_tupU, okTo_appU, append_U, it_refU, join_refU, add_refU, isi_refU, idx_str, slc_str, str_int, int_str, meOf, List.lookup, fldOf, putN, putR_ok, List.getElem?_cons_zero, List.getElem?_cons_succ, List.getElem?_concat_length, get_app, get_app0, en_refU, mul_refU, tupF_refU, slc_refU, q]
theorem c_term0 : DrawT (k + 4) 0 := fun more odd b pd h h0 h1 ho ho2 p => by
  obtain ⟨b', g, e1⟩ := odd_step (b := b) ho ho2 h0 (some (.int 0)) (some pd) none none none none none h
  obtain ⟨t, g2, v, z, e2⟩ := c_leaf (n := k) (b := b') (more := more / 64) (by omega) (by omega) (p.app (g := g))
  refine ⟨t, g ++ g2, v, by rw [z]; decide, ?_⟩
  rw [call_eq (k := k + 3) (fn := q5.fn) rfl rfl]
  simp only [Def1.fn, q5, b__law_term]
  show finO (sSeq _ _ [some (.int more), some (.int 0), some (.str (kdX b)), some pd, some (.int odd), none, none, none, none, none] h) = _
  rw [s_seq, e1, seqO_nx]
  rw [← List.append_assoc]
  generalize h ++ g ++ g2 = H2 at *
  generalize h ++ g = H at *
  simp (disch := first | with_reducible assumption | omega | with_reducible exact size_le (by omega) | decide | (simp only [List.length_cons, List.length_nil, List.length_append]; first | omega | with_reducible exact size_le (by omega)) | exact ⟨by simp only [List.length_cons, List.length_nil]; omega, by decide⟩ | fail) [-getElem?_pos, -getElem?_neg, -Int.natCast_add, le_size, rngR_ok, mul_int, mod_int, div_int, pow_int, add_str, len_str, len_refU, idx_refU, any_refU, all_refU, in_refU, in_tupU, okTo_appU, append_U, it_refU, join_refU, add_refU, isi_refU, idx_str, slc_str, str_int, int_str, meOf, List.lookup, fldOf, putN, putR_ok, List.getElem?_cons_zero, List.getElem?_cons_succ, List.getElem?_concat_length, get_app, get_app0, en_refU, mul_refU, tupF_refU, slc_refU, e2]
theorem cell_for {here odd : Int} {pd : D} (h0 : 0 ≤ here) (h1 : here < 2 ^ 129) (ho : 0 ≤ odd) (ho2 : odd < 1000000) (a0 a1 a2 a8 : Option D) {P : Nat} : ∀ (js : List D) (acc : List Tm) (a7 a9 : Option D) (h : DH), (∀ d ∈ js, ∃ j : Int, d = .int j ∧ 0 ≤ j ∧ j ≤ 100) → acc.length + js.length ≤ 10 → (∀ t ∈ acc, VT t 1 ∧ tsz t ≤ 1) → Pool h pd → P < h.length → (∀ x ∈ ([P] : List Nat), Pool (h.take P) pd) → h[P]? = some (.lst (tmDs acc)) →
    ∃ (as : List Tm) (g : DH) (y7 y9 : Option D), as.length = acc.length + js.length ∧ (∀ t ∈ as, VT t 1 ∧ tsz t ≤ 1) ∧ forL none (stName 7) (l__law_term_1 (callN T (k + 4))) js [a0, a1, a2, some pd, some (.int odd), some (.int here), some (.ref P), a7, a8, a9] h
      = .nx [a0, a1, a2, some pd, some (.int odd), some (.int here), some (.ref P), y7, a8, y9] (h.set P (.lst (tmDs as)) ++ g)
  | [], acc, a7, a9, h, _, _, ha, _, _, _, hP => ⟨acc, [], a7, a9, rfl, ha, by rw [forL_nil still_none, set_same hP, List.append_nil]⟩
  | d :: js, acc, a7, a9, h, hj, hn, ha, p, hPl, pt, hP => by
    obtain ⟨j, rfl, j0, j1⟩ := hj d List.mem_cons_self
    rw [List.length_cons] at hn
    have lm : here.natAbs.log2 < 2000000 := by
      have := nn_log h0 h1 (by decide)
      omega
    have lj : (j + 1).natAbs.log2 < 2000000 := by
      have := nn_log (i := j + 1) (n := 20) (by omega) (by omega) (by decide)
      omega
    have ed := c_drawn (k + 3) here j h lm lj
    have q0 := drawn_nn here j
    have q1 := drawn_lt here j
    generalize drawn here j = one at *
    obtain ⟨t, g, v, z, e⟩ := c_term0 (k := k) one odd false pd h q0 (by omega) ho ho2 p
    have e : callN T (k + 4) 5 [.int one, .int 0, .str (kdX false), pd, .int odd] h = .ok (tmD t) (h ++ g) := e
    have al : (tmDs acc).length < sizeLine := size_le (n := (tmDs acc).length + 1) (by rw [tmDs_map, List.length_map]; omega)
    obtain ⟨t2, v2, z2, e2⟩ : ∃ t2, VT t2 1 ∧ tsz t2 ≤ 1 ∧ l__law_term_1 (callN T (k + 4)) [a0, a1, a2, some pd, some (.int odd), some (.int here), some (.ref P), some (.int j), a8, a9] h = .nx [a0, a1, a2, some pd, some (.int odd), some (.int here), some (.ref P), some (.int j), a8, some (.int one)] ((h ++ g ++ [O.lst [tmD (.num (one / 4 % 12)), tmD t]]).set P (.lst (tmDs (acc ++ [t2])))) := by
      have hP2 : (h ++ g ++ [O.lst [tmD (.num (one / 4 % 12)), tmD t]])[P]? = some (.lst (tmDs acc)) := ap_get (ap_get hP)
      have gl : (h ++ g ++ [O.lst [tmD (.num (one / 4 % 12)), tmD t]])[(h ++ g).length]? = some (.lst [tmD (.num (one / 4 % 12)), tmD t]) := List.getElem?_concat_length
      by_cases q : one % 4 = 0
      · refine ⟨t, v, z, ?_⟩
        simp only [l__law_term_1, tmDs_snoc]
        generalize hH : h ++ g = H at *
        simp only [tmD] at hP2 gl ⊢
        simp (disch := first | with_reducible assumption | omega | with_reducible exact size_le (by omega) | decide | (simp only [List.length_cons, List.length_nil, List.length_append]; first | omega | with_reducible exact size_le (by omega)) | exact ⟨by simp only [List.length_cons, List.length_nil]; omega, by decide⟩ | fail) [-getElem?_pos, -getElem?_neg, -Int.natCast_add, le_size, rngR_ok, mul_int, mod_int, div_int, pow_int, add_str, len_str, len_refU, idx_refU, any_refU, all_refU, in_refU, in_tupU, okTo_appU, append_U, it_refU, join_refU, add_refU, isi_refU, idx_str, slc_str, str_int, int_str, meOf, List.lookup, fldOf, putN, putR_ok, List.getElem?_cons_zero, List.getElem?_cons_succ, List.getElem?_concat_length, get_app, get_app0, en_refU, mul_refU, tupF_refU, slc_refU, ed, hP, show ([110] : Tx) = kdX false from rfl, e, q, x1, hP2, al, gl]
      · refine ⟨.num (one / 4 % 12), .num (by omega) (by omega), by rw [tsz]; decide, ?_⟩
        simp only [l__law_term_1, tmDs_snoc]
        generalize hH : h ++ g = H at *
        simp only [tmD] at hP2 gl ⊢
        simp (disch := first | with_reducible assumption | omega | with_reducible exact size_le (by omega) | decide | (simp only [List.length_cons, List.length_nil, List.length_append]; first | omega | with_reducible exact size_le (by omega)) | exact ⟨by simp only [List.length_cons, List.length_nil]; omega, by decide⟩ | fail) [-getElem?_pos, -getElem?_neg, -Int.natCast_add, le_size, rngR_ok, mul_int, mod_int, div_int, pow_int, add_str, len_str, len_refU, idx_refU, any_refU, all_refU, in_refU, in_tupU, okTo_appU, append_U, it_refU, join_refU, add_refU, isi_refU, idx_str, slc_str, str_int, int_str, meOf, List.lookup, fldOf, putN, putR_ok, List.getElem?_cons_zero, List.getElem?_cons_succ, List.getElem?_concat_length, get_app, get_app0, en_refU, mul_refU, tupF_refU, slc_refU, ed, hP, show ([110] : Tx) = kdX false from rfl, e, q, x0, hP2, al, gl]
    have es : (h ++ g ++ [O.lst [tmD (.num (one / 4 % 12)), tmD t]]).set P (.lst (tmDs (acc ++ [t2]))) = h.set P (.lst (tmDs (acc ++ [t2]))) ++ (g ++ [.lst [tmD (.num (one / 4 % 12)), tmD t]]) := by
      rw [List.append_assoc, List.set_append_left _ _ hPl]
    rw [es] at e2
    have pt2 := pt P (List.mem_singleton.mpr rfl)
    have tk : (h.set P (O.lst (tmDs (acc ++ [t2]))) ++ (g ++ [O.lst [tmD (.num (one / 4 % 12)), tmD t]])).take P = h.take P := by
      rw [List.take_append_of_le_length (by rw [List.length_set]; omega), List.take_set_of_le (Nat.le_refl _)]
    have pn : Pool (h.set P (O.lst (tmDs (acc ++ [t2]))) ++ (g ++ [O.lst [tmD (.num (one / 4 % 12)), tmD t]])) pd := by
      have z := pt2.app (g := (h.set P (O.lst (tmDs (acc ++ [t2]))) ++ (g ++ [O.lst [tmD (.num (one / 4 % 12)), tmD t]])).drop P)
      rw [← tk, List.take_append_drop] at z
      exact z
    obtain ⟨as, g2, y7, y9, r1, r2, r3⟩ := cell_for h0 h1 ho ho2 a0 a1 a2 a8 js (acc ++ [t2]) (some (.int j)) (some (.int one)) _ (fun d hd => hj d (List.mem_cons_of_mem _ hd)) (by rw [List.length_append, List.length_singleton]; omega) (fun x hx => by
      rcases List.mem_append.mp hx with hx | hx
      · exact ha x hx
      · rw [List.mem_singleton.mp hx]; exact ⟨v2, z2⟩) pn (by rw [List.length_append, List.length_set]; omega) (fun _ hx => by rw [List.mem_singleton] at hx; rw [tk]; exact pt2) (ap_get (get_set hPl))
    refine ⟨as, g ++ [.lst [tmD (.num (one / 4 % 12)), tmD t]] ++ g2, y7, y9, by rw [r1, List.length_append, List.length_singleton, List.length_cons]; omega, r2, ?_⟩
    rw [forL_cons (e1 := [a0, a1, a2, some pd, some (.int odd), some (.int here), some (.ref P), some (.int j), a8, a9]) still_none rfl, e2, nxt_nx, r3, List.set_append_left _ _ (by rw [List.length_set]; exact hPl), List.set_set, List.append_assoc, List.append_assoc]
theorem sz_sum : ∀ {as : List Tm}, (∀ t ∈ as, VT t 1 ∧ tsz t ≤ 1) → tszs as ≤ as.length
  | [], _ => by rw [tszs]; exact Nat.le_refl _
  | t :: r, h => by
    have a := (h t List.mem_cons_self).2
    have b := sz_sum fun x hx => h x (List.mem_cons_of_mem _ hx)
    rw [tszs, List.length_cons]
    omega
theorem c_termS {deep : Nat} (D1 : DrawT (k + 4) deep) : DrawT (k + 6) (deep + 1) := fun more odd b pd h h0 h1 ho ho2 p => by
  obtain ⟨b', g, e1⟩ := odd_step (b := b) ho ho2 h0 (some (.int ((deep + 1 : Nat) : Int))) (some pd) none none none none none h
  have S1 : 1 ≤ 4 ^ deep := Nat.one_le_pow _ _ (by decide)
  have S4 : 4 ^ (deep + 1) = 4 * 4 ^ deep := by rw [Nat.pow_succ]; omega
  have hz : ((deep + 1 : Nat) : Int) ≠ 0 := by omega
  have hd : ((deep + 1 : Nat) : Int) - 1 = (deep : Int) := by omega
  suffices hh : ∃ t, VT t (deep + 2) ∧ tsz t ≤ 4 ^ (deep + 1) ∧ ∃ g2, callN T (k + 6) 5 [.int more, .int ((deep + 1 : Nat) : Int), .str (kdX b), pd, .int odd] h = .ok (tmD t) (h ++ g ++ g2) by
    obtain ⟨t, v, z, g2, e⟩ := hh
    exact ⟨t, g ++ g2, v, z, by rw [e, List.append_assoc]⟩
  rw [call_eq (k := k + 5) (fn := q5.fn) rfl rfl]
  simp only [Def1.fn, q5, b__law_term]
  simp only [List.map_cons, List.map_nil, List.length_cons, List.length_nil, Nat.reduceAdd, Nat.reduceSub, List.replicate, List.cons_append, List.nil_append]
  generalize hdd : ((deep + 1 : Nat) : Int) = dd at *
  rw [s_seq, e1, seqO_nx]
  have p1 : Pool (h ++ g) pd := p.app
  generalize h ++ g = H at *
  by_cases q4 : more % 4 = 0
  · obtain ⟨t, g2, v, z, e2⟩ := c_leaf (n := k + 2) (b := b') (more := more / 64) (by omega) (by omega) p1
    refine ⟨t, v.mono (by omega), by rw [z]; omega, g2, ?_⟩
    simp (disch := first | with_reducible assumption | omega | with_reducible exact size_le (by omega) | decide | (simp only [List.length_cons, List.length_nil, List.length_append]; first | omega | with_reducible exact size_le (by omega)) | exact ⟨by simp only [List.length_cons, List.length_nil]; omega, by decide⟩ | fail) [-getElem?_pos, -getElem?_neg, -Int.natCast_add, le_size, rngR_ok, mul_int, mod_int, div_int, pow_int, add_str, len_str, len_refU, idx_refU, any_refU, all_refU, in_refU, in_tupU, okTo_appU, append_U, it_refU, join_refU, add_refU, isi_refU, idx_str, slc_str, str_int, int_str, meOf, List.lookup, fldOf, putN, putR_ok, List.getElem?_cons_zero, List.getElem?_cons_succ, List.getElem?_concat_length, get_app, get_app0, en_refU, mul_refU, tupF_refU, slc_refU, e2, hz, q4]
  · by_cases q16 : more / 4 % 4 = 0
    · -- a cell
      obtain ⟨a, ns, ei, ea, hn, hn2, hv⟩ := p1.of b'
      have js : ∀ d ∈ rangeD 0 (1 + more / 64 / 64 % 2).toNat, ∃ j : Int, d = .int j ∧ 0 ≤ j ∧ j ≤ 100 := fun d hd => by
        unfold rangeD at hd
        obtain ⟨j, hj, rfl⟩ := List.mem_map.mp hd
        rw [List.mem_range] at hj
        exact ⟨_, rfl, by omega, by omega⟩
      have jl : (rangeD 0 (1 + more / 64 / 64 % 2).toNat).length = (1 + more / 64 / 64 % 2).toNat := by unfold rangeD; rw [List.length_map, List.length_range]
      obtain ⟨as, g3, y7, y9, r1, r2, r3⟩ := cell_for (k := k + 1) (here := more / 64) (odd := odd) (pd := pd) (by omega) (by omega) ho ho2 (some (.int more)) (some (.int dd)) (some (.str (kdX b'))) none (P := H.length) (rangeD 0 (1 + more / 64 / 64 % 2).toNat) [] none none (H ++ [.lst []]) js (by rw [jl, List.length_nil]; omega) (fun _ z => nomatch z) p1.app (by simp) (fun _ _ => by rw [List.take_left']; exact p1; rfl) (by simp [tmDs])
      have es : (H ++ [O.lst []]).set H.length (.lst (tmDs as)) ++ g3 = H ++ ([.lst (tmDs as)] ++ g3) := by simp
      rw [es] at r3
      rw [List.length_nil, jl] at r1
      obtain ⟨N, hN⟩ : ∃ N : Int, (ns.length : Int) = N := ⟨_, rfl⟩
      obtain ⟨x, hx, ex⟩ := pickS (vs := ns) (i := more / 64 / 128 % N) (Int.emod_nonneg _ (by omega)) (by rw [hN]; exact Int.emod_lt_of_pos _ (by omega))
      refine ⟨.cell x as, .cell (hv x hx).vb (by omega) fun t ht => (r2 t ht).1.mono (by omega), by have := sz_sum r2; rw [tsz, S4]; omega, [.lst (tmDs as)] ++ g3, ?_⟩
      have rr : rngR (.int (1 + more / 64 / 64 % 2)) (H ++ [O.lst []]) = .ok (rangeD 0 (1 + more / 64 / 64 % 2).toNat, none) (H ++ [O.lst []]) := rngR_ok (by omega)
      have gP : (H ++ ([O.lst (tmDs as)] ++ g3))[H.length]? = some (.lst (tmDs as)) := by simp
      have ea2 : (H ++ ([O.lst (tmDs as)] ++ g3))[a]? = some (.lst (ns.map .str)) := ap_get ea
      have ei2 : dIdx pd (.int (if b' then 1 else 0)) (H ++ ([O.lst (tmDs as)] ++ g3)) = .ok (.ref a) (H ++ ([O.lst (tmDs as)] ++ g3)) := by
        obtain ⟨x', y', ns', ms', rfl, _⟩ := p1.ex
        cases b' with
        | true => cases ei; rfl
        | false => cases ei; rfl
      have hN0 : 0 < N := by omega
      have tl : (tmDs as).length ≤ sizeLine := size_le (by rw [tmDs_map, List.length_map]; omega)
      generalize hH2 : H ++ ([O.lst (tmDs as)] ++ g3) = H2 at *
      have kb : dBi .int [.bl (decide (kdX b' = [115]))] H2 = .ok (.int (if b' then 1 else 0)) H2 := by cases b' <;> rfl
      simp (disch := first | with_reducible assumption | omega | with_reducible exact size_le (by omega) | decide | (simp only [List.length_cons, List.length_nil, List.length_append]; first | omega | with_reducible exact size_le (by omega)) | exact ⟨by simp only [List.length_cons, List.length_nil]; omega, by decide⟩ | fail) [-getElem?_pos, -getElem?_neg, -Int.natCast_add, le_size, rngR_ok, mul_int, mod_int, div_int, pow_int, add_str, len_str, len_refU, idx_refU, any_refU, all_refU, in_refU, in_tupU, okTo_appU, append_U, it_refU, join_refU, add_refU, isi_refU, idx_str, slc_str, str_int, int_str, meOf, List.lookup, fldOf, putN, putR_ok, List.getElem?_cons_zero, List.getElem?_cons_succ, List.getElem?_concat_length, get_app, get_app0, en_refU, mul_refU, tupF_refU, slc_refU, hz, q4, q16, rr, r3, -int_bl, kb, ei2, ea2, hN, ex, gP, tmD]
    · obtain ⟨t, v, z, g2, e2⟩ := c_joined (k := k + 3) (deep := deep) D1 (more := more / 64) (odd := odd) (b := b') (by omega) (by omega) ho ho2 p1
      refine ⟨t, v, z, g2, ?_⟩
      simp (disch := first | with_reducible assumption | omega | with_reducible exact size_le (by omega) | decide | (simp only [List.length_cons, List.length_nil, List.length_append]; first | omega | with_reducible exact size_le (by omega)) | exact ⟨by simp only [List.length_cons, List.length_nil]; omega, by decide⟩ | fail) [-getElem?_pos, -getElem?_neg, -Int.natCast_add, le_size, rngR_ok, mul_int, mod_int, div_int, pow_int, add_str, len_str, len_refU, idx_refU, any_refU, all_refU, in_refU, in_tupU, okTo_appU, append_U, it_refU, join_refU, add_refU, isi_refU, idx_str, slc_str, str_int, int_str, meOf, List.lookup, fldOf, putN, putR_ok, List.getElem?_cons_zero, List.getElem?_cons_succ, List.getElem?_concat_length, get_app, get_app0, en_refU, mul_refU, tupF_refU, slc_refU, hz, q4, q16, hd, e2]
theorem DrawT.up {k k' deep : Nat} (D1 : ∀ k, DrawT (k + 4 + 2 * deep) deep) (h : 4 + 2 * deep ≤ k') : DrawT k' deep := by
  obtain ⟨j, rfl⟩ : ∃ j, k' = j + 4 + 2 * deep := ⟨k' - 4 - 2 * deep, by omega⟩
  exact D1 j
/-- terms are drawn -/
theorem c_term : ∀ (deep k : Nat), DrawT (k + 4 + 2 * deep) deep
  | 0, k => c_term0
  | deep + 1, k => by
    have z := c_termS (k := k + 2 * deep) (deep := deep) (by rw [show k + 2 * deep + 4 = k + 4 + 2 * deep by omega]; exact c_term deep k)
    rw [show k + 4 + 2 * (deep + 1) = k + 2 * deep + 6 by omega]
    exact z
end
end K20

namespace K20
open PySem L2 Mp
def OPa : List Tx := [[79, 82], [65, 78, 68], [60], [43], [77, 79, 68]]
def OPb : List Tx := [[79, 82], [65, 78, 68], [61], [45], [42]]
theorem opa_ok : ∀ s ∈ OPa, (opStr s).isSome = true := by decide
theorem opb_ok : ∀ s ∈ OPb, (opStr s).isSome = true := by decide
section
variable {k : Nat}
theorem tow_for {more : Int} (h0 : 0 ≤ more) (h1 : more < 2 ^ 129) : ∀ (js : List D) (t : Tm) (d : Nat) (a2 a3 a4 a5 : Option D) (h : DH), (∀ x ∈ js, ∃ j : Int, x = .int j ∧ 0 ≤ j ∧ j ≤ 100) → VT t d → 1 ≤ d →
    ∃ (t' : Tm) (g : DH) (y2 y3 y4 y5 : Option D), VT t' (d + js.length) ∧ tsz t' ≤ tsz t + 2 * js.length ∧ forL none (stName 2) (l__law_tower_1 (callN T (k + 1))) js [some (tmD t), some (.int more), a2, a3, a4, a5] h = .nx [some (tmD t'), some (.int more), y2, y3, y4, y5] (h ++ g)
  | [], t, d, a2, a3, a4, a5, h, _, v, _ => ⟨t, [], a2, a3, a4, a5, v, by rw [List.length_nil]; omega, by rw [forL_nil still_none, List.append_nil]⟩
  | x :: js, t, d, a2, a3, a4, a5, h, hj, v, hd => by
    obtain ⟨j, rfl, j0, j1⟩ := hj x List.mem_cons_self
    have lm : more.natAbs.log2 < 2000000 := by
      have := nn_log h0 h1 (by decide)
      omega
    have lj : (j + 1).natAbs.log2 < 2000000 := by
      have := nn_log (i := j + 1) (n := 20) (by omega) (by omega) (by decide)
      omega
    have ed := c_drawn k more j h lm lj
    have w0 := drawn_nn more j
    have w1 := drawn_lt more j
    generalize drawn more j = here at *
    have vo : VT (.num (here / 8 % 10)) d := (VT.num (d := 0) (by omega) (by omega)).mono hd
    have w9 : here % 4 = 0 ∨ here % 4 = 1 ∨ here % 4 = 2 ∨ here % 4 = 3 := by omega
    obtain ⟨sa, hsa, esa⟩ := pickS (vs := OPa) (i := here / 16 % 5) (by omega) (by show _ < ((5 : Nat) : Int); omega)
    obtain ⟨sb, hsb, esb⟩ := pickS (vs := OPb) (i := here / 16 % 5) (by omega) (by show _ < ((5 : Nat) : Int); omega)
    simp only [OPa, List.map_cons, List.map_nil] at esa
    simp only [OPb, List.map_cons, List.map_nil] at esb
    obtain ⟨t', v', z', g, e⟩ : ∃ t', VT t' (d + 1) ∧ tsz t' ≤ tsz t + 2 ∧ ∃ g, l__law_tower_1 (callN T (k + 1)) [some (tmD t), some (.int more), some (.int j), a3, a4, a5] h = .nx [some (tmD t'), some (.int more), some (.int j), some (.int here), some (.int (here % 4)), some (tmD (.num (here / 8 % 10)))] (h ++ g) := by
      simp only [l__law_tower_1]
      rcases w9 with q | q | q | q
      · exact ⟨.minus t, .minus v, by simp only [tsz]; omega, by simp (disch := first | with_reducible assumption | omega | with_reducible exact size_le (by omega) | decide | (simp only [List.length_cons, List.length_nil, List.length_append]; first | omega | with_reducible exact size_le (by omega)) | exact ⟨by simp only [List.length_cons, List.length_nil]; omega, by decide⟩ | fail) [-getElem?_pos, -getElem?_neg, -Int.natCast_add, le_size, rngR_ok, mul_int, mod_int, div_int, pow_int, add_str, len_str, len_refU, idx_refU, any_refU, all_refU, in_refU, in_tupU, okTo_appU, append_U, it_refU, join_refU, add_refU, isi_refU, idx_str, slc_str, str_int, int_str, meOf, List.lookup, fldOf, putN, putR_ok, List.getElem?_cons_zero, List.getElem?_cons_succ, List.getElem?_concat_length, get_app, get_app0, en_refU, mul_refU, tupF_refU, slc_refU, ed, q, x0, tmD]⟩
      · exact ⟨.not t, .not v, by simp only [tsz]; omega, by simp (disch := first | with_reducible assumption | omega | with_reducible exact size_le (by omega) | decide | (simp only [List.length_cons, List.length_nil, List.length_append]; first | omega | with_reducible exact size_le (by omega)) | exact ⟨by simp only [List.length_cons, List.length_nil]; omega, by decide⟩ | fail) [-getElem?_pos, -getElem?_neg, -Int.natCast_add, le_size, rngR_ok, mul_int, mod_int, div_int, pow_int, add_str, len_str, len_refU, idx_refU, any_refU, all_refU, in_refU, in_tupU, okTo_appU, append_U, it_refU, join_refU, add_refU, isi_refU, idx_str, slc_str, str_int, int_str, meOf, List.lookup, fldOf, putN, putR_ok, List.getElem?_cons_zero, List.getElem?_cons_succ, List.getElem?_concat_length, get_app, get_app0, en_refU, mul_refU, tupF_refU, slc_refU, ed, q, x1, tmD]⟩
      · exact ⟨.op sa (.num (here / 8 % 10)) t, .op (opa_ok sa hsa) vo v, by simp only [tsz]; omega, by simp (disch := first | with_reducible assumption | omega | with_reducible exact size_le (by omega) | decide | (simp only [List.length_cons, List.length_nil, List.length_append]; first | omega | with_reducible exact size_le (by omega)) | exact ⟨by simp only [List.length_cons, List.length_nil]; omega, by decide⟩ | fail) [-getElem?_pos, -getElem?_neg, -Int.natCast_add, le_size, rngR_ok, mul_int, mod_int, div_int, pow_int, add_str, len_str, len_refU, idx_refU, any_refU, all_refU, in_refU, in_tupU, okTo_appU, append_U, it_refU, join_refU, add_refU, isi_refU, idx_str, slc_str, str_int, int_str, meOf, List.lookup, fldOf, putN, putR_ok, List.getElem?_cons_zero, List.getElem?_cons_succ, List.getElem?_concat_length, get_app, get_app0, en_refU, mul_refU, tupF_refU, slc_refU, ed, q, esa, tmD]⟩
      · exact ⟨.op sb t (.num (here / 8 % 10)), .op (opb_ok sb hsb) v vo, by simp only [tsz]; omega, by simp (disch := first | with_reducible assumption | omega | with_reducible exact size_le (by omega) | decide | (simp only [List.length_cons, List.length_nil, List.length_append]; first | omega | with_reducible exact size_le (by omega)) | exact ⟨by simp only [List.length_cons, List.length_nil]; omega, by decide⟩ | fail) [-getElem?_pos, -getElem?_neg, -Int.natCast_add, le_size, rngR_ok, mul_int, mod_int, div_int, pow_int, add_str, len_str, len_refU, idx_refU, any_refU, all_refU, in_refU, in_tupU, okTo_appU, append_U, it_refU, join_refU, add_refU, isi_refU, idx_str, slc_str, str_int, int_str, meOf, List.lookup, fldOf, putN, putR_ok, List.getElem?_cons_zero, List.getElem?_cons_succ, List.getElem?_concat_length, get_app, get_app0, en_refU, mul_refU, tupF_refU, slc_refU, ed, q, esb, tmD]⟩
    obtain ⟨t2, g2, y2, y3, y4, y5, v2, z2, e2⟩ := tow_for h0 h1 js t' (d + 1) (some (.int j)) (some (.int here)) (some (.int (here % 4))) (some (tmD (.num (here / 8 % 10)))) (h ++ g) (fun x hx => hj x (List.mem_cons_of_mem _ hx)) v' (by omega)
    refine ⟨t2, g ++ g2, y2, y3, y4, y5, by rw [List.length_cons]; exact v2.mono (by omega), by rw [List.length_cons]; omega, ?_⟩
    rw [forL_cons (e1 := [some (tmD t), some (.int more), some (.int j), a3, a4, a5]) still_none rfl, e, nxt_nx, e2, List.append_assoc]
theorem c_tower {t : Tm} {more : Int} (h0 : 0 ≤ more) (h1 : more < 2 ^ 129) (v : VT t 1) (h : DH) : ∃ t' g, VT t' 20 ∧ tsz t' ≤ tsz t + 38 ∧ callN T (k + 2) 13 [tmD t, .int more] h = .ok (tmD t') (h ++ g) := by
  have jl : (rangeD 0 (more % 20).toNat).length = (more % 20).toNat := by unfold rangeD; rw [List.length_map, List.length_range]
  obtain ⟨t', g, y2, y3, y4, y5, v', z', e⟩ := tow_for (k := k) h0 h1 (rangeD 0 (more % 20).toNat) t 1 none none none none h (fun d hd => by
    unfold rangeD at hd
    obtain ⟨j, hj, rfl⟩ := List.mem_map.mp hd
    rw [List.mem_range] at hj
    exact ⟨_, rfl, by omega, by omega⟩) v (by decide)
  rw [jl] at v' z'
  refine ⟨t', g, v'.mono (by omega), by omega, ?_⟩
  rw [call_eq (k := k + 1) (fn := q13.fn) rfl rfl]
  simp only [Def1.fn, q13, b__law_tower]
  have rr : rngR (.int (more % 20)) h = .ok (rangeD 0 (more % 20).toNat, none) h := rngR_ok (by omega)
  simp (disch := first | with_reducible assumption | omega | with_reducible exact size_le (by omega) | decide | (simp only [List.length_cons, List.length_nil, List.length_append]; first | omega | with_reducible exact size_le (by omega)) | exact ⟨by simp only [List.length_cons, List.length_nil]; omega, by decide⟩ | fail) [-getElem?_pos, -getElem?_neg, -Int.natCast_add, le_size, rngR_ok, mul_int, mod_int, div_int, pow_int, add_str, len_str, len_refU, idx_refU, any_refU, all_refU, in_refU, in_tupU, okTo_appU, append_U, it_refU, join_refU, add_refU, isi_refU, idx_str, slc_str, str_int, int_str, meOf, List.lookup, fldOf, putN, putR_ok, List.getElem?_cons_zero, List.getElem?_cons_succ, List.getElem?_concat_length, get_app, get_app0, en_refU, mul_refU, tupF_refU, slc_refU, rr, e]
end
end K20

namespace K20
open PySem L2 Mp
/-! ### terms written -/
def tmS : Tm → Int
  | .op o _ _ => (opStr o).getD 0
  | .not _ => 3
  | .minus _ => 7
  | _ => 8
def parS (s l : Int) (x : Tx) : Tx := if s < l then 40 :: (x ++ [41]) else x
mutual
def wr : Tm → Tx
  | .num v => sInt v
  | .text s => 34 :: (s ++ [34])
  | .name x => x
  | .cell x as => x ++ 40 :: (TL.joinL [44, 32] (wrs as) ++ [41])
  | .call x as => x ++ 40 :: (TL.joinL [44, 32] (wrs as) ++ [41])
  | .minus t => 45 :: parS (tmS t) 7 (wr t)
  | .not t => [78, 79, 84, 32] ++ parS (tmS t) 3 (wr t)
  | .op o a b => parS (tmS a) ((opStr o).getD 0) (wr a) ++ 32 :: (o ++ 32 :: parS (tmS b) ((opStr o).getD 0 + 1) (wr b))
def wrs : List Tm → List Tx
  | [] => []
  | t :: r => wr t :: wrs r
end
theorem wrs_map : ∀ l : List Tm, wrs l = l.map wr
  | [] => by rw [wrs]; rfl
  | t :: r => by rw [wrs, wrs_map r, List.map_cons]
theorem parS_len (s l : Int) (x : Tx) : (parS s l x).length ≤ x.length + 2 := by
  unfold parS
  split
  · simp
  · omega
theorem joinL_len (s : Tx) : ∀ l : List Tx, (TL.joinL s l).length ≤ (l.map fun y => y.length).sum + l.length * s.length
  | [] => by simp [TL.joinL]
  | [x] => by simp [TL.joinL]
  | x :: y :: r => by
    have ih := joinL_len s (y :: r)
    rw [TL.joinL, List.length_append, List.length_append]
    simp only [List.map_cons, List.sum_cons, List.length_cons] at ih ⊢
    rw [Nat.succ_mul]
    omega
theorem sInt_len {v : Int} (h0 : 0 ≤ v) (h1 : v ≤ 999999999) : (sInt v).length ≤ 9 := by
  obtain ⟨m, hm, e⟩ := num_sig v h0
  rw [e]
  exact TL.numL_len (by decide) (by omega)
theorem op_in {s : Tx} (h : (opStr s).isSome = true) : s ∈ OP13 := by
  obtain ⟨k, hk⟩ := Option.isSome_iff_exists.mp h
  obtain ⟨m, kk⟩ := str_mem hk
  have key : ∀ s ∈ SG 1 ++ SG 2 ++ SG 4 ++ SG 5 ++ SG 6, s ∈ OP13 := by decide
  refine key s ?_
  rcases kk with rfl | rfl | rfl | rfl | rfl <;> simp only [List.mem_append, m, true_or, or_true]
theorem op_len {s : Tx} (h : (opStr s).isSome = true) : s.length ≤ 3 := by
  have key : ∀ s ∈ OP13, s.length ≤ 3 := by decide
  exact key s (op_in h)
theorem kind_in {x : Tx} {d : D} (h : k_KINDS.lookup x = some d) : x.length ≤ 6 ∧ ∀ ks, d = .str ks → ks.length ≤ 3 ∧ 1 ≤ ks.length := by
  have mem : ∀ (l : List (Tx × D)), l.lookup x = some d → (x, d) ∈ l := by
    intro l
    induction l with
    | nil => intro e; cases e
    | cons q r ih =>
      intro e
      obtain ⟨y, v⟩ := q
      rw [List.lookup_cons] at e
      cases t : x == y with
      | true => rw [t] at e; cases e; rw [eq_of_beq t]; exact List.mem_cons_self
      | false => rw [t] at e; exact List.mem_cons_of_mem _ (ih e)
  have z := mem _ h
  simp only [k_KINDS, List.mem_cons, Prod.mk.injEq, List.not_mem_nil, or_false] at z
  rcases z with ⟨rfl, rfl⟩ | ⟨rfl, rfl⟩ | ⟨rfl, rfl⟩ | ⟨rfl, rfl⟩ | ⟨rfl, rfl⟩ | ⟨rfl, rfl⟩ | ⟨rfl, rfl⟩ | ⟨rfl, rfl⟩ | ⟨rfl, rfl⟩ <;> exact ⟨by decide, fun ks e => by cases e; decide⟩
theorem sum_wrs {f : Tm → Tx} {as : List Tm} (ih : ∀ t ∈ as, (f t).length ≤ 70 * tsz t) : ((as.map f).map fun y => y.length).sum ≤ 70 * tszs as := by
  induction as with
  | nil => simp [tszs]
  | cons t r ih2 =>
    have a := ih t List.mem_cons_self
    have b := ih2 fun x hx => ih x (List.mem_cons_of_mem _ hx)
    simp only [List.map_cons, List.sum_cons, tszs]
    omega
theorem wr_len {t : Tm} {d : Nat} (v : VT t d) : (wr t).length ≤ 70 * tsz t := by
  induction v with
  | num h1 h2 => rw [wr, tsz]; have := sInt_len h1 h2; omega
  | text h1 h2 => rw [wr, tsz, List.length_cons, List.length_append, List.length_singleton]; omega
  | name h1 => rw [wr, tsz]; have := h1.len; omega
  | @cell x as d h1 h2 _ ih =>
    rw [wr, tsz, wrs_map]
    have a := h1.len
    have b := joinL_len [44, 32] (as.map wr)
    have c := sum_wrs ih
    simp only [List.length_append, List.length_cons, List.length_nil, List.length_map] at b ⊢
    omega
  | @call x ks as d h1 h2 _ ih =>
    rw [wr, tsz, wrs_map]
    obtain ⟨a, a2⟩ := kind_in h1
    have a3 := (a2 ks rfl).1
    have b := joinL_len [44, 32] (as.map wr)
    have c := sum_wrs ih
    simp only [List.length_append, List.length_cons, List.length_nil, List.length_map] at b ⊢
    omega
  | @minus t d _ ih => rw [wr, tsz, List.length_cons]; have := parS_len (tmS t) 7 (wr t); omega
  | @not t d _ ih => rw [wr, tsz]; have := parS_len (tmS t) 3 (wr t); simp only [List.length_append, List.length_cons, List.length_nil]; omega
  | @op o a b d h1 _ _ i1 i2 =>
    rw [wr, tsz]
    have := parS_len (tmS a) ((opStr o).getD 0) (wr a)
    have := parS_len (tmS b) ((opStr o).getD 0 + 1) (wr b)
    have := op_len h1
    simp only [List.length_append, List.length_cons]
    omega
/-- a thing told of each term -/
theorem comp_terms {st : D → En → Option En} {elt : M} {e0 : En} (F : Tm → D) : ∀ (as : List Tm), (∀ t ∈ as, ∃ e, st (tmD t) e0 = some e ∧ ∀ h, ∃ g, elt e h = .ok (F t) (h ++ g)) → ∀ h, ∃ g, compL none st mTrue elt e0 (tmDs as) h = .ok (as.map F) (h ++ g)
  | [], _, h => ⟨[], by rw [tmDs, compL_end still_none, List.append_nil]; rfl⟩
  | t :: r, a, h => by
    obtain ⟨e, e1, e2⟩ := a t List.mem_cons_self
    obtain ⟨g, e3⟩ := e2 h
    obtain ⟨g2, e4⟩ := comp_terms F r (fun x hx => a x (List.mem_cons_of_mem _ hx)) (h ++ g)
    refine ⟨g ++ g2, ?_⟩
    rw [tmDs, compL_one still_none e1 e3, e4, bind_ok, List.append_assoc]
    rfl
theorem join_terms {f : Tm → Tx} {as : List Tm} {s : Tx} {h : DH} (hs : ((as.map f).map fun y => y.length).sum + as.length * s.length ≤ 16777216) : joinR s (strsOf (as.map fun t => .str (f t))) h = .ok (.str (TL.joinL s (as.map f))) h := by
  have e : strsOf (as.map fun t => D.str (f t)) = some (as.map f) := by
    have := strs_map (as.map f)
    rw [List.map_map] at this
    exact this
  rw [e]
  exact if_pos (by rw [List.length_map]; exact hs)
theorem sz_mem {t : Tm} : ∀ {as : List Tm}, t ∈ as → tsz t ≤ tszs as
  | a :: r, h => by
    rw [tszs]
    rcases List.mem_cons.mp h with rfl | h
    · omega
    · have := sz_mem h; omega
theorem int_log {v : Int} (h0 : 0 ≤ v) (h1 : v ≤ 999999999) : v.natAbs.log2 < 1920 := by
  have := nn_log (i := v) (n := 30) h0 (by omega) (by decide)
  omega
theorem c_strengthT {t : Tm} {d : Nat} (v : VT t d) (n : Nat) (h : DH) : callN T (n + 2) 23 [tmD t] h = .ok (.int (tmS t)) h := by
  rw [call_eq (k := n + 1) (fn := q23.fn) rfl rfl]
  simp only [Def1.fn, q23, b_strength, c_NOT_STRENGTH, c_MINUS_STRENGTH, c_PLAIN_STRENGTH]
  cases v with
  | num h1 h2 => simp (disch := first | with_reducible assumption | omega | with_reducible exact size_le (by omega) | decide | (simp only [List.length_cons, List.length_nil, List.length_append]; first | omega | with_reducible exact size_le (by omega)) | exact ⟨by simp only [List.length_cons, List.length_nil]; omega, by decide⟩ | fail) [-getElem?_pos, -getElem?_neg, -Int.natCast_add, le_size, rngR_ok, mul_int, mod_int, div_int, pow_int, add_str, len_str, len_refU, idx_refU, any_refU, all_refU, in_refU, in_tupU, okTo_appU, append_U, it_refU, join_refU, add_refU, isi_refU, idx_str, slc_str, str_int, int_str, meOf, List.lookup, fldOf, putN, putR_ok, List.getElem?_cons_zero, List.getElem?_cons_succ, List.getElem?_concat_length, get_app, get_app0, en_refU, mul_refU, tupF_refU, slc_refU, tmD, x0, tmS]
  | text h1 h2 => simp (disch := first | with_reducible assumption | omega | with_reducible exact size_le (by omega) | decide | (simp only [List.length_cons, List.length_nil, List.length_append]; first | omega | with_reducible exact size_le (by omega)) | exact ⟨by simp only [List.length_cons, List.length_nil]; omega, by decide⟩ | fail) [-getElem?_pos, -getElem?_neg, -Int.natCast_add, le_size, rngR_ok, mul_int, mod_int, div_int, pow_int, add_str, len_str, len_refU, idx_refU, any_refU, all_refU, in_refU, in_tupU, okTo_appU, append_U, it_refU, join_refU, add_refU, isi_refU, idx_str, slc_str, str_int, int_str, meOf, List.lookup, fldOf, putN, putR_ok, List.getElem?_cons_zero, List.getElem?_cons_succ, List.getElem?_concat_length, get_app, get_app0, en_refU, mul_refU, tupF_refU, slc_refU, tmD, x0, tmS]
  | name h1 => simp (disch := first | with_reducible assumption | omega | with_reducible exact size_le (by omega) | decide | (simp only [List.length_cons, List.length_nil, List.length_append]; first | omega | with_reducible exact size_le (by omega)) | exact ⟨by simp only [List.length_cons, List.length_nil]; omega, by decide⟩ | fail) [-getElem?_pos, -getElem?_neg, -Int.natCast_add, le_size, rngR_ok, mul_int, mod_int, div_int, pow_int, add_str, len_str, len_refU, idx_refU, any_refU, all_refU, in_refU, in_tupU, okTo_appU, append_U, it_refU, join_refU, add_refU, isi_refU, idx_str, slc_str, str_int, int_str, meOf, List.lookup, fldOf, putN, putR_ok, List.getElem?_cons_zero, List.getElem?_cons_succ, List.getElem?_concat_length, get_app, get_app0, en_refU, mul_refU, tupF_refU, slc_refU, tmD, x0, tmS]
  | cell h1 h2 h3 => simp (disch := first | with_reducible assumption | omega | with_reducible exact size_le (by omega) | decide | (simp only [List.length_cons, List.length_nil, List.length_append]; first | omega | with_reducible exact size_le (by omega)) | exact ⟨by simp only [List.length_cons, List.length_nil]; omega, by decide⟩ | fail) [-getElem?_pos, -getElem?_neg, -Int.natCast_add, le_size, rngR_ok, mul_int, mod_int, div_int, pow_int, add_str, len_str, len_refU, idx_refU, any_refU, all_refU, in_refU, in_tupU, okTo_appU, append_U, it_refU, join_refU, add_refU, isi_refU, idx_str, slc_str, str_int, int_str, meOf, List.lookup, fldOf, putN, putR_ok, List.getElem?_cons_zero, List.getElem?_cons_succ, List.getElem?_concat_length, get_app, get_app0, en_refU, mul_refU, tupF_refU, slc_refU, tmD, x0, tmS]
  | call h1 h2 h3 => simp (disch := first | with_reducible assumption | omega | with_reducible exact size_le (by omega) | decide | (simp only [List.length_cons, List.length_nil, List.length_append]; first | omega | with_reducible exact size_le (by omega)) | exact ⟨by simp only [List.length_cons, List.length_nil]; omega, by decide⟩ | fail) [-getElem?_pos, -getElem?_neg, -Int.natCast_add, le_size, rngR_ok, mul_int, mod_int, div_int, pow_int, add_str, len_str, len_refU, idx_refU, any_refU, all_refU, in_refU, in_tupU, okTo_appU, append_U, it_refU, join_refU, add_refU, isi_refU, idx_str, slc_str, str_int, int_str, meOf, List.lookup, fldOf, putN, putR_ok, List.getElem?_cons_zero, List.getElem?_cons_succ, List.getElem?_concat_length, get_app, get_app0, en_refU, mul_refU, tupF_refU, slc_refU, tmD, x0, tmS]
  | minus h1 => simp (disch := first | with_reducible assumption | omega | with_reducible exact size_le (by omega) | decide | (simp only [List.length_cons, List.length_nil, List.length_append]; first | omega | with_reducible exact size_le (by omega)) | exact ⟨by simp only [List.length_cons, List.length_nil]; omega, by decide⟩ | fail) [-getElem?_pos, -getElem?_neg, -Int.natCast_add, le_size, rngR_ok, mul_int, mod_int, div_int, pow_int, add_str, len_str, len_refU, idx_refU, any_refU, all_refU, in_refU, in_tupU, okTo_appU, append_U, it_refU, join_refU, add_refU, isi_refU, idx_str, slc_str, str_int, int_str, meOf, List.lookup, fldOf, putN, putR_ok, List.getElem?_cons_zero, List.getElem?_cons_succ, List.getElem?_concat_length, get_app, get_app0, en_refU, mul_refU, tupF_refU, slc_refU, tmD, x0, tmS]
  | not h1 => simp (disch := first | with_reducible assumption | omega | with_reducible exact size_le (by omega) | decide | (simp only [List.length_cons, List.length_nil, List.length_append]; first | omega | with_reducible exact size_le (by omega)) | exact ⟨by simp only [List.length_cons, List.length_nil]; omega, by decide⟩ | fail) [-getElem?_pos, -getElem?_neg, -Int.natCast_add, le_size, rngR_ok, mul_int, mod_int, div_int, pow_int, add_str, len_str, len_refU, idx_refU, any_refU, all_refU, in_refU, in_tupU, okTo_appU, append_U, it_refU, join_refU, add_refU, isi_refU, idx_str, slc_str, str_int, int_str, meOf, List.lookup, fldOf, putN, putR_ok, List.getElem?_cons_zero, List.getElem?_cons_succ, List.getElem?_concat_length, get_app, get_app0, en_refU, mul_refU, tupF_refU, slc_refU, tmD, x0, tmS]
  | @op o a b d h1 h2 h3 =>
    obtain ⟨k, hk⟩ := Option.isSome_iff_exists.mp h1
    have z := c_strength n o k h hk
    simp (disch := first | with_reducible assumption | omega | with_reducible exact size_le (by omega) | decide | (simp only [List.length_cons, List.length_nil, List.length_append]; first | omega | with_reducible exact size_le (by omega)) | exact ⟨by simp only [List.length_cons, List.length_nil]; omega, by decide⟩ | fail) [-getElem?_pos, -getElem?_neg, -Int.natCast_add, le_size, rngR_ok, mul_int, mod_int, div_int, pow_int, add_str, len_str, len_refU, idx_refU, any_refU, all_refU, in_refU, in_tupU, okTo_appU, append_U, it_refU, join_refU, add_refU, isi_refU, idx_str, slc_str, str_int, int_str, meOf, List.lookup, fldOf, putN, putR_ok, List.getElem?_cons_zero, List.getElem?_cons_succ, List.getElem?_concat_length, get_app, get_app0, en_refU, mul_refU, tupF_refU, slc_refU, tmD, x0, x1, tmS, z, hk]
theorem c_within {t : Tm} {d : Nat} (v : VT t d) {n : Nat} {h : DH} {l : Int} (hz : tsz t ≤ 100000) {g : DH} (e : callN T (n + 2) 25 [tmD t] h = .ok (.str (wr t)) (h ++ g)) : callN T (n + 3) 24 [tmD t, .int l] h = .ok (.str (parS (tmS t) l (wr t))) (h ++ g) := by
  rw [call_eq (k := n + 2) (fn := q24.fn) rfl rfl]
  simp only [Def1.fn, q24, b_within]
  have wl := wr_len v
  have es := c_strengthT v n (h ++ g)
  generalize h ++ g = H at *
  by_cases q : tmS t < l
  · simp (disch := first | with_reducible assumption | omega | with_reducible exact size_le (by omega) | decide | (simp only [List.length_cons, List.length_nil, List.length_append]; first | omega | with_reducible exact size_le (by omega)) | exact ⟨by simp only [List.length_cons, List.length_nil]; omega, by decide⟩ | fail) [-getElem?_pos, -getElem?_neg, -Int.natCast_add, le_size, rngR_ok, mul_int, mod_int, div_int, pow_int, add_str, len_str, len_refU, idx_refU, any_refU, all_refU, in_refU, in_tupU, okTo_appU, append_U, it_refU, join_refU, add_refU, isi_refU, idx_str, slc_str, str_int, int_str, meOf, List.lookup, fldOf, putN, putR_ok, List.getElem?_cons_zero, List.getElem?_cons_succ, List.getElem?_concat_length, get_app, get_app0, en_refU, mul_refU, tupF_refU, slc_refU, e, es, q, parS]
  · simp (disch := first | with_reducible assumption | omega | with_reducible exact size_le (by omega) | decide | (simp only [List.length_cons, List.length_nil, List.length_append]; first | omega | with_reducible exact size_le (by omega)) | exact ⟨by simp only [List.length_cons, List.length_nil]; omega, by decide⟩ | fail) [-getElem?_pos, -getElem?_neg, -Int.natCast_add, le_size, rngR_ok, mul_int, mod_int, div_int, pow_int, add_str, len_str, len_refU, idx_refU, any_refU, all_refU, in_refU, in_tupU, okTo_appU, append_U, it_refU, join_refU, add_refU, isi_refU, idx_str, slc_str, str_int, int_str, meOf, List.lookup, fldOf, putN, putR_ok, List.getElem?_cons_zero, List.getElem?_cons_succ, List.getElem?_concat_length, get_app, get_app0, en_refU, mul_refU, tupF_refU, slc_refU, e, es, q, parS]
theorem plain_ok {t : Tm} {d : Nat} (v : VT t d) : ∀ (e : Nat) (h : DH), tsz t ≤ 100000 → ∃ g, callN T (e + 2 * d) 25 [tmD t] h = .ok (.str (wr t)) (h ++ g) := by
  have key : ∀ (k : Nat) (ds : List D) (h : DH), callN T (k + 1) 25 [.tup ds] h = finO (b_plain_text (callN T k) [some (.tup ds), none, none, none] h) := fun k ds h => call_eq (fn := q25.fn) rfl rfl
  induction v with
  | @num v d h1 h2 =>
    intro e h _
    refine ⟨[], ?_⟩
    rw [List.append_nil, tmD, show e + 2 * (d + 1) = e + 2 * d + 1 + 1 by omega, key]
    simp only [b_plain_text]
    have lg := int_log h1 h2
    simp (disch := first | with_reducible assumption | omega | with_reducible exact size_le (by omega) | decide | (simp only [List.length_cons, List.length_nil, List.length_append]; first | omega | with_reducible exact size_le (by omega)) | exact ⟨by simp only [List.length_cons, List.length_nil]; omega, by decide⟩ | fail) [-getElem?_pos, -getElem?_neg, -Int.natCast_add, le_size, rngR_ok, mul_int, mod_int, div_int, pow_int, add_str, len_str, len_refU, idx_refU, any_refU, all_refU, in_refU, in_tupU, okTo_appU, append_U, it_refU, join_refU, add_refU, isi_refU, idx_str, slc_str, str_int, int_str, meOf, List.lookup, fldOf, putN, putR_ok, List.getElem?_cons_zero, List.getElem?_cons_succ, List.getElem?_concat_length, get_app, get_app0, en_refU, mul_refU, tupF_refU, slc_refU, x0, x1, lg, wr]
  | @text x d h1 h2 =>
    intro e h _
    refine ⟨[], ?_⟩
    rw [List.append_nil, tmD, show e + 2 * (d + 1) = e + 2 * d + 1 + 1 by omega, key]
    simp only [b_plain_text]
    simp (disch := first | with_reducible assumption | omega | with_reducible exact size_le (by omega) | decide | (simp only [List.length_cons, List.length_nil, List.length_append]; first | omega | with_reducible exact size_le (by omega)) | exact ⟨by simp only [List.length_cons, List.length_nil]; omega, by decide⟩ | fail) [-getElem?_pos, -getElem?_neg, -Int.natCast_add, le_size, rngR_ok, mul_int, mod_int, div_int, pow_int, add_str, len_str, len_refU, idx_refU, any_refU, all_refU, in_refU, in_tupU, okTo_appU, append_U, it_refU, join_refU, add_refU, isi_refU, idx_str, slc_str, str_int, int_str, meOf, List.lookup, fldOf, putN, putR_ok, List.getElem?_cons_zero, List.getElem?_cons_succ, List.getElem?_concat_length, get_app, get_app0, en_refU, mul_refU, tupF_refU, slc_refU, x0, x1, wr]
  | @name x d h1 =>
    intro e h _
    refine ⟨[], ?_⟩
    rw [List.append_nil, tmD, show e + 2 * (d + 1) = e + 2 * d + 1 + 1 by omega, key]
    simp only [b_plain_text]
    simp (disch := first | with_reducible assumption | omega | with_reducible exact size_le (by omega) | decide | (simp only [List.length_cons, List.length_nil, List.length_append]; first | omega | with_reducible exact size_le (by omega)) | exact ⟨by simp only [List.length_cons, List.length_nil]; omega, by decide⟩ | fail) [-getElem?_pos, -getElem?_neg, -Int.natCast_add, le_size, rngR_ok, mul_int, mod_int, div_int, pow_int, add_str, len_str, len_refU, idx_refU, any_refU, all_refU, in_refU, in_tupU, okTo_appU, append_U, it_refU, join_refU, add_refU, isi_refU, idx_str, slc_str, str_int, int_str, meOf, List.lookup, fldOf, putN, putR_ok, List.getElem?_cons_zero, List.getElem?_cons_succ, List.getElem?_concat_length, get_app, get_app0, en_refU, mul_refU, tupF_refU, slc_refU, x0, x1, wr]
  | @cell x as d h1 h2 hv ih =>
    intro e h hz
    rw [tsz] at hz
    obtain ⟨g, cm⟩ := comp_terms (st := stName 3) (elt := t_plain_text_1 (callN T (e + 2 * d + 1))) (e0 := [some (tmD (.cell x as)), some (.str [99, 101, 108, 108]), none, none]) (fun t => .str (wr t)) as (fun t ht => ⟨_, rfl, fun h => by
      obtain ⟨g, z⟩ := ih t ht (e + 1) h (by have := sz_mem ht; omega)
      rw [show e + 1 + 2 * d = e + 2 * d + 1 by omega] at z
      refine ⟨g, ?_⟩
      simp only [t_plain_text_1]
      simp (disch := first | with_reducible assumption | omega | with_reducible exact size_le (by omega) | decide | (simp only [List.length_cons, List.length_nil, List.length_append]; first | omega | with_reducible exact size_le (by omega)) | exact ⟨by simp only [List.length_cons, List.length_nil]; omega, by decide⟩ | fail) [-getElem?_pos, -getElem?_neg, -Int.natCast_add, le_size, rngR_ok, mul_int, mod_int, div_int, pow_int, add_str, len_str, len_refU, idx_refU, any_refU, all_refU, in_refU, in_tupU, okTo_appU, append_U, it_refU, join_refU, add_refU, isi_refU, idx_str, slc_str, str_int, int_str, meOf, List.lookup, fldOf, putN, putR_ok, List.getElem?_cons_zero, List.getElem?_cons_succ, List.getElem?_concat_length, get_app, get_app0, en_refU, mul_refU, tupF_refU, slc_refU, z]⟩) h
    have sw : ((as.map wr).map fun y => y.length).sum ≤ 70 * tszs as := sum_wrs fun t ht => wr_len (hv t ht)
    have jl := joinL_len [44, 32] (as.map wr)
    simp only [List.length_cons, List.length_nil, List.length_map] at jl
    have xl := h1.len
    have jn := join_terms (f := wr) (as := as) (s := [44, 32]) (h := h ++ g ++ [.lst (as.map fun t => .str (wr t))]) (by simp only [List.length_cons, List.length_nil]; omega)
    have jl1 : (TL.joinL [44, 32] (as.map wr)).length ≤ 8000000 := by omega
    generalize hJ : TL.joinL [44, 32] (as.map wr) = J at *
    refine ⟨g ++ [.lst (as.map fun t => .str (wr t))], ?_⟩
    rw [tmD, show e + 2 * (d + 1) = e + 2 * d + 1 + 1 by omega, key, wr, wrs_map, hJ]
    simp only [b_plain_text]
    rw [tmD] at cm
    have tl : (tmDs as).length ≤ sizeLine := size_le (by rw [tmDs_map, List.length_map]; omega)
    have gl : (h ++ g ++ [O.lst (as.map fun t => D.str (wr t))])[(h ++ g).length]? = some (.lst (as.map fun t => .str (wr t))) := List.getElem?_concat_length
    rw [← List.append_assoc]
    generalize h ++ g = H at *
    simp (disch := first | with_reducible assumption | omega | with_reducible exact size_le (by omega) | decide | (simp only [List.length_cons, List.length_nil, List.length_append]; first | omega | with_reducible exact size_le (by omega)) | exact ⟨by simp only [List.length_cons, List.length_nil]; omega, by decide⟩ | fail) [-getElem?_pos, -getElem?_neg, -Int.natCast_add, le_size, rngR_ok, mul_int, mod_int, div_int, pow_int, add_str, len_str, len_refU, idx_refU, any_refU, all_refU, in_refU, in_tupU, okTo_appU, append_U, it_refU, join_refU, add_refU, isi_refU, idx_str, slc_str, str_int, int_str, meOf, List.lookup, fldOf, putN, putR_ok, List.getElem?_cons_zero, List.getElem?_cons_succ, List.getElem?_concat_length, get_app, get_app0, en_refU, mul_refU, tupF_refU, slc_refU, x0, x1, x2, strsOf, cm, wipeD, tl, gl, jn]
  | @call x ks as d h1 h2 hv ih =>
    intro e h hz
    rw [tsz] at hz
    obtain ⟨g, cm⟩ := comp_terms (st := stName 3) (elt := t_plain_text_1 (callN T (e + 2 * d + 1))) (e0 := [some (tmD (.call x as)), some (.str [99, 97, 108, 108]), none, none]) (fun t => .str (wr t)) as (fun t ht => ⟨_, rfl, fun h => by
      obtain ⟨g, z⟩ := ih t ht (e + 1) h (by have := sz_mem ht; omega)
      rw [show e + 1 + 2 * d = e + 2 * d + 1 by omega] at z
      refine ⟨g, ?_⟩
      simp only [t_plain_text_1]
      simp (disch := first | with_reducible assumption | omega | with_reducible exact size_le (by omega) | decide | (simp only [List.length_cons, List.length_nil, List.length_append]; first | omega | with_reducible exact size_le (by omega)) | exact ⟨by simp only [List.length_cons, List.length_nil]; omega, by decide⟩ | fail) [-getElem?_pos, -getElem?_neg, -Int.natCast_add, le_size, rngR_ok, mul_int, mod_int, div_int, pow_int, add_str, len_str, len_refU, idx_refU, any_refU, all_refU, in_refU, in_tupU, okTo_appU, append_U, it_refU, join_refU, add_refU, isi_refU, idx_str, slc_str, str_int, int_str, meOf, List.lookup, fldOf, putN, putR_ok, List.getElem?_cons_zero, List.getElem?_cons_succ, List.getElem?_concat_length, get_app, get_app0, en_refU, mul_refU, tupF_refU, slc_refU, z]⟩) h
    have sw : ((as.map wr).map fun y => y.length).sum ≤ 70 * tszs as := sum_wrs fun t ht => wr_len (hv t ht)
    have jl := joinL_len [44, 32] (as.map wr)
    simp only [List.length_cons, List.length_nil, List.length_map] at jl
    obtain ⟨xl, a2⟩ := kind_in h1
    have a3 := (a2 ks rfl).1
    have jn := join_terms (f := wr) (as := as) (s := [44, 32]) (h := h ++ g ++ [.lst (as.map fun t => .str (wr t))]) (by simp only [List.length_cons, List.length_nil]; omega)
    have jl1 : (TL.joinL [44, 32] (as.map wr)).length ≤ 8000000 := by omega
    generalize hJ : TL.joinL [44, 32] (as.map wr) = J at *
    refine ⟨g ++ [.lst (as.map fun t => .str (wr t))], ?_⟩
    rw [tmD, show e + 2 * (d + 1) = e + 2 * d + 1 + 1 by omega, key, wr, wrs_map, hJ]
    simp only [b_plain_text]
    rw [tmD] at cm
    have tl : (tmDs as).length ≤ sizeLine := size_le (by rw [tmDs_map, List.length_map]; omega)
    have gl : (h ++ g ++ [O.lst (as.map fun t => D.str (wr t))])[(h ++ g).length]? = some (.lst (as.map fun t => .str (wr t))) := List.getElem?_concat_length
    rw [← List.append_assoc]
    generalize h ++ g = H at *
    simp (disch := first | with_reducible assumption | omega | with_reducible exact size_le (by omega) | decide | (simp only [List.length_cons, List.length_nil, List.length_append]; first | omega | with_reducible exact size_le (by omega)) | exact ⟨by simp only [List.length_cons, List.length_nil]; omega, by decide⟩ | fail) [-getElem?_pos, -getElem?_neg, -Int.natCast_add, le_size, rngR_ok, mul_int, mod_int, div_int, pow_int, add_str, len_str, len_refU, idx_refU, any_refU, all_refU, in_refU, in_tupU, okTo_appU, append_U, it_refU, join_refU, add_refU, isi_refU, idx_str, slc_str, str_int, int_str, meOf, List.lookup, fldOf, putN, putR_ok, List.getElem?_cons_zero, List.getElem?_cons_succ, List.getElem?_concat_length, get_app, get_app0, en_refU, mul_refU, tupF_refU, slc_refU, x0, x1, x2, strsOf, cm, wipeD, tl, gl, jn]
  | @minus t d v ih =>
    intro e h hz
    rw [tsz] at hz
    cases d with
    | zero => cases v
    | succ d =>
    obtain ⟨g, z⟩ := ih e h (by omega)
    have z2 := c_within v (n := e + 2 * d) (l := 7) (by omega) z
    have pl := parS_len (tmS t) 7 (wr t)
    have wl := wr_len v
    refine ⟨g, ?_⟩
    rw [tmD, show e + 2 * (d + 1 + 1) = e + 2 * d + 3 + 1 by omega, key, wr]
    simp only [b_plain_text, c_MINUS_STRENGTH]
    simp (disch := first | with_reducible assumption | omega | with_reducible exact size_le (by omega) | decide | (simp only [List.length_cons, List.length_nil, List.length_append]; first | omega | with_reducible exact size_le (by omega)) | exact ⟨by simp only [List.length_cons, List.length_nil]; omega, by decide⟩ | fail) [-getElem?_pos, -getElem?_neg, -Int.natCast_add, le_size, rngR_ok, mul_int, mod_int, div_int, pow_int, add_str, len_str, len_refU, idx_refU, any_refU, all_refU, in_refU, in_tupU, okTo_appU, append_U, it_refU, join_refU, add_refU, isi_refU, idx_str, slc_str, str_int, int_str, meOf, List.lookup, fldOf, putN, putR_ok, List.getElem?_cons_zero, List.getElem?_cons_succ, List.getElem?_concat_length, get_app, get_app0, en_refU, mul_refU, tupF_refU, slc_refU, x0, x1, strsOf, z2]
  | @not t d v ih =>
    intro e h hz
    rw [tsz] at hz
    cases d with
    | zero => cases v
    | succ d =>
    obtain ⟨g, z⟩ := ih e h (by omega)
    have z2 := c_within v (n := e + 2 * d) (l := 3) (by omega) z
    have pl := parS_len (tmS t) 3 (wr t)
    have wl := wr_len v
    refine ⟨g, ?_⟩
    rw [tmD, show e + 2 * (d + 1 + 1) = e + 2 * d + 3 + 1 by omega, key, wr]
    simp only [b_plain_text, c_NOT_STRENGTH]
    simp (disch := first | with_reducible assumption | omega | with_reducible exact size_le (by omega) | decide | (simp only [List.length_cons, List.length_nil, List.length_append]; first | omega | with_reducible exact size_le (by omega)) | exact ⟨by simp only [List.length_cons, List.length_nil]; omega, by decide⟩ | fail) [-getElem?_pos, -getElem?_neg, -Int.natCast_add, le_size, rngR_ok, mul_int, mod_int, div_int, pow_int, add_str, len_str, len_refU, idx_refU, any_refU, all_refU, in_refU, in_tupU, okTo_appU, append_U, it_refU, join_refU, add_refU, isi_refU, idx_str, slc_str, str_int, int_str, meOf, List.lookup, fldOf, putN, putR_ok, List.getElem?_cons_zero, List.getElem?_cons_succ, List.getElem?_concat_length, get_app, get_app0, en_refU, mul_refU, tupF_refU, slc_refU, x0, x1, strsOf, z2]
  | @op o a b d h1 va vb i1 i2 =>
    intro e h hz
    rw [tsz] at hz
    cases d with
    | zero => cases va
    | succ d =>
    obtain ⟨k, hk⟩ := Option.isSome_iff_exists.mp h1
    have es := c_strength (e + 2 * d + 2) o k h hk
    obtain ⟨g, z⟩ := i1 e h (by omega)
    have z1 := c_within va (n := e + 2 * d) (l := k) (by omega) z
    obtain ⟨g2, z'⟩ := i2 e (h ++ g) (by omega)
    have z2 := c_within vb (n := e + 2 * d) (l := k + 1) (by omega) z'
    have pa := parS_len (tmS a) k (wr a)
    have pb := parS_len (tmS b) (k + 1) (wr b)
    have wa := wr_len va
    have wb := wr_len vb
    have ol := op_len h1
    refine ⟨g ++ g2, ?_⟩
    rw [tmD, show e + 2 * (d + 1 + 1) = e + 2 * d + 3 + 1 by omega, key, wr, hk, ← List.append_assoc]
    simp only [b_plain_text, Option.getD_some]
    generalize h ++ g ++ g2 = H2 at *
    generalize h ++ g = H at *
    simp (disch := first | with_reducible assumption | omega | with_reducible exact size_le (by omega) | decide | (simp only [List.length_cons, List.length_nil, List.length_append]; first | omega | with_reducible exact size_le (by omega)) | exact ⟨by simp only [List.length_cons, List.length_nil]; omega, by decide⟩ | fail) [-getElem?_pos, -getElem?_neg, -Int.natCast_add, le_size, rngR_ok, mul_int, mod_int, div_int, pow_int, add_str, len_str, len_refU, idx_refU, any_refU, all_refU, in_refU, in_tupU, okTo_appU, append_U, it_refU, join_refU, add_refU, isi_refU, idx_str, slc_str, str_int, int_str, meOf, List.lookup, fldOf, putN, putR_ok, List.getElem?_cons_zero, List.getElem?_cons_succ, List.getElem?_concat_length, get_app, get_app0, en_refU, mul_refU, tupF_refU, slc_refU, x0, x1, x2, x3, strsOf, es, z1, z2]
theorem c_written {t : Tm} {d : Nat} (v : VT t d) (hd : d ≤ 20) (e : Nat) (h : DH) (hz : tsz t ≤ 100000) : ∃ g, callN T (e + 2 * d + 4) 26 [tmD t] h = .ok (.str (wr t)) (h ++ g) := by
  obtain ⟨g, z⟩ := needterm_ok v e 1 h (by omega)
  obtain ⟨g2, z2⟩ := plain_ok v (e + 3) (h ++ g) hz
  rw [show e + 3 + 2 * d = e + 2 * d + 3 by omega] at z2
  refine ⟨g ++ g2, ?_⟩
  rw [call_eq (k := e + 2 * d + 3) (fn := q26.fn) rfl rfl]
  simp only [Def1.fn, q26, b_written_term]
  rw [← List.append_assoc]
  generalize h ++ g ++ g2 = H2 at *
  generalize h ++ g = H at *
  simp (disch := first | with_reducible assumption | omega | with_reducible exact size_le (by omega) | decide | (simp only [List.length_cons, List.length_nil, List.length_append]; first | omega | with_reducible exact size_le (by omega)) | exact ⟨by simp only [List.length_cons, List.length_nil]; omega, by decide⟩ | fail) [-getElem?_pos, -getElem?_neg, -Int.natCast_add, le_size, rngR_ok, mul_int, mod_int, div_int, pow_int, add_str, len_str, len_refU, idx_refU, any_refU, all_refU, in_refU, in_tupU, okTo_appU, append_U, it_refU, join_refU, add_refU, isi_refU, idx_str, slc_str, str_int, int_str, meOf, List.lookup, fldOf, putN, putR_ok, List.getElem?_cons_zero, List.getElem?_cons_succ, List.getElem?_concat_length, get_app, get_app0, en_refU, mul_refU, tupF_refU, slc_refU, z, z2]
end K20

namespace K20
open PySem L2 Mp
theorem law_str : ∀ o ∈ OP13, (dLook ([[79, 82], [65, 78, 68], [43], [45], [42], [68, 73, 86], [77, 79, 68]].zip ([1, 2, 5, 5, 6, 6, 6].map D.int)) o).getD (.int 4) = .int ((opStr o).getD 0) := by
  intro o ho
  simp only [OP13, List.mem_cons, List.not_mem_nil, or_false] at ho
  rcases ho with rfl | rfl | rfl | rfl | rfl | rfl | rfl | rfl | rfl | rfl | rfl | rfl | rfl <;> rfl
theorem c_lstrength {t : Tm} {d : Nat} (v : VT t d) (n : Nat) (h : DH) : callN T (n + 1) 6 [tmD t] h = .ok (.int (tmS t)) h := by
  rw [call_eq (k := n) (fn := q6.fn) rfl rfl]
  simp only [Def1.fn, q6, b__law_strength]
  cases v with
  | num h1 h2 => simp (disch := first | with_reducible assumption | omega | with_reducible exact size_le (by omega) | decide | (simp only [List.length_cons, List.length_nil, List.length_append]; first | omega | with_reducible exact size_le (by omega)) | exact ⟨by simp only [List.length_cons, List.length_nil]; omega, by decide⟩ | fail) [-getElem?_pos, -getElem?_neg, -Int.natCast_add, le_size, rngR_ok, mul_int, mod_int, div_int, pow_int, add_str, len_str, len_refU, idx_refU, any_refU, all_refU, in_refU, in_tupU, okTo_appU, append_U, it_refU, join_refU, add_refU, isi_refU, idx_str, slc_str, str_int, int_str, meOf, List.lookup, fldOf, putN, putR_ok, List.getElem?_cons_zero, List.getElem?_cons_succ, List.getElem?_concat_length, get_app, get_app0, en_refU, mul_refU, tupF_refU, slc_refU, tmD, x0, tmS, dLook]
  | text h1 h2 => simp (disch := first | with_reducible assumption | omega | with_reducible exact size_le (by omega) | decide | (simp only [List.length_cons, List.length_nil, List.length_append]; first | omega | with_reducible exact size_le (by omega)) | exact ⟨by simp only [List.length_cons, List.length_nil]; omega, by decide⟩ | fail) [-getElem?_pos, -getElem?_neg, -Int.natCast_add, le_size, rngR_ok, mul_int, mod_int, div_int, pow_int, add_str, len_str, len_refU, idx_refU, any_refU, all_refU, in_refU, in_tupU, okTo_appU, append_U, it_refU, join_refU, add_refU, isi_refU, idx_str, slc_str, str_int, int_str, meOf, List.lookup, fldOf, putN, putR_ok, List.getElem?_cons_zero, List.getElem?_cons_succ, List.getElem?_concat_length, get_app, get_app0, en_refU, mul_refU, tupF_refU, slc_refU, tmD, x0, tmS, dLook]
  | name h1 => simp (disch := first | with_reducible assumption | omega | with_reducible exact size_le (by omega) | decide | (simp only [List.length_cons, List.length_nil, List.length_append]; first | omega | with_reducible exact size_le (by omega)) | exact ⟨by simp only [List.length_cons, List.length_nil]; omega, by decide⟩ | fail) [-getElem?_pos, -getElem?_neg, -Int.natCast_add, le_size, rngR_ok, mul_int, mod_int, div_int, pow_int, add_str, len_str, len_refU, idx_refU, any_refU, all_refU, in_refU, in_tupU, okTo_appU, append_U, it_refU, join_refU, add_refU, isi_refU, idx_str, slc_str, str_int, int_str, meOf, List.lookup, fldOf, putN, putR_ok, List.getElem?_cons_zero, List.getElem?_cons_succ, List.getElem?_concat_length, get_app, get_app0, en_refU, mul_refU, tupF_refU, slc_refU, tmD, x0, tmS, dLook]
  | cell h1 h2 h3 => simp (disch := first | with_reducible assumption | omega | with_reducible exact size_le (by omega) | decide | (simp only [List.length_cons, List.length_nil, List.length_append]; first | omega | with_reducible exact size_le (by omega)) | exact ⟨by simp only [List.length_cons, List.length_nil]; omega, by decide⟩ | fail) [-getElem?_pos, -getElem?_neg, -Int.natCast_add, le_size, rngR_ok, mul_int, mod_int, div_int, pow_int, add_str, len_str, len_refU, idx_refU, any_refU, all_refU, in_refU, in_tupU, okTo_appU, append_U, it_refU, join_refU, add_refU, isi_refU, idx_str, slc_str, str_int, int_str, meOf, List.lookup, fldOf, putN, putR_ok, List.getElem?_cons_zero, List.getElem?_cons_succ, List.getElem?_concat_length, get_app, get_app0, en_refU, mul_refU, tupF_refU, slc_refU, tmD, x0, tmS, dLook]
  | call h1 h2 h3 => simp (disch := first | with_reducible assumption | omega | with_reducible exact size_le (by omega) | decide | (simp only [List.length_cons, List.length_nil, List.length_append]; first | omega | with_reducible exact size_le (by omega)) | exact ⟨by simp only [List.length_cons, List.length_nil]; omega, by decide⟩ | fail) [-getElem?_pos, -getElem?_neg, -Int.natCast_add, le_size, rngR_ok, mul_int, mod_int, div_int, pow_int, add_str, len_str, len_refU, idx_refU, any_refU, all_refU, in_refU, in_tupU, okTo_appU, append_U, it_refU, join_refU, add_refU, isi_refU, idx_str, slc_str, str_int, int_str, meOf, List.lookup, fldOf, putN, putR_ok, List.getElem?_cons_zero, List.getElem?_cons_succ, List.getElem?_concat_length, get_app, get_app0, en_refU, mul_refU, tupF_refU, slc_refU, tmD, x0, tmS, dLook]
  | minus h1 => simp (disch := first | with_reducible assumption | omega | with_reducible exact size_le (by omega) | decide | (simp only [List.length_cons, List.length_nil, List.length_append]; first | omega | with_reducible exact size_le (by omega)) | exact ⟨by simp only [List.length_cons, List.length_nil]; omega, by decide⟩ | fail) [-getElem?_pos, -getElem?_neg, -Int.natCast_add, le_size, rngR_ok, mul_int, mod_int, div_int, pow_int, add_str, len_str, len_refU, idx_refU, any_refU, all_refU, in_refU, in_tupU, okTo_appU, append_U, it_refU, join_refU, add_refU, isi_refU, idx_str, slc_str, str_int, int_str, meOf, List.lookup, fldOf, putN, putR_ok, List.getElem?_cons_zero, List.getElem?_cons_succ, List.getElem?_concat_length, get_app, get_app0, en_refU, mul_refU, tupF_refU, slc_refU, tmD, x0, tmS, dLook]
  | not h1 => simp (disch := first | with_reducible assumption | omega | with_reducible exact size_le (by omega) | decide | (simp only [List.length_cons, List.length_nil, List.length_append]; first | omega | with_reducible exact size_le (by omega)) | exact ⟨by simp only [List.length_cons, List.length_nil]; omega, by decide⟩ | fail) [-getElem?_pos, -getElem?_neg, -Int.natCast_add, le_size, rngR_ok, mul_int, mod_int, div_int, pow_int, add_str, len_str, len_refU, idx_refU, any_refU, all_refU, in_refU, in_tupU, okTo_appU, append_U, it_refU, join_refU, add_refU, isi_refU, idx_str, slc_str, str_int, int_str, meOf, List.lookup, fldOf, putN, putR_ok, List.getElem?_cons_zero, List.getElem?_cons_succ, List.getElem?_concat_length, get_app, get_app0, en_refU, mul_refU, tupF_refU, slc_refU, tmD, x0, tmS, dLook]
  | @op o a b d h1 h2 h3 =>
    have z := law_str o (op_in h1)
    simp only [List.map_cons, List.map_nil] at z
    simp (disch := first | with_reducible assumption | omega | with_reducible exact size_le (by omega) | decide | (simp only [List.length_cons, List.length_nil, List.length_append]; first | omega | with_reducible exact size_le (by omega)) | exact ⟨by simp only [List.length_cons, List.length_nil]; omega, by decide⟩ | fail) [-getElem?_pos, -getElem?_neg, -Int.natCast_add, le_size, rngR_ok, mul_int, mod_int, div_int, pow_int, add_str, len_str, len_refU, idx_refU, any_refU, all_refU, in_refU, in_tupU, okTo_appU, append_U, it_refU, join_refU, add_refU, isi_refU, idx_str, slc_str, str_int, int_str, meOf, List.lookup, fldOf, putN, putR_ok, List.getElem?_cons_zero, List.getElem?_cons_succ, List.getElem?_concat_length, get_app, get_app0, en_refU, mul_refU, tupF_refU, slc_refU, tmD, x0, x1, tmS, -List.zip_cons_cons, z]
theorem c_part {t : Tm} {d : Nat} (v : VT t d) {n : Nat} {h : DH} {l : Int} (hz : tsz t ≤ 100000) {g : DH} (e : callN T (n + 2) 8 [tmD t] h = .ok (.str (wr t)) (h ++ g)) : callN T (n + 3) 7 [tmD t, .int l] h = .ok (.str (parS (tmS t) l (wr t))) (h ++ g) := by
  rw [call_eq (k := n + 2) (fn := q7.fn) rfl rfl]
  simp only [Def1.fn, q7, b__law_part]
  have wl := wr_len v
  have es := c_lstrength v (n + 1) (h ++ g)
  generalize h ++ g = H at *
  by_cases q : tmS t < l
  · have q2 : ¬ l ≤ tmS t := by omega
    simp (disch := first | with_reducible assumption | omega | with_reducible exact size_le (by omega) | decide | (simp only [List.length_cons, List.length_nil, List.length_append]; first | omega | with_reducible exact size_le (by omega)) | exact ⟨by simp only [List.length_cons, List.length_nil]; omega, by decide⟩ | fail) [-getElem?_pos, -getElem?_neg, -Int.natCast_add, le_size, rngR_ok, mul_int, mod_int, div_int, pow_int, add_str, len_str, len_refU, idx_refU, any_refU, all_refU, in_refU, in_tupU, okTo_appU, append_U, it_refU, join_refU, add_refU, isi_refU, idx_str, slc_str, str_int, int_str, meOf, List.lookup, fldOf, putN, putR_ok, List.getElem?_cons_zero, List.getElem?_cons_succ, List.getElem?_concat_length, get_app, get_app0, en_refU, mul_refU, tupF_refU, slc_refU, e, es, q, q2, parS]
  · have q2 : l ≤ tmS t := by omega
    simp (disch := first | with_reducible assumption | omega | with_reducible exact size_le (by omega) | decide | (simp only [List.length_cons, List.length_nil, List.length_append]; first | omega | with_reducible exact size_le (by omega)) | exact ⟨by simp only [List.length_cons, List.length_nil]; omega, by decide⟩ | fail) [-getElem?_pos, -getElem?_neg, -Int.natCast_add, le_size, rngR_ok, mul_int, mod_int, div_int, pow_int, add_str, len_str, len_refU, idx_refU, any_refU, all_refU, in_refU, in_tupU, okTo_appU, append_U, it_refU, join_refU, add_refU, isi_refU, idx_str, slc_str, str_int, int_str, meOf, List.lookup, fldOf, putN, putR_ok, List.getElem?_cons_zero, List.getElem?_cons_succ, List.getElem?_concat_length, get_app, get_app0, en_refU, mul_refU, tupF_refU, slc_refU, e, es, q, q2, parS]
theorem due_ok {t : Tm} {d : Nat} (v : VT t d) : ∀ (e : Nat) (h : DH), tsz t ≤ 100000 → ∃ g, callN T (e + 2 * d) 8 [tmD t] h = .ok (.str (wr t)) (h ++ g) := by
  have key : ∀ (k : Nat) (ds : List D) (h : DH), callN T (k + 1) 8 [.tup ds] h = finO (b__law_due (callN T k) [some (.tup ds), none, none, none] h) := fun k ds h => call_eq (fn := q8.fn) rfl rfl
  induction v with
  | @num v d h1 h2 =>
    intro e h _
    refine ⟨[], ?_⟩
    rw [List.append_nil, tmD, show e + 2 * (d + 1) = e + 2 * d + 1 + 1 by omega, key]
    simp only [b__law_due]
    have lg := int_log h1 h2
    simp (disch := first | with_reducible assumption | omega | with_reducible exact size_le (by omega) | decide | (simp only [List.length_cons, List.length_nil, List.length_append]; first | omega | with_reducible exact size_le (by omega)) | exact ⟨by simp only [List.length_cons, List.length_nil]; omega, by decide⟩ | fail) [-getElem?_pos, -getElem?_neg, -Int.natCast_add, le_size, rngR_ok, mul_int, mod_int, div_int, pow_int, add_str, len_str, len_refU, idx_refU, any_refU, all_refU, in_refU, in_tupU, okTo_appU, append_U, it_refU, join_refU, add_refU, isi_refU, idx_str, slc_str, str_int, int_str, meOf, List.lookup, fldOf, putN, putR_ok, List.getElem?_cons_zero, List.getElem?_cons_succ, List.getElem?_concat_length, get_app, get_app0, en_refU, mul_refU, tupF_refU, slc_refU, x0, x1, lg, wr, strsOf]
  | @text x d h1 h2 =>
    intro e h _
    refine ⟨[], ?_⟩
    rw [List.append_nil, tmD, show e + 2 * (d + 1) = e + 2 * d + 1 + 1 by omega, key]
    simp only [b__law_due]
    simp (disch := first | with_reducible assumption | omega | with_reducible exact size_le (by omega) | decide | (simp only [List.length_cons, List.length_nil, List.length_append]; first | omega | with_reducible exact size_le (by omega)) | exact ⟨by simp only [List.length_cons, List.length_nil]; omega, by decide⟩ | fail) [-getElem?_pos, -getElem?_neg, -Int.natCast_add, le_size, rngR_ok, mul_int, mod_int, div_int, pow_int, add_str, len_str, len_refU, idx_refU, any_refU, all_refU, in_refU, in_tupU, okTo_appU, append_U, it_refU, join_refU, add_refU, isi_refU, idx_str, slc_str, str_int, int_str, meOf, List.lookup, fldOf, putN, putR_ok, List.getElem?_cons_zero, List.getElem?_cons_succ, List.getElem?_concat_length, get_app, get_app0, en_refU, mul_refU, tupF_refU, slc_refU, x0, x1, wr, strsOf]
  | @name x d h1 =>
    intro e h _
    refine ⟨[], ?_⟩
    rw [List.append_nil, tmD, show e + 2 * (d + 1) = e + 2 * d + 1 + 1 by omega, key]
    simp only [b__law_due]
    simp (disch := first | with_reducible assumption | omega | with_reducible exact size_le (by omega) | decide | (simp only [List.length_cons, List.length_nil, List.length_append]; first | omega | with_reducible exact size_le (by omega)) | exact ⟨by simp only [List.length_cons, List.length_nil]; omega, by decide⟩ | fail) [-getElem?_pos, -getElem?_neg, -Int.natCast_add, le_size, rngR_ok, mul_int, mod_int, div_int, pow_int, add_str, len_str, len_refU, idx_refU, any_refU, all_refU, in_refU, in_tupU, okTo_appU, append_U, it_refU, join_refU, add_refU, isi_refU, idx_str, slc_str, str_int, int_str, meOf, List.lookup, fldOf, putN, putR_ok, List.getElem?_cons_zero, List.getElem?_cons_succ, List.getElem?_concat_length, get_app, get_app0, en_refU, mul_refU, tupF_refU, slc_refU, x0, x1, wr, strsOf]
  | @cell x as d h1 h2 hv ih =>
    intro e h hz
    rw [tsz] at hz
    obtain ⟨g, cm⟩ := comp_terms (st := stName 3) (elt := t__law_due_1 (callN T (e + 2 * d + 1))) (e0 := [some (tmD (.cell x as)), some (.str [99, 101, 108, 108]), none, none]) (fun t => .str (wr t)) as (fun t ht => ⟨_, rfl, fun h => by
      obtain ⟨g, z⟩ := ih t ht (e + 1) h (by have := sz_mem ht; omega)
      rw [show e + 1 + 2 * d = e + 2 * d + 1 by omega] at z
      refine ⟨g, ?_⟩
      simp only [t__law_due_1]
      simp (disch := first | with_reducible assumption | omega | with_reducible exact size_le (by omega) | decide | (simp only [List.length_cons, List.length_nil, List.length_append]; first | omega | with_reducible exact size_le (by omega)) | exact ⟨by simp only [List.length_cons, List.length_nil]; omega, by decide⟩ | fail) [-getElem?_pos, -getElem?_neg, -Int.natCast_add, le_size, rngR_ok, mul_int, mod_int, div_int, pow_int, add_str, len_str, len_refU, idx_refU, any_refU, all_refU, in_refU, in_tupU, okTo_appU, append_U, it_refU, join_refU, add_refU, isi_refU, idx_str, slc_str, str_int, int_str, meOf, List.lookup, fldOf, putN, putR_ok, List.getElem?_cons_zero, List.getElem?_cons_succ, List.getElem?_concat_length, get_app, get_app0, en_refU, mul_refU, tupF_refU, slc_refU, z]⟩) h
    have sw : ((as.map wr).map fun y => y.length).sum ≤ 70 * tszs as := sum_wrs fun t ht => wr_len (hv t ht)
    have jl := joinL_len [44, 32] (as.map wr)
    simp only [List.length_cons, List.length_nil, List.length_map] at jl
    have xl := h1.len
    have jn := join_terms (f := wr) (as := as) (s := [44, 32]) (h := h ++ g ++ [.lst (as.map fun t => .str (wr t))]) (by simp only [List.length_cons, List.length_nil]; omega)
    have jl1 : (TL.joinL [44, 32] (as.map wr)).length ≤ 8000000 := by omega
    generalize hJ : TL.joinL [44, 32] (as.map wr) = J at *
    refine ⟨g ++ [.lst (as.map fun t => .str (wr t))], ?_⟩
    rw [tmD, show e + 2 * (d + 1) = e + 2 * d + 1 + 1 by omega, key, wr, wrs_map, hJ]
    simp only [b__law_due]
    rw [tmD] at cm
    have tl : (tmDs as).length ≤ sizeLine := size_le (by rw [tmDs_map, List.length_map]; omega)
    have gl : (h ++ g ++ [O.lst (as.map fun t => D.str (wr t))])[(h ++ g).length]? = some (.lst (as.map fun t => .str (wr t))) := List.getElem?_concat_length
    rw [← List.append_assoc]
    generalize h ++ g = H at *
    simp (disch := first | with_reducible assumption | omega | with_reducible exact size_le (by omega) | decide | (simp only [List.length_cons, List.length_nil, List.length_append]; first | omega | with_reducible exact size_le (by omega)) | exact ⟨by simp only [List.length_cons, List.length_nil]; omega, by decide⟩ | fail) [-getElem?_pos, -getElem?_neg, -Int.natCast_add, le_size, rngR_ok, mul_int, mod_int, div_int, pow_int, add_str, len_str, len_refU, idx_refU, any_refU, all_refU, in_refU, in_tupU, okTo_appU, append_U, it_refU, join_refU, add_refU, isi_refU, idx_str, slc_str, str_int, int_str, meOf, List.lookup, fldOf, putN, putR_ok, List.getElem?_cons_zero, List.getElem?_cons_succ, List.getElem?_concat_length, get_app, get_app0, en_refU, mul_refU, tupF_refU, slc_refU, x0, x1, x2, strsOf, cm, wipeD, tl, gl, jn]
  | @call x ks as d h1 h2 hv ih =>
    intro e h hz
    rw [tsz] at hz
    obtain ⟨g, cm⟩ := comp_terms (st := stName 3) (elt := t__law_due_1 (callN T (e + 2 * d + 1))) (e0 := [some (tmD (.call x as)), some (.str [99, 97, 108, 108]), none, none]) (fun t => .str (wr t)) as (fun t ht => ⟨_, rfl, fun h => by
      obtain ⟨g, z⟩ := ih t ht (e + 1) h (by have := sz_mem ht; omega)
      rw [show e + 1 + 2 * d = e + 2 * d + 1 by omega] at z
      refine ⟨g, ?_⟩
      simp only [t__law_due_1]
      simp (disch := first | with_reducible assumption | omega | with_reducible exact size_le (by omega) | decide | (simp only [List.length_cons, List.length_nil, List.length_append]; first | omega | with_reducible exact size_le (by omega)) | exact ⟨by simp only [List.length_cons, List.length_nil]; omega, by decide⟩ | fail) [-getElem?_pos, -getElem?_neg, -Int.natCast_add, le_size, rngR_ok, mul_int, mod_int, div_int, pow_int, add_str, len_str, len_refU, idx_refU, any_refU, all_refU, in_refU, in_tupU, okTo_appU, append_U, it_refU, join_refU, add_refU, isi_refU, idx_str, slc_str, str_int, int_str, meOf, List.lookup, fldOf, putN, putR_ok, List.getElem?_cons_zero, List.getElem?_cons_succ, List.getElem?_concat_length, get_app, get_app0, en_refU, mul_refU, tupF_refU, slc_refU, z]⟩) h
    have sw : ((as.map wr).map fun y => y.length).sum ≤ 70 * tszs as := sum_wrs fun t ht => wr_len (hv t ht)
    have jl := joinL_len [44, 32] (as.map wr)
    simp only [List.length_cons, List.length_nil, List.length_map] at jl
    obtain ⟨xl, a2⟩ := kind_in h1
    have a3 := (a2 ks rfl).1
    have jn := join_terms (f := wr) (as := as) (s := [44, 32]) (h := h ++ g ++ [.lst (as.map fun t => .str (wr t))]) (by simp only [List.length_cons, List.length_nil]; omega)
    have jl1 : (TL.joinL [44, 32] (as.map wr)).length ≤ 8000000 := by omega
    generalize hJ : TL.joinL [44, 32] (as.map wr) = J at *
    refine ⟨g ++ [.lst (as.map fun t => .str (wr t))], ?_⟩
    rw [tmD, show e + 2 * (d + 1) = e + 2 * d + 1 + 1 by omega, key, wr, wrs_map, hJ]
    simp only [b__law_due]
    rw [tmD] at cm
    have tl : (tmDs as).length ≤ sizeLine := size_le (by rw [tmDs_map, List.length_map]; omega)
    have gl : (h ++ g ++ [O.lst (as.map fun t => D.str (wr t))])[(h ++ g).length]? = some (.lst (as.map fun t => .str (wr t))) := List.getElem?_concat_length
    rw [← List.append_assoc]
    generalize h ++ g = H at *
    simp (disch := first | with_reducible assumption | omega | with_reducible exact size_le (by omega) | decide | (simp only [List.length_cons, List.length_nil, List.length_append]; first | omega | with_reducible exact size_le (by omega)) | exact ⟨by simp only [List.length_cons, List.length_nil]; omega, by decide⟩ | fail) [-getElem?_pos, -getElem?_neg, -Int.natCast_add, le_size, rngR_ok, mul_int, mod_int, div_int, pow_int, add_str, len_str, len_refU, idx_refU, any_refU, all_refU, in_refU, in_tupU, okTo_appU, append_U, it_refU, join_refU, add_refU, isi_refU, idx_str, slc_str, str_int, int_str, meOf, List.lookup, fldOf, putN, putR_ok, List.getElem?_cons_zero, List.getElem?_cons_succ, List.getElem?_concat_length, get_app, get_app0, en_refU, mul_refU, tupF_refU, slc_refU, x0, x1, x2, strsOf, cm, wipeD, tl, gl, jn]
  | @minus t d v ih =>
    intro e h hz
    rw [tsz] at hz
    cases d with
    | zero => cases v
    | succ d =>
    obtain ⟨g, z⟩ := ih e (h ++ [.lst [.str [45], .str [78, 79, 84, 32]]]) (by omega)
    have z2 := c_part v (n := e + 2 * d) (l := 7) (by omega) z
    have pl := parS_len (tmS t) 7 (wr t)
    have wl := wr_len v
    have es : callN T (e + 2 * d + 3) 6 [tmD (.minus t)] h = .ok (.int 7) h := c_lstrength v.minus (e + 2 * d + 2) h
    rw [tmD] at es
    refine ⟨[.lst [.str [45], .str [78, 79, 84, 32]]] ++ g, ?_⟩
    rw [← List.append_assoc]
    generalize hH2 : h ++ [O.lst [D.str [45], .str [78, 79, 84, 32]]] ++ g = H2 at *
    rw [tmD, show e + 2 * (d + 1 + 1) = e + 2 * d + 3 + 1 by omega, key, wr]
    simp only [b__law_due]
    simp (disch := first | with_reducible assumption | omega | with_reducible exact size_le (by omega) | decide | (simp only [List.length_cons, List.length_nil, List.length_append]; first | omega | with_reducible exact size_le (by omega)) | exact ⟨by simp only [List.length_cons, List.length_nil]; omega, by decide⟩ | fail) [-getElem?_pos, -getElem?_neg, -Int.natCast_add, le_size, rngR_ok, mul_int, mod_int, div_int, pow_int, add_str, len_str, len_refU, idx_refU, any_refU, all_refU, in_refU, in_tupU, okTo_appU, append_U, it_refU, join_refU, add_refU, isi_refU, idx_str, slc_str, str_int, int_str, meOf, List.lookup, fldOf, putN, putR_ok, List.getElem?_cons_zero, List.getElem?_cons_succ, List.getElem?_concat_length, get_app, get_app0, en_refU, mul_refU, tupF_refU, slc_refU, x0, x1, strsOf, es, z2]
  | @not t d v ih =>
    intro e h hz
    rw [tsz] at hz
    cases d with
    | zero => cases v
    | succ d =>
    obtain ⟨g, z⟩ := ih e (h ++ [.lst [.str [45], .str [78, 79, 84, 32]]]) (by omega)
    have z2 := c_part v (n := e + 2 * d) (l := 3) (by omega) z
    have pl := parS_len (tmS t) 3 (wr t)
    have wl := wr_len v
    have es : callN T (e + 2 * d + 3) 6 [tmD (.not t)] h = .ok (.int 3) h := c_lstrength v.not (e + 2 * d + 2) h
    rw [tmD] at es
    refine ⟨[.lst [.str [45], .str [78, 79, 84, 32]]] ++ g, ?_⟩
    rw [← List.append_assoc]
    generalize hH2 : h ++ [O.lst [D.str [45], .str [78, 79, 84, 32]]] ++ g = H2 at *
    rw [tmD, show e + 2 * (d + 1 + 1) = e + 2 * d + 3 + 1 by omega, key, wr]
    simp only [b__law_due]
    simp (disch := first | with_reducible assumption | omega | with_reducible exact size_le (by omega) | decide | (simp only [List.length_cons, List.length_nil, List.length_append]; first | omega | with_reducible exact size_le (by omega)) | exact ⟨by simp only [List.length_cons, List.length_nil]; omega, by decide⟩ | fail) [-getElem?_pos, -getElem?_neg, -Int.natCast_add, le_size, rngR_ok, mul_int, mod_int, div_int, pow_int, add_str, len_str, len_refU, idx_refU, any_refU, all_refU, in_refU, in_tupU, okTo_appU, append_U, it_refU, join_refU, add_refU, isi_refU, idx_str, slc_str, str_int, int_str, meOf, List.lookup, fldOf, putN, putR_ok, List.getElem?_cons_zero, List.getElem?_cons_succ, List.getElem?_concat_length, get_app, get_app0, en_refU, mul_refU, tupF_refU, slc_refU, x0, x1, strsOf, es, z2]
  | @op o a b d h1 va vb i1 i2 =>
    intro e h hz
    rw [tsz] at hz
    cases d with
    | zero => cases va
    | succ d =>
    obtain ⟨k, hk⟩ := Option.isSome_iff_exists.mp h1
    have es : callN T (e + 2 * d + 3) 6 [tmD (.op o a b)] h = .ok (.int ((opStr o).getD 0)) h := c_lstrength (VT.op h1 va vb) (e + 2 * d + 2) h
    rw [tmD, hk] at es
    simp only [Option.getD_some] at es
    obtain ⟨g, z⟩ := i1 e h (by omega)
    have z1 := c_part va (n := e + 2 * d) (l := k) (by omega) z
    obtain ⟨g2, z'⟩ := i2 e (h ++ g) (by omega)
    have z2 := c_part vb (n := e + 2 * d) (l := k + 1) (by omega) z'
    have pa := parS_len (tmS a) k (wr a)
    have pb := parS_len (tmS b) (k + 1) (wr b)
    have wa := wr_len va
    have wb := wr_len vb
    have ol := op_len h1
    refine ⟨g ++ g2, ?_⟩
    rw [tmD, show e + 2 * (d + 1 + 1) = e + 2 * d + 3 + 1 by omega, key, wr, hk, ← List.append_assoc]
    simp only [b__law_due, Option.getD_some]
    generalize h ++ g ++ g2 = H2 at *
    generalize h ++ g = H at *
    simp (disch := first | with_reducible assumption | omega | with_reducible exact size_le (by omega) | decide | (simp only [List.length_cons, List.length_nil, List.length_append]; first | omega | with_reducible exact size_le (by omega)) | exact ⟨by simp only [List.length_cons, List.length_nil]; omega, by decide⟩ | fail) [-getElem?_pos, -getElem?_neg, -Int.natCast_add, le_size, rngR_ok, mul_int, mod_int, div_int, pow_int, add_str, len_str, len_refU, idx_refU, any_refU, all_refU, in_refU, in_tupU, okTo_appU, append_U, it_refU, join_refU, add_refU, isi_refU, idx_str, slc_str, str_int, int_str, meOf, List.lookup, fldOf, putN, putR_ok, List.getElem?_cons_zero, List.getElem?_cons_succ, List.getElem?_concat_length, get_app, get_app0, en_refU, mul_refU, tupF_refU, slc_refU, x0, x1, x2, x3, strsOf, es, z1, z2]
/-! ### typed -/
mutual
def ty : Tm → Tx
  | .num v => sInt v
  | .text s => 34 :: (s ++ [34])
  | .name x => x
  | .cell x as => x ++ 40 :: (TL.joinL [44, 32] (tys as) ++ [41])
  | .call x as => x ++ 40 :: (TL.joinL [44, 32] (tys as) ++ [41])
  | .minus t => 45 :: 40 :: (ty t ++ [41])
  | .not t => [78, 79, 84, 32] ++ 40 :: (ty t ++ [41])
  | .op o a b => 40 :: (ty a ++ [41, 32]) ++ (o ++ [32, 40] ++ (ty b ++ [41]))
def tys : List Tm → List Tx
  | [] => []
  | t :: r => ty t :: tys r
end
theorem tys_map : ∀ l : List Tm, tys l = l.map ty
  | [] => by rw [tys]; rfl
  | t :: r => by rw [tys, tys_map r, List.map_cons]
theorem ty_len {t : Tm} {d : Nat} (v : VT t d) : (ty t).length ≤ 70 * tsz t := by
  induction v with
  | num h1 h2 => rw [ty, tsz]; have := sInt_len h1 h2; omega
  | text h1 h2 => rw [ty, tsz, List.length_cons, List.length_append, List.length_singleton]; omega
  | name h1 => rw [ty, tsz]; have := h1.len; omega
  | @cell x as d h1 h2 _ ih =>
    rw [ty, tsz, tys_map]
    have a := h1.len
    have b := joinL_len [44, 32] (as.map ty)
    have c := sum_wrs ih
    simp only [List.length_append, List.length_cons, List.length_nil, List.length_map] at b ⊢
    omega
  | @call x ks as d h1 h2 _ ih =>
    rw [ty, tsz, tys_map]
    obtain ⟨a, a2⟩ := kind_in h1
    have a3 := (a2 ks rfl).1
    have b := joinL_len [44, 32] (as.map ty)
    have c := sum_wrs ih
    simp only [List.length_append, List.length_cons, List.length_nil, List.length_map] at b ⊢
    omega
  | @minus t d _ ih => rw [ty, tsz]; simp only [List.length_append, List.length_cons, List.length_nil]; omega
  | @not t d _ ih => rw [ty, tsz]; simp only [List.length_append, List.length_cons, List.length_nil]; omega
  | @op o a b d h1 _ _ i1 i2 =>
    rw [ty, tsz]
    have := op_len h1
    simp only [List.length_append, List.length_cons, List.length_nil]
    omega
theorem typed_ok {t : Tm} {d : Nat} (v : VT t d) : ∀ (e : Nat) (h : DH), tsz t ≤ 100000 → ∃ g, callN T (e + d) 9 [tmD t] h = .ok (.str (ty t)) (h ++ g) := by
  have key : ∀ (k : Nat) (ds : List D) (h : DH), callN T (k + 1) 9 [.tup ds] h = finO (b__law_typed (callN T k) [some (.tup ds), none, none, none] h) := fun k ds h => call_eq (fn := q9.fn) rfl rfl
  induction v with
  | @num v d h1 h2 =>
    intro e h _
    refine ⟨[], ?_⟩
    rw [List.append_nil, tmD, show e + (d + 1) = e + d + 1 by omega, key]
    simp only [b__law_typed]
    have lg := int_log h1 h2
    simp (disch := first | with_reducible assumption | omega | with_reducible exact size_le (by omega) | decide | (simp only [List.length_cons, List.length_nil, List.length_append]; first | omega | with_reducible exact size_le (by omega)) | exact ⟨by simp only [List.length_cons, List.length_nil]; omega, by decide⟩ | fail) [-getElem?_pos, -getElem?_neg, -Int.natCast_add, le_size, rngR_ok, mul_int, mod_int, div_int, pow_int, add_str, len_str, len_refU, idx_refU, any_refU, all_refU, in_refU, in_tupU, okTo_appU, append_U, it_refU, join_refU, add_refU, isi_refU, idx_str, slc_str, str_int, int_str, meOf, List.lookup, fldOf, putN, putR_ok, List.getElem?_cons_zero, List.getElem?_cons_succ, List.getElem?_concat_length, get_app, get_app0, en_refU, mul_refU, tupF_refU, slc_refU, x0, x1, lg, ty, strsOf]
  | @text x d h1 h2 =>
    intro e h _
    refine ⟨[], ?_⟩
    rw [List.append_nil, tmD, show e + (d + 1) = e + d + 1 by omega, key]
    simp only [b__law_typed]
    simp (disch := first | with_reducible assumption | omega | with_reducible exact size_le (by omega) | decide | (simp only [List.length_cons, List.length_nil, List.length_append]; first | omega | with_reducible exact size_le (by omega)) | exact ⟨by simp only [List.length_cons, List.length_nil]; omega, by decide⟩ | fail) [-getElem?_pos, -getElem?_neg, -Int.natCast_add, le_size, rngR_ok, mul_int, mod_int, div_int, pow_int, add_str, len_str, len_refU, idx_refU, any_refU, all_refU, in_refU, in_tupU, okTo_appU, append_U, it_refU, join_refU, add_refU, isi_refU, idx_str, slc_str, str_int, int_str, meOf, List.lookup, fldOf, putN, putR_ok, List.getElem?_cons_zero, List.getElem?_cons_succ, List.getElem?_concat_length, get_app, get_app0, en_refU, mul_refU, tupF_refU, slc_refU, x0, x1, ty, strsOf]
  | @name x d h1 =>
    intro e h _
    refine ⟨[], ?_⟩
    rw [List.append_nil, tmD, show e + (d + 1) = e + d + 1 by omega, key]
    simp only [b__law_typed]
    simp (disch := first | with_reducible assumption | omega | with_reducible exact size_le (by omega) | decide | (simp only [List.length_cons, List.length_nil, List.length_append]; first | omega | with_reducible exact size_le (by omega)) | exact ⟨by simp only [List.length_cons, List.length_nil]; omega, by decide⟩ | fail) [-getElem?_pos, -getElem?_neg, -Int.natCast_add, le_size, rngR_ok, mul_int, mod_int, div_int, pow_int, add_str, len_str, len_refU, idx_refU, any_refU, all_refU, in_refU, in_tupU, okTo_appU, append_U, it_refU, join_refU, add_refU, isi_refU, idx_str, slc_str, str_int, int_str, meOf, List.lookup, fldOf, putN, putR_ok, List.getElem?_cons_zero, List.getElem?_cons_succ, List.getElem?_concat_length, get_app, get_app0, en_refU, mul_refU, tupF_refU, slc_refU, x0, x1, ty, strsOf]
  | @cell x as d h1 h2 hv ih =>
    intro e h hz
    rw [tsz] at hz
    obtain ⟨g, cm⟩ := comp_terms (st := stName 3) (elt := t__law_typed_1 (callN T (e + d))) (e0 := [some (tmD (.cell x as)), some (.str [99, 101, 108, 108]), none, none]) (fun t => .str (ty t)) as (fun t ht => ⟨_, rfl, fun h => by
      obtain ⟨g, z⟩ := ih t ht e h (by have := sz_mem ht; omega)
      refine ⟨g, ?_⟩
      simp only [t__law_typed_1]
      simp (disch := first | with_reducible assumption | omega | with_reducible exact size_le (by omega) | decide | (simp only [List.length_cons, List.length_nil, List.length_append]; first | omega | with_reducible exact size_le (by omega)) | exact ⟨by simp only [List.length_cons, List.length_nil]; omega, by decide⟩ | fail) [-getElem?_pos, -getElem?_neg, -Int.natCast_add, le_size, rngR_ok, mul_int, mod_int, div_int, pow_int, add_str, len_str, len_refU, idx_refU, any_refU, all_refU, in_refU, in_tupU, okTo_appU, append_U, it_refU, join_refU, add_refU, isi_refU, idx_str, slc_str, str_int, int_str, meOf, List.lookup, fldOf, putN, putR_ok, List.getElem?_cons_zero, List.getElem?_cons_succ, List.getElem?_concat_length, get_app, get_app0, en_refU, mul_refU, tupF_refU, slc_refU, z]⟩) h
    have sw : ((as.map ty).map fun y => y.length).sum ≤ 70 * tszs as := sum_wrs fun t ht => ty_len (hv t ht)
    have jl := joinL_len [44, 32] (as.map ty)
    simp only [List.length_cons, List.length_nil, List.length_map] at jl
    have xl := h1.len
    have jn := join_terms (f := ty) (as := as) (s := [44, 32]) (h := h ++ g ++ [.lst (as.map fun t => .str (ty t))]) (by simp only [List.length_cons, List.length_nil]; omega)
    have jl1 : (TL.joinL [44, 32] (as.map ty)).length ≤ 8000000 := by omega
    generalize hJ : TL.joinL [44, 32] (as.map ty) = J at *
    refine ⟨g ++ [.lst (as.map fun t => .str (ty t))], ?_⟩
    rw [tmD, show e + (d + 1) = e + d + 1 by omega, key, ty, tys_map, hJ]
    simp only [b__law_typed]
    rw [tmD] at cm
    have tl : (tmDs as).length ≤ sizeLine := size_le (by rw [tmDs_map, List.length_map]; omega)
    have gl : (h ++ g ++ [O.lst (as.map fun t => D.str (ty t))])[(h ++ g).length]? = some (.lst (as.map fun t => .str (ty t))) := List.getElem?_concat_length
    rw [← List.append_assoc]
    generalize h ++ g = H at *
    simp (disch := first | with_reducible assumption | omega | with_reducible exact size_le (by omega) | decide | (simp only [List.length_cons, List.length_nil, List.length_append]; first | omega | with_reducible exact size_le (by omega)) | exact ⟨by simp only [List.length_cons, List.length_nil]; omega, by decide⟩ | fail) [-getElem?_pos, -getElem?_neg, -Int.natCast_add, le_size, rngR_ok, mul_int, mod_int, div_int, pow_int, add_str, len_str, len_refU, idx_refU, any_refU, all_refU, in_refU, in_tupU, okTo_appU, append_U, it_refU, join_refU, add_refU, isi_refU, idx_str, slc_str, str_int, int_str, meOf, List.lookup, fldOf, putN, putR_ok, List.getElem?_cons_zero, List.getElem?_cons_succ, List.getElem?_concat_length, get_app, get_app0, en_refU, mul_refU, tupF_refU, slc_refU, x0, x1, x2, strsOf, cm, wipeD, tl, gl, jn]
  | @call x ks as d h1 h2 hv ih =>
    intro e h hz
    rw [tsz] at hz
    obtain ⟨g, cm⟩ := comp_terms (st := stName 3) (elt := t__law_typed_1 (callN T (e + d))) (e0 := [some (tmD (.call x as)), some (.str [99, 97, 108, 108]), none, none]) (fun t => .str (ty t)) as (fun t ht => ⟨_, rfl, fun h => by
      obtain ⟨g, z⟩ := ih t ht e h (by have := sz_mem ht; omega)
      refine ⟨g, ?_⟩
      simp only [t__law_typed_1]
      simp (disch := first | with_reducible assumption | omega | with_reducible exact size_le (by omega) | decide | (simp only [List.length_cons, List.length_nil, List.length_append]; first | omega | with_reducible exact size_le (by omega)) | exact ⟨by simp only [List.length_cons, List.length_nil]; omega, by decide⟩ | fail) [-getElem?_pos, -getElem?_neg, -Int.natCast_add, le_size, rngR_ok, mul_int, mod_int, div_int, pow_int, add_str, len_str, len_refU, idx_refU, any_refU, all_refU, in_refU, in_tupU, okTo_appU, append_U, it_refU, join_refU, add_refU, isi_refU, idx_str, slc_str, str_int, int_str, meOf, List.lookup, fldOf, putN, putR_ok, List.getElem?_cons_zero, List.getElem?_cons_succ, List.getElem?_concat_length, get_app, get_app0, en_refU, mul_refU, tupF_refU, slc_refU, z]⟩) h
    have sw : ((as.map ty).map fun y => y.length).sum ≤ 70 * tszs as := sum_wrs fun t ht => ty_len (hv t ht)
    have jl := joinL_len [44, 32] (as.map ty)
    simp only [List.length_cons, List.length_nil, List.length_map] at jl
    obtain ⟨xl, a2⟩ := kind_in h1
    have a3 := (a2 ks rfl).1
    have jn := join_terms (f := ty) (as := as) (s := [44, 32]) (h := h ++ g ++ [.lst (as.map fun t => .str (ty t))]) (by simp only [List.length_cons, List.length_nil]; omega)
    have jl1 : (TL.joinL [44, 32] (as.map ty)).length ≤ 8000000 := by omega
    generalize hJ : TL.joinL [44, 32] (as.map ty) = J at *
    refine ⟨g ++ [.lst (as.map fun t => .str (ty t))], ?_⟩
    rw [tmD, show e + (d + 1) = e + d + 1 by omega, key, ty, tys_map, hJ]
    simp only [b__law_typed]
    rw [tmD] at cm
    have tl : (tmDs as).length ≤ sizeLine := size_le (by rw [tmDs_map, List.length_map]; omega)
    have gl : (h ++ g ++ [O.lst (as.map fun t => D.str (ty t))])[(h ++ g).length]? = some (.lst (as.map fun t => .str (ty t))) := List.getElem?_concat_length
    rw [← List.append_assoc]
    generalize h ++ g = H at *
    simp (disch := first | with_reducible assumption | omega | with_reducible exact size_le (by omega) | decide | (simp only [List.length_cons, List.length_nil, List.length_append]; first | omega | with_reducible exact size_le (by omega)) | exact ⟨by simp only [List.length_cons, List.length_nil]; omega, by decide⟩ | fail) [-getElem?_pos, -getElem?_neg, -Int.natCast_add, le_size, rngR_ok, mul_int, mod_int, div_int, pow_int, add_str, len_str, len_refU, idx_refU, any_refU, all_refU, in_refU, in_tupU, okTo_appU, append_U, it_refU, join_refU, add_refU, isi_refU, idx_str, slc_str, str_int, int_str, meOf, List.lookup, fldOf, putN, putR_ok, List.getElem?_cons_zero, List.getElem?_cons_succ, List.getElem?_concat_length, get_app, get_app0, en_refU, mul_refU, tupF_refU, slc_refU, x0, x1, x2, strsOf, cm, wipeD, tl, gl, jn]
  | @minus t d v ih =>
    intro e h hz
    rw [tsz] at hz
    obtain ⟨g, z⟩ := ih e (h ++ [.lst [.str [45], .str [78, 79, 84, 32]]]) (by omega)
    have wl := ty_len v
    refine ⟨[.lst [.str [45], .str [78, 79, 84, 32]]] ++ g, ?_⟩
    rw [tmD, show e + (d + 1) = e + d + 1 by omega, key, ty, ← List.append_assoc]
    simp only [b__law_typed]
    generalize hH2 : h ++ [O.lst [D.str [45], .str [78, 79, 84, 32]]] ++ g = H2 at *
    simp (disch := first | with_reducible assumption | omega | with_reducible exact size_le (by omega) | decide | (simp only [List.length_cons, List.length_nil, List.length_append]; first | omega | with_reducible exact size_le (by omega)) | exact ⟨by simp only [List.length_cons, List.length_nil]; omega, by decide⟩ | fail) [-getElem?_pos, -getElem?_neg, -Int.natCast_add, le_size, rngR_ok, mul_int, mod_int, div_int, pow_int, add_str, len_str, len_refU, idx_refU, any_refU, all_refU, in_refU, in_tupU, okTo_appU, append_U, it_refU, join_refU, add_refU, isi_refU, idx_str, slc_str, str_int, int_str, meOf, List.lookup, fldOf, putN, putR_ok, List.getElem?_cons_zero, List.getElem?_cons_succ, List.getElem?_concat_length, get_app, get_app0, en_refU, mul_refU, tupF_refU, slc_refU, x0, x1, strsOf, z]
  | @not t d v ih =>
    intro e h hz
    rw [tsz] at hz
    obtain ⟨g, z⟩ := ih e (h ++ [.lst [.str [45], .str [78, 79, 84, 32]]]) (by omega)
    have wl := ty_len v
    refine ⟨[.lst [.str [45], .str [78, 79, 84, 32]]] ++ g, ?_⟩
    rw [tmD, show e + (d + 1) = e + d + 1 by omega, key, ty, ← List.append_assoc]
    simp only [b__law_typed]
    generalize hH2 : h ++ [O.lst [D.str [45], .str [78, 79, 84, 32]]] ++ g = H2 at *
    simp (disch := first | with_reducible assumption | omega | with_reducible exact size_le (by omega) | decide | (simp only [List.length_cons, List.length_nil, List.length_append]; first | omega | with_reducible exact size_le (by omega)) | exact ⟨by simp only [List.length_cons, List.length_nil]; omega, by decide⟩ | fail) [-getElem?_pos, -getElem?_neg, -Int.natCast_add, le_size, rngR_ok, mul_int, mod_int, div_int, pow_int, add_str, len_str, len_refU, idx_refU, any_refU, all_refU, in_refU, in_tupU, okTo_appU, append_U, it_refU, join_refU, add_refU, isi_refU, idx_str, slc_str, str_int, int_str, meOf, List.lookup, fldOf, putN, putR_ok, List.getElem?_cons_zero, List.getElem?_cons_succ, List.getElem?_concat_length, get_app, get_app0, en_refU, mul_refU, tupF_refU, slc_refU, x0, x1, strsOf, z]
  | @op o a b d h1 va vb i1 i2 =>
    intro e h hz
    rw [tsz] at hz
    obtain ⟨g, z1⟩ := i1 e h (by omega)
    obtain ⟨g2, z2⟩ := i2 e (h ++ g) (by omega)
    have wa := ty_len va
    have wb := ty_len vb
    have ol := op_len h1
    refine ⟨g ++ g2, ?_⟩
    rw [tmD, show e + (d + 1) = e + d + 1 by omega, key, ty, show h ++ (g ++ g2) = h ++ g ++ g2 by rw [List.append_assoc]]
    simp only [b__law_typed]
    generalize h ++ g ++ g2 = H2 at *
    generalize h ++ g = H at *
    simp (disch := first | with_reducible assumption | omega | with_reducible exact size_le (by omega) | decide | (simp only [List.length_cons, List.length_nil, List.length_append]; first | omega | with_reducible exact size_le (by omega)) | exact ⟨by simp only [List.length_cons, List.length_nil]; omega, by decide⟩ | fail) [-getElem?_pos, -getElem?_neg, -Int.natCast_add, le_size, rngR_ok, mul_int, mod_int, div_int, pow_int, add_str, len_str, len_refU, idx_refU, any_refU, all_refU, in_refU, in_tupU, okTo_appU, append_U, it_refU, join_refU, add_refU, isi_refU, idx_str, slc_str, str_int, int_str, meOf, List.lookup, fldOf, putN, putR_ok, List.getElem?_cons_zero, List.getElem?_cons_succ, List.getElem?_concat_length, get_app, get_app0, en_refU, mul_refU, tupF_refU, slc_refU, x0, x1, x2, x3, strsOf, z1, z2]
end K20

namespace K20
open PySem L2 Mp
/-! ### how terms stand in tokens -/
def commas : List (List Tok) → List Tok
  | [] => []
  | [a] => a
  | a :: b :: r => a ++ .mark [44] :: commas (b :: r)
/-- tokens that are read as a term, bound so strong -/
inductive Wt : Tm → Int → List Tok → Nat → Nat → Prop
  | low {t : Tm} {s s' : Int} {ts : List Tok} {n m : Nat} : s' ≤ s → Wt t s ts n m → Wt t s' ts n m
  | num {v : Int} {n m : Nat} : Wt (.num v) 8 [.num v] n m
  | text {x : Tx} {n m : Nat} : x.length ≤ 60 → Wt (.text x) 8 [.text x] n m
  | name {x : Tx} {n m : Nat} : k_KINDS.lookup x = none → Wt (.name x) 8 [.name x] n m
  | cell {x : Tx} {ps : List (Tm × List Tok)} {n m : Nat} : k_KINDS.lookup x = none → (ps.length = 1 ∨ ps.length = 2) → (∀ p ∈ ps, Wt p.1 1 p.2 n m) → Wt (.cell x (ps.map (·.1))) 8 (.name x :: .mark [40] :: (commas (ps.map (·.2)) ++ [.mark [41]])) (n + 1) (m + 4)
  | call {x ks : Tx} {ps : List (Tm × List Tok)} {n m : Nat} : k_KINDS.lookup x = some (.str ks) → ps.length = ks.length → ps ≠ [] → ps.length ≤ 1000 → (∀ p ∈ ps, Wt p.1 1 p.2 n m) → Wt (.call x (ps.map (·.1))) 8 (.name x :: .mark [40] :: (commas (ps.map (·.2)) ++ [.mark [41]])) (n + 1) (m + 4)
  | minus {t : Tm} {ts : List Tok} {n m : Nat} : Wt t 7 ts n m → Wt (.minus t) 7 (.mark [45] :: ts) (n + 1) (m + 2)
  | not {t : Tm} {ts : List Tok} {n m : Nat} : Wt t 3 ts n m → Wt (.not t) 3 (.word NOTW :: ts) (n + 1) (m + 2)
  | op {o : Tx} {k : Int} {u : Tok} {a b : Tm} {ts us : List Tok} {n m : Nat} : opStr o = some k → opOf [u] = some o → Wt a k ts (n + 1) (m + 1) → Wt b (k + 1) us n m → Wt (.op o a b) k (ts ++ u :: us) (n + 1) (m + 1)
  | par {t : Tm} {ts : List Tok} {n m : Nat} : Wt t 1 ts n m → Wt t 8 (.mark [40] :: (ts ++ [.mark [41]])) n (m + 2)
theorem Wt.mono {t : Tm} {s : Int} {ts : List Tok} {n m : Nat} (w : Wt t s ts n m) : ∀ {n' m' : Nat}, n ≤ n' → m ≤ m' → Wt t s ts n' m' := by
  induction w with
  | low h _ ih => exact fun h1 h2 => .low h (ih h1 h2)
  | num => exact fun _ _ => .num
  | text h => exact fun _ _ => .text h
  | name h => exact fun _ _ => .name h
  | cell h1 h2 _ ih =>
    intro n' m' h3 h4
    obtain ⟨n', rfl⟩ : ∃ x, n' = x + 1 := ⟨n' - 1, by omega⟩
    obtain ⟨m', rfl⟩ : ∃ x, m' = x + 4 := ⟨m' - 4, by omega⟩
    exact .cell h1 h2 fun p hp => ih p hp (by omega) (by omega)
  | call h1 h2 h5 h6 _ ih =>
    intro n' m' h3 h4
    obtain ⟨n', rfl⟩ : ∃ x, n' = x + 1 := ⟨n' - 1, by omega⟩
    obtain ⟨m', rfl⟩ : ∃ x, m' = x + 4 := ⟨m' - 4, by omega⟩
    exact .call h1 h2 h5 h6 fun p hp => ih p hp (by omega) (by omega)
  | minus _ ih =>
    intro n' m' h3 h4
    obtain ⟨n', rfl⟩ : ∃ x, n' = x + 1 := ⟨n' - 1, by omega⟩
    obtain ⟨m', rfl⟩ : ∃ x, m' = x + 2 := ⟨m' - 2, by omega⟩
    exact .minus (ih (by omega) (by omega))
  | not _ ih =>
    intro n' m' h3 h4
    obtain ⟨n', rfl⟩ : ∃ x, n' = x + 1 := ⟨n' - 1, by omega⟩
    obtain ⟨m', rfl⟩ : ∃ x, m' = x + 2 := ⟨m' - 2, by omega⟩
    exact .not (ih (by omega) (by omega))
  | op h1 h2 _ _ i1 i2 =>
    intro n' m' h3 h4
    obtain ⟨n', rfl⟩ : ∃ x, n' = x + 1 := ⟨n' - 1, by omega⟩
    obtain ⟨m', rfl⟩ : ∃ x, m' = x + 1 := ⟨m' - 1, by omega⟩
    exact .op h1 h2 (i1 h3 h4) (i2 (by omega) (by omega))
  | par _ ih =>
    intro n' m' h3 h4
    obtain ⟨m', rfl⟩ : ∃ x, m' = x + 2 := ⟨m' - 2, by omega⟩
    exact .par (ih h3 (by omega))
structure Fol (s : Int) (r : List Tok) : Prop where
  hd : r.head? ≠ some (.mark [40])
  op : ∀ o k, opOf r = some o → opStr o = some k → k ≤ s
theorem opk {o : Tx} {k : Int} (h : opStr o = some k) : 1 ≤ k ∧ k ≤ 6 ∧ k ≠ 3 := by
  obtain ⟨_, z⟩ := str_mem h
  omega
theorem fol_none {s : Int} {r : List Tok} (h : r.head? ≠ some (.mark [40])) (h2 : opOf r = none) : Fol s r := ⟨h, fun o k e => by rw [h2] at e; cases e⟩
theorem Fol.low {s s' : Int} {r : List Tok} (f : Fol s r) (h : s ≤ s') : Fol s' r := ⟨f.hd, fun o k e1 e2 => by have := f.op o k e1 e2; omega⟩
theorem op_cons {u : Tok} {r : List Tok} : opOf (u :: r) = opOf [u] := by cases u <;> rfl
theorem commas_cons (a : List Tok) : ∀ r : List (List Tok), commas (a :: r) = a ++ r.flatMap fun q => .mark [44] :: q
  | [] => by simp [commas]
  | b :: r => by rw [commas, commas_cons b r, List.flatMap_cons, List.cons_append]
theorem rk_args {ps : List (Tm × List Tok)} {n m : Nat} {rest : List Tok} (hn : ps ≠ []) (hl : ps.length ≤ 1000) (ih : ∀ p ∈ ps, ∀ X : List Tok, Fol 1 X → Rk (.loop 1 p.1) X X [p.1] n m → Rk (.term 1) (p.2 ++ X) X [p.1] n m) : Rk .pl (commas (ps.map (·.2)) ++ .mark [41] :: rest) rest (ps.map (·.1)) (n + 1) m := by
  have fo : ∀ X : List Tok, (X.head? = some (.mark [44]) ∨ X.head? = some (.mark [41])) → Fol 1 X ∧ ∀ t, Rk (.loop 1 t) X X [t] n m := fun X hX => by
    have e : opOf X = none := by
      cases X with
      | nil => rfl
      | cons u X =>
        rw [op_cons]
        simp only [List.head?_cons, Option.some.injEq] at hX
        rcases hX with rfl | rfl <;> decide
    refine ⟨fol_none (by rcases hX with q | q <;> rw [q] <;> decide) e, fun t => .stop fun s k q => by rw [e] at q; cases q⟩
  have mo : ∀ (qs : List (Tm × List Tok)) (acc : List Tm), (∀ p ∈ qs, p ∈ ps) → acc.length + qs.length ≤ 1000 → Rk (.mo acc) (((qs.map (·.2)).flatMap fun q => .mark [44] :: q) ++ .mark [41] :: rest) rest (acc ++ qs.map (·.1)) (n + 1) m := by
    intro qs
    induction qs with
    | nil => intro acc _ _; simp only [List.map_nil, List.append_nil, List.flatMap_nil, List.nil_append]; exact .moe
    | cons p qs ihq =>
      intro acc hm hl2
      rw [List.length_cons] at hl2
      have z := ihq (acc ++ [p.1]) (fun q hq => hm q (List.mem_cons_of_mem _ hq)) (by rw [List.length_append, List.length_singleton]; omega)
      rw [List.append_assoc] at z
      have hh : ((((qs.map (·.2)).flatMap fun q => Tok.mark [44] :: q) ++ .mark [41] :: rest).head? = some (.mark [44]) ∨ (((qs.map (·.2)).flatMap fun q => Tok.mark [44] :: q) ++ .mark [41] :: rest).head? = some (.mark [41])) := by
        cases qs with
        | nil => exact .inr rfl
        | cons q r => exact .inl rfl
      obtain ⟨f1, f2⟩ := fo _ hh
      have y := ih p (hm p List.mem_cons_self) _ f1 (f2 p.1)
      rw [List.map_cons, List.flatMap_cons, List.cons_append, List.cons_append, List.append_assoc]
      exact .moc (by omega) y z
  obtain ⟨p, qs, rfl⟩ := List.exists_cons_of_ne_nil hn
  rw [List.length_cons] at hl
  have hh : ((((qs.map (·.2)).flatMap fun q => Tok.mark [44] :: q) ++ .mark [41] :: rest).head? = some (.mark [44]) ∨ (((qs.map (·.2)).flatMap fun q => Tok.mark [44] :: q) ++ .mark [41] :: rest).head? = some (.mark [41])) := by
    cases qs with
    | nil => exact .inr rfl
    | cons q r => exact .inl rfl
  obtain ⟨f1, f2⟩ := fo _ hh
  have y := ih p List.mem_cons_self _ f1 (f2 p.1)
  rw [List.map_cons, commas_cons, List.append_assoc]
  exact .pl y (mo qs [p.1] (fun q hq => List.mem_cons_of_mem _ hq) (by rw [List.length_singleton]; omega))
theorem wt_rk {t : Tm} {s : Int} {ts : List Tok} {n m : Nat} (w : Wt t s ts n m) : ∀ (l : Int) (rest c : List Tok) (t' : Tm), l ≤ s → Fol s rest → Rk (.loop l t) rest c [t'] n m → Rk (.term l) (ts ++ rest) c [t'] n m := by
  induction w with
  | low h _ ih => exact fun l rest c t' h1 f r => ih l rest c t' (by omega) (f.low h) r
  | num => exact fun l rest c t' _ _ r => .term .fnum r
  | text h => exact fun l rest c t' _ _ r => .term (.ftext h) r
  | name h => exact fun l rest c t' _ f r => .term (.fname h f.hd) r
  | @cell x ps n m h1 h2 _ ih =>
    intro l rest c t' _ f r
    have hn : ps ≠ [] := fun z => by rw [z] at h2; simp at h2
    have z := rk_args (rest := rest) hn (by omega) fun p hp X fX rX => ih p hp 1 X X p.1 (Int.le_refl _) fX rX
    rw [List.cons_append, List.cons_append, List.append_assoc]
    exact .term (.fcell h1 z (by rw [List.length_map]; exact h2)) r
  | @call x ks ps n m h1 h2 hn h6 _ ih =>
    intro l rest c t' _ f r
    have z := rk_args (rest := rest) hn h6 fun p hp X fX rX => ih p hp 1 X X p.1 (Int.le_refl _) fX rX
    rw [List.cons_append, List.cons_append, List.append_assoc]
    exact .term (.fcall h1 z (by rw [List.length_map]; exact h2)) r
  | @minus t ts n m _ ih =>
    intro l rest c t' _ f r
    have z := ih 7 rest rest t (Int.le_refl _) f (.stop fun s k e1 e2 => by have := (opk e2).2.1; omega)
    rw [List.cons_append]
    exact .term (.fmin z) r
  | @not t ts n m _ ih =>
    intro l rest c t' hl f r
    have z := ih 3 rest rest t (Int.le_refl _) f (.stop fun s k e1 e2 => by have := f.op s k e1 e2; have := (opk e2).2.2; omega)
    rw [List.cons_append]
    exact .term (.fnot hl z) r
  | @op o k u a b ts us n m h1 h2 _ _ i1 i2 =>
    intro l rest c t' hl f r
    have z2 := i2 (k + 1) rest rest b (Int.le_refl _) (f.low (by omega)) (.stop fun s k' e1 e2 => by have := f.op s k' e1 e2; omega)
    rw [List.append_assoc, List.cons_append]
    refine i1 l (u :: (us ++ rest)) c t' hl ⟨fun z => ?_, fun o' k' e1 e2 => ?_⟩ (.lop h2 h1 hl z2 r)
    · simp only [List.head?_cons, Option.some.injEq] at z
      subst z
      have e : opOf [.mark [40]] = none := by decide
      rw [e] at h2
      cases h2
    · rw [op_cons, h2] at e1
      cases e1
      rw [h1] at e2
      cases e2
      omega
  | @par t ts n m _ ih =>
    intro l rest c t' _ f r
    have e : opOf (.mark [41] :: rest) = none := by rw [op_cons]; decide
    have z := ih 1 (.mark [41] :: rest) (.mark [41] :: rest) t (Int.le_refl _) (fol_none (by simp) e) (.stop fun s k q => by rw [e] at q; cases q)
    rw [List.cons_append, List.append_assoc]
    exact .term (.fpar z) r
theorem wt_read {t : Tm} {s : Int} {ts : List Tok} {n m : Nat} (w : Wt t s ts n m) (h : 1 ≤ s) : Rk (.term 1) ts [] [t] n m := by
  have z := wt_rk w 1 [] [] t h (fol_none (fun z => nomatch z) rfl) (.stop fun s k q => nomatch q)
  rw [List.append_nil] at z
  exact z
/-! ### the tokens of a written term -/
def OpW : List Tx := [[79, 82], [65, 78, 68], [68, 73, 86], [77, 79, 68]]
def opT (o : Tx) : Tok := if o ∈ OpW then .word o else .mark o
theorem opT_of {o : Tx} {k : Int} (h : opStr o = some k) : opOf [opT o] = some o := by
  have hs : (opStr o).isSome = true := by rw [h]; rfl
  unfold opT
  split <;> simp only [opOf, hs, if_true]
def parT (s l : Int) (ts : List Tok) : List Tok := if s < l then .mark [40] :: (ts ++ [.mark [41]]) else ts
mutual
def tk : Tm → List Tok
  | .num v => [.num v]
  | .text s => [.text s]
  | .name x => [.name x]
  | .cell x as => .name x :: .mark [40] :: (commas (tks as) ++ [.mark [41]])
  | .call x as => .name x :: .mark [40] :: (commas (tks as) ++ [.mark [41]])
  | .minus t => .mark [45] :: parT (tmS t) 7 (tk t)
  | .not t => .word NOTW :: parT (tmS t) 3 (tk t)
  | .op o a b => parT (tmS a) ((opStr o).getD 0) (tk a) ++ opT o :: parT (tmS b) ((opStr o).getD 0 + 1) (tk b)
def tks : List Tm → List (List Tok)
  | [] => []
  | t :: r => tk t :: tks r
end
theorem tks_map : ∀ l : List Tm, tks l = l.map tk
  | [] => by rw [tks]; rfl
  | t :: r => by rw [tks, tks_map r, List.map_cons]
theorem tmS_pos {t : Tm} {d : Nat} (v : VT t d) : 1 ≤ tmS t := by
  cases v with
  | @op o a b d h1 _ _ =>
    obtain ⟨k, hk⟩ := Option.isSome_iff_exists.mp h1
    rw [tmS, hk]
    exact (opk hk).1
  | _ => simp [tmS]
theorem wt_par {t : Tm} {s l : Int} {ts : List Tok} {n m : Nat} (hs : 1 ≤ s) (hl : l ≤ 8) (w : Wt t s ts n m) : Wt t l (parT s l ts) n (m + 2) := by
  unfold parT
  split
  · exact .low hl (.par (.low hs w))
  · exact .low (by omega) (w.mono (Nat.le_refl _) (by omega))
theorem tk_wt {t : Tm} {d : Nat} (v : VT t d) : Wt t (tmS t) (tk t) (d - 1) (4 * (d - 1)) := by
  induction v with
  | num h1 h2 => rw [tk]; exact .num
  | text h1 h2 => rw [tk]; exact .text h1
  | name h1 => rw [tk]; exact .name h1.nk
  | @cell x as d h1 h2 hv ih =>
    rw [tk, tks_map]
    have e1 : (as.map fun t => (t, tk t)).map (·.1) = as := by rw [List.map_map]; exact List.map_id _
    have e2 : (as.map fun t => (t, tk t)).map (·.2) = as.map tk := by rw [List.map_map]; rfl
    cases d with
    | zero =>
      cases as with
      | nil => simp at h2
      | cons a as => cases hv a List.mem_cons_self
    | succ d =>
      have z := Wt.cell (x := x) (ps := as.map fun t => (t, tk t)) (n := d) (m := 4 * d) h1.nk (by rw [List.length_map]; exact h2) fun p hp => by
        obtain ⟨t, ht, rfl⟩ := List.mem_map.mp hp
        exact .low (tmS_pos (hv t ht)) (ih t ht)
      rw [e1, e2] at z
      exact z
  | @call x ks as d h1 h2 hv ih =>
    rw [tk, tks_map]
    have e1 : (as.map fun t => (t, tk t)).map (·.1) = as := by rw [List.map_map]; exact List.map_id _
    have e2 : (as.map fun t => (t, tk t)).map (·.2) = as.map tk := by rw [List.map_map]; rfl
    obtain ⟨_, a2⟩ := kind_in h1
    obtain ⟨a3, a4⟩ := a2 ks rfl
    cases d with
    | zero =>
      cases as with
      | nil => rw [← h2] at a4; simp at a4
      | cons a as => cases hv a List.mem_cons_self
    | succ d =>
      have z := Wt.call (x := x) (ks := ks) (ps := as.map fun t => (t, tk t)) (n := d) (m := 4 * d) h1 (by rw [List.length_map]; exact h2) (fun z => by rw [List.map_eq_nil_iff] at z; rw [z] at h2; rw [← h2] at a4; simp at a4) (by rw [List.length_map]; omega) fun p hp => by
        obtain ⟨t, ht, rfl⟩ := List.mem_map.mp hp
        exact .low (tmS_pos (hv t ht)) (ih t ht)
      rw [e1, e2] at z
      exact z
  | @minus t d v ih =>
    cases d with
    | zero => cases v
    | succ d =>
      rw [tk]
      exact (Wt.minus (wt_par (tmS_pos v) (by decide) ih)).mono (by omega) (by omega)
  | @not t d v ih =>
    cases d with
    | zero => cases v
    | succ d =>
      rw [tk]
      exact (Wt.not (wt_par (tmS_pos v) (by decide) ih)).mono (by omega) (by omega)
  | @op o a b d h1 va vb i1 i2 =>
    cases d with
    | zero => cases va
    | succ d =>
      obtain ⟨k, hk⟩ := Option.isSome_iff_exists.mp h1
      have kb := (opk hk).2.1
      rw [tk, tmS, hk]
      simp only [Option.getD_some]
      exact (Wt.op hk (opT_of hk) ((wt_par (tmS_pos va) (by omega) i1).mono (by omega) (by omega)) (wt_par (tmS_pos vb) (by omega) i2)).mono (by omega) (by omega)
theorem wt_pars {t : Tm} {ts : List Tok} {n m : Nat} : ∀ (k : Nat), Wt t 1 ts n m → Wt t 1 (List.replicate k (.mark [40]) ++ (ts ++ List.replicate k (.mark [41]))) n (m + 2 * k)
  | 0, w => by rw [List.replicate_zero, List.replicate_zero, List.append_nil, List.nil_append]; exact w
  | k + 1, w => by
    have z := wt_pars k w
    have y := Wt.low (s' := 1) (by decide) (Wt.par z)
    have e : Tok.mark [40] :: (List.replicate k (.mark [40]) ++ (ts ++ List.replicate k (.mark [41])) ++ [.mark [41]]) = List.replicate (k + 1) (.mark [40]) ++ (ts ++ List.replicate (k + 1) (.mark [41])) := by
      rw [List.replicate_succ, List.replicate_succ' (n := k) (a := Tok.mark [41])]
      simp
    rw [e] at y
    exact y
end K20

namespace K20
open PySem L2 Mp
/-! ### texts that are read as tokens, side by side -/
def okC (c : Nat) : Prop := c ∉ CF ∧ c ≠ 36 ∧ c ≠ 61 ∧ c ≠ 62
instance (c : Nat) : Decidable (okC c) := by unfold okC; infer_instance
def Nx (r : Tx) : Prop := ∀ c, r.head? = some c → okC c
theorem nx_nil : Nx [] := fun _ h => nomatch h
theorem nx_cons {c : Nat} {r : Tx} (h : okC c) : Nx (c :: r) := fun x hx => by cases hx; exact h
theorem Nx.cf {r : Tx} (h : Nx r) : NH CF r ∧ NH [36] r ∧ NH FIG r := ⟨fun c hc => (h c hc).1, fun c hc z => (h c hc).2.1 (List.mem_singleton.mp z), fun c hc z => (h c hc).1 (List.mem_append_right _ z)⟩
/-- b: what stands behind must not go on -/
structure Sg (b : Bool) (x : Tx) (ts : List Tok) : Prop where
  lx : ∀ r us, (b = true → Nx r) → Lex (dw [32] r) us → Lex (dw [32] (x ++ r)) (ts ++ us)
  sg : ∀ c ∈ x, signB c = true
  gd : ∀ t ∈ ts, GoodT t
  nr : Tok.word REM ∉ ts
theorem Sg.any {x : Tx} {ts : List Tok} (s : Sg false x ts) (b : Bool) : Sg b x ts := ⟨fun r us _ L => s.lx r us (fun z => nomatch z) L, s.sg, s.gd, s.nr⟩
theorem Sg.app {b b' : Bool} {x y : Tx} {ts us : List Tok} (s : Sg b x ts) (s' : Sg b' y us) (h : b = false ∨ ∃ c r, y = c :: r ∧ okC c) : Sg b' (x ++ y) (ts ++ us) := by
  refine ⟨fun r vs hr L => ?_, fun c hc => ?_, fun t ht => ?_, fun z => (List.mem_append.mp z).elim s.nr s'.nr⟩
  · rw [List.append_assoc, List.append_assoc]
    refine s.lx (y ++ r) (us ++ vs) (fun hb => ?_) (s'.lx r vs hr L)
    rcases h with h | ⟨c, r', rfl, oc⟩
    · rw [h] at hb; cases hb
    · exact nx_cons oc
  · rcases List.mem_append.mp hc with hc | hc
    · exact s.sg c hc
    · exact s'.sg c hc
  · rcases List.mem_append.mp ht with ht | ht
    · exact s.gd t ht
    · exact s'.gd t ht
theorem sg_nil : Sg false [] [] := ⟨fun r us _ L => L, (fun _ h => nomatch h), (fun _ h => nomatch h), fun h => nomatch h⟩
theorem sg_blank : Sg false [32] [] := ⟨fun r us _ L => by rw [List.singleton_append, dw_sp]; exact L, by decide, (fun _ h => nomatch h), fun h => nomatch h⟩
/-- one token -/
theorem sg_tok {b : Bool} {t : Tok} {c : Nat} {w : Tx} (hc : c ≠ 32) (k : ∀ r, (b = true → Nx r) → Tk t (c :: w) r) (nr : t ≠ .word REM) (g : GoodT t) (s : ∀ x ∈ c :: w, signB x = true) : Sg b (c :: w) [t] := by
  refine ⟨fun r us hr L => ?_, s, fun u hu => by rw [List.mem_singleton.mp hu]; exact g, fun z => nr (List.mem_singleton.mp z).symm⟩
  rw [List.cons_append, dw_id hc, ← List.cons_append]
  exact .cons (k r hr) nr g L
theorem sg_m1 {c : Nat} (hc : c ∈ ([40, 41, 44, 45] : List Nat)) : Sg false [c] [.mark [c]] := by
  have key : ∀ c ∈ ([40, 41, 44, 45] : List Nat), c ≠ 32 ∧ [c] ∈ MARKS ∧ c < 1114112 ∧ signB c = true ∧ ∀ q ∈ TWO, q.headD 0 ≠ c := by decide
  obtain ⟨k1, k2, k3, k4, k5⟩ := key c hc
  exact sg_tok k1 (fun r _ => .mark (find_mark k2 fun _ z => k5 _ z rfl)) (fun z => nomatch z) (good_mark k3) fun x hx => by rw [List.mem_singleton.mp hx]; exact k4
theorem word_sg {w : Tx} (h1 : w.headD 0 ∈ CAP) (h2 : w ≠ []) (h3 : ∀ c ∈ w, c ∈ CF) (h4 : w ∈ WORDS) (h5 : w ≠ REM) : Sg true w [.word w] := by
  obtain ⟨c, r, rfl⟩ := List.exists_cons_of_ne_nil h2
  have hc := mem_CAP.mp h1
  have kf : ∀ c ∈ CF, signB c = true ∧ c < 1114112 := by decide
  exact sg_tok (by have : 65 ≤ c := hc.1; omega) (fun r hr => .word (fun x hx => by cases hx; exact h1) h2 h3 h4 (hr rfl).cf.1 (hr rfl).cf.2.1) (fun z => h5 (Tok.word.inj z)) (fun x hx => (kf x (h3 x hx)).2) fun x hx => (kf x (h3 x hx)).1
theorem sg_not : Sg true NOTW [.word NOTW] := word_sg (by decide) (by decide) (by decide) (by decide) (by decide)
theorem sg_op {o : Tx} (h : (opStr o).isSome = true) : Sg true o [opT o] := by
  have key : ∀ o ∈ OP13, (o ∈ OpW → o.headD 0 ∈ CAP ∧ o ≠ [] ∧ (∀ c ∈ o, c ∈ CF) ∧ o ∈ WORDS ∧ o ≠ REM) ∧ (o ∉ OpW → o ∈ MARKS ∧ o ≠ [] ∧ o.headD 0 ≠ 32 ∧ (∀ c ∈ o, signB c = true ∧ c < 1114112)) := by decide
  obtain ⟨k1, k2⟩ := key o (op_in h)
  unfold opT
  split
  · rename_i q
    obtain ⟨a1, a2, a3, a4, a5⟩ := k1 q
    exact word_sg a1 a2 a3 a4 a5
  · rename_i q
    obtain ⟨a1, a2, a3, a4⟩ := k2 q
    obtain ⟨c, r, rfl⟩ := List.exists_cons_of_ne_nil a2
    refine sg_tok a3 (fun R hr => .mark (find_mark a1 fun hl z => ?_)) (fun z => nomatch z) (fun x hx => (a4 x hx).2) fun x hx => (a4 x hx).1
    have hr := hr rfl
    cases r with
    | cons _ _ => simp at hl
    | nil =>
      cases R with
      | nil =>
        have k0 : ∀ q ∈ TWO, q.length = 2 := by decide
        have := k0 _ z
        simp at this
      | cons x R =>
        have hx := hr x rfl
        have k0 : ∀ q ∈ TWO, q.getD 1 0 = 61 ∨ q.getD 1 0 = 62 := by decide
        have := k0 _ z
        have this : x = 61 ∨ x = 62 := this
        rcases this with e | e
        · exact hx.2.2.1 e
        · exact hx.2.2.2 e
theorem sg_num {v : Int} (h0 : 0 ≤ v) (h1 : v ≤ 999999999) : Sg true (sInt v) [.num v] := by
  obtain ⟨m, rfl, e⟩ := num_sig v h0
  have hne := TL.numL_ne m
  have hd : ∀ c ∈ TL.numL m, 48 ≤ c ∧ c ≤ 57 := TL.numL_digits m
  have hl : (TL.numL m).length ≤ 9 := TL.numL_len (by decide) (by omega)
  have it : PySem.intText? ⟨(TL.numL m).toArray⟩ = some (m : Int) := by
    have z := SX.int_S (a := TL.numL m) (List.all_eq_true.mpr fun c hc => by
      have := hd c hc
      simp
      omega) hne (by omega)
    rw [TL.numL_val m] at z
    exact z
  rw [e]
  obtain ⟨x, r, hx⟩ := List.exists_cons_of_ne_nil hne
  rw [hx] at hd hl it hne ⊢
  have hx9 := hd x List.mem_cons_self
  exact sg_tok (by omega) (fun R hr => .num hne (fun c hc => mem_FIG.mpr (hd c hc)) hl it (hr rfl).cf.2.2) (fun z => nomatch z) (fun _ h => nomatch h) fun c hc => by
    have z := hd c hc
    unfold signB
    simp only [Bool.and_eq_true, decide_eq_true_eq, Bool.not_eq_true', decide_eq_false_iff_not]
    omega
theorem sg_text {s : Tx} (h : ∀ c ∈ s, signB c = true ∧ c ≠ 34) : Sg false (34 :: (s ++ [34])) [.text s] := by
  refine sg_tok (by decide) (fun r _ => .text fun z => (h 34 z).2 rfl) (fun z => nomatch z) (good_sign fun c hc => (h c hc).1) fun c hc => ?_
  rcases List.mem_cons.mp hc with rfl | hc
  · decide
  rcases List.mem_append.mp hc with hc | hc
  · exact (h c hc).1
  · rw [List.mem_singleton.mp hc]; decide
/-- a name as a token -/
theorem sg_nm {x : Tx} (ex : ∃ w e, x = w ++ e ∧ (e = [] ∨ e = [36]) ∧ w ≠ [] ∧ (∀ c, w.head? = some c → c ∈ CAP) ∧ ∀ c ∈ w, c ∈ CF) (nw : x ∉ WORDS) (len : x.length ≤ 8) : Sg true x [.name x] := by
  obtain ⟨w, e, rfl, he, h1, h2, h3⟩ := ex
  obtain ⟨c, r, rfl⟩ := List.exists_cons_of_ne_nil h1
  have hc := mem_CAP.mp (h2 c rfl)
  have kf : ∀ c ∈ CF, signB c = true ∧ c < 1114112 := by decide
  have sx : ∀ y ∈ c :: r ++ e, signB y = true ∧ y < 1114112 := fun y hy => by
    rcases List.mem_append.mp hy with hy | hy
    · exact kf y (h3 y hy)
    · rcases he with rfl | rfl
      · cases hy
      · rw [List.mem_singleton.mp hy]; decide
  refine sg_tok (by omega) (fun R hr => ?_) (fun z => nomatch z) (fun y hy => (sx y hy).2) fun y hy => (sx y hy).1
  show Tk (.name (c :: r ++ e)) (c :: r ++ e) R
  rw [List.length_append] at len
  rcases he with rfl | rfl
  · rw [List.append_nil] at nw ⊢
    exact .name h2 h1 h3 nw (by simpa using len) (hr rfl).cf.1 (hr rfl).cf.2.1
  · exact .named h2 h1 h3 nw (by simp at len ⊢; omega)
theorem sg_name {x : Tx} (v : NameV x) : Sg true x [.name x] := sg_nm v.ex v.nw v.len
theorem sg_fun {x : Tx} {d : D} (h : k_KINDS.lookup x = some d) : Sg true x [.name x] := by
  have key : ∀ q ∈ k_KINDS.map (·.1), (∃ e ∈ ([[], [36]] : List Tx), ∃ w ∈ ([q, q.dropLast] : List Tx), q = w ++ e ∧ w ≠ [] ∧ w.headD 0 ∈ CAP ∧ ∀ c ∈ w, c ∈ CF) ∧ q ∉ WORDS ∧ q.length ≤ 8 := by decide
  have mem : ∀ (l : List (Tx × D)), l.lookup x = some d → x ∈ l.map (·.1) := by
    intro l
    induction l with
    | nil => intro e; cases e
    | cons q r ih =>
      intro e
      obtain ⟨y, v⟩ := q
      rw [List.lookup_cons] at e
      cases t : x == y with
      | true => rw [eq_of_beq t]; exact List.mem_cons_self
      | false => rw [t] at e; exact List.mem_cons_of_mem _ (ih e)
  obtain ⟨⟨e, he, w, _, e1, e2, e3, e4⟩, k2, k3⟩ := key x (mem _ h)
  have he : e = [] ∨ e = [36] := by simpa using he
  exact sg_nm ⟨w, e, e1, he, e2, fun c hc => by
    obtain ⟨y, r, rfl⟩ := List.exists_cons_of_ne_nil e2
    cases hc
    exact e3, e4⟩ k2 k3
theorem sg_par {b : Bool} {x : Tx} {ts : List Tok} (s : Sg b x ts) : Sg false (40 :: (x ++ [41])) (.mark [40] :: (ts ++ [.mark [41]])) :=
  (sg_m1 (c := 40) (by decide)).app (s.app (sg_m1 (c := 41) (by decide)) (.inr ⟨41, [], rfl, by decide⟩)) (.inl rfl)
theorem sg_pars {x : Tx} {ts : List Tok} (s l : Int) (h : Sg true x ts) : Sg true (parS s l x) (parT s l ts) := by
  unfold parS parT
  split
  · exact (sg_par h).any true
  · exact h
theorem sg_join {f : Tm → Tx} {g : Tm → List Tok} : ∀ {as : List Tm}, (∀ t ∈ as, Sg true (f t) (g t)) → Sg true (TL.joinL [44, 32] (as.map f)) (commas (as.map g))
  | [], _ => sg_nil.any true
  | [t], h => h t List.mem_cons_self
  | t :: u :: r, h => by
    have ih := sg_join (as := u :: r) fun x hx => h x (List.mem_cons_of_mem _ hx)
    simp only [List.map_cons] at ih ⊢
    rw [TL.joinL, commas]
    have c1 : Sg false [44, 32] [.mark [44]] := (sg_m1 (c := 44) (by decide)).app sg_blank (.inl rfl)
    exact (h t List.mem_cons_self).app (c1.app ih (.inl rfl)) (.inr ⟨44, _, rfl, by decide⟩)
/-- a name, and terms between parentheses -/
theorem sg_places {x : Tx} {f : Tm → Tx} {g : Tm → List Tok} {as : List Tm} (hx : Sg true x [.name x]) (h : ∀ t ∈ as, Sg true (f t) (g t)) : Sg false (x ++ 40 :: (TL.joinL [44, 32] (as.map f) ++ [41])) (.name x :: .mark [40] :: (commas (as.map g) ++ [.mark [41]])) :=
  hx.app (sg_par (sg_join h)) (.inr ⟨40, _, rfl, by decide⟩)
theorem sg_tm {t : Tm} {d : Nat} (v : VT t d) : Sg true (wr t) (tk t) := by
  induction v with
  | num h1 h2 => rw [wr, tk]; exact sg_num h1 h2
  | text h1 h2 => rw [wr, tk]; exact (sg_text h2).any true
  | name h1 => rw [wr, tk]; exact sg_name h1
  | @cell x as d h1 h2 hv ih => rw [wr, tk, wrs_map, tks_map]; exact (sg_places (sg_name h1) ih).any true
  | @call x ks as d h1 h2 hv ih => rw [wr, tk, wrs_map, tks_map]; exact (sg_places (sg_fun h1) ih).any true
  | @minus t d v ih => rw [wr, tk]; exact (sg_m1 (c := 45) (by decide)).app (sg_pars _ _ ih) (.inl rfl)
  | @not t d v ih =>
    rw [wr, tk]
    exact (sg_not.app sg_blank (.inr ⟨32, [], rfl, by decide⟩)).app (sg_pars _ _ ih) (.inl rfl)
  | @op o a b d h1 va vb i1 i2 =>
    rw [wr, tk]
    have s2 : Sg true (32 :: (o ++ 32 :: parS (tmS b) ((opStr o).getD 0 + 1) (wr b))) (opT o :: parT (tmS b) ((opStr o).getD 0 + 1) (tk b)) :=
      sg_blank.app ((sg_op h1).app (sg_blank.app (sg_pars _ _ i2) (.inl rfl)) (.inr ⟨32, _, rfl, by decide⟩)) (.inl rfl)
    exact (sg_pars _ _ i1).app s2 (.inr ⟨32, _, rfl, by decide⟩)
/-- the whole -/
theorem Sg.whole {b : Bool} {x : Tx} {ts : List Tok} (s : Sg b x ts) : Lex (dw [32] x) ts := by
  have z := s.lx [] [] (fun _ => nx_nil) .nil
  rw [List.append_nil, List.append_nil] at z
  exact z
theorem sg_rep {x : Tx} {ts : List Tok} (s : Sg false x ts) : ∀ k : Nat, Sg false (List.replicate k x).flatten (List.replicate k ts).flatten
  | 0 => sg_nil
  | k + 1 => by
    rw [List.replicate_succ, List.replicate_succ, List.flatten_cons, List.flatten_cons]
    exact s.app (sg_rep s k) (.inl rfl)
end K20

namespace K20
open PySem L2 Mp
/-! ### blanks put in around parentheses -/
def rp (x : Tx) : Tx := StrLaws.replL [32, 40] [32, 32, 40, 32] x
theorem rp_eq (x : Tx) : repT x [32, 40] [32, 32, 40, 32] = rp x := by
  unfold repT rp
  exact StrLaws.replace_list (x := ⟨x.toArray⟩) (y := ⟨([32, 40] : Tx).toArray⟩) (z := ⟨([32, 32, 40, 32] : Tx).toArray⟩) (by decide)
theorem rp_nil : rp [] = [] := StrLaws.replL_nil
theorem rp_hit (r : Tx) : rp (32 :: 40 :: r) = [32, 32, 40, 32] ++ rp r := StrLaws.replL_hit (y := [32, 40]) (by decide) rfl
theorem rp_miss {c : Nat} {r : Tx} (h : c ≠ 32 ∨ r.head? ≠ some 40) : rp (c :: r) = c :: rp r := by
  refine StrLaws.replL_miss fun z => ?_
  cases r with
  | nil => cases z
  | cons d r =>
    have z : [c, d] = [32, 40] := z
    cases z
    rcases h with h | h
    · exact h rfl
    · exact h rfl
theorem rp_head : ∀ r : Tx, (rp r).head? = r.head?
  | [] => by rw [rp_nil]
  | c :: r => by
    by_cases h : c ≠ 32 ∨ r.head? ≠ some 40
    · rw [rp_miss h]; rfl
    · rw [not_or, Decidable.not_not, Decidable.not_not] at h
      obtain ⟨rfl, h2⟩ := h
      cases r with
      | nil => cases h2
      | cons d r => cases h2; rw [rp_hit]; rfl
theorem rp_len : ∀ (n : Nat) (x : Tx), x.length ≤ n → (rp x).length ≤ 2 * x.length
  | 0, x, h => by
    have : x = [] := List.length_eq_zero_iff.mp (by omega)
    subst this
    rw [rp_nil]
    exact Nat.zero_le _
  | n + 1, x, h => by
    cases x with
    | nil => rw [rp_nil]; exact Nat.zero_le _
    | cons c r =>
      rw [List.length_cons] at h
      by_cases q : c ≠ 32 ∨ r.head? ≠ some 40
      · rw [rp_miss q, List.length_cons, List.length_cons]
        have := rp_len n r (by omega)
        omega
      · rw [not_or, Decidable.not_not, Decidable.not_not] at q
        obtain ⟨rfl, h2⟩ := q
        cases r with
        | nil => cases h2
        | cons d r =>
          cases h2
          rw [rp_hit]
          rw [List.length_cons] at h
          have := rp_len n r (by omega)
          simp only [List.length_append, List.length_cons, List.length_nil]
          omega
theorem rp_mem : ∀ (n : Nat) (x : Tx), x.length ≤ n → ∀ c ∈ rp x, c ∈ x ∨ c = 32 ∨ c = 40
  | 0, x, h, c, hc => by
    have : x = [] := List.length_eq_zero_iff.mp (by omega)
    subst this
    rw [rp_nil] at hc
    cases hc
  | n + 1, x, h, c, hc => by
    cases x with
    | nil => rw [rp_nil] at hc; cases hc
    | cons d r =>
      rw [List.length_cons] at h
      by_cases q : d ≠ 32 ∨ r.head? ≠ some 40
      · rw [rp_miss q] at hc
        rcases List.mem_cons.mp hc with rfl | hc
        · exact .inl List.mem_cons_self
        · exact (rp_mem n r (by omega) c hc).imp (List.mem_cons_of_mem _) id
      · rw [not_or, Decidable.not_not, Decidable.not_not] at q
        obtain ⟨rfl, h2⟩ := q
        cases r with
        | nil => cases h2
        | cons e r =>
          cases h2
          rw [rp_hit] at hc
          rw [List.length_cons] at h
          rcases List.mem_append.mp hc with hc | hc
          · simp only [List.mem_cons, List.not_mem_nil, or_false] at hc
            omega
          · exact (rp_mem n r (by omega) c hc).imp (fun z => List.mem_cons_of_mem _ (List.mem_cons_of_mem _ z)) id
theorem rp_app {w r : Tx} (h : ∀ c ∈ w, c ≠ 32) : rp (w ++ r) = w ++ rp r := by
  induction w with
  | nil => rfl
  | cons c w ih => rw [List.cons_append, rp_miss (.inl (h c List.mem_cons_self)), ih fun x hx => h x (List.mem_cons_of_mem _ hx), List.cons_append]
theorem dwA : ∀ x : Tx, (dw [32] x).head? ≠ some 40 → dw [32] (rp x) = dw [32] (rp (dw [32] x))
  | [], _ => rfl
  | c :: r, h => by
    by_cases q : c = 32
    · subst q
      rw [dw_sp] at h ⊢
      have hr : r.head? ≠ some 40 := fun z => h (by
        cases r with
        | nil => cases z
        | cons d r => cases z; rfl)
      rw [rp_miss (.inr hr), dw_sp]
      exact dwA r h
    · rw [dw_id q]
theorem dwB : ∀ (x r : Tx), dw [32] x = 40 :: r → dw [32] (rp x) = 40 :: rp r ∨ dw [32] (rp x) = 40 :: 32 :: rp r
  | [], _, h => by cases h
  | c :: x, r, h => by
    by_cases q : c = 32
    · subst q
      rw [dw_sp] at h
      by_cases hr : x.head? = some 40
      · cases x with
        | nil => cases hr
        | cons d x =>
          cases hr
          rw [dw_id (by decide)] at h
          cases h
          rw [rp_hit]
          exact .inr rfl
      · rw [rp_miss (.inr hr), dw_sp]
        exact dwB x r h
    · rw [dw_id q] at h
      cases h
      rw [rp_miss (.inl (by decide))]
      exact .inl rfl
theorem take1 {r r' : Tx} (h : r'.head? = r.head?) : r'.take 1 = r.take 1 := by
  cases r <;> cases r' <;> first | rfl | (cases h; rfl) | cases h
theorem tk_head {t : Tok} {w r r' : Tx} (k : Tk t w r) (h : r'.head? = r.head?) : Tk t w r' := by
  have nh : ∀ {al : Tx}, NH al r → NH al r' := fun {al} n c hc => n c (by rw [← h]; exact hc)
  cases k with
  | num h1 h2 h3 h4 h5 => exact .num h1 h2 h3 h4 (nh h5)
  | word h1 h2 h3 h4 h5 h6 => exact .word h1 h2 h3 h4 (nh h5) (nh h6)
  | name h1 h2 h3 h4 h8 h5 h6 => exact .name h1 h2 h3 h4 h8 (nh h5) (nh h6)
  | named h1 h2 h3 h4 h7 => exact .named h1 h2 h3 h4 h7
  | text h1 => exact .text h1
  | mark h1 =>
    have hm := List.mem_of_find?_eq_some h1
    refine .mark (find_mark hm fun hl z => ?_)
    rw [take1 h] at z
    have l1 : ∀ m ∈ MARKS, m ≠ [] := by decide
    cases w with
    | nil => exact l1 _ hm rfl
    | cons c w =>
      cases w with
      | cons _ _ => simp at hl
      | nil =>
        cases r with
        | nil =>
          have k0 : ∀ q ∈ TWO, q.length = 2 := by decide
          have := k0 _ z
          simp at this
        | cons d r =>
          have z : [c, d] ∈ TWO := z
          have e : MARKS.find? (fun a => decide ((([c] : Tx) ++ d :: r).take a.length = a)) = some [c] := h1
          have k0 : ∀ q ∈ TWO, MARKS.find? (fun a => decide (q.take a.length = a)) = some q := by decide
          have hM : MARKS = [[60, 61], [62, 61], [60, 62], [43], [45], [42], [40], [41], [44], [59], [58], [61], [60], [62]] := rfl
          simp only [TWO, List.mem_cons, List.not_mem_nil, or_false] at z
          rw [hM] at e
          rcases z with z | z | z <;> (cases z; simp [List.find?] at e)
theorem tk40 {t : Tok} {w r : Tx} (k : Tk t w r) (h : w.head? = some 40) : t = .mark [40] ∧ w = [40] := by
  cases k with
  | num h1 h2 => exact absurd (h2 40 (List.mem_of_head? h)) (by decide)
  | word h1 => exact absurd (h1 40 h) (by decide)
  | name h1 => exact absurd (h1 40 h) (by decide)
  | text h1 => cases h
  | mark h1 =>
    have key : ∀ m ∈ MARKS, m.headD 0 = 40 → m = [40] := by decide
    have := key _ (List.mem_of_find?_eq_some h1) (by rw [List.headD_eq_head?_getD, h]; rfl)
    subst this
    exact ⟨rfl, rfl⟩
  | @named w2 _ h1 h2 =>
    obtain ⟨c, w2', rfl⟩ := List.exists_cons_of_ne_nil h2
    cases h
    exact absurd (h1 40 rfl) (by decide)
theorem rp_lex {y : Tx} {ts : List Tok} (L : Lex y ts) : ∀ x : Tx, dw [32] x = y → 34 ∉ x → Tok.word REM ∉ ts → Lex (dw [32] (rp x)) ts := by
  induction L with
  | nil =>
    intro x hx _ _
    rw [dwA x (by rw [hx]; exact fun z => nomatch z), hx, rp_nil]
    exact .nil
  | @cons t w r ts k hne hgd L ih =>
    intro x hx h34 hn
    have hsub : ∀ c, c ∈ w ++ r → c ∈ x := fun c hc => by
      rw [← hx] at hc
      unfold dw at hc
      exact (List.dropWhile_sublist _).subset hc
    have hr34 : 34 ∉ r := fun z => h34 (hsub 34 (List.mem_append_right _ z))
    have ihr := ih r rfl hr34 fun z => hn (List.mem_cons_of_mem _ z)
    have w32 : ∀ c ∈ w, c ≠ 32 := by
      have kf : ∀ c ∈ CF, c ≠ 32 := by decide
      cases k with
      | num h1 h2 => exact fun c hc z => by have := mem_FIG.mp (h2 c hc); omega
      | word h1 h2 h3 => exact fun c hc => kf c (h3 c hc)
      | name h1 h2 h3 => exact fun c hc => kf c (h3 c hc)
      | named h1 h2 h3 =>
        intro c hc
        rcases List.mem_append.mp hc with hc | hc
        · exact kf c (h3 c hc)
        · rw [List.mem_singleton.mp hc]; decide
      | text h1 => exact absurd (hsub 34 (List.mem_append_left _ List.mem_cons_self)) h34
      | mark h1 =>
        have key : ∀ m ∈ MARKS, ∀ c ∈ m, c ≠ 32 := by decide
        exact key w (List.mem_of_find?_eq_some h1)
    obtain ⟨c, w', rfl⟩ := List.exists_cons_of_ne_nil (tk_ne k)
    by_cases q : c = 40
    · subst q
      have e := tk40 k rfl
      obtain ⟨rfl, e2⟩ := e
      cases e2
      have tkk : ∀ R, Tk (.mark [40]) [40] R := fun R => .mark (find_mark (by decide) fun _ z => by
        have k5 : ∀ q ∈ TWO, q.headD 0 ≠ 40 := by decide
        exact k5 _ z rfl)
      rcases dwB x r hx with e | e
      · rw [e]
        exact .cons (tkk _) hne hgd ihr
      · rw [e]
        exact .cons (w := [40]) (r := 32 :: rp r) (tkk _) hne hgd ihr
    · rw [dwA x (by rw [hx]; exact fun z => q (Option.some.inj z)), hx, rp_app w32, List.cons_append, dw_id (w32 c List.mem_cons_self), ← List.cons_append]
      exact .cons (tk_head k (rp_head r)) hne hgd ihr
  | rem h1 h2 h3 =>
    intro x _ _ hn
    exact absurd List.mem_cons_self hn
end K20

namespace K20
open PySem L2 Mp
mutual
def tkt : Tm → List Tok
  | .num v => [.num v]
  | .text s => [.text s]
  | .name x => [.name x]
  | .cell x as => .name x :: .mark [40] :: (commas (tkts as) ++ [.mark [41]])
  | .call x as => .name x :: .mark [40] :: (commas (tkts as) ++ [.mark [41]])
  | .minus t => .mark [45] :: .mark [40] :: (tkt t ++ [.mark [41]])
  | .not t => .word NOTW :: .mark [40] :: (tkt t ++ [.mark [41]])
  | .op o a b => .mark [40] :: (tkt a ++ [.mark [41]]) ++ opT o :: .mark [40] :: (tkt b ++ [.mark [41]])
def tkts : List Tm → List (List Tok)
  | [] => []
  | t :: r => tkt t :: tkts r
end
theorem tkts_map : ∀ l : List Tm, tkts l = l.map tkt
  | [] => by rw [tkts]; rfl
  | t :: r => by rw [tkts, tkts_map r, List.map_cons]
theorem tkt_wt {t : Tm} {d : Nat} (v : VT t d) : Wt t (tmS t) (tkt t) (d - 1) (4 * (d - 1)) := by
  induction v with
  | num h1 h2 => rw [tkt]; exact .num
  | text h1 h2 => rw [tkt]; exact .text h1
  | name h1 => rw [tkt]; exact .name h1.nk
  | @cell x as d h1 h2 hv ih =>
    rw [tkt, tkts_map]
    have e1 : (as.map fun t => (t, tkt t)).map (·.1) = as := by rw [List.map_map]; exact List.map_id _
    have e2 : (as.map fun t => (t, tkt t)).map (·.2) = as.map tkt := by rw [List.map_map]; rfl
    cases d with
    | zero =>
      cases as with
      | nil => simp at h2
      | cons a as => cases hv a List.mem_cons_self
    | succ d =>
      have z := Wt.cell (x := x) (ps := as.map fun t => (t, tkt t)) (n := d) (m := 4 * d) h1.nk (by rw [List.length_map]; exact h2) fun p hp => by
        obtain ⟨t, ht, rfl⟩ := List.mem_map.mp hp
        exact .low (tmS_pos (hv t ht)) (ih t ht)
      rw [e1, e2] at z
      exact z
  | @call x ks as d h1 h2 hv ih =>
    rw [tkt, tkts_map]
    have e1 : (as.map fun t => (t, tkt t)).map (·.1) = as := by rw [List.map_map]; exact List.map_id _
    have e2 : (as.map fun t => (t, tkt t)).map (·.2) = as.map tkt := by rw [List.map_map]; rfl
    obtain ⟨_, a2⟩ := kind_in h1
    obtain ⟨a3, a4⟩ := a2 ks rfl
    cases d with
    | zero =>
      cases as with
      | nil => rw [← h2] at a4; simp at a4
      | cons a as => cases hv a List.mem_cons_self
    | succ d =>
      have z := Wt.call (x := x) (ks := ks) (ps := as.map fun t => (t, tkt t)) (n := d) (m := 4 * d) h1 (by rw [List.length_map]; exact h2) (fun z => by rw [List.map_eq_nil_iff] at z; rw [z] at h2; rw [← h2] at a4; simp at a4) (by rw [List.length_map]; omega) fun p hp => by
        obtain ⟨t, ht, rfl⟩ := List.mem_map.mp hp
        exact .low (tmS_pos (hv t ht)) (ih t ht)
      rw [e1, e2] at z
      exact z
  | @minus t d v ih =>
    cases d with
    | zero => cases v
    | succ d =>
      rw [tkt]
      exact (Wt.minus (.low (by decide) (.par (.low (tmS_pos v) ih)))).mono (by omega) (by omega)
  | @not t d v ih =>
    cases d with
    | zero => cases v
    | succ d =>
      rw [tkt]
      exact (Wt.not (.low (by decide) (.par (.low (tmS_pos v) ih)))).mono (by omega) (by omega)
  | @op o a b d h1 va vb i1 i2 =>
    cases d with
    | zero => cases va
    | succ d =>
      obtain ⟨k, hk⟩ := Option.isSome_iff_exists.mp h1
      have kb := (opk hk).2.1
      rw [tkt, tmS, hk]
      simp only [Option.getD_some]
      exact (Wt.op hk (opT_of hk) (.low (by omega) ((Wt.par (.low (tmS_pos va) i1)).mono (by omega) (by omega))) (.low (by omega) (.par (.low (tmS_pos vb) i2)))).mono (by omega) (by omega)
theorem sg_ty {t : Tm} {d : Nat} (v : VT t d) : Sg true (ty t) (tkt t) := by
  induction v with
  | num h1 h2 => rw [ty, tkt]; exact sg_num h1 h2
  | text h1 h2 => rw [ty, tkt]; exact (sg_text h2).any true
  | name h1 => rw [ty, tkt]; exact sg_name h1
  | @cell x as d h1 h2 hv ih => rw [ty, tkt, tys_map, tkts_map]; exact (sg_places (sg_name h1) ih).any true
  | @call x ks as d h1 h2 hv ih => rw [ty, tkt, tys_map, tkts_map]; exact (sg_places (sg_fun h1) ih).any true
  | @minus t d v ih => rw [ty, tkt]; exact (sg_m1 (c := 45) (by decide)).app ((sg_par ih).any true) (.inl rfl)
  | @not t d v ih =>
    rw [ty, tkt]
    exact (sg_not.app sg_blank (.inr ⟨32, [], rfl, by decide⟩)).app ((sg_par ih).any true) (.inl rfl)
  | @op o a b d h1 va vb i1 i2 =>
    rw [ty, tkt]
    have s2 : Sg true (32 :: (o ++ 32 :: (40 :: (ty b ++ [41])))) (opT o :: .mark [40] :: (tkt b ++ [.mark [41]])) :=
      sg_blank.app ((sg_op h1).app (sg_blank.app ((sg_par i2).any true) (.inl rfl)) (.inr ⟨32, _, rfl, by decide⟩)) (.inl rfl)
    have s3 := (sg_par i1).app s2 (.inl rfl)
    have e : 40 :: (ty a ++ [41]) ++ 32 :: (o ++ 32 :: 40 :: (ty b ++ [41])) = 40 :: (ty a ++ [41, 32]) ++ (o ++ [32, 40] ++ (ty b ++ [41])) := by simp
    rw [e] at s3
    exact s3
/-! ### the texts that are read -/
theorem lex_len {y : Tx} {ts : List Tok} (L : Lex y ts) : ts.length ≤ y.length + 1 := by
  induction L with
  | nil => simp
  | @cons t w r ts k _ _ _ ih =>
    obtain ⟨c, w', rfl⟩ := List.exists_cons_of_ne_nil (tk_ne k)
    have : (dw [32] r).length ≤ r.length := (List.dropWhile_sublist _).length_le
    simp only [List.length_cons, List.length_append] at ih ⊢
    omega
  | @rem r s h1 h2 h3 => simp [REM]
/-- what is read as the term -/
theorem read_as {t : Tm} {d : Nat} (v : VT t d) (hd : d ≤ 20) {x : Tx} {ts : List Tok} {m : Nat} (hl : x.length ≤ 200) (sg : ∀ c ∈ x, signB c = true) (L : Lex (dw [32] x) ts) (gd : ∀ t ∈ ts, GoodT t) (w : Wt t 1 ts (d - 1) m) (hm : m ≤ 150) (h : DH) : ∃ g, callN T 204 48 [.str x] h = .ok (tmD t) (h ++ g) := by
  have r := wt_read w (Int.le_refl _)
  have ll := lex_len L
  have dl : (dw [32] x).length ≤ x.length := (List.dropWhile_sublist _).length_le
  obtain ⟨e, he⟩ : ∃ e, e + m + 2 * d + 9 = 204 := ⟨204 - m - 2 * d - 9, by omega⟩
  obtain ⟨g, z⟩ := c_termof e m d h hl sg L (by omega) gd r (by omega) v (by omega)
  rw [he] at z
  exact ⟨g, z⟩
end K20

namespace K20
open PySem L2 Mp
theorem p20 : (2 : Int) ^ (20 : Int).toNat = 1048576 := by decide
theorem p30 : (2 : Int) ^ (30 : Int).toNat = 1073741824 := by decide
/-- a text that is read as the term, where it is asked -/
def Asks (t : Tm) (i : Int) (x : Tx) : Prop := x.length ≤ 200000 ∧ (x.length ≤ 200 → (i = 2 → 34 ∉ x) → ∀ h, ∃ g, callN T 204 48 [.str x] h = .ok (tmD t) (h ++ g))
theorem in_body {t : Tm} {d : Nat} (v : VT t d) (hd : d ≤ 32) {i : Int} {x : Tx} (a : Asks t i x) (z0 z1 z2 z3 z4 z6 z7 z8 z9 : Option D) (h : DH) : ∃ g, l_law_1 (callN T 204) [z0, z1, z2, z3, z4, some (tmD t), z6, z7, z8, z9, some (.int i), some (.str x)] h = .nx [z0, z1, z2, z3, z4, some (tmD t), z6, z7, z8, z9, some (.int i), some (.str x)] (h ++ g) ∨ l_law_1 (callN T 204) [z0, z1, z2, z3, z4, some (tmD t), z6, z7, z8, z9, some (.int i), some (.str x)] h = .ct [z0, z1, z2, z3, z4, some (tmD t), z6, z7, z8, z9, some (.int i), some (.str x)] (h ++ g) := by
  obtain ⟨al, ar⟩ := a
  have hz : x.length ≤ sizeLine := size_le (by omega)
  simp only [l_law_1]
  by_cases q : x.length ≤ 200
  · have q' : ¬ (200 : Int) < (x.length : Int) := by omega
    by_cases q2 : i = 2
    · by_cases q3 : 34 ∈ x
      · refine ⟨[], .inr ?_⟩
        simp (disch := first | with_reducible assumption | omega | with_reducible exact size_le (by omega) | decide | (simp only [List.length_cons, List.length_nil, List.length_append]; first | omega | with_reducible exact size_le (by omega)) | exact ⟨by simp only [List.length_cons, List.length_nil]; omega, by decide⟩ | fail) [-getElem?_pos, -getElem?_neg, -Int.natCast_add, le_size, rngR_ok, mul_int, mod_int, div_int, pow_int, add_str, len_str, len_refU, idx_refU, any_refU, all_refU, in_refU, in_tupU, okTo_appU, append_U, it_refU, join_refU, add_refU, isi_refU, idx_str, slc_str, str_int, int_str, meOf, List.lookup, fldOf, putN, putR_ok, List.getElem?_cons_zero, List.getElem?_cons_succ, List.getElem?_concat_length, get_app, get_app0, en_refU, mul_refU, tupF_refU, slc_refU, q', q2, q3]
      · obtain ⟨g, e⟩ := ar q (fun _ => q3) h
        have te := tm_eq (h := h ++ g) v hd
        refine ⟨g, .inl ?_⟩
        generalize h ++ g = H at *
        simp (disch := first | with_reducible assumption | omega | with_reducible exact size_le (by omega) | decide | (simp only [List.length_cons, List.length_nil, List.length_append]; first | omega | with_reducible exact size_le (by omega)) | exact ⟨by simp only [List.length_cons, List.length_nil]; omega, by decide⟩ | fail) [-getElem?_pos, -getElem?_neg, -Int.natCast_add, le_size, rngR_ok, mul_int, mod_int, div_int, pow_int, add_str, len_str, len_refU, idx_refU, any_refU, all_refU, in_refU, in_tupU, okTo_appU, append_U, it_refU, join_refU, add_refU, isi_refU, idx_str, slc_str, str_int, int_str, meOf, List.lookup, fldOf, putN, putR_ok, List.getElem?_cons_zero, List.getElem?_cons_succ, List.getElem?_concat_length, get_app, get_app0, en_refU, mul_refU, tupF_refU, slc_refU, q', q2, q3, v_told, e, te]
    · obtain ⟨g, e⟩ := ar q (fun z => absurd z q2) h
      have te := tm_eq (h := h ++ g) v hd
      refine ⟨g, .inl ?_⟩
      generalize h ++ g = H at *
      simp (disch := first | with_reducible assumption | omega | with_reducible exact size_le (by omega) | decide | (simp only [List.length_cons, List.length_nil, List.length_append]; first | omega | with_reducible exact size_le (by omega)) | exact ⟨by simp only [List.length_cons, List.length_nil]; omega, by decide⟩ | fail) [-getElem?_pos, -getElem?_neg, -Int.natCast_add, le_size, rngR_ok, mul_int, mod_int, div_int, pow_int, add_str, len_str, len_refU, idx_refU, any_refU, all_refU, in_refU, in_tupU, okTo_appU, append_U, it_refU, join_refU, add_refU, isi_refU, idx_str, slc_str, str_int, int_str, meOf, List.lookup, fldOf, putN, putR_ok, List.getElem?_cons_zero, List.getElem?_cons_succ, List.getElem?_concat_length, get_app, get_app0, en_refU, mul_refU, tupF_refU, slc_refU, q', q2, v_told, e, te]
  · have q' : (200 : Int) < (x.length : Int) := by omega
    refine ⟨[], .inr ?_⟩
    simp (disch := first | with_reducible assumption | omega | with_reducible exact size_le (by omega) | decide | (simp only [List.length_cons, List.length_nil, List.length_append]; first | omega | with_reducible exact size_le (by omega)) | exact ⟨by simp only [List.length_cons, List.length_nil]; omega, by decide⟩ | fail) [-getElem?_pos, -getElem?_neg, -Int.natCast_add, le_size, rngR_ok, mul_int, mod_int, div_int, pow_int, add_str, len_str, len_refU, idx_refU, any_refU, all_refU, in_refU, in_tupU, okTo_appU, append_U, it_refU, join_refU, add_refU, isi_refU, idx_str, slc_str, str_int, int_str, meOf, List.lookup, fldOf, putN, putR_ok, List.getElem?_cons_zero, List.getElem?_cons_succ, List.getElem?_concat_length, get_app, get_app0, en_refU, mul_refU, tupF_refU, slc_refU, q']
theorem in_loop {t : Tm} {d : Nat} (v : VT t d) (hd : d ≤ 32) (z0 z1 z2 z3 z4 z6 z7 z8 z9 : Option D) {R : Nat} {xs : List D} : ∀ (qs : List (Int × Tx)) (z10 z11 : Option D) (h : DH), (∀ q ∈ qs, Asks t q.1 q.2) → h[R]? = some (.lst xs) →
    ∃ (g : DH) (y10 y11 : Option D), forL (some (R, xs)) (stTup [10, 11]) (l_law_1 (callN T 204)) (qs.map fun q => .tup [.int q.1, .str q.2]) [z0, z1, z2, z3, z4, some (tmD t), z6, z7, z8, z9, z10, z11] h = .nx [z0, z1, z2, z3, z4, some (tmD t), z6, z7, z8, z9, y10, y11] (h ++ g)
  | [], z10, z11, h, _, hR => ⟨[], z10, z11, by rw [List.map_nil, forL_nil (show Still (some (R, xs)) h from hR), List.append_nil]⟩
  | q :: qs, z10, z11, h, ha, hR => by
    obtain ⟨g, e⟩ := in_body v hd (ha q List.mem_cons_self) z0 z1 z2 z3 z4 z6 z7 z8 z9 h
    obtain ⟨g2, y10, y11, e2⟩ := in_loop v hd z0 z1 z2 z3 z4 z6 z7 z8 z9 qs (some (.int q.1)) (some (.str q.2)) (h ++ g) (fun x hx => ha x (List.mem_cons_of_mem _ hx)) (ap_get hR)
    refine ⟨g ++ g2, y10, y11, ?_⟩
    rw [List.map_cons, forL_cons (e1 := [z0, z1, z2, z3, z4, some (tmD t), z6, z7, z8, z9, some (.int q.1), some (.str q.2)]) (show Still (some (R, xs)) h from hR) rfl, ← List.append_assoc]
    rcases e with e | e
    · rw [e, nxt_nx, e2]
    · rw [e, nxt_ct, e2]
theorem flat_one (k c : Nat) : (List.replicate k [c]).flatten = List.replicate k c := by
  induction k with
  | zero => rfl
  | succ k ih => rw [List.replicate_succ, List.flatten_cons, ih, List.replicate_succ]; rfl
theorem flat_tok (k : Nat) (t : Tok) : (List.replicate k [t]).flatten = List.replicate k t := by
  induction k with
  | zero => rfl
  | succ k ih => rw [List.replicate_succ, List.flatten_cons, ih, List.replicate_succ]; rfl
/-- the five texts -/
theorem asks_all {t : Tm} {d : Nat} (v : VT t d) (hd : d ≤ 20) (hz : tsz t ≤ 300) {k : Nat} (hk : k ≤ 30) :
    Asks t 0 (wr t) ∧ Asks t 1 (ty t) ∧ Asks t 2 ([32, 32] ++ rp (wr t) ++ [32]) ∧ Asks t 3 ((List.replicate k [40]).flatten ++ wr t ++ (List.replicate k [32, 41]).flatten) ∧ Asks t 4 ([40, 32] ++ wr t ++ [41]) := by
  have wl := wr_len v
  have tl := ty_len v
  have s := sg_tm v
  have st := sg_ty v
  have w1 : Wt t 1 (tk t) (d - 1) (4 * (d - 1)) := .low (tmS_pos v) (tk_wt v)
  have w2 : Wt t 1 (tkt t) (d - 1) (4 * (d - 1)) := .low (tmS_pos v) (tkt_wt v)
  have rl := rp_len (wr t).length (wr t) (Nat.le_refl _)
  refine ⟨⟨by omega, fun h200 _ h => read_as v hd h200 s.sg s.whole s.gd w1 (by omega) h⟩, ⟨by omega, fun h200 _ h => read_as v hd h200 st.sg st.whole st.gd w2 (by omega) h⟩, ⟨by simp only [List.length_append, List.length_cons, List.length_nil]; omega, fun h200 hq h => ?_⟩, ⟨?_, fun h200 _ h => ?_⟩, ⟨by simp only [List.length_append, List.length_cons, List.length_nil]; omega, fun h200 _ h => ?_⟩⟩
  · have h34 : 34 ∉ wr t := fun z => by
      have key : ∀ (n : Nat) (x : Tx), x.length ≤ n → 34 ∈ x → 34 ∈ rp x := by
        intro n
        induction n with
        | zero =>
          intro x hx hm
          have hx0 : x = [] := List.length_eq_zero_iff.mp (by omega)
          rw [hx0] at hm
          cases hm
        | succ n ih =>
          intro x hx hm
          cases x with
          | nil => cases hm
          | cons c r =>
            rw [List.length_cons] at hx
            by_cases q : c ≠ 32 ∨ r.head? ≠ some 40
            · rw [rp_miss q]
              rcases List.mem_cons.mp hm with e | hm
              · rw [← e]; exact List.mem_cons_self
              · exact List.mem_cons_of_mem _ (ih r (by omega) hm)
            · rw [not_or, Decidable.not_not, Decidable.not_not] at q
              obtain ⟨rfl, h2⟩ := q
              cases r with
              | nil => cases h2
              | cons e r =>
                cases h2
                rw [rp_hit]
                rw [List.length_cons] at hx
                rcases List.mem_cons.mp hm with e | hm
                · cases e
                rcases List.mem_cons.mp hm with e | hm
                · cases e
                exact List.mem_append_right _ (ih r (by omega) hm)
      exact hq rfl (List.mem_append_left _ (List.mem_append_right _ (key _ _ (Nat.le_refl _) z)))
    -- a blank behind
    have s2 : Sg true (wr t ++ [32]) (tk t) := by
      have z := s.app (sg_blank.any true) (.inr ⟨32, [], rfl, by decide⟩)
      rw [List.append_nil] at z
      exact z
    have e32 : rp ([] ++ [32]) = rp [] ++ [32] := by
      rw [rp_nil, List.nil_append, rp_miss (.inr (by decide)), rp_nil]
    have e2 : rp (wr t ++ [32]) = rp (wr t) ++ [32] := by
      have key : ∀ (n : Nat) (x : Tx), x.length ≤ n → rp (x ++ [32]) = rp x ++ [32] := by
        intro n
        induction n with
        | zero =>
          intro x hx
          have hx0 : x = [] := List.length_eq_zero_iff.mp (by omega)
          rw [hx0]
          exact e32
        | succ n ih =>
          intro x hx
          cases x with
          | nil => exact e32
          | cons c r =>
            rw [List.length_cons] at hx
            by_cases q : c ≠ 32 ∨ r.head? ≠ some 40
            · rw [rp_miss q, List.cons_append, rp_miss, ih r (by omega)]
              · rfl
              · rcases q with q | q
                · exact .inl q
                · cases r with
                  | nil => exact .inr fun z => nomatch z
                  | cons d r => exact .inr q
            · rw [not_or, Decidable.not_not, Decidable.not_not] at q
              obtain ⟨rfl, h2⟩ := q
              cases r with
              | nil => cases h2
              | cons e r =>
                cases h2
                rw [rp_hit, List.cons_append, List.cons_append, rp_hit, ih r (by rw [List.length_cons] at hx; omega), List.append_assoc]
      exact key _ _ (Nat.le_refl _)
    have L := rp_lex s2.whole (wr t ++ [32]) rfl (fun z => (List.mem_append.mp z).elim h34 (fun z => by simp at z)) s2.nr
    rw [e2] at L
    have L2 : Lex (dw [32] ([32, 32] ++ rp (wr t) ++ [32])) (tk t) := by
      rw [List.append_assoc]
      exact L
    refine read_as v hd h200 (fun c hc => ?_) L2 s.gd w1 (by omega) h
    rcases List.mem_append.mp hc with hc | hc
    · rcases List.mem_append.mp hc with hc | hc
      · simp only [List.mem_cons, List.not_mem_nil, or_false, or_self] at hc
        rw [hc]; decide
      · rcases rp_mem _ _ (Nat.le_refl _) c hc with hc | rfl | rfl
        · exact s.sg c hc
        · decide
        · decide
    · rw [List.mem_singleton.mp hc]; decide
  · rw [flat_one]
    have e2 : (List.replicate k [32, 41]).flatten.length = 2 * k := by
      clear hk
      induction k with
      | zero => rfl
      | succ k ih => rw [List.replicate_succ, List.flatten_cons, List.length_append, ih]; simp; omega
    simp only [List.length_append, List.length_replicate, e2]
    omega
  · have a1 := sg_rep (sg_m1 (c := 40) (by decide)) k
    have c1 : Sg false [32, 41] [.mark [41]] := sg_blank.app (sg_m1 (c := 41) (by decide)) (.inl rfl)
    have a2 := sg_rep c1 k
    rw [flat_tok] at a1 a2
    have wp := wt_pars k w1
    cases k with
    | zero =>
      have ex : (List.replicate 0 [40]).flatten ++ wr t ++ (List.replicate 0 [32, 41]).flatten = wr t := by simp
      rw [ex] at h200 ⊢
      exact read_as v hd h200 s.sg s.whole s.gd w1 (by omega) h
    | succ k =>
      have a3 := a1.app (s.app a2 (.inr ⟨32, _, rfl, by decide⟩)) (.inl rfl)
      rw [← List.append_assoc] at a3
      exact read_as v hd h200 a3.sg a3.whole a3.gd wp (by omega) h
  · have c1 : Sg false [40, 32] [.mark [40]] := (sg_m1 (c := 40) (by decide)).app sg_blank (.inl rfl)
    have a3 := c1.app (s.app (sg_m1 (c := 41) (by decide)) (.inr ⟨41, [], rfl, by decide⟩)) (.inl rfl)
    rw [← List.append_assoc] at a3
    exact read_as v hd h200 a3.sg a3.whole a3.gd (.low (by decide) (.par w1)) (by omega) h
end K20

namespace K20
open PySem L2 Mp
theorem rep2 {k c e : Nat} {h : DH} {z : Int} (hz : z = k) (hk : k ≤ 1000) : dBin .Mult (.str [c, e]) (.int z) h = .ok (.str (List.replicate k [c, e]).flatten) h := by
  rw [mul_str ⟨by omega, by omega, size_le (by simp only [List.length_cons, List.length_nil]; omega)⟩, hz, Int.toNat_natCast]
theorem rep1 {k c : Nat} {h : DH} {z : Int} (hz : z = k) (hk : k ≤ 1000) : dBin .Mult (.str [c]) (.int z) h = .ok (.str (List.replicate k [c]).flatten) h := by
  rw [mul_str ⟨by omega, by omega, size_le (by simp only [List.length_cons, List.length_nil]; omega)⟩, hz, Int.toNat_natCast]
theorem law_body {ns : List Int} {sd : D} {h : DH} (s : Scr ns sd h) (hb : Small ns) (hl : ns.length ≤ 63) {k : Int} (hk : 0 ≤ k) (hk2 : k ≤ 5) (a2 a3 a4 a5 a6 a7 a8 a9 a10 a11 : Option D) : ∃ g y2 y3 y4 y5 y6 y7 y8 y9 y10 y11, l_law_2 (callN T 204) [some sd, some (.int k), a2, a3, a4, a5, a6, a7, a8, a9, a10, a11] h = .nx [some sd, some (.int k), y2, y3, y4, y5, y6, y7, y8, y9, y10, y11] (h ++ g) := by
  obtain ⟨c, g1, ec, m, d0, d1, ed⟩ := c_draw (n := 203) s hb hk (by omega) hl (j := k) hk (by omega)
  have lm : m.natAbs.log2 < 2000000 := by
    have := nn_log (n := 129) d0 (by omega) (by decide)
    omega
  have s1 : sSet (stName 2) (mCall (callN T 204) 0 [(mCall (callN T 204) 10 [(mVar 0), (mVar 1)]), (mVar 1)]) [some sd, some (.int k), a2, a3, a4, a5, a6, a7, a8, a9, a10, a11] h = .nx [some sd, some (.int k), some (.int m), a3, a4, a5, a6, a7, a8, a9, a10, a11] (h ++ g1) := by
    simp (disch := first | with_reducible assumption | omega | with_reducible exact size_le (by omega) | decide | (simp only [List.length_cons, List.length_nil, List.length_append]; first | omega | with_reducible exact size_le (by omega)) | exact ⟨by simp only [List.length_cons, List.length_nil]; omega, by decide⟩ | fail) [-getElem?_pos, -getElem?_neg, -Int.natCast_add, le_size, rngR_ok, mul_int, mod_int, div_int, pow_int, add_str, len_str, len_refU, idx_refU, any_refU, all_refU, in_refU, in_tupU, okTo_appU, append_U, it_refU, join_refU, add_refU, isi_refU, idx_str, slc_str, str_int, int_str, meOf, List.lookup, fldOf, putN, putR_ok, List.getElem?_cons_zero, List.getElem?_cons_succ, List.getElem?_concat_length, get_app, get_app0, en_refU, mul_refU, tupF_refU, slc_refU, ec, ed]
  generalize hH1 : h ++ g1 = H1 at *
  have e1 : callN T 204 0 [.int m, .int 1] H1 = .ok (.int (drawn m 1)) H1 := c_drawn 203 m 1 H1 lm (by decide)
  have b1 := drawn_nn m 1
  have b1' := drawn_lt m 1
  obtain ⟨ns1, f1, g2, l1, n1, _, p1, q1, en1⟩ := c_names (n := 202) (e := []) (.inl rfl) (more := drawn m 1) (many := 2) b1 (by omega) (by decide) H1
  have en1 : callN T 204 12 [.int (drawn m 1), .int 2, .str []] H1 = .ok (.ref f1) (H1 ++ g2) := en1
  have e2 : callN T 204 0 [.int m, .int 2] (H1 ++ g2) = .ok (.int (drawn m 2)) (H1 ++ g2) := c_drawn 203 m 2 (H1 ++ g2) lm (by decide)
  have b2 := drawn_nn m 2
  have b2' := drawn_lt m 2
  obtain ⟨ns2, f2, g3, l2, n2, _, p2, r2, en2⟩ := c_names (n := 202) (e := [36]) (.inr rfl) (more := drawn m 2) (many := 2) b2 (by omega) (by decide) (H1 ++ g2)
  have en2 : callN T 204 12 [.int (drawn m 2), .int 2, .str [36]] (H1 ++ g2) = .ok (.ref f2) (H1 ++ g2 ++ g3) := en2
  have s2 : sSet (stName 3) (mTup [(mCall (callN T 204) 12 [(mCall (callN T 204) 0 [(mVar 2), (mLit (.int 1))]), (mLit (.int 2)), (mLit (.str []))]), (mCall (callN T 204) 12 [(mCall (callN T 204) 0 [(mVar 2), (mLit (.int 2))]), (mLit (.int 2)), (mLit (.str [36]))])]) [some sd, some (.int k), some (.int m), a3, a4, a5, a6, a7, a8, a9, a10, a11] H1
      = .nx [some sd, some (.int k), some (.int m), some (.tup [.ref f1, .ref f2]), a4, a5, a6, a7, a8, a9, a10, a11] (H1 ++ g2 ++ g3) := by
    generalize hH3 : H1 ++ g2 ++ g3 = H3 at *
    generalize hH2 : H1 ++ g2 = H2 at *
    simp (disch := first | with_reducible assumption | omega | with_reducible exact size_le (by omega) | decide | (simp only [List.length_cons, List.length_nil, List.length_append]; first | omega | with_reducible exact size_le (by omega)) | exact ⟨by simp only [List.length_cons, List.length_nil]; omega, by decide⟩ | fail) [-getElem?_pos, -getElem?_neg, -Int.natCast_add, le_size, rngR_ok, mul_int, mod_int, div_int, pow_int, add_str, len_str, len_refU, idx_refU, any_refU, all_refU, in_refU, in_tupU, okTo_appU, append_U, it_refU, join_refU, add_refU, isi_refU, idx_str, slc_str, str_int, int_str, meOf, List.lookup, fldOf, putN, putR_ok, List.getElem?_cons_zero, List.getElem?_cons_succ, List.getElem?_concat_length, get_app, get_app0, en_refU, mul_refU, tupF_refU, slc_refU, e1, en1, e2, en2]
  have pool : Pool (H1 ++ g2 ++ g3) (.tup [.ref f1, .ref f2]) := ⟨f1, f2, ns1, ns2, rfl, ap_get q1, r2, by omega, by omega, by omega, by omega, n1, n2⟩
  have hG3 : ∃ G, H1 ++ g2 ++ g3 = h ++ G := ⟨g1 ++ (g2 ++ g3), by rw [← hH1]; simp only [List.append_assoc]⟩
  generalize H1 ++ g2 ++ g3 = H3 at *
  generalize hpd : D.tup [D.ref f1, D.ref f2] = pd at *
  clear en1 en2 e1 e2 p1 p2 q1 r2
  -- how deep
  obtain ⟨dp, hdp, edp⟩ := pickI (vs := [1, 1, 2, 2, 3, 4]) (i := m % 6) (by omega) (by show _ < ((6 : Nat) : Int); omega)
  simp only [List.map_cons, List.map_nil] at edp
  have hdp : dp = 1 ∨ dp = 1 ∨ dp = 2 ∨ dp = 2 ∨ dp = 3 ∨ dp = 4 := by simpa using hdp
  obtain ⟨deep, rfl⟩ := Int.eq_ofNat_of_zero_le (a := dp) (by omega)
  have s3 : sSet (stName 4) (mIdx (mLst [(mLit (.int 1)), (mLit (.int 1)), (mLit (.int 2)), (mLit (.int 2)), (mLit (.int 3)), (mLit (.int 4))]) (mBin .Mod (mVar 2) (mLit (.int 6)))) [some sd, some (.int k), some (.int m), some pd, a4, a5, a6, a7, a8, a9, a10, a11] H3
      = .nx [some sd, some (.int k), some (.int m), some pd, some (.int deep), a5, a6, a7, a8, a9, a10, a11] (H3 ++ [.lst [.int 1, .int 1, .int 2, .int 2, .int 3, .int 4]]) := by
    simp (disch := first | with_reducible assumption | omega | with_reducible exact size_le (by omega) | decide | (simp only [List.length_cons, List.length_nil, List.length_append]; first | omega | with_reducible exact size_le (by omega)) | exact ⟨by simp only [List.length_cons, List.length_nil]; omega, by decide⟩ | fail) [-getElem?_pos, -getElem?_neg, -Int.natCast_add, le_size, rngR_ok, mul_int, mod_int, div_int, pow_int, add_str, len_str, len_refU, idx_refU, any_refU, all_refU, in_refU, in_tupU, okTo_appU, append_U, it_refU, join_refU, add_refU, isi_refU, idx_str, slc_str, str_int, int_str, meOf, List.lookup, fldOf, putN, putR_ok, List.getElem?_cons_zero, List.getElem?_cons_succ, List.getElem?_concat_length, get_app, get_app0, en_refU, mul_refU, tupF_refU, slc_refU, edp]
  have pool4 : Pool (H3 ++ [.lst [.int 1, .int 1, .int 2, .int 2, .int 3, .int 4]]) pd := pool.app
  have hG4 : ∃ G, H3 ++ [.lst [.int 1, .int 1, .int 2, .int 2, .int 3, .int 4]] = h ++ G := by
    obtain ⟨G, e⟩ := hG3
    exact ⟨G ++ [.lst [.int 1, .int 1, .int 2, .int 2, .int 3, .int 4]], by rw [e, List.append_assoc]⟩
  generalize H3 ++ [.lst [.int 1, .int 1, .int 2, .int 2, .int 3, .int 4]] = H4 at *
  -- the term
  have e3 : callN T 204 0 [.int m, .int 3] H4 = .ok (.int (drawn m 3)) H4 := c_drawn 203 m 3 H4 lm (by decide)
  have b3 := drawn_nn m 3
  have b3' := drawn_lt m 3
  obtain ⟨b, eb⟩ : ∃ b, dIdx (.str [110, 115]) (.int (m / 8 % 2)) H4 = .ok (.str (kdX b)) H4 := by
    rcases (by omega : m / 8 % 2 = 0 ∨ m / 8 % 2 = 1) with q | q
    · exact ⟨false, by rw [q]; rfl⟩
    · exact ⟨true, by rw [q]; rfl⟩
  obtain ⟨od, hod, ho, ho2⟩ : ∃ od : Int, dBin .Mult (.int (m / 16 % 2)) (.int 9) H4 = .ok (.int od) H4 ∧ 0 ≤ od ∧ od < 1000000 := by
    rcases (by omega : m / 16 % 2 = 0 ∨ m / 16 % 2 = 1) with q | q
    · exact ⟨0, by rw [q]; rfl, by decide, by decide⟩
    · exact ⟨9, by rw [q]; rfl, by decide, by decide⟩
  obtain ⟨t1, g5, v1, z1, et1⟩ := (DrawT.up (k := 0) (k' := 204) (deep := deep) (fun k => c_term deep k) (by omega)) (drawn m 3) od b pd H4 b3 (by omega) ho ho2 pool4
  have s4 : sSet (stName 5) (mCall (callN T 204) 5 [(mCall (callN T 204) 0 [(mVar 2), (mLit (.int 3))]), (mVar 4), (mIdx (mLit (.str [110, 115])) (mBin .Mod (mBin .FloorDiv (mVar 2) (mLit (.int 8))) (mLit (.int 2)))), (mVar 3), (mBin .Mult (mBin .Mod (mBin .FloorDiv (mVar 2) (mLit (.int 16))) (mLit (.int 2))) (mLit (.int 9)))]) [some sd, some (.int k), some (.int m), some pd, some (.int deep), a5, a6, a7, a8, a9, a10, a11] H4
      = .nx [some sd, some (.int k), some (.int m), some pd, some (.int deep), some (tmD t1), a6, a7, a8, a9, a10, a11] (H4 ++ g5) := by
    generalize hH5 : H4 ++ g5 = H5 at *
    simp (disch := first | omega | decide | exact ⟨by omega, by decide⟩) only [s_set, v_call, v_cons, v_nil, v_var, v_lit, v_idx, v_bin, List.getElem?_cons_zero, List.getElem?_cons_succ, varR_ok, bind_ok, bindO_ok, e3, div_int, mod_int, eb, hod, et1, stName_ok, setO_ok, List.set_cons_zero, List.set_cons_succ]
  have pool5 : Pool (H4 ++ g5) pd := pool4.app
  have hG5 : ∃ G, H4 ++ g5 = h ++ G := by
    obtain ⟨G, e⟩ := hG4
    exact ⟨G ++ g5, by rw [e, List.append_assoc]⟩
  generalize H4 ++ g5 = H5 at *
  -- or a tower
  obtain ⟨t, d, g6, v, hd, hz, s5⟩ : ∃ t d g6, VT t d ∧ d ≤ 20 ∧ tsz t ≤ 300 ∧ sIf (mCmp .Eq (mBin .Mod (mBin .FloorDiv (mVar 2) (mLit (.int 32))) (mLit (.int 3))) (mLit (.int 0))) (sSeq (sSet (stName 5) (mCall (callN T 204) 13 [(mCall (callN T 204) 4 [(mBin .FloorDiv (mVar 2) (mLit (.int 128))), (mLit (.str [110])), (mVar 3)]), (mBin .FloorDiv (mVar 2) (mBin .Pow (mLit (.int 2)) (mLit (.int 20))))])) sNext) sNext [some sd, some (.int k), some (.int m), some pd, some (.int deep), some (tmD t1), a6, a7, a8, a9, a10, a11] H5
      = .nx [some sd, some (.int k), some (.int m), some pd, some (.int deep), some (tmD t), a6, a7, a8, a9, a10, a11] (H5 ++ g6) := by
    by_cases q : m / 32 % 3 = 0
    · obtain ⟨t2, g6, v2, z2, e6⟩ := c_leaf (n := 201) (b := false) (more := m / 128) (by omega) (by omega) pool5
      obtain ⟨t3, g7, v3, z3, e7⟩ := c_tower (k := 202) (more := m / 1048576) (by omega) (by omega) v2 (H5 ++ g6)
      have e6 : callN T 204 4 [.int (m / 128), .str (kdX false), pd] H5 = .ok (tmD t2) (H5 ++ g6) := e6
      have e7 : callN T 204 13 [tmD t2, .int (m / 1048576)] (H5 ++ g6) = .ok (tmD t3) (H5 ++ g6 ++ g7) := e7
      refine ⟨t3, 20, g6 ++ g7, v3, by decide, by omega, ?_⟩
      rw [← List.append_assoc]
      generalize H5 ++ g6 ++ g7 = H7 at *
      generalize H5 ++ g6 = H6 at *
      simp (disch := first | with_reducible assumption | omega | with_reducible exact size_le (by omega) | decide | (simp only [List.length_cons, List.length_nil, List.length_append]; first | omega | with_reducible exact size_le (by omega)) | exact ⟨by simp only [List.length_cons, List.length_nil]; omega, by decide⟩ | fail) [-getElem?_pos, -getElem?_neg, -Int.natCast_add, le_size, rngR_ok, mul_int, mod_int, div_int, pow_int, add_str, len_str, len_refU, idx_refU, any_refU, all_refU, in_refU, in_tupU, okTo_appU, append_U, it_refU, join_refU, add_refU, isi_refU, idx_str, slc_str, str_int, int_str, meOf, List.lookup, fldOf, putN, putR_ok, List.getElem?_cons_zero, List.getElem?_cons_succ, List.getElem?_concat_length, get_app, get_app0, en_refU, mul_refU, tupF_refU, slc_refU, q, show ([110] : Tx) = kdX false from rfl, e6, p20, e7]
    · refine ⟨t1, deep + 1, [], v1, by omega, ?_, ?_⟩
      · have : 4 ^ deep ≤ 4 ^ 4 := Nat.pow_le_pow_right (by decide) (by omega)
        omega
      · simp (disch := first | with_reducible assumption | omega | with_reducible exact size_le (by omega) | decide | (simp only [List.length_cons, List.length_nil, List.length_append]; first | omega | with_reducible exact size_le (by omega)) | exact ⟨by simp only [List.length_cons, List.length_nil]; omega, by decide⟩ | fail) [-getElem?_pos, -getElem?_neg, -Int.natCast_add, le_size, rngR_ok, mul_int, mod_int, div_int, pow_int, add_str, len_str, len_refU, idx_refU, any_refU, all_refU, in_refU, in_tupU, okTo_appU, append_U, it_refU, join_refU, add_refU, isi_refU, idx_str, slc_str, str_int, int_str, meOf, List.lookup, fldOf, putN, putR_ok, List.getElem?_cons_zero, List.getElem?_cons_succ, List.getElem?_concat_length, get_app, get_app0, en_refU, mul_refU, tupF_refU, slc_refU, q]
  have hG6 : ∃ G, H5 ++ g6 = h ++ G := by
    obtain ⟨G, e⟩ := hG5
    exact ⟨G ++ g6, by rw [e, List.append_assoc]⟩
  generalize H5 ++ g6 = H6 at *
  -- written, typed
  obtain ⟨g7, e7⟩ := due_ok v (204 - 2 * d) H6 (by omega)
  rw [show 204 - 2 * d + 2 * d = 204 by omega] at e7
  obtain ⟨g8, e8⟩ := c_written v hd (200 - 2 * d) (H6 ++ g7) (by omega)
  rw [show 200 - 2 * d + 2 * d + 4 = 204 by omega] at e8
  obtain ⟨g9, e9⟩ := typed_ok v (204 - d) (H6 ++ g7 ++ g8) (by omega)
  rw [show 204 - d + d = 204 by omega] at e9
  have s6 : sSet (stName 6) (mCall (callN T 204) 8 [(mVar 5)]) [some sd, some (.int k), some (.int m), some pd, some (.int deep), some (tmD t), a6, a7, a8, a9, a10, a11] H6
      = .nx [some sd, some (.int k), some (.int m), some pd, some (.int deep), some (tmD t), some (.str (wr t)), a7, a8, a9, a10, a11] (H6 ++ g7) := by
    generalize H6 ++ g7 = H7 at *
    simp (disch := first | with_reducible assumption | omega | with_reducible exact size_le (by omega) | decide | (simp only [List.length_cons, List.length_nil, List.length_append]; first | omega | with_reducible exact size_le (by omega)) | exact ⟨by simp only [List.length_cons, List.length_nil]; omega, by decide⟩ | fail) [-getElem?_pos, -getElem?_neg, -Int.natCast_add, le_size, rngR_ok, mul_int, mod_int, div_int, pow_int, add_str, len_str, len_refU, idx_refU, any_refU, all_refU, in_refU, in_tupU, okTo_appU, append_U, it_refU, join_refU, add_refU, isi_refU, idx_str, slc_str, str_int, int_str, meOf, List.lookup, fldOf, putN, putR_ok, List.getElem?_cons_zero, List.getElem?_cons_succ, List.getElem?_concat_length, get_app, get_app0, en_refU, mul_refU, tupF_refU, slc_refU, e7]
  have s7 : sIf (mCmp .NotEq (mTold tldf (mCall (callN T 204) 26 [(mVar 5)])) (mVar 6)) (sSeq (sRet (mLit (.bl false))) sNext) sNext [some sd, some (.int k), some (.int m), some pd, some (.int deep), some (tmD t), some (.str (wr t)), a7, a8, a9, a10, a11] (H6 ++ g7)
      = .nx [some sd, some (.int k), some (.int m), some pd, some (.int deep), some (tmD t), some (.str (wr t)), a7, a8, a9, a10, a11] (H6 ++ g7 ++ g8) := by
    generalize H6 ++ g7 ++ g8 = H8 at *
    generalize H6 ++ g7 = H7 at *
    simp (disch := first | with_reducible assumption | omega | with_reducible exact size_le (by omega) | decide | (simp only [List.length_cons, List.length_nil, List.length_append]; first | omega | with_reducible exact size_le (by omega)) | exact ⟨by simp only [List.length_cons, List.length_nil]; omega, by decide⟩ | fail) [-getElem?_pos, -getElem?_neg, -Int.natCast_add, le_size, rngR_ok, mul_int, mod_int, div_int, pow_int, add_str, len_str, len_refU, idx_refU, any_refU, all_refU, in_refU, in_tupU, okTo_appU, append_U, it_refU, join_refU, add_refU, isi_refU, idx_str, slc_str, str_int, int_str, meOf, List.lookup, fldOf, putN, putR_ok, List.getElem?_cons_zero, List.getElem?_cons_succ, List.getElem?_concat_length, get_app, get_app0, en_refU, mul_refU, tupF_refU, slc_refU, v_told, e8]
  have s8 : sSet (stName 7) (mCall (callN T 204) 9 [(mVar 5)]) [some sd, some (.int k), some (.int m), some pd, some (.int deep), some (tmD t), some (.str (wr t)), a7, a8, a9, a10, a11] (H6 ++ g7 ++ g8)
      = .nx [some sd, some (.int k), some (.int m), some pd, some (.int deep), some (tmD t), some (.str (wr t)), some (.str (ty t)), a8, a9, a10, a11] (H6 ++ g7 ++ g8 ++ g9) := by
    generalize H6 ++ g7 ++ g8 ++ g9 = H9 at *
    generalize H6 ++ g7 ++ g8 = H8 at *
    simp (disch := first | with_reducible assumption | omega | with_reducible exact size_le (by omega) | decide | (simp only [List.length_cons, List.length_nil, List.length_append]; first | omega | with_reducible exact size_le (by omega)) | exact ⟨by simp only [List.length_cons, List.length_nil]; omega, by decide⟩ | fail) [-getElem?_pos, -getElem?_neg, -Int.natCast_add, le_size, rngR_ok, mul_int, mod_int, div_int, pow_int, add_str, len_str, len_refU, idx_refU, any_refU, all_refU, in_refU, in_tupU, okTo_appU, append_U, it_refU, join_refU, add_refU, isi_refU, idx_str, slc_str, str_int, int_str, meOf, List.lookup, fldOf, putN, putR_ok, List.getElem?_cons_zero, List.getElem?_cons_succ, List.getElem?_concat_length, get_app, get_app0, en_refU, mul_refU, tupF_refU, slc_refU, e9]
  have hG9 : ∃ G, H6 ++ g7 ++ g8 ++ g9 = h ++ G := by
    obtain ⟨G, e⟩ := hG6
    exact ⟨G ++ g7 ++ g8 ++ g9, by rw [e]; simp only [List.append_assoc]⟩
  obtain ⟨K, hK⟩ : ∃ K : Nat, 1 + m / 1073741824 % 30 = K := Int.eq_ofNat_of_zero_le (by omega)
  have hK2 : K ≤ 30 := by omega
  obtain ⟨k1, k2, k3, k4, k5⟩ := asks_all v hd hz hK2
  generalize H6 ++ g7 ++ g8 ++ g9 = H9 at *
  have s9 : sSet (stName 8) (mBin .Add (mLit (.int 1)) (mBin .Mod (mBin .FloorDiv (mVar 2) (mBin .Pow (mLit (.int 2)) (mLit (.int 30)))) (mLit (.int 30)))) [some sd, some (.int k), some (.int m), some pd, some (.int deep), some (tmD t), some (.str (wr t)), some (.str (ty t)), a8, a9, a10, a11] H9
      = .nx [some sd, some (.int k), some (.int m), some pd, some (.int deep), some (tmD t), some (.str (wr t)), some (.str (ty t)), some (.int (1 + m / 1073741824 % 30)), a9, a10, a11] H9 := by
    simp (disch := first | with_reducible assumption | omega | with_reducible exact size_le (by omega) | decide | (simp only [List.length_cons, List.length_nil, List.length_append]; first | omega | with_reducible exact size_le (by omega)) | exact ⟨by simp only [List.length_cons, List.length_nil]; omega, by decide⟩ | fail) [-getElem?_pos, -getElem?_neg, -Int.natCast_add, le_size, rngR_ok, mul_int, mod_int, div_int, pow_int, add_str, len_str, len_refU, idx_refU, any_refU, all_refU, in_refU, in_tupU, okTo_appU, append_U, it_refU, join_refU, add_refU, isi_refU, idx_str, slc_str, str_int, int_str, meOf, List.lookup, fldOf, putN, putR_ok, List.getElem?_cons_zero, List.getElem?_cons_succ, List.getElem?_concat_length, get_app, get_app0, en_refU, mul_refU, tupF_refU, slc_refU, p30]
  have wl := wr_len v
  have rl := rp_len (wr t).length (wr t) (Nat.le_refl _)
  have rr : ∀ x : DH, replR [32, 32] [32, 40] [32, 32, 40, 32] (.str (wr t)) x = .ok (.str ([32, 32] ++ rp (wr t))) x := fun x => by
    rw [replR_ok, rp_eq]
    refine ⟨by simp only [List.length_cons, List.length_nil]; omega, ?_⟩
    rw [rp_eq]
    exact size_le (by simp only [List.length_cons, List.length_nil]; omega)
  have m1 : ∀ x : DH, dBin .Mult (.str [40]) (.int (1 + m / 1073741824 % 30)) x = .ok (.str (List.replicate K [40]).flatten) x := fun x => rep1 hK (by omega)
  have m2 : ∀ x : DH, dBin .Mult (.str [32, 41]) (.int (1 + m / 1073741824 % 30)) x = .ok (.str (List.replicate K [32, 41]).flatten) x := fun x => rep2 hK (by omega)
  have f1 : (List.replicate K [40]).flatten.length = K := by rw [flat_one, List.length_replicate]
  have f2 : (List.replicate K [32, 41]).flatten.length = 2 * K := by
    have key : ∀ K : Nat, (List.replicate K ([32, 41] : Tx)).flatten.length = 2 * K := by
      intro K
      induction K with
      | zero => rfl
      | succ K ih => rw [List.replicate_succ, List.flatten_cons, List.length_append, ih]; simp; omega
    exact key K
  generalize hP : (List.replicate K [40]).flatten = P at *
  generalize hQ : (List.replicate K [32, 41]).flatten = Q at *
  generalize hA : 1 + m / 1073741824 % 30 = A at *
  generalize hW : wr t = w at *
  generalize hR : rp w = rw' at *
  generalize hT : ty t = tt at *
  have s10 : sSet (stName 9) (mLst [(mVar 6), (mVar 7), (mBin .Add (mRepl [32, 32] [32, 40] [32, 32, 40, 32] (mVar 6)) (mLit (.str [32]))), (mBin .Add (mBin .Add (mBin .Mult (mLit (.str [40])) (mVar 8)) (mVar 6)) (mBin .Mult (mLit (.str [32, 41])) (mVar 8)))]) [some sd, some (.int k), some (.int m), some pd, some (.int deep), some (tmD t), some (.str w), some (.str tt), some (.int A), a9, a10, a11] H9
      = .nx [some sd, some (.int k), some (.int m), some pd, some (.int deep), some (tmD t), some (.str w), some (.str tt), some (.int A), some (.ref H9.length), a10, a11] (H9 ++ [.lst [.str w, .str tt, .str ([32, 32] ++ rw' ++ [32]), .str (P ++ w ++ Q)]]) := by
    have a1 : ∀ x : DH, dBin .Add (.str ([32, 32] ++ rw')) (.str [32]) x = .ok (.str ([32, 32] ++ rw' ++ [32])) x := fun x => add_str (size_le (by simp only [List.length_append, List.length_cons, List.length_nil]; omega))
    have a2 : ∀ x : DH, dBin .Add (.str P) (.str w) x = .ok (.str (P ++ w)) x := fun x => add_str (size_le (by omega))
    have a3 : ∀ x : DH, dBin .Add (.str (P ++ w)) (.str Q) x = .ok (.str (P ++ w ++ Q)) x := fun x => add_str (size_le (by rw [List.length_append]; omega))
    have h4 : (4 ≤ sizeLine) = True := eq_true (size_le (by decide))
    simp only [s_set, v_lst, v_cons, v_nil, v_var, v_lit, v_bin, v_repl, List.getElem?_cons_zero, List.getElem?_cons_succ, varR_ok, bind_ok, bindO_ok, rr, m1, m2, a1, a2, a3, List.length_cons, List.length_nil, Nat.reduceAdd, h4, if_true, stName_ok, setO_ok, List.set_cons_zero, List.set_cons_succ]
  have s11 : sSet (stName 9) (mBin .Add (mVar 9) (mLst [(mBin .Add (mBin .Add (mLit (.str [40, 32])) (mVar 6)) (mLit (.str [41])))])) [some sd, some (.int k), some (.int m), some pd, some (.int deep), some (tmD t), some (.str w), some (.str tt), some (.int A), some (.ref H9.length), a10, a11] (H9 ++ [.lst [.str w, .str tt, .str ([32, 32] ++ rw' ++ [32]), .str (P ++ w ++ Q)]])
      = .nx [some sd, some (.int k), some (.int m), some pd, some (.int deep), some (tmD t), some (.str w), some (.str tt), some (.int A), some (.ref (H9.length + 2)), a10, a11] (H9 ++ [.lst [.str w, .str tt, .str ([32, 32] ++ rw' ++ [32]), .str (P ++ w ++ Q)], .lst [.str ([40, 32] ++ w ++ [41])], .lst [.str w, .str tt, .str ([32, 32] ++ rw' ++ [32]), .str (P ++ w ++ Q), .str ([40, 32] ++ w ++ [41])]]) := by
    generalize [32, 32] ++ rw' ++ [32] = X3 at *
    generalize P ++ w ++ Q = X4 at *
    simp (disch := first | with_reducible assumption | omega | with_reducible exact size_le (by omega) | decide | (simp only [List.length_cons, List.length_nil, List.length_append]; first | omega | with_reducible exact size_le (by omega)) | exact ⟨by simp only [List.length_cons, List.length_nil]; omega, by decide⟩ | fail) [-getElem?_pos, -getElem?_neg, -Int.natCast_add, le_size, rngR_ok, mul_int, mod_int, div_int, pow_int, add_str, len_str, len_refU, idx_refU, any_refU, all_refU, in_refU, in_tupU, okTo_appU, append_U, it_refU, join_refU, add_refU, isi_refU, idx_str, slc_str, str_int, int_str, meOf, List.lookup, fldOf, putN, putR_ok, List.getElem?_cons_zero, List.getElem?_cons_succ, List.getElem?_concat_length, get_app, get_app0, en_refU, mul_refU, tupF_refU, slc_refU]
  have gR : (H9 ++ [O.lst [.str w, .str tt, .str ([32, 32] ++ rw' ++ [32]), .str (P ++ w ++ Q)], .lst [.str ([40, 32] ++ w ++ [41])], .lst [.str w, .str tt, .str ([32, 32] ++ rw' ++ [32]), .str (P ++ w ++ Q), .str ([40, 32] ++ w ++ [41])]])[H9.length + 2]? = some (.lst [.str w, .str tt, .str ([32, 32] ++ rw' ++ [32]), .str (P ++ w ++ Q), .str ([40, 32] ++ w ++ [41])]) := by simp
  have hG10 : ∃ G, H9 ++ [O.lst [.str w, .str tt, .str ([32, 32] ++ rw' ++ [32]), .str (P ++ w ++ Q)], .lst [.str ([40, 32] ++ w ++ [41])], .lst [.str w, .str tt, .str ([32, 32] ++ rw' ++ [32]), .str (P ++ w ++ Q), .str ([40, 32] ++ w ++ [41])]] = h ++ G := by
    obtain ⟨G, e⟩ := hG9
    exact ⟨G ++ [O.lst [.str w, .str tt, .str ([32, 32] ++ rw' ++ [32]), .str (P ++ w ++ Q)], .lst [.str ([40, 32] ++ w ++ [41])], .lst [.str w, .str tt, .str ([32, 32] ++ rw' ++ [32]), .str (P ++ w ++ Q), .str ([40, 32] ++ w ++ [41])]], by rw [e, List.append_assoc]⟩
  generalize H9 ++ [O.lst [.str w, .str tt, .str ([32, 32] ++ rw' ++ [32]), .str (P ++ w ++ Q)], .lst [.str ([40, 32] ++ w ++ [41])], .lst [.str w, .str tt, .str ([32, 32] ++ rw' ++ [32]), .str (P ++ w ++ Q), .str ([40, 32] ++ w ++ [41])]] = HT at *
  obtain ⟨g10, y10, y11, lp⟩ := in_loop v (by omega) (some sd) (some (.int k)) (some (.int m)) (some pd) (some (.int deep)) (some (.str w)) (some (.str tt)) (some (.int A)) (some (.ref (H9.length + 2))) (R := H9.length + 2) (xs := [.str w, .str tt, .str ([32, 32] ++ rw' ++ [32]), .str (P ++ w ++ Q), .str ([40, 32] ++ w ++ [41])]) [(0, w), (1, tt), (2, [32, 32] ++ rw' ++ [32]), (3, P ++ w ++ Q), (4, [40, 32] ++ w ++ [41])] a10 a11 HT (fun q hq => by
    simp only [List.mem_cons, List.not_mem_nil, or_false] at hq
    rcases hq with rfl | rfl | rfl | rfl | rfl
    · exact k1
    · exact k2
    · exact k3
    · exact k4
    · exact k5) gR
  obtain ⟨G, hG⟩ := hG10
  refine ⟨G ++ g10, some (.int m), some pd, some (.int deep), some (tmD t), some (.str w), some (.str tt), some (.int A), some (.ref (H9.length + 2)), y10, y11, ?_⟩
  rw [← List.append_assoc, ← hG]
  simp only [l_law_2]
  rw [s_seq, s1, seqO_nx, s_seq, s2, seqO_nx, s_seq, s3, seqO_nx, s_seq, s4, seqO_nx, s_seq, s5, seqO_nx, s_seq, s6, seqO_nx, s_seq, s7, seqO_nx, s_seq, s8, seqO_nx, s_seq, s9, seqO_nx, s_seq, s10, seqO_nx, s_seq, s11, seqO_nx]
  have en : enumD 0 [D.str w, .str tt, .str ([32, 32] ++ rw' ++ [32]), .str (P ++ w ++ Q), .str ([40, 32] ++ w ++ [41])] = [(0, w), (1, tt), (2, [32, 32] ++ rw' ++ [32]), (3, P ++ w ++ Q), (4, [40, 32] ++ w ++ [41])].map fun q : Int × Tx => D.tup [.int q.1, .str q.2] := rfl
  rw [s_seq, s_for]
  have it : miEn (mVar 9) [some sd, some (.int k), some (.int m), some pd, some (.int deep), some (tmD t), some (.str w), some (.str tt), some (.int A), some (.ref (H9.length + 2)), a10, a11] HT = .ok (enumD 0 [D.str w, .str tt, .str ([32, 32] ++ rw' ++ [32]), .str (P ++ w ++ Q), .str ([40, 32] ++ w ++ [41])], some (H9.length + 2, [D.str w, .str tt, .str ([32, 32] ++ rw' ++ [32]), .str (P ++ w ++ Q), .str ([40, 32] ++ w ++ [41])])) HT := by
    rw [v_en]
    simp only [v_var, List.getElem?_cons_zero, List.getElem?_cons_succ, varR_ok, bind_ok, en_refU, gR, refL_ok]
  rw [it, bindO_ok]
  dsimp only
  rw [en, lp, seqO_nx, s_next]
theorem law_loop {ns : List Int} {sd : D} (hb : Small ns) (hl : ns.length ≤ 63) : ∀ (ks : List D), (∀ d ∈ ks, ∃ k : Int, d = .int k ∧ 0 ≤ k ∧ k ≤ 5) → ∀ (a1 a2 a3 a4 a5 a6 a7 a8 a9 a10 a11 : Option D) (h : DH), Scr ns sd h →
    ∃ y1 y2 y3 y4 y5 y6 y7 y8 y9 y10 y11 h', forL none (stName 1) (l_law_2 (callN T 204)) ks [some sd, a1, a2, a3, a4, a5, a6, a7, a8, a9, a10, a11] h = .nx [some sd, y1, y2, y3, y4, y5, y6, y7, y8, y9, y10, y11] h'
  | [], _, a1, a2, a3, a4, a5, a6, a7, a8, a9, a10, a11, h, _ => ⟨a1, a2, a3, a4, a5, a6, a7, a8, a9, a10, a11, h, forL_nil still_none⟩
  | d :: ks, hk, a1, a2, a3, a4, a5, a6, a7, a8, a9, a10, a11, h, s => by
    obtain ⟨k, rfl, k0, k1⟩ := hk d List.mem_cons_self
    obtain ⟨g, y2, y3, y4, y5, y6, y7, y8, y9, y10, y11, e⟩ := law_body s hb hl k0 k1 a2 a3 a4 a5 a6 a7 a8 a9 a10 a11
    obtain ⟨w1, w2, w3, w4, w5, w6, w7, w8, w9, w10, w11, h2, e2⟩ := law_loop hb hl ks (fun d hd => hk d (List.mem_cons_of_mem _ hd)) (some (.int k)) y2 y3 y4 y5 y6 y7 y8 y9 y10 y11 (h ++ g) (s.keep (Kp.refl (Nat.le_refl _)).app)
    refine ⟨w1, w2, w3, w4, w5, w6, w7, w8, w9, w10, w11, h2, ?_⟩
    rw [forL_cons (e1 := [some sd, some (.int k), a2, a3, a4, a5, a6, a7, a8, a9, a10, a11]) still_none rfl, e, nxt_nx]
    exact e2
theorem c_law {ns : List Int} {sd : D} {h : DH} (s : Scr ns sd h) (hb : Small ns) (hl : ns.length ≤ 63) : ∃ h', callN T 208 49 [sd] h = .ok (.bl true) h' := by
  rw [call_eqL (k := 204) (fn := q49.fn) rfl rfl]
  simp only [Def1.fn, q49, b_law]
  have sl := scr_len s
  obtain ⟨N, hN⟩ : ∃ N : Int, (ns.length : Int) = N := ⟨_, rfl⟩
  rw [hN] at sl
  obtain ⟨m1, hm1⟩ : ∃ m1 : Int, (if N < 3 then N else 3) = m1 := ⟨_, rfl⟩
  have hm1b : m1 ≤ 3 ∧ 0 ≤ m1 := by
    rw [← hm1]
    split <;> omega
  obtain ⟨m2, hm2⟩ : ∃ m2 : Int, (if m1 > 1 then m1 else 1) = m2 := ⟨_, rfl⟩
  have hm2b : m2 ≤ 3 ∧ 1 ≤ m2 := by
    rw [← hm2]
    split <;> omega
  obtain ⟨y1, y2, y3, y4, y5, y6, y7, y8, y9, y10, y11, h', e⟩ := law_loop hb hl (rangeD 0 m2.toNat) (fun d hd => by
    unfold rangeD at hd
    obtain ⟨j, hj, rfl⟩ := List.mem_map.mp hd
    rw [List.mem_range] at hj
    exact ⟨_, rfl, by omega, by omega⟩) none none none none none none none none none none none h s
  have rr : rngR (.int m2) h = .ok (rangeD 0 m2.toNat, none) h := rngR_ok (by omega)
  refine ⟨h', ?_⟩
  have e6 : dBi .min [.int 3, .int N] h = .ok (.int m1) h := by rw [min_int, hm1]
  have e7 : dBi .max [.int 1, .int m1] h = .ok (.int m2) h := by rw [max_int, hm2]
  simp (disch := first | with_reducible assumption | omega | with_reducible exact size_le (by omega) | decide | (simp only [List.length_cons, List.length_nil, List.length_append]; first | omega | with_reducible exact size_le (by omega)) | exact ⟨by simp only [List.length_cons, List.length_nil]; omega, by decide⟩ | fail) [-getElem?_pos, -getElem?_neg, -Int.natCast_add, le_size, rngR_ok, mul_int, mod_int, div_int, pow_int, add_str, len_str, len_refU, idx_refU, any_refU, all_refU, in_refU, in_tupU, okTo_appU, append_U, it_refU, join_refU, add_refU, isi_refU, idx_str, slc_str, str_int, int_str, meOf, List.lookup, fldOf, putN, putR_ok, List.getElem?_cons_zero, List.getElem?_cons_succ, List.getElem?_concat_length, get_app, get_app0, en_refU, mul_refU, tupF_refU, slc_refU, sl, -min_int, -max_int, e6, e7, rr, e]
theorem law_D : LawD T 208 49 63 := fun ns sd h0 hl hb hs => c_law (ns := ns) (by
  rcases hs with ⟨rfl, rfl⟩ | ⟨rfl, rfl⟩
  · exact .inl rfl
  · exact .inr ⟨0, rfl, rfl⟩) (small_of hb) hl
end K20

namespace K20
open PySem PySem.Spec PyProof.Rows L2 Mp
def loose : List Str := (["SpeakError", "BadToken", "BadTerm", "BadDeed", "BadRow", "BadPicture", "Fault", "MOST_SIGNS", "MOST_FIGURES", "MOST_NAME", "CAPITALS", "FIGURES", "WORDS", "MARKS", "BARRED", "need", "need_tokens", "is_sign", "Signs", "tokens_of"] : List Str) ++ (["MOST_NUMBER", "MOST_TEXT", "MOST_WITHIN", "KINDS", "COMPARING", "STRENGTHS", "NOT_STRENGTH", "COMPARING_STRENGTH", "MINUS_STRENGTH", "PLAIN_STRENGTH", "need_terms", "is_count", "is_name", "is_text", "strength_of", "is_operator", "need_all", "need_term", "strength", "within"] : List Str) ++ (["plain_text", "written_term", "Reader", "term_by", "term_of", "_law_cell", "_law_drawn", "_law_word", "_law_told", "_law_signs", "_law_text", "_law_barred", "_law_names", "_law_leaf", "_law_term", "_law_joined", "_law_typed", "_law_strength", "_law_part", "_law_due"] : List Str) ++ (["_law_tower"] : List Str)
abbrev rw_ : PySem.W.OpenRow := PySem.W.OpenLaw.row PySem.Challenge.rw_rowspeak_k20_terms_written_and_read
noncomputable abbrev hk : PySem.W.Hook := He.hookX 6 prg.fa prg.fn prg.ts prg.tf prg.ex
noncomputable def ob (s : PySem.W.SharedT) : He.AlX := He.obsX 6 prg.fa prg.fn prg.ts prg.tf prg.ex (HandSHeadRun.getT s)
theorem ob_eq (s : PySem.W.SharedT) : ob s = hk.obs s.abs := He.obsX_eq (HandSHeadRun.getT_eq s)
theorem run_false (w : World) : HandSHeadRun.RunEq rw_ (PySem.W.view rw_.prog [66]) hk ob 20000 loose (w.withFollow "special-get-raises" false) := by
  intro os
  kernel_rfl
theorem run_true (w : World) : HandSHeadRun.RunEq rw_ (PySem.W.view rw_.prog [66]) hk ob 20000 loose (w.withFollow "special-get-raises" true) := by
  intro os
  kernel_rfl
theorem run (w : World) : HandSHeadRun.RunEq rw_ (PySem.W.view rw_.prog [66]) hk ob 20000 loose w := PySem.W.byRow2 "special-get-raises" (P := fun w => HandSHeadRun.RunEq rw_ (PySem.W.view rw_.prog [66]) hk ob 20000 loose w) run_false run_true w
end K20
open PySem PySem.W PySem.Calls PyProof.Rows
theorem K20.of_law (LD : Mp.LawD (K20.prg.defs.map Mp.Def1.fn) 208 49 63) : PySem.Challenge.rw_rowspeak_k20_terms_written_and_read.Holds := by
  w_on; o_law
  refine HandSHeadRun.head_any (r := OpenLaw.row PySem.Challenge.rw_rowspeak_k20_terms_written_and_read) (q := view (OpenLaw.row PySem.Challenge.rw_rowspeak_k20_terms_written_and_read).prog [66]) (H := K20.hk) (ob := K20.ob) (M := 20000) (loose := K20.loose) (d := HandSHeadRun.topDef (OpenLaw.row PySem.Challenge.rw_rowspeak_k20_terms_written_and_read).prog 66) (kwd := []) K20.ob_eq
    (by kernel_rfl) (fun s => by kernel_rfl) K20.run (by kernel_rfl) (by kernel_rfl) (by kernel_rfl) (by rfl) (by first | assumption | decide +kernel) (by decide +kernel) ⟨rfl, rfl, rfl, rfl, rfl, by decide +kernel⟩ ?hw ?hc
  case hw => w_witness2
  case hc =>
    refine LamX.walk_ofTsE (l := PySem.Challenge.rw_rowspeak_k20_terms_written_and_read) (n := 63) (k := 208 + 2) (x := "script") (CX := fun w => L2N.CX (PySem.Challenge.rw_rowspeak_k20_terms_written_and_read).prog w) rfl (by decide) (by kernel_rfl) ⟨rfl, by decide, by decide⟩ ?F (fun _ _ _ _ _ ⟨_, _, _, _, _, _, _, _, _, _, _, _, z⟩ => z)
    intro w mg fa h Y G hmg0
    obtain ⟨K, KX, c⟩ := Y
    have hmg : mg ("law" : PySem.Str) = some (.ref fa) := by
      have e : (HandSHeadRun.topDef (OpenLaw.row PySem.Challenge.rw_rowspeak_k20_terms_written_and_read).prog 66).name = ("law" : PySem.Str) := by kernel_rfl
      rw [← e]
      exact hmg0
    exact ⟨K, KX, Mp.lawAt KX G hmg c K20.okb K20.oks K20.oTold (q := K20.q49) rfl rfl rfl LD⟩

theorem PySem.Challenge.cw_rowspeak_k20_terms_written_and_read_holds : PySem.Challenge.rw_rowspeak_k20_terms_written_and_read.Holds := by
  exact K20.of_law K20.law_D
