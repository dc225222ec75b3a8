import PyProof.Rows.All
import Wide.All
import OpenK.AllK
import Wide.FinOn
import HandS.ForMost
import HandS.Exc
import HandS.ExcCtx
import HandS.TryOnly
import HandS.ExcOwn
import HandS.WordsExc
import HandS.Wide
import HandS.IsInst
import HandS.StrMore
import HandS.TupMul
import HandS.TupAny
import HandS.Lambda
import HandS.Dict
import KE.KeyNested
import PyProof.DictRoadsH
import HandS.Deep
import HandS.HeadWalk
import HandS.RaiseMore
import HandS.HeadHook1
import HandS.Hot
import HandS.HotCalls
import HandS.ExcIs
import PyProof.Rows.SumAny
import KE.KExcIs
import HandS.ExcField
import HandS.ExcInit
import HandS.ExcInitHot
import KE.GoesEnum
import HandS.HeadHook4
import HandS.ReplaceLit
import HandS.Zip
import HandS.Defaults
import HandS.Head2
import HandS.HeadEnd
import PySem.Challenge.RW_rowspeak_k30_stores
set_option Elab.async false
set_option linter.all false
set_option maxRecDepth 100000
set_option maxHeartbeats 0
/-! Mp1: a small Python over plain data: values, a heap of lists, dicts and instances, and a combinator for each construct. -/
namespace Mp
open PySem L2

abbrev Tx := List Nat
inductive D where
  | non | bl (b : Bool) | int (i : Int) | str (x : Tx) | tup (xs : List D) | frl (xs : List D) | ref (i : Nat)
inductive O where
  | lst (xs : List D) | dic (kvs : List (D × D)) | dct (kvs : List (D × D)) | ins (c : Nat) (fs : List (Nat × D))
abbrev DH := List O
/-! ### keys of dicts: ints and texts (dic), tuples of such, nested (dct) -/
mutual
def D.keq : D → D → Bool
  | .non, y => match y with | .non => true | _ => false
  | .int i, y => match y with | .int j => decide (i = j) | _ => false
  | .str x, y => match y with | .str z => decide (x = z) | _ => false
  | .tup xs, y => match y with | .tup ys => D.keqs xs ys | _ => false
  | .bl _, _ => false
  | .frl _, _ => false
  | .ref _, _ => false
def D.keqs : List D → List D → Bool
  | [], ys => match ys with | [] => true | _ :: _ => false
  | x :: xs, ys => match ys with | [] => false | y :: zs => D.keq x y && D.keqs xs zs
end
mutual
def D.nk : D → Option NestedKey
  | .non => some .none
  | .int i => some (.num i)
  | .str x => some (.text ⟨x.toArray⟩)
  | .tup xs => (D.nks xs).map .tup
  | .bl _ => none
  | .frl _ => none
  | .ref _ => none
def D.nks : List D → Option (List NestedKey)
  | [] => some []
  | x :: xs => (D.nk x).bind fun k => (D.nks xs).map fun ks => k :: ks
end
def D.tk (d : D) : Bool := match d with
  | .tup xs => match D.nk (.tup xs) with
    | some k => decide (k.depth ≤ 8)
    | none => false
  | _ => false
def dLk (kvs : List (D × D)) (k : D) : Option D := (kvs.find? fun p => D.keq p.1 k).map (·.2)
def dPut (kvs : List (D × D)) (k v : D) : List (D × D) := if (dLk kvs k).isSome then kvs.map fun p => if D.keq p.1 k then (p.1, v) else p else kvs ++ [(k, v)]
/-- what a dict holds at a key -/
def dGetO : O → D → Option (Option D)
  | .dic kvs, .int i => some (dLk kvs (.int i))
  | .dic kvs, .str x => some (dLk kvs (.str x))
  | .dic [], .tup ks => if D.tk (.tup ks) then some none else none
  | .dct kvs, .tup ks => if D.tk (.tup ks) then some (dLk kvs (.tup ks)) else none
  | _, _ => none
def dPutO : O → D → D → Option O
  | .dic kvs, .int i, v => if kvs.length < sizeLine then some (.dic (dPut kvs (.int i) v)) else none
  | .dic kvs, .str x, v => if kvs.length < sizeLine then some (.dic (dPut kvs (.str x) v)) else none
  | .dic [], .tup ks, v => if D.tk (.tup ks) then some (.dct [(.tup ks, v)]) else none
  | .dct kvs, .tup ks, v => if D.tk (.tup ks) && decide (kvs.length < sizeLine) then some (.dct (dPut kvs (.tup ks) v)) else none
  | _, _, _ => none
abbrev En := List (Option D)
inductive Rs (α : Type) where
  | ok (d : α) (h : DH) | exc (c : Nat) (w : Option D) (h : DH) | err
abbrev Res := Rs D
inductive Out where
  | nx (e : En) (h : DH) | rt (d : D) (h : DH) | bk (e : En) (h : DH) | ct (e : En) (h : DH) | exc (c : Nat) (w : Option D) (e : En) (h : DH) | err
abbrev M := En → DH → Res
abbrev Ms := En → DH → Out
abbrev CL := Nat → List D → DH → Res

def Rs.bind {α β : Type} (r : Rs α) (f : α → DH → Rs β) : Rs β := match r with
  | .ok d h => f d h
  | .exc c w h => .exc c w h
  | .err => .err
def Rs.bindO {α : Type} (r : Rs α) (e : En) (f : α → DH → Out) : Out := match r with
  | .ok d h => f d h
  | .exc c w h => .exc c w e h
  | .err => .err
section
variable {α β : Type}
@[simp] theorem bind_ok (d : α) (h : DH) (f : α → DH → Rs β) : (Rs.ok d h).bind f = f d h := rfl
@[simp] theorem bind_exc (c : Nat) (w : Option D) (h : DH) (f : α → DH → Rs β) : (Rs.exc c w h : Rs α).bind f = .exc c w h := rfl
@[simp] theorem bind_err (f : α → DH → Rs β) : (Rs.err : Rs α).bind f = .err := rfl
@[simp] theorem bindO_ok (d : α) (h : DH) (e : En) (f : α → DH → Out) : (Rs.ok d h).bindO e f = f d h := rfl
@[simp] theorem bindO_exc (c : Nat) (w : Option D) (h : DH) (e : En) (f : α → DH → Out) : (Rs.exc c w h : Rs α).bindO e f = .exc c w e h := rfl
@[simp] theorem bindO_err (e : En) (f : α → DH → Out) : (Rs.err : Rs α).bindO e f = .err := rfl
end

/-! ### arguments -/
def evL : List M → En → DH → Rs (List D)
  | [], _, h => .ok [] h
  | m :: r, e, h => (m e h).bind fun d h1 => (evL r e h1).bind fun ds h2 => .ok (d :: ds) h2

/-! ### pure data as the library's -/
mutual
def pyD : D → Option PyData
  | .non => some .none
  | .bl b => some (.bool b)
  | .int i => some (.int i)
  | .str x => some (.str ⟨x.toArray⟩)
  | .tup xs => (pyL xs).map .tuple
  | .frl xs => (pyL xs).map .list
  | .ref _ => none
def pyL : List D → Option (List PyData)
  | [] => some []
  | x :: xs => match pyD x, pyL xs with
    | some a, some b => some (a :: b)
    | _, _ => none
end
def pyR (h : DH) : D → Option PyData
  | .ref i => match h[i]? with
    | some (.lst xs) => (pyL xs).map .list
    | _ => none
  | d => pyD d
def dEqD (x y : D) (h : DH) : Option Bool := match pyR h x, pyR h y with
  | some a, some b => if SeqAt.shaped a && SeqAt.shaped b then some (PyData.eqv a b) else none
  | _, _ => none
def dEq (x y : D) (h : DH) : Option Bool := match x, y with
  | .str a, .str b => some (decide (a = b))
  | x, y => dEqD x y h

def sInt (i : Int) : Tx := (Str.ofString (toString i)).cps.toList
def cutG {α : Type} (xs : List α) (lo hi : Option Int) : List α := (xs.drop (HT.sIx xs.length 0 lo)).take (HT.sIx xs.length xs.length hi - HT.sIx xs.length 0 lo)
def boolB (b : Bool) (h : DH) : Res := .ok (.bl b) h
def optB (o : Option Bool) (h : DH) : Res := match o with
  | some b => .ok (.bl b) h
  | none => .err

/-! ### operators -/
def dAdd : D → D → DH → Res
  | .int i, .int j, h => .ok (.int (i + j)) h
  | .str x, .str y, h => if x.length + y.length ≤ sizeLine then .ok (.str (x ++ y)) h else .err
  | .ref i, .ref j, h => match h[i]?, h[j]? with
    | some (.lst xs), some (.lst ys) => if xs.length + ys.length ≤ sizeLine then .ok (.ref h.length) (h ++ [.lst (xs ++ ys)]) else .err
    | _, _ => .err
  | .tup xs, .tup ys, h => if xs.length + ys.length ≤ sizeLine then .ok (.tup (xs ++ ys)) h else .err
  | _, _, _ => .err
def dSub : D → D → DH → Res
  | .int i, .int j, h => .ok (.int (i - j)) h
  | _, _, _ => .err
def dMul : D → D → DH → Res
  | .int i, .int j, h => if i.natAbs.log2 + j.natAbs.log2 < 100000000 then .ok (.int (i * j)) h else .err
  | .str x, .int j, h => if j < 2 ^ 62 ∧ -(2 ^ 62) < j ∧ x.length * j.toNat ≤ sizeLine then .ok (.str (List.replicate j.toNat x).flatten) h else .err
  | .tup xs, .int j, h => if 1 ≤ j ∧ j ≤ 1000 ∧ 1 ≤ xs.length ∧ xs.length ≤ 1000 then .ok (.tup (List.replicate j.toNat xs).flatten) h else .err
  | .ref i, .int j, h => match h[i]? with
    | some (.lst xs) => if j < 2 ^ 62 ∧ -(2 ^ 62) < j ∧ xs.length * j.toNat ≤ sizeLine then .ok (.ref h.length) (h ++ [.lst (List.replicate j.toNat xs).flatten]) else .err
    | _ => .err
  | _, _, _ => .err
def dMod : D → D → DH → Res
  | .int i, .int j, h => if 0 < j then .ok (.int (i % j)) h else if j ≠ 0 then .ok (.int (i.fmod j)) h else .err
  | _, _, _ => .err
def dDiv : D → D → DH → Res
  | .int i, .int j, h => if 0 < j ∧ j.natAbs.log2 < 9000 then .ok (.int (i / j)) h else .err
  | _, _, _ => .err
def dPow : D → D → DH → Res
  | .int i, .int j, h => if 0 ≤ j ∧ j ≤ 1000000 ∧ i.natAbs < 2 ^ 64 then .ok (.int (i ^ j.toNat)) h else .err
  | _, _, _ => .err
def dBin : Operator → D → D → DH → Res
  | .Add => dAdd
  | .Sub => dSub
  | .Mult => dMul
  | .Mod => dMod
  | .FloorDiv => dDiv
  | .Pow => dPow
  | _ => fun _ _ _ => .err

/-! ### comparisons -/
def strsOf : List D → Option (List Tx)
  | [] => some []
  | .str x :: r => (strsOf r).map fun l => x :: l
  | _ :: _ => none
def bolsOf : List D → Option (List Bool)
  | [] => some []
  | .bl x :: r => (bolsOf r).map fun l => x :: l
  | _ :: _ => none
def intsOf : List D → Option (List Int)
  | [] => some []
  | .int x :: r => (intsOf r).map fun l => x :: l
  | _ :: _ => none
def orI : Option Bool → Option (List Tx) → Option Bool
  | some b, _ => some b
  | none, some _ => some false
  | none, none => none
def inI (i : Int) (ys : List D) : Option Bool := orI ((intsOf ys).map fun zs => decide (i ∈ zs)) (strsOf ys)
def dIn (x y : D) (h : DH) : Option Bool := match x, y with
  | .int i, .tup ys => inI i ys
  | .int i, .ref k => match h[k]? with
    | some (.lst ys) => inI i ys
    | some o => (dGetO o (.int i)).map Option.isSome
    | _ => none
  | .str [c], .str z => some (decide (c ∈ z))
  | .str x, .tup ys => (strsOf ys).map fun zs => decide (x ∈ zs)
  | .str x, .ref i => match h[i]? with
    | some (.lst ys) => (strsOf ys).map fun zs => decide (x ∈ zs)
    | some o => (dGetO o (.str x)).map Option.isSome
    | _ => none
  | _, _ => none
def dLt : D → D → Option Bool
  | .int i, .int j => some (decide (i < j))
  | .str x, .str y => some (decide (x < y))
  | _, _ => none
def dLe : D → D → Option Bool
  | .int i, .int j => some (decide (i ≤ j))
  | .str x, .str y => some (!decide (y < x))
  | _, _ => none
def isNon : D → Bool
  | .non => true
  | _ => false
def dIsN : D → D → Option Bool
  | x, .non => some (isNon x)
  | _, _ => none
def dCmp : CmpOp → D → D → DH → Option Bool
  | .Eq, x, y, h => dEq x y h
  | .NotEq, x, y, h => (dEq x y h).map (!·)
  | .Lt, x, y, _ => dLt x y
  | .LtE, x, y, _ => dLe x y
  | .Gt, x, y, _ => dLt y x
  | .GtE, x, y, _ => dLe y x
  | .Is, x, y, _ => dIsN x y
  | .IsNot, x, y, _ => (dIsN x y).map (!·)
  | .In, x, y, h => dIn x y h
  | .NotIn, x, y, h => (dIn x y h).map (!·)

/-! ### expressions -/
def mLit (d : D) : M := fun _ h => .ok d h
def mVar (i : Nat) : M := fun e h => match e[i]? with
  | some (some d) => .ok d h
  | _ => .err
def mTup (ms : List M) : M := fun e h => (evL ms e h).bind fun ds h1 => if ds.length ≤ sizeLine then .ok (.tup ds) h1 else .err
def mLst (ms : List M) : M := fun e h => (evL ms e h).bind fun ds h1 => if ds.length ≤ sizeLine then .ok (.ref h1.length) (h1 ++ [.lst ds]) else .err
def mBin (op : Operator) (a b : M) : M := fun e h => (a e h).bind fun x h1 => (b e h1).bind fun y h2 => dBin op x y h2
def mNeg (a : M) : M := fun e h => (a e h).bind fun x h1 => match x with
  | .int i => .ok (.int (-i)) h1
  | _ => .err
def mCmp (op : CmpOp) (a b : M) : M := fun e h => (a e h).bind fun x h1 => (b e h1).bind fun y h2 => optB (dCmp op x y h2) h2
def mChain (op op' : CmpOp) (a b c : M) : M := fun e h => (a e h).bind fun x h1 => (b e h1).bind fun y h2 => (optB (dCmp op x y h2) h2).bind fun r h3 => match r with
  | .bl true => (c e h3).bind fun z h4 => optB (dCmp op' y z h4) h4
  | .bl false => .ok (.bl false) h3
  | _ => .err
def mAnd (a b : M) : M := fun e h => (a e h).bind fun x h1 => match x with
  | .bl true => b e h1
  | .bl false => .ok (.bl false) h1
  | _ => .err
def mOr (a b : M) : M := fun e h => (a e h).bind fun x h1 => match x with
  | .bl true => .ok (.bl true) h1
  | .bl false => b e h1
  | _ => .err
def mNot (a : M) : M := fun e h => (a e h).bind fun x h1 => match x with
  | .bl b => .ok (.bl (!b)) h1
  | _ => .err
def mIf (c a b : M) : M := fun e h => (c e h).bind fun x h1 => match x with
  | .bl true => a e h1
  | .bl false => b e h1
  | _ => .err
def optD (o : Option D) (h : DH) : Res := match o with
  | some d => .ok d h
  | none => .err
def dIdx : D → D → DH → Res
  | .tup xs, .int i, h => optD (atI xs i) h
  | .frl xs, .int i, h => optD (atI xs i) h
  | .str x, .int i, h => if x.length ≤ sizeLine then optD ((atI x i).map fun c => .str [c]) h else .err
  | .ref a, y, h => match h[a]? with
    | some (.lst xs) => match y with
      | .int i => optD (atI xs i) h
      | _ => .err
    | some o => match dGetO o y with
      | some (some d) => .ok d h
      | _ => .err
    | _ => .err
  | _, _, _ => .err
def mIdx (a b : M) : M := fun e h => (a e h).bind fun x h1 => (b e h1).bind fun y h2 => dIdx x y h2
def dSlc : D → Option Int → Option Int → DH → Res
  | .str x, lo, hi, h => if x.length ≤ sizeLine then .ok (.str (cutG x lo hi)) h else .err
  | .tup xs, lo, hi, h => .ok (.tup (cutG xs lo hi)) h
  | .ref a, lo, hi, h => match h[a]? with
    | some (.lst xs) => .ok (.ref h.length) (h ++ [.lst (cutG xs lo hi)])
    | _ => .err
  | _, _, _, _ => .err
def evP (m : Option M) (e : En) (h : DH) : Rs (Option Int) := match m with
  | none => .ok none h
  | some m => (m e h).bind fun x h1 => match x with
    | .int i => .ok (some i) h1
    | _ => .err
def mSlc (a : M) (lo hi : Option M) : M := fun e h => (a e h).bind fun x h1 => (evP lo e h1).bind fun l h2 => (evP hi e h2).bind fun u h3 => dSlc x l u h3
def fldOf (fs : List (Nat × D)) (f : Nat) : Option D := fs.lookup f
def putN (f : Nat) (d : D) : List (Nat × D) → List (Nat × D)
  | [] => [(f, d)]
  | (g, x) :: r => if g = f then (f, d) :: r else (g, x) :: putN f d r
def mAttr (a : M) (f : Nat) : M := fun e h => (a e h).bind fun x h1 => match x with
  | .ref i => match h1[i]? with
    | some (.ins _ fs) => optD (fldOf fs f) h1
    | _ => .err
  | _ => .err
/-! ### calls -/
def mCall (cl : CL) (f : Nat) (as : List M) : M := fun e h => (evL as e h).bind fun ds h1 => cl f ds h1
/-- o.m(..): me tells a class's method -/
def mMeth (cl : CL) (me : Nat → Option Nat) (o : M) (as : List M) : M := fun e h => (o e h).bind fun x h1 => match x with
  | .ref i => match h1[i]? with
    | some (.ins c _) => match me c with
      | some f => (evL as e h1).bind fun ds h2 => cl f (.ref i :: ds) h2
      | none => .err
    | _ => .err
  | _ => .err
/-- C(..) by __init__ -/
def mMake (cl : CL) (c f : Nat) (as : List M) : M := fun e h => (evL as e h).bind fun ds h1 => (cl f (.ref h1.length :: ds) (h1 ++ [.ins c []])).bind fun r h2 => match r with
  | .non => .ok (.ref h1.length) h2
  | _ => .err
inductive BI where
  | len | ord | int | str | min | max | all | any | tup | sum | abs | dic
def dLen : List D → DH → Res
  | [.str x], h => if x.length ≤ sizeLine then .ok (.int x.length) h else .err
  | [.tup xs], h => .ok (.int xs.length) h
  | [.frl xs], h => .ok (.int xs.length) h
  | [.ref i], h => match h[i]? with
    | some (.lst xs) => .ok (.int xs.length) h
    | _ => .err
  | _, _ => .err
def dOrd : List D → DH → Res
  | [.str [c]], h => .ok (.int c) h
  | _, _ => .err
def dInt : List D → DH → Res
  | [.int i], h => .ok (.int i) h
  | [.bl b], h => .ok (.int (if b then 1 else 0)) h
  | [.str x], h => match PySem.intText? ⟨x.toArray⟩ with
    | some n => if x.length ≤ 640 then .ok (.int n) h else .err
    | none => .err
  | _, _ => .err
def dStr : List D → DH → Res
  | [.int i], h => if i.natAbs.log2 < 1920 then .ok (.str (sInt i)) h else .err
  | [.str x], h => .ok (.str x) h
  | _, _ => .err
def dMin : List D → DH → Res
  | [.int i, .int j], h => .ok (.int (if j < i then j else i)) h
  | _, _ => .err
def dMax : List D → DH → Res
  | [.int i, .int j], h => .ok (.int (if j > i then j else i)) h
  | _, _ => .err
def dAll : List D → DH → Res
  | [.ref i], h => match h[i]? with
    | some (.lst xs) => match bolsOf xs with
      | some bs => .ok (.bl (bs.all id)) h
      | none => .err
    | _ => .err
  | _, _ => .err
def dAny : List D → DH → Res
  | [.ref i], h => match h[i]? with
    | some (.lst xs) => match bolsOf xs with
      | some bs => .ok (.bl (bs.any id)) h
      | none => .err
    | _ => .err
  | _, _ => .err
def dTupF : List D → DH → Res
  | [.tup xs], h => .ok (.tup xs) h
  | [.ref i], h => match h[i]? with
    | some (.lst xs) => .ok (.tup xs) h
    | _ => .err
  | _, _ => .err
def dSum : List D → DH → Res
  | [.ref i], h => match h[i]? with
    | some (.lst xs) => match intsOf xs with
      | some ns => .ok (.int ns.sum) h
      | none => .err
    | _ => .err
  | _, _ => .err
def dAbs : List D → DH → Res
  | [.int i], h => .ok (.int (if i < 0 then -i else i)) h
  | _, _ => .err
/-- pairs with keys that are ints or texts -/
def prsOf : List D → Option (List (D × D))
  | [] => some []
  | .tup [.int k, v] :: r => (prsOf r).map fun l => (.int k, v) :: l
  | .tup [.str k, v] :: r => (prsOf r).map fun l => (.str k, v) :: l
  | _ :: _ => none
def dPuts (acc : List (D × D)) (more : List (D × D)) : List (D × D) := more.foldl (fun acc q => dPut acc q.1 q.2) acc
def dDicF : List D → DH → Res
  | [.ref i], h => match h[i]? with
    | some (.dic kvs) => .ok (.ref h.length) (h ++ [.dic kvs])
    | some (.lst xs) => match prsOf xs with
      | some kvs => .ok (.ref h.length) (h ++ [.dic (dPuts [] kvs)])
      | none => .err
    | _ => .err
  | _, _ => .err
def dBi : BI → List D → DH → Res
  | .len => dLen
  | .ord => dOrd
  | .int => dInt
  | .str => dStr
  | .min => dMin
  | .max => dMax
  | .all => dAll
  | .any => dAny
  | .tup => dTupF
  | .sum => dSum
  | .abs => dAbs
  | .dic => dDicF
def mBi (b : BI) (as : List M) : M := fun e h => (evL as e h).bind fun ds h1 => dBi b ds h1
/-! ### dicts that stand -/
def mDNew : M := fun _ h => .ok (.ref h.length) (h ++ [.dic []])
def mDsp (ks : List Tx) (ms : List M) : M := fun e h => (evL ms e h).bind fun ds h1 => .ok (.ref h1.length) (h1 ++ [.dic (dPuts [] ((ks.zip ds).map fun q => (.str q.1, q.2)))])
def isDic : D → DH → Bool
  | .ref i, h => match h[i]? with
    | some (.dic _) => true
    | some (.dct _) => true
    | _ => false
  | _, _ => false
def getR (x y z : D) (h : DH) : Res := match x with
  | .ref i => match h[i]? with
    | some o => match dGetO o y with
      | some (some d) => .ok d h
      | some none => .ok z h
      | none => .err
    | none => .err
  | _ => .err
def mGet1 (o k : M) : M := fun e h => (o e h).bind fun x h1 => if isDic x h1 then (k e h1).bind fun y h2 => getR x y .non h2 else .err
def mGet2 (o k d : M) : M := fun e h => (o e h).bind fun x h1 => if isDic x h1 then (k e h1).bind fun y h2 => (d e h2).bind fun z h3 => getR x y z h3 else .err
inductive BM where
  | join | split | find | append
def dJoin : D → List D → DH → Res
  | .str s, [.ref i], h => match h[i]? with
    | some (.lst xs) => match strsOf xs with
      | some ys => if (ys.map (fun y => y.length)).sum + ys.length * s.length ≤ 16777216 then .ok (.str (TL.joinL s ys)) h else .err
      | none => .err
    | _ => .err
  | _, _, _ => .err
def dSplit : D → List D → DH → Res
  | .str x, [.str s], h => if s.length ≠ 0 ∧ x.length + 2 ≤ sizeLine then .ok (.ref h.length) (h ++ [.lst ((Txt.split ⟨x.toArray⟩ ⟨s.toArray⟩).map fun z => .str z.cps.toList)]) else .err
  | _, _, _ => .err
def dFind : D → List D → DH → Res
  | .str x, [.str s], h => .ok (.int (Txt.find ⟨x.toArray⟩ ⟨s.toArray⟩)) h
  | .str x, [.str s, .int i], h => .ok (.int (Txt.find3 ⟨x.toArray⟩ ⟨s.toArray⟩ i)) h
  | _, _, _ => .err
def dAppend : D → List D → DH → Res
  | .ref i, [d], h => match h[i]? with
    | some (.lst xs) => if xs.length < sizeLine then .ok .non (h.set i (.lst (xs ++ [d]))) else .err
    | _ => .err
  | _, _, _ => .err
def dBm : BM → D → List D → DH → Res
  | .join => dJoin
  | .split => dSplit
  | .find => dFind
  | .append => dAppend
def okTo : BM → D → DH → Bool
  | .append, .ref i, h => match h[i]? with
    | some (.lst _) => true
    | _ => false
  | .append, _, _ => false
  | _, .str _, _ => true
  | _, _, _ => false
/-- a method of a built-in: the receiver, then the arguments -/
def mBm (b : BM) (o : M) (as : List M) : M := fun e h => (o e h).bind fun x h1 => if okTo b x h1 then (evL as e h1).bind fun ds h2 => dBm b x ds h2 else .err
inductive IT where
  | int | bool | str | list | tuple
def dIsi (x : D) (t : IT) (h : DH) : Option Bool := match x, t with
  | .int _, .int => some true
  | .bl _, .int => some true
  | .bl _, .bool => some true
  | .str _, .str => some true
  | .tup _, .tuple => some true
  | .frl _, .list => some true
  | .ref i, t => match h[i]? with
    | some (.lst _) => some (match t with | .list => true | _ => false)
    | _ => none
  | _, _ => some false
def mIsi (a : M) (t : IT) : M := fun e h => (a e h).bind fun x h1 => optB (dIsi x t h1) h1

/-! ### a dict of the module -/
def mKIn (kvs : List (Tx × D)) (a : M) : M := fun e h => (a e h).bind fun x h1 => match x with
  | .str z => .ok (.bl (kvs.lookup z).isSome) h1
  | _ => .err
def mKNi (kvs : List (Tx × D)) (a : M) : M := fun e h => (a e h).bind fun x h1 => match x with
  | .str z => .ok (.bl (!(kvs.lookup z).isSome)) h1
  | _ => .err
def mKIdx (kvs : List (Tx × D)) (a : M) : M := fun e h => (a e h).bind fun x h1 => match x with
  | .str z => optD (kvs.lookup z) h1
  | _ => .err

/-! ### a dict that is written and asked at once; a text with parts put otherwise -/
/-- the last that is told for a key -/
def dLook (l : List (Tx × D)) (z : Tx) : Option D := l.foldl (fun o q => if z = q.1 then some q.2 else o) none
def dlgR (ks : List Tx) (ds : List D) (x d : D) (h : DH) : Res := match x with
  | .str z => .ok ((dLook (ks.zip ds) z).getD d) h
  | _ => .err
def dliR (ks : List Tx) (ds : List D) (x : D) (h : DH) : Res := match x with
  | .str z => optD (dLook (ks.zip ds) z) h
  | _ => .err
/-- {k: v, ..}.get(a, b) -/
def mDlG (ks : List Tx) (ms : List M) (a b : M) : M := fun e h => (evL ms e h).bind fun ds h1 => (a e h1).bind fun x h2 => (b e h2).bind fun d h3 => dlgR ks ds x d h3
/-- {k: v, ..}[a] -/
def mDlI (ks : List Tx) (ms : List M) (a : M) : M := fun e h => (evL ms e h).bind fun ds h1 => (a e h1).bind fun x h2 => dliR ks ds x h2
def repT (x y z : Tx) : Tx := (Txt.replace ⟨x.toArray⟩ ⟨y.toArray⟩ ⟨z.toArray⟩).cps.toList
def replR (c y z : Tx) (x : D) (h : DH) : Res := match x with
  | .str x => if x.length + (x.length + 1) * z.length ≤ 16777216 ∧ c.length + (repT x y z).length ≤ sizeLine then .ok (.str (c ++ repT x y z)) h else .err
  | _ => .err
/-- c + a.replace(y, z) -/
def mRepl (c y z : Tx) (a : M) : M := fun e h => (a e h).bind fun x h1 => replR c y z x h1

/-! ### what is walked -/
/-- how a thing walked is kept: a list must stay as it is -/
def Still (g : Option (Nat × List D)) (h : DH) : Prop := match g with
  | none => True
  | some (i, xs) => h[i]? = some (.lst xs)
def pairs : List D → List D → List D
  | x :: r, y :: s => .tup [x, y] :: pairs r s
  | _, _ => []
def enumD (n : Nat) : List D → List D
  | [] => []
  | x :: r => .tup [.int n, x] :: enumD (n + 1) r
def rangeD (lo : Int) (n : Nat) : List D := (List.range n).map fun (k : Nat) => .int (lo + k)
abbrev ItR := Rs (List D × Option (Nat × List D))
abbrev MI := En → DH → ItR
def itOf : D → DH → ItR
  | .tup xs, h => .ok (xs, none) h
  | .frl xs, h => .ok (xs, none) h
  | .str x, h => .ok (x.map fun c => .str [c], none) h
  | .ref i, h => match h[i]? with
    | some (.lst xs) => .ok (xs, some (i, xs)) h
    | _ => .err
  | _, _ => .err
def miE (a : M) : MI := fun e h => (a e h).bind itOf
def miR1 (a : M) : MI := fun e h => (a e h).bind fun x h1 => match x with
  | .int j => if -(2 ^ 62) ≤ j ∧ j < 2 ^ 62 then .ok (rangeD 0 j.toNat, none) h1 else .err
  | _ => .err
/-- zip of two tuples -/
def miZp (a b : M) : MI := fun e h => (a e h).bind fun x h1 => (b e h1).bind fun y h2 => match x, y with
  | .tup xs, .tup ys => .ok (pairs xs ys, none) h2
  | _, _ => .err
def miEn (a : M) : MI := fun e h => (a e h).bind fun x h1 => match x with
  | .tup xs => .ok (enumD 0 xs, none) h1
  | .ref i => match h1[i]? with
    | some (.lst xs) => .ok (enumD 0 xs, some (i, xs)) h1
    | _ => .err
  | _ => .err
open Classical in
/-- the turns of a comprehension -/
noncomputable def compL (g : Option (Nat × List D)) (st : D → En → Option En) (cond elt : M) (e0 : En) : List D → DH → Rs (List D)
  | [], h => if Still g h then .ok [] h else .err
  | x :: r, h => if Still g h then match st x e0 with
    | none => .err
    | some e => match cond e h with
      | .ok (.bl true) h1 => match elt e h1 with
        | .ok d h2 => (compL g st cond elt e0 r h2).bind fun ds h3 => .ok (d :: ds) h3
        | _ => .err
      | .ok (.bl false) h1 => compL g st cond elt e0 r h1
      | _ => .err
    else .err
def wipeD (e : En) : List Nat → En
  | [] => e
  | v :: vs => (wipeD e vs).set v none
/-- a target: a name, or names of a tuple -/
def stName (i : Nat) (x : D) (e : En) : Option En := some (e.set i (some x))
def stNames : List Nat → List D → En → Option En
  | [], [], e => some e
  | i :: r, x :: s, e => stNames r s (e.set i (some x))
  | _, _, _ => none
def stTup (is : List Nat) (x : D) (e : En) : Option En := match x with
  | .tup xs => stNames is xs e
  | _ => none
noncomputable def mComp (it : MI) (own : List Nat) (st : D → En → Option En) (cond elt : M) : M := fun e h => (it e h).bind fun p h1 => if p.1.length ≤ sizeLine then (compL p.2 st cond elt (wipeD e own) p.1 h1).bind fun ds h2 => .ok (.ref h2.length) (h2 ++ [.lst ds]) else .err
def tREF : Tx := [114, 101, 102, 117, 115, 101, 100]
def tFAULT : Tx := [70, 97, 117, 108, 116]
def tW5 : List Tx := [[66, 97, 100, 84, 111, 107, 101, 110], [66, 97, 100, 84, 101, 114, 109], [66, 97, 100, 68, 101, 101, 100], [66, 97, 100, 82, 111, 119], [66, 97, 100, 80, 105, 99, 116, 117, 114, 101]]
/-- how what is raised is told; tt: a class's place among the six -/
def toldT (tt : Nat → Option Nat) (c : Nat) (w : Option D) : Option D := match tt c with
  | none => none
  | some j => match w with
    | none => if j < 5 then (tW5[j]?).map fun nm => .tup [.str tREF, .str nm] else none
    | some d => if j = 5 then some (.tup [.str tREF, .str tFAULT, d]) else none
/-- told(lambda: body) -/
def mTold (tt : Nat → Option Nat) (a : M) : M := fun e h => match a e h with
  | .ok d h1 => .ok d h1
  | .exc c w h1 => match toldT tt c w with
    | some d => .ok d h1
    | none => .err
  | .err => .err

/-! ### statements -/
def sNext : Ms := fun e h => .nx e h
def sSeq (a b : Ms) : Ms := fun e h => match a e h with
  | .nx e1 h1 => b e1 h1
  | r => r
def sSet (st : D → En → Option En) (a : M) : Ms := fun e h => (a e h).bindO e fun x h1 => match st x e with
  | some e1 => .nx e1 h1
  | none => .err
def sDrop (a : M) : Ms := fun e h => (a e h).bindO e fun _ h1 => .nx e h1
def sRet (a : M) : Ms := fun e h => (a e h).bindO e fun x h1 => .rt x h1
def sIf (c : M) (a b : Ms) : Ms := fun e h => (c e h).bindO e fun x h1 => match x with
  | .bl true => a e h1
  | .bl false => b e h1
  | _ => .err
def sCont : Ms := fun e h => .ct e h
def sFld (fo : List (Nat × Nat)) (o : M) (f : Nat) (a : M) : Ms := fun e h => (a e h).bindO e fun y h1 => (o e h1).bindO e fun x h2 => match x with
  | .ref i => match h2[i]? with
    | some (.ins c fs) => if fs.length < 1000 ∧ (c, f) ∈ fo then .nx e (h2.set i (.ins c (putN f y fs))) else .err
    | _ => .err
  | _ => .err
/-- a, b, .. = a list -/
def unlR (is : List Nat) (x : D) (e : En) (h : DH) : Out := match x with
  | .ref i => match h[i]? with
    | some (.lst xs) => match stNames is xs e with
      | some e1 => .nx e1 h
      | none => .err
    | _ => .err
  | _ => .err
def sUnl (is : List Nat) (a : M) : Ms := fun e h => (a e h).bindO e fun x h1 => unlR is x e h1
/-- o[i] = a -/
def itmR (x z y : D) (e : En) (h : DH) : Out := match x with
  | .ref p => match h[p]? with
    | some (.lst xs) => match z with
      | .int k => match ixN xs.length k with
        | some j => .nx e (h.set p (.lst (xs.set j y)))
        | none => .err
      | _ => .err
    | some o => match dPutO o z y with
      | some o' => .nx e (h.set p o')
      | none => .err
    | _ => .err
  | _ => .err
def sItm (o i a : M) : Ms := fun e h => (a e h).bindO e fun y h1 => (o e h1).bindO e fun x h2 => (i e h2).bindO e fun z h3 => itmR x z y e h3
def sRaise (c : Nat) : Ms := fun e h => .exc c none e h
/-- raise C(a), a kept as its word -/
def sRaiseW (c : Nat) (a : M) : Ms := fun e h => (a e h).bindO e fun d h1 => .exc c (some d) e h1
open Classical in
/-- the turns of a for -/
noncomputable def forL (g : Option (Nat × List D)) (st : D → En → Option En) (b : Ms) : List D → Ms
  | [], e, h => if Still g h then .nx e h else .err
  | x :: r, e, h => if Still g h then match st x e with
    | none => .err
    | some e1 => match b e1 h with
      | .nx e2 h2 => forL g st b r e2 h2
      | .ct e2 h2 => forL g st b r e2 h2
      | .bk e2 h2 => .nx e2 h2
      | .rt d h2 => .rt d h2
      | .exc c w e2 h2 => .exc c w e2 h2
      | .err => .err
    else .err
noncomputable def sFor (it : MI) (st : D → En → Option En) (b : Ms) : Ms := fun e h => (it e h).bindO e fun p h1 => forL p.2 st b p.1 e h1
/-- so many turns of a while at most -/
def whlN (c : M) (b : Ms) : Nat → Ms
  | 0, _, _ => .err
  | n + 1, e, h => match c e h with
    | .ok (.bl true) h1 => match b e h1 with
      | .nx e2 h2 => whlN c b n e2 h2
      | .ct e2 h2 => whlN c b n e2 h2
      | .bk e2 h2 => .nx e2 h2
      | .rt d h2 => .rt d h2
      | .exc c w e2 h2 => .exc c w e2 h2
      | .err => .err
    | .ok (.bl false) h1 => .nx e h1
    | .exc c w h1 => .exc c w e h1
    | _ => .err
theorem whlN_mono (c : M) (b : Ms) : ∀ (n : Nat) (e : En) (h : DH), whlN c b n e h ≠ .err → whlN c b (n + 1) e h = whlN c b n e h
  | 0, e, h, q => absurd rfl q
  | n + 1, e, h, q => by
    unfold whlN at q ⊢
    split
    · rename_i h1 e1
      simp only [e1] at q ⊢
      split
      · rename_i e2 h2 e3
        simp only [e3] at q ⊢
        exact whlN_mono c b n e2 h2 q
      · rename_i e2 h2 e3
        simp only [e3] at q ⊢
        exact whlN_mono c b n e2 h2 q
      all_goals (rename_i e3; simp only [e3])
    all_goals (rename_i e3; simp only [e3])
theorem whlN_le (c : M) (b : Ms) {n m : Nat} {e : En} {h : DH} (q : whlN c b n e h ≠ .err) (l : n ≤ m) : whlN c b m e h = whlN c b n e h := by
  induction l with
  | refl => rfl
  | step l ih => rw [whlN_mono c b _ e h (by rw [ih]; exact q), ih]
open Classical in
noncomputable def sWhl (c : M) (b : Ms) : Ms := fun e h => if q : ∃ n, whlN c b n e h ≠ .err then whlN c b q.choose e h else .err
theorem sWhl_eq {c : M} {b : Ms} {n : Nat} {e : En} {h : DH} (q : whlN c b n e h ≠ .err) : sWhl c b e h = whlN c b n e h := by
  have x : ∃ n, whlN c b n e h ≠ .err := ⟨n, q⟩
  unfold sWhl
  rw [dif_pos x]
  rcases Nat.le_total n x.choose with l | l
  · exact whlN_le c b q l
  · exact (whlN_le c b x.choose_spec l).symm
theorem sWhl_some {c : M} {b : Ms} {e : En} {h : DH} (q : sWhl c b e h ≠ .err) : ∃ n, whlN c b n e h ≠ .err ∧ sWhl c b e h = whlN c b n e h := by
  unfold sWhl at q
  split at q
  · rename_i x
    exact ⟨_, x.choose_spec, sWhl_eq x.choose_spec⟩
  · exact absurd rfl q
theorem sWhl_go {c : M} {b : Ms} {e e2 : En} {h h1 h2 : DH} (q : c e h = .ok (.bl true) h1) (q2 : b e h1 = .nx e2 h2) : sWhl c b e h = sWhl c b e2 h2 := by
  have st : ∀ n, whlN c b (n + 1) e h = whlN c b n e2 h2 := fun n => by
    simp only [whlN, q, q2]
  by_cases x : ∃ n, whlN c b n e2 h2 ≠ .err
  · obtain ⟨n, x⟩ := x
    rw [sWhl_eq x, sWhl_eq (n := n + 1) (by rw [st]; exact x), st]
  · have y : ¬ ∃ n, whlN c b n e h ≠ .err := fun ⟨n, z⟩ => by
      cases n with
      | zero => exact z rfl
      | succ n => exact x ⟨n, by rw [← st]; exact z⟩
    unfold sWhl
    rw [dif_neg x, dif_neg y]
theorem sWhl_ct {c : M} {b : Ms} {e e2 : En} {h h1 h2 : DH} (q : c e h = .ok (.bl true) h1) (q2 : b e h1 = .ct e2 h2) : sWhl c b e h = sWhl c b e2 h2 := by
  have st : ∀ n, whlN c b (n + 1) e h = whlN c b n e2 h2 := fun n => by
    simp only [whlN, q, q2]
  by_cases x : ∃ n, whlN c b n e2 h2 ≠ .err
  · obtain ⟨n, x⟩ := x
    rw [sWhl_eq x, sWhl_eq (n := n + 1) (by rw [st]; exact x), st]
  · have y : ¬ ∃ n, whlN c b n e h ≠ .err := fun ⟨n, z⟩ => by
      cases n with
      | zero => exact z rfl
      | succ n => exact x ⟨n, by rw [← st]; exact z⟩
    unfold sWhl
    rw [dif_neg x, dif_neg y]
theorem sWhl_rt {c : M} {b : Ms} {e : En} {h h1 h2 : DH} {d : D} (q : c e h = .ok (.bl true) h1) (q2 : b e h1 = .rt d h2) : sWhl c b e h = .rt d h2 := by
  have st : whlN c b 1 e h = .rt d h2 := by
    simp only [whlN, q, q2]
  rw [sWhl_eq (n := 1) (by rw [st]; exact fun z => nomatch z), st]
theorem sWhl_exc {c : M} {b : Ms} {e e2 : En} {h h1 h2 : DH} {i : Nat} {w : Option D} (q : c e h = .ok (.bl true) h1) (q2 : b e h1 = .exc i w e2 h2) : sWhl c b e h = .exc i w e2 h2 := by
  have st : whlN c b 1 e h = .exc i w e2 h2 := by
    simp only [whlN, q, q2]
  rw [sWhl_eq (n := 1) (by rw [st]; exact fun z => nomatch z), st]
theorem sWhl_stop {c : M} {b : Ms} {e : En} {h h1 : DH} (q : c e h = .ok (.bl false) h1) : sWhl c b e h = .nx e h1 := by
  have st : whlN c b 1 e h = .nx e h1 := by
    simp only [whlN, q]
  rw [sWhl_eq (n := 1) (by rw [st]; exact fun z => nomatch z), st]

/-! ### defs -/
structure Fn where
  np : Nat
  ns : Nat
  body : CL → Ms
  /-- 0: plain; 1: an own class is made in it; 2: told is called in it -/
  lo : Nat
def runB (b : Ms) (np ns : Nat) (ds : List D) (h : DH) : Res := if ds.length = np then match b (ds.map some ++ List.replicate (ns - ds.length) none) h with
    | .nx _ h1 => .ok .non h1
    | .rt d h1 => .ok d h1
    | .exc c w _ h1 => .exc c w h1
    | _ => .err
  else .err
noncomputable def callN (tab : List Fn) : Nat → CL
  | 0, _, _, _ => .err
  | k + 1, f, ds, h => match tab[f]? with
    | some fn => match fn.lo, k with
      | 0, k => runB (fn.body (callN tab k)) fn.np fn.ns ds h
      | 1, j + 1 => runB (fn.body (callN tab j)) fn.np fn.ns ds h
      | 2, j + 3 => runB (fn.body (callN tab j)) fn.np fn.ns ds h
      | _, _ => .err
    | none => .err
end Mp

/-! Mp2: how plain data stands in the layer's abstract heap; readings by plain functions. -/
namespace Mp
open PySem L2 LamX

structure Wd where
  K : PySem.W.Frag
  cls : Nat → Addr
  fnm : Nat → Str
  T : List (Addr × Str)
  w : World

/-- a list that is read alone -/
def FrL (K : PySem.W.Frag) (H : Hp) (a : Addr) (xs : List V) : Prop :=
  (∃ o, H a = some (.frz o (.lst xs))) ∨
    ∃ (o : Obj) (its : Array Value) (n : Nat), K.lookup a = some o ∧ o.cls = .type "list" ∧ o.dict = none ∧ o.data = .seq its n ∧ its.size ≤ sizeLine ∧ Vals xs its.toList
theorem FrL.sq {K : PySem.W.Frag} {H : Hp} {a : Addr} {xs : List V} (h : FrL K H a xs) : SqL K H a xs := by
  rcases h with ⟨o, h⟩ | h
  · exact .inl (.inr ⟨o, h⟩)
  · exact .inr h

mutual
inductive RV (K : PySem.W.Frag) (H : Hp) (as : List Addr) : V → D → Prop
  | non : RV K H as .non .non
  | bl (b : Bool) : RV K H as (.bl b) (.bl b)
  | int (i : Int) : RV K H as (.int i) (.int i)
  | str (x : Tx) : RV K H as (.str ⟨x.toArray⟩) (.str x)
  | tup {a : Addr} {vs : List V} {ds : List D} : SqT K H a vs → RL K H as vs ds → RV K H as (.ref a) (.tup ds)
  | frl {a : Addr} {vs : List V} {ds : List D} : FrL K H a vs → RL K H as vs ds → RV K H as (.ref a) (.frl ds)
  | ref {i : Nat} {a : Addr} : as[i]? = some a → RV K H as (.ref a) (.ref i)
inductive RL (K : PySem.W.Frag) (H : Hp) (as : List Addr) : List V → List D → Prop
  | nil : RL K H as [] []
  | cons {v : V} {vs : List V} {d : D} {ds : List D} : RV K H as v d → RL K H as vs ds → RL K H as (v :: vs) (d :: ds)
end

structure Ex0 (H : Hp) (as : List Addr) (H' : Hp) (as' : List Addr) : Prop where
  pre : ∀ (i : Nat) (a : Addr), as[i]? = some a → as'[i]? = some a
  tup : ∀ a xs, Rd H a (.tup xs) → Rd H' a (.tup xs)
  frz : ∀ a o u, H a = some (.frz o u) → H' a = some (.frz o u)
structure Ext (H : Hp) (as : List Addr) (H' : Hp) (as' : List Addr) : Prop extends Ex0 H as H' as' where
  kp : ∀ a o, H a = some o → a ∉ as → (∀ ps, o ≠ .tbl ps) → H' a = some o
  sub : ∀ a, a ∈ as' → a ∈ as ∨ ∀ o, H a = some o → ∃ ps, o = .tbl ps
theorem Ext.refl (H : Hp) (as : List Addr) : Ext H as H as := ⟨⟨fun _ _ h => h, fun _ _ h => h, fun _ _ _ h => h⟩, fun _ _ h _ _ => h, fun _ h => .inl h⟩
theorem Ext.trans {H H1 H2 : Hp} {as as1 as2 : List Addr} (x : Ext H as H1 as1) (y : Ext H1 as1 H2 as2) : Ext H as H2 as2 where
  pre := fun i a h => y.pre i a (x.pre i a h)
  kp := fun a o h n t => y.kp a o (x.kp a o h n t) (fun z => (x.sub a z).elim n fun q => by
    obtain ⟨ps, e⟩ := q o h
    exact t ps e) t
  tup := fun a xs h => y.tup a xs (x.tup a xs h)
  frz := fun a o u h => y.frz a o u (x.frz a o u h)
  sub := fun a h => by
    by_cases n : a ∈ as
    · exact .inl n
    · right
      intro o q
      by_cases t : ∃ ps, o = .tbl ps
      · exact t
      · have k := x.kp a o q n (fun ps e => t ⟨ps, e⟩)
        rcases y.sub a h with z | z
        · exact (x.sub a z).elim (fun w => absurd w n) fun w => w o q
        · exact z o k
theorem sqT_mono {K : PySem.W.Frag} {H H' : Hp} {as as' : List Addr} {a : Addr} {xs : List V} (x : Ex0 H as H' as') (h : SqT K H a xs) : SqT K H' a xs := by
  rcases h with h | h
  · exact .inl (x.tup _ _ h)
  · exact .inr h
theorem frL_mono {K : PySem.W.Frag} {H H' : Hp} {as as' : List Addr} {a : Addr} {xs : List V} (x : Ex0 H as H' as') (h : FrL K H a xs) : FrL K H' a xs := by
  rcases h with ⟨o, h⟩ | h
  · exact .inl ⟨o, x.frz _ _ _ h⟩
  · exact .inr h
mutual
theorem RV.mono {K : PySem.W.Frag} {H H' : Hp} {as as' : List Addr} (x : Ex0 H as H' as') : ∀ {v : V} {d : D}, RV K H as v d → RV K H' as' v d
  | _, _, .non => .non
  | _, _, .bl b => .bl b
  | _, _, .int i => .int i
  | _, _, .str z => .str z
  | _, _, .tup h l => .tup (sqT_mono x h) (RL.mono x l)
  | _, _, .frl h l => .frl (frL_mono x h) (RL.mono x l)
  | _, _, .ref h => .ref (x.pre _ _ h)
theorem RL.mono {K : PySem.W.Frag} {H H' : Hp} {as as' : List Addr} (x : Ex0 H as H' as') : ∀ {vs : List V} {ds : List D}, RL K H as vs ds → RL K H' as' vs ds
  | _, _, .nil => .nil
  | _, _, .cons h l => .cons (RV.mono x h) (RL.mono x l)
end
section
variable {K : PySem.W.Frag} {H : Hp} {as : List Addr}
theorem RL.length : ∀ {vs : List V} {ds : List D}, RL K H as vs ds → vs.length = ds.length
  | _, _, .nil => rfl
  | _, _, .cons _ l => by rw [List.length_cons, List.length_cons, RL.length l]
theorem RL.get : ∀ {vs : List V} {ds : List D} {i : Nat} {d : D}, RL K H as vs ds → ds[i]? = some d → ∃ v, vs[i]? = some v ∧ RV K H as v d
  | _, _, _, _, .nil, h => by simp at h
  | _, _, 0, _, .cons r _, h => by simp at h; subst h; exact ⟨_, rfl, r⟩
  | _, _, i + 1, d, .cons _ l, h => by
    obtain ⟨v, e, r⟩ := RL.get (i := i) (d := d) l (by simpa using h)
    exact ⟨v, by simpa using e, r⟩
theorem RL.get' : ∀ {vs : List V} {ds : List D} {i : Nat} {v : V}, RL K H as vs ds → vs[i]? = some v → ∃ d, ds[i]? = some d ∧ RV K H as v d
  | _, _, _, _, .nil, h => by simp at h
  | _, _, 0, _, .cons r _, h => by simp at h; subst h; exact ⟨_, rfl, r⟩
  | _, _, i + 1, d, .cons _ l, h => by
    obtain ⟨v, e, r⟩ := RL.get' (i := i) (v := d) l (by simpa using h)
    exact ⟨v, by simpa using e, r⟩
theorem RL.app : ∀ {vs ws : List V} {ds es : List D}, RL K H as vs ds → RL K H as ws es → RL K H as (vs ++ ws) (ds ++ es)
  | _, _, _, _, .nil, l => l
  | _, _, _, _, .cons r l, l' => .cons r (RL.app l l')
theorem RL.rep {vs : List V} {ds : List D} (l : RL K H as vs ds) : ∀ n : Nat, RL K H as (List.replicate n vs).flatten (List.replicate n ds).flatten
  | 0 => .nil
  | n + 1 => by
    rw [List.replicate_succ, List.replicate_succ, List.flatten_cons, List.flatten_cons]
    exact l.app (l.rep n)
theorem RL.take : ∀ {vs : List V} {ds : List D} (n : Nat), RL K H as vs ds → RL K H as (vs.take n) (ds.take n)
  | _, _, 0, _ => .nil
  | _, _, _ + 1, .nil => .nil
  | _, _, n + 1, .cons r l => .cons r (RL.take n l)
theorem RL.drop : ∀ {vs : List V} {ds : List D} (n : Nat), RL K H as vs ds → RL K H as (vs.drop n) (ds.drop n)
  | _, _, 0, r => r
  | _, _, _ + 1, .nil => .nil
  | _, _, n + 1, .cons _ l => RL.drop n l
theorem RL.set {v : V} {d : D} (r : RV K H as v d) : ∀ {vs : List V} {ds : List D} (n : Nat), RL K H as vs ds → RL K H as (vs.set n v) (ds.set n d)
  | _, _, _, .nil => .nil
  | _, _, 0, .cons _ l => .cons r l
  | _, _, n + 1, .cons q l => .cons q (RL.set r n l)
theorem RL.one {vs : List V} {d : D} (h : RL K H as vs [d]) : ∃ v, vs = [v] ∧ RV K H as v d := by
  cases h with
  | cons r l => cases l; exact ⟨_, rfl, r⟩
theorem RL.two {vs : List V} {d e : D} (h : RL K H as vs [d, e]) : ∃ v w, vs = [v, w] ∧ RV K H as v d ∧ RV K H as w e := by
  cases h with
  | cons r l =>
    obtain ⟨w, rfl, r2⟩ := l.one
    exact ⟨_, _, rfl, r, r2⟩
end
/-! ### the heap -/
def RF (G : Wd) (H : Hp) (as : List Addr) (fvs : List (Str × V)) (fs : List (Nat × D)) : Prop := fvs.map (·.1) = fs.map (fun p => G.fnm p.1) ∧ RL G.K H as (fvs.map (·.2)) (fs.map (·.2))
/-- a key of a dict as data -/
def kD : Key → D
  | .inl i => .int i
  | .inr x => .str x.cps.toList
/-- the pairs of a dict with int and text keys; with tuple keys -/
abbrev RK (K : PySem.W.Frag) (H : Hp) (as : List Addr) : List (Key × V) → List (D × D) → Prop := Paired fun p q => q.1 = kD p.1 ∧ RV K H as p.2 q.2
abbrev RX (K : PySem.W.Frag) (H : Hp) (as : List Addr) : List (NestedKey × Addr × V) → List (D × D) → Prop := Paired fun p q => (RV K H as (.ref p.2.1) q.1 ∧ D.nk q.1 = some p.1 ∧ D.tk q.1 = true) ∧ RV K H as p.2.2 q.2
/-- a dict whose keys are tuples -/
def nO (w : World) (a : Addr) (xs : List (NestedKey × Addr × V)) : HO := .ext fun h => (a == sysModules) = false ∧ xs.length ≤ sizeLine ∧ (xs.map (·.1)).Nodup ∧
  ∃ (vs : List (NestedKey × Addr × Value)) (o : Obj) (es : Array DictEntry) (ep : Nat), Paired (fun (p : NestedKey × Addr × V) (q : NestedKey × Addr × Value) => p.1 = q.1 ∧ p.2.1 = q.2.1 ∧ RelV p.2.2 q.2.2) xs vs ∧
    h.get? a = some o ∧ o.ExactDict ∧ o.data = .dict es ep ∧ es.toList = vs.map fun q => ⟨q.1.hash w, .ref q.2.1, q.2.2⟩
def RO (G : Wd) (H : Hp) (as : List Addr) (a : Addr) : O → Prop
  | .lst xs => ∃ vs, H a = some (.lst vs) ∧ RL G.K H as vs xs
  | .dic kvs => ∃ ks, H a = some (.dK ks) ∧ RK G.K H as ks kvs
  | .dct kvs => ∃ xs, H a = some (nO G.w a xs) ∧ RX G.K H as xs kvs
  | .ins c fs => ∃ dx fvs, H a = some (.ins (G.cls c) dx fvs) ∧ RF G H as fvs fs ∧ Cls G.K (G.cls c) ∧ ∀ p ∈ fs, NoAttr G.K (G.cls c) (G.fnm p.1)
structure RH (G : Wd) (H : Hp) (as : List Addr) (h : DH) : Prop where
  len : as.length = h.length
  nd : as.Nodup
  ob : ∀ (i : Nat) (a : Addr) (o : O), as[i]? = some a → h[i]? = some o → RO G H as a o
  tab : Tabs G.T H
section
variable {G : Wd} {H : Hp} {as : List Addr} {h : DH}
theorem RH.at (r : RH G H as h) {i : Nat} {o : O} (e : h[i]? = some o) : ∃ a, as[i]? = some a ∧ RO G H as a o := by
  have hi : i < as.length := by rw [r.len]; exact (List.getElem?_eq_some_iff.mp e).1
  exact ⟨as[i], by simp [hi], r.ob i _ o (by simp [hi]) e⟩
/-- an object of ours is none of these -/
noncomputable def ours : HO → Bool
  | .lst _ => true
  | .dK _ => true
  | .dT _ => true
  | .ins _ _ _ => true
  | .ext φ => @decide (∃ w a xs, nO w a xs = .ext φ) (Classical.propDecidable _)
  | _ => false
theorem nO_ours {w : World} {a : Addr} {xs : List (NestedKey × Addr × V)} : ours (nO w a xs) = true := by
  unfold nO ours
  exact @decide_eq_true _ (Classical.propDecidable _) ⟨w, a, xs, rfl⟩
theorem code_ours {c : Addr} {q : Str} : ours (CodeO c q) = false := by
  unfold CodeO ours
  refine @decide_eq_false _ (Classical.propDecidable _) ?_
  rintro ⟨w, a, xs, e⟩
  unfold nO at e
  injection e with e
  have hg : ∀ b ob, ({ objs := Array.replicate (c + 1) { cls := .none, data := .fields #[.none, .str q 0] } } : Heap).get? b = some ob → ob = { cls := .none, data := .fields #[.none, .str q 0] } := by
    intro b ob hb
    unfold Heap.get? at hb
    rw [Array.getElem?_replicate] at hb
    by_cases hlt : b < c + 1
    · rw [if_pos hlt] at hb
      exact (Option.some.inj hb).symm
    · rw [if_neg hlt] at hb
      cases hb
  have hc : ({ objs := Array.replicate (c + 1) { cls := .none, data := .fields #[.none, .str q 0] } } : Heap).get? c = some { cls := .none, data := .fields #[.none, .str q 0] } := by
    unfold Heap.get?
    rw [Array.getElem?_replicate, if_pos (Nat.lt_succ_self c)]
  have k := (congrFun e { objs := Array.replicate (c + 1) { cls := .none, data := .fields #[.none, .str q 0] } }).mpr ⟨_, _, 0, hc, rfl, rfl⟩
  obtain ⟨_, _, _, vs, o, es, ep, _, h1, _, h2, _⟩ := k
  rw [hg a o h1] at h2
  cases h2
theorem RO.there {a : Addr} {o : O} (r : RO G H as a o) : ∃ u, H a = some u ∧ ours u = true := by
  cases o with
  | lst xs => obtain ⟨vs, e, _⟩ := r; exact ⟨_, e, rfl⟩
  | dic _ => obtain ⟨ks, e, _⟩ := r; exact ⟨_, e, rfl⟩
  | dct _ => obtain ⟨ks, e, _⟩ := r; exact ⟨_, e, nO_ours⟩
  | ins c fs => obtain ⟨dx, vs, e, _⟩ := r; exact ⟨_, e, rfl⟩
theorem RH.mem (r : RH G H as h) {a : Addr} (m : a ∈ as) : ∃ u, H a = some u ∧ ours u = true := by
  obtain ⟨i, hi, e⟩ := List.mem_iff_getElem.mp m
  have hi2 : i < h.length := by rw [← r.len]; exact hi
  exact (r.ob i a h[i] (by simp [hi, e]) (by simp [hi2])).there
theorem RH.new (r : RH G H as h) {p : Addr} (n : H p = none) : p ∉ as := fun m => by
  obtain ⟨u, e, _⟩ := r.mem m
  rw [n] at e; cases e
theorem RF.mono {H' : Hp} {as' : List Addr} (x : Ex0 H as H' as') {fvs : List (Str × V)} {fs : List (Nat × D)} (r : RF G H as fvs fs) : RF G H' as' fvs fs := ⟨r.1, r.2.mono x⟩
theorem RK.mono {K : PySem.W.Frag} {H' : Hp} {as' : List Addr} (x : Ex0 H as H' as') {ks : List (Key × V)} {kvs : List (D × D)} (r : RK K H as ks kvs) : RK K H' as' ks kvs := Paired.mapP r fun _ _ z => ⟨z.1, z.2.mono x⟩
theorem RX.mono {K : PySem.W.Frag} {H' : Hp} {as' : List Addr} (x : Ex0 H as H' as') {ks : List (NestedKey × Addr × V)} {kvs : List (D × D)} (r : RX K H as ks kvs) : RX K H' as' ks kvs := Paired.mapP r fun _ _ z => ⟨⟨z.1.1.mono x, z.1.2⟩, z.2.mono x⟩
theorem RO.mono {H' : Hp} {as' : List Addr} (x : Ex0 H as H' as') {a : Addr} {o : O} (e : H' a = H a) (r : RO G H as a o) : RO G H' as' a o := by
  cases o with
  | lst xs => obtain ⟨vs, e1, l⟩ := r; exact ⟨vs, e.trans e1, l.mono x⟩
  | dic _ => obtain ⟨vs, e1, l⟩ := r; exact ⟨vs, e.trans e1, RK.mono x l⟩
  | dct _ => obtain ⟨vs, e1, l⟩ := r; exact ⟨vs, e.trans e1, RX.mono x l⟩
  | ins c fs => obtain ⟨dx, vs, e1, l, cl, na⟩ := r; exact ⟨dx, vs, e.trans e1, l.mono x, cl, na⟩
/-- a new thing that is no object of ours -/
theorem RH.laid (r : RH G H as h) {p : Addr} {u : HO} (n : H p = none) : Ext H as (upd H p u) as ∧ RH G (upd H p u) as h := by
  have ne : ∀ a o, H a = some o → a ≠ p := fun a o e => ne_of_none e n
  have x : Ext H as (upd H p u) as := by
    refine ⟨⟨fun _ _ e => e, fun a xs e => ?_, fun a o u e => by rw [upd_ne (ne a _ e)]; exact e⟩, fun a o e _ _ => by rw [upd_ne (ne a o e)]; exact e, fun _ e => .inl e⟩
    rcases e with e | ⟨o, e⟩
    · exact .inl (by rw [upd_ne (ne a _ e)]; exact e)
    · exact .inr ⟨o, by rw [upd_ne (ne a _ e)]; exact e⟩
  refine ⟨x, r.len, r.nd, fun i a o e1 e2 => ?_, r.tab.ext fun b o e => by rw [upd_ne (ne b o e)]; exact e⟩
  have q := r.ob i a o e1 e2
  obtain ⟨u', e, _⟩ := q.there
  exact q.mono x.toEx0 (by rw [upd_ne (ne a _ e)])
/-- a new object of ours -/
theorem RH.push (r : RH G H as h) {p : Addr} {u : HO} {o : O} (n : H p = none) (q : RO G (upd H p u) (as ++ [p]) p o) : Ext H as (upd H p u) (as ++ [p]) ∧ RH G (upd H p u) (as ++ [p]) (h ++ [o]) := by
  obtain ⟨x, r2⟩ := r.laid (u := u) n
  have pre : ∀ (i : Nat) (a : Addr), as[i]? = some a → (as ++ [p])[i]? = some a := fun i a e => by
    rw [List.getElem?_append_left (List.getElem?_eq_some_iff.mp e).1]; exact e
  have x2 : Ext H as (upd H p u) (as ++ [p]) := ⟨⟨pre, x.tup, x.frz⟩, x.kp, fun a m => by
    rcases List.mem_append.mp m with m | m
    · exact .inl m
    · rw [List.mem_singleton] at m; subst m; exact .inr fun o q => by rw [n] at q; cases q⟩
  have x3 : Ex0 (upd H p u) as (upd H p u) (as ++ [p]) := ⟨pre, fun _ _ e => e, fun _ _ _ e => e⟩
  refine ⟨x2, by simp [r.len], ?_, fun i a o' e1 e2 => ?_, r2.tab⟩
  · rw [List.nodup_append]
    exact ⟨r.nd, by simp, fun a ha b hb => by
      rw [List.mem_singleton] at hb; subst hb
      exact fun z => r.new n (z ▸ ha)⟩
  · by_cases hi : i < as.length
    · rw [List.getElem?_append_left hi] at e1
      rw [List.getElem?_append_left (by rw [← r.len]; exact hi)] at e2
      exact (r2.ob i a o' e1 e2).mono x3 rfl
    · have hi' : as.length ≤ i := Nat.le_of_not_lt hi
      rw [List.getElem?_append_right hi'] at e1
      rw [List.getElem?_append_right (by rw [← r.len]; exact hi')] at e2
      rw [← r.len] at e2
      cases z : i - as.length with
      | zero =>
        rw [z] at e1 e2
        have e1' : p = a := by simpa using e1
        have e2' : o = o' := by simpa using e2
        subst e1' e2'
        exact q
      | succ k =>
        rw [z] at e1
        simp at e1
/-- an object of ours is changed -/
theorem RH.put (r : RH G H as h) {i : Nat} {a : Addr} {u : HO} {o : O} (e : as[i]? = some a) (q : RO G (upd H a u) as a o) : Ext H as (upd H a u) as ∧ RH G (upd H a u) as (h.set i o) := by
  have ma : a ∈ as := List.mem_of_getElem? e
  obtain ⟨u0, e0, k0⟩ := r.mem ma
  have ne : ∀ b w, H b = some w → ours w = false → b ≠ a := fun b w eb k z => by
    subst z; rw [e0] at eb; cases eb; rw [k0] at k; cases k
  have x : Ext H as (upd H a u) as := by
    refine ⟨⟨fun _ _ e => e, fun b xs e => ?_, fun b o u e => by rw [upd_ne (ne b _ e rfl)]; exact e⟩, fun b o e nb _ => by rw [upd_ne (fun z => nb (by rw [z]; exact ma))]; exact e, fun _ e => .inl e⟩
    rcases e with e | ⟨o, e⟩
    · exact .inl (by rw [upd_ne (ne b _ e rfl)]; exact e)
    · exact .inr ⟨o, by rw [upd_ne (ne b _ e rfl)]; exact e⟩
  refine ⟨x, by simp [r.len], r.nd, fun j b o' e1 e2 => ?_, fun p hp => ?_⟩
  · by_cases hj : i = j
    · subst hj
      rw [e] at e1; cases e1
      have hi : i < h.length := by rw [← r.len]; exact (List.getElem?_eq_some_iff.mp e).1
      rw [List.getElem?_set_self hi] at e2
      cases e2
      exact q
    · rw [List.getElem?_set_ne hj] at e2
      have nb : b ≠ a := fun z => by
        subst z
        obtain ⟨h1, q1⟩ := List.getElem?_eq_some_iff.mp e
        obtain ⟨h2, q2⟩ := List.getElem?_eq_some_iff.mp e1
        exact hj ((List.getElem_inj r.nd).mp (q1.trans q2.symm))
      exact (r.ob j b o' e1 e2).mono x.toEx0 (by rw [upd_ne nb])
  · obtain ⟨ps, h1, h2, h3⟩ := r.tab p hp
    refine ⟨ps, by rw [upd_ne (ne _ _ h1 rfl)]; exact h1, h2, fun pos cv hc => ?_⟩
    obtain ⟨c, ec, hc2⟩ := h3 pos cv hc
    exact ⟨c, ec, by rw [upd_ne (ne _ _ hc2 code_ours)]; exact hc2⟩
end
end Mp

/-! Hz1: dicts: keys as data, looks and stores by values. -/
namespace Mp
open PySem L2 LamX PyProof.Rows
mutual
theorem keq_nk : ∀ (a b : D) (x y : NestedKey), D.nk a = some x → D.nk b = some y → D.keq a b = NestedKey.beq x y
  | .non, b, x, y, h, h' => by
    cases h
    cases b <;> simp only [D.nk, Option.some.injEq, Option.map_eq_some_iff, reduceCtorEq] at h'
    · subst h'; rfl
    · subst h'; rfl
    · subst h'; rfl
    · obtain ⟨ks, _, rfl⟩ := h'; rfl
  | .int i, b, x, y, h, h' => by
    cases h
    cases b <;> simp only [D.nk, Option.some.injEq, Option.map_eq_some_iff, reduceCtorEq] at h'
    · subst h'; rfl
    · subst h'; rfl
    · subst h'; rfl
    · obtain ⟨ks, _, rfl⟩ := h'; rfl
  | .str z, b, x, y, h, h' => by
    cases h
    cases b <;> simp only [D.nk, Option.some.injEq, Option.map_eq_some_iff, reduceCtorEq] at h'
    · subst h'; rfl
    · subst h'; rfl
    · subst h'
      simp [D.keq, NestedKey.beq]
    · obtain ⟨ks, _, rfl⟩ := h'; rfl
  | .tup xs, b, x, y, h, h' => by
    simp only [D.nk, Option.map_eq_some_iff] at h
    obtain ⟨ks0, h0, rfl⟩ := h
    cases b <;> simp only [D.nk, Option.some.injEq, Option.map_eq_some_iff, reduceCtorEq] at h'
    · subst h'; rfl
    · subst h'; rfl
    · subst h'; rfl
    · obtain ⟨ks, h2, rfl⟩ := h'
      simp only [D.keq, NestedKey.beq]
      exact keqs_nk xs _ _ _ h0 h2
  | .bl _, _, _, _, h, _ => by simp [D.nk] at h
  | .frl _, _, _, _, h, _ => by simp [D.nk] at h
  | .ref _, _, _, _, h, _ => by simp [D.nk] at h
theorem keqs_nk : ∀ (as bs : List D) (xs ys : List NestedKey), D.nks as = some xs → D.nks bs = some ys → D.keqs as bs = NestedKey.beqAll xs ys
  | [], bs, xs, ys, h, h' => by
    cases h
    cases bs with
    | nil => cases h'; rfl
    | cons b bs =>
      simp only [D.nks, Option.bind_eq_some_iff, Option.map_eq_some_iff] at h'
      obtain ⟨k, _, ks, _, rfl⟩ := h'
      rfl
  | a :: as, bs, xs, ys, h, h' => by
    simp only [D.nks, Option.bind_eq_some_iff, Option.map_eq_some_iff] at h
    obtain ⟨k0, e0, ks0, e1, rfl⟩ := h
    cases bs with
    | nil => cases h'; rfl
    | cons b bs =>
      simp only [D.nks, Option.bind_eq_some_iff, Option.map_eq_some_iff] at h'
      obtain ⟨k, e2, ks, e3, rfl⟩ := h'
      simp only [D.keqs, NestedKey.beqAll]
      rw [keq_nk a b _ _ e0 e2, keqs_nk as bs _ _ e1 e3]
end
theorem tk_nk {d : D} (h : D.tk d = true) : ∃ k, D.nk d = some k ∧ k.depth ≤ 8 := by
  unfold D.tk at h
  split at h
  · split at h
    · rename_i k e
      exact ⟨k, e, of_decide_eq_true h⟩
    · cases h
  · cases h
section
variable {X : Cx} {pins : List (Addr × Obj)} {σ : L2.St} {H : Hp} {s : Shared} {as : List Addr}
mutual
theorem nk_is (I : Inv X pins σ H s) : ∀ {v : V} {d : D}, RV X.K H as v d → ∀ {k : NestedKey} {u : Value}, D.nk d = some k → RelV v u → NestedIs s.heap k u
  | _, _, .non, _, u, h, r => by
    cases h
    obtain rfl : u = Value.none := r
    exact .none
  | _, _, .bl _, _, _, h, _ => by simp [D.nk] at h
  | _, _, .int i, _, u, h, r => by
    cases h
    obtain ⟨t, rfl⟩ := (show ∃ t, u = Value.int i t from r)
    exact .int i t
  | _, _, .str x, _, u, h, r => by
    cases h
    obtain ⟨t, rfl⟩ := (show ∃ t, u = Value.str ⟨x.toArray⟩ t from r)
    exact .text _ t
  | _, _, .tup (a := a) h l, _, u, e, r => by
    simp only [D.nk, Option.map_eq_some_iff] at e
    obtain ⟨ks, e1, rfl⟩ := e
    obtain rfl : u = Value.ref a := r
    obtain ⟨its, rv, ⟨o, h1, h2, n, h3⟩, _⟩ := I.tuple h
    exact .tup h1 h2 h3 (by simpa using nks_is I l e1 rv)
  | _, _, .frl _ _, _, _, h, _ => by simp [D.nk] at h
  | _, _, .ref _, _, _, h, _ => by simp [D.nk] at h
theorem nks_is (I : Inv X pins σ H s) : ∀ {vs : List V} {ds : List D}, RL X.K H as vs ds → ∀ {ks : List NestedKey} {us : List Value}, D.nks ds = some ks → Vals vs us → NestedAll s.heap ks us
  | _, _, .nil, _, _, h, r => by cases h; cases r; exact .nil
  | _, _, .cons q l, _, _, h, r => by
    simp only [D.nks, Option.bind_eq_some_iff, Option.map_eq_some_iff] at h
    obtain ⟨k0, e0, ks0, e1, rfl⟩ := h
    cases r with
    | cons r1 r2 => exact .cons (nk_is I q e0 r1) (nks_is I l e1 r2)
end
/-- a tuple that is a key -/
theorem key_at (I : Inv X pins σ H s) {y : V} {d : D} {u : Value} (r : RV X.K H as y d) (h : D.tk d = true) (ru : RelV y u) : ∃ b k, y = .ref b ∧ u = .ref b ∧ D.nk d = some k ∧ (nestedKind X.prog X.w).is s.heap k b := by
  obtain ⟨k, e, hd⟩ := tk_nk h
  cases r with
  | @tup a vs ds hs l =>
    obtain rfl : u = Value.ref a := ru
    exact ⟨a, k, rfl, rfl, e, nk_is I (.tup hs l) e rfl, hd⟩
  | non => cases h
  | bl _ => cases h
  | int _ => cases h
  | str _ => cases h
  | frl _ _ => cases h
  | ref _ => cases h
abbrev PV : List (NestedKey × Addr × V) → List (NestedKey × Addr × Value) → Prop := Paired fun p q => p.1 = q.1 ∧ p.2.1 = q.2.1 ∧ RelV p.2.2 q.2.2
def valX (xs : List (NestedKey × Addr × V)) (k : NestedKey) : Option V := (xs.find? fun p => decide (p.1 = k)).map (·.2.2)
def pnX (xs : List (NestedKey × Addr × V)) (k : NestedKey) (b : Addr) (v : V) : List (NestedKey × Addr × V) :=
  if (valX xs k).isSome then xs.map fun p => if p.1 = k then (p.1, p.2.1, v) else p else xs ++ [(k, b, v)]
theorem PV.val {xs : List (NestedKey × Addr × V)} {vs : List (NestedKey × Addr × Value)} (r : PV xs vs) (k : NestedKey) : RelO (valX xs k) ((atKey vs k).map (·.2)) := by
  induction r with
  | nil => exact True.intro
  | @cons p q ps qs h t ih =>
    obtain ⟨h1, _, h2⟩ := h
    by_cases e : p.1 = k
    · have e' : q.1 = k := h1.symm.trans e
      have a : valX (p :: ps) k = some p.2.2 := by simp [valX, List.find?_cons, e]
      have b : atKey (q :: qs) k = some q.2 := by simp [atKey, List.find?_cons, e']
      rw [a, b]; exact h2
    · have e' : ¬ q.1 = k := fun z => e (h1.trans z)
      have a : valX (p :: ps) k = valX ps k := by simp [valX, List.find?_cons, e]
      have b : atKey (q :: qs) k = atKey qs k := by simp [atKey, List.find?_cons, e']
      rw [a, b]; exact ih
theorem PV.put {xs : List (NestedKey × Addr × V)} {vs : List (NestedKey × Addr × Value)} (r : PV xs vs) (k : NestedKey) {b : Addr} {y : V} {u : Value} (ry : RelV y u) : PV (pnX xs k b y) (storedH vs k b u) := by
  have e : (valX xs k).isSome = (atKey vs k).isSome := by rw [(r.val k).isSome_eq, Option.isSome_map]
  unfold pnX storedH
  rw [e]
  by_cases q : (atKey vs k).isSome = true
  · rw [if_pos q, if_pos q]
    clear e q
    induction r with
    | nil => exact .nil
    | @cons p q ps qs h t ih =>
      rw [List.map_cons, List.map_cons]
      refine .cons ?_ ih
      obtain ⟨h1, h2, h3⟩ := h
      unfold putAt
      by_cases e : p.1 = k
      · rw [if_pos e, if_pos (h1.symm.trans e)]; exact ⟨h1, h2, ry⟩
      · rw [if_neg e, if_neg (fun z => e (h1.trans z))]; exact ⟨h1, h2, h3⟩
  · rw [if_neg q, if_neg q]; exact Paired.snoc r ⟨rfl, rfl, ry⟩
theorem PV.keys {xs : List (NestedKey × Addr × V)} {vs : List (NestedKey × Addr × Value)} (r : PV xs vs) : xs.map (·.1) = vs.map (·.1) := by
  induction r with
  | nil => rfl
  | cons h t ih => rw [List.map_cons, List.map_cons, ih, h.1]
theorem length_pnX (xs : List (NestedKey × Addr × V)) (k : NestedKey) (b : Addr) (v : V) : (pnX xs k b v).length ≤ xs.length + 1 := by
  unfold pnX
  split
  · simp
  · simp
theorem nd_of (I : Inv X pins σ H s) {a : Addr} {xs : List (NestedKey × Addr × V)} {kvs : List (D × D)} (e : H a = some (nO X.w a xs)) (r : RX X.K H as xs kvs) :
    (a == sysModules) = false ∧ xs.length ≤ sizeLine ∧ ∃ vs, PV xs vs ∧ s.heap.DictOfH (nestedKind X.prog X.w) a vs := by
  obtain ⟨⟨hd, hz, nd, vs, o, es, ep, pv, h1, h2, h3, h4⟩, h9⟩ := (show ObjOk X.prog X.w H s.heap a (nO X.w a xs) from I.hok a _ e)
  refine ⟨hd, hz, vs, pv, o, es, ep, h1, h2, h3, h4, ?_, by rw [← PV.keys pv]; exact nd⟩
  clear h9 nd hz h4 e
  induction pv generalizing kvs with
  | nil => intro x hx; exact nomatch hx
  | @cons p q ps qs h t ih =>
    cases r with
    | cons r1 r2 =>
      intro x hx
      rcases List.mem_cons.mp hx with hx | hx
      · subst hx
        obtain ⟨⟨rv, e1, tk⟩, _⟩ := r1
        obtain ⟨b, k, e2, _, e3, z⟩ := key_at I rv tk (u := .ref p.2.1) rfl
        rw [e1] at e3
        cases e3
        cases e2
        rw [← h.1, ← h.2.1]
        exact z
      · exact ih r2 x hx
theorem nd_nil (I : Inv X pins σ H s) {a : Addr} (e : Rd H a (.dK [])) : (a == sysModules) = false ∧ s.heap.DictOfH (nestedKind X.prog X.w) a [] := by
  obtain ⟨_, hd, vs, r, o, es, ep, h1, h2, h3, _, h4, _⟩ := dk_rd I.hok e
  cases r
  have e0 : es.toList = [] := List.eq_nil_of_length_eq_zero h4.length
  exact ⟨hd, o, es, ep, h1, h2, h3, by rw [e0]; rfl, (fun x hx => nomatch hx), List.nodup_nil⟩
theorem nO_ok {P : Program} {w : World} {H : Hp} {h : Heap} {a : Addr} {xs : List (NestedKey × Addr × V)} {vs : List (NestedKey × Addr × Value)} (hd : (a == sysModules) = false) (hz : xs.length ≤ sizeLine) (pv : PV xs vs)
    (dd : h.DictOfH (nestedKind P w) a vs) : ObjOk P w H h a (nO w a xs) := by
  obtain ⟨o, es, ep, h1, h2, h3, h4, _, h5⟩ := dd
  refine ⟨⟨hd, hz, by rw [PV.keys pv]; exact h5, vs, o, es, ep, pv, h1, h2, h3, h4⟩, ⟨o, h1⟩, fun g1 g2 z k => ?_⟩
  obtain ⟨a1, a2, a3, vs', o', es', ep', b1, b2, b3⟩ := z
  exact ⟨a1, a2, a3, vs', o', es', ep', b1, k _ b2, b3⟩
end
/-- what the dict at a holds at the key y -/
def NGet (K : PySem.W.Frag) (w : World) (H : Hp) (a : Addr) (y : V) (r : Option V) : Prop :=
  (∃ as xs kvs d k, H a = some (nO w a xs) ∧ RX K H as xs kvs ∧ RV K H as y d ∧ D.tk d = true ∧ D.nk d = some k ∧ r = valX xs k) ∨ ∃ as d, Rd H a (.dK []) ∧ RV K H as y d ∧ D.tk d = true ∧ r = none
def LGet (K : PySem.W.Frag) (w : World) (H : Hp) (a : Addr) (y : V) (r : Option V) : Prop := DGet H a y r ∨ NGet K w H a y r
def NPut (K : PySem.W.Frag) (w : World) (H : Hp) (a : Addr) (y v : V) (H' : Hp) : Prop :=
  (∃ as xs kvs d k b, H a = some (nO w a xs) ∧ RX K H as xs kvs ∧ y = .ref b ∧ RV K H as y d ∧ D.tk d = true ∧ D.nk d = some k ∧ xs.length < sizeLine ∧ H' = upd H a (nO w a (pnX xs k b v))) ∨
  ∃ as d k b, H a = some (.dK []) ∧ y = .ref b ∧ RV K H as y d ∧ D.tk d = true ∧ D.nk d = some k ∧ H' = upd H a (nO w a [(k, b, v)])
section
variable {X : Cx} {pins : List (Addr × Obj)} {σ : L2.St} {H : Hp} {s : Shared} {a : Addr} {y v : V} {u r : Value} {o : Option V} {A : Around} {E : Value → Shared → Prop}
theorem ng_at (I : Inv X pins σ H s) (g : NGet X.K X.w H a y o) (ry : RelV y u) : ∃ b k vs, u = .ref b ∧ (a == sysModules) = false ∧ (nestedKind X.prog X.w).is s.heap k b ∧ s.heap.DictOfH (nestedKind X.prog X.w) a vs ∧ RelO o ((atKey vs k).map (·.2)) := by
  rcases g with ⟨as, xs, kvs, d, k, e, rx, rv, tk, ek, l⟩ | ⟨as, d, e, rv, tk, l⟩
  · obtain ⟨b, k', e1, e2, e3, z⟩ := key_at I rv tk ry
    rw [ek] at e3; cases e3
    obtain ⟨hd, _, vs, pv, dd⟩ := nd_of I e rx
    exact ⟨b, k, vs, e2, hd, z, dd, by rw [l]; exact PV.val pv k⟩
  · obtain ⟨b, k', e1, e2, e3, z⟩ := key_at I rv tk ry
    obtain ⟨hd, dd⟩ := nd_nil I e
    exact ⟨b, k', [], e2, hd, z, dd, by rw [l]; exact True.intro⟩
theorem room8 (hu : A.units + 64 < cLine) : (nestedKind X.prog X.w).room A.in1 := by show A.units + 1 + 8 < cLine; omega
theorem l_getItem {Q : Value → Shared → Prop} (hu : A.units + 64 < cLine) (I : Inv X pins σ H s) (g : LGet X.K X.w H a y (some v)) (ry : RelV y u) (h : ∀ w' s', Inv X pins σ H s' → RelV v w' → Q w' s') :
    wpAny (model X.prog X.w) A (getItem (.ref a) u) Q E s := by
  rcases g with g | g
  · exact d_getItem (by omega) I g ry h
  · obtain ⟨b, k, vs, rfl, hd, z, dd, ro⟩ := ng_at I g ry
    obtain ⟨w', hw, rw'⟩ := RelO.some_of ro
    obtain ⟨p, hp, hp2⟩ := Option.map_eq_some_iff.mp hw
    refine wpAny_getItem_heap (room8 hu) z dd hp ?_
    rw [hp2]
    exact h w' _ (I.tok _) rw'
theorem l_in {Q : Value → Shared → Prop} (hu : A.units + 64 < cLine) (I : Inv X pins σ H s) (g : LGet X.K X.w H a y o) (ry : RelV y u) (h : ∀ s', Inv X pins σ H s' → Q (.bool o.isSome) s') :
    wpAny (model X.prog X.w) A (compareOp .In u (.ref a)) Q E s := by
  rcases g with g | g
  · exact d_in (by omega) I g ry h
  · obtain ⟨b, k, vs, rfl, hd, z, dd, ro⟩ := ng_at I g ry
    refine wpAny_in_heap (room8 hu) z hd dd ?_
    have q := ro.isSome_eq
    rw [Option.isSome_map] at q
    rw [← q]
    exact h _ (I.tok _)
theorem l_notIn {Q : Value → Shared → Prop} (hu : A.units + 64 < cLine) (I : Inv X pins σ H s) (g : LGet X.K X.w H a y o) (ry : RelV y u) (h : ∀ s', Inv X pins σ H s' → Q (.bool (!o.isSome)) s') :
    wpAny (model X.prog X.w) A (compareOp .NotIn u (.ref a)) Q E s := by
  rcases g with g | g
  · exact d_notIn (by omega) I g ry h
  · obtain ⟨b, k, vs, rfl, hd, z, dd, ro⟩ := ng_at I g ry
    refine wpAny_notIn_heap (room8 hu) z hd dd ?_
    have q := ro.isSome_eq
    rw [Option.isSome_map] at q
    rw [← q]
    exact h _ (I.tok _)
theorem l_get1 {Q : Value → Shared → Prop} (hu : A.units + 64 < cLine) (I : Inv X pins σ H s) (g : LGet X.K X.w H a y o) (ry : RelV y u) (h : ∀ w' s', Inv X pins σ H s' → RelV (o.getD .non) w' → Q w' s') :
    wpAny (model X.prog X.w) A (call (.builtin "dict.get") [.ref a, u]) Q E s := by
  rcases g with g | g
  · exact d_get1 (by omega) I g ry h
  · obtain ⟨b, k, vs, rfl, hd, z, dd, ro⟩ := ng_at I g ry
    exact call_meetsIn PySem.F.slot_dict_get dd.typeIs PySem.F.entry_dict_get (PySem.F.args_dict_get_2 _ _) (meetsH_dict_get (nestedKind X.prog X.w) a b hd) ⟨room8 hu, k, vs, z, dd, h _ _ (I.tok _) (ro.getD rfl)⟩
theorem l_get2 {d : V} {Q : Value → Shared → Prop} (hu : A.units + 64 < cLine) (I : Inv X pins σ H s) (g : LGet X.K X.w H a y o) (ry : RelV y u) (rd : RelV d r) (h : ∀ w' s', Inv X pins σ H s' → RelV (o.getD d) w' → Q w' s') :
    wpAny (model X.prog X.w) A (call (.builtin "dict.get") [.ref a, u, r]) Q E s := by
  rcases g with g | g
  · exact d_get2 (by omega) I g ry rd h
  · obtain ⟨b, k, vs, rfl, hd, z, dd, ro⟩ := ng_at I g ry
    exact call_meetsIn PySem.F.slot_dict_get dd.typeIs PySem.F.entry_dict_get (PySem.F.args_dict_get_3 _ _ _) (meetsH_dict_get_default (nestedKind X.prog X.w) a b hd r) ⟨room8 hu, k, vs, z, dd, h _ _ (I.tok _) (ro.getD rd)⟩
theorem l_setItem {H' : Hp} {Q : Unit → Shared → Prop} (hu : A.units + 64 < cLine) (I : Inv X pins σ H s) (g : DPut H a y v H' ∨ NPut X.K X.w H a y v H') (ry : RelV y u) (rv : RelV v r) (h : ∀ s', Inv X pins σ H' s' → Q () s') :
    wpAny (model X.prog X.w) A (setItem (.ref a) u r) Q E s := by
  rcases g with g | ⟨as, xs, kvs, d, k, b, e, rx, ey, ryd, tk, ek, hl, rfl⟩ | ⟨as, d, k, b, e, ey, ryd, tk, ek, rfl⟩
  · exact d_setItem (by omega) I g ry rv h
  · obtain ⟨b', k', e1, e2, e3, z⟩ := key_at I ryd tk ry
    rw [ek] at e3; cases e3
    subst ey
    cases e1
    obtain rfl := e2
    obtain ⟨hd, hz, vs, pv, dd⟩ := nd_of I e rx
    refine wpAny_setItem_heap (hsz := by rw [← Paired.length pv]; exact hz) (room8 hu) z dd fun h' dd' hs => h _ ?_
    have he : ∃ q, h'.get? a = some q := let ⟨q, _, _, hq, _⟩ := dd'; ⟨q, hq⟩
    refine d_write I (by rw [e]; exact True.intro) hs he (nO_ok hd ?_ (PV.put pv k rv) dd')
    have := length_pnX xs k b v
    omega
  · obtain ⟨b', k', e1, e2, e3, z⟩ := key_at I ryd tk ry
    rw [ek] at e3; cases e3
    subst ey
    cases e1
    obtain rfl := e2
    obtain ⟨hd, dd⟩ := nd_nil I (.inl e)
    refine wpAny_setItem_heap (hsz := Nat.zero_le _) (room8 hu) z dd fun h' dd' hs => h _ ?_
    have he : ∃ q, h'.get? a = some q := let ⟨q, _, _, hq, _⟩ := dd'; ⟨q, hq⟩
    exact d_write I (by rw [e]; exact True.intro) hs he (nO_ok hd (by rw [sizeLine_eq]; show 1 ≤ 16777216; decide) (.cons ⟨rfl, rfl, rv⟩ .nil) dd')
theorem l_typeIs (I : Inv X pins σ H s) (g : LGet X.K X.w H a y o) (ry : RelV y u) : s.TypeIs (.ref a) "dict" := by
  rcases g with g | g
  · exact dict_typeIs I g
  · obtain ⟨b, k, vs, rfl, hd, z, dd, ro⟩ := ng_at I g ry
    exact dd.typeIs
end
/-! ### the same, over data -/
def RVO (K : PySem.W.Frag) (H : Hp) (as : List Addr) : Option V → Option D → Prop
  | some v, some d => RV K H as v d
  | none, none => True
  | _, _ => False
theorem kD_keq (a b : Key) : D.keq (kD a) (kD b) = decide (a = b) := by
  cases a with
  | inl i => cases b with
    | inl j => simp [kD, D.keq]
    | inr y => simp [kD, D.keq]
  | inr x => cases b with
    | inl j => simp [kD, D.keq]
    | inr y =>
      simp only [kD, D.keq]
      have e : (x.cps.toList = y.cps.toList) ↔ ((Sum.inr x : Key) = Sum.inr y) := ⟨fun h => by rw [TL.ext_tl h], fun h => by cases h; rfl⟩
      exact decide_eq_decide.mpr e
section
variable {K : PySem.W.Frag} {H : Hp} {as : List Addr}
theorem dLk_cons (q : D × D) (kvs : List (D × D)) (k : D) : dLk (q :: kvs) k = if D.keq q.1 k then some q.2 else dLk kvs k := by
  unfold dLk
  rw [List.find?_cons]
  cases D.keq q.1 k <;> rfl
theorem RK.look {ks : List (Key × V)} {kvs : List (D × D)} (r : RK K H as ks kvs) (k : Key) : RVO K H as (valV ks k) (dLk kvs (kD k)) := by
  induction r with
  | nil => exact True.intro
  | @cons p q ps qs h t ih =>
    rw [dLk_cons, h.1, kD_keq]
    by_cases e : p.1 = k
    · rw [valV_pos e, decide_eq_true e, if_pos rfl]; exact h.2
    · rw [valV_neg e, decide_eq_false e, if_neg (by decide)]; exact ih
theorem RX.look {xs : List (NestedKey × Addr × V)} {kvs : List (D × D)} (r : RX K H as xs kvs) {d : D} {k : NestedKey} (ek : D.nk d = some k) : RVO K H as (valX xs k) (dLk kvs d) := by
  induction r with
  | nil => exact True.intro
  | @cons p q ps qs h t ih =>
    rw [dLk_cons, keq_nk _ _ _ _ h.1.2.1 ek, ← NestedKey.decide_eq]
    by_cases e : p.1 = k
    · have a : valX (p :: ps) k = some p.2.2 := by simp [valX, List.find?_cons, e]
      rw [a, decide_eq_true e, if_pos rfl]; exact h.2
    · have a : valX (p :: ps) k = valX ps k := by simp [valX, List.find?_cons, e]
      rw [a, decide_eq_false e, if_neg (by decide)]; exact ih
theorem RVO.some_eq {o : Option V} {d : Option D} (r : RVO K H as o d) : o.isSome = d.isSome := by
  cases o <;> cases d <;> first | rfl | exact r.elim
theorem RK.put {ks : List (Key × V)} {kvs : List (D × D)} (r : RK K H as ks kvs) (k : Key) {v : V} {d : D} (rv : RV K H as v d) : RK K H as (putK ks k v) (dPut kvs (kD k) d) := by
  unfold putK dPut
  rw [valV_any, (RK.look r k).some_eq]
  by_cases q : (dLk kvs (kD k)).isSome = true
  · rw [if_pos q, if_pos q]
    clear q
    induction r with
    | nil => exact .nil
    | @cons p q ps qs h t ih =>
      rw [List.map_cons, List.map_cons]
      refine .cons ?_ ih
      rw [h.1, kD_keq]
      by_cases e : p.1 = k
      · rw [if_pos e, decide_eq_true e, if_pos rfl]; exact ⟨rfl, rv⟩
      · rw [if_neg e, decide_eq_false e, if_neg (by decide)]; exact h
  · rw [if_neg q, if_neg q]; exact Paired.snoc r ⟨rfl, rv⟩
theorem RX.put {xs : List (NestedKey × Addr × V)} {kvs : List (D × D)} (r : RX K H as xs kvs) {b : Addr} {dk : D} {k : NestedKey} (rk : RV K H as (.ref b) dk) (tk : D.tk dk = true) (ek : D.nk dk = some k) {v : V} {d : D} (rv : RV K H as v d) :
    RX K H as (pnX xs k b v) (dPut kvs dk d) := by
  unfold pnX dPut
  rw [(RX.look r ek).some_eq]
  by_cases q : (dLk kvs dk).isSome = true
  · rw [if_pos q, if_pos q]
    clear q
    induction r with
    | nil => exact .nil
    | @cons p q ps qs h t ih =>
      rw [List.map_cons, List.map_cons]
      refine .cons ?_ ih
      rw [keq_nk _ _ _ _ h.1.2.1 ek, ← NestedKey.decide_eq]
      by_cases e : p.1 = k
      · rw [if_pos e, decide_eq_true e, if_pos rfl]; exact ⟨h.1, rv⟩
      · rw [if_neg e, decide_eq_false e, if_neg (by decide)]; exact h
  · rw [if_neg q, if_neg q]; exact Paired.snoc r ⟨⟨rk, ek, tk⟩, rv⟩
end
theorem kD_str (x : Tx) : kD (.inr ⟨x.toArray⟩) = .str x := by simp [kD]
section
variable {G : Wd} {H : Hp} {as : List Addr} {h : DH} {i : Nat} {p : Addr} {o : O} {y : V} {dy : D}
theorem tk_ref {K : PySem.W.Frag} (ry : RV K H as y dy) (tk : D.tk dy = true) : ∃ b, y = .ref b := by
  cases ry <;> first | exact ⟨_, rfl⟩ | cases tk
theorem rh_get (rh : RH G H as h) (ep : as[i]? = some p) (eo : h[i]? = some o) (ry : RV G.K H as y dy) {r : Option D} (hg : dGetO o dy = some r) : ∃ rv, LGet G.K G.w H p y rv ∧ RVO G.K H as rv r := by
  have q := rh.ob i p o ep eo
  unfold dGetO at hg
  split at hg
  · rename_i kvs j
    obtain ⟨ks, e, rk⟩ := q
    cases ry
    cases hg
    exact ⟨_, .inl (.inl ⟨ks, .inl j, .inl e, rfl, rfl⟩), RK.look rk (.inl j)⟩
  · rename_i kvs x
    obtain ⟨ks, e, rk⟩ := q
    cases ry
    cases hg
    refine ⟨_, .inl (.inl ⟨ks, .inr ⟨x.toArray⟩, .inl e, rfl, rfl⟩), ?_⟩
    have := RK.look rk (.inr ⟨x.toArray⟩)
    rw [kD_str] at this
    exact this
  · rename_i ks
    split at hg
    · rename_i tk
      cases hg
      obtain ⟨ks', e, rk⟩ := q
      cases rk
      exact ⟨none, .inr (.inr ⟨as, _, .inl e, ry, tk, rfl⟩), True.intro⟩
    · cases hg
  · rename_i kvs ks
    split at hg
    · rename_i tk
      cases hg
      obtain ⟨xs, e, rx⟩ := q
      obtain ⟨k, ek, _⟩ := tk_nk tk
      exact ⟨_, .inr (.inl ⟨as, xs, kvs, _, k, e, rx, ry, tk, ek, rfl⟩), RX.look rx ek⟩
    · cases hg
  · cases hg
theorem ex0_put' {u w : HO} (hq : H p = some w) (k : ours w = true) : Ex0 H as (upd H p u) as := by
  have ne : ∀ b z, H b = some z → ours z = false → b ≠ p := fun b z eb kz e => by
    subst e; rw [hq] at eb; cases eb; rw [k] at kz; cases kz
  refine ⟨fun _ _ e => e, fun b ys e => ?_, fun b o u e => ?_⟩
  · rcases e with e | ⟨ob, e⟩
    · exact .inl (by rw [upd_ne (ne b _ e rfl)]; exact e)
    · exact .inr ⟨ob, by rw [upd_ne (ne b _ e rfl)]; exact e⟩
  · rw [upd_ne (ne b _ e rfl)]; exact e
theorem rh_put (rh : RH G H as h) (ep : as[i]? = some p) (eo : h[i]? = some o) (ry : RV G.K H as y dy) {v : V} {dv : D} (rv : RV G.K H as v dv) {o' : O} (hg : dPutO o dy dv = some o') :
    ∃ H', (DPut H p y v H' ∨ NPut G.K G.w H p y v H') ∧ Ext H as H' as ∧ RH G H' as (h.set i o') := by
  have q := rh.ob i p o ep eo
  unfold dPutO at hg
  split at hg
  · rename_i kvs j
    split at hg
    · rename_i hl
      obtain ⟨ks, e, rk⟩ := q
      cases ry
      cases hg
      have hl' : ks.length < sizeLine := by rw [Paired.length rk]; exact hl
      refine ⟨_, .inl (DPut.k (k := .inl j) e hl'), rh.put ep ⟨_, upd_same, RK.mono (ex0_put' e rfl) (RK.put rk (.inl j) rv)⟩⟩
    · cases hg
  · rename_i kvs x
    split at hg
    · rename_i hl
      obtain ⟨ks, e, rk⟩ := q
      cases ry
      cases hg
      have hl' : ks.length < sizeLine := by rw [Paired.length rk]; exact hl
      have z := RK.put rk (.inr ⟨x.toArray⟩) rv
      rw [kD_str] at z
      exact ⟨_, .inl (DPut.k (k := .inr ⟨x.toArray⟩) e hl'), rh.put ep ⟨_, upd_same, RK.mono (ex0_put' e rfl) z⟩⟩
    · cases hg
  · rename_i ks
    split at hg
    · rename_i tk
      cases hg
      obtain ⟨ks', e, rk⟩ := q
      cases rk
      obtain ⟨k, ek, _⟩ := tk_nk tk
      obtain ⟨b, rfl⟩ := tk_ref ry tk
      exact ⟨_, .inr (.inr ⟨as, _, k, b, e, rfl, ry, tk, ek, rfl⟩), rh.put ep ⟨_, upd_same, RX.mono (ex0_put' e rfl) (.cons ⟨⟨ry, ek, tk⟩, rv⟩ .nil)⟩⟩
    · cases hg
  · rename_i kvs ks
    split at hg
    · rename_i tk
      rw [Bool.and_eq_true, decide_eq_true_eq] at tk
      cases hg
      obtain ⟨xs, e, rx⟩ := q
      obtain ⟨k, ek, _⟩ := tk_nk tk.1
      obtain ⟨b, rfl⟩ := tk_ref ry tk.1
      exact ⟨_, .inr (.inl ⟨as, xs, kvs, _, k, b, e, rx, rfl, ry, tk.1, ek, by rw [Paired.length rx]; exact tk.2, rfl⟩), rh.put ep ⟨_, upd_same, RX.mono (ex0_put' e nO_ours) (RX.put rx ry tk.1 ek rv)⟩⟩
    · cases hg
  · cases hg
end
/-! ### rules by values -/
section
variable {X : Cx}
def rIxD (K : PySem.W.Frag) (w : World) : R2 := fun x y H Q => ∃ a v, x = .ref a ∧ LGet K w H a y (some v) ∧ Q v H
theorem ix_dic (hu : X.A.units + 64 < cLine) : IxR X (rIxD X.K X.w) := by
  intro value slice pins s σ H x y v u Q I rx ry h hs
  obtain ⟨a, z, rfl, g, q⟩ := h
  obtain rfl : v = Value.ref a := rx
  exact tail_any (l_typeIs I g ry) PySem.F.slot_dict_getitem.lookup (l_getItem hu I g ry fun w' s' I' rw' => ⟨z, H, I', rw', q⟩) hs
def rSetD (K : PySem.W.Frag) (w : World) : TSet := fun o i v H Q => ∃ a H', o = .ref a ∧ (DPut H a i v H' ∨ NPut K w H a i v H') ∧ Q H'
theorem set_dic (hu : X.A.units + 64 < cLine) : PSet X (rSetD X.K X.w) := by
  intro pins s σ H o i v ov iv u Q I ro ri rv h
  obtain ⟨a, H', rfl, g, q⟩ := h
  obtain rfl : ov = Value.ref a := ro
  exact l_setItem hu I g ri rv fun s' I' => ⟨H', I', q⟩
theorem PSet.or {t t' : TSet} (h : PSet X t) (h' : PSet X t') : PSet X (fun o i v H Q => t o i v H Q ∨ t' o i v H Q) := by
  intro pins s σ H o i v ov iv u Q I ro ri rv q
  rcases q with q | q
  · exact h pins s σ H o i v ov iv u Q I ro ri rv q
  · exact h' pins s σ H o i v ov iv u Q I ro ri rv q
def rInD (K : PySem.W.Frag) (w : World) : R2 := fun y x H Q => ∃ a o, x = .ref a ∧ LGet K w H a y o ∧ Q (.bl o.isSome) H
def rNiD (K : PySem.W.Frag) (w : World) : R2 := fun y x H Q => ∃ a o, x = .ref a ∧ LGet K w H a y o ∧ Q (.bl (!o.isSome)) H
theorem op_inD (hu : X.A.units + 64 < cLine) : OpR X (compareOp .In) (rInD X.K X.w) := by
  intro pins s σ H y x u v Q I ry rx h
  obtain ⟨a, o, rfl, g, q⟩ := h
  obtain rfl : v = Value.ref a := rx
  exact l_in hu I g ry fun s' I' => ⟨.bl _, H, I', rfl, q⟩
theorem op_niD (hu : X.A.units + 64 < cLine) : OpR X (compareOp .NotIn) (rNiD X.K X.w) := by
  intro pins s σ H y x u v Q I ry rx h
  obtain ⟨a, o, rfl, g, q⟩ := h
  obtain rfl : v = Value.ref a := rx
  exact l_notIn hu I g ry fun s' I' => ⟨.bl _, H, I', rfl, q⟩
end
end Mp

/-! Mp3: readings by plain functions; expressions. -/
namespace Mp
open PySem L2 LamX

/-- what an exception bears -/
def ExcR (G : Wd) (H : Hp) (as : List Addr) (w : Option D) (dx : Option Addr) : Prop := match w with
  | none => dx = none
  | some d => ∃ a v, dx = some a ∧ H a = some (.xd [("word", v)]) ∧ RV G.K H as v d
def OutR {α χ : Type} (rel : Hp → List Addr → χ → α → Prop) (r : Rs α) (G : Wd) (H : Hp) (as : List Addr) (Q : χ → Hp → Prop) (E : XK) : Prop := match r with
  | .ok d h' => ∀ v H' as', Ext H as H' as' → rel H' as' v d → RH G H' as' h' → Q v H'
  | .exc c w h' => ∀ dx H' as', Ext H as H' as' → ExcR G H' as' w dx → RH G H' as' h' → E (.ref (G.cls c)) dx H'
  | .err => False
abbrev OutE (r : Res) (G : Wd) (H : Hp) (as : List Addr) (Q : VK) (E : XK) : Prop := OutR (RV G.K) r G H as Q E
abbrev OutL (r : Rs (List D)) (G : Wd) (H : Hp) (as : List Addr) (Q : List V → Hp → Prop) (E : XK) : Prop := OutR (RL G.K) r G H as Q E
section
variable {α β χ ψ : Type} {rel : Hp → List Addr → χ → α → Prop} {rel2 : Hp → List Addr → ψ → β → Prop} {G : Wd} {H H' : Hp} {as as' : List Addr} {E : XK}
theorem OutR.mono {r : Rs α} {Q : χ → Hp → Prop} (o : OutR rel r G H as Q E) (x : Ext H as H' as') : OutR rel r G H' as' Q E := by
  cases r with
  | ok d h => exact fun v H2 as2 y => o v H2 as2 (x.trans y)
  | exc c w h => exact fun v H2 as2 y => o v H2 as2 (x.trans y)
  | err => exact o
theorem OutR.imp {r : Rs α} {Q Q' : χ → Hp → Prop} (o : OutR rel r G H as Q E) (k : ∀ v H, Q v H → Q' v H) : OutR rel r G H as Q' E := by
  cases r with
  | ok d h => exact fun v H2 as2 y z w => k _ _ (o v H2 as2 y z w)
  | exc c w h => exact o
  | err => exact o
theorem OutR.impE {E' : XK} {r : Rs α} {Q : χ → Hp → Prop} (o : OutR rel r G H as Q E) (k : ∀ c d H, E c d H → E' c d H) : OutR rel r G H as Q E' := by
  cases r with
  | ok d h => exact o
  | exc c w h => exact fun v H2 as2 y z w => k _ _ _ (o v H2 as2 y z w)
  | err => exact o
/-- what is known behind a part -/
def Nxt (rel : Hp → List Addr → χ → α → Prop) (G : Wd) (H : Hp) (as : List Addr) (k : α → DH → Hp → List Addr → Prop) (v : χ) (H1 : Hp) : Prop :=
  ∃ d h1 as1, Ext H as H1 as1 ∧ rel H1 as1 v d ∧ RH G H1 as1 h1 ∧ k d h1 H1 as1
theorem OutR.bind {r : Rs α} {f : α → DH → Rs β} {Q : ψ → Hp → Prop} (o : OutR rel2 (r.bind f) G H as Q E) : OutR rel r G H as (Nxt rel G H as fun d h1 H1 as1 => OutR rel2 (f d h1) G H1 as1 Q E) E := by
  cases r with
  | ok d h => exact fun v H2 as2 x r2 rh => ⟨d, h, as2, x, r2, rh, OutR.mono (show OutR rel2 (f d h) G H as Q E from o) x⟩
  | exc c w h => exact o
  | err => exact o
end

def REn (K : PySem.W.Frag) (H : Hp) (as : List Addr) (σ : St) (e : En) : Prop := σ.length = e.length ∧ ∀ (i : Nat) (d : D), e[i]? = some (some d) → ∃ v, σ[i]? = some (some v) ∧ RV K H as v d
section
variable {K : PySem.W.Frag} {H H' : Hp} {as as' : List Addr} {σ : St} {e : En}
theorem REn.mono (x : Ex0 H as H' as') (r : REn K H as σ e) : REn K H' as' σ e := ⟨r.1, fun i d h => by
  obtain ⟨v, e1, q⟩ := r.2 i d h
  exact ⟨v, e1, q.mono x⟩⟩
theorem REn.set {v : V} {d : D} (r : REn K H as σ e) (q : RV K H as v d) (i : Nat) : REn K H as (σ.set i (some v)) (e.set i (some d)) := ⟨by simp [r.1], fun j d' h => by
  by_cases hj : i = j
  · subst hj
    by_cases hi : i < e.length
    · rw [List.getElem?_set_self hi] at h
      have h' : d = d' := by simpa using h
      subst h'
      exact ⟨v, by rw [List.getElem?_set_self (by rw [r.1]; exact hi)], q⟩
    · rw [List.getElem?_eq_none (by simpa using hi)] at h
      cases h
  · rw [List.getElem?_set_ne hj] at h ⊢
    exact r.2 j d' h⟩
theorem REn.setN (r : REn K H as σ e) (i : Nat) : REn K H as (σ.set i none) (e.set i none) := ⟨by simp [r.1], fun j d' h => by
  by_cases hj : i = j
  · subst hj
    by_cases hi : i < e.length
    · rw [List.getElem?_set_self hi] at h
      cases h
    · rw [List.getElem?_eq_none (by simpa using hi)] at h
      cases h
  · rw [List.getElem?_set_ne hj] at h ⊢
    exact r.2 j d' h⟩
end
/-- where a reading stands -/
def At (G : Wd) (σ : St) (H : Hp) (k : En → DH → List Addr → Prop) : Prop := ∃ as h e, RH G H as h ∧ REn G.K H as σ e ∧ k e h as
def tE (G : Wd) (W : WX) (m : M) : TE := fun σ H Q => At G σ H fun e h as => OutE (m e h) G H as Q fun c d H' => W c d σ H'
def tT (G : Wd) (W : WX) (m : M) : TT := fun σ H Q => tE G W m σ H fun v H1 => ∃ b, v = .bl b ∧ Q b H1
def tL (G : Wd) (W : WX) (ms : List M) : TA := fun σ H Q => At G σ H fun e h as => OutL (evL ms e h) G H as Q fun c d H' => W c d σ H'

section
variable {X : Cx} {e : Expr}
theorem PE.imp {t t' : TE} (p : PE X e t) (k : ∀ σ H Q, t' σ H Q → t σ H Q) : PE X e t' := ⟨fun pins s σ H Q I h => p.run pins s σ H Q I (k _ _ _ h)⟩
theorem PT.imp {t t' : TT} (p : PT X e t) (k : ∀ σ H Q, t' σ H Q → t σ H Q) : PT X e t' := ⟨fun pins s σ H Q I h => p.run pins s σ H Q I (k _ _ _ h)⟩
theorem PA.imp {es : List Expr} {t t' : TA} (p : PA X es t) (k : ∀ σ H Q, t' σ H Q → t σ H Q) : PA X es t' := ⟨fun pos pins s σ H Q I h => p.run pos pins s σ H Q I (k _ _ _ h)⟩
theorem PS.imp {st : Stmt} {t t' : TS} (p : PS X st t) (k : ∀ D σ H, t' D σ H → t D σ H) : PS X st t' := ⟨fun pins s σ H D I h => p.run pins s σ H D I (k _ _ _ h)⟩
theorem PSs.imp {st : List Stmt} {t t' : TS} (p : PSs X st t) (k : ∀ D σ H, t' D σ H → t D σ H) : PSs X st t' := ⟨fun pins s σ H D I h => p.run pins s σ H D I (k _ _ _ h)⟩
end
theorem s_len (x : Tx) : (⟨x.toArray⟩ : Str).length = x.length := by simp [Str.length]
theorem s_app (x y : Tx) : (⟨x.toArray⟩ : Str) ++ ⟨y.toArray⟩ = ⟨(x ++ y).toArray⟩ := TL.ext_tl (by rw [TL.tl_append])
theorem RV.ofStr {K : PySem.W.Frag} {H : Hp} {as : List Addr} (z : Str) : RV K H as (.str z) (.str z.cps.toList) := by
  have := RV.str (K := K) (H := H) (as := as) z.cps.toList
  simpa using this

section
variable {X : Cx} {G : Wd} {W : WX} {a b c e : Expr} {ma mb mc : M} {pos : Pos}
theorem tE_lit {d : D} {v : V} {e : Expr} (p : PE X e (tC v)) (r : ∀ H as, RV G.K H as v d) : PE X e (tE G W (mLit d)) := PE.imp p fun σ H Q ⟨as, h, e, rh, re, o⟩ => o v H as (Ext.refl _ _) (r _ _) rh
theorem tE_var {i : Nat} {e : Expr} (p : PE X e (tVar i)) : PE X e (tE G W (mVar i)) := PE.imp p fun σ H Q ⟨as, h, e, rh, re, o⟩ => by
  unfold mVar at o
  dsimp only at o
  split at o
  · rename_i d q
    obtain ⟨v, e1, r⟩ := re.2 i d q
    exact ⟨v, e1, o v H as (Ext.refl _ _) r rh⟩
  · exact o.elim
/-- behind a part, the slots as they were -/
theorem At.nxt {H H1 : Hp} {as : List Addr} {σ : St} {en : En} {v : V} {k : D → DH → Hp → List Addr → Prop} (re : REn G.K H as σ en) (n : Nxt (RV G.K) G H as k v H1) :
    ∃ d h1 as1, Ext H as H1 as1 ∧ RV G.K H1 as1 v d ∧ RH G H1 as1 h1 ∧ REn G.K H1 as1 σ en ∧ k d h1 H1 as1 := by
  obtain ⟨d, h1, as1, x, r, rh, q⟩ := n
  exact ⟨d, h1, as1, x, r, rh, re.mono x.toEx0, q⟩
/-- two parts and an operation by values -/
theorem tE_op {r : R2} {f : D → D → DH → Res} (p : PE X e (tOp r (tE G W ma) (tE G W mb)))
    (hr : ∀ (x y : V) (dx dy : D) (H : Hp) (as : List Addr) (h : DH) (Q : VK) (E : XK), RV G.K H as x dx → RV G.K H as y dy → RH G H as h → OutE (f dx dy h) G H as Q E → r x y H Q) :
    PE X e (tE G W fun e h => (ma e h).bind fun x h1 => (mb e h1).bind fun y h2 => f x y h2) := PE.imp p fun σ H Q ⟨as, h, en, rh, re, o⟩ => by
  refine ⟨as, h, en, rh, re, (OutR.bind o).imp fun x H1 n => ?_⟩
  obtain ⟨dx, h1, as1, x1, rx, rh1, re1, o1⟩ := At.nxt re n
  refine ⟨as1, h1, en, rh1, re1, (OutR.bind o1).imp fun y H2 n => ?_⟩
  obtain ⟨dy, h2, as2, x2, ry, rh2, re2, o2⟩ := At.nxt re1 n
  exact hr x y dx dy H2 as2 h2 Q _ (rx.mono x2.toEx0) ry rh2 o2
theorem tE_un {r : V → Hp → VK → Prop} {f : D → DH → Res} (p : PE X e (tUn r (tE G W ma)))
    (hr : ∀ (x : V) (dx : D) (H : Hp) (as : List Addr) (h : DH) (Q : VK) (E : XK), RV G.K H as x dx → RH G H as h → OutE (f dx h) G H as Q E → r x H Q) :
    PE X e (tE G W fun e h => (ma e h).bind fun x h1 => f x h1) := PE.imp p fun σ H Q ⟨as, h, en, rh, re, o⟩ => by
  refine ⟨as, h, en, rh, re, (OutR.bind o).imp fun x H1 n => ?_⟩
  obtain ⟨dx, h1, as1, x1, rx, rh1, re1, o1⟩ := At.nxt re n
  exact hr x dx H1 as1 h1 Q _ rx rh1 o1
/-- arguments -/
theorem tL_nil : PA X [] (tL G W []) := PA.imp pa_nil fun σ H Q ⟨as, h, e, rh, re, o⟩ => o [] H as (Ext.refl _ _) .nil rh
theorem tL_cons {es : List Expr} {ms : List M} (pa : PE X e (tE G W ma)) (pr : PA X es (tL G W ms)) (hs : starEach (e :: es) X.env = (false, eval e X.env) :: starEach es X.env) : PA X (e :: es) (tL G W (ma :: ms)) :=
  PA.imp (pa_cons pa pr hs) fun σ H Q ⟨as, h, en, rh, re, o⟩ => by
    refine ⟨as, h, en, rh, re, (OutR.bind (rel := RV G.K) o).imp fun x H1 n => ?_⟩
    obtain ⟨dx, h1, as1, x1, rx, rh1, re1, o1⟩ := At.nxt re n
    refine ⟨as1, h1, en, rh1, re1, (OutR.bind (rel := RL G.K) o1).imp fun ys H2 n => ?_⟩
    obtain ⟨ds, h2, as2, x2, rl, rh2, o2⟩ := n
    exact o2 (x :: ys) H2 as2 (Ext.refl _ _) (.cons (rx.mono x2.toEx0) rl) rh2
/-- arguments, then a call by values -/
theorem tE_cb {r : List V → Hp → VK → Prop} {ms : List M} {f : List D → DH → Res} (p : PE X e (tCB r (tL G W ms)))
    (hr : ∀ (xs : List V) (ds : List D) (H : Hp) (as : List Addr) (h : DH) (Q : VK) (E : XK), RL G.K H as xs ds → RH G H as h → OutE (f ds h) G H as Q E → r xs H Q) :
    PE X e (tE G W fun e h => (evL ms e h).bind fun ds h1 => f ds h1) := PE.imp p fun σ H Q ⟨as, h, en, rh, re, o⟩ => by
  refine ⟨as, h, en, rh, re, (OutR.bind (rel := RL G.K) o).imp fun xs H1 n => ?_⟩
  obtain ⟨ds, h1, as1, x1, rl, rh1, o1⟩ := n
  exact hr xs ds H1 as1 h1 Q _ rl rh1 o1
/-! ### displays -/
theorem RH.tupNew {H : Hp} {as : List Addr} {h : DH} (rh : RH G H as h) {p : Addr} {vs : List V} {ds : List D} (n : H p = none) (l : RL G.K H as vs ds) :
    Ext H as (upd H p (.tup vs)) as ∧ RV G.K (upd H p (.tup vs)) as (.ref p) (.tup ds) ∧ RH G (upd H p (.tup vs)) as h := by
  obtain ⟨x, r⟩ := rh.laid (u := .tup vs) n
  exact ⟨x, .tup (SqT.of upd_same) (l.mono x.toEx0), r⟩
theorem RH.lstNew {H : Hp} {as : List Addr} {h : DH} (rh : RH G H as h) {p : Addr} {vs : List V} {ds : List D} (n : H p = none) (l : RL G.K H as vs ds) :
    Ext H as (upd H p (.lst vs)) (as ++ [p]) ∧ RV G.K (upd H p (.lst vs)) (as ++ [p]) (.ref p) (.ref h.length) ∧ RH G (upd H p (.lst vs)) (as ++ [p]) (h ++ [.lst ds]) := by
  have e : (as ++ [p])[h.length]? = some p := by rw [← rh.len]; simp
  obtain ⟨x0, _⟩ := rh.laid (u := .lst vs) n
  have x3 : Ex0 H as (upd H p (.lst vs)) (as ++ [p]) := ⟨fun i a e => by
    rw [List.getElem?_append_left (List.getElem?_eq_some_iff.mp e).1]; exact e, x0.tup, x0.frz⟩
  obtain ⟨x, r⟩ := rh.push (u := .lst vs) (o := .lst ds) n ⟨vs, upd_same, l.mono x3⟩
  exact ⟨x, .ref e, r⟩
theorem tE_tup {es : List Expr} {ms : List M} {k : Nat} (p : PA X es (tL G W ms)) : PE X (.Tuple es k pos) (tE G W (mTup ms)) := PE.imp (pe_tup p) fun σ H Q ⟨as, h, en, rh, re, o⟩ => by
  refine ⟨as, h, en, rh, re, (OutR.bind (rel := RL G.K) o).imp fun xs H1 n => ?_⟩
  obtain ⟨ds, h1, as1, x1, rl, rh1, o1⟩ := n
  split at o1
  · rename_i hl
    refine ⟨by rw [rl.length]; exact hl, fun p np => ?_⟩
    obtain ⟨x, r, r2⟩ := rh1.tupNew np rl
    exact o1 _ _ _ x r r2
  · exact o1.elim
theorem tE_lst {es : List Expr} {ms : List M} (p : PA X es (tL G W ms)) : PE X (.List es pos) (tE G W (mLst ms)) := PE.imp (pe_lst p) fun σ H Q ⟨as, h, en, rh, re, o⟩ => by
  refine ⟨as, h, en, rh, re, (OutR.bind (rel := RL G.K) o).imp fun xs H1 n => ?_⟩
  obtain ⟨ds, h1, as1, x1, rl, rh1, o1⟩ := n
  split at o1
  · rename_i hl
    refine ⟨by rw [rl.length]; exact hl, fun p np => ?_⟩
    obtain ⟨x, r, r2⟩ := rh1.lstNew np rl
    exact o1 _ _ _ x r r2
  · exact o1.elim
end
end Mp

/-! Mp4: operators, comparisons, subscripts. -/
namespace Mp
open PySem PySem.Spec L2 LamX PyProof.Rows
section
variable {X : Cx} {G : Wd} {W : WX} {a b c e : Expr} {ma mb mc : M} {pos : Pos} {H : Hp} {as : List Addr}
theorem RV.int_inv {v : V} {i : Int} (r : RV G.K H as v (.int i)) : v = .int i := by cases r; rfl
theorem RV.bl_inv {v : V} {i : Bool} (r : RV G.K H as v (.bl i)) : v = .bl i := by cases r; rfl
theorem RV.non_inv {v : V} (r : RV G.K H as v .non) : v = .non := by cases r; rfl
theorem RV.str_inv {v : V} {i : Tx} (r : RV G.K H as v (.str i)) : v = .str ⟨i.toArray⟩ := by cases r; rfl
theorem RV.tup_inv {v : V} {ds : List D} (r : RV G.K H as v (.tup ds)) : ∃ a vs, v = .ref a ∧ SqT G.K H a vs ∧ RL G.K H as vs ds := by cases r with | tup h l => exact ⟨_, _, rfl, h, l⟩
theorem RV.frl_inv {v : V} {ds : List D} (r : RV G.K H as v (.frl ds)) : ∃ a vs, v = .ref a ∧ FrL G.K H a vs ∧ RL G.K H as vs ds := by cases r with | frl h l => exact ⟨_, _, rfl, h, l⟩
theorem RV.ref_inv {v : V} {i : Nat} (r : RV G.K H as v (.ref i)) : ∃ a, v = .ref a ∧ as[i]? = some a := by cases r with | ref h => exact ⟨_, rfl, h⟩
theorem RH.lst {h : DH} (rh : RH G H as h) {i : Nat} {p : Addr} {xs : List D} (e : as[i]? = some p) (q : h[i]? = some (.lst xs)) : ∃ vs, H p = some (.lst vs) ∧ RL G.K H as vs xs := rh.ob i p _ e q
theorem RH.ins {h : DH} (rh : RH G H as h) {i : Nat} {p : Addr} {c : Nat} {fs : List (Nat × D)} (e : as[i]? = some p) (q : h[i]? = some (.ins c fs)) : ∃ dx fvs, H p = some (.ins (G.cls c) dx fvs) ∧ RF G H as fvs fs ∧ Cls G.K (G.cls c) ∧ ∀ p ∈ fs, NoAttr G.K (G.cls c) (G.fnm p.1) := rh.ob i p _ e q
theorem nosize {K : PySem.W.Frag} {vs : List V} {ds : List D} (l : RL K H as vs ds) : vs.length = ds.length := l.length

def rMulS : R2 := fun x y H Q => ∃ (z : Tx) (n : Int), x = .str ⟨z.toArray⟩ ∧ y = .int n ∧ n < 2 ^ 62 ∧ -(2 ^ 62) < n ∧ z.length * n.toNat ≤ sizeLine ∧ Q (.str ⟨(List.replicate n.toNat z).flatten.toArray⟩) H
theorem fold_rep (z : Tx) : ∀ (n : Nat) (acc : Array Nat), (List.replicate n z.toArray).foldl (fun (a b : Array Nat) => a ++ b) acc = acc ++ ((List.replicate n z).flatten).toArray
  | 0, acc => by simp
  | n + 1, acc => by
    rw [List.replicate_succ, List.foldl_cons, fold_rep z n, List.replicate_succ, List.flatten_cons, Array.append_assoc]
    simp
theorem mul_txt (z : Tx) (n : Int) : Txt.mul ⟨z.toArray⟩ n = ⟨(List.replicate n.toNat z).flatten.toArray⟩ := by
  unfold Txt.mul
  by_cases h1 : n < 1
  · rw [if_pos h1]
    have : n.toNat = 0 := by omega
    rw [this]
    rfl
  · rw [if_neg h1]
    by_cases h2 : (n == 1 || (⟨z.toArray⟩ : Str).length == 0) = true
    · rw [if_pos h2]
      rw [Bool.or_eq_true, beq_iff_eq, beq_iff_eq, s_len] at h2
      rcases h2 with h2 | h2
      · subst h2
        simp
      · have : z = [] := List.length_eq_zero_iff.mp h2
        subst this
        simp
    · rw [if_neg h2, fold_rep]
      simp
/-- * of two factors of together less than a hundred million bits -/
def CMulV (i j : Int) : Prop := i.natAbs.log2 + j.natAbs.log2 < 100000000
theorem CMulV.ok {i j : Int} (h : CMulV i j) : IntMulOk i j := by
  have b : ∀ x : Int, Builtin.Int.intBits x ≤ x.natAbs.log2 + 1 := fun x => by
    unfold Builtin.Int.intBits
    split <;> omega
  have h1 := b i
  have h2 := b j
  unfold CMulV at h
  have e : bitsLine = 134217728 := by decide
  intro z
  rw [Bool.and_eq_true] at z
  have z2 := z.2
  unfold Builtin.Int.intTooBig at z2
  have z3 := of_decide_eq_true z2
  rw [e] at z3
  omega
theorem op_mulV : OpR X (binaryOp .Mult) (rI CMulV fun i j => .int (i * j)) := opI fun _ _ _ _ _ _ _ hc q => mul_int q hc.ok
theorem op_mulS : OpR X (binaryOp .Mult) rMulS := by
  intro pins s σ H x y v u Q I rx ry h
  obtain ⟨z, n, rfl, rfl, h1, h3, h2, q⟩ := h
  obtain ⟨t, rfl⟩ := rx
  obtain ⟨t', rfl⟩ := ry
  refine SB.mul ⟨?_, fun h4 _ => ?_, fun h4 _ => ?_⟩ fun t' k => ?_
  · have a1 : ¬ n < -(2 ^ 63 : Int) := by omega
    have a2 : ¬ n ≥ 2 ^ 63 := by omega
    rw [decide_eq_false a1, decide_eq_false a2]
    rfl
  · rw [s_len]
    intro h5
    have e : ((z.length * n.toNat : Nat) : Int) ≤ 16777216 := by
      rw [sizeLine_eq] at h2
      omega
    have e2 : ((z.length * n.toNat : Nat) : Int) = (z.length : Int) * n := by
      rw [Int.natCast_mul, Int.toNat_of_nonneg (by omega)]
    rw [e2] at e
    have h6 := Int.lt_mul_of_ediv_lt (by omega : 0 < n) h5
    omega
  · rw [s_len]
    exact decide_eq_false (by omega)
  · rw [mul_txt]
    exact ⟨.str _, H, I.tok _, ⟨_, rfl⟩, q⟩

/-! ### the operators -/
theorem op_Add : OpR X (binaryOp .Add) (fun x y H Q => rI0 (fun i j => .int (i + j)) x y H Q ∨ (∃ i j, x = .str i ∧ y = .str j ∧ i.length + j.length ≤ sizeLine ∧ Q (.str (i ++ j)) H) ∨ rCat x y H Q ∨ rCatA X.K x y H Q) :=
  op_add.or (op_add_str.or (op_cat.or op_catA))
theorem tE_add (hK : X.K = G.K) (pa : PE X a (tE G W ma)) (pb : PE X b (tE G W mb)) : PE X (.BinOp a .Add b pos) (tE G W (mBin .Add ma mb)) := by
  refine tE_op (pe_op op_Add pa pb) fun x y dx dy H as h Q E rx ry rh o => ?_
  rw [hK]
  have o : OutE (dAdd dx dy h) G H as Q E := o
  unfold dAdd at o
  split at o
  · cases rx; cases ry
    exact .inl ⟨_, _, rfl, rfl, o _ _ _ (Ext.refl _ _) (.int _) rh⟩
  · split at o
    · rename_i hl
      cases rx; cases ry
      refine .inr (.inl ⟨_, _, rfl, rfl, by rw [s_len, s_len]; exact hl, ?_⟩)
      rw [s_app]
      exact o _ _ _ (Ext.refl _ _) (.str _) rh
    · exact o.elim
  · split at o
    · rename_i xs ys e1 e2
      split at o
      · rename_i hl
        obtain ⟨p, rfl, ep⟩ := rx.ref_inv
        obtain ⟨q, rfl, eq⟩ := ry.ref_inv
        obtain ⟨vs, hp, lp⟩ := rh.lst ep e1
        obtain ⟨ws, hq, lq⟩ := rh.lst eq e2
        refine .inr (.inr (.inl ⟨p, q, vs, ws, rfl, rfl, hp, hq, by rw [lp.length, lq.length]; exact hl, fun z nz => ?_⟩))
        obtain ⟨x1, r1, r2⟩ := rh.lstNew nz (lp.app lq)
        exact o _ _ _ x1 r1 r2
      · exact o.elim
    · exact o.elim
  · split at o
    · rename_i hl
      obtain ⟨p, vs, rfl, hp, lp⟩ := rx.tup_inv
      obtain ⟨q, ws, rfl, hq, lq⟩ := ry.tup_inv
      refine .inr (.inr (.inr ⟨p, q, vs, ws, rfl, rfl, hp, hq, by rw [lp.length, lq.length]; exact hl, fun e => ?_, fun _ e => ?_, fun _ _ z nz => ?_⟩))
      · subst e
        cases lp
        exact o _ _ _ (Ext.refl _ _) (.tup hq lq) rh
      · subst e
        cases lq
        rw [List.append_nil] at o
        exact o _ _ _ (Ext.refl _ _) (.tup hp lp) rh
      · obtain ⟨x1, r1, r2⟩ := rh.tupNew nz (lp.app lq)
        exact o _ _ _ x1 r1 r2
    · exact o.elim
  · exact o.elim
theorem tE_sub (pa : PE X a (tE G W ma)) (pb : PE X b (tE G W mb)) : PE X (.BinOp a .Sub b pos) (tE G W (mBin .Sub ma mb)) := by
  refine tE_op (pe_op op_sub pa pb) fun x y dx dy H as h Q E rx ry rh o => ?_
  have o : OutE (dSub dx dy h) G H as Q E := o
  unfold dSub at o
  split at o
  · cases rx; cases ry
    exact ⟨_, _, rfl, rfl, o _ _ _ (Ext.refl _ _) (.int _) rh⟩
  · exact o.elim
theorem tuple_mul1 (l : Addr) (items : Array Value) (n : Nat) (dd : Option Addr) (sl : Array (Option Value)) (u : Tok) :
    Meets (Builtin.«tuple.__mul__» ⟨[.ref l, .int 1 u], []⟩) (fun _ R s => s.heap.get? l = some { cls := .type "tuple", dict := dd, data := .seq items n, slots := sl } ∧
      R (.ok (.ret (Value.ref l))) s) :=
  .of_wp fun prog w A R s h => by
    obtain ⟨hp, g, d, tk, os⟩ := s
    obtain ⟨hl, h⟩ := h
    have f1 := AutoSeq1.idx_int
    have c1 : (items.isEmpty || (1 : Int) == 1) = true := by simp
    have c0 : (decide ((1 : Int) < -(2 ^ 63)) || decide ((1 : Int) ≥ 2 ^ 63)) = false := by decide
    wp_walk using wpAny_loadPart' hl
    repeat (first
      | (refine wpAny_ite_false (decide_eq_false (by rw [c0]; exact Bool.false_ne_true)) ?_; wp_walk using wpAny_loadPart' hl)
      | (refine wpAny_ite_true (decide_eq_true c1) ?_; wp_walk using wpAny_loadPart' hl))
    exact ⟨_, rfl, h⟩
def rRep1 (K : PySem.W.Frag) : R2 := fun x y H Q => ∃ l xs, x = .ref l ∧ y = .int 1 ∧ SqT K H l xs ∧ Q (.ref l) H
theorem op_rep1 : OpR X (binaryOp .Mult) (rRep1 X.K) := by
  intro pins s σ H x y v u Q I rx ry h
  obtain ⟨l, xs, rfl, rfl, hT, q⟩ := h
  cases rx
  obtain ⟨t, rfl⟩ := ry
  obtain ⟨its, r, ⟨⟨cls, dd, data, sl⟩, ho, hc, n, hd⟩, hs⟩ := I.tuple hT
  simp only at hc hd
  subst hc hd
  exact wpAny_binaryOp_repeat_ref (T := "tuple") (U := "int") (by decide) ⟨_, ho, rfl⟩ (fun s' => typeIs_int s' 1 t) noFill_tuple_mul F.fills_int_mul F.slot_int_rmul repeat_tuple F.slot_int_index.lookup
    (call_meets F.slot_int_rmul (typeIs_int s 1 t) F.entry_int_rmul (F.args_int_rmul_2 _ _) (int_rmul_tuple 1 t l its.toArray n dd sl)
      ⟨ho, rfl, ⟨_, ho, rfl⟩, call_meets F.slot_tuple_mul ⟨_, ho, rfl⟩ F.entry_tuple_mul (F.args_tuple_mul_2 _ _) (tuple_mul1 l its.toArray n dd sl t) ⟨ho, ⟨.ref l, H, I, rfl, q⟩⟩⟩)
theorem tE_mul (hK : X.K = G.K) (pa : PE X a (tE G W ma)) (pb : PE X b (tE G W mb)) : PE X (.BinOp a .Mult b pos) (tE G W (mBin .Mult ma mb)) := by
  refine tE_op (pe_op (op_mulV.or (op_mulS.or (op_rep.or (op_repT.or op_rep1)))) pa pb) fun x y dx dy H as h Q E rx ry rh o => ?_
  have o : OutE (dMul dx dy h) G H as Q E := o
  unfold dMul at o
  split at o
  · split at o
    · rename_i hl
      cases rx; cases ry
      exact .inl ⟨_, _, rfl, rfl, hl, o _ _ _ (Ext.refl _ _) (.int _) rh⟩
    · exact o.elim
  · split at o
    · rename_i hl
      cases rx; cases ry
      exact .inr (.inl ⟨_, _, rfl, rfl, hl.1, hl.2.1, hl.2.2, o _ _ _ (Ext.refl _ _) (.str _) rh⟩)
    · exact o.elim
  · split at o
    · rename_i xs j oo hl
      rw [hK]
      obtain ⟨p, vs, rfl, hp, lp⟩ := rx.tup_inv
      cases ry
      by_cases h1 : j = 1
      · subst h1
        rw [show (List.replicate (1 : Int).toNat xs).flatten = xs by simp] at o
        exact .inr (.inr (.inr (.inr ⟨p, vs, rfl, rfl, hp, o _ _ _ (Ext.refl _ _) (.tup hp lp) rh⟩)))
      · refine .inr (.inr (.inr (.inl ⟨p, _, vs, rfl, rfl, hp, (fun z => by rw [z] at lp; have := lp.length; simp at this; omega), by omega, by omega, by rw [lp.length]; omega, fun z nz => ?_⟩)))
        obtain ⟨x1, r1, r2⟩ := rh.tupNew nz (lp.rep _)
        exact o _ _ _ x1 r1 r2
    · exact o.elim
  · split at o
    · rename_i xs e1
      split at o
      · rename_i hl
        obtain ⟨p, rfl, ep⟩ := rx.ref_inv
        obtain ⟨vs, hp, lp⟩ := rh.lst ep e1
        cases ry
        refine .inr (.inr (.inl ⟨p, _, vs, rfl, rfl, hp, by omega, by omega, by rw [lp.length]; exact hl.2.2, fun z nz => ?_⟩))
        obtain ⟨x1, r1, r2⟩ := rh.lstNew nz (lp.rep _)
        exact o _ _ _ x1 r1 r2
      · exact o.elim
    · exact o.elim
  · exact o.elim
theorem tE_mod (pa : PE X a (tE G W ma)) (pb : PE X b (tE G W mb)) : PE X (.BinOp a .Mod b pos) (tE G W (mBin .Mod ma mb)) := by
  refine tE_op (pe_op (op_mod.or op_modN) pa pb) fun x y dx dy H as h Q E rx ry rh o => ?_
  have o : OutE (dMod dx dy h) G H as Q E := o
  unfold dMod at o
  split at o
  · split at o
    · rename_i hl
      cases rx; cases ry
      exact .inl ⟨_, _, rfl, rfl, hl, o _ _ _ (Ext.refl _ _) (.int _) rh⟩
    · split at o
      · rename_i hl
        cases rx; cases ry
        exact .inr ⟨_, _, rfl, rfl, hl, o _ _ _ (Ext.refl _ _) (.int _) rh⟩
      · exact o.elim
  · exact o.elim
theorem tE_div (pa : PE X a (tE G W ma)) (pb : PE X b (tE G W mb)) : PE X (.BinOp a .FloorDiv b pos) (tE G W (mBin .FloorDiv ma mb)) := by
  refine tE_op (pe_op op_fdivW pa pb) fun x y dx dy H as h Q E rx ry rh o => ?_
  have o : OutE (dDiv dx dy h) G H as Q E := o
  unfold dDiv at o
  split at o
  · split at o
    · rename_i hl
      cases rx; cases ry
      exact ⟨_, _, rfl, rfl, hl, o _ _ _ (Ext.refl _ _) (.int _) rh⟩
    · exact o.elim
  · exact o.elim
theorem tE_pow (pa : PE X a (tE G W ma)) (pb : PE X b (tE G W mb)) : PE X (.BinOp a .Pow b pos) (tE G W (mBin .Pow ma mb)) := by
  refine tE_op (pe_op op_pow pa pb) fun x y dx dy H as h Q E rx ry rh o => ?_
  have o : OutE (dPow dx dy h) G H as Q E := o
  unfold dPow at o
  split at o
  · split at o
    · rename_i hl
      cases rx; cases ry
      exact ⟨_, _, rfl, rfl, hl, o _ _ _ (Ext.refl _ _) (.int _) rh⟩
    · exact o.elim
  · exact o.elim
theorem tE_neg (pa : PE X a (tE G W ma)) : PE X (.UnaryOp .USub a pos) (tE G W (mNeg ma)) := by
  refine tE_un (pe_un un_neg pa) fun x dx H as h Q E rx rh o => ?_
  split at o
  · cases rx
    exact ⟨_, rfl, o _ _ _ (Ext.refl _ _) (.int _) rh⟩
  · exact o.elim
end
end Mp

/-! Mp5: comparisons. -/
namespace Mp
open PySem L2 LamX PyProof.Rows
section
variable {K : PySem.W.Frag} {H : Hp} {as : List Addr}
mutual
theorem dp_of : ∀ {v : V} {d : D} {p : PyData}, RV K H as v d → pyD d = some p → Dp K H v p
  | _, _, _, .non, h => by cases h; exact .non
  | _, _, _, .bl b, h => by cases h; exact .bl b
  | _, _, _, .int i, h => by cases h; exact .int i
  | _, _, _, .str x, h => by cases h; exact .str _
  | _, _, _, .tup s l, h => by
    simp only [pyD, Option.map_eq_some_iff] at h
    obtain ⟨ps, e, rfl⟩ := h
    exact .tup s (dps_of l e)
  | _, _, _, .frl s l, h => by
    simp only [pyD, Option.map_eq_some_iff] at h
    obtain ⟨ps, e, rfl⟩ := h
    exact .lst s.sq (dps_of l e)
  | _, _, _, .ref _, h => by cases h
theorem dps_of : ∀ {vs : List V} {ds : List D} {ps : List PyData}, RL K H as vs ds → pyL ds = some ps → DpAll K H vs ps
  | _, _, _, .nil, h => by cases h; exact .nil
  | _, _, _, .cons r l, h => by
    simp only [pyL] at h
    split at h
    · rename_i a b e1 e2
      cases h
      exact .cons (dp_of r e1) (dps_of l e2)
    · cases h
end
end
section
variable {X : Cx} {G : Wd} {W : WX} {a b c e : Expr} {ma mb mc : M} {pos : Pos} {H : Hp} {as : List Addr}
theorem dpR_of {h : DH} {v : V} {d : D} {p : PyData} (rh : RH G H as h) (r : RV G.K H as v d) (e : pyR h d = some p) : Dp G.K H v p := by
  unfold pyR at e
  split at e
  · split at e
    · rename_i xs e1
      obtain ⟨p, rfl, ep⟩ := r.ref_inv
      obtain ⟨vs, hp, lp⟩ := rh.lst ep e1
      simp only [Option.map_eq_some_iff] at e
      obtain ⟨ps, e2, rfl⟩ := e
      exact .lst (SqL.of hp) (dps_of lp e2)
    · cases e
  · exact dp_of r e
theorem eq_use {h : DH} {x y : V} {dx dy : D} {k : Bool} (rx : RV G.K H as x dx) (ry : RV G.K H as y dy) (rh : RH G H as h) (e : dEqD dx dy h = some k) :
    ∃ p q, Dp G.K H x p ∧ Dp G.K H y q ∧ SeqAt.shaped p = true ∧ SeqAt.shaped q = true ∧ PyData.eqv p q = k := by
  unfold dEqD at e
  split at e
  · rename_i p q e1 e2
    split at e
    · rename_i hs
      rw [Bool.and_eq_true] at hs
      exact ⟨p, q, dpR_of rh rx e1, dpR_of rh ry e2, hs.1, hs.2, Option.some.inj e⟩
    · cases e
  · cases e
theorem eq_use2 {h : DH} {x y : V} {dx dy : D} {k : Bool} (rx : RV G.K H as x dx) (ry : RV G.K H as y dy) (rh : RH G H as h) (e : dEq dx dy h = some k) :
    (scal x y = true ∧ decide (x = y) = k) ∨ ∃ p q, Dp G.K H x p ∧ Dp G.K H y q ∧ SeqAt.shaped p = true ∧ SeqAt.shaped q = true ∧ PyData.eqv p q = k := by
  unfold dEq at e
  split at e
  · rename_i a b
    cases rx; cases ry
    refine .inl ⟨rfl, ?_⟩
    rw [← Option.some.inj e, decide_eq_decide]
    constructor
    · intro z
      have z := V.str.inj z
      have z := congrArg (fun s : PySem.Str => s.cps.toList) z
      simpa using z
    · rintro rfl; rfl
  · exact .inr (eq_use rx ry rh e)
/-- the tests of a comparison -/
theorem tE_cmpR {op : CmpOp} {r : R2} (ho : OpR X (compareOp op) r) (pa : PE X a (tE G W ma)) (pb : PE X b (tE G W mb)) (hm : behindInMarks op b = false)
    (hr : ∀ (x y : V) (dx dy : D) (H : Hp) (as : List Addr) (h : DH) (Q : VK) (k : Bool), RV G.K H as x dx → RV G.K H as y dy → RH G H as h → dCmp op dx dy h = some k → Q (.bl k) H → r x y H Q) :
    PE X (.Compare a [op] [b] pos) (tE G W (mCmp op ma mb)) ∧ PT X (.Compare a [op] [b] pos) (tT G W (mCmp op ma mb)) := by
  have hr2 : ∀ (x y : V) (dx dy : D) (H : Hp) (as : List Addr) (h : DH) (Q : VK) (E : XK), RV G.K H as x dx → RV G.K H as y dy → RH G H as h → OutE (optB (dCmp op dx dy h) h) G H as Q E → r x y H Q := fun x y dx dy H as h Q E rx ry rh o => by
    unfold optB at o
    split at o
    · rename_i k e
      exact hr x y dx dy H as h Q k rx ry rh e (o _ _ _ (Ext.refl _ _) (.bl _) rh)
    · exact o.elim
  refine ⟨tE_op (pe_cmpR ho pa pb hm) hr2, PT.imp (pt_cmpR ho pa pb hm) fun σ H Q q => ?_⟩
  obtain ⟨as, h, en, rh, re, o⟩ := q
  refine ⟨as, h, en, rh, re, (OutR.bind o).imp fun x H1 n => ?_⟩
  obtain ⟨dx, h1, as1, x1, rx, rh1, re1, o1⟩ := At.nxt re n
  refine ⟨as1, h1, en, rh1, re1, (OutR.bind o1).imp fun y H2 n => ?_⟩
  obtain ⟨dy, h2, as2, x2, ry, rh2, re2, o2⟩ := At.nxt re1 n
  exact hr2 x y dx dy H2 as2 h2 _ _ (rx.mono x2.toEx0) ry rh2 o2
/-- an operator's rule, by the plain comparison -/
def CmpR (X : Cx) (G : Wd) (op : CmpOp) : Prop := ∃ r : R2, OpR X (compareOp op) r ∧ ∀ (x y : V) (dx dy : D) (H : Hp) (as : List Addr) (h : DH) (Q : VK) (k : Bool), RV G.K H as x dx → RV G.K H as y dy → RH G H as h → dCmp op dx dy h = some k → Q (.bl k) H → r x y H Q
theorem cmp_eq (hK : X.K = G.K) (hu : X.A.units + 64 < cLine) : CmpR X G .Eq := ⟨_, op_eq.or (op_eqD hu), fun x y dx dy H as h Q k rx ry rh e q => by
  rcases eq_use2 rx ry rh e with ⟨z1, z2⟩ | ⟨p, q', d1, d2, s1, s2, e'⟩
  · exact .inl ⟨z1, by rw [z2]; exact q⟩
  · rw [hK]
    exact .inr ⟨p, q', d1, d2, s1, s2, by rw [e']; exact q⟩⟩
theorem cmp_ne (hK : X.K = G.K) (hu : X.A.units + 64 < cLine) : CmpR X G .NotEq := ⟨_, op_ne.or (op_neD hu), fun x y dx dy H as h Q k rx ry rh e q => by
  simp only [dCmp, Option.map_eq_some_iff] at e
  obtain ⟨k', e, rfl⟩ := e
  rcases eq_use2 rx ry rh e with ⟨z1, z2⟩ | ⟨p, q', d1, d2, s1, s2, e'⟩
  · exact .inl ⟨z1, by rw [z2]; exact q⟩
  · rw [hK]
    exact .inr ⟨p, q', d1, d2, s1, s2, by rw [e']; exact q⟩⟩
theorem cmp_lt : CmpR X G .Lt := ⟨_, op_lt.or op_lt_str, fun x y dx dy H as h Q k rx ry rh e q => by
  simp only [dCmp, dLt] at e
  split at e
  · cases rx; cases ry; cases e
    exact .inl ⟨_, _, rfl, rfl, q⟩
  · cases rx; cases ry; cases e
    exact .inr ⟨_, _, rfl, rfl, q⟩
  · cases e⟩
theorem cmp_gt : CmpR X G .Gt := ⟨_, op_gt.or op_gt_str, fun x y dx dy H as h Q k rx ry rh e q => by
  simp only [dCmp, dLt] at e
  split at e
  · cases rx; cases ry; cases e
    exact .inl ⟨_, _, rfl, rfl, q⟩
  · cases rx; cases ry; cases e
    exact .inr ⟨_, _, rfl, rfl, q⟩
  · cases e⟩
theorem cmp_le : CmpR X G .LtE := ⟨_, op_le.or op_le_str, fun x y dx dy H as h Q k rx ry rh e q => by
  simp only [dCmp, dLe] at e
  split at e
  · cases rx; cases ry; cases e
    exact .inl ⟨_, _, rfl, rfl, q⟩
  · cases rx; cases ry; cases e
    exact .inr ⟨_, _, rfl, rfl, q⟩
  · cases e⟩
theorem cmp_ge : CmpR X G .GtE := ⟨_, op_ge.or op_ge_str, fun x y dx dy H as h Q k rx ry rh e q => by
  simp only [dCmp, dLe] at e
  split at e
  · cases rx; cases ry; cases e
    exact .inl ⟨_, _, rfl, rfl, q⟩
  · cases rx; cases ry; cases e
    exact .inr ⟨_, _, rfl, rfl, q⟩
  · cases e⟩
theorem isN_V {x : V} {d : D} (r : RV G.K H as x d) : decide (x = .non) = isNon d := by
  cases r <;> simp [isNon]
theorem cmp_is : CmpR X G .Is := ⟨_, op_isN, fun x y dx dy H as h Q k rx ry rh e q => by
  simp only [dCmp, dIsN] at e
  split at e
  · cases ry; cases e
    exact ⟨rfl, by rw [isN_V rx]; exact q⟩
  · cases e⟩
theorem cmp_isnot : CmpR X G .IsNot := ⟨_, op_notN, fun x y dx dy H as h Q k rx ry rh e q => by
  simp only [dCmp, dIsN, Option.map_eq_some_iff] at e
  obtain ⟨k', e, rfl⟩ := e
  split at e
  · cases ry; cases e
    exact ⟨rfl, by rw [isN_V rx]; exact q⟩
  · cases e⟩
theorem strs_flat {vs : List V} {ds : List D} {zs : List Tx} : RL G.K H as vs ds → strsOf ds = some zs → vs = zs.map fun z => V.str ⟨z.toArray⟩ := by
  intro l
  induction ds generalizing vs zs with
  | nil => intro e; cases l; cases e; rfl
  | cons d ds ih =>
    intro e
    cases l with
    | cons r l =>
      cases d with
      | str x =>
        simp only [strsOf, Option.map_eq_some_iff] at e
        obtain ⟨zs', e, rfl⟩ := e
        cases r
        rw [ih l e]
        rfl
      | _ => cases e
theorem inV_strs (x : Tx) (zs : List Tx) : inV (.str ⟨x.toArray⟩) (zs.map fun z => V.str ⟨z.toArray⟩) = decide (x ∈ zs) := by
  induction zs with
  | nil => simp [inV]
  | cons z zs ih =>
    unfold inV at ih ⊢
    rw [List.map_cons, List.any_cons, ih]
    have : eqV (.str ⟨z.toArray⟩) (.str ⟨x.toArray⟩) = decide (x = z) := by
      unfold eqV
      by_cases q : x = z
      · subst q; simp
      · have : ¬ ((⟨z.toArray⟩ : Str) = ⟨x.toArray⟩) := fun w => q (by
          have := congrArg (fun s : Str => s.cps.toList) w
          simpa using this.symm)
        rw [decide_eq_false q]
        exact beq_eq_false_iff_ne.mpr this
    rw [this]
    simp [List.mem_cons, Bool.decide_or]
theorem flat_strs (zs : List Tx) : (zs.map fun z => V.str ⟨z.toArray⟩).all flatV = true := by
  rw [List.all_eq_true]
  intro v hv
  obtain ⟨z, _, rfl⟩ := List.mem_map.mp hv
  rfl
theorem ints_flat {vs : List V} {ds : List D} {zs : List Int} : RL G.K H as vs ds → intsOf ds = some zs → vs = zs.map V.int := by
  intro l
  induction ds generalizing vs zs with
  | nil => intro e; cases l; cases e; rfl
  | cons d ds ih =>
    intro e
    cases l with
    | cons r l =>
      cases d with
      | int x =>
        simp only [intsOf, Option.map_eq_some_iff] at e
        obtain ⟨zs', e, rfl⟩ := e
        cases r
        rw [ih l e]
        rfl
      | _ => cases e
theorem inV_ints (x : Int) (zs : List Int) : inV (.int x) (zs.map V.int) = decide (x ∈ zs) := by
  induction zs with
  | nil => simp [inV]
  | cons z zs ih =>
    unfold inV at ih ⊢
    rw [List.map_cons, List.any_cons, ih]
    have : eqV (.int z) (.int x) = decide (x = z) := by
      by_cases q : x = z
      · subst q; simp [eqV]
      · rw [decide_eq_false q]
        exact beq_eq_false_iff_ne.mpr (fun w => q w.symm)
    rw [this]
    simp [List.mem_cons, Bool.decide_or]
theorem flat_ints (zs : List Int) : (zs.map V.int).all flatV = true := by
  rw [List.all_eq_true]
  intro v hv
  obtain ⟨z, _, rfl⟩ := List.mem_map.mp hv
  rfl
theorem inV_is (x : Int) (zs : List Tx) : inV (.int x) (zs.map fun z => V.str ⟨z.toArray⟩) = false := by
  induction zs with
  | nil => simp [inV]
  | cons z zs ih =>
    unfold inV at ih ⊢
    rw [List.map_cons, List.any_cons, ih]
    rfl
theorem inI_use {vs : List V} {ys : List D} {i : Int} {k : Bool} (l : RL G.K H as vs ys) (e : inI i ys = some k) : vs.all flatV = true ∧ inV (.int i) vs = k := by
  unfold inI at e
  cases q : intsOf ys with
  | some zs =>
    rw [q] at e
    have := ints_flat l q
    subst this
    cases e
    exact ⟨flat_ints zs, inV_ints _ _⟩
  | none =>
    rw [q] at e
    cases q2 : strsOf ys with
    | some zs =>
      rw [q2] at e
      have := strs_flat l q2
      subst this
      cases e
      exact ⟨flat_strs zs, inV_is _ _⟩
    | none => rw [q2] at e; cases e
theorem in_use {h : DH} {x y : V} {dx dy : D} {k : Bool} (rx : RV G.K H as x dx) (ry : RV G.K H as y dy) (rh : RH G H as h) (e : dIn dx dy h = some k) :
    (∃ (c : Nat) (z : Str), x = .str ⟨#[c]⟩ ∧ y = .str z ∧ decide (c ∈ z.cps.toList) = k) ∨ (∃ p xs, y = .ref p ∧ (SqL G.K H p xs ∨ SqT G.K H p xs) ∧ flatV x = true ∧ xs.all flatV = true ∧ inV x xs = k) ∨ ∃ p o, y = .ref p ∧ LGet G.K G.w H p x o ∧ o.isSome = k := by
  unfold dIn at e
  split at e
  · obtain ⟨p, vs, rfl, hp, lp⟩ := ry.tup_inv
    obtain ⟨f1, f2⟩ := inI_use lp e
    cases rx
    exact .inr (.inl ⟨p, _, rfl, .inr hp, rfl, f1, f2⟩)
  · split at e
    · rename_i ys e1
      obtain ⟨p, rfl, ep⟩ := ry.ref_inv
      obtain ⟨vs, hp, lp⟩ := rh.lst ep e1
      obtain ⟨f1, f2⟩ := inI_use lp e
      cases rx
      exact .inr (.inl ⟨p, _, rfl, .inl (SqL.of hp), rfl, f1, f2⟩)
    · rename_i e1
      obtain ⟨p, rfl, ep⟩ := ry.ref_inv
      simp only [Option.map_eq_some_iff] at e
      obtain ⟨r, e, rfl⟩ := e
      obtain ⟨rv, g, ro⟩ := rh_get rh ep e1 rx e
      exact .inr (.inr ⟨p, rv, rfl, g, ro.some_eq⟩)
    · cases e
  · cases rx; cases ry; cases e
    exact .inl ⟨_, _, rfl, rfl, rfl⟩
  · simp only [Option.map_eq_some_iff] at e
    obtain ⟨zs, e, rfl⟩ := e
    obtain ⟨p, vs, rfl, hp, lp⟩ := ry.tup_inv
    have := strs_flat lp e
    subst this
    cases rx
    exact .inr (.inl ⟨p, _, rfl, .inr hp, rfl, flat_strs zs, inV_strs _ _⟩)
  · split at e
    · rename_i ys e1
      simp only [Option.map_eq_some_iff] at e
      obtain ⟨zs, e, rfl⟩ := e
      obtain ⟨p, rfl, ep⟩ := ry.ref_inv
      obtain ⟨vs, hp, lp⟩ := rh.lst ep e1
      have := strs_flat lp e
      subst this
      cases rx
      exact .inr (.inl ⟨p, _, rfl, .inl (SqL.of hp), rfl, flat_strs zs, inV_strs _ _⟩)
    · rename_i e1
      obtain ⟨p, rfl, ep⟩ := ry.ref_inv
      simp only [Option.map_eq_some_iff] at e
      obtain ⟨r, e, rfl⟩ := e
      obtain ⟨rv, g, ro⟩ := rh_get rh ep e1 rx e
      exact .inr (.inr ⟨p, rv, rfl, g, ro.some_eq⟩)
    · cases e
  · cases e
theorem cmp_in (hK : X.K = G.K) (hw : X.w = G.w) (hu : X.A.units + 64 < cLine) : CmpR X G .In := ⟨_, op_in_sign.or (op_in_seq.or (op_inD hu)), fun x y dx dy H as h Q k rx ry rh e q => by
  rcases in_use rx ry rh e with ⟨c, z, e1, e2, e3⟩ | ⟨p, xs, e1, e2, e3, e4, e5⟩ | ⟨p, o, e1, g, e2⟩
  · exact .inl ⟨c, z, e1, e2, by rw [e3]; exact q⟩
  · rw [hK]
    exact .inr (.inl ⟨p, xs, e1, e2, e3, e4, by rw [if_neg Bool.false_ne_true, e5]; exact q⟩)
  · rw [hK, hw]
    exact .inr (.inr ⟨p, o, e1, g, by rw [e2]; exact q⟩)⟩
theorem cmp_notin (hK : X.K = G.K) (hw : X.w = G.w) (hu : X.A.units + 64 < cLine) : CmpR X G .NotIn := ⟨_, op_notIn_sign.or (op_notIn_seq.or (op_niD hu)), fun x y dx dy H as h Q k rx ry rh e q => by
  simp only [dCmp, Option.map_eq_some_iff] at e
  obtain ⟨k', e, rfl⟩ := e
  rcases in_use rx ry rh e with ⟨c, z, e1, e2, e3⟩ | ⟨p, xs, e1, e2, e3, e4, e5⟩ | ⟨p, o, e1, g, e2⟩
  · exact .inl ⟨c, z, e1, e2, by rw [e3]; exact q⟩
  · rw [hK]
    exact .inr (.inl ⟨p, xs, e1, e2, e3, e4, by rw [if_pos rfl, e5]; exact q⟩)
  · rw [hK, hw]
    exact .inr (.inr ⟨p, o, e1, g, by rw [e2]; exact q⟩)⟩
theorem cmp_all (hK : X.K = G.K) (hw : X.w = G.w) (hu : X.A.units + 64 < cLine) : ∀ op : CmpOp, CmpR X G op
  | .Eq => cmp_eq hK hu
  | .NotEq => cmp_ne hK hu
  | .Lt => cmp_lt
  | .LtE => cmp_le
  | .Gt => cmp_gt
  | .GtE => cmp_ge
  | .Is => cmp_is
  | .IsNot => cmp_isnot
  | .In => cmp_in hK hw hu
  | .NotIn => cmp_notin hK hw hu
theorem tE_cmp {op : CmpOp} (ho : CmpR X G op) (pa : PE X a (tE G W ma)) (pb : PE X b (tE G W mb)) (hm : behindInMarks op b = false) :
    PE X (.Compare a [op] [b] pos) (tE G W (mCmp op ma mb)) ∧ PT X (.Compare a [op] [b] pos) (tT G W (mCmp op ma mb)) := by
  obtain ⟨r, h1, h2⟩ := ho
  exact tE_cmpR h1 pa pb hm h2
end
end Mp

/-! Mp6: tests, subscripts, slices, attributes. -/
namespace Mp
open PySem L2 LamX PyProof.Rows
section
variable {X : Cx} {G : Wd} {W : WX} {a b c e : Expr} {ma mb mc : M} {pos : Pos} {H : Hp} {as : List Addr}
/-- a part, then a test of it -/
theorem tT_of {e : Expr} (p : PE X e (tE G W ma)) (he : ∀ whole, isTrue e X.env whole = (do let v ← whole; standAt e.pos; holding [v] (truthy v))) : PT X e (tT G W ma) :=
  PT.imp (pt_val p he) fun σ H Q h => h
theorem tE_chain {op op' : CmpOp} (ho : CmpR X G op) (ho' : CmpR X G op') (pa : PE X a (tE G W ma)) (pb : PE X b (tE G W mb)) (pc : PE X c (tE G W mc)) (hm : lastMarks [op, op'] [b, c] = false) :
    PE X (.Compare a [op, op'] [b, c] pos) (tE G W (mChain op op' ma mb mc)) ∧ PT X (.Compare a [op, op'] [b, c] pos) (tT G W (mChain op op' ma mb mc)) := by
  obtain ⟨r, h1, h2⟩ := ho
  obtain ⟨r', h1', h2'⟩ := ho'
  have key : ∀ σ H (Q : VK), tE G W (mChain op op' ma mb mc) σ H Q → tChain r r' (tE G W ma) (tE G W mb) (tE G W mc) σ H Q := fun σ H Q ⟨as, h, en, rh, re, o⟩ => by
    refine ⟨as, h, en, rh, re, (OutR.bind o).imp fun x H1 n => ?_⟩
    obtain ⟨dx, h1, as1, x1, rx, rh1, re1, o1⟩ := At.nxt re n
    refine ⟨as1, h1, en, rh1, re1, (OutR.bind o1).imp fun y H2 n => ?_⟩
    obtain ⟨dy, hh, as2, x2, ry, rh2, re2, o2⟩ := At.nxt re1 n
    cases e1 : dCmp op dx dy hh with
    | none => rw [e1] at o2; exact o2.elim
    | some k =>
      rw [e1] at o2
      refine h2 x y dx dy H2 as2 hh _ k (rx.mono x2.toEx0) ry rh2 e1 ⟨k, rfl, ?_⟩
      cases k with
      | false => exact iteF (o2 _ _ _ (Ext.refl _ _) (.bl _) rh2)
      | true =>
        refine iteT ⟨as2, hh, en, rh2, re2, (OutR.bind (show OutE ((mc en hh).bind fun z h4 => optB (dCmp op' dy z h4) h4) G H2 as2 Q _ from o2)).imp fun z H3 n => ?_⟩
        obtain ⟨dz, h3, as3, x3, rz, rh3, re3, o3⟩ := At.nxt re2 n
        cases e2 : dCmp op' dy dz h3 with
        | none => rw [e2] at o3; exact o3.elim
        | some k =>
          rw [e2] at o3
          exact h2' y z dy dz H3 as3 h3 _ k (ry.mono x3.toEx0) rz rh3 e2 (o3 _ _ _ (Ext.refl _ _) (.bl _) rh3)
  exact ⟨PE.imp (pe_chain h1 h1' pa pb pc hm) key, PT.imp (pt_chain h1 h1' pa pb pc hm) fun σ H Q h => key σ H _ h⟩
theorem tE_ife {c : Expr} (pc : PT X c (tT G W mc)) (pa : PE X a (tE G W ma)) (pb : PE X b (tE G W mb)) : PE X (.IfExp c a b pos) (tE G W (mIf mc ma mb)) := PE.imp (pe_ifExp pc pa pb) fun σ H Q ⟨as, h, en, rh, re, o⟩ => by
  refine ⟨as, h, en, rh, re, (OutR.bind o).imp fun x H1 n => ?_⟩
  obtain ⟨dx, h1, as1, x1, rx, rh1, re1, o1⟩ := At.nxt re n
  split at o1
  · cases rx
    exact ⟨true, rfl, iteT ⟨as1, h1, en, rh1, re1, o1⟩⟩
  · cases rx
    exact ⟨false, rfl, iteF ⟨as1, h1, en, rh1, re1, o1⟩⟩
  · exact o1.elim
theorem tT_not (pa : PT X a (tT G W ma)) : PT X (.UnaryOp .Not a pos) (tT G W (mNot ma)) := PT.imp (pt_not pa) fun σ H Q ⟨as, h, en, rh, re, o⟩ => by
  refine ⟨as, h, en, rh, re, (OutR.bind o).imp fun x H1 n => ?_⟩
  obtain ⟨dx, h1, as1, x1, rx, rh1, re1, o1⟩ := At.nxt re n
  split at o1
  · cases rx
    obtain ⟨b, e, q⟩ := o1 _ _ _ (Ext.refl _ _) (.bl _) rh1
    cases e
    exact ⟨_, rfl, q⟩
  · exact o1.elim
theorem tE_not (pa : PE X a (tE G W ma)) : PE X (.UnaryOp .Not a pos) (tE G W (mNot ma)) := PE.imp (pe_not pa) fun σ H Q ⟨as, h, en, rh, re, o⟩ => by
  refine ⟨as, h, en, rh, re, (OutR.bind o).imp fun x H1 n => ?_⟩
  obtain ⟨dx, h1, as1, x1, rx, rh1, re1, o1⟩ := At.nxt re n
  split at o1
  · cases rx
    exact ⟨_, rfl, o1 _ _ _ (Ext.refl _ _) (.bl _) rh1⟩
  · exact o1.elim
/-! ### and, or: the values in a row -/
variable {rest : List Expr}
theorem tE_and (pa : PE X a (tE G W ma)) (pb : PE X (.BoolOp .And (b :: rest) pos) (tE G W mb)) : PE X (.BoolOp .And (a :: b :: rest) pos) (tE G W (mAnd ma mb)) := PE.imp (pe_and pa pb) fun σ H Q ⟨as, h, en, rh, re, o⟩ => by
  refine ⟨as, h, en, rh, re, (OutR.bind o).imp fun x H1 n => ?_⟩
  obtain ⟨dx, h1, as1, x1, rx, rh1, re1, o1⟩ := At.nxt re n
  split at o1
  · cases rx
    exact ⟨true, rfl, iteT ⟨as1, h1, en, rh1, re1, o1⟩⟩
  · cases rx
    exact ⟨false, rfl, iteF (o1 _ _ _ (Ext.refl _ _) (.bl _) rh1)⟩
  · exact o1.elim
theorem tE_or (pa : PE X a (tE G W ma)) (pb : PE X (.BoolOp .Or (b :: rest) pos) (tE G W mb)) : PE X (.BoolOp .Or (a :: b :: rest) pos) (tE G W (mOr ma mb)) := PE.imp (pe_or pa pb) fun σ H Q ⟨as, h, en, rh, re, o⟩ => by
  refine ⟨as, h, en, rh, re, (OutR.bind o).imp fun x H1 n => ?_⟩
  obtain ⟨dx, h1, as1, x1, rx, rh1, re1, o1⟩ := At.nxt re n
  split at o1
  · cases rx
    exact ⟨true, rfl, iteT (o1 _ _ _ (Ext.refl _ _) (.bl _) rh1)⟩
  · cases rx
    exact ⟨false, rfl, iteF ⟨as1, h1, en, rh1, re1, o1⟩⟩
  · exact o1.elim
theorem PW.imp {e : Expr} {t t' : TT} (p : PW X e t) (k : ∀ σ H Q, t' σ H Q → t σ H Q) : PW X e t' := ⟨fun wh pins s σ H Q I h => p.run wh pins s σ H Q I (k _ _ _ h)⟩
theorem tW_and (pa : PT X a (tT G W ma)) (pb : PW X (.BoolOp .And (b :: rest) pos) (tT G W mb)) : PW X (.BoolOp .And (a :: b :: rest) pos) (tT G W (mAnd ma mb)) := PW.imp (pw_and pa pb) fun σ H Q ⟨as, h, en, rh, re, o⟩ => by
  refine ⟨as, h, en, rh, re, (OutR.bind o).imp fun x H1 n => ?_⟩
  obtain ⟨dx, h1, as1, x1, rx, rh1, re1, o1⟩ := At.nxt re n
  split at o1
  · cases rx
    exact ⟨true, rfl, iteT ⟨as1, h1, en, rh1, re1, o1⟩⟩
  · cases rx
    obtain ⟨b, e, q⟩ := o1 _ _ _ (Ext.refl _ _) (.bl _) rh1
    cases e
    exact ⟨false, rfl, iteF q⟩
  · exact o1.elim
theorem tW_or (pa : PT X a (tT G W ma)) (pb : PW X (.BoolOp .Or (b :: rest) pos) (tT G W mb)) : PW X (.BoolOp .Or (a :: b :: rest) pos) (tT G W (mOr ma mb)) := PW.imp (pw_or pa pb) fun σ H Q ⟨as, h, en, rh, re, o⟩ => by
  refine ⟨as, h, en, rh, re, (OutR.bind o).imp fun x H1 n => ?_⟩
  obtain ⟨dx, h1, as1, x1, rx, rh1, re1, o1⟩ := At.nxt re n
  split at o1
  · cases rx
    obtain ⟨b, e, q⟩ := o1 _ _ _ (Ext.refl _ _) (.bl _) rh1
    cases e
    exact ⟨true, rfl, iteT q⟩
  · cases rx
    exact ⟨false, rfl, iteF ⟨as1, h1, en, rh1, re1, o1⟩⟩
  · exact o1.elim
/-! ### subscripts -/
theorem atI_map {vs : List V} {ds : List D} {i : Int} {d : D} (l : RL G.K H as vs ds) (e : atI ds i = some d) : ∃ v, atI vs i = some v ∧ RV G.K H as v d := by
  unfold atI at e ⊢
  rw [l.length]
  cases q : ixN ds.length i with
  | none => rw [q] at e; cases e
  | some j =>
    rw [q] at e
    exact l.get e
theorem tE_idx (hK : X.K = G.K) (hw : X.w = G.w) (hu : X.A.units + 64 < cLine) (pa : PE X a (tE G W ma)) (pb : PE X b (tE G W mb)) (hs : PlainIx b) : PE X (.Subscript a b pos) (tE G W (mIdx ma mb)) := by
  refine tE_op (pe_ix (ix_seq.or (ix_dic hu)) pa pb hs) fun x y dx dy H as h Q E rx ry rh o => ?_
  rw [hK, hw]
  unfold dIdx at o
  split at o
  · rename_i xs i
    obtain ⟨p, vs, rfl, hp, lp⟩ := rx.tup_inv
    cases ry
    cases e : atI xs i with
    | none => rw [e] at o; exact o.elim
    | some d =>
      rw [e] at o
      obtain ⟨v, e2, rv⟩ := atI_map lp e
      exact .inl (.inr (.inl ⟨p, vs, i, v, rfl, rfl, hp, e2, o _ _ _ (Ext.refl _ _) rv rh⟩))
  · rename_i xs i
    obtain ⟨p, vs, rfl, hp, lp⟩ := rx.frl_inv
    cases ry
    cases e : atI xs i with
    | none => rw [e] at o; exact o.elim
    | some d =>
      rw [e] at o
      obtain ⟨v, e2, rv⟩ := atI_map lp e
      exact .inl (.inl ⟨p, vs, i, v, rfl, rfl, hp.sq, e2, o _ _ _ (Ext.refl _ _) rv rh⟩)
  · rename_i z i
    split at o
    · rename_i hl
      cases rx; cases ry
      cases e : atI z i with
      | none => rw [e] at o; exact o.elim
      | some c =>
        rw [e] at o
        exact .inl (.inr (.inr ⟨_, i, c, rfl, rfl, by rw [s_len]; exact hl, e, o _ _ _ (Ext.refl _ _) (RV.str [c]) rh⟩))
    · exact o.elim
  · rename_i j dyy _
    split at o
    · rename_i xs e1
      split at o
      · rename_i i
        obtain ⟨p, rfl, ep⟩ := rx.ref_inv
        obtain ⟨vs, hp, lp⟩ := rh.lst ep e1
        cases ry
        cases e : atI xs i with
        | none => rw [e] at o; exact o.elim
        | some d =>
          rw [e] at o
          obtain ⟨v, e2, rv⟩ := atI_map lp e
          exact .inl (.inl ⟨p, vs, i, v, rfl, rfl, SqL.of hp, e2, o _ _ _ (Ext.refl _ _) rv rh⟩)
      · exact o.elim
    · rename_i ob e1 e2
      split at o
      · rename_i d eg
        obtain ⟨p, rfl, ep⟩ := rx.ref_inv
        obtain ⟨rv, g, ro⟩ := rh_get rh ep e2 ry eg
        cases rv with
        | none => exact ro.elim
        | some v => exact .inr ⟨p, v, rfl, g, o _ _ _ (Ext.refl _ _) ro rh⟩
      · exact o.elim
    · exact o.elim
  · exact o.elim
/-! ### slices -/
def tP (G : Wd) (W : WX) (m : Option M) : TO := fun σ H Q => At G σ H fun e h as => OutR (fun _ _ (v d : Option Int) => v = d) (evP m e h) G H as Q fun c d H' => W c d σ H'
theorem PO.imp {e : Option Expr} {t t' : TO} (p : PO X e t) (k : ∀ σ H Q, t' σ H Q → t σ H Q) : PO X e t' := ⟨fun pins s σ H Q I h => p.run pins s σ H Q I (k _ _ _ h)⟩
theorem tP_none : PO X none (tP G W none) := PO.imp po_none fun σ H Q ⟨as, h, en, rh, re, o⟩ => o none H as (Ext.refl _ _) rfl rh
theorem tP_some (p : PE X e (tE G W ma)) : PO X (some e) (tP G W (some ma)) := PO.imp (po_some p) fun σ H Q ⟨as, h, en, rh, re, o⟩ => by
  refine ⟨as, h, en, rh, re, (OutR.bind (rel := RV G.K) o).imp fun x H1 n => ?_⟩
  obtain ⟨dx, h1, as1, x1, rx, rh1, re1, o1⟩ := At.nxt re n
  split at o1
  · cases rx
    exact ⟨_, rfl, o1 _ _ _ (Ext.refl _ _) rfl rh1⟩
  · exact o1.elim
theorem cut_RL {vs : List V} {ds : List D} (l : RL G.K H as vs ds) (lo hi : Option Int) : RL G.K H as (cutV vs lo hi) (cutG ds lo hi) := by
  unfold cutV cutG
  rw [l.length]
  exact (l.drop _).take _
theorem cutS_eq (z : Tx) (lo hi : Option Int) : cutS ⟨z.toArray⟩ lo hi = ⟨(cutG z lo hi).toArray⟩ := by
  unfold cutS cutG
  rw [s_len]
theorem tE_slc (hK : X.K = G.K) {lo hi : Option Expr} {ml mh : Option M} {p2 : Pos} (pa : PE X a (tE G W ma)) (pl : PO X lo (tP G W ml)) (ph : PO X hi (tP G W mh)) : PE X (.Subscript a (.Slice lo hi none p2) pos) (tE G W (mSlc ma ml mh)) :=
  PE.imp (pe_slice (sl_str.or (sl_list.or sl_tupA)) pa pl ph) fun σ H Q ⟨as, h, en, rh, re, o⟩ => by
  refine ⟨as, h, en, rh, re, (OutR.bind o).imp fun x H1 n => ?_⟩
  obtain ⟨dx, h1, as1, x1, rx, rh1, re1, o1⟩ := At.nxt re n
  refine ⟨as1, h1, en, rh1, re1, (OutR.bind (rel := fun _ _ (v d : Option Int) => v = d) o1).imp fun l H2 n => ?_⟩
  obtain ⟨dl, h2, as2, x2, el, rh2, o2⟩ := n
  subst el
  refine ⟨as2, h2, en, rh2, re1.mono x2.toEx0, (OutR.bind (rel := fun _ _ (v d : Option Int) => v = d) o2).imp fun u H3 n => ?_⟩
  obtain ⟨du, h3, as3, x3, eu, rh3, o3⟩ := n
  subst eu
  have rx3 := (rx.mono x2.toEx0).mono x3.toEx0
  rw [hK]
  unfold dSlc at o3
  split at o3
  · split at o3
    · rename_i hl
      cases rx3
      refine .inl ⟨_, rfl, by rw [s_len]; exact hl, ?_⟩
      rw [cutS_eq]
      exact o3 _ _ _ (Ext.refl _ _) (.str _) rh3
    · exact o3.elim
  · obtain ⟨p, vs, rfl, hp, lp⟩ := rx3.tup_inv
    refine .inr (.inr ⟨p, vs, rfl, hp, fun hw => ?_, fun hw z nz => ?_⟩)
    · refine o3 _ _ _ (Ext.refl _ _) (.tup hp ?_) rh3
      have := cut_RL lp l u
      unfold cutV at this
      rw [hw.1, hw.2, List.drop_zero, Nat.sub_zero, List.take_length] at this
      exact this
    · obtain ⟨x1, r1, r2⟩ := rh3.tupNew nz (cut_RL lp l u)
      exact o3 _ _ _ x1 r1 r2
  · split at o3
    · rename_i i xs e1
      obtain ⟨p, rfl, ep⟩ := rx3.ref_inv
      obtain ⟨vs, hp, lp⟩ := rh3.lst ep e1
      refine .inr (.inl ⟨p, vs, rfl, SqL.of hp, fun z nz => ?_⟩)
      obtain ⟨x1, r1, r2⟩ := rh3.lstNew nz (cut_RL lp l u)
      exact o3 _ _ _ x1 r1 r2
    · exact o3.elim
  · exact o3.elim
/-! ### attributes -/
theorem look_RF (hi : ∀ f g, G.fnm f = G.fnm g → f = g) {f : Nat} {d : D} : ∀ {fvs : List (Str × V)} {fs : List (Nat × D)}, RF G H as fvs fs → fs.lookup f = some d → ∃ v, fvs.lookup (G.fnm f) = some v ∧ RV G.K H as v d
  | [], [], _, e => by cases e
  | [], _ :: _, r, _ => by have := r.1; simp at this
  | _ :: _, [], r, _ => by have := r.1; simp at this
  | (x, v) :: fvs, (g, d') :: fs, r, e => by
    obtain ⟨r1, r2⟩ := r
    simp only [List.map_cons, List.cons.injEq] at r1
    cases r2 with
    | cons rv rl =>
      rw [List.lookup_cons] at e ⊢
      by_cases q : f = g
      · subst q
        have e1 : (G.fnm f == x) = true := by rw [r1.1]; simp
        rw [e1]
        rw [beq_self_eq_true] at e
        cases e
        exact ⟨v, rfl, rv⟩
      · have e1 : (G.fnm f == x) = false := by
          rw [r1.1, beq_eq_false_iff_ne]
          exact fun z => q (hi _ _ z)
        rw [e1]
        have e2 : (f == g) = false := beq_eq_false_iff_ne.mpr q
        rw [e2] at e
        exact look_RF hi ⟨r1.2, rl⟩ e
theorem mem_lookup1 {f : Nat} {d : D} : ∀ {fs : List (Nat × D)}, fs.lookup f = some d → (f, d) ∈ fs
  | [], e => by cases e
  | (g, d') :: fs, e => by
    rw [List.lookup_cons] at e
    by_cases q : f = g
    · subst q
      rw [beq_self_eq_true] at e
      cases e
      exact List.mem_cons_self
    · have e2 : (f == g) = false := beq_eq_false_iff_ne.mpr q
      rw [e2] at e
      exact List.mem_cons_of_mem _ (mem_lookup1 e)
theorem tE_attr (hK : X.K = G.K) (hi : ∀ f g, G.fnm f = G.fnm g → f = g) {f : Nat} (pa : PE X a (tE G W ma)) (hb : attributeBase a (G.fnm f) X.env (eval a X.env) = eval a X.env) : PE X (.Attribute a (G.fnm f) pos) (tE G W (mAttr ma f)) :=
  PE.imp (pe_fld pa hb) fun σ H Q ⟨as, h, en, rh, re, o⟩ => by
  refine ⟨as, h, en, rh, re, (OutR.bind o).imp fun x H1 n => ?_⟩
  obtain ⟨dx, h1, as1, x1, rx, rh1, re1, o1⟩ := At.nxt re n
  split at o1
  · split at o1
    · rename_i i c fs e1
      obtain ⟨p, rfl, ep⟩ := rx.ref_inv
      obtain ⟨dx, fvs, hp, rf, cl, na⟩ := rh1.ins ep e1
      cases e2 : fldOf fs f with
      | none => rw [e2] at o1; exact o1.elim
      | some d =>
        rw [e2] at o1
        obtain ⟨v, e3, rv⟩ := look_RF hi rf e2
        rw [hK]
        exact ⟨p, _, dx, fvs, v, rfl, hp, cl, na _ (mem_lookup1 e2), e3, o1 _ _ _ (Ext.refl _ _) rv rh1⟩
    · exact o1.elim
  · exact o1.elim
end
end Mp

/-! Mp7: calls. -/
namespace Mp
open PySem L2 LamX PyProof.Rows

/-- a def's promise by a plain function -/
def spD (G : Wd) (F : List D → DH → Res) : Sp := fun vs H Q E => ∃ as h ds, RH G H as h ∧ RL G.K H as vs ds ∧ OutE (F ds h) G H as Q E
def noStar : Expr → Bool
  | .Starred _ _ => false
  | _ => true
def plainO : Expr → Bool
  | .Call (.Name _ _) _ _ _ => false
  | _ => true
theorem star1 {env : Env} {e : Expr} {es : List Expr} (h : noStar e = true) : starEach (e :: es) env = (false, eval e env) :: starEach es env := by
  cases e <;> first | rfl | cases h
theorem stars {env : Env} {p : Pos} : ∀ {es : List Expr}, es.all noStar = true → (backTo p (starEach es env)).any (·.1) = false
  | [], _ => rfl
  | e :: es, h => by
    rw [List.all_cons, Bool.and_eq_true] at h
    rw [star1 h.1]
    show (false || (backTo p (starEach es env)).any (·.1)) = false
    rw [stars h.2]
    rfl
theorem stars' {env : Env} {p : Pos} : ∀ {es : List Expr}, es.all noStar = true → (backTo p (starEach es env)).all (fun q => !q.1) = true
  | [], _ => rfl
  | e :: es, h => by
    rw [List.all_cons, Bool.and_eq_true] at h
    rw [star1 h.1]
    show (true && (backTo p (starEach es env)).all (fun q => !q.1)) = true
    rw [stars' h.2]
    rfl
theorem attr_base {o : Expr} {m : Str} {env : Env} {wh : Sem Value} (h : plainO o = true) : attributeBase o m env wh = wh := by
  unfold attributeBase
  split
  · cases h
  · rfl
section
variable {X : Cx} {G : Wd} {W : WX} {a b c e o : Expr} {es : List Expr} {ma mb mc mo : M} {ms : List M} {pos p apos : Pos} {H : Hp} {as : List Addr} {x : Str} {f C : Addr} {fd : FuncData} {ps : List Str} {k : Nat} {F : List D → DH → Res}
theorem meth_eq {m : Str} (h1 : plainO o = true) (h2 : es.all noStar = true) (h3 : es.length < 30) (h4 : (apos.endLine == pos.line) = true) :
    eval (.Call (.Attribute o m apos) es [] pos) X.env = (do
      let ov ← eval o X.env
      standAt apos.atName
      let (g, fst) ← holding [ov] (getMethod ov m (plainOf o X.env))
      callWith pos g fst (backTo pos (starEach es X.env)) (backToKw pos (keywordEach [] X.env))) := by
  have hf : methodCallForm (es.length + ([] : List Keyword).length) (backTo pos (starEach es X.env)) (backToKw pos (keywordEach [] X.env)) = true := by
    unfold methodCallForm
    rw [stars' h2]
    show (true && true && decide (es.length + 0 + 0 < 30)) = true
    simp [h3]
  show (do
    let ov ← attributeBase o m X.env (eval o X.env)
    standAt apos.atName
    methodCall o m apos pos X.env ov (es.length + ([] : List Keyword).length) (backTo pos (starEach es X.env)) (backToKw pos (keywordEach [] X.env))) = _
  rw [attr_base h1]
  congr
  funext ov
  congr
  funext _
  exact mcall_line hf h4
/-- a def of the module, called -/
theorem tE_call (FO : FnOk X.prog X.w X.K X.mg X.base (L2N.CX X.prog X.w) k f fd ps (spD G F)) (hr : Room k X.A) (hg : Gl X x) (hm : X.mg x = some (.ref f)) (hk : PySem.W.keepIn X.K (.ref f) = true) (hb : Binds X.K fd ps []) (tk : L2N.Takes X W)
    (pl : PA X (e :: es) (tL G W ms)) (hst : (e :: es).all noStar = true) (hdb : (x == ("__debug__" : Str)) = false) :
    PE X (.Call (.Name x p) (e :: es) [] pos) (tE G W fun en h => (evL ms en h).bind fun ds h1 => F ds h1) := by
  rw [List.all_cons, Bool.and_eq_true] at hst
  refine PE.imp (pe_callS FO hr hg hm hk hb (fun σ => L2N.passAt tk σ) pl hdb (star1 hst.1) (stars hst.2)) fun σ H Q q => ?_
  obtain ⟨as, h, en, rh, re, o⟩ := q
  refine ⟨as, h, en, rh, re, (OutR.bind (rel := RL G.K) o).imp fun vs H1 n => ?_⟩
  obtain ⟨ds, h1, as1, x1, rl, rh1, o1⟩ := n
  exact ⟨as1, h1, ds, rh1, rl, o1⟩
theorem tE_call0 (FO : FnOk X.prog X.w X.K X.mg X.base (L2N.CX X.prog X.w) k f fd ps (spD G F)) (hr : Room k X.A) (hg : Gl X x) (hm : X.mg x = some (.ref f)) (hk : PySem.W.keepIn X.K (.ref f) = true) (hb : Binds X.K fd ps []) (tk : L2N.Takes X W)
    (hdb : (x == ("__debug__" : Str)) = false) :
    PE X (.Call (.Name x p) [] [] pos) (tE G W fun en h => (evL [] en h).bind fun ds h1 => F ds h1) := by
  refine ⟨fun pins s σ H Q I q => ?_⟩
  obtain ⟨as, h, en, rh, re, o⟩ := q
  refine wpAny_Call_Name_kw (ld_glob I hg hm ?_ hdb)
  exact PySem.W.callWith_K0 I.kIn hk (run_fnS (us := []) (vs := []) (E := WE W) FO hr hb (L2N.passAt tk σ) I .nil ⟨as, h, [], rh, .nil, o⟩)
/-- a method of an own class -/
theorem pe_methG {m : Str} {ta : TE} {sp : Sp} {t : TA} (he : PE X o ta) (cl : Cls X.K C) (hm : Meth X.K C m f) (FO : FnOk X.prog X.w X.K X.mg X.base (L2N.CX X.prog X.w) k f fd ps sp) (hr : Room k X.A) (hb : Binds X.K fd ps []) (tk : L2N.Takes X W)
    (ha : PA X (e :: es) t) (h1 : plainO o = true) (h2 : (e :: es).all noStar = true) (h3 : (e :: es).length < 30) (h4 : (apos.endLine == pos.line) = true) :
    PE X (.Call (.Attribute o m apos) (e :: es) [] pos) (fun σ H Q => ta σ H fun v H1 => ∃ a dx fs, v = .ref a ∧ H1 a = some (.ins C dx fs) ∧ fs.lookup m = none ∧ t σ H1 fun vs H2 => sp (v :: vs) H2 Q (WE W σ)) := by
  refine ⟨fun pins s σ H Q I h => ?_⟩
  refine PySem.W.methodCall_KW (pl := plainOf o X.env) (thn (he.run pins s σ H _ I h) fun u s1 hu => ?_) (meth_eq h1 h2 h3 h4)
  obtain ⟨v, H1, I1, rv, a, dx, fs, ev, ea, l, q⟩ := hu
  subst ev
  obtain rfl : u = Value.ref a := rv
  refine getmeth_ok I1 ea cl hm l ?_
  rw [List.all_cons, Bool.and_eq_true] at h2
  refine PySem.W.callWith_K (first := [.ref a]) (h₀ := X.base) I.ok.mod.kin hm.kp (thn (ha.run pos pins s1 σ H1 _ I1 q) fun us s2 hu2 => ?_) (star1 h2.1) (stars h2.2)
  obtain ⟨vs, H2, I2, r, q2⟩ := hu2
  exact ⟨I2.kIn, run_fnS (us := .ref a :: us) (vs := .ref a :: vs) (E := WE W) FO hr hb (L2N.passAt tk σ) I2 (.cons rfl r) q2⟩
theorem pe_methG0 {m : Str} {ta : TE} {sp : Sp} (he : PE X o ta) (cl : Cls X.K C) (hm : Meth X.K C m f) (FO : FnOk X.prog X.w X.K X.mg X.base (L2N.CX X.prog X.w) k f fd ps sp) (hr : Room k X.A) (hb : Binds X.K fd ps []) (tk : L2N.Takes X W)
    (h1 : plainO o = true) (h4 : (apos.endLine == pos.line) = true) :
    PE X (.Call (.Attribute o m apos) [] [] pos) (fun σ H Q => ta σ H fun v H1 => ∃ a dx fs, v = .ref a ∧ H1 a = some (.ins C dx fs) ∧ fs.lookup m = none ∧ sp [v] H1 Q (WE W σ)) := by
  refine ⟨fun pins s σ H Q I h => ?_⟩
  refine PySem.W.methodCall_KW (pl := plainOf o X.env) (thn (he.run pins s σ H _ I h) fun u s1 hu => ?_) (meth_eq h1 (by rfl) (by decide) h4)
  obtain ⟨v, H1, I1, rv, a, dx, fs, ev, ea, l, q⟩ := hu
  subst ev
  obtain rfl : u = Value.ref a := rv
  refine getmeth_ok I1 ea cl hm l ?_
  exact PySem.W.callWith_K0 (first := [.ref a]) I1.kIn hm.kp (run_fnS (us := [.ref a]) (vs := [.ref a]) (E := WE W) FO hr hb (L2N.passAt tk σ) I1 (.cons rfl .nil) q)
theorem noField {m : Str} {c : Nat} (hm : Meth G.K (G.cls c) m f) : ∀ {fvs : List (Str × V)} {fs : List (Nat × D)}, RF G H as fvs fs → (∀ p ∈ fs, NoAttr G.K (G.cls c) (G.fnm p.1)) → fvs.lookup m = none
  | [], _, _, _ => rfl
  | _ :: _, [], r, _ => by have := r.1; simp at this
  | (y, v) :: fvs, (g, d) :: fs, r, na => by
    obtain ⟨r1, r2⟩ := r
    simp only [List.map_cons, List.cons.injEq] at r1
    cases r2 with
    | cons rv rl =>
      rw [List.lookup_cons]
      have ne : (m == y) = false := by
        rw [r1.1, beq_eq_false_iff_ne]
        intro z
        have n1 := na (g, d) List.mem_cons_self
        have n2 := hm.at_
        unfold NoAttr at n1
        rw [z] at n2
        have n3 := n1.symm.trans n2
        cases n3
      rw [ne]
      exact noField hm ⟨r1.2, rl⟩ fun p hp => na p (List.mem_cons_of_mem _ hp)
/-- what is known of a class's method -/
def MeOk (X : Cx) (G : Wd) (k : Nat) (m : Str) (c : Nat) (F : List D → DH → Res) : Prop :=
  ∃ (fa : Addr) (fd : FuncData) (ps : List Str), Cls X.K (G.cls c) ∧ Meth X.K (G.cls c) m fa ∧ FnOk X.prog X.w X.K X.mg X.base (L2N.CX X.prog X.w) k fa fd ps (spD G F) ∧ Binds X.K fd ps []
theorem tE_meth {cl : CL} {me : Nat → Option Nat} {m : Str} {c0 f0 : Nat} (hK : X.K = G.K) (po : PE X o (tE G W mo)) (h0 : me c0 = some f0) (all : ∀ c fi, me c = some fi → MeOk X G k m c (cl fi)) (hr : Room k X.A) (tk : L2N.Takes X W)
    (ha : PA X es (tL G W ms)) (h1 : plainO o = true) (h2 : es.all noStar = true) (h3 : es.length < 30) (h4 : (apos.endLine == pos.line) = true) (h5 : es = [] → ms = []) :
    PE X (.Call (.Attribute o m apos) es [] pos) (tE G W (mMeth cl me mo ms)) := by
  refine ⟨fun pins s σ H Q I q => ?_⟩
  have done : ∀ c fi, me c = some fi → (At G σ H fun en h as => OutE (mo en h) G H as (fun v H1 => ∃ a dx fs, v = .ref a ∧ H1 a = some (.ins (G.cls c) dx fs) ∧ fs.lookup m = none ∧ tL G W ms σ H1 fun vs H2 => spD G (cl fi) (v :: vs) H2 Q (WE W σ)) (WE W σ)) →
      wpAny (model X.prog X.w) X.A (eval (.Call (.Attribute o m apos) es [] pos) X.env) (EP X pins σ Q) X.xe s := fun c fi hc z => by
    obtain ⟨fa, fd, ps, cc, hm, FO, hb⟩ := all c fi hc
    cases es with
    | cons e es => exact (pe_methG (ta := tE G W mo) (t := tL G W ms) po cc hm FO hr hb tk ha h1 h2 h3 h4).run pins s σ H Q I z
    | nil =>
      have : ms = [] := h5 rfl
      subst this
      obtain ⟨as, h, en, rh, re, o⟩ := z
      refine (pe_methG0 (ta := tE G W mo) po cc hm FO hr hb tk h1 h4).run pins s σ H Q I ⟨as, h, en, rh, re, o.imp fun v H1 w => ?_⟩
      obtain ⟨a, dx, fs, e1, e2, e3, as1, h1, en1, rh1, re1, o1⟩ := w
      exact ⟨a, dx, fs, e1, e2, e3, o1 [] H1 as1 (Ext.refl _ _) .nil rh1⟩
  obtain ⟨as, h, en, rh, re, o⟩ := q
  unfold mMeth at o
  cases q : mo en h with
  | err => rw [q] at o; exact o.elim
  | exc c w h1 =>
    rw [q] at o
    exact done c0 f0 h0 ⟨as, h, en, rh, re, by dsimp only; rw [q]; exact o⟩
  | ok d h1 =>
    rw [q, bind_ok] at o
    split at o
    · rename_i i
      split at o
      · rename_i c fs e1
        split at o
        · rename_i fi hc
          refine done c fi hc ⟨as, h, en, rh, re, ?_⟩
          dsimp only
          rw [q]
          intro v H1 as1 x1 rv rh1
          obtain ⟨fa, fd, ps, cc, hm, FO, hb⟩ := all c fi hc
          obtain ⟨p, rfl, ep⟩ := rv.ref_inv
          obtain ⟨dx, fvs, hp, rf, cls, na⟩ := rh1.ins ep e1
          rw [hK] at hm
          refine ⟨p, dx, fvs, rfl, hp, noField hm rf na, as1, h1, en, rh1, re.mono x1.toEx0, (OutR.bind (rel := RL G.K) (o.mono x1)).imp fun vs H2 n => ?_⟩
          obtain ⟨ds, h2, as2, x2, rl, rh2, o2⟩ := n
          exact ⟨as2, h2, _, rh2, .cons (rv.mono x2.toEx0) rl, o2⟩
        · exact o.elim
      · exact o.elim
    · exact o.elim
/-- an own class, made -/
theorem tE_make {cl : CL} {cn fn : Nat} (hK : X.K = G.K) (M : Mk X.K (G.cls cn) f) (cc : Cls X.K (G.cls cn)) (FO : FnOk X.prog X.w X.K X.mg X.base (L2N.CX X.prog X.w) k f fd ps (spD G (cl fn))) (hr : Room (k + 1) X.A) (hg : Gl X x) (hm : X.mg x = some (.ref (G.cls cn))) (hb : Binds X.K fd ps []) (tk : L2N.Takes X W)
    (pl : PA X es (tL G W ms)) (h2 : es.all noStar = true) (hdb : (x == ("__debug__" : Str)) = false) (h5 : es = [] → ms = []) :
    PE X (.Call (.Name x p) es [] pos) (tE G W (mMake cl cn fn ms)) := by
  have run : ∀ {pins : List (Addr × Obj)} {σ : L2.St} {H : Hp} {s : Shared} {Q : VK} {us : List Value} {vs : List V}, Inv X pins σ H s → Vals vs us → (∀ y dx, H y = none → H dx = none → dx ≠ y → spD G (cl fn) (.ref y :: vs) (upd (upd H dx (.own y)) y (.ins (G.cls cn) dx [])) (fun v H2 => v = .non ∧ Q (.ref y) H2) (WE W σ)) →
      wpAny (model X.prog X.w) X.A (call (.ref (G.cls cn)) us) (EP X pins σ Q) X.xe s := fun {pins σ H s Q us vs} I r h => by
    have hq := h (s.heap.objs.size + 1) s.heap.objs.size (I.hok.fresh (Nat.le_succ _)) (I.hok.fresh (Nat.le_refl _)) (Nat.ne_of_lt (Nat.lt_succ_self _))
    have J := Inv.made (C := G.cls cn) I
    have rr : Vals (V.ref (s.heap.objs.size + 1) :: vs) (Value.ref (s.heap.objs.size + 1) :: us) := .cons rfl r
    have hl : (Value.ref (s.heap.objs.size + 1) :: us).length = ps.length := by
      have e := rr.length
      rw [FO.len _ _ _ _ hq] at e
      exact e.symm
    have bb := hb _ (Value.ref (s.heap.objs.size + 1) :: us) J.kIn (by rw [List.append_nil]; exact hl)
    rw [List.append_nil] at bb
    refine wpAny_call (make_map (f := f) I.kIn M.makes M.init (beq_iff_eq.mp M.fn) (codeAny_mono (FO.run _ X.stack _ _ ⟨Value.ref (s.heap.objs.size + 1) :: us, []⟩ (Value.ref (s.heap.objs.size + 1) :: us) _ _ (WE W σ) (hr.make (G.cls cn) us [])
      (J.env0.make (G.cls cn) us []) bb rr hq) fun r s' hz => ?_))
    cases r with
    | error e => exact L2N.passAt tk σ pins _ _ e s' J hz
    | ok fl =>
      cases fl with
      | ret u =>
        obtain ⟨v, H', I3, rv, ev, q3⟩ := J.after hz
        subst ev
        exact ⟨rv, ⟨V.ref (s.heap.objs.size + 1), H', I3, rfl, q3⟩⟩
      | next => exact False.elim hz
      | brk => exact False.elim hz
      | cont => exact False.elim hz
  have fin : ∀ {σ : L2.St} {H : Hp} {as : List Addr} {h : DH} {vs : List V} {ds : List D} {Q : VK}, RH G H as h → RL G.K H as vs ds →
      OutE ((cl fn (.ref h.length :: ds) (h ++ [.ins cn []])).bind fun r h2 => match r with | .non => .ok (.ref h.length) h2 | _ => .err) G H as Q (WE W σ) →
      ∀ y dx, H y = none → H dx = none → dx ≠ y → spD G (cl fn) (.ref y :: vs) (upd (upd H dx (.own y)) y (.ins (G.cls cn) dx [])) (fun v H2 => v = .non ∧ Q (.ref y) H2) (WE W σ) := fun {σ H as h vs ds Q} rh rl o y dx ny nd ne => by
    obtain ⟨x1, r1⟩ := rh.laid (u := .own y) nd
    have ny1 : upd H dx (.own y) y = none := by rw [upd_ne (Ne.symm ne)]; exact ny
    obtain ⟨x2, r2⟩ := r1.push (u := .ins (G.cls cn) dx []) (o := .ins cn []) ny1 ⟨dx, [], upd_same, ⟨rfl, .nil⟩, by rw [← hK]; exact cc, fun p hp => nomatch hp⟩
    have x12 := x1.trans x2
    have ey : (as ++ [y])[h.length]? = some y := by rw [← rh.len]; simp
    refine ⟨as ++ [y], h ++ [.ins cn []], .ref h.length :: ds, r2, .cons (.ref ey) (rl.mono x12.toEx0), (OutR.bind (rel := RV G.K) (o.mono x12)).imp fun v H2 n => ?_⟩
    obtain ⟨d, h2, as2, x3, rv, rh2, o2⟩ := n
    split at o2
    · cases rv
      exact ⟨rfl, o2 _ _ _ (Ext.refl _ _) (.ref (x3.pre _ _ ey)) rh2⟩
    · exact o2.elim
  refine ⟨fun pins s σ H Q I q => ?_⟩
  obtain ⟨as, h, en, rh, re, o⟩ := q
  refine wpAny_Call_Name_kw (ld_glob I hg hm ?_ hdb)
  cases es with
  | nil =>
    have : ms = [] := h5 rfl
    subst this
    exact PySem.W.callWith_K0 I.kIn M.kp (run (us := []) I .nil (fin rh .nil o))
  | cons e es =>
    rw [List.all_cons, Bool.and_eq_true] at h2
    refine PySem.W.callWith_K (h₀ := X.base) I.ok.mod.kin M.kp (thn (pl.run pos pins s σ H _ I ⟨as, h, en, rh, re, (OutR.bind (rel := RL G.K) o)⟩) fun us s1 hu => ?_) (star1 h2.1) (stars h2.2)
    obtain ⟨vs, H1, I1, r, ds, h1, as1, x1, rl, rh1, o1⟩ := hu
    exact ⟨I1.kIn, run I1 r (fin rh1 rl o1)⟩
end
end Mp

/-! Mp8: built-in functions, methods, isinstance. -/
namespace Mp
open PySem L2 LamX PyProof.Rows
section
variable {X : Cx} {G : Wd} {W : WX} {a b c e o : Expr} {es : List Expr} {ma mb mc mo : M} {ms : List M} {pos p apos : Pos} {H : Hp} {as : List Addr}
theorem bols_flat {vs : List V} {ds : List D} {zs : List Bool} : RL G.K H as vs ds → bolsOf ds = some zs → vs = zs.map V.bl := by
  intro l
  induction ds generalizing vs zs with
  | nil => intro e; cases l; cases e; rfl
  | cons d ds ih =>
    intro e
    cases l with
    | cons r l =>
      cases d with
      | bl x =>
        simp only [bolsOf, Option.map_eq_some_iff] at e
        obtain ⟨zs', e, rfl⟩ := e
        cases r
        rw [ih l e]
        rfl
      | _ => cases e
/-- a built-in's rule by the plain function -/
def BiR (X : Cx) (G : Wd) (f : Value) (b : BI) : Prop := ∃ r, CallR X f r ∧ ∀ (xs : List V) (ds : List D) (H : Hp) (as : List Addr) (h : DH) (Q : VK) (E : XK), RL G.K H as xs ds → RH G H as h → OutE (dBi b ds h) G H as Q E → r xs H Q
theorem bi_len (hK : X.K = G.K) : BiR X G (.builtin "len") .len := ⟨_, call_len, fun xs ds H as h Q E rl rh o => by
  rw [hK]
  have o : OutE (dLen ds h) G H as Q E := o
  unfold dLen at o
  split at o
  · split at o
    · rename_i hl
      obtain ⟨v, rfl, rv⟩ := rl.one
      cases rv
      exact ⟨_, _, rfl, ⟨by rw [s_len]; exact hl, rfl⟩, by rw [s_len]; exact o _ _ _ (Ext.refl _ _) (.int _) rh⟩
    · exact o.elim
  · obtain ⟨v, rfl, rv⟩ := rl.one
    obtain ⟨q, vs, rfl, hq, lq⟩ := rv.tup_inv
    exact ⟨_, _, rfl, .inr ⟨vs, hq, rfl⟩, by rw [lq.length]; exact o _ _ _ (Ext.refl _ _) (.int _) rh⟩
  · obtain ⟨v, rfl, rv⟩ := rl.one
    obtain ⟨q, vs, rfl, hq, lq⟩ := rv.frl_inv
    exact ⟨_, _, rfl, .inl ⟨vs, hq.sq, rfl⟩, by rw [lq.length]; exact o _ _ _ (Ext.refl _ _) (.int _) rh⟩
  · split at o
    · rename_i xs e1
      obtain ⟨v, rfl, rv⟩ := rl.one
      obtain ⟨q, rfl, eq⟩ := rv.ref_inv
      obtain ⟨vs, hq, lq⟩ := rh.lst eq e1
      exact ⟨_, _, rfl, .inl ⟨vs, SqL.of hq, rfl⟩, by rw [lq.length]; exact o _ _ _ (Ext.refl _ _) (.int _) rh⟩
    · exact o.elim
  · exact o.elim⟩
theorem bi_ord : BiR X G (.builtin "ord") .ord := ⟨_, call_ord, fun xs ds H as h Q E rl rh o => by
  have o : OutE (dOrd ds h) G H as Q E := o
  unfold dOrd at o
  split at o
  · obtain ⟨v, rfl, rv⟩ := rl.one
    cases rv
    exact ⟨_, rfl, by rw [s_len]; rfl, o _ _ _ (Ext.refl _ _) (.int _) rh⟩
  · exact o.elim⟩
theorem bi_int : BiR X G (.type "int") .int := ⟨_, call_int1.or call_int_str, fun xs ds H as h Q E rl rh o => by
  have o : OutE (dInt ds h) G H as Q E := o
  unfold dInt at o
  split at o
  · obtain ⟨v, rfl, rv⟩ := rl.one
    cases rv
    exact .inl (.inl ⟨_, rfl, o _ _ _ (Ext.refl _ _) (.int _) rh⟩)
  · obtain ⟨v, rfl, rv⟩ := rl.one
    cases rv
    exact .inl (.inr ⟨_, rfl, o _ _ _ (Ext.refl _ _) (.int _) rh⟩)
  · split at o
    · split at o
      · rename_i n en hl
        obtain ⟨v, rfl, rv⟩ := rl.one
        cases rv
        exact .inr ⟨_, n, rfl, en, by rw [s_len]; exact hl, o _ _ _ (Ext.refl _ _) (.int _) rh⟩
      · exact o.elim
    · exact o.elim
  · exact o.elim⟩
theorem bi_str : BiR X G (.type "str") .str := ⟨_, call_str_int.or SkE.call_str_str, fun xs ds H as h Q E rl rh o => by
  have o : OutE (dStr ds h) G H as Q E := o
  unfold dStr at o
  split at o
  · split at o
    · rename_i hl
      obtain ⟨v, rfl, rv⟩ := rl.one
      cases rv
      exact .inl ⟨_, rfl, hl, o _ _ _ (Ext.refl _ _) (RV.ofStr _) rh⟩
    · exact o.elim
  · obtain ⟨v, rfl, rv⟩ := rl.one
    cases rv
    exact .inr ⟨_, rfl, o _ _ _ (Ext.refl _ _) (.str _) rh⟩
  · exact o.elim⟩
theorem bi_min (hc : X.calm = true) : BiR X G (.builtin "min") .min := ⟨_, call_min2 hc, fun xs ds H as h Q E rl rh o => by
  have o : OutE (dMin ds h) G H as Q E := o
  unfold dMin at o
  split at o
  · obtain ⟨v, w, rfl, rv, rw'⟩ := rl.two
    cases rv
    cases rw'
    exact ⟨_, _, rfl, o _ _ _ (Ext.refl _ _) (.int _) rh⟩
  · exact o.elim⟩
theorem bi_max (hc : X.calm = true) : BiR X G (.builtin "max") .max := ⟨_, call_max2 hc, fun xs ds H as h Q E rl rh o => by
  have o : OutE (dMax ds h) G H as Q E := o
  unfold dMax at o
  split at o
  · obtain ⟨v, w, rfl, rv, rw'⟩ := rl.two
    cases rv
    cases rw'
    exact ⟨_, _, rfl, o _ _ _ (Ext.refl _ _) (.int _) rh⟩
  · exact o.elim⟩
theorem bi_all (hK : X.K = G.K) (hc : X.calm = true) : BiR X G (.builtin "all") .all := ⟨_, cr_all hc, fun xs ds H as h Q E rl rh o => by
  have o : OutE (dAll ds h) G H as Q E := o
  unfold dAll at o
  split at o
  · split at o
    · rename_i xs e1
      split at o
      · rename_i bs e2
        obtain ⟨v, rfl, rv⟩ := rl.one
        obtain ⟨q, rfl, eq⟩ := rv.ref_inv
        obtain ⟨vs, hq, lq⟩ := rh.lst eq e1
        have := bols_flat lq e2
        subst this
        exact ⟨q, bs, rfl, SqL.of hq, o _ _ _ (Ext.refl _ _) (.bl _) rh⟩
      · exact o.elim
    · exact o.elim
  · exact o.elim⟩
theorem bi_any (hK : X.K = G.K) (hc : X.calm = true) : BiR X G (.builtin "any") .any := ⟨_, cr_any hc, fun xs ds H as h Q E rl rh o => by
  have o : OutE (dAny ds h) G H as Q E := o
  unfold dAny at o
  split at o
  · split at o
    · rename_i xs e1
      split at o
      · rename_i bs e2
        obtain ⟨v, rfl, rv⟩ := rl.one
        obtain ⟨q, rfl, eq⟩ := rv.ref_inv
        obtain ⟨vs, hq, lq⟩ := rh.lst eq e1
        have := bols_flat lq e2
        subst this
        exact ⟨q, bs, rfl, SqL.of hq, o _ _ _ (Ext.refl _ _) (.bl _) rh⟩
      · exact o.elim
    · exact o.elim
  · exact o.elim⟩
/-- a built-in's name -/
theorem bi_tup (hK : X.K = G.K) : BiR X G (.type "tuple") .tup := ⟨_, call_tuple_of, fun xs ds H as h Q E rl rh o => by
  rw [hK]
  have o : OutE (dTupF ds h) G H as Q E := o
  unfold dTupF at o
  split at o
  · obtain ⟨v, rfl, rv⟩ := rl.one
    obtain ⟨q, vs, rfl, hq, lq⟩ := rv.tup_inv
    exact ⟨q, vs, rfl, .inr ⟨hq, o _ _ _ (Ext.refl _ _) (.tup hq lq) rh⟩⟩
  · split at o
    · rename_i zs e1
      obtain ⟨v, rfl, rv⟩ := rl.one
      obtain ⟨q, rfl, eq⟩ := rv.ref_inv
      obtain ⟨vs, hq, lq⟩ := rh.lst eq e1
      refine ⟨q, vs, rfl, .inl ⟨SqL.of hq, fun l nl => ?_⟩⟩
      obtain ⟨x1, r1, r2⟩ := rh.tupNew nl lq
      exact o _ _ _ x1 r1 r2
    · exact o.elim
  · exact o.elim⟩
theorem bi_sum (hK : X.K = G.K) (hc : X.calm = true) : BiR X G (.builtin "sum") .sum := ⟨_, cr_sum hc, fun xs ds H as h Q E rl rh o => by
  rw [hK]
  have o : OutE (dSum ds h) G H as Q E := o
  unfold dSum at o
  split at o
  · split at o
    · rename_i zs e1
      split at o
      · rename_i ns e2
        obtain ⟨v, rfl, rv⟩ := rl.one
        obtain ⟨q, rfl, eq⟩ := rv.ref_inv
        obtain ⟨vs, hq, lq⟩ := rh.lst eq e1
        have := ints_flat lq e2
        subst this
        exact ⟨q, ns, rfl, SqL.of hq, o _ _ _ (Ext.refl _ _) (.int _) rh⟩
      · exact o.elim
    · exact o.elim
  · exact o.elim⟩
theorem bi_abs : BiR X G (.builtin "abs") .abs := ⟨_, call_abs, fun xs ds H as h Q E rl rh o => by
  have o : OutE (dAbs ds h) G H as Q E := o
  unfold dAbs at o
  split at o
  · obtain ⟨v, rfl, rv⟩ := rl.one
    cases rv
    exact ⟨_, rfl, o _ _ _ (Ext.refl _ _) (.int _) rh⟩
  · exact o.elim⟩
theorem RH.dicNew {H : Hp} {as : List Addr} {h : DH} (rh : RH G H as h) {p : Addr} {ks : List (Key × V)} {kvs : List (D × D)} (n : H p = none) (l : RK G.K H as ks kvs) :
    Ext H as (upd H p (.dK ks)) (as ++ [p]) ∧ RV G.K (upd H p (.dK ks)) (as ++ [p]) (.ref p) (.ref h.length) ∧ RH G (upd H p (.dK ks)) (as ++ [p]) (h ++ [.dic kvs]) := by
  have e : (as ++ [p])[h.length]? = some p := by rw [← rh.len]; simp
  obtain ⟨x0, _⟩ := rh.laid (u := .dK ks) n
  have x3 : Ex0 H as (upd H p (.dK ks)) (as ++ [p]) := ⟨fun i a e => by
    rw [List.getElem?_append_left (List.getElem?_eq_some_iff.mp e).1]; exact e, x0.tup, x0.frz⟩
  obtain ⟨x, r⟩ := rh.push (u := .dK ks) (o := .dic kvs) n ⟨ks, upd_same, RK.mono x3 l⟩
  exact ⟨x, .ref e, r⟩
theorem RK.puts {H : Hp} {as : List Addr} : ∀ {more : List (Key × V)} {md : List (D × D)} {ks : List (Key × V)} {kvs : List (D × D)}, RK G.K H as more md → RK G.K H as ks kvs → RK G.K H as (mergeK ks more) (dPuts kvs md)
  | _, _, _, _, .nil, r => r
  | _, _, ks, kvs, .cons (a := p) (b := q) h t, r => by
    have z := RK.put r p.1 h.2
    rw [← h.1] at z
    exact RK.puts (ks := putK ks p.1 p.2) (kvs := dPut kvs q.1 q.2) t z
theorem prs_use {H : Hp} {as : List Addr} : ∀ {vs : List V} {ds : List D} {kvs : List (D × D)}, RL G.K H as vs ds → prsOf ds = some kvs → ∃ (ps : List Addr) (ks : List (Key × V)), vs = ps.map V.ref ∧ Paired (fun p kv => SqT G.K H p [kV kv.1, kv.2]) ps ks ∧ RK G.K H as ks kvs
  | _, [], _, .nil, e => by cases e; exact ⟨[], [], rfl, .nil, .nil⟩
  | _, d :: ds, kvs, .cons r l, e => by
    unfold prsOf at e
    split at e
    · rename_i hh; cases hh
    · rename_i k v rr hh
      cases hh
      simp only [Option.map_eq_some_iff] at e
      obtain ⟨l', e, rfl⟩ := e
      obtain ⟨ps, ks, rfl, pp, rk⟩ := prs_use l e
      obtain ⟨p, ws, rfl, hp, lp⟩ := r.tup_inv
      obtain ⟨w1, w2, rfl, r1, r2⟩ := lp.two
      cases r1
      exact ⟨p :: ps, (.inl k, w2) :: ks, rfl, .cons hp pp, .cons ⟨rfl, r2⟩ rk⟩
    · rename_i k v rr hh
      cases hh
      simp only [Option.map_eq_some_iff] at e
      obtain ⟨l', e, rfl⟩ := e
      obtain ⟨ps, ks, rfl, pp, rk⟩ := prs_use l e
      obtain ⟨p, ws, rfl, hp, lp⟩ := r.tup_inv
      obtain ⟨w1, w2, rfl, r1, r2⟩ := lp.two
      cases r1
      exact ⟨p :: ps, (.inr ⟨k.toArray⟩, w2) :: ks, rfl, .cons hp pp, .cons ⟨(kD_str k).symm, r2⟩ rk⟩
    · cases e
theorem call_dicC : CallR X (.type "dict") (fun xs H Q => ∃ a kvs, xs = [V.ref a] ∧ H a = some (.dK kvs) ∧ ∀ p, H p = none → Q (.ref p) (upd H p (.dK kvs))) := by
  intro pins s σ H xs us Q I rs q
  obtain ⟨a, kvs, rfl, e, q⟩ := q
  cases rs with
  | cons r rr =>
    cases rr
    cases r
    exact d_copyOf I (.inl e) fun p s' n I' => ⟨.ref p, _, I', rfl, q p n⟩
theorem bi_dic (hK : X.K = G.K) (hc : X.calm = true) : BiR X G (.type "dict") .dic := ⟨_, (call_dictP hc).or call_dicC, fun xs ds H as h Q E rl rh o => by
  rw [hK]
  have o : OutE (dDicF ds h) G H as Q E := o
  unfold dDicF at o
  split at o
  · split at o
    · rename_i kvs e1
      obtain ⟨v, rfl, rv⟩ := rl.one
      obtain ⟨q, rfl, eq⟩ := rv.ref_inv
      obtain ⟨ks, e, rk⟩ := rh.ob _ _ _ eq e1
      refine .inr ⟨q, ks, rfl, e, fun p n => ?_⟩
      obtain ⟨x1, r1, r2⟩ := rh.dicNew n rk
      exact o _ _ _ x1 r1 r2
    · rename_i zs e1
      split at o
      · rename_i kvs e2
        obtain ⟨v, rfl, rv⟩ := rl.one
        obtain ⟨q, rfl, eq⟩ := rv.ref_inv
        obtain ⟨vs, hq, lq⟩ := rh.lst eq e1
        obtain ⟨ps, ks, rfl, pp, rk⟩ := prs_use lq e2
        refine .inl ⟨q, ps, ks, rfl, SqL.of hq, pp, fun p n => ?_⟩
        obtain ⟨x1, r1, r2⟩ := rh.dicNew n (RK.puts rk .nil)
        exact o _ _ _ x1 r1 r2
      · exact o.elim
    · exact o.elim
  · exact o.elim⟩
def biNm : BI → Str
  | .len => "len"
  | .ord => "ord"
  | .int => "int"
  | .str => "str"
  | .min => "min"
  | .max => "max"
  | .all => "all"
  | .any => "any"
  | .tup => "tuple"
  | .sum => "sum"
  | .abs => "abs"
  | .dic => "dict"
theorem tE_bi {bi : BI} {x : Str} (hK : X.K = G.K) (hc : X.calm = true) (hx : x = biNm bi) (hg : Gl X x) (hm : X.mg x = none) (pl : PA X (e :: es) (tL G W ms)) (h2 : (e :: es).all noStar = true) : PE X (.Call (.Name x p) (e :: es) [] pos) (tE G W (mBi bi ms)) := by
  subst hx
  rw [List.all_cons, Bool.and_eq_true] at h2
  have fB : ∀ {id : String}, BiR X G (.builtin id) bi → bootBuiltins (biNm bi) = some (.builtin id) → biNm bi ≠ "__name__" → (biNm bi == ("__debug__" : Str)) = false → PE X (.Call (.Name (biNm bi) p) (e :: es) [] pos) (tE G W (mBi bi ms)) := fun {id} q hv h3 h4 => by
    obtain ⟨r, h5, h6⟩ := q
    exact tE_cb (pe_callB h5 hg hm hv pl h3 h4 (star1 h2.1) (stars h2.2)) h6
  have fT : ∀ {T : String}, BiR X G (.type T) bi → bootBuiltins (biNm bi) = some (.type T) → biNm bi ≠ "__name__" → (biNm bi == ("__debug__" : Str)) = false → PE X (.Call (.Name (biNm bi) p) (e :: es) [] pos) (tE G W (mBi bi ms)) := fun {T} q hv h3 h4 => by
    obtain ⟨r, h5, h6⟩ := q
    exact tE_cb (pe_callTy h5 hg hm hv pl h3 h4 (star1 h2.1) (stars h2.2)) h6
  cases bi with
  | len => exact fB (bi_len hK) (by decide +kernel) (by decide) (by decide)
  | ord => exact fB bi_ord (by decide +kernel) (by decide) (by decide)
  | int => exact fT bi_int (by decide +kernel) (by decide) (by decide)
  | str => exact fT bi_str (by decide +kernel) (by decide) (by decide)
  | min => exact fB (bi_min hc) (by decide +kernel) (by decide) (by decide)
  | max => exact fB (bi_max hc) (by decide +kernel) (by decide) (by decide)
  | all => exact fB (bi_all hK hc) (by decide +kernel) (by decide) (by decide)
  | any => exact fB (bi_any hK hc) (by decide +kernel) (by decide) (by decide)
  | tup => exact fT (bi_tup hK) (by decide +kernel) (by decide) (by decide)
  | sum => exact fB (bi_sum hK hc) (by decide +kernel) (by decide) (by decide)
  | abs => exact fB bi_abs (by decide +kernel) (by decide) (by decide)
  | dic => exact fT (bi_dic hK hc) (by decide +kernel) (by decide) (by decide)
end
end Mp

/-! Mp9: methods of built-ins, isinstance. -/
namespace Mp
open PySem L2 LamX PyProof.Rows
section
variable {X : Cx} {G : Wd} {W : WX} {a b c e o : Expr} {es : List Expr} {ma mb mc mo : M} {ms : List M} {pos p apos : Pos} {H : Hp} {as : List Addr}
def bmNm : BM → Str
  | .join => "join"
  | .split => "split"
  | .find => "find"
  | .append => "append"
def bmTy : BM → String
  | .join => "str"
  | .split => "str"
  | .find => "str"
  | .append => "list"
/-- a method's rule by the plain function -/
def BmR (X : Cx) (G : Wd) (id : String) (b : BM) : Prop := ∃ r, MtR X id r ∧ ∀ (x : V) (xs : List V) (d : D) (ds : List D) (H : Hp) (as : List Addr) (h : DH) (Q : VK) (E : XK), RV G.K H as x d → RL G.K H as xs ds → RH G H as h → OutE (dBm b d ds h) G H as Q E → r x xs H Q
theorem strs_len (ys : List Tx) : ((ys.map fun z => (⟨z.toArray⟩ : Str)).map (·.length)).sum = (ys.map fun y => y.length).sum := by
  rw [List.map_map]
  exact congrArg List.sum (List.map_congr_left fun z _ => s_len z)
theorem join_tx (s : Tx) (ys : List Tx) : Txt.join ⟨s.toArray⟩ (ys.map fun z => ⟨z.toArray⟩) = ⟨(TL.joinL s ys).toArray⟩ := by
  apply TL.ext_tl
  rw [TL.join_eq, TL.tl_join]
  rw [List.map_map, (List.map_congr_left fun z _ => rfl : ys.map (TL.tl ∘ fun z => (⟨z.toArray⟩ : Str)) = ys.map id), List.map_id]
theorem bm_join (hK : X.K = G.K) : BmR X G "str.join" .join := ⟨_, mt_join, fun x xs d ds H as h Q E rv rl rh o => by
  have o : OutE (dJoin d ds h) G H as Q E := o
  unfold dJoin at o
  split at o
  · split at o
    · rename_i zs e1
      split at o
      · rename_i ys e2
        split at o
        · rename_i hl
          obtain ⟨v, rfl, rw'⟩ := rl.one
          obtain ⟨q, rfl, eq⟩ := rw'.ref_inv
          obtain ⟨vs, hq, lq⟩ := rh.lst eq e1
          have := strs_flat lq e2
          subst this
          cases rv
          refine ⟨_, q, ys.map (fun z => ⟨z.toArray⟩), rfl, rfl, .inl (SqL.of (by rw [List.map_map]; exact hq)), ?_, ?_⟩
          · rw [strs_len, List.length_map, s_len]
            exact hl
          · rw [join_tx]
            exact o _ _ _ (Ext.refl _ _) (.str _) rh
        · exact o.elim
      · exact o.elim
    · exact o.elim
  · exact o.elim⟩
theorem RL.strs : ∀ (zs : List Str), RL G.K H as (zs.map V.str) (zs.map fun z => .str z.cps.toList)
  | [] => .nil
  | z :: zs => .cons (RV.ofStr z) (RL.strs zs)
theorem bm_split : BmR X G "str.split" .split := ⟨_, mt_split, fun x xs d ds H as h Q E rv rl rh o => by
  have o : OutE (dSplit d ds h) G H as Q E := o
  unfold dSplit at o
  split at o
  · split at o
    · rename_i hl
      obtain ⟨v, rfl, rw'⟩ := rl.one
      cases rw'
      cases rv
      refine ⟨_, _, rfl, rfl, by rw [s_len]; exact beq_eq_false_iff_ne.mpr hl.1, by rw [s_len]; exact hl.2, fun q nq => ?_⟩
      obtain ⟨x1, r1, r2⟩ := rh.lstNew nq (RL.strs _)
      exact o _ _ _ x1 r1 r2
    · exact o.elim
  · exact o.elim⟩
theorem bm_find : BmR X G "str.find" .find := ⟨_, MtR.or mt_find mt_find3, fun x xs d ds H as h Q E rv rl rh o => by
  have o : OutE (dFind d ds h) G H as Q E := o
  unfold dFind at o
  split at o
  · obtain ⟨v, rfl, rw'⟩ := rl.one
    cases rw'
    cases rv
    exact .inl ⟨_, _, rfl, rfl, o _ _ _ (Ext.refl _ _) (.int _) rh⟩
  · obtain ⟨v, w, rfl, rw1, rw2⟩ := rl.two
    cases rw1
    cases rw2
    cases rv
    exact .inr ⟨_, _, _, rfl, rfl, o _ _ _ (Ext.refl _ _) (.int _) rh⟩
  · exact o.elim⟩
theorem bm_append : BmR X G "list.append" .append := ⟨_, mt_append, fun x xs d ds H as h Q E rv rl rh o => by
  have o : OutE (dAppend d ds h) G H as Q E := o
  unfold dAppend at o
  split at o
  · split at o
    · rename_i zs e1
      split at o
      · rename_i hl
        obtain ⟨v, rfl, rw'⟩ := rl.one
        obtain ⟨q, rfl, eq⟩ := rv.ref_inv
        obtain ⟨vs, hq, lq⟩ := rh.lst eq e1
        refine ⟨q, vs, v, rfl, rfl, hq, by rw [lq.length]; exact hl, ?_⟩
        have x0 : Ex0 H as (upd H q (.lst (vs ++ [v]))) as := by
          refine ⟨fun _ _ e => e, fun b ys e => ?_, fun b o u e => ?_⟩
          · rcases e with e | ⟨ob, e⟩
            · exact .inl (by rw [upd_ne (ne_of e hq (by intro z; cases z))]; exact e)
            · exact .inr ⟨ob, by rw [upd_ne (ne_of e hq (by intro z; cases z))]; exact e⟩
          · rw [upd_ne (ne_of e hq (by intro z; cases z))]; exact e
        obtain ⟨x1, r1⟩ := rh.put (u := .lst (vs ++ [v])) (o := .lst (zs ++ [_])) eq ⟨_, upd_same, (lq.mono x0).app (.cons (rw'.mono x0) .nil)⟩
        exact o _ _ _ x1 .non r1
      · exact o.elim
    · exact o.elim
  · exact o.elim⟩
theorem tE_bm {bm : BM} {x : Str} (hK : X.K = G.K) (hx : x = bmNm bm) (po : PE X o (tE G W mo)) (pl : PA X (e :: es) (tL G W ms)) (h1 : plainO o = true) (h2 : (e :: es).all noStar = true) (h3 : (e :: es).length < 30) (h4 : (apos.endLine == pos.line) = true) :
    PE X (.Call (.Attribute o x apos) (e :: es) [] pos) (tE G W (mBm bm mo ms)) := by
  subst hx
  have hf : ((backTo pos (starEach (e :: es) X.env)).all (fun x => !x.1) && (backToKw pos (keywordEach [] X.env)).all (fun x => x.1.isSome) && decide ((e :: es).length + ([] : List Keyword).length + (if ([] : List Keyword).isEmpty then 0 else 1) < 30)) = true := by
    rw [stars' h2]
    show (true && true && decide ((e :: es).length + 0 + 0 < 30)) = true
    simp only [Nat.add_zero, h3, decide_true, Bool.and_self]
  have h2' := h2
  rw [List.all_cons, Bool.and_eq_true] at h2'
  have key : ∀ {id : String}, BmR X G id bm → PlainAttrs (bmTy bm) → Slot (bmTy bm) (bmNm bm) id → typeOf (.builtin id) = pure (.type "method_descriptor") → (∀ (v : V) (d : D) (H : Hp) (as : List Addr) (h : DH), RV G.K H as v d → RH G H as h → okTo bm d h = true → tyV G.K (bmTy bm) v H) →
      PE X (.Call (.Attribute o (bmNm bm) apos) (e :: es) [] pos) (tE G W (mBm bm mo ms)) := fun {id} q pa sl ty tv => by
    obtain ⟨r, q1, q2⟩ := q
    refine PE.imp (pe_bm pa sl ty q1 po pl (attr_base h1) hf h4 (star1 h2'.1) (stars h2'.2)) fun σ H Q ⟨as, h, en, rh, re, ob⟩ => ?_
    refine ⟨as, h, en, rh, re, (OutR.bind ob).imp fun v H1 n => ?_⟩
    obtain ⟨d, h1, as1, x1, rv, rh1, re1, o1⟩ := At.nxt re n
    split at o1
    · rename_i hk
      rw [hK]
      refine ⟨tv v d H1 as1 h1 rv rh1 hk, as1, h1, en, rh1, re1, (OutR.bind (rel := RL G.K) o1).imp fun xs H2 n => ?_⟩
      obtain ⟨ds, h2, as2, x2, rl, rh2, o2⟩ := n
      exact q2 v xs d ds H2 as2 h2 Q _ (rv.mono x2.toEx0) rl rh2 o2
    · exact o1.elim
  have ts : ∀ (v : V) (d : D) (H : Hp) (as : List Addr) (h : DH), RV G.K H as v d → (∃ z, d = .str z) → tyV G.K "str" v H := fun v d H as h rv ⟨z, e⟩ => by
    subst e
    cases rv
    rfl
  have okS : ∀ {d : D} {h : DH}, bm ≠ .append → okTo bm d h = true → ∃ z, d = .str z := fun {d h} nb hk => by
    cases bm <;> first | exact absurd rfl nb | (cases d <;> first | exact ⟨_, rfl⟩ | cases hk)
  cases bm with
  | join => exact key (bm_join hK) PySem.F.plainAttrs_str PySem.F.slot_str_join PySem.F.type_str_join fun v d H as h rv rh hk => ts v d H as h rv (okS (by intro z; cases z) hk)
  | split => exact key bm_split PySem.F.plainAttrs_str PySem.F.slot_str_split PySem.F.type_str_split fun v d H as h rv rh hk => ts v d H as h rv (okS (by intro z; cases z) hk)
  | find => exact key bm_find PySem.F.plainAttrs_str PySem.F.slot_str_find PySem.F.type_str_find fun v d H as h rv rh hk => ts v d H as h rv (okS (by intro z; cases z) hk)
  | append =>
    refine key bm_append PySem.F.plainAttrs_list PySem.F.slot_list_append PySem.F.type_list_append fun v d H as h rv rh hk => ?_
    cases d with
    | ref i =>
      have hk : (match h[i]? with | some (.lst _) => true | _ => false) = true := hk
      split at hk
      · rename_i xs e1
        obtain ⟨q, rfl, eq⟩ := rv.ref_inv
        obtain ⟨vs, hq, lq⟩ := rh.lst eq e1
        exact .inl ⟨rfl, _, SqL.of hq⟩
      · cases hk
    | _ => cases hk
/-! ### isinstance -/
def itNm : IT → Str
  | .int => "int"
  | .bool => "bool"
  | .str => "str"
  | .list => "list"
  | .tuple => "tuple"
def itTy : IT → String
  | .int => "int"
  | .bool => "bool"
  | .str => "str"
  | .list => "list"
  | .tuple => "tuple"
def tyD (h : DH) : D → Option String
  | .non => some "NoneType"
  | .bl _ => some "bool"
  | .int _ => some "int"
  | .str _ => some "str"
  | .tup _ => some "tuple"
  | .frl _ => some "list"
  | .ref i => match h[i]? with
    | some (.lst _) => some "list"
    | _ => none
theorem tyD_ok {h : DH} {v : V} {d : D} {n : String} (rv : RV G.K H as v d) (rh : RH G H as h) (e : tyD h d = some n) : TyX G.K H v (.type n) := by
  cases d with
  | non => cases rv; cases e; exact .base .non
  | bl b => cases rv; cases e; exact .base (.bl b)
  | int b => cases rv; cases e; exact .base (.int b)
  | str b => cases rv; cases e; exact .base (.str _)
  | tup b =>
    cases e
    obtain ⟨q, vs, rfl, hq, lq⟩ := rv.tup_inv
    rcases hq with (hq | ⟨ob, hq⟩) | ⟨ob, its, n, hq, hc, _⟩
    · exact .base (.tup hq)
    · exact .fTuple hq
    · exact .kTuple hq hc
  | frl b =>
    cases e
    obtain ⟨q, vs, rfl, hq, lq⟩ := rv.frl_inv
    rcases hq with ⟨ob, hq⟩ | ⟨ob, its, n, hq, hc, _⟩
    · exact .base (.frz hq)
    · exact .kList hq hc
  | ref i =>
    simp only [tyD] at e
    split at e
    · rename_i xs e1
      cases e
      obtain ⟨q, rfl, eq⟩ := rv.ref_inv
      obtain ⟨vs, hq, lq⟩ := rh.lst eq e1
      exact .base (.lst hq)
    · cases e
theorem dIsi_kit {h : DH} {d : D} {t : IT} {k : Bool} (e : dIsi d t h = some k) : ∃ n, tyD h d = some n ∧ kitB n (itTy t) = some k := by
  cases d with
  | ref i =>
    simp only [dIsi] at e
    simp only [tyD]
    split at e
    · rename_i xs e1
      refine ⟨"list", by first | rfl | rw [e1], ?_⟩
      cases t <;> cases e <;> decide +kernel
    · cases e
  | non => cases t <;> cases e <;> exact ⟨_, rfl, by decide +kernel⟩
  | bl b => cases t <;> cases e <;> exact ⟨_, rfl, by decide +kernel⟩
  | int b => cases t <;> cases e <;> exact ⟨_, rfl, by decide +kernel⟩
  | str b => cases t <;> cases e <;> exact ⟨_, rfl, by decide +kernel⟩
  | tup b => cases t <;> cases e <;> exact ⟨_, rfl, by decide +kernel⟩
  | frl b => cases t <;> cases e <;> exact ⟨_, rfl, by decide +kernel⟩
theorem tE_isi {t : IT} {x y : Str} {p2 : Pos} (hK : X.K = G.K) (hx : x = "isinstance") (hy : y = itNm t) (hg : Gl X x) (hm : X.mg x = none) (hg2 : Gl X y) (hm2 : X.mg y = none) (pa : PE X a (tE G W ma)) (hs : noStar a = true) :
    PE X (.Call (.Name x p) [a, .Name y p2] [] pos) (tE G W (mIsi ma t)) := by
  subst hx hy
  have pb : PE X (.Name (itNm t) p2) (tC (.ty (itTy t))) := by
    cases t <;> exact pe_bltn hg2 hm2 (by decide +kernel) rfl (by decide) (by decide)
  have pl : PA X [a, .Name (itNm t) p2] (tCons (tE G W ma) (tCons (tC (.ty (itTy t))) tNil)) := pa_cons pa (pa_cons pb pa_nil rfl) (star1 hs)
  refine PE.imp (pe_callB call_isi hg hm (by decide +kernel) pl (by decide) (by decide) (star1 hs) rfl) fun σ H Q ⟨as, h, en, rh, re, ob⟩ => ?_
  refine ⟨as, h, en, rh, re, (OutR.bind ob).imp fun v H1 n => ?_⟩
  obtain ⟨d, h1, as1, x1, rv, rh1, re1, o1⟩ := At.nxt re n
  unfold optB at o1
  split at o1
  · rename_i k e1
    obtain ⟨n, e2, e3⟩ := dIsi_kit e1
    rw [hK]
    exact ⟨v, _, _, _, k, rfl, .ty _, tyD_ok rv rh1 e2, kit_ty e3, o1 _ _ _ (Ext.refl _ _) (.bl _) rh1⟩
  · exact o1.elim
end
end Mp

/-! Mp10: what is walked; statements. -/
namespace Mp
open PySem L2 LamX PyProof.Rows
/-- J walks the things xs -/
def Walks (G : Wd) (J : It) (H0 : Hp) (as0 : List Addr) (xs : List D) (g : Option (Nat × List D)) : Prop :=
  ∀ H as h, Ext H0 as0 H as → RH G H as h → Still g h → (∀ (i : Nat) (d : D), xs[i]? = some d → J.go i H ∧ ∀ v H', J.yld i H v H' → Ext H as H' as ∧ RV G.K H' as v d ∧ RH G H' as h) ∧ ∀ i : Nat, xs.length ≤ i → J.stop i H
def relI (G : Wd) (H : Hp) (as : List Addr) (J : It) (p : List D × Option (Nat × List D)) : Prop := Walks G J H as p.1 p.2
def tI (G : Wd) (W : WX) (m : MI) : TI := fun σ H R => At G σ H fun e h as => OutR (relI G) (m e h) G H as R fun c d H' => W c d σ H'
section
variable {X : Cx} {G : Wd} {W : WX} {a b c e o tg : Expr} {es : List Expr} {ma mb mc mo : M} {ms : List M} {pos p apos : Pos} {H : Hp} {as : List Addr}
theorem PI.imp {t t' : TI} (p : PI X tg e t) (k : ∀ σ H R, t' σ H R → t σ H R) : PI X tg e t' := ⟨fun pins s σ H Q I h => p.run pins s σ H Q I (k _ _ _ h)⟩
theorem PI.or {t t' : TI} (p : PI X tg e t) (q : PI X tg e t') : PI X tg e (fun σ H R => t σ H R ∨ t' σ H R) := ⟨fun pins s σ H Q I h => h.elim (p.run pins s σ H Q I) (q.run pins s σ H Q I)⟩
theorem walks_lst {H0 : Hp} {as0 : List Addr} {i : Nat} {q : Addr} {xs : List D} (eq : as0[i]? = some q) : Walks G (Itl G.K q) H0 as0 xs (some (i, xs)) := fun H as h x rh st => by
  have e1 : h[i]? = some (.lst xs) := st
  obtain ⟨vs, hq, lq⟩ := rh.lst (x.pre _ _ eq) e1
  refine ⟨fun j d hd => ?_, fun j hj => ⟨vs, SqL.of hq, by rw [lq.length]; exact hj⟩⟩
  obtain ⟨v, ev, rv⟩ := lq.get hd
  refine ⟨⟨vs, v, SqL.of hq, ev⟩, fun w H' y => ?_⟩
  obtain ⟨e, y⟩ := y
  subst e
  have := y vs (SqL.of hq)
  rw [ev] at this
  cases this
  exact ⟨Ext.refl _ _, rv, rh⟩
theorem walks_tup {H0 : Hp} {as0 : List Addr} {q : Addr} {vs : List V} {xs : List D} (hq : SqT G.K H0 q vs) (lq : RL G.K H0 as0 vs xs) : Walks G (Itt G.K q) H0 as0 xs none := fun H as h x rh st => by
  have hq' := sqT_mono x.toEx0 hq
  have lq' := lq.mono x.toEx0
  refine ⟨fun j d hd => ?_, fun j hj => ⟨vs, hq', by rw [lq'.length]; exact hj⟩⟩
  obtain ⟨v, ev, rv⟩ := lq'.get hd
  refine ⟨⟨vs, v, hq', ev⟩, fun w H' y => ?_⟩
  obtain ⟨e, y⟩ := y
  subst e
  have := y vs hq'
  rw [ev] at this
  cases this
  exact ⟨Ext.refl _ _, rv, rh⟩
theorem walks_frl {H0 : Hp} {as0 : List Addr} {q : Addr} {vs : List V} {xs : List D} (hq : FrL G.K H0 q vs) (lq : RL G.K H0 as0 vs xs) : Walks G (Itl G.K q) H0 as0 xs none := fun H as h x rh st => by
  have hq' := (frL_mono x.toEx0 hq).sq
  have lq' := lq.mono x.toEx0
  refine ⟨fun j d hd => ?_, fun j hj => ⟨vs, hq', by rw [lq'.length]; exact hj⟩⟩
  obtain ⟨v, ev, rv⟩ := lq'.get hd
  refine ⟨⟨vs, v, hq', ev⟩, fun w H' y => ?_⟩
  obtain ⟨e, y⟩ := y
  subst e
  have := y vs hq'
  rw [ev] at this
  cases this
  exact ⟨Ext.refl _ _, rv, rh⟩
theorem walks_str {H0 : Hp} {as0 : List Addr} (z : Tx) : Walks G (Its ⟨z.toArray⟩) H0 as0 (z.map fun c => .str [c]) none := fun H as h x rh st => by
  refine ⟨fun j d hd => ?_, fun j hj => ?_⟩
  · rw [List.getElem?_map] at hd
    cases q : z[j]? with
    | none => rw [q] at hd; cases hd
    | some c =>
      rw [q] at hd
      cases hd
      have hj : j < z.length := (List.getElem?_eq_some_iff.mp q).1
      refine ⟨by show j < z.toArray.size; simpa using hj, fun w H' y => ?_⟩
      obtain ⟨e, c', ec, ew⟩ := y
      subst e ew
      have ec' : z[j]? = some c' := by simpa using ec
      rw [q] at ec'
      cases ec'
      exact ⟨Ext.refl _ _, RV.str [c], rh⟩
  · show z.toArray.size ≤ j
    simpa using hj
theorem walks_rng {H0 : Hp} {as0 : List Addr} (lo : Int) (n : Nat) : Walks G (Itr lo n) H0 as0 (rangeD lo n) none := fun H as h x rh st => by
  refine ⟨fun j d hd => ?_, fun j hj => ?_⟩
  · unfold rangeD at hd
    rw [List.getElem?_map] at hd
    cases q : (List.range n)[j]? with
    | none => rw [q] at hd; cases hd
    | some c =>
      rw [q] at hd
      cases hd
      obtain ⟨hj, ec⟩ := List.getElem?_eq_some_iff.mp q
      rw [List.getElem_range] at ec
      subst ec
      rw [List.length_range] at hj
      refine ⟨hj, fun w H' y => ?_⟩
      obtain ⟨e, ew⟩ := y
      subst e ew
      exact ⟨Ext.refl _ _, .int _, rh⟩
  · unfold rangeD at hj
    rw [List.length_map, List.length_range] at hj
    exact hj
theorem tI_e (hK : X.K = G.K) (pa : PE X a (tE G W ma)) : PI X tg a (tI G W (miE ma)) := PI.imp (PI.or (pi_list pa) (PI.or (pi_tup pa) (pi_str pa))) fun σ H R q => by
  obtain ⟨as, h, en, rh, re, ob⟩ := q
  unfold miE at ob
  rw [hK]
  cases q : ma en h with
  | err => rw [q] at ob; exact ob.elim
  | exc c w h1 =>
    rw [q] at ob
    exact .inl ⟨as, h, en, rh, re, by dsimp only; rw [q]; exact ob⟩
  | ok d h1 =>
    rw [q, bind_ok] at ob
    cases d with
    | tup xs =>
      refine .inr (.inl ⟨as, h, en, rh, re, ?_⟩)
      dsimp only
      rw [q]
      intro v H1 as1 x1 rv rh1
      obtain ⟨p, vs, rfl, hp, lp⟩ := rv.tup_inv
      exact ⟨p, rfl, ⟨vs, hp⟩, ob _ _ _ x1 (walks_tup hp lp) rh1⟩
    | frl xs =>
      refine .inl ⟨as, h, en, rh, re, ?_⟩
      dsimp only
      rw [q]
      intro v H1 as1 x1 rv rh1
      obtain ⟨p, vs, rfl, hp, lp⟩ := rv.frl_inv
      exact ⟨p, rfl, ⟨vs, hp.sq⟩, ob _ _ _ x1 (walks_frl hp lp) rh1⟩
    | str z =>
      refine .inr (.inr ⟨as, h, en, rh, re, ?_⟩)
      dsimp only
      rw [q]
      intro v H1 as1 x1 rv rh1
      cases rv
      exact ⟨_, rfl, ob _ _ _ x1 (walks_str z) rh1⟩
    | ref i =>
      refine .inl ⟨as, h, en, rh, re, ?_⟩
      dsimp only
      rw [q]
      intro v H1 as1 x1 rv rh1
      unfold itOf at ob
      dsimp only at ob
      split at ob
      · rename_i xs e1
        obtain ⟨p, rfl, ep⟩ := rv.ref_inv
        obtain ⟨vs, hp, lp⟩ := rh1.lst ep e1
        exact ⟨p, rfl, ⟨vs, SqL.of hp⟩, ob _ _ _ x1 (walks_lst ep) rh1⟩
      · exact ob.elim
    | non => exact ob.elim
    | bl _ => exact ob.elim
    | int _ => exact ob.elim
theorem tI_r1 {x : Str} (hx : x = "range") (hg : Gl X x) (hm : X.mg x = none) (pa : PE X a (tE G W ma)) (hs : noStar a = true) : PI X tg (.Call (.Name x p) [a] [] pos) (tI G W (miR1 ma)) := by
  subst hx
  refine PI.imp (pi_range1 hg hm (tL_cons pa tL_nil (star1 hs)) (star1 hs)) fun σ H R q => ?_
  obtain ⟨as, h, en, rh, re, ob⟩ := q
  refine ⟨as, h, en, rh, re, ?_⟩
  show OutR (RL G.K) ((ma en h).bind fun d h1 => (Rs.ok [] h1).bind fun ds h2 => .ok (d :: ds) h2) G H as _ _
  have ob : OutR (relI G) ((ma en h).bind fun x h1 => match x with
    | .int j => if -(2 ^ 62) ≤ j ∧ j < 2 ^ 62 then .ok (rangeD 0 j.toNat, none) h1 else .err
    | _ => .err) G H as R fun c d H' => W c d σ H' := ob
  cases q : ma en h with
  | err => rw [q] at ob; exact ob.elim
  | exc c w h1 => rw [q] at ob; exact ob
  | ok d h1 =>
    rw [q, bind_ok] at ob
    split at ob
    · split at ob
      · rename_i hj
        intro vs H1 as1 x1 rl rh1
        obtain ⟨v, rfl, rv⟩ := rl.one
        cases rv
        exact ⟨_, rfl, hj.1, hj.2, ob _ _ _ x1 (walks_rng 0 _) rh1⟩
      · exact ob.elim
    · exact ob.elim
end
/-! ### statements -/
def OutS (r : Out) (G : Wd) (H : Hp) (as : List Addr) (D : Ends) (W : WX) : Prop := match r with
  | .nx e h => ∀ σ H' as', Ext H as H' as' → REn G.K H' as' σ e → RH G H' as' h → D.nx σ H'
  | .rt d h => ∀ v H' as', Ext H as H' as' → RV G.K H' as' v d → RH G H' as' h → D.rt v H'
  | .bk e h => ∀ σ H' as', Ext H as H' as' → REn G.K H' as' σ e → RH G H' as' h → D.bk σ H'
  | .ct e h => ∀ σ H' as', Ext H as H' as' → REn G.K H' as' σ e → RH G H' as' h → D.ct σ H'
  | .exc c w e h => ∀ dx σ H' as', Ext H as H' as' → ExcR G H' as' w dx → REn G.K H' as' σ e → RH G H' as' h → W (.ref (G.cls c)) dx σ H'
  | .err => False
def tS (G : Wd) (W : WX) (m : Ms) : TS := fun D σ H => At G σ H fun e h as => OutS (m e h) G H as D W
section
variable {G : Wd} {W : WX} {H H' : Hp} {as as' : List Addr} {D : Ends}
theorem OutS.mono {r : Out} (o : OutS r G H as D W) (x : Ext H as H' as') : OutS r G H' as' D W := by
  cases r with
  | nx e h => exact fun σ H2 as2 y => o σ H2 as2 (x.trans y)
  | rt d h => exact fun σ H2 as2 y => o σ H2 as2 (x.trans y)
  | bk e h => exact fun σ H2 as2 y => o σ H2 as2 (x.trans y)
  | ct e h => exact fun σ H2 as2 y => o σ H2 as2 (x.trans y)
  | exc c w e h => exact fun dx σ H2 as2 y => o dx σ H2 as2 (x.trans y)
  | err => exact o
theorem OutR.bindO {α χ : Type} {rel : Hp → List Addr → χ → α → Prop} {r : Rs α} {f : α → DH → Out} {σ : L2.St} {e : En} (re : REn G.K H as σ e) (o : OutS (r.bindO e f) G H as D W) : OutR rel r G H as (Nxt rel G H as fun d h1 H1 as1 => OutS (f d h1) G H1 as1 D W) fun c d H' => W c d σ H' := by
  cases r with
  | ok d h => exact fun v H2 as2 x r2 rh => ⟨d, h, as2, x, r2, rh, OutS.mono (show OutS (f d h) G H as D W from o) x⟩
  | exc c w h => exact fun dx H2 as2 x ex rh => o dx σ H2 as2 x ex (re.mono x.toEx0) rh
  | err => exact o
end
section
variable {X : Cx} {G : Wd} {W : WX} {a b c e o tg : Expr} {st : Stmt} {rest sts : List Stmt} {ma mb mc mo : M} {m m1 m2 : Ms} {pos p apos : Pos}
theorem tS_nil : PSs X [] (tS G W sNext) := PSs.imp pss_nil fun D σ H ⟨as, h, en, rh, re, ob⟩ => ob σ H as (Ext.refl _ _) re rh
theorem tS_cons (h1 : PS X st (tS G W m1)) (h2 : PSs X rest (tS G W m2)) : PSs X (st :: rest) (tS G W (sSeq m1 m2)) := PSs.imp (pss_cons h1 h2) fun D σ H ⟨as, h, en, rh, re, ob⟩ => by
  refine ⟨as, h, en, rh, re, ?_⟩
  dsimp only at ob ⊢
  unfold sSeq at ob
  cases q : m1 en h with
  | nx e1 h1 =>
    rw [q] at ob
    exact fun σ1 H1 as1 x re1 rh1 => ⟨as1, h1, e1, rh1, re1, OutS.mono (show OutS (m2 e1 h1) G H as D W from ob) x⟩
  | rt _ _ => rw [q] at ob; exact ob
  | bk _ _ => rw [q] at ob; exact ob
  | ct _ _ => rw [q] at ob; exact ob
  | exc _ _ _ _ => rw [q] at ob; exact ob
  | err => rw [q] at ob; exact ob
theorem tS_pass : PS X (.Pass pos) (tS G W sNext) := PS.imp ps_pass fun D σ H ⟨as, h, en, rh, re, ob⟩ => ob σ H as (Ext.refl _ _) re rh
theorem tS_cont : PS X (.Continue pos) (tS G W sCont) := PS.imp ps_continue fun D σ H ⟨as, h, en, rh, re, ob⟩ => ob σ H as (Ext.refl _ _) re rh
theorem tS_drop (pa : PE X a (tE G W ma)) (hs : swapsWith a none pos.line X.env = pure false) : PS X (.Expr a pos) (tS G W (sDrop ma)) := PS.imp (ps_expr pa hs) fun D σ H ⟨as, h, en, rh, re, ob⟩ => by
  refine ⟨as, h, en, rh, re, (OutR.bindO re ob).imp fun x H1 n => ?_⟩
  obtain ⟨d, h1, as1, x1, rv, rh1, re1, o1⟩ := At.nxt re n
  exact o1 σ H1 as1 (Ext.refl _ _) re1 rh1
theorem tS_ret (pa : PE X a (tE G W ma)) : PS X (.Return (some a) pos) (tS G W (sRet ma)) := PS.imp (ps_ret pa) fun D σ H ⟨as, h, en, rh, re, ob⟩ => by
  refine ⟨as, h, en, rh, re, (OutR.bindO re ob).imp fun x H1 n => ?_⟩
  obtain ⟨d, h1, as1, x1, rv, rh1, re1, o1⟩ := At.nxt re n
  exact o1 x H1 as1 (Ext.refl _ _) rv rh1
theorem tS_if {th el : List Stmt} (pc : PT X c (tT G W mc)) (ha : PSs X th (tS G W m1)) (hb : PSs X el (tS G W m2)) : PS X (.If c th el pos) (tS G W (sIf mc m1 m2)) := PS.imp (ps_if pc ha hb) fun D σ H ⟨as, h, en, rh, re, ob⟩ => by
  refine ⟨as, h, en, rh, re, (OutR.bindO re ob).imp fun x H1 n => ?_⟩
  obtain ⟨d, h1, as1, x1, rv, rh1, re1, o1⟩ := At.nxt re n
  split at o1
  · cases rv
    exact ⟨true, rfl, iteT ⟨as1, h1, en, rh1, re1, o1⟩⟩
  · cases rv
    exact ⟨false, rfl, iteF ⟨as1, h1, en, rh1, re1, o1⟩⟩
  · exact o1.elim
/-! ### targets -/
/-- σ1 is σ but at the places is -/
def But (is : List Nat) (σ σ1 : L2.St) : Prop := σ1.length = σ.length ∧ ∀ j : Nat, j ∉ is → σ1[j]? = σ[j]?
def tG (G : Wd) (st : D → En → Option En) (is : List Nat) : TG := fun v σ H Q => ∃ as h e d, RH G H as h ∧ REn G.K H as σ e ∧ RV G.K H as v d ∧ ∃ e1, st d e = some e1 ∧ ∀ σ1, REn G.K H as σ1 e1 → But is σ σ1 → Q σ1 H
theorem PG.imp {t t' : TG} (p : PG X tg t) (k : ∀ v σ H Q, t' v σ H Q → t v σ H Q) : PG X tg t' := ⟨fun pins s σ H v u Q I r h => p.run pins s σ H v u Q I r (k _ _ _ _ h)⟩
theorem But.set (σ : L2.St) (i : Nat) (v : Option V) : But [i] σ (σ.set i v) := ⟨by simp, fun j hj => List.getElem?_set_ne (fun z => hj (by simp [z]))⟩
theorem tG_name {i : Nat} {x : Str} (q : PG X (.Name x pos) (gName i)) : PG X (.Name x pos) (tG G (stName i) [i]) := PG.imp q fun v σ H Q ⟨as, h, en, d, rh, re, rv, e1, h1, k⟩ => by
  cases h1
  exact k _ (re.set rv i) (But.set _ _ _)
def tGs (G : Wd) (is : List Nat) : TGs := fun vs σ H Q => ∃ as h e ds, RH G H as h ∧ REn G.K H as σ e ∧ RL G.K H as vs ds ∧ ∃ e1, stNames is ds e = some e1 ∧ ∀ σ1, REn G.K H as σ1 e1 → But is σ σ1 → Q σ1 H
theorem PGs.imp {ts : List Expr} {t t' : TGs} (p : PGs X ts t) (k : ∀ v σ H Q, t' v σ H Q → t v σ H Q) : PGs X ts t' := ⟨fun pins s σ H v u Q I r h => p.run pins s σ H v u Q I r (k _ _ _ _ h)⟩
theorem tGs_nil : PGs X [] (tGs G []) := PGs.imp pgs_nil fun vs σ H Q ⟨as, h, en, ds, rh, re, rl, e1, h1, k⟩ => by
  cases ds with
  | nil =>
    cases rl
    cases h1
    exact ⟨rfl, k _ re ⟨rfl, fun _ _ => rfl⟩⟩
  | cons _ _ => cases h1
theorem tGs_cons {i : Nat} {x : Str} {is : List Nat} {ts : List Expr} (q : PG X (.Name x pos) (gName i)) (r : PGs X ts (tGs G is)) (hs : (assignEach (.Name x pos :: ts) X.env).map (·.2) = assign (.Name x pos) X.env :: (assignEach ts X.env).map (·.2)) : PGs X (.Name x pos :: ts) (tGs G (i :: is)) :=
  PGs.imp (pgs_cons q r hs) fun vs σ H Q ⟨as, h, en, ds, rh, re, rl, e1, h1, k⟩ => by
  cases ds with
  | nil => cases h1
  | cons d ds =>
    cases rl with
    | cons rv rl =>
      refine ⟨_, _, rfl, as, h, _, ds, rh, re.set rv i, rl, e1, h1, fun σ1 r1 b1 => k σ1 r1 ⟨b1.1.trans (by simp), fun j hj => ?_⟩⟩
      rw [List.mem_cons, not_or] at hj
      rw [b1.2 j hj.2]
      exact List.getElem?_set_ne (Ne.symm hj.1)
theorem tG_tup (hK : X.K = G.K) {ts : List Expr} {k : Nat} {is : List Nat} (hc : X.calm = true) (q : PGs X ts (tGs G is)) (hl : is.length = ts.length) (hn : (assignEach ts X.env).length = ts.length) (hst : (assignEach ts X.env).findIdx? (·.1) = none) : PG X (.Tuple ts k pos) (tG G (stTup is) is) :=
  PG.imp (pg_tup (n := ts.length) hc q hn hst) fun v σ H Q ⟨as, h, en, d, rh, re, rv, e1, h1, k⟩ => by
  rw [hK]
  unfold stTup at h1
  split at h1
  · rename_i xs
    obtain ⟨p, vs, rfl, hp, lp⟩ := rv.tup_inv
    have ln : ∀ (is : List Nat) (xs : List D) (e e1 : En), stNames is xs e = some e1 → xs.length = is.length := by
      intro is
      induction is with
      | nil => intro xs e e1 z; cases xs with
        | nil => rfl
        | cons _ _ => cases z
      | cons i is ih => intro xs e e1 z; cases xs with
        | nil => cases z
        | cons x xs => rw [List.length_cons, List.length_cons, ih xs _ _ z]
    exact ⟨p, vs, rfl, hp, by rw [lp.length, ln _ _ _ _ h1, hl], as, h, en, xs, rh, re, lp, e1, h1, k⟩
  · cases h1
theorem tS_set {s : D → En → Option En} {is : List Nat} (p : PS X st (tAsg (tE G W ma) (tG G s is))) : PS X st (tS G W (sSet s ma)) := PS.imp p fun D σ H ⟨as, h, en, rh, re, ob⟩ => by
  refine ⟨as, h, en, rh, re, (OutR.bindO re ob).imp fun x H1 n => ?_⟩
  obtain ⟨d, h1, as1, x1, rv, rh1, re1, o1⟩ := At.nxt re n
  split at o1
  · rename_i e1 q
    exact ⟨as1, h1, en, d, rh1, re1, rv, e1, q, fun σ1 re2 _ => o1 σ1 H1 as1 (Ext.refl _ _) re2 rh1⟩
  · exact o1.elim
end
end Mp

/-! Mp11: for, while, fields, raise, comprehensions. -/
namespace Mp
open PySem L2 LamX PyProof.Rows
section
variable {X : Cx} {G : Wd} {W : WX} {a b c e o tg iter : Expr} {st : Stmt} {body rest sts : List Stmt} {ma mb mc mo : M} {mi : MI} {m m1 m2 : Ms} {pos p apos : Pos}
theorem tS_for {s : D → En → Option En} {is : List Nat} (hp : PassesOwn (model X.prog X.w) X.A X.env X.xe) (hc : X.calm = true) (pi : PI X tg iter (tI G W mi)) (pg : PG X tg (tG G s is)) (pb : PSs X body (tS G W m)) (hs : ∀ x, foldedSetIterable iter X.env x = pure x) :
    PS X (.For tg iter body [] pos) (tS G W (sFor mi s m)) := PS.imp (ps_for hp hc pi pg pb hs) fun D σ H ⟨as, h, en, rh, re, ob⟩ => by
  refine ⟨as, h, en, rh, re, (OutR.bindO re ob).imp fun J H1 n => ?_⟩
  obtain ⟨q, h1, as1, x1, wk, rh1, o1⟩ := n
  refine ⟨fun i m0 σ2 H2 => m0 = q.1.length - i ∧ i ≤ q.1.length ∧ ∃ as2 h2 e2, Ext H1 as1 H2 as2 ∧ RH G H2 as2 h2 ∧ REn G.K H2 as2 σ2 e2 ∧ OutS (forL q.2 s m (q.1.drop i) e2 h2) G H2 as2 D W, ⟨_, rfl, Nat.zero_le _, as1, h1, en, Ext.refl _ _, rh1, re.mono x1.toEx0, o1⟩, ?_⟩
  rintro i m0 σ2 H2 ⟨rfl, hi, as2, h2, e2, x2, rh2, re2, o2⟩
  by_cases hlt : i < q.1.length
  · have ed : q.1.drop i = q.1[i] :: q.1.drop (i + 1) := List.drop_eq_getElem_cons hlt
    rw [ed] at o2
    unfold forL at o2
    split at o2
    · rename_i hst
      split at o2
      · exact o2.elim
      · rename_i e3 hs3
        obtain ⟨w1, _⟩ := wk H2 as2 h2 x2 rh2 hst
        obtain ⟨g1, y1⟩ := w1 i q.1[i] (by simp [hlt])
        refine .inr ⟨g1, fun σ' H' => q.1.length - (i + 1) = q.1.length - (i + 1) ∧ i + 1 ≤ q.1.length ∧ ∃ as3 h3 e3, Ext H1 as1 H' as3 ∧ RH G H' as3 h3 ∧ REn G.K H' as3 σ' e3 ∧ OutS (forL q.2 s m (q.1.drop (i + 1)) e3 h3) G H' as3 D W,
          fun σ' H' z => ⟨_, by omega, z⟩, fun v H3 yl => ?_⟩
        obtain ⟨x3, rv, rh3⟩ := y1 v H3 yl
        refine ⟨as2, h2, e2, _, rh3, re2.mono x3.toEx0, rv, e3, hs3, fun σ3 re3 _ => ⟨as2, h2, e3, rh3, re3, ?_⟩⟩
        have o3 := OutS.mono o2 x3
        dsimp only
        cases qb : m e3 h2 with
        | nx e4 h4 =>
          rw [qb] at o3
          exact fun σ4 H4 as4 x4 re4 rh4 => ⟨rfl, hlt, as4, h4, e4, (x2.trans x3).trans x4, rh4, re4, OutS.mono o3 x4⟩
        | ct e4 h4 =>
          rw [qb] at o3
          exact fun σ4 H4 as4 x4 re4 rh4 => ⟨rfl, hlt, as4, h4, e4, (x2.trans x3).trans x4, rh4, re4, OutS.mono o3 x4⟩
        | bk e4 h4 => rw [qb] at o3; exact o3
        | rt d h4 => rw [qb] at o3; exact o3
        | exc c w e4 h4 => rw [qb] at o3; exact o3
        | err => rw [qb] at o3; exact o3.elim
    · exact o2.elim
  · have ei : i = q.1.length := by omega
    subst ei
    rw [List.drop_length] at o2
    unfold forL at o2
    split at o2
    · rename_i hst
      obtain ⟨_, w2⟩ := wk H2 as2 h2 x2 rh2 hst
      exact .inl ⟨w2 _ (Nat.le_refl _), o2 σ2 H2 as2 (Ext.refl _ _) re2 rh2⟩
    · exact o2.elim
theorem tS_whl (hp : PassesOwn (model X.prog X.w) X.A X.env X.xe) (pc : PT X c (tT G W mc)) (pb : PSs X body (tS G W m)) : PS X (.While c body [] pos) (tS G W (sWhl mc m)) := PS.imp (ps_while hp pc pb) fun D σ H ⟨as, h, en, rh, re, ob⟩ => by
  have ne : sWhl mc m en h ≠ .err := fun z => by dsimp only at ob; rw [z] at ob; exact ob
  obtain ⟨n, _, en1⟩ := sWhl_some ne
  dsimp only at ob
  rw [en1] at ob
  refine ⟨fun m0 σ2 H2 => ∃ as2 h2 e2, RH G H2 as2 h2 ∧ REn G.K H2 as2 σ2 e2 ∧ OutS (whlN mc m m0 e2 h2) G H2 as2 D W, ⟨n, as, h, en, rh, re, ob⟩, ?_⟩
  rintro m0 σ2 H2 ⟨as2, h2, e2, rh2, re2, o2⟩
  cases m0 with
  | zero => exact o2.elim
  | succ k =>
    refine ⟨as2, h2, e2, rh2, re2, ?_⟩
    unfold whlN at o2
    dsimp only
    cases qc : mc e2 h2 with
    | err => rw [qc] at o2; exact o2.elim
    | exc c w h3 =>
      rw [qc] at o2
      exact fun dx H3 as3 x3 ex rh3 => o2 dx σ2 H3 as3 x3 ex (re2.mono x3.toEx0) rh3
    | ok d h3 =>
      rw [qc] at o2
      intro v H3 as3 x3 rv rh3
      have re3 := re2.mono x3.toEx0
      cases d with
      | bl bb =>
        cases rv
        cases bb with
        | false => exact ⟨false, rfl, iteF (OutS.mono (show OutS (.nx e2 h3) G H2 as2 D W from o2) x3 σ2 H3 as3 (Ext.refl _ _) re3 rh3)⟩
        | true =>
          refine ⟨true, rfl, iteT ⟨fun σ' H' => ∃ as4 h4 e4, RH G H' as4 h4 ∧ REn G.K H' as4 σ' e4 ∧ OutS (whlN mc m k e4 h4) G H' as4 D W, fun σ' H' z => ⟨k, Nat.lt_succ_self k, z⟩, as3, h3, e2, rh3, re3, ?_⟩⟩
          have o3 := OutS.mono o2 x3
          dsimp only at o3 ⊢
          cases qb : m e2 h3 with
          | nx e4 h4 =>
            rw [qb] at o3
            exact fun σ4 H4 as4 x4 re4 rh4 => ⟨as4, h4, e4, rh4, re4, OutS.mono o3 x4⟩
          | ct e4 h4 =>
            rw [qb] at o3
            exact fun σ4 H4 as4 x4 re4 rh4 => ⟨as4, h4, e4, rh4, re4, OutS.mono o3 x4⟩
          | bk e4 h4 => rw [qb] at o3; exact o3
          | rt d h4 => rw [qb] at o3; exact o3
          | exc c w e4 h4 => rw [qb] at o3; exact o3
          | err => rw [qb] at o3; exact o3.elim
      | _ => exact o2.elim
theorem put_RF {H : Hp} {as : List Addr} (hi : ∀ f g, G.fnm f = G.fnm g → f = g) {f : Nat} {d : D} {v : V} (rv : RV G.K H as v d) : ∀ {fvs : List (Str × V)} {fs : List (Nat × D)}, RF G H as fvs fs → RF G H as (putF (G.fnm f) v fvs) (putN f d fs)
  | [], [], _ => ⟨rfl, .cons rv .nil⟩
  | [], _ :: _, r => by have := r.1; simp at this
  | _ :: _, [], r => by have := r.1; simp at this
  | (y, w) :: fvs, (g, d') :: fs, r => by
    obtain ⟨r1, r2⟩ := r
    simp only [List.map_cons, List.cons.injEq] at r1
    cases r2 with
    | cons rw' rl =>
      by_cases q : g = f
      · subst q
        have e1 : y = G.fnm g := r1.1
        subst e1
        unfold putF putN
        rw [if_pos rfl, if_pos rfl]
        exact ⟨by simp [r1.2], .cons rv rl⟩
      · have e1 : ¬ y = G.fnm f := fun z => q (hi _ _ (r1.1.symm.trans z))
        unfold putF putN
        rw [if_neg e1, if_neg q]
        obtain ⟨z1, z2⟩ := put_RF hi rv (fvs := fvs) (fs := fs) ⟨r1.2, rl⟩
        exact ⟨by simp [r1.1, z1], .cons rw' z2⟩
theorem putN_mem {f : Nat} {d : D} {q : Nat × D} : ∀ {fs : List (Nat × D)}, q ∈ putN f d fs → q.1 = f ∨ ∃ q', q' ∈ fs ∧ q'.1 = q.1
  | [], h => by
    simp only [putN, List.mem_singleton] at h
    subst h
    exact .inl rfl
  | (g, d') :: fs, h => by
    unfold putN at h
    split at h
    · rcases List.mem_cons.mp h with h | h
      · subst h; exact .inl rfl
      · exact .inr ⟨q, List.mem_cons_of_mem _ h, rfl⟩
    · rcases List.mem_cons.mp h with h | h
      · exact .inr ⟨_, List.mem_cons_self, by rw [h]⟩
      · rcases putN_mem h with z | ⟨q', z1, z2⟩
        · exact .inl z
        · exact .inr ⟨q', List.mem_cons_of_mem _ z1, z2⟩
theorem ex0_put {H : Hp} {as : List Addr} {q : Addr} {u w : HO} (hq : H q = some w) (k : ours w = true) : Ex0 H as (upd H q u) as := by
  have ne : ∀ b z, H b = some z → ours z = false → b ≠ q := fun b z eb kz e => by
    subst e; rw [hq] at eb; cases eb; rw [k] at kz; cases kz
  refine ⟨fun _ _ e => e, fun b ys e => ?_, fun b o u e => ?_⟩
  · rcases e with e | ⟨ob, e⟩
    · exact .inl (by rw [upd_ne (ne b _ e rfl)]; exact e)
    · exact .inr ⟨ob, by rw [upd_ne (ne b _ e rfl)]; exact e⟩
  · rw [upd_ne (ne b _ e rfl)]; exact e
theorem tS_fld (hK : X.K = G.K) (hi : ∀ f g, G.fnm f = G.fnm g → f = g) {fo : List (Nat × Nat)} (hfo : ∀ q ∈ fo, NoAttr G.K (G.cls q.1) (G.fnm q.2)) {f : Nat} {pos' : Pos} (po : PE X o (tE G W mo)) (pa : PE X a (tE G W ma)) (hs : swapsWith a (some (.Attribute o (G.fnm f) pos')) pos.line X.env = pure false) :
    PS X (.Assign [.Attribute o (G.fnm f) pos'] a pos) (tS G W (sFld fo mo f ma)) := PS.imp (ps_fld po pa hs) fun D σ H ⟨as, h, en, rh, re, ob⟩ => by
  refine ⟨as, h, en, rh, re, (OutR.bindO re ob).imp fun y H1 n => ?_⟩
  obtain ⟨d, h1, as1, x1, rv, rh1, re1, o1⟩ := At.nxt re n
  refine ⟨as1, h1, en, rh1, re1, (OutR.bindO re1 o1).imp fun x H2 n => ?_⟩
  obtain ⟨dx, h2, as2, x2, rx, rh2, re2, o2⟩ := At.nxt re1 n
  split at o2
  · rename_i i
    split at o2
    · rename_i c fs e1
      split at o2
      · rename_i hl
        obtain ⟨q, rfl, eq⟩ := rx.ref_inv
        obtain ⟨dx, fvs, hq, rf, cl, na⟩ := rh2.ins eq e1
        rw [hK]
        have nf := hfo _ hl.2
        have len : fvs.length = fs.length := by have := congrArg List.length rf.1; simpa using this
        refine ⟨q, _, dx, fvs, rfl, hq, cl, nf, by rw [len]; exact hl.1, ?_⟩
        have x0 := ex0_put (as := as2) (u := .ins (G.cls c) dx (putF (G.fnm f) y fvs)) hq rfl
        obtain ⟨x3, rh3⟩ := rh2.put (u := .ins (G.cls c) dx (putF (G.fnm f) y fvs)) (o := .ins c (putN f d fs)) eq ⟨dx, _, upd_same, put_RF hi ((rv.mono x2.toEx0).mono x0) (rf.mono x0), cl, fun z hz => by
          rcases putN_mem hz with e | ⟨z', h1, h2⟩
          · rw [e]; exact nf
          · rw [← h2]; exact na z' h1⟩
        exact o2 σ _ as2 x3 (re2.mono x3.toEx0) rh3
      · exact o2.elim
    · exact o2.elim
  · exact o2.elim
theorem tS_raise {x msg : Str} {j cn : Nat} {p p2 ps2 : Pos} (hc : X.calm = true) (tk : L2N.Takes X W) (q : PySem.W.excIn X.K (G.cls cn) He.veBase "ValueError.__new__" = true) (gC : X.mg x = some (.ref (G.cls cn))) (kC : PySem.W.keepIn X.K (.ref (G.cls cn)) = true) (r : Raises X (.ref (G.cls cn))) (hg : Gl X x) (hdb : (x == ("__debug__" : Str)) = false) :
    PS X (.Raise (some (.Call (.Name x p) [.Constant (.str msg) j p2] [] ps2)) none pos) (tS G W (sRaise cn)) :=
  PS.imp (L2N.ps_raise hc tk (L2N.pmk_own PySem.F.excBase_ValueError q gC kC r hg hdb)) fun D σ H ⟨as, h, en, rh, re, ob⟩ => ob none σ H as (Ext.refl _ _) rfl re rh
end
end Mp

/-! Mp12: list comprehensions. -/
namespace Mp
open PySem L2 LamX PyProof.Rows
def W0 : WX := fun _ _ _ _ => False
theorem wipe_get (σ : L2.St) : ∀ (vs : List Nat) (j : Nat), (wipe σ vs)[j]? = if j ∈ vs then (if j < σ.length then some none else none) else σ[j]?
  | [], j => by simp [wipe]
  | v :: vs, j => by
    unfold wipe
    by_cases e : v = j
    · subst e
      by_cases hl : v < σ.length
      · rw [List.getElem?_set_self (by rw [wipe_length]; exact hl)]
        simp [hl]
      · rw [List.getElem?_eq_none (by rw [List.length_set, wipe_length]; omega)]
        simp [hl]
    · rw [List.getElem?_set_ne e, wipe_get σ vs j]
      have : (j ∈ v :: vs) = (j ∈ vs) := by
        simp only [List.mem_cons, eq_iff_iff]
        exact ⟨fun h => h.elim (fun z => absurd z.symm e) id, .inr⟩
      simp only [this]
theorem wipe_but {σ σ1 : L2.St} {vs is : List Nat} (b : But is (wipe σ vs) σ1) (hs : ∀ i ∈ is, i ∈ vs) : wipe σ1 vs = wipe σ vs := by
  apply List.ext_getElem?
  intro j
  rw [wipe_get, wipe_get]
  by_cases hj : j ∈ vs
  · rw [if_pos hj, if_pos hj, b.1, wipe_length]
  · rw [if_neg hj, if_neg hj, b.2 j (fun z => hj (hs j z)), wipe_get, if_neg hj]
theorem wipe_REn {K : PySem.W.Frag} {H : Hp} {as : List Addr} {σ : L2.St} {e : En} (re : REn K H as σ e) : ∀ vs : List Nat, REn K H as (wipe σ vs) (wipeD e vs)
  | [] => re
  | v :: vs => (wipe_REn re vs).setN v
/-- a list that is none of ours is changed -/
theorem RH.aside {G : Wd} {H : Hp} {as : List Addr} {h : DH} (rh : RH G H as h) {q : Addr} {vs : List V} {u : HO} (hq : H q = some (.lst vs)) (nq : q ∉ as) : RH G (upd H q u) as h := by
  have x0 := ex0_put (as := as) (u := u) hq rfl
  refine ⟨rh.len, rh.nd, fun i a o e1 e2 => ?_, fun p hp => ?_⟩
  · have na : a ≠ q := fun z => nq (by rw [← z]; exact List.mem_of_getElem? e1)
    exact (rh.ob i a o e1 e2).mono x0 (by rw [upd_ne na])
  · obtain ⟨ps, h1, h2, h3⟩ := rh.tab p hp
    refine ⟨ps, by rw [upd_ne (ne_of h1 hq (by intro z; cases z))]; exact h1, h2, fun pos cv hc => ?_⟩
    obtain ⟨c, ec, hc2⟩ := h3 pos cv hc
    exact ⟨c, ec, by rw [upd_ne (ne_of hc2 hq (by unfold CodeO; intro z; cases z))]; exact hc2⟩
theorem Ext.aside {H0 H : Hp} {as0 as : List Addr} (x : Ext H0 as0 H as) {q : Addr} {vs : List V} {u : HO} (n0 : H0 q = none) (hq : H q = some (.lst vs)) : Ext H0 as0 (upd H q u) as := by
  have x0 := ex0_put (as := as) (u := u) hq rfl
  have ne : ∀ b w, H0 b = some w → b ≠ q := fun b w e => ne_of_none e n0
  exact ⟨⟨x.pre, fun a xs e => x0.tup a xs (x.tup a xs e), fun a o w e => x0.frz a o w (x.frz a o w e)⟩, fun a o e n t => by rw [upd_ne (ne a o e)]; exact x.kp a o e n t, x.sub⟩
section
variable {X : Cx} {G : Wd} {W : WX} {elt tg iter : Expr} {ifs : List Expr} {mc me : M} {mi : MI} {s : D → En → Option En} {is vs : List Nat}
theorem comp_key (σ : L2.St) (H : Hp) (Q : VK) (hs : ∀ i ∈ is, i ∈ vs) (q : tE G W (mComp mi vs s mc me) σ H Q) : tLc (tI G W mi) (tG G s is) (tT G W0 mc) (tE G W0 me) vs σ H Q := by
  obtain ⟨as, h, en, rh, re, ob⟩ := q
  refine ⟨as, h, en, rh, re, (OutR.bind (rel := relI G) ob).imp fun J H1 n => ?_⟩
  obtain ⟨q, h1, as1, x1, wk, rh1, o1⟩ := n
  intro Dd nD
  by_cases hlen : q.1.length ≤ sizeLine
  case neg =>
    rw [if_neg hlen] at o1
    exact o1.elim
  rw [if_pos hlen] at o1
  have re1 := re.mono x1.toEx0
  obtain ⟨xD, rhD⟩ := rh1.laid (u := .lst []) nD
  refine ⟨fun i m0 H2 => m0 = q.1.length - i ∧ i ≤ q.1.length ∧ ∃ as2 h2 acc dacc, Ext H1 as1 H2 as2 ∧ RH G H2 as2 h2 ∧ H2 Dd = some (.lst acc) ∧ Dd ∉ as2 ∧ RL G.K H2 as2 acc dacc ∧ acc.length ≤ i ∧
      OutE ((compL q.2 s mc me (wipeD en vs) (q.1.drop i) h2).bind fun ds h3 => .ok (.ref h3.length) (h3 ++ [O.lst (dacc ++ ds)])) G H1 as1 Q fun c d H' => W c d σ H',
    ⟨_, rfl, Nat.zero_le _, as1, h1, [], [], xD, rhD, upd_same, rh1.new nD, .nil, Nat.le_refl _, o1⟩, ?_⟩
  rintro i m0 H2 ⟨rfl, hi, as2, h2, acc, dacc, x2, rh2, hD, nD2, rl2, la, o2⟩
  have re2 : REn G.K H2 as2 σ en := re1.mono x2.toEx0
  by_cases hlt : i < q.1.length
  · have ed : q.1.drop i = q.1[i] :: q.1.drop (i + 1) := List.drop_eq_getElem_cons hlt
    rw [ed] at o2
    unfold compL at o2
    by_cases hst : Still q.2 h2
    case neg =>
      rw [if_neg hst] at o2
      exact o2.elim
    rw [if_pos hst] at o2
    cases hs3 : s q.1[i] (wipeD en vs) with
    | none =>
      rw [hs3] at o2
      exact o2.elim
    | some e3 =>
    rw [hs3] at o2
    dsimp only at o2
    obtain ⟨w1, _⟩ := wk H2 as2 h2 x2 rh2 hst
    obtain ⟨g1, y1⟩ := w1 i q.1[i] (by simp [hlt])
    refine .inr ⟨g1, fun H' => i + 1 ≤ q.1.length ∧ ∃ as3 h3 acc3 dacc3, Ext H1 as1 H' as3 ∧ RH G H' as3 h3 ∧ H' Dd = some (.lst acc3) ∧ Dd ∉ as3 ∧ RL G.K H' as3 acc3 dacc3 ∧ acc3.length ≤ i + 1 ∧
        OutE ((compL q.2 s mc me (wipeD en vs) (q.1.drop (i + 1)) h3).bind fun ds h4 => .ok (.ref h4.length) (h4 ++ [O.lst (dacc3 ++ ds)])) G H1 as1 Q fun c d H' => W c d σ H',
      fun H' z => ⟨_, by omega, rfl, z⟩, fun v H3 yl => ?_⟩
    obtain ⟨x3, rv, rh3⟩ := y1 v H3 yl
    have hD3 : H3 Dd = some (.lst acc) := x3.kp Dd _ hD nD2 (fun _ z => nomatch z)
    refine ⟨as2, h2, wipeD en vs, _, rh3, wipe_REn (re2.mono x3.toEx0) vs, rv, e3, hs3, fun σ3 re3 b3 => ⟨wipe_but b3 hs, as2, h2, e3, rh3, re3, ?_⟩⟩
    dsimp only
    have x13 := x2.trans x3
    cases qc : mc e3 h2 with
    | err => rw [qc] at o2; exact o2.elim
    | exc c w h3 => rw [qc] at o2; exact o2.elim
    | ok d h3 =>
      rw [qc] at o2
      intro v4 H4 as4 x4 rv4 rh4
      have nD4 : Dd ∉ as4 := fun z => (x4.sub Dd z).elim nD2 fun z => by obtain ⟨_, w⟩ := z _ hD3; cases w
      have hD4 : H4 Dd = some (.lst acc) := x4.kp Dd _ hD3 nD2 (fun _ z => nomatch z)
      have re4 := re3.mono x4.toEx0
      have rl4 := (rl2.mono x3.toEx0).mono x4.toEx0
      cases d with
      | bl bb =>
        cases rv4
        cases bb with
        | false =>
          refine ⟨false, rfl, iteF ⟨hlt, as4, h3, acc, dacc, x13.trans x4, rh4, hD4, nD4, rl4, Nat.le_succ_of_le la, o2⟩⟩
        | true =>
          refine ⟨true, rfl, iteT ⟨as4, h3, e3, rh4, re4, ?_⟩⟩
          dsimp only at o2 ⊢
          cases qe : me e3 h3 with
          | err => rw [qe] at o2; exact o2.elim
          | exc c w h5 => rw [qe] at o2; exact o2.elim
          | ok d5 h5 =>
            rw [qe] at o2
            intro v5 H5 as5 x5 rv5 rh5
            have nD5 : Dd ∉ as5 := fun z => (x5.sub Dd z).elim nD4 fun z => by obtain ⟨_, w⟩ := z _ hD4; cases w
            have hD5 : H5 Dd = some (.lst acc) := x5.kp Dd _ hD4 nD4 (fun _ z => nomatch z)
            have x05 := ex0_put (as := as5) (u := .lst (acc ++ [v5])) hD5 rfl
            refine ⟨acc, hD5, by omega, hlt, as5, h5, acc ++ [v5], dacc ++ [d5], ((x13.trans x4).trans x5).aside nD hD5, rh5.aside hD5 nD5, upd_same, nD5, ((rl4.mono x5.toEx0).app (.cons rv5 .nil)).mono x05, by simp; omega, ?_⟩
            have eb : (((compL q.2 s mc me (wipeD en vs) (q.1.drop (i + 1)) h5).bind fun ds h3 => Rs.ok (d5 :: ds) h3).bind fun ds h3 => Rs.ok (D.ref h3.length) (h3 ++ [.lst (dacc ++ ds)])) = ((compL q.2 s mc me (wipeD en vs) (q.1.drop (i + 1)) h5).bind fun ds h4 => Rs.ok (D.ref h4.length) (h4 ++ [.lst (dacc ++ [d5] ++ ds)])) := by
              cases compL q.2 s mc me (wipeD en vs) (q.1.drop (i + 1)) h5 with
              | ok ds h6 => simp
              | exc _ _ _ => rfl
              | err => rfl
            rw [← eb]
            exact o2
      | _ => exact o2.elim
  · have ei : i = q.1.length := by omega
    subst ei
    rw [List.drop_length] at o2
    unfold compL at o2
    split at o2
    · rename_i hst
      obtain ⟨_, w2⟩ := wk H2 as2 h2 x2 rh2 hst
      refine .inl ⟨w2 _ (Nat.le_refl _), ?_⟩
      rw [bind_ok, List.append_nil] at o2
      have e1 : (as2 ++ [Dd])[h2.length]? = some Dd := by rw [← rh2.len]; simp
      have pre : ∀ (i : Nat) (a : Addr), as2[i]? = some a → (as2 ++ [Dd])[i]? = some a := fun i a e => by
        rw [List.getElem?_append_left (List.getElem?_eq_some_iff.mp e).1]; exact e
      have x4 : Ex0 H2 as2 H2 (as2 ++ [Dd]) := ⟨pre, fun _ _ e => e, fun _ _ _ e => e⟩
      have x5 : Ext H1 as1 H2 (as2 ++ [Dd]) := ⟨⟨fun i a e => pre i a (x2.pre i a e), x2.tup, x2.frz⟩, x2.kp, fun a m => by
        rcases List.mem_append.mp m with m | m
        · exact x2.sub a m
        · rw [List.mem_singleton] at m; subst m; exact .inr fun o q => by rw [nD] at q; cases q⟩
      refine o2 _ H2 (as2 ++ [Dd]) x5 (.ref e1) ⟨by simp [rh2.len], ?_, fun j b o' z1 z2 => ?_, rh2.tab⟩
      · rw [List.nodup_append]
        exact ⟨rh2.nd, by simp, fun a ha b hb => by
          rw [List.mem_singleton] at hb; subst hb
          exact fun z => nD2 (z ▸ ha)⟩
      · by_cases hj : j < as2.length
        · rw [List.getElem?_append_left hj] at z1
          rw [List.getElem?_append_left (by rw [← rh2.len]; exact hj)] at z2
          exact (rh2.ob j b o' z1 z2).mono x4 rfl
        · have hj' : as2.length ≤ j := Nat.le_of_not_lt hj
          rw [List.getElem?_append_right hj'] at z1
          rw [List.getElem?_append_right (by rw [← rh2.len]; exact hj'), ← rh2.len] at z2
          cases zz : j - as2.length with
          | zero =>
            rw [zz] at z1 z2
            have y1 : Dd = b := by simpa using z1
            have y2 : O.lst dacc = o' := by simpa using z2
            subst y1 y2
            exact ⟨acc, hD, rl2.mono x4⟩
          | succ k =>
            rw [zz] at z1
            simp at z1
    · exact o2.elim
end
end Mp

/-! Hx1: a list's end while an exception is handled. -/
namespace Mp
open PySem L2 LamX PyProof.Rows HotX
section
variable {prog : Program} {w : World} {A : Around} {E : Value → Shared → Prop} {s : Shared}
theorem lstEnd_hot {j lq x1 : Addr} {k : Nat} {xs : Array Value} {Q : Option Value → Shared → Prop} (hot : HotAt A x1 s.heap) (ne : x1 ≠ j)
    (st : s.heap.IsListIter j lq k) (li : s.heap.IsList lq xs) (out : xs[k]? = none)
    (q : ∀ h', Heap.ExtBut j s.heap h' → Q none { s with heap := h' }) : wpAny (model prog w) A (pyNext (.ref j)) Q E s := by
  obtain ⟨hh, o1, v1, g1, d1, c1⟩ := hot
  obtain ⟨oj, hj, hcj, hdj⟩ := id st
  obtain ⟨oq, hq, _, nq, hdq⟩ := li
  unfold pyNext
  refine wpAny_bind (wpAny_attempt (wpAny_callSpecial?_slot (name := Str.ofString "__next__") st.typeIs slot_listiter_next (wpAny_call_entry slot_listiter_next st.typeIs entry_listiter_next ?_ (args_listiter_next _))))
  show wpAny _ _ (field (.ref j) 0 >>= _) _ _ s
  refine wpAny_bind (wpAny_field hj hdj (x := .ref lq) rfl ?_)
  show wpAny _ _ (if (Value.ref lq == Value.none) = true then _ else _) _ _ s
  rw [if_neg (show ¬ ((Value.ref lq == Value.none) = true) from Bool.false_ne_true)]
  show wpAny _ _ (field (.ref j) 1 >>= _) _ _ s
  refine wpAny_bind (wpAny_field hj hdj (x := .int k 0) rfl ?_)
  show wpAny _ _ (seqItems? (.ref lq) >>= _) _ _ s
  refine wpAny_bind (wpAny_seqItems hq hdq ?_)
  simp only [Int.toNat_natCast, out]
  refine wpAny_bind (wpAny_rule (wpAny_bind (wpAny_setField hj hdj (by simp) ?_)))
  show wpAny _ _ (newExc (.type "StopIteration") [] >>= fun z => _) _ _ _
  refine wpAny_bind ?_
  simp only [newExc, newTuple]
  refine wpAny_bind (wpAny_newObj_type ?_ (by size_fits))
  refine wpAny_bind (m := firstArgMember _ _) (wpAny_of_eq (a := Value.none) (by first | rfl | (simp only [firstArgMember]; rfl)) ?_)
  refine wpAny_newObj_type ?_ (by size_fits)
  have gg : (s.heap.update j (Obj.mapFields (·.setIfInBounds 0 .none))).get? x1 = some o1 := by rw [Heap.get?_update_other _ _ (Ne.symm ne)]; exact g1
  refine raiseNew_hot ⟨hh, o1, v1, Heap.get?_push_of_some _ (Heap.get?_push_of_some _ gg), d1, c1⟩ (Nat.ne_of_lt (Heap.lt_size (Heap.get?_push_of_some _ gg))) (Heap.get?_push_size _ rfl) rfl (by first | (simp; done) | (simp; omega) | (simp only [Array.size_append]; simp; omega)) ?_
  refine wpAny_bind (wpAny_isInstance (T := "StopIteration") (b := true) ⟨_, Heap.get?_update_self _ (Heap.get?_push_size _ rfl) rfl, rfl⟩ isSubtype_stop ?_)
  refine wpAny_pure (q _ fun b o hb e => ?_)
  have e' : (s.heap.update j (Obj.mapFields (·.setIfInBounds 0 .none))).get? b = some o := by rw [Heap.get?_update_other _ _ (Ne.symm hb)]; exact e
  rw [Heap.get?_update_other _ _ (Nat.ne_of_gt (Heap.lt_size (Heap.get?_push_of_some _ e')))]
  exact Heap.get?_push_of_some _ (Heap.get?_push_of_some _ e')
end
/-! ### the turns of a list there -/
theorem turn_lstH {P : Program} {w : World} {K : PySem.W.Frag} {tg : Expr} (a it : Addr) : L2H.TurnH P w K tg (Itl K a) [it] it (fun i h => h.IsListIter it a i) where
  mem := List.mem_singleton.mpr rfl
  obj := (turn_list (P := P) (w := w) (K := K) (tg := tg) a it).obj
  keep := (turn_list (P := P) (w := w) (K := K) (tg := tg) a it).keep
  item := by
    intro X eP ew eK hot i pins s σ H E I fr st hg
    subst eP ew eK
    obtain ⟨xs, x, sq, hx⟩ := hg
    obtain ⟨its, rv, pl, _⟩ := I.list sq
    obtain ⟨u, hu, ru⟩ := rv.get hx
    obtain ⟨n0, n1, n2, n3, n4, n5⟩ := fr it (List.mem_singleton.mpr rfl)
    refine wpAny_pyNext_list_item st pl.isList (x := u) (by simpa using hu) fun h2 st2 same => ?_
    have I2 : Inv X pins σ H { s with heap := h2 } := I.turned (t' := s.toks) (fun b o nb e => (same.2 b nb).trans e) n0 n1 n3 n4 n5
    obtain ⟨o2, e2, c2, d2⟩ := id st2
    exact ⟨u, rfl, go_of (s := { s with heap := h2 }) e2 c2 d2 (by decide) ⟨x, H, I2, ru, ⟨rfl, fun ys sy => by rw [I.list_inj sy sq]; exact hx⟩, st2, fun b hb => (fr b hb).1⟩⟩
  done := by
    intro X eP ew eK hot i pins s σ H E I fr st hg
    subst eP ew eK
    obtain ⟨xs, sq, hx⟩ := hg
    obtain ⟨its, rv, pl, _⟩ := I.list sq
    obtain ⟨n0, n1, n2, n3, n4, n5⟩ := fr it (List.mem_singleton.mpr rfl)
    have le := rv.length
    obtain ⟨p, ⟨hh, v1, e1, c1⟩, hp⟩ := hot
    have P1 := I.pin p (List.mem_append_left _ hp)
    exact lstEnd_hot ⟨hh, p.2, v1, P1.1, e1, c1⟩ (n5 p (List.mem_append_left _ hp)) st pl.isList (by simp; omega) fun h2 xb => ⟨rfl, I.turned (t' := s.toks) (fun b o nb e => xb b o nb e) n0 n1 n3 n4 n5⟩
  self := (turn_list (P := P) (w := w) (K := K) (tg := tg) a it).self
end Mp

/-! Hx2: a list comprehension while an exception is handled. -/
namespace Mp
open PySem PySem.Spec L2 LamX PyProof.Rows HotX
abbrev blkH (X : Cx) (s : Shared) (H : Hp) (sc : Scope) (ce : Env) (fp : List Addr) : Cx := (X.blk s H sc ce fp).tr X.pn (fun _ _ => False)
section
variable {X : Cx}
theorem inv_pn {Y : Cx} {pn : List (Addr × Obj)} {σ : L2.St} {H : Hp} {s : Shared} (hy : Y.pn = []) (I : Inv Y [] σ H s) (hp : ∀ p ∈ pn, s.heap.get? p.1 = some p.2 ∧ H p.1 = none ∧ p.1 ≠ Y.env.locals ∧ p.1 ∉ Y.fs ∧ ∀ v, p.2.data ≠ .cell v) : Inv (Y.tr pn (fun _ _ => False)) [] σ H s :=
  ⟨I.ok.toTry _ _, I.os, I.bare, I.base, I.loc, I.cell, I.free, I.freeC, fun p h => hp p (by simpa using h), I.hok, I.len⟩
theorem lcH_run {pins : List (Addr × Obj)} {s : Shared} {σ : L2.St} {H : Hp} {Q : VK} {el tg src : Expr} {conds : List Expr} {bs : Scope} {mine : List (Str × Nat)} {ps1 ps2 : Pos} {wi : TI} {g : TG} {tt : TT} {te : TE} {use : Option (Value → Sem Unit)} {Qf : Value → Shared → Prop}
    (hot : L2H.HotC X) (nd : X.N.Nodup) (I : Inv X pins σ H s) (it0 : L2H.PIH X tg src wi) (bk : BlkOk X.N X.env.scope bs mine)
    (hg : ∀ (s : Shared) (H : Hp) (C : Addr) (cl : List (Str × Addr)) (fp : List Addr), PG (blkH X s H bs (compEnvC bs cl C X.env) fp) tg g)
    (ht : ∀ (s : Shared) (H : Hp) (C : Addr) (cl : List (Str × Addr)) (fp : List Addr), PTs (blkH X s H bs (compEnvC bs cl C X.env) fp) conds tt)
    (he : ∀ (s : Shared) (H : Hp) (C : Addr) (cl : List (Str × Addr)) (fp : List Addr), PE (blkH X s H bs (compEnvC bs cl C X.env) fp) el te)
    (fs : ∀ x, foldedSetIterable src X.env x = pure x) (h : tLc wi g tt te (mine.map (·.2)) σ H Q)
    (fin : ∀ D C s' m H', Inv X pins σ H' s' → Q (.ref D) H' → s'.heap.Ns C m → FpOk X pins H' C → compPost (model X.prog X.w) X.A X.xe use Qf (.ref D) C (.ok .next) s') :
    wpAny (model X.prog X.w) X.A (comprehension (.ListComp el [⟨tg, src, conds, 0⟩] bs ps1) bs X.env ps2 (newList []) false (eval src X.env) use) Qf X.xe s := by
  have cap : ∀ y ∈ bs.names, y.2 = .free → ∃ c, X.env.cells.lookup y.1 = some c := fun y hy e => I.ok.has _ (bk.free y hy e)
  refine wpAny_comprehension_free (use := use) rfl fs (closure_ok cap) bk.kind (fun y hy e => (bk.uniq y hy).trans (congrArg some e)) (thn (it0.run pins s σ H _ I h) fun _ _ hx => thn hx fun _ s2 z => ?_)
  obtain ⟨it, fp, tn, J, H2, rfl, I2, T, t2, f2, q⟩ := z
  refine wpAny_newObj_type (newEnv_comp ?_) (by show 0 ≤ sizeLine; decide)
  obtain ⟨D, eD⟩ : ∃ D, D = s2.heap.objs.size := ⟨_, rfl⟩
  rw [← eD]
  have fD : H2 D = none := I2.hok.fresh (Nat.le_of_eq eD.symm)
  obtain ⟨W, ⟨m0, w0⟩, turn⟩ := q D fD
  obtain ⟨s3, e3⟩ : ∃ s3 : Shared, s3 = { s2 with heap := s2.heap.push { cls := .type "list", data := .seq ([] : List Value).toArray } } := ⟨_, rfl⟩
  have hp3 : s3.heap = s2.heap.push { cls := .type "list", data := .seq ([] : List Value).toArray } := by rw [e3]
  have I3 : Inv X pins σ (upd H2 D (.lst [])) s3 := by
    rw [e3]
    refine I2.laid (t' := s2.toks) (fun _ _ e => Heap.get?_push_of_some _ e) (Nat.le_of_eq eD.symm) ⟨Nat.zero_le _, [], 0, .nil, ?_⟩
    rw [eD]
    exact Heap.get?_push_size _ rfl
  have below : ∀ b ∈ fp, b < s2.heap.objs.size := fun b hb => by
    obtain ⟨o, e, _⟩ := T.obj _ _ t2 b hb
    exact Heap.lt_size e
  have f3 : ∀ b ∈ fp, FpOk X pins (upd H2 D (.lst [])) b ∧ b < s3.heap.objs.size := fun b hb => by
    have lt := below b hb
    refine ⟨⟨?_, (f2 b hb).2⟩, ?_⟩
    · rw [upd_ne (by rw [eD]; exact Nat.ne_of_lt lt)]
      exact (f2 b hb).1
    · rw [hp3, Heap.size_push]
      exact Nat.lt_succ_of_lt lt
  have t3 : tn 0 s3.heap := T.keep _ _ _ t2 fun b _ o e => by rw [hp3]; exact Heap.get?_push_of_some _ e
  have I4' := block_start I3 bk nd f3
  have pg := hg s3 (upd H2 D (.lst [])) s3.heap.objs.size (cellsFrom (s3.heap.objs.size + 1) bs.names (cloFrom X.env.cells bs.names [])) fp
  have pt := ht s3 (upd H2 D (.lst [])) s3.heap.objs.size (cellsFrom (s3.heap.objs.size + 1) bs.names (cloFrom X.env.cells bs.names [])) fp
  have pe := he s3 (upd H2 D (.lst [])) s3.heap.objs.size (cellsFrom (s3.heap.objs.size + 1) bs.names (cloFrom X.env.cells bs.names [])) fp
  have I4 := inv_pn (pn := X.pn) rfl I4' fun p hp => by
    have z := I3.pin p (List.mem_append_left _ hp)
    exact ⟨pushCells_keeps _ _ _ _ (Heap.get?_push_of_some _ z.1), z.2.1, Nat.ne_of_lt (Heap.lt_size z.1), fun hm => (List.mem_cons.mp (I3.stkSub p.1 hm)).elim z.2.2.1 z.2.2.2.1, z.2.2.2.2⟩
  have hotB : L2H.HotC (blkH X s3 (upd H2 D (.lst [])) bs (compEnvC bs (cellsFrom (s3.heap.objs.size + 1) bs.names (cloFrom X.env.cells bs.names [])) s3.heap.objs.size X.env) fp) := hot
  show codeAny _ _ (.compStart (.ListComp el [⟨tg, src, conds, 0⟩] bs ps1) 0 (.ref it) (.ref D) (compEnvC bs (cellsFrom (s2.heap.push _).objs.size.succ bs.names (cloFrom X.env.cells bs.names [])) (s2.heap.push _).objs.size X.env)) _ _
  rw [← hp3]
  obtain ⟨H3, eH3⟩ : ∃ H3, H3 = upd H2 D (.lst []) := ⟨_, rfl⟩
  rw [← eH3] at I3 I4 pg pt pe w0 f3 hotB
  obtain ⟨s4, es4⟩ : ∃ s4 : Shared, s4 = { s3 with heap := pushCells (s3.heap.push { cls := .type "dict", data := .dict #[] }) bs.names } := ⟨_, rfl⟩
  rw [← es4] at I4
  have t4 : tn 0 s4.heap := T.keep _ _ _ t3 fun b _ o e => by rw [es4]; exact pushCells_keeps _ _ _ _ (Heap.get?_push_of_some _ e)
  have same4 : ({ s2 with heap := pushCells (s3.heap.push { cls := .type "dict", data := .dict #[] }) bs.names } : Shared) = s4 := by rw [es4, e3]
  rw [same4]
  generalize hce : compEnvC bs (cellsFrom (s3.heap.objs.size + 1) bs.names (cloFrom X.env.cells bs.names [])) s3.heap.objs.size X.env = ce at I4 pg pt pe hotB
  have cl0 : ce.locals = s3.heap.objs.size := by rw [← hce]; rfl
  have n0 : ∀ b ∈ fp, H3 b = none := fun b hb => (f3 b hb).1.1
  have okF : ∀ {σ' : L2.St} {H' : Hp} {s' : Shared}, Inv (blkH X s3 H3 bs ce fp) [] σ' H' s' → (∀ b ∈ fp, H' b = none) → ∀ b ∈ fp, FpOk (blkH X s3 H3 bs ce fp) [] H' b := fun {σ' H' s'} J hn b hb =>
    ⟨hn b hb, (J.ok.exf b hb).1, J.ok.exfs b hb, .inl hb, fun x c e => (J.ok.exf b hb).2 x c e, fun p hp => (f3 b hb).1.2.2.2.2.2 p (List.mem_append_left _ (by simpa using hp))⟩
  show codeAny _ _ (.compStart (.ListComp el [⟨tg, src, conds, 0⟩] bs ps1) 0 (.ref it) (.ref D) ce) (compPost (model X.prog X.w) X.A X.xe use Qf (.ref D) s3.heap.objs.size) s4
  have loop : codeAny (model X.prog X.w) X.A (.compLoop (.ListComp el [⟨tg, src, conds, 0⟩] bs ps1) 0 (.ref it) (.ref D) ce) (compPost (model X.prog X.w) X.A X.xe use Qf (.ref D) s3.heap.objs.size) s4 := by
    refine compLoop_any (fun n t => ∃ k H', Inv (blkH X s3 H3 bs ce fp) [] (wipe σ (mine.map (·.2))) H' t ∧ tn k t.heap ∧ (∀ b ∈ fp, H' b = none) ∧ W k n H') ?_ m0 ⟨0, H3, I4, t4, n0, w0⟩
    rintro n s5 ⟨k, H5, I5, t5, n5, w5⟩
    rcases turn k n H5 w5 with ⟨stop, qe⟩ | ⟨go, Nx, hNx, step⟩
    · refine thnF (T.done (blkH X s3 H3 bs ce fp) rfl rfl rfl hotB k [] s5 _ H5 (fun _ _ => False) I5 (okF I5 n5) t5 stop) fun r s6 zz => ?_
      obtain ⟨rfl, I6⟩ := zz
      have I7 : Inv X pins σ H5 s6 := I3.call' (ch := fp) I6.os I6.base I6.hok I6.bare fun b hb => let y := (f3 b hb).1.2; ⟨y.2.2.1, y.1, y.2.2.2.1, y.2.2.2.2⟩
      have nC : H5 s3.heap.objs.size = none := by
        have y : H5 ce.locals = none := I6.free
        rw [cl0] at y
        exact y
      obtain ⟨m, ns, _⟩ := I6.loc
      have ns : s6.heap.Ns ce.locals m := ns
      rw [cl0] at ns
      exact fin D s3.heap.objs.size s6 m H5 I7 qe ns (I3.fpOk (Nat.le_refl _) nC)
    · refine thnF (T.item (blkH X s3 H3 bs ce fp) rfl rfl rfl hotB k [] s5 _ H5 (fun _ _ => False) I5 (okF I5 n5) t5 go) fun r s6 zz => ?_
      obtain ⟨u, rfl, h6⟩ := zz
      refine thnF h6 fun _ s7 zz => ?_
      obtain ⟨x, H7, I7, r7, y7, t7, n7⟩ := zz
      have J7 := I7.pinned (okF I7 n7) (T.obj _ _ t7)
      refine thnF (pg.run _ s7 _ H7 x u _ J7 r7 (step x H7 y7)) fun _ s8 zz => ?_
      obtain ⟨σ8, H8, I8, hw8, q8⟩ := zz
      refine thnF (pt.run _ s8 σ8 H8 _ I8 q8) fun b s9 zz => ?_
      obtain ⟨H9, I9, q9⟩ := zz
      have again : ∀ {t : Shared} {H' : Hp}, Inv (blkH X s3 H3 bs ce fp) ([] ++ pinsAt fp s7.heap) σ8 H' t → Nx H' → ∃ m, m < n ∧ ∃ k H', Inv (blkH X s3 H3 bs ce fp) [] (wipe σ (mine.map (·.2))) H' t ∧ tn k t.heap ∧ (∀ b ∈ fp, H' b = none) ∧ W k m H' := fun {t H'} J nx => by
        obtain ⟨m', lt, w'⟩ := hNx H' nx
        have held : ∀ b ∈ fp, ∀ o, s7.heap.get? b = some o → t.heap.get? b = some o ∧ H' b = none := fun b hb o e => by
          have y := J.pin (b, o) (List.mem_append_right _ (List.mem_append_right _ (mem_pinsAt hb e)))
          exact ⟨y.1, y.2.1⟩
        have ll : (wipe σ (mine.map (·.2))).length = σ8.length := by rw [← hw8, wipe_length]
        refine ⟨m', lt, k + 1, H', (J.unpinned (pins := [])).weak ll (fun j v e => ?_), T.keep _ _ _ t7 fun b hb o e => (held b hb o e).1, fun b hb => ?_, w'⟩
        · rw [← hw8] at e
          exact (wipe_some e).1
        · obtain ⟨o, e, _⟩ := T.obj _ _ t7 b hb
          exact (held b hb o e).2
      cases b with
      | false =>
        simp only [Bool.false_eq_true, if_false] at q9 ⊢
        exact again I9 q9
      | true =>
        simp only [if_true] at q9 ⊢
        refine thnF (pe.run _ s9 σ8 H9 _ I9 q9) fun z s10 zz => ?_
        obtain ⟨yv, H10, I10, r10, acc, hD, hz, nx⟩ := zz
        exact app_ok (X := blkH X s3 H3 bs ce fp) I10 hD hz r10 fun s11 I11 => again I11 nx
  exact codeAny_compStart_list loop (T.self X.A 0 _ _ _ t4 loop)
theorem pe_lcH {el tg src : Expr} {conds : List Expr} {bs : Scope} {mine : List (Str × Nat)} {pos : Pos} {wi : TI} {g : TG} {tt : TT} {te : TE} (hot : L2H.HotC X) (nd : X.N.Nodup) (it0 : L2H.PIH X tg src wi) (bk : BlkOk X.N X.env.scope bs mine)
    (hg : ∀ (s : Shared) (H : Hp) (C : Addr) (cl : List (Str × Addr)) (fp : List Addr), PG (blkH X s H bs (compEnvC bs cl C X.env) fp) tg g)
    (ht : ∀ (s : Shared) (H : Hp) (C : Addr) (cl : List (Str × Addr)) (fp : List Addr), PTs (blkH X s H bs (compEnvC bs cl C X.env) fp) conds tt)
    (he : ∀ (s : Shared) (H : Hp) (C : Addr) (cl : List (Str × Addr)) (fp : List Addr), PE (blkH X s H bs (compEnvC bs cl C X.env) fp) el te)
    (fs : ∀ x, foldedSetIterable src X.env x = pure x := by intro _; rfl) : PE X (.ListComp el [⟨tg, src, conds, 0⟩] bs pos) (tLc wi g tt te (mine.map (·.2))) := by
  refine ⟨fun pins s σ H Q I h => ?_⟩
  rw [eval_ListComp]
  refine lcH_run hot nd I it0 bk hg ht he fs h fun D C t m H' J q ns f => ⟨m, ns, fun h2 sb => ?_⟩
  obtain ⟨a0, a1, a2, a3, a4, a5⟩ := f
  exact ⟨.ref D, H', J.turned (t' := t.toks) (fun b o hb e => (sb.2 b hb).trans e) a0 a1 a3 a4 a5, rfl, q⟩
/-- a list's walk there -/
theorem pi_lstH {tg e : Expr} {te : TE} (he : PE X e te) : L2H.PIH X tg e (fun σ H R => te σ H fun x H1 => ∃ a xs, x = .ref a ∧ SqL X.K H1 a xs ∧ R (Itl X.K a) H1) := by
  refine ⟨fun pins s σ H R I h => thn (he.run pins s σ H _ I h) fun v s1 zz => ?_⟩
  obtain ⟨x, H1, I1, r, a, xs, rfl, sq, q⟩ := zz
  cases r
  obtain ⟨its, rv, pl, _⟩ := I1.list sq
  refine wpAny_pyIter_list pl.isList ⟨s1.heap.objs.size, [s1.heap.objs.size], _, _, H1, rfl, I1.kept (t' := s1.toks) (fun _ _ e => Heap.get?_push_of_some _ e), turn_lstH a _, ⟨_, Heap.get?_push_size _ rfl, rfl, rfl⟩, fun b hb => ?_, q⟩
  obtain rfl : b = s1.heap.objs.size := List.mem_singleton.mp hb
  exact I1.fpOk (Nat.le_refl _) (I1.hok.fresh (Nat.le_refl _))
end
end Mp

/-! Hx3: sum of a list of ints while an exception is handled. -/
namespace Mp
open PySem PySem.Spec L2 LamX PyProof.Rows HotX
theorem walk_hot {prog : Program} {w : World} {A : Around} {x1 : Addr} {o1 : Obj} {v1 : Array Value} (hh : A.handled = some (.ref x1)) (d1 : o1.data = .fields v1) (c1 : v1[2]? = some .none) (j lq : Addr) (n1 : lq ≠ j) (n2 : x1 ≠ j) (xs : Array Value) :
    PySem.Walks prog w A j [j, lq, x1] [j] xs.size (fun i v => xs[i]? = some v) (fun i h => (h.IsListIter j lq i ∧ h.IsList lq xs) ∧ h.get? x1 = some o1) where
  sub := fun b hb => by rw [List.mem_singleton.mp hb]; exact List.mem_cons_self
  frame := fun _ _ _ st k => ⟨⟨st.1.1.at fun o e => k j (by simp) o e, st.1.2.at fun o e => k lq (by simp) o e⟩, k x1 (by simp) _ st.2⟩
  item := fun i s Q E hi st q => by
    refine wpAny_pyNext_list_item st.1.1 st.1.2 (x := xs[i]) (by simp [hi]) fun h2 st2 same => ?_
    exact q _ h2 s.toks (by simp [hi]) ⟨⟨st2, st.1.2.extBut same.extBut n1⟩, same.extBut x1 _ n2 st.2⟩ fun b o nb e => same.extBut b o (fun z => nb (by simp [z])) e
  done := fun s Q E st q => lstEnd_hot ⟨hh, o1, v1, st.2, d1, c1⟩ n2 st.1.1 st.1.2 (by simp) fun h2 ext => q h2 s.toks fun b o nb e => ext b o (fun z => nb (by simp [z])) e
  self := fun _ _ _ _ st q => wpAny_pyIter_listiter st.1.1 q
section
variable {prog : Program} {w : World} {A : Around} {E : Value → Shared → Prop} {s : Shared} {l : Addr}
theorem sum_hot {x1 : Addr} {its : List Value} {ns : List Int} {Q : Value → Shared → Prop} (hot : HotAt A x1 s.heap) (hl : s.heap.IsList l its.toArray) (hi : IntsAre its ns)
    (q : ∀ h' tk t', (∀ b o, s.heap.get? b = some o → h'.get? b = some o) → Q (.int ns.sum t') { s with heap := h', toks := tk }) : wpAny (model prog w) A (call (.builtin "sum") [.ref l]) Q E s := by
  obtain ⟨hh, o1, v1, g1, d1, c1⟩ := hot
  obtain ⟨xs, e⟩ := hi.allInts.items
  have hn : numsOf (intItems xs).toList = ns := by rw [← e]; exact hi.numsOf
  rw [nums_intItems] at hn
  rw [e] at hl
  refine call_sum_walkG (iter_intList hl fun s2 e2 st lt ne => ?_)
  subst e2
  have lt1 := Heap.lt_size g1
  refine ⟨_, _, _, _, _, _, numAt xs, rfl, walk_hot (A := A.in1) hh d1 c1 _ l ne (Nat.ne_of_lt lt1) (intItems xs), ⟨st, Heap.get?_push_of_some _ g1⟩, fun b hb => ?_, (fun _ _ => intItems_at), fun h' tk t' hk => ?_⟩
  · simp only [List.mem_cons, List.not_mem_nil, or_false] at hb
    rcases hb with rfl | rfl | rfl
    · exact lt _ (by simp)
    · exact lt _ (by simp)
    · exact Heap.lt_size (Heap.get?_push_of_some _ g1)
  · have z := q h' tk t' (old_kept hk)
    rw [← hn] at z
    have e3 : preSum (numAt xs) (intItems xs).size = (xs.toList.map (·.1)).sum := by
      rw [preSum_eq, List.take_of_length_le (by simp [intItems])]
    rw [e3]
    exact z
end
section
variable {X : Cx}
theorem cr_sumH (hot : L2H.HotC X) : CallR X (.builtin "sum") (rSum X.K) := by
  intro pins s σ H vs us Q I r h
  obtain ⟨a, ns, rfl, sq, q⟩ := h
  obtain ⟨its, rv, pl, _⟩ := I.list sq
  obtain ⟨x1, ht⟩ := hot.at I
  rw [Vals.ref1 r]
  exact sum_hot ht pl.isList rv.ints fun h' tk t' hk => ⟨.int _, H, I.kept hk, ⟨_, rfl⟩, q⟩
end
end Mp

/-! Hx4: a def called in an except suite, whose promise names the exception. -/
namespace Mp
open PySem PySem.Spec L2 LamX PyProof.Rows HotX L2H
structure FnW (P : Program) (w : World) (K : PySem.W.Frag) (mg : Str → Option Value) (base : Heap) (CX : CXT) (k : Nat) (f : Addr) (fd : FuncData) (ps : List Str) (sp : Addr × Obj → Sp) : Prop where
  num : ∀ p vs H Q E, sp p vs H Q E → vs.length = ps.length
  go : ∀ (p : Addr × Obj) (A : Around) (up : List Env) (s : Shared) (H : Hp) (args : Args) (us : List Value) (vs : List V) (Q : VK) (E : XK), RoomH k A → Hot1 A p → PinOk up H s p → Env0 P w K mg base A up s H → BindsTo s fd args (ps.zip us) → Vals vs us → sp p vs H Q E →
    codeAny (model P w) A (.call (.ref f) args) (CR CX up P w H s Q E) s
section
variable {CX : CXT} {P : Program} {w : World} {K : PySem.W.Frag} {mg : Str → Option Value} {base : Heap} {k : Nat} {f : Addr}
theorem fnW_of {nm ql : Str} {pa : Arguments} {bd : List Stmt} {sc : Scope} {dV kV doc pm cdv ct oc : Value} {an od : Option Addr} {osl : Array (Option Value)} {N ps : List Str} {sp : Addr × Obj → Sp}
    (at_ : K.lookup f = some ⟨oc, od, .func (PySem.W.fnOf nm ql pa bd sc dV kV doc pm an cdv ct), osl⟩) (code : PySem.W.codeIn K cdv ql = true) (S : FnScope N ps sc) (num : ∀ p vs H Q E, sp p vs H Q E → vs.length = ps.length)
    (body : ∀ (p : Addr × Obj) (A : Around) (up : List Env) (s : Shared) (H : Hp) (vs : List V) (Q : VK) (E : XK), Hot1 A p → RoomH k (A.deeper (envOfC ql sc s.heap.objs.size f cdv)) → sp p vs H Q E →
      ∃ t, PSs (cxH CX P w K mg base N ql sc f cdv A up s H E p) bd t ∧ t { nx := fun _ H' => Q .non H', rt := Q } (L2.start N vs) H) :
    FnW P w K mg base CX (k + 1) f (PySem.W.fnOf nm ql pa bd sc dV kV doc pm an cdv ct) ps sp := by
  refine ⟨num, fun p A up s H args us vs Q E room hot pin e0 bd0 rv q => ?_⟩
  have ln := num _ _ _ _ _ q
  have kin : K.In s.heap := e0.mod.kin.keeps fun b o e => (e0.bs b o e).1
  have lim : s.heap.NoLimit := e0.mod.nolimit.keeps fun b o e => (e0.bs b o e).1
  have kinds : ∀ y ∈ ps.zip us, sc.names.lookup y.1 = some .local ∨ (sc.names.lookup y.1 = some .cell ∧ ((cellsFrom (s.heap.objs.size + 1) sc.names []).lookup y.1).isSome = true) := fun y hy => by
    rcases S.par y.1 (List.of_mem_zip (show (y.1, y.2) ∈ ps.zip us from hy)).1 with z | z
    · exact .inl z
    · exact .inr ⟨z, PySem.W.cellsFrom_some _ _ _ (.inl z)⟩
  refine codeAny_call_function room.depth (kin _ _ at_) rfl S.co S.gen rfl (PySem.W.codeRec_of kin code) (bd0 _ _ _ _ (wpAny_newFunctionEnv_cells S.kind kinds fun en he s1 st => ?_))
  subst he
  refine ⟨lim.keeps st.toInCall.keep, codeAny_func ?_⟩
  obtain ⟨t, ht, hq⟩ := body p A up s H vs Q E hot (room.deeper _) q
  have I : Inv (cxH CX P w K mg base N ql sc f cdv A up s H E p) [] (L2.start N vs) H s1 := inv_startH S pin e0 ln rv st
  refine wpAny_mono (ht.run [] s1 (L2.start N vs) H _ I hq) (fun fl s2 hs => ?_) fun e s2 hs => hs
  cases fl with
  | ret u =>
    obtain ⟨v, σ2, H2, J, r2, q2⟩ := hs
    exact ⟨v, H2, J.os, J.bare, J.base, J.hok, r2, q2⟩
  | next =>
    obtain ⟨σ2, H2, J, q2⟩ := hs
    exact ⟨V.non, H2, J.os, J.bare, J.base, J.hok, rfl, q2⟩
  | brk =>
    obtain ⟨_, _, _, z⟩ := hs
    exact z.elim
  | cont =>
    obtain ⟨_, _, _, z⟩ := hs
    exact z.elim
end
section
variable {X : Cx} {CX : CXT} {k : Nat} {f : Addr} {fd : FuncData} {ps : List Str} {sp : Addr × Obj → Sp} {E : L2.St → XK} {x : Str} {q0 pos : Pos} {e : Expr} {es : List Expr} {t : TA}
theorem pe_callW {p : Addr × Obj} (F : FnW X.prog X.w X.K X.mg X.base CX k f fd ps sp) (room : RoomH k X.A) (hot : Hot1 X.A p) (pin : p ∈ X.pn) (hg : Gl X x) (hm : X.mg x = some (.ref f)) (hk : PySem.W.keepIn X.K (.ref f) = true) (hb : Binds X.K fd ps []) (hx : ∀ σ, PassesAt CX X σ (E σ))
    (ha : PA X (e :: es) t) (hdb : (x == ("__debug__" : Str)) = false := by decide) (hst : starEach (e :: es) X.env = (false, eval e X.env) :: starEach es X.env := by rfl) (hpl : (backTo pos (starEach es X.env)).any (·.1) = false := by rfl) :
    PE X (.Call (.Name x q0) (e :: es) [] pos) (fun σ H Q => t σ H fun vs H1 => sp p vs H1 Q (E σ)) := by
  refine ⟨fun pins s σ H Q I h => wpAny_Call_Name_kw (ld_glob I hg hm ?_ hdb)⟩
  refine PySem.W.callWith_K (h₀ := X.base) I.ok.mod.kin hk (thn (ha.run pos pins s σ H _ I h) fun us s1 zz => ?_) hst hpl
  obtain ⟨vs, H1, J, rv, q⟩ := zz
  refine ⟨J.kIn, ?_⟩
  have ln : us.length = ps.length := by rw [← rv.length]; exact F.num _ _ _ _ _ q
  have b := hb s1 us J.kIn (by rw [List.append_nil]; exact ln)
  rw [List.append_nil] at b
  have z := J.pin p (List.mem_append_left _ pin)
  have pk : PinOk X.stack H1 s1 p := ⟨z.1, z.2.1, fun m => (List.mem_cons.mp (J.stkSub p.1 m)).elim z.2.2.1 z.2.2.2.1, z.2.2.2.2⟩
  refine wpAny_call (codeAny_mono (F.go p X.A X.stack s1 H1 ⟨us, []⟩ us vs Q (E σ) room hot pk J.env0 b rv q) fun r s2 hq => ?_)
  cases r with
  | error u => exact hx σ pins H1 s1 u s2 J hq
  | ok fl =>
    cases fl with
    | ret u => exact J.after hq
    | next => exact False.elim hq
    | brk => exact False.elim hq
    | cont => exact False.elim hq
end
end Mp

/-! Hx6: what the handled exception is asked in a called def: isinstance, a field. -/
namespace Mp
open PySem PySem.Spec L2 LamX PyProof.Rows HotX L2H
/-- its dict, if it has one, is known -/
def DxOk (dx : Option Addr) (H : Hp) : Prop := dx = none ∨ ∃ d fs, dx = some d ∧ H d = some (.xd fs)
def rIsW (K : PySem.W.Frag) (D a : Addr) (dx : Option Addr) : List V → Hp → VK → Prop := fun xs H Q => ∃ (c : V) (cv : Value) (b : Bool), xs = [.ref a, c] ∧ (∀ u, RelV c u → u = cv) ∧ PySem.W.kitOne K (.ref D) cv = some b ∧ DxOk dx H ∧ Q (.bl b) H
section
variable {X : Cx} {a D : Addr} {oe : Obj} {dx : Option Addr}
theorem inst_at (hp : (a, oe) ∈ X.pn) (hz : Zc (.ref D) dx oe) (hf : ∃ vs, oe.data = .fields vs) {pins : List (Addr × Obj)} {σ : L2.St} {H : Hp} {s : Shared} (I : Inv X pins σ H s) (dk : DxOk dx H) : ∃ od, PySem.W.InstAt s.heap a oe D od := by
  obtain ⟨vs, hv⟩ := hf
  have get := (I.pin (a, oe) (List.mem_append_left _ hp)).1
  rcases dk with rfl | ⟨d, fs, rfl, e⟩
  · exact ⟨none, get, hz.1, by unfold PySem.W.notCls; rw [hv] <;> rfl, by rw [hz.2]; trivial⟩
  · have q : ObjOk X.prog X.w H s.heap d (.xd fs) := I.hok d _ e
    obtain ⟨mA, ns, _⟩ := q
    obtain ⟨od, ho, _⟩ := lookIn_ns ns
    exact ⟨some od, get, hz.1, by unfold PySem.W.notCls; rw [hv] <;> rfl, by rw [hz.2]; exact ho⟩
theorem call_isD (C : ExcC X.K D) (hp : (a, oe) ∈ X.pn) (hz : Zc (.ref D) dx oe) (hf : ∃ vs, oe.data = .fields vs) : CallR X (.builtin "isinstance") (rIsW X.K D a dx) := by
  intro pins s σ H xs us Q I r h
  obtain ⟨c, cv, b, rfl, fix, e, dk, q⟩ := h
  cases r with
  | cons r1 rr =>
    cases rr with
    | cons r2 rr =>
      cases rr
      cases r1
      obtain rfl := fix _ r2
      obtain ⟨od, J⟩ := inst_at hp hz hf I dk
      have hc : (PySem.W.clsIn X.K D).isSome = true := by
        obtain ⟨cd, h1, _⟩ := PySem.W.any_some C.hd
        rw [h1]
        rfl
      exact PySem.W.kia_one (PySem.W.kitx_exc hc C.hg C.hk C.hs C.ha C.hn C.ht C.hm) I.kIn J e (fun z => nomatch z) fun tk => ⟨.bl b, H, I.kept (t' := tk) (fun _ _ z => z), rfl, q⟩
theorem pe_xfW {dd : Addr} {e : Expr} {te : TE} {pos : Pos} {n : Str} (C : ExcC X.K D) (hno : PySem.W.findIn X.K (.ref D) n = some none) (hp : (a, oe) ∈ X.pn) (hz : Zc (.ref D) (some dd) oe) (hf : ∃ vs, oe.data = .fields vs) (he : PE X e te) (hb : attributeBase e n X.env (eval e X.env) = eval e X.env := by rfl) :
    PE X (.Attribute e n pos) (fun σ H Q => te σ H fun x H1 => x = .ref a ∧ ∃ fs v, H1 dd = some (.xd fs) ∧ fs.lookup n = some v ∧ Q v H1) := by
  refine ⟨fun pins s σ H Q I h => attr_of hb (thn (he.run pins s σ H _ I h) fun u s1 zz => ?_)⟩
  obtain ⟨x, H1, I1, r, rfl, fs, v, e1, e2, q⟩ := zz
  cases r
  obtain ⟨vs, hv⟩ := hf
  have get := (I1.pin (a, oe) (List.mem_append_left _ hp)).1
  have ok : ObjOk X.prog X.w H1 s1.heap dd (.xd fs) := I1.hok dd _ e1
  obtain ⟨mA, ns, rel⟩ := ok
  obtain ⟨od, ho, lo⟩ := lookIn_ns ns
  obtain ⟨u, hu, ru⟩ := RelO.some_of (v := v) (o := mA n) (by rw [← e2]; exact rel n)
  have J : PySem.W.InstAt s1.heap a oe D (some od) := ⟨get, hz.1, by unfold PySem.W.notCls; rw [hv] <;> rfl, by rw [hz.2]; exact ho⟩
  exact HandSPX.exc_get I1.kIn J C.hg C.hk C.hs (PySem.W.findObj_own C.hd hno rfl (by rw [lo, hu])) (handed_of ru) ⟨v, H1, I1.tok _, ru, q⟩
end
end Mp

/-! Hx7: the law's def that names a refusal, walked while the refusal is handled. -/
namespace Mp
open PySem PySem.Spec L2 LamX PyProof.Rows HotX L2H
def isN (x : Str) : Expr → Bool
  | .Name y _ => decide (y = x)
  | _ => false
theorem isN_ok {x : Str} {e : Expr} (h : isN x e = true) : ∃ p, e = .Name x p := by
  cases e with
  | Name y p => exact ⟨p, by rw [of_decide_eq_true h]⟩
  | _ => cases h
def isS (x : Str) : Expr → Bool
  | .Constant (.str y) _ _ => decide (y = x)
  | _ => false
theorem isS_ok {x : Str} {e : Expr} (h : isS x e = true) : ∃ j p, e = .Constant (.str x) j p := by
  unfold isS at h
  split at h
  · exact ⟨_, _, by rw [of_decide_eq_true h]⟩
  · cases h
def isT : Expr → Bool
  | .Constant (.bool b) _ _ => b
  | _ => false
theorem isT_ok {e : Expr} (h : isT e = true) : ∃ j p, e = .Constant (.bool true) j p := by
  unfold isT at h
  split at h
  · exact ⟨_, _, by rw [h]⟩
  · cases h
def is1 : Expr → Bool
  | .Constant (.int i) _ _ => decide (i = 1)
  | _ => false
theorem is1_ok {e : Expr} (h : is1 e = true) : ∃ j p, e = .Constant (.int 1) j p := by
  unfold is1 at h
  split at h
  · exact ⟨_, _, by rw [of_decide_eq_true h]⟩
  · cases h
def isI (c : Str) : Expr → Bool
  | .Call f [a, b] [] _ => isN "isinstance" f && (isN "e" a && isN c b)
  | _ => false
theorem isI_ok {c : Str} {e : Expr} (h : isI c e = true) : ∃ p1 p2 p3 p4, e = .Call (.Name "isinstance" p1) [.Name "e" p2, .Name c p3] [] p4 := by
  unfold isI at h
  split at h
  · obtain ⟨h1, h⟩ := Bool.and_eq_true_iff.mp h
    obtain ⟨h2, h3⟩ := Bool.and_eq_true_iff.mp h
    obtain ⟨p1, rfl⟩ := isN_ok h1
    obtain ⟨p2, rfl⟩ := isN_ok h2
    obtain ⟨p3, rfl⟩ := isN_ok h3
    exact ⟨_, _, _, _, rfl⟩
  · cases h
/-! the five statements -/
def wv1 : Stmt → Bool
  | .Assign [t] (.List [a, b, c] _) _ => isN "flags" t && (isI "BadToken" a && (isI "BadTerm" b && isI "BadDeed" c))
  | _ => false
theorem wv1_ok {st : Stmt} (h : wv1 st = true) : ∃ t a b c p q, st = .Assign [t] (.List [a, b, c] p) q ∧ isN "flags" t = true ∧ isI "BadToken" a = true ∧ isI "BadTerm" b = true ∧ isI "BadDeed" c = true := by
  unfold wv1 at h
  split at h
  · simp only [Bool.and_eq_true] at h
    exact ⟨_, _, _, _, _, _, rfl, h⟩
  · cases h
def wv2 : Stmt → Bool
  | .Assign [t] (.BinOp l .Add (.List [a, b, c] _) _) _ => isN "flags" t && (isN "flags" l && (isI "BadRow" a && (isI "BadPicture" b && isI "Fault" c)))
  | _ => false
theorem wv2_ok {st : Stmt} (h : wv2 st = true) : ∃ t l a b c p q r, st = .Assign [t] (.BinOp l .Add (.List [a, b, c] p) q) r ∧ isN "flags" t = true ∧ isN "flags" l = true ∧ isI "BadRow" a = true ∧ isI "BadPicture" b = true ∧ isI "Fault" c = true := by
  unfold wv2 at h
  split at h
  · simp only [Bool.and_eq_true] at h
    exact ⟨_, _, _, _, _, _, _, _, rfl, h⟩
  · cases h
/-- sum([int(flag) for flag in flags]) != 1 -/
def wvS (cs : Scope) : Expr → Bool
  | .Compare (.Call s1 [.ListComp (.Call s2 [s3] [] _) [⟨g1, g2, [], 0⟩] c _] [] _) [.NotEq] [n1] _ => isN "sum" s1 && (isN "int" s2 && (isN "flag" s3 && (isN "flag" g1 && (isN "flags" g2 && (is1 n1 && decide (c = cs))))))
  | _ => false
theorem wvS_ok {cs : Scope} {e : Expr} (h : wvS cs e = true) : ∃ s1 s2 s3 g1 g2 n1 p q r u, e = .Compare (.Call s1 [.ListComp (.Call s2 [s3] [] p) [⟨g1, g2, [], 0⟩] cs q] [] r) [.NotEq] [n1] u ∧ isN "sum" s1 = true ∧ isN "int" s2 = true ∧ isN "flag" s3 = true ∧ isN "flag" g1 = true ∧ isN "flags" g2 = true ∧ is1 n1 = true := by
  unfold wvS at h
  split at h
  · simp only [Bool.and_eq_true, decide_eq_true_eq] at h
    obtain ⟨h1, h2, h3, h4, h5, h6, rfl⟩ := h
    exact ⟨_, _, _, _, _, _, _, _, _, _, rfl, h1, h2, h3, h4, h5, h6⟩
  · cases h
def isRT2 (x y : Str) : Stmt → Bool
  | .Return (some (.Tuple [a, b] _ _)) _ => isS x a && isS y b
  | _ => false
theorem isRT2_ok {x y : Str} {st : Stmt} (h : isRT2 x y st = true) : ∃ a b k p q, st = .Return (some (.Tuple [a, b] k p)) q ∧ isS x a = true ∧ isS y b = true := by
  unfold isRT2 at h
  split at h
  · simp only [Bool.and_eq_true] at h
    exact ⟨_, _, _, _, _, rfl, h⟩
  · cases h
def wv3 (cs : Scope) : Stmt → Bool
  | .If (.BoolOp .Or [a, .UnaryOp .Not b _] _) [r] [] _ => wvS cs a && (isI "ValueError" b && isRT2 "refused" "other" r)
  | _ => false
theorem wv3_ok {cs : Scope} {st : Stmt} (h : wv3 cs st = true) : ∃ a b r p q u, st = .If (.BoolOp .Or [a, .UnaryOp .Not b p] q) [r] [] u ∧ wvS cs a = true ∧ isI "ValueError" b = true ∧ isRT2 "refused" "other" r = true := by
  unfold wv3 at h
  split at h
  · simp only [Bool.and_eq_true] at h
    exact ⟨_, _, _, _, _, _, rfl, h⟩
  · cases h
def wv4 : Stmt → Bool
  | .If i [.Return (some (.Tuple [a, b, .Attribute w x _] _ _)) _] [] _ => isI "Fault" i && (isS "refused" a && (isS "Fault" b && (isN "e" w && decide (x = "word"))))
  | _ => false
theorem wv4_ok {st : Stmt} (h : wv4 st = true) : ∃ i a b w p k q r u, st = .If i [.Return (some (.Tuple [a, b, .Attribute w "word" p] k q)) r] [] u ∧ isI "Fault" i = true ∧ isS "refused" a = true ∧ isS "Fault" b = true ∧ isN "e" w = true := by
  unfold wv4 at h
  split at h
  · simp only [Bool.and_eq_true, decide_eq_true_eq] at h
    obtain ⟨h1, h2, h3, h4, rfl⟩ := h
    exact ⟨_, _, _, _, _, _, _, _, _, rfl, h1, h2, h3, h4⟩
  · cases h
def wv5 : Stmt → Bool
  | .Return (some (.Tuple [c, .Subscript (.List [a1, a2, a3, a4, a5] _) (.Call (.Attribute x y ap) [t] [] cp) _] _ _)) _ => isS "refused" c && (isS "BadToken" a1 && (isS "BadTerm" a2 && (isS "BadDeed" a3 && (isS "BadRow" a4 && (isS "BadPicture" a5 && (isN "flags" x && (isT t && (decide (y = "index") && (ap.endLine == cp.line)))))))))
  | _ => false
theorem wv5_ok {st : Stmt} (h : wv5 st = true) : ∃ c a1 a2 a3 a4 a5 x t p ap cp q k r u, st = .Return (some (.Tuple [c, .Subscript (.List [a1, a2, a3, a4, a5] p) (.Call (.Attribute x "index" ap) [t] [] cp) q] k r)) u ∧ isS "refused" c = true ∧ isS "BadToken" a1 = true ∧ isS "BadTerm" a2 = true ∧ isS "BadDeed" a3 = true ∧ isS "BadRow" a4 = true ∧ isS "BadPicture" a5 = true ∧ isN "flags" x = true ∧ isT t = true ∧ (ap.endLine == cp.line) = true := by
  unfold wv5 at h
  split at h
  · simp only [Bool.and_eq_true, decide_eq_true_eq] at h
    obtain ⟨h1, h2, h3, h4, h5, h6, h7, h8, rfl, h9⟩ := h
    exact ⟨_, _, _, _, _, _, _, _, _, _, _, _, _, _, _, rfl, h1, h2, h3, h4, h5, h6, h7, h8, h9⟩
  · cases h
def wordV (cs : Scope) : List Stmt → Bool
  | [a, b, c, d, e] => wv1 a && (wv2 b && (wv3 cs c && (wv4 d && wv5 e)))
  | _ => false
theorem wordV_ok {cs : Scope} {b : List Stmt} (h : wordV cs b = true) : ∃ s1 s2 s3 s4 s5, b = [s1, s2, s3, s4, s5] ∧ wv1 s1 = true ∧ wv2 s2 = true ∧ wv3 cs s3 = true ∧ wv4 s4 = true ∧ wv5 s5 = true := by
  unfold wordV at h
  split at h
  · simp only [Bool.and_eq_true] at h
    exact ⟨_, _, _, _, _, rfl, h⟩
  · cases h
end Mp

/-! Hx8: that def's promise. -/
namespace Mp
open PySem PySem.Spec L2 LamX PyProof.Rows HotX L2H
/-- what the module says of the six classes -/
def W6 : List Str := ["BadToken", "BadTerm", "BadDeed", "BadRow", "BadPicture", "Fault"]
structure SixC (K : PySem.W.Frag) (mg : Str → Option Value) (D : Addr) (fl : List Bool) : Prop where
  ec : ExcC K D
  len : fl.length = 6
  kit : ∀ (i : Nat) (x : Str) (b : Bool), W6[i]? = some x → fl[i]? = some b → ∃ C, mg x = some (.ref C) ∧ PySem.W.kitOne K (.ref D) (.ref C) = some b
  ve : PySem.W.kitOne K (.ref D) (.type "ValueError") = some true
  nve : mg "ValueError" = none
section
variable {X : Cx} {a D : Addr} {oe : Obj} {dx : Option Addr}
/-- isinstance(e, x) -/
def tIsW (a : Addr) (dx : Option Addr) (b : Bool) : TE := fun σ H Q => σ[0]? = some (some (.ref a)) ∧ DxOk dx H ∧ Q (.bl b) H
theorem pe_isW {x : Str} {v : V} {u : Value} {b : Bool} {p1 p2 p3 p4 : Pos} (hN : X.N[0]? = some ("e" : Str)) (hv : Vis X.env.scope "e") (gi : Gl X "isinstance") (mi : X.mg "isinstance" = none) (C : ExcC X.K D) (hp : (a, oe) ∈ X.pn) (hz : Zc (.ref D) dx oe) (hf : ∃ vs, oe.data = .fields vs)
    (px : PE X (.Name x p3) (tC v)) (fix : ∀ u', RelV v u' → u' = u) (k : PySem.W.kitOne X.K (.ref D) u = some b) : PE X (.Call (.Name "isinstance" p1) [.Name "e" p2, .Name x p3] [] p4) (tIsW a dx b) := by
  refine PE.imp (pe_callB (call_isD C hp hz hf) gi mi (by decide +kernel) (pa_cons (pe_var hN hv) (pa_cons px pa_nil))) fun σ H Q q => ?_
  obtain ⟨q1, q2, q3⟩ := q
  exact ⟨_, q1, v, u, b, rfl, fix, k, q2, q3⟩
end
/-- the scope's facts -/
structure WordS (N : List Str) (sc cs : Scope) : Prop where
  fs : FnScope N ["e"] sc
  ve : Vis sc "e"
  lf : sc.names.lookup ("flags" : Str) = some .local
  gl : ∀ x ∈ (([("isinstance" : Str), "sum", "ValueError"] : List Str) ++ W6), sc.names.lookup x = some .globalImplicit
  bk : blkC N sc cs [("flag", 2)] = true
  lc : (relS cs sc).names.lookup ("flag" : Str) = some .local
  gc : (relS cs sc).names.lookup ("int" : Str) = some .globalImplicit
def keepsH (H H' : Hp) : Prop := ∀ b o, H b = some o → H' b = some o
theorem keepsH.refl (H : Hp) : keepsH H H := fun _ _ h => h
theorem keepsH.trans {H H1 H2 : Hp} (a : keepsH H H1) (b : keepsH H1 H2) : keepsH H H2 := fun c o h => b c o (a c o h)
theorem keepsH.upd {H : Hp} {p : Addr} {u : HO} (n : H p = none) : keepsH H (upd H p u) := fun b o h => by rw [upd_ne (ne_of_none h n)]; exact h
theorem DxOk.keeps {dx : Option Addr} {H H' : Hp} (d : DxOk dx H) (k : keepsH H H') : DxOk dx H' := by
  rcases d with d | ⟨d, fs, e, h⟩
  · exact .inl d
  · exact .inr ⟨d, fs, e, k _ _ h⟩
def hot6 (j : Nat) : List Bool := (List.range 6).map fun i => decide (i = j)
/-- what that def tells of the exception p, by its class -/
def spW (K : PySem.W.Frag) (mg : Str → Option Value) (p : Addr × Obj) : Sp := fun vs H Q _ => vs = [.ref p.1] ∧ ∃ (D : Addr) (dx : Option Addr) (j : Nat), Zc (.ref D) dx p.2 ∧ (∃ vs, p.2.data = .fields vs) ∧ SixC K mg D (hot6 j) ∧ DxOk dx H ∧
  ((j < 5 ∧ ∃ nm, W6[j]? = some nm ∧ ∀ t H', keepsH H H' → H' t = some (.tup [.str "refused", .str nm]) → Q (.ref t) H') ∨
    (j = 5 ∧ PySem.W.findIn K (.ref D) "word" = some none ∧ ∃ dd v, dx = some dd ∧ H dd = some (.xd [("word", v)]) ∧ ∀ t H', keepsH H H' → H' t = some (.tup [.str "refused", .str "Fault", v]) → Q (.ref t) H'))
/-- the context of that def's body -/
structure WX1 (X : Cx) (K : PySem.W.Frag) (mg : Str → Option Value) (sc cs : Scope) (p : Addr × Obj) (D : Addr) (dx : Option Addr) (j : Nat) : Prop where
  S : WordS ["e", "flags", "flag"] sc cs
  hot : HotC X
  eK : X.K = K
  eN : X.N = ([("e" : Str), "flags", "flag"] : List Str)
  eS : X.env.scope = sc
  eM : X.mg = mg
  eP : (p.1, p.2) ∈ X.pn
  eF : ∀ x, X.fn x = true
  hz : Zc (.ref D) dx p.2
  hf : ∃ vs, p.2.data = .fields vs
  six : SixC K mg D (hot6 j)
  fre : ∀ x ∈ (["isinstance", "sum", "int"] : List Str), mg x = none
section
variable {X : Cx} {K : PySem.W.Frag} {mg : Str → Option Value} {sc cs : Scope} {p : Addr × Obj} {D : Addr} {dx : Option Addr} {j : Nat}
namespace WX1
theorem nd (c : WX1 X K mg sc cs p D dx j) : X.N.Nodup := by rw [c.eN]; exact c.S.fs.nd
theorem n0 (c : WX1 X K mg sc cs p D dx j) : X.N[0]? = some ("e" : Str) := by rw [c.eN]; rfl
theorem n1 (c : WX1 X K mg sc cs p D dx j) : X.N[1]? = some ("flags" : Str) := by rw [c.eN]; rfl
theorem n2 (c : WX1 X K mg sc cs p D dx j) : X.N[2]? = some ("flag" : Str) := by rw [c.eN]; rfl
theorem ve (c : WX1 X K mg sc cs p D dx j) : Vis X.env.scope "e" := by rw [c.eS]; exact c.S.ve
theorem lf (c : WX1 X K mg sc cs p D dx j) : L2.Loc X.env.scope "flags" := by rw [c.eS]; exact .inl c.S.lf
theorem vf (c : WX1 X K mg sc cs p D dx j) : Vis X.env.scope "flags" := by rw [c.eS]; exact .inl c.S.lf
theorem gl (c : WX1 X K mg sc cs p D dx j) : ∀ x ∈ (([("isinstance" : Str), "sum", "ValueError"] : List Str) ++ W6), Gl X x := fun x hx => by
  have z := c.S.gl x hx
  rw [← c.eS] at z
  exact z
theorem fr (c : WX1 X K mg sc cs p D dx j) : ∀ x ∈ (["isinstance", "sum", "int"] : List Str), X.mg x = none := by rw [c.eM]; exact c.fre
theorem EC (c : WX1 X K mg sc cs p D dx j) : ExcC X.K D := by rw [c.eK]; exact c.six.ec
theorem is6 (c : WX1 X K mg sc cs p D dx j) (i : Nat) {x : Str} {e : Expr} (he : isI x e = true) (hx : W6[i]? = some x) (hi : i < 6) (hd : (x == ("__debug__" : Str)) = false) : PE X e (tIsW p.1 dx (decide (i = j))) := by
  obtain ⟨p1, p2, p3, p4, rfl⟩ := isI_ok he
  obtain ⟨C, m1, m2⟩ := c.six.kit i x (decide (i = j)) hx (by unfold hot6; rw [List.getElem?_map, List.getElem?_range hi]; rfl)
  exact pe_isW (v := .ref C) c.n0 c.ve (c.gl _ (by decide)) (c.fr _ (by decide)) c.EC c.eP c.hz c.hf (pe_glob (c.gl x (List.mem_append_right _ (List.mem_of_getElem? hx))) (by rw [c.eM]; exact m1) rfl hd) (fun u' r => r) (by rw [c.eK]; exact m2)
theorem isV (c : WX1 X K mg sc cs p D dx j) {e : Expr} (he : isI "ValueError" e = true) : PE X e (tIsW p.1 dx true) := by
  obtain ⟨p1, p2, p3, p4, rfl⟩ := isI_ok he
  exact pe_isW (v := .ty "ValueError") c.n0 c.ve (c.gl _ (by decide)) (c.fr _ (by decide)) c.EC c.eP c.hz c.hf (pe_bltn (c.gl _ (by decide)) (by rw [c.eM]; exact c.six.nve) (by decide +kernel) rfl) (fun u' r => r) (by rw [c.eK]; exact c.six.ve)
end WX1
theorem isI_star {x : Str} {e : Expr} (he : isI x e = true) (env : Env) (es : List Expr) : starEach (e :: es) env = (false, eval e env) :: starEach es env := by
  obtain ⟨p1, p2, p3, p4, rfl⟩ := isI_ok he
  rfl
theorem isI_true {x : Str} {e : Expr} (he : isI x e = true) (env : Env) (wh : Sem Value) : isTrue e env wh = (do let v ← wh; standAt e.pos; holding [v] (truthy v)) := by
  obtain ⟨p1, p2, p3, p4, rfl⟩ := isI_ok he
  rfl
theorem isS_pe {x : Str} {e : Expr} (he : isS x e = true) : PE X e (tC (.str x)) := by
  obtain ⟨k, q, rfl⟩ := isS_ok he
  exact pe_str
theorem isS_star {x : Str} {e : Expr} (he : isS x e = true) (env : Env) (es : List Expr) : starEach (e :: es) env = (false, eval e env) :: starEach es env := by
  obtain ⟨k, q, rfl⟩ := isS_ok he
  rfl
abbrev B3 (j a b c : Nat) : List V := [.bl (decide (a = j)), .bl (decide (b = j)), .bl (decide (c = j))]
def At0 (p : Addr × Obj) (dx : Option Addr) (σ : L2.St) (H : Hp) : Prop := σ[0]? = some (some (.ref p.1)) ∧ DxOk dx H
theorem ps_w1 (c : WX1 X K mg sc cs p D dx j) {st : Stmt} (h : wv1 st = true) : PS X st (fun D' σ H => At0 p dx σ H ∧ ∀ a, H a = none → D'.nx (σ.set 1 (some (.ref a))) (upd H a (.lst (B3 j 0 1 2)))) := by
  obtain ⟨t, i1, i2, i3, q1, q2, rfl, ht, h1, h2, h3⟩ := wv1_ok h
  obtain ⟨q3, rfl⟩ := isN_ok ht
  refine PS.imp (ps_set (i := 1) c.nd c.n1 c.lf (pe_lst (pa_cons (c.is6 0 h1 rfl (by decide) (by decide)) (pa_cons (c.is6 1 h2 rfl (by decide) (by decide)) (pa_cons (c.is6 2 h3 rfl (by decide) (by decide)) pa_nil (isI_star h3 _ _)) (isI_star h2 _ _)) (isI_star h1 _ _))) rfl (.inl (c.eF _))) fun D' σ H q => ?_
  obtain ⟨⟨q0, dk⟩, q⟩ := q
  exact ⟨q0, dk, q0, dk, q0, dk, by rw [sizeLine_eq]; show 3 ≤ 16777216; decide, fun a n => q a n⟩
theorem ps_w2 (c : WX1 X K mg sc cs p D dx j) {st : Stmt} (h : wv2 st = true) : PS X st (fun D' σ H => At0 p dx σ H ∧ ∃ a1, σ[1]? = some (some (.ref a1)) ∧ H a1 = some (.lst (B3 j 0 1 2)) ∧ ∀ a H', keepsH H H' → H' a = none → D'.nx (σ.set 1 (some (.ref a))) (upd H' a (.lst (B3 j 0 1 2 ++ B3 j 3 4 5)))) := by
  obtain ⟨t, l, i1, i2, i3, q1, q2, q4, rfl, ht, hl, h1, h2, h3⟩ := wv2_ok h
  obtain ⟨q3, rfl⟩ := isN_ok ht
  obtain ⟨q5, rfl⟩ := isN_ok hl
  refine PS.imp (ps_set (i := 1) c.nd c.n1 c.lf (pe_op op_cat (pe_var c.n1 c.vf) (pe_lst (pa_cons (c.is6 3 h1 rfl (by decide) (by decide)) (pa_cons (c.is6 4 h2 rfl (by decide) (by decide)) (pa_cons (c.is6 5 h3 rfl (by decide) (by decide)) pa_nil (isI_star h3 _ _)) (isI_star h2 _ _)) (isI_star h1 _ _)))) rfl (.inl (c.eF _))) fun D' σ H q => ?_
  obtain ⟨⟨q0, dk⟩, a1, s1, e1, q⟩ := q
  exact ⟨_, s1, q0, dk, q0, dk, q0, dk, by rw [sizeLine_eq]; show 3 ≤ 16777216; decide, fun a n => ⟨a1, a, _, _, rfl, rfl, (keepsH.upd n) _ _ e1, upd_same, by rw [sizeLine_eq]; show 3 + 3 ≤ 16777216; decide, fun a2 n2 => q a2 _ (.upd n) n2⟩⟩
abbrev B6 (j : Nat) : List V := B3 j 0 1 2 ++ B3 j 3 4 5
abbrev N6 (j : Nat) : List Int := [if decide (0 = j) then 1 else 0, if decide (1 = j) then 1 else 0, if decide (2 = j) then 1 else 0, if decide (3 = j) then 1 else 0, if decide (4 = j) then 1 else 0, if decide (5 = j) then 1 else 0]
theorem n6_sum (hj : j < 6) : (N6 j).sum = 1 := by
  rcases (by omega : j = 0 ∨ j = 1 ∨ j = 2 ∨ j = 3 ∨ j = 4 ∨ j = 5) with rfl | rfl | rfl | rfl | rfl | rfl <;> rfl
theorem b6_at {i : Nat} {x : V} (hx : (B6 j)[i]? = some x) : ∃ b : Bool, x = V.bl b ∧ (N6 j)[i]? = some (if b then (1 : Int) else 0) := by
  have hi : i < 6 := (List.getElem?_eq_some_iff.mp hx).1
  rcases (by omega : i = 0 ∨ i = 1 ∨ i = 2 ∨ i = 3 ∨ i = 4 ∨ i = 5) with rfl | rfl | rfl | rfl | rfl | rfl <;> (cases hx; exact ⟨_, rfl, rfl⟩)
theorem pt_wS (c : WX1 X K mg sc cs p D dx j) (hj : j < 6) {e : Expr} (h : wvS cs e = true) : PT X e (fun σ H Q => ∃ a, σ[1]? = some (some (.ref a)) ∧ σ.length = 3 ∧ H a = some (.lst (B6 j)) ∧ ∀ H', keepsH H H' → Q false H') := by
  obtain ⟨s1, s2, s3, g1, g2, m1, q1, q2, q3, q4, rfl, h1, h2, h3, h4, h5, h6⟩ := wvS_ok h
  obtain ⟨r1, rfl⟩ := isN_ok h1
  obtain ⟨r2, rfl⟩ := isN_ok h2
  obtain ⟨r3, rfl⟩ := isN_ok h3
  obtain ⟨r4, rfl⟩ := isN_ok h4
  obtain ⟨r5, rfl⟩ := isN_ok h5
  obtain ⟨r6, r7, rfl⟩ := is1_ok h6
  have scE : ∀ (cl : List (Str × Addr)) (C : Addr), (compEnvC cs cl C X.env).scope = relS cs sc := fun cl C => by rw [← c.eS]; rfl
  have bok : BlkOk X.N X.env.scope cs [(("flag" : Str), 2)] := by rw [c.eN, c.eS]; exact blkOk_by c.S.bk
  have pgB : ∀ (s : Shared) (H : Hp) (C : Addr) (cl : List (Str × Addr)) (fp : List Addr), PG (blkH X s H cs (compEnvC cs cl C X.env) fp) (.Name "flag" r4) (gName 2) := fun s H C cl fp =>
    pg_name c.nd c.n2 (.inl (by show (compEnvC cs cl C X.env).scope.names.lookup _ = _; rw [scE]; exact c.S.lc)) (.inr (by show (compEnvC cs cl C X.env).scope.names.lookup _ = _; rw [scE]; exact c.S.lc))
  have peB : ∀ (s : Shared) (H : Hp) (C : Addr) (cl : List (Str × Addr)) (fp : List Addr), PE (blkH X s H cs (compEnvC cs cl C X.env) fp) (.Call (.Name "int" r2) [.Name "flag" r3] [] q1) (tCB (fun xs H Q => (∃ i, xs = [.int i] ∧ Q (.int i) H) ∨ ∃ k, xs = [.bl k] ∧ Q (.int (if k then 1 else 0)) H) (tCons (tVar 2) tNil)) := fun s H C cl fp =>
    pe_callTy (X := blkH X s H cs (compEnvC cs cl C X.env) fp) call_int1 (by show (compEnvC cs cl C X.env).scope.names.lookup _ = _; rw [scE]; exact c.S.gc) (c.fr _ (by decide)) (by decide +kernel) (pa_cons (pe_var (X := blkH X s H cs (compEnvC cs cl C X.env) fp) c.n2 (by show Vis (compEnvC cs cl C X.env).scope _; rw [scE]; exact .inl c.S.lc)) pa_nil)
  refine PT.imp (pt_cmpR op_ne (pe_callB (cr_sumH c.hot) (c.gl _ (by decide)) (c.fr _ (by decide)) (by decide +kernel) (pa_cons (pe_lcH c.hot c.nd (pi_lstH (pe_var c.n1 c.vf)) bok pgB (fun s H C cl fp => pts_nil) peB) pa_nil)) pe_int rfl) fun σ H Q q => ?_
  obtain ⟨a, sa, l3, ea, q⟩ := q
  refine ⟨_, sa, a, B6 j, rfl, SqL.of ea, fun D' nD => ?_⟩
  refine lc_list (K := X.K) (a := a) (xs := B6 j) (fun i H' => i ≤ 6 ∧ H' = upd H D' (.lst (((N6 j).take i).map V.int))) ⟨by omega, rfl⟩ (fun i H' hi pv => ?_) (fun i x H' hx pv => ?_) (fun H' pv => ?_)
  · rw [pv.2]
    exact SqL.of ((keepsH.upd nD) _ _ ea)
  · obtain ⟨b, rfl, nb⟩ := b6_at hx
    have hi : i < 6 := (List.getElem?_eq_some_iff.mp hx).1
    obtain ⟨_, rfl⟩ := pv
    refine ⟨?_, ?_⟩
    · show (wipe (_ : L2.St) [2]) = wipe σ [2]
      simp [wipe]
    unfold tYes
    dsimp only
    rw [if_pos rfl]
    refine ⟨_, ?_, .inr ⟨b, rfl, _, upd_same, ?_, hi, ?_⟩⟩
    · simp [wipe, l3]
    · rw [List.length_map, List.length_take, sizeLine_eq]
      omega
    · rw [List.take_add_one, nb, List.map_append]
      exact upd_upd
  · obtain ⟨_, rfl⟩ := pv
    refine ⟨D', N6 j, rfl, SqL.of upd_same, rfl, _, rfl, ?_⟩
    rw [n6_sum hj]
    exact q _ (.upd nD)
theorem ps_w3 (c : WX1 X K mg sc cs p D dx j) (hj : j < 6) {st : Stmt} (h : wv3 cs st = true) : PS X st (fun D' σ H => At0 p dx σ H ∧ ∃ a, σ[1]? = some (some (.ref a)) ∧ σ.length = 3 ∧ H a = some (.lst (B6 j)) ∧ ∀ H', keepsH H H' → D'.nx σ H') := by
  obtain ⟨a, b, r, q1, q2, q3, rfl, h1, h2, h3⟩ := wv3_ok h
  obtain ⟨c1, c2, k1, q4, q5, rfl, h4, h5⟩ := isRT2_ok h3
  refine PS.imp (ps_if (pw_or (pt_wS c hj h1) (pw_or1 (pt_not (pt_val (c.isV h2) (isI_true h2 _))))).pt (pss_one (ps_ret (pe_tup (pa_cons (isS_pe h4) (pa_cons (isS_pe h5) pa_nil (isS_star h5 _ _)) (isS_star h4 _ _))))) pss_nil) fun D' σ H q => ?_
  obtain ⟨⟨q0, dk⟩, a, sa, l3, ea, q⟩ := q
  refine ⟨a, sa, l3, ea, fun H' k => ?_⟩
  show if false = true then _ else _
  rw [if_neg Bool.false_ne_true]
  refine ⟨q0, dk.keeps k, _, rfl, ?_⟩
  show if (!true) = true then _ else _
  rw [if_neg (by decide)]
  exact q H' k
theorem ps_w4 (c : WX1 X K mg sc cs p D dx j) {st : Stmt} (h : wv4 st = true) : PS X st (fun D' σ H => At0 p dx σ H ∧ ((¬ 5 = j ∧ D'.nx σ H) ∨ (5 = j ∧ PySem.W.findIn K (.ref D) "word" = some none ∧ ∃ dd v, dx = some dd ∧ H dd = some (.xd [("word", v)]) ∧ ∀ t, H t = none → D'.rt (.ref t) (upd H t (.tup [.str "refused", .str "Fault", v]))))) := by
  obtain ⟨i, a, b, w, q1, k1, q2, q3, q4, rfl, h1, h2, h3, h4⟩ := wv4_ok h
  obtain ⟨q5, rfl⟩ := isN_ok h4
  have pw : PE X (.Attribute (.Name "e" q5) "word" q1) (fun σ H1 Q => ∃ dd, dx = some dd ∧ PySem.W.findIn K (.ref D) "word" = some none ∧ σ[0]? = some (some (.ref p.1)) ∧ ∃ fs v, H1 dd = some (.xd fs) ∧ fs.lookup ("word" : Str) = some v ∧ Q v H1) := by
    refine ⟨fun pins s σ H Q I h => ?_⟩
    obtain ⟨dd, rfl, hno, h0, fs, v, e1, e2, q⟩ := h
    exact (pe_xfW (pos := q1) c.EC (by rw [c.eK]; exact hno) c.eP c.hz c.hf (pe_var (pos := q5) c.n0 c.ve)).run pins s σ H Q I ⟨_, h0, rfl, fs, v, e1, e2, q⟩
  refine PS.imp (ps_if (pt_val (c.is6 5 h1 rfl (by decide) (by decide)) (isI_true h1 _)) (pss_one (ps_ret (pe_tup (pa_cons (isS_pe h2) (pa_cons (isS_pe h3) (pa_cons pw pa_nil) (isS_star h3 _ _)) (isS_star h2 _ _))))) pss_nil) fun D' σ H q => ?_
  obtain ⟨⟨q0, dk⟩, q⟩ := q
  refine ⟨q0, dk, _, rfl, ?_⟩
  rcases q with ⟨nj, q⟩ | ⟨hj, hno, dd, v, rfl, e, q⟩
  · rw [decide_eq_false nj]
    show if false = true then _ else _
    rw [if_neg Bool.false_ne_true]
    exact q
  · rw [decide_eq_true hj]
    show if true = true then _ else _
    rw [if_pos rfl]
    exact ⟨dd, rfl, hno, q0, _, v, e, rfl, by rw [sizeLine_eq]; show 3 ≤ 16777216; decide, fun t n => q t n⟩
theorem w6_str {nm : Str} (h : W6[j]? = some nm) (hj : j < 5) : atI [V.str "BadToken", V.str "BadTerm", V.str "BadDeed", V.str "BadRow", V.str "BadPicture"] (j : Int) = some (V.str nm) := by
  rcases (by omega : j = 0 ∨ j = 1 ∨ j = 2 ∨ j = 3 ∨ j = 4) with rfl | rfl | rfl | rfl | rfl <;> (cases h; rfl)
theorem ps_w5 (c : WX1 X K mg sc cs p D dx j) (hj : j < 5) {nm : Str} (hn : W6[j]? = some nm) {st : Stmt} (h : wv5 st = true) : PS X st (fun D' σ H => ∃ a, σ[1]? = some (some (.ref a)) ∧ H a = some (.lst (B6 j)) ∧ ∀ t H', keepsH H H' → H' t = none → D'.rt (.ref t) (upd H' t (.tup [.str "refused", .str nm]))) := by
  obtain ⟨c1, a1, a2, a3, a4, a5, x, t, q1, ap, cp, q2, k1, q3, q4, rfl, h1, h2, h3, h4, h5, h6, h7, h8, hl⟩ := wv5_ok h
  obtain ⟨q5, rfl⟩ := isN_ok h7
  obtain ⟨k2, q6, rfl⟩ := isT_ok h8
  refine PS.imp (ps_ret (pe_tup (pa_cons (isS_pe h1) (pa_cons (pe_ix ix_list (pe_lst (pa_cons (isS_pe h2) (pa_cons (isS_pe h3) (pa_cons (isS_pe h4) (pa_cons (isS_pe h5) (pa_cons (isS_pe h6) pa_nil (isS_star h6 _ _)) (isS_star h5 _ _)) (isS_star h4 _ _)) (isS_star h3 _ _)) (isS_star h2 _ _)))
    (pe_bm PySem.F.plainAttrs_list PySem.F.slot_list_index PySem.F.type_list_index mt_index (pe_var c.n1 c.vf) (pa_cons pe_bl pa_nil) rfl rfl hl) (fun _ _ => rfl)) pa_nil) (isS_star h1 _ _)))) fun D' σ H q => ?_
  obtain ⟨a, sa, ea, q⟩ := q
  refine ⟨by rw [sizeLine_eq]; show 5 ≤ 16777216; decide, fun b nb => ⟨_, sa, .inl ⟨rfl, _, SqL.of ((keepsH.upd nb) _ _ ea)⟩, a, _, _, j, .bl true, rfl, rfl, SqL.of ((keepsH.upd nb) _ _ ea), rfl, rfl, ?_, rfl, fun m z hm hz => ?_, b, _, _, _, rfl, rfl, SqL.of upd_same, w6_str hn hj, by rw [sizeLine_eq]; show 2 ≤ 16777216; decide, fun t nt => q t _ (.upd nb) nt⟩⟩
  · rcases (by omega : j = 0 ∨ j = 1 ∨ j = 2 ∨ j = 3 ∨ j = 4) with rfl | rfl | rfl | rfl | rfl <;> rfl
  · obtain ⟨b', rfl, _⟩ := b6_at hz
    rcases (by omega : j = 0 ∨ j = 1 ∨ j = 2 ∨ j = 3 ∨ j = 4) with rfl | rfl | rfl | rfl | rfl <;> (rcases (by omega : m = 0 ∨ m = 1 ∨ m = 2 ∨ m = 3) with rfl | rfl | rfl | rfl) <;> first | omega | (cases hz; rfl)
theorem word_fn {CX : CXT} {P : Program} {w : World} {base : Heap} {k : Nat} {f : Addr} {nm ql : Str} {pa : Arguments} {bd : List Stmt} {dV kV doc pm cdv ct oc : Value} {an od : Option Addr} {osl : Array (Option Value)}
    (at_ : K.lookup f = some ⟨oc, od, .func (PySem.W.fnOf nm ql pa bd sc dV kV doc pm an cdv ct), osl⟩) (code : PySem.W.codeIn K cdv ql = true) (hb : wordV cs bd = true) (S : WordS ["e", "flags", "flag"] sc cs) (fre : ∀ x ∈ (["isinstance", "sum", "int"] : List Str), mg x = none) :
    FnW P w K mg base CX (k + 1) f (PySem.W.fnOf nm ql pa bd sc dV kV doc pm an cdv ct) ["e"] (spW K mg) := by
  refine fnW_of at_ code S.fs (fun p vs H Q E h => by obtain ⟨rfl, _⟩ := h; rfl) fun p A up s H vs Q E hot room h => ?_
  obtain ⟨rfl, D, dx, j, hz, hf, six, dk, hq⟩ := h
  have c : WX1 (cxH CX P w K mg base ["e", "flags", "flag"] ql sc f cdv A up s H E p) K mg sc cs p D dx j := ⟨S, ⟨p, hot, List.mem_singleton.mpr rfl⟩, rfl, rfl, rfl, rfl, List.mem_singleton.mpr rfl, fun _ => rfl, hz, hf, six, fre⟩
  obtain ⟨s1, s2, s3, s4, s5, rfl, h1, h2, h3, h4, h5⟩ := wordV_ok hb
  have hj : j < 6 := by rcases hq with ⟨h, _⟩ | ⟨h, _⟩ <;> omega
  rcases hq with ⟨j5, nm, hn, hq⟩ | ⟨rfl, hno, dd, v, rfl, e, hq⟩
  · refine ⟨_, pss_cons (ps_w1 c h1) (pss_cons (ps_w2 c h2) (pss_cons (ps_w3 c hj h3) (pss_cons (ps_w4 c h4) (pss_one (ps_w5 c j5 hn h5))))), ⟨rfl, dk⟩, fun a1 n1 => ?_⟩
    have k1 : keepsH H (upd H a1 (.lst (B3 j 0 1 2))) := .upd n1
    refine ⟨⟨rfl, dk.keeps k1⟩, a1, rfl, upd_same, fun a2 H2 k2 n2 => ?_⟩
    have k3 : keepsH H (upd H2 a2 (.lst (B6 j))) := (k1.trans k2).trans (.upd n2)
    refine ⟨⟨rfl, dk.keeps k3⟩, a2, rfl, rfl, upd_same, fun H4 k4 => ?_⟩
    refine ⟨⟨rfl, dk.keeps (k3.trans k4)⟩, .inl ⟨by omega, a2, rfl, k4 _ _ upd_same, fun t H5 k5 n5 => ?_⟩⟩
    exact hq t _ (((k3.trans k4).trans k5).trans (.upd n5)) upd_same
  · refine ⟨_, pss_cons (ps_w1 c h1) (pss_cons (ps_w2 c h2) (pss_cons (ps_w3 c hj h3) (pss_cons (ps_w4 c h4) pss_never))), ⟨rfl, dk⟩, fun a1 n1 => ?_⟩
    have k1 : keepsH H (upd H a1 (.lst (B3 5 0 1 2))) := .upd n1
    refine ⟨⟨rfl, dk.keeps k1⟩, a1, rfl, upd_same, fun a2 H2 k2 n2 => ?_⟩
    have k3 : keepsH H (upd H2 a2 (.lst (B6 5))) := (k1.trans k2).trans (.upd n2)
    refine ⟨⟨rfl, dk.keeps k3⟩, a2, rfl, rfl, upd_same, fun H4 k4 => ?_⟩
    refine ⟨⟨rfl, dk.keeps (k3.trans k4)⟩, .inr ⟨rfl, hno, dd, v, rfl, (k3.trans k4) _ _ e, fun t nt => ?_⟩⟩
    exact hq t _ ((k3.trans k4).trans (.upd nt)) upd_same
end
end Mp

/-! Hx9: told(lambda: e), where what is raised is named by the law's own def. -/
namespace Mp
open PySem PySem.Spec L2 LamX PyProof.Rows HotX L2H
/-- a lambda's context; what it raises has no context of its own -/
def lamN (X : Cx) (A : Around) (up : List Env) (s : Shared) (H : Hp) (E : XK) (scp : Scope) (f cd : Addr) : Cx :=
  (lamCx X A up s H E scp f cd).tr [] fun e s1 => wpAny (model X.prog X.w) (A.deeper (lamEnv X scp s.heap.objs.size f cd)) (leaving (lamEnv X scp s.heap.objs.size f cd) e) (fun _ s2 => L2N.CX X.prog X.w up H s E e s2) (fun e' s2 => L2N.CX X.prog X.w up H s E e' s2) s1
section
variable {X : Cx} {pins : List (Addr × Obj)} {σ : L2.St} {H : Hp} {s : Shared}
theorem pe_actN {CXg : CXT} {Eg : XK} {Ng : List Str} {qg a : Str} {sg scp : Scope} {g f cd : Addr} {cdg pm ctv : Value} {prm : Arguments} {bd : Expr} {k i : Nat} {pn : List (Addr × Obj)} {xe : Value → Shared → Prop} {W : WX} {E : XK} {tb : TE} {r1 r2 : Pos}
    (I : Inv X pins σ H s) (L : LamS X.env.scope scp) (at_ : s.heap.get? f = some (PySem.W.kla_obj "<lambda>" (X.env.qual ++ "<lambda>") prm bd scp (cloFrom X.env.cells scp.names []) pm cd ctv)) (fre : H f = none) (nof : f ∉ frs X.stack)
    (bnd : bindArgs (PySem.W.kla_fn "<lambda>" (X.env.qual ++ "<lambda>") prm bd scp (cloFrom X.env.cells scp.names []) pm (.ref cd) ctv) ⟨[], []⟩ = pure [])
    (tk : L2N.Takes ((cxOf CXg X.prog X.w X.K X.mg X.base Ng qg sg g cdg X.A X.stack s H Eg).tr pn xe) W) (imp : ∀ c d τ H', E c d H' → W c d τ H') (room : Room (k + 1) (X.A.deeper (envOfC qg sg s.heap.objs.size g cdg)))
    (body : ∀ (A : Around) (up : List Env) (s : Shared) (H : Hp), Room k (A.deeper (lamEnv X scp s.heap.objs.size f cd)) → PE (lamN X A up s H E scp f cd) bd tb)
    (ni : Ng[i]? = some a) (vi : Vis sg a) (d1 : (a == ("__debug__" : Str)) = false) (d2 : (a == ("__classdict__" : Str)) = false) :
    PE ((cxOf CXg X.prog X.w X.K X.mg X.base Ng qg sg g cdg X.A X.stack s H Eg).tr pn xe) (.Call (.Name a r1) [] [] r2)
      (fun τ HZ Q => τ[i]? = some (some (.ref f)) ∧ HZ cd = some (CodeO cd (X.env.qual ++ "<lambda>")) ∧ tb σ HZ Q) := by
  refine ⟨fun pz sz τ HZ Q IZ h => ?_⟩
  obtain ⟨h0, h1, h2⟩ := h
  refine wpAny_Call_Name_kw (thn ((pe_var (pos := r1) (i := i) ni vi d1 d2).run pz sz τ HZ (fun v H1 => v = .ref f ∧ H1 = HZ) IZ ⟨.ref f, h0, rfl, rfl⟩) fun u s1 zz => ?_)
  obtain ⟨v, H1, I1, rv, rfl, rfl⟩ := zz
  cases rv
  have at1 := I1.base.keep f _ at_ fre nof (fun z => nomatch (show f ∈ ([] : List Addr) from z))
  refine PySem.W.callWith_F0 ⟨_, _, _, _, at1⟩ ?_
  obtain ⟨⟨oc, vs, t, hoc, hdc, hvc⟩, _, _⟩ := I1.hok cd _ h1
  have un : Un (frs X.stack) [] H H1 s.heap s1.heap := I1.base
  have run : codeAny (model X.prog X.w) (X.A.deeper (envOfC qg sg s.heap.objs.size g cdg)) (.call (.ref f) ⟨[], []⟩) (CR (L2N.CX X.prog X.w) (envOfC qg sg s.heap.objs.size g cdg :: X.stack) X.prog X.w H1 s1 Q E) s1 := by
    refine PySem.W.kla_callFunE room.depth at1 rfl L.co L.gen rfl ⟨cd, oc, vs, t, rfl, hoc, hdc, hvc⟩ ?_
    rw [bnd]
    refine wpAny_pure (wpAny_newFunctionEnv (fun y hy => (L.own y hy).2) (fun y hy => absurd hy (by simp)) (fun hn ns sb => ⟨I1.nolimit.fresh _ sb, ?_⟩) L.kind)
    show codeAny _ _ (.expr bd (lamEnv X scp s1.heap.objs.size f cd)) _ _
    have kp : ∀ b o, s1.heap.get? b = some o → hn.get? b = some o := fun b o e => sb.extBut b o (Nat.ne_of_lt (Heap.lt_size e)) (Heap.get?_push_of_some _ e)
    have J0 := lam_start2 (E := E) (f := f) (c' := cd) (tk := s1.toks + ([] : List (Str × Value)).length) I L I1.env0 room.hd un ns kp
    have J : Inv (lamN X (X.A.deeper (envOfC qg sg s.heap.objs.size g cdg)) (envOfC qg sg s.heap.objs.size g cdg :: X.stack) s1 H1 E scp f cd) [] σ H1 { s1 with heap := hn, toks := s1.toks + ([] : List (Str × Value)).length } := J0.toTry _
    refine PySem.W.kla_codeExpr (wpAny_mono ((body _ _ s1 H1 (room.deeper _)).run [] _ _ H1 Q J h2) (fun v s2 zz => ?_) fun e s2 zz => zz)
    obtain ⟨v', H2, J2, rv2, q2⟩ := zz
    exact ⟨v', H2, J2.os, J2.bare, J2.base, J2.hok, rv2, q2⟩
  refine wpAny_call (codeAny_mono run fun r s2 zz => ?_)
  cases r with
  | error e => exact L2N.passes_call tk imp pz τ H1 s1 e s2 I1 zz
  | ok fl =>
    cases fl with
    | ret u => exact I1.after zz
    | _ => exact False.elim zz
end
/-- as the kit's GivesTo, its exceptions without a context -/
def GivesN (X : Cx) (Ng : List Str) (x : Str) (sg : Scope) (g : Addr) (cdg : Value) (bg : List Stmt) (a q : Str) (TT : (XK → Hp → VK → Prop) → Hp → VK → Prop) : Prop :=
  ∀ (f cd : Addr) (s : Shared) (H : Hp) (Q : VK) (tl : XK → Hp → VK → Prop),
    (∀ (W : WX) (pn : List (Addr × Obj)) (xe : Value → Shared → Prop) (E : XK) (r1 r2 : Pos), L2N.Takes ((cxOf C8.CX0 X.prog X.w X.K X.mg X.base Ng x sg g cdg X.A X.stack s H C8.E0).tr pn xe) W → (∀ c d τ H', E c d H' → W c d τ H') →
      PE ((cxOf C8.CX0 X.prog X.w X.K X.mg X.base Ng x sg g cdg X.A X.stack s H C8.E0).tr pn xe) (.Call (.Name a r1) [] [] r2) (fun τ HZ Q => τ[0]? = some (some (.ref f)) ∧ HZ cd = some (CodeO cd q) ∧ tl E HZ Q)) →
    H cd = some (CodeO cd q) → Room 1 (X.A.deeper (envOfC x sg s.heap.objs.size g cdg)) → TT tl H Q →
    ∃ t, PSs (cxOf C8.CX0 X.prog X.w X.K X.mg X.base Ng x sg g cdg X.A X.stack s H C8.E0).nox bg t ∧ t { nx := fun _ H' => Q .non H', rt := Q } (L2.start Ng [.ref f]) H
section
variable {X : Cx}
theorem pe_lamN {T : List (Addr × Str)} {TT : (XK → Hp → VK → Prop) → Hp → VK → Prop} {x a : Str} {g c P : Addr} {k : Nat} {pg prm : Arguments} {bg : List Stmt} {sg scp : Scope} {dV kV doc pm cdv ct oc : Value} {an od : Option Addr} {osl : Array (Option Value)} {Ng : List Str} {bd : Expr} {t : XK → TE} {r1 r2 r3 : Pos}
    (hg : Gl X x) (hm : X.mg x = some (.ref g)) (hk : PySem.W.keepIn X.K (.ref g) = true) (at_ : X.K.lookup g = some ⟨oc, od, .func (PySem.W.fnOf x x pg bg sg dV kV doc pm an cdv ct), osl⟩) (code : PySem.W.codeIn X.K cdv x = true) (bnd : L2.Binds X.K (PySem.W.fnOf x x pg bg sg dV kV doc pm an cdv ct) [a] []) (Sg : FnScope Ng [a] sg) (n0 : Ng[0]? = some a) (va : Vis sg a)
    (GT : GivesN X Ng x sg g cdv bg a (X.env.qual ++ "<lambda>") TT) (TB : TabB X.base X.mg c P) (hc : X.env.code = .ref c) (hT : (P, X.env.qual ++ "<lambda>") ∈ T) (hu : ∀ p ∈ T, p.1 = P → p.2 = X.env.qual ++ "<lambda>") (room : Room (k + 2) X.A) (L : LamS X.env.scope scp) (dfl : defaultsOf prm X.env = ([], []))
    (lb : ∀ (q : Str) (cl : List (Str × Addr)) (pm cv ctv : Value), bindArgs (PySem.W.kla_fn "<lambda>" q prm bd scp cl pm cv ctv) ⟨[], []⟩ = pure [])
    (body : ∀ (A : Around) (up : List Env) (s : Shared) (H : Hp) (E : XK) (f cd : Addr), Room k (A.deeper (lamEnv X scp s.heap.objs.size f cd)) → PE (lamN X A up s H E scp f cd) bd (t E))
    (d0 : (x == ("__debug__" : Str)) = false) (d1 : (a == ("__debug__" : Str)) = false) (d2 : (a == ("__classdict__" : Str)) = false) :
    PE X (.Call (.Name x r1) [.Lambda prm bd scp r2] [] r3) (tLam T TT t) := by
  refine ⟨fun pins s σ H Q I h => wpAny_Call_Name_kw (ld_glob I hg hm (PySem.W.callWith_K (h₀ := X.base) I.ok.mod.kin hk ?_ (by rfl) (by rfl)) d0)⟩
  obtain ⟨tabs, h⟩ := h
  show wpAny _ _ (spliced ((false, eval (.Lambda prm bd scp r2) X.env) :: backTo r3 (starEach [] X.env))) _ _ s
  refine Calls.spliced_cons (lam_make2 I TB hc hT hu tabs dfl (L.has I.ok) fun f cd pm' ctv H1 s1 I1 eN T1 e1 e2 e3 e4 => Calls.spliced_nil ⟨I1.kIn, ?_⟩)
  have run : codeAny (model X.prog X.w) X.A (.call (.ref g) ⟨[.ref f], []⟩) (CR C8.CX0 X.stack X.prog X.w H1 s1 Q C8.E0) s1 := by
    refine run_ofS (N := Ng) (ps := [a]) (us := [.ref f]) (vs := [.ref f]) at_ code Sg room I1.env0 (bnd s1 [.ref f] I1.kIn rfl) (.cons rfl .nil) rfl fun room1 => ?_
    obtain ⟨t1, p1, q1⟩ := GT f cd s1 H1 Q (fun E H' Q' => t E σ H' Q') (fun W pn xe E r1 r2 tk imp => pe_actN (i := 0) I1 L e1 e2 e3 (lb _ _ _ _ _) tk imp room1 (fun A up s H room2 => body A up s H E f cd room2) n0 va d1 d2) e4 (room1.mono (by omega)) (h H1 eN T1)
    exact ⟨t1, p1.nox, q1⟩
  refine wpAny_call (codeAny_mono run fun r s2 zz => ?_)
  cases r with
  | error e => exact (show False from zz).elim
  | ok fl =>
    cases fl with
    | ret u => exact I1.after zz
    | _ => exact False.elim zz
/-- what told is made of -/
def TTo (K : PySem.W.Frag) (mg : Str → Option Value) (CS : Addr) : (XK → Hp → VK → Prop) → Hp → VK → Prop := fun tl H Q =>
  tl (fun cls d H' => PySem.W.exmOne K cls (.ref CS) = some true ∧ ∀ (a : Addr) (oe : Obj), H' a = none → Zc cls d oe → (∃ vs, oe.data = .fields vs) → spW K mg (a, oe) [.ref a] H' Q fun _ _ _ => False) H Q
theorem told_gives {Ng : List Str} {x a e n wd q : Str} {sg : Scope} {g CS fw : Addr} {fdw : FuncData} {cdg : Value} {i : Nat} {r1 r2 r3 r4 r5 r6 r7 r8 r9 r10 : Pos} (nd : Ng.Nodup) (hi : Ng[i]? = some n) (ln : sg.names.lookup n = some .local) (ge : sg.names.lookup e = some .globalImplicit) (me : X.mg e = some (.ref CS)) (de : (e == ("__debug__" : Str)) = false)
    (gw : sg.names.lookup wd = some .globalImplicit) (mw : X.mg wd = some (.ref fw)) (dw : (wd == ("__debug__" : Str)) = false) (kw : PySem.W.keepIn X.K (.ref fw) = true) (bw : L2.Binds X.K fdw ["e"] []) (F : FnW X.prog X.w X.K X.mg X.base C8.CX0 1 fw fdw ["e"] (spW X.K X.mg)) (dn : (n == ("__debug__" : Str)) = false) (dn2 : (n == ("__classdict__" : Str)) = false) (h0 : ∀ f : Addr, (L2.start Ng [V.ref f])[0]? = some (some (V.ref f))) :
    GivesN X Ng x sg g cdg [.Try [.Return (some (.Call (.Name a r1) [] [] r2)) r3] [.ExceptHandler (some (.Name e r4)) (some n) [.Return (some (.Call (.Name wd r5) [.Name n r6] [] r7)) r8] r9] [] [] r10] a q (TTo X.K X.mg CS) := by
  intro f cd s H Q tl act hc room h
  have hgl : Gl (cxOf C8.CX0 X.prog X.w X.K X.mg X.base Ng x sg g cdg X.A X.stack s H C8.E0).nox e := ge
  refine ⟨_, pss_one (L2N.ps_try_as (X := (cxOf C8.CX0 X.prog X.w X.K X.mg X.base Ng x sg g cdg X.A X.stack s H C8.E0).nox) (c := .ref CS) (i := i) (Wout := fun _ _ _ _ => False)
      (tb := fun W D τ H => ∃ E : XK, (∀ c d τ' H', E c d H' → W c d τ' H') ∧ τ[0]? = some (some (.ref f)) ∧ H cd = some (CodeO cd q) ∧ tl E H D.rt)
      (ts := fun a cls d D τ H => (∃ τ0, τ = List.set τ0 i (some (.ref a))) ∧ ∀ oe : Obj, Zc cls d oe → (∃ vs, oe.data = .fields vs) → spW X.K X.mg (a, oe) [.ref a] H D.rt fun _ _ _ => False)
      rfl rfl nd hi ln ⟨hgl, de, .inl me⟩ (fun u s' xx => by obtain ⟨_, _, _, _, _, _, _, _, _, _, _, _, _, _, _, _, z⟩ := xx; exact z.elim) (fun W pn xe tk _ => ?_) (fun a oe cls d pn hz hf => ?_)), ?_⟩
  · refine ⟨fun pins s' τ H' D I zz => ?_⟩
    obtain ⟨E, imp, h1, h2, h3⟩ := zz
    exact (pss_one (ps_ret (pos := r3) (act W pn xe E r1 r2 tk imp))).run pins s' τ H' D I ⟨h1, h2, h3⟩
  · refine pss_one ⟨fun pins s' τ H' D I zz => ?_⟩
    obtain ⟨⟨τ0, rfl⟩, zz⟩ := zz
    have sw := zz oe hz.zc hf
    obtain ⟨vs, hv⟩ := id hf
    have sv : (List.set τ0 i (some (V.ref a)))[i]? = some (some (.ref a)) := by
      have hl : (List.set τ0 i (some (V.ref a))).length = Ng.length := I.len
      rw [List.length_set] at hl
      have h2 := (List.getElem?_eq_some_iff.mp hi).1
      simp [hl, h2]
    refine (ps_ret (pos := r8) (pe_callW (X := (cxOf C8.CX0 X.prog X.w X.K X.mg X.base Ng x sg g cdg X.A X.stack s H C8.E0).nox.suite a ((a, oe) :: pn)) (p := (a, oe)) (E := fun _ _ _ _ => False) (q0 := r5) (pos := r7) F (roomH_mark room _) ⟨rfl, vs, hv, hz.2.2 vs hv⟩ List.mem_cons_self gw mw kw bw (fun τ => ?_) (pa_cons (pe_var (pos := r6) hi (.inl ln) dn dn2) pa_nil) dw rfl rfl)).run pins s' _ H' D I ⟨_, sv, sw⟩
    intro _ _ _ _ _ _ z
    exact (show False from z).elim
  · refine ⟨_, fun cls d τ' H' z => ?_, h0 f, hc, h⟩
    obtain ⟨z1, z2⟩ := z
    exact ⟨true, z1, fun _ a na => ⟨⟨_, rfl⟩, fun oe hz hf => z2 a oe na hz hf⟩, fun z => nomatch z⟩
end
end Mp

/-! Mp13: told(lambda: e); an exception that bears a word is raised. -/
namespace Mp
open PySem PySem.Spec L2 LamX PyProof.Rows L2H
section
variable {X : Cx} {G : Wd} {W : WX}
theorem RH.lam {H H1 : Hp} {as : List Addr} {h : DH} (rh : RH G H as h) (e : ExtN H H1) (t : Tabs G.T H1) : Ext H as H1 as ∧ RH G H1 as h := by
  have x : Ext H as H1 as := ⟨⟨fun _ _ e => e, fun a xs z => ?_, fun a o u z => e _ _ z fun _ w => nomatch w⟩, fun a o z _ k => e a o z k, fun _ z => .inl z⟩
  · refine ⟨x, rh.len, rh.nd, fun i a o e1 e2 => ?_, t⟩
    have q := rh.ob i a o e1 e2
    obtain ⟨u, eu, ku⟩ := q.there
    exact q.mono x.toEx0 ((e a u eu fun ps z => by subst z; cases ku).trans eu.symm)
  · rcases z with z | ⟨o, z⟩
    · exact .inl (e _ _ z fun _ w => nomatch w)
    · exact .inr ⟨o, e _ _ z fun _ w => nomatch w⟩
/-- the def that names a refusal -/
def WordF (K : PySem.W.Frag) (mg : Str → Option Value) (wd : Str) : Prop := ∃ (fw : Addr) (fdw : FuncData), mg wd = some (.ref fw) ∧ PySem.W.keepIn K (.ref fw) = true ∧ L2.Binds K fdw ["e"] [] ∧ ∀ (P : Program) (w : World) (base : Heap), FnW P w K mg base C8.CX0 1 fw fdw ["e"] (spW K mg)
/-- what told is: its def in the written part -/
structure ToldF (K : PySem.W.Frag) (mg : Str → Option Value) (x e wd : Str) : Prop where
  wf : WordF K mg wd
  dw : (wd == ("__debug__" : Str)) = false
  ex : ∃ (g CS : Addr) (pg : Arguments) (sg : Scope) (dV kV doc pm cdv ct oc : Value) (an od : Option Addr) (osl : Array (Option Value)) (Ng : List Str) (a n : Str) (i : Nat) (p1 p2 p3 p4 p5 p6 p7 p8 p9 p10 : Pos),
    mg x = some (.ref g) ∧ PySem.W.keepIn K (.ref g) = true ∧
    K.lookup g = some ⟨oc, od, .func (PySem.W.fnOf x x pg [.Try [.Return (some (.Call (.Name a p1) [] [] p2)) p3] [.ExceptHandler (some (.Name e p4)) (some n) [.Return (some (.Call (.Name wd p5) [.Name n p6] [] p7)) p8] p9] [] [] p10] sg dV kV doc pm an cdv ct), osl⟩ ∧
    PySem.W.codeIn K cdv x = true ∧ L2.Binds K (PySem.W.fnOf x x pg [.Try [.Return (some (.Call (.Name a p1) [] [] p2)) p3] [.ExceptHandler (some (.Name e p4)) (some n) [.Return (some (.Call (.Name wd p5) [.Name n p6] [] p7)) p8] p9] [] [] p10] sg dV kV doc pm an cdv ct) [a] [] ∧
    FnScope Ng [a] sg ∧ Ng[0]? = some a ∧ Vis sg a ∧ Ng[i]? = some n ∧ sg.names.lookup n = some .local ∧ sg.names.lookup e = some .globalImplicit ∧ sg.names.lookup wd = some .globalImplicit ∧ mg e = some (.ref CS) ∧ (e == ("__debug__" : Str)) = false ∧ (a == ("__debug__" : Str)) = false ∧ (a == ("__classdict__" : Str)) = false ∧ (n == ("__debug__" : Str)) = false ∧ (n == ("__classdict__" : Str)) = false
/-- a class that told can name -/
structure ToldC (K : PySem.W.Frag) (mg : Str → Option Value) (e : Str) (D : Addr) (j : Nat) : Prop where
  cs : ∀ CS, mg e = some (.ref CS) → PySem.W.exmOne K (.ref D) (.ref CS) = some true
  six : SixC K mg D (hot6 j)
  wrd : j = 5 → PySem.W.findIn K (.ref D) "word" = some none
theorem start0 {Ng : List Str} (f : Addr) : (L2.start Ng [V.ref f])[0]? = some (some (V.ref f)) := rfl
theorem w5_str {j : Nat} {nm : Tx} (h : tW5[j]? = some nm) : W6[j]? = some ⟨nm.toArray⟩ := by
  rcases (by
    have := (List.getElem?_eq_some_iff.mp h).1
    have : j < 5 := this
    omega : j = 0 ∨ j = 1 ∨ j = 2 ∨ j = 3 ∨ j = 4) with rfl | rfl | rfl | rfl | rfl <;> (cases h; rfl)
theorem tref_str : (Str.ofString "refused") = ⟨tREF.toArray⟩ := by rfl
theorem tfault_str : (Str.ofString "Fault") = ⟨tFAULT.toArray⟩ := by rfl
theorem tE_told {tt : Nat → Option Nat} {x e wd : Str} {c P : Addr} {k : Nat} {params : Arguments} {body : Expr} {scope : Scope} {mb : M} {p lpos pos : Pos} (hK : X.K = G.K) (TF : ToldF X.K X.mg x e wd) (TC : ∀ c j, tt c = some j → ToldC X.K X.mg e (G.cls c) j) (hg : Gl X x)
    (TB : TabB X.base X.mg c P) (hcode : X.env.code = .ref c) (hmT : (P, X.env.qual ++ "<lambda>") ∈ G.T) (hu : ∀ q ∈ G.T, q.1 = P → q.2 = X.env.qual ++ "<lambda>") (hr : Room (k + 2) X.A) (L : LamS X.env.scope scope) (hdef : defaultsOf params X.env = ([], []))
    (hbind : ∀ (q : Str) (cl : List (Str × Addr)) (pm cv ctv : Value), bindArgs (PySem.W.kla_fn "<lambda>" q params body scope cl pm cv ctv) ⟨[], []⟩ = pure [])
    (hbody : ∀ (A : Around) (outer : List Env) (s : Shared) (H : Hp) (E : XK) (f c' : Addr), Room k (A.deeper (lamEnv X scope s.heap.objs.size f c')) → PE (lamN X A outer s H E scope f c') body (tE G (fun c d _ H => E c d H) mb))
    (hdb : (x == ("__debug__" : Str)) = false) :
    PE X (.Call (.Name x p) [.Lambda params body scope lpos] [] pos) (tE G W (mTold tt mb)) := by
  obtain ⟨g, CS, pg, sg, dV, kV, doc, pm, cdv, ct, oc, an, od, osl, Ng, a, n, i, p1, p2, p3, p4, p5, p6, p7, p8, p9, p10, hm, hk, lk, hcg, hb, Sg, hNg, hva, hi, hln, hge, hgw, hme, hde, hda, hca, hdn, hcn⟩ := TF.ex
  obtain ⟨fw, fdw, mw, kw, bw, FW⟩ := TF.wf
  refine PE.imp (pe_lamN (t := fun E => tE G (fun c d _ H => E c d H) mb) hg hm hk lk hcg hb Sg hNg hva (told_gives Sg.nd hi hln hge hme hde hgw mw TF.dw kw bw (FW _ _ _) hdn hcn start0) TB hcode hmT hu hr L hdef hbind hbody hdb hda hca) fun σ H Q q => ?_
  obtain ⟨as, h, en, rh, re, ob⟩ := q
  refine ⟨rh.tab, fun H1 eN T1 => ?_⟩
  obtain ⟨x1, rh1⟩ := rh.lam eN T1
  refine ⟨as, h, en, rh1, re.mono x1.toEx0, ?_⟩
  dsimp only at ob ⊢
  unfold mTold at ob
  cases q : mb en h with
  | ok d h1 => rw [q] at ob; exact OutR.mono ob x1
  | err => rw [q] at ob; exact ob.elim
  | exc c w h1 =>
    rw [q] at ob
    dsimp only at ob
    intro dx H2 as2 x2 er rh2
    unfold toldT at ob
    cases qt : tt c with
    | none => rw [qt] at ob; exact ob.elim
    | some j =>
      rw [qt] at ob
      have tc := TC c j qt
      refine ⟨tc.cs CS hme, fun ae oe na hz hf => ⟨rfl, G.cls c, dx, j, hz, hf, tc.six, ?_⟩⟩
      have fin : ∀ (v : V) (d : D) (H3 : Hp), keepsH H2 H3 → (∀ as3, Ex0 H2 as2 H3 as2 → RV G.K H3 as2 v d) → (∀ v' H' as', Ext H as H' as' → RV G.K H' as' v' d → RH G H' as' h1 → Q v' H') → Q v H3 := fun v d H3 k3 rv o => by
        obtain ⟨x3, rh3⟩ := rh2.lam (fun b o hb _ => k3 b o hb) (rh2.tab.ext k3)
        exact o v H3 as2 (x1.trans (x2.trans x3)) (rv as2 x3.toEx0) rh3
      cases w with
      | none =>
        have er : dx = none := er
        refine ⟨.inl er, .inl ?_⟩
        dsimp only at ob
        by_cases hj : j < 5
        · rw [if_pos hj] at ob
          cases qn : tW5[j]? with
          | none => rw [qn] at ob; exact ob.elim
          | some nm =>
            rw [qn] at ob
            refine ⟨hj, _, w5_str qn, fun t H3 k3 e3 => fin _ _ H3 k3 (fun _ x3 => .tup (.inl (.inl e3)) ?_) ob⟩
            rw [tref_str]
            exact .cons (.str _) (.cons (.str _) .nil)
        · rw [if_neg hj] at ob
          exact ob.elim
      | some d =>
        obtain ⟨dd, v, ed, e1, rv⟩ := er
        refine ⟨.inr ⟨dd, _, ed, e1⟩, .inr ?_⟩
        dsimp only at ob
        by_cases hj : j = 5
        · rw [if_pos hj] at ob
          refine ⟨hj, tc.wrd hj, dd, v, ed, e1, fun t H3 k3 e3 => fin _ _ H3 k3 (fun _ x3 => .tup (.inl (.inl e3)) ?_) ob⟩
          rw [tref_str, tfault_str]
          exact .cons (.str _) (.cons (.str _) (.cons (rv.mono x3) .nil))
        · rw [if_neg hj] at ob
          exact ob.elim
end
end Mp

/-! Hx10: an exception with a word is made and raised. -/
namespace Mp
open PySem PySem.Spec L2 LamX PyProof.Rows L2H
/-- the class, looked at -/
def oexB (K : PySem.W.Frag) (C : Addr) : Bool := (match K.lookup C with
  | some ⟨.type "type", _, .cls cd, sl⟩ => (match cd.mro, sl.toList with
    | .ref C' :: bm, [_, _, _, _, some (.builtin n), _] => C' == C && (n == "ValueError.__new__" && (!cd.hasDel && (cd.hasDict && PySem.HandSPX.refsVE bm)))
    | _, _ => false)
  | _ => false) && (decide (PySem.W.findIn K (.ref C) "__setattr__" = some (some (.builtin "object.__setattr__"))) && (decide (PySem.W.subIn K (.ref C) (.type "BaseException") = some true) && (decide (PySem.W.typeIn K (.ref C) = some (.type "type")) && PySem.W.keepIn K (.ref C))))
theorem oexB_ok {K : PySem.W.Frag} {C : Addr} (h : oexB K C = true) : OexC K C := by
  unfold oexB at h
  simp only [Bool.and_eq_true, decide_eq_true_eq] at h
  obtain ⟨h1, h2, h3, h4, h5⟩ := h
  refine ⟨?_, h2, h3, h4, h5⟩
  split at h1
  · rename_i dd cd sl ho
    split at h1
    · rename_i C' bm k0 k1 k2 k3 n k5 hm hs
      simp only [Bool.and_eq_true, beq_iff_eq, Bool.not_eq_true'] at h1
      obtain ⟨rfl, rfl, hdel, hd, hr⟩ := h1
      obtain ⟨nm, bs, mro, ns, qn, hdc, sn, sub, ab, col, del⟩ := cd
      dsimp only at hm hdel hd
      subst hm hdel hd
      have hsl : sl = #[k0, k1, k2, k3, some (.builtin "ValueError.__new__"), k5] := by
        obtain ⟨l⟩ := sl
        simp only at hs
        rw [hs]
      subst hsl
      exact ⟨nm, qn, ns, bs, bm, sn, sub, ab, col, dd, k0, k1, k2, k3, k5, ho, hr⟩
    · cases h1
  · cases h1
/-- its __init__: self.word = word -/
def initV : List Stmt → Bool
  | [.Assign [.Attribute (.Name a _) f _] (.Name b _) _] => decide (a = "self") && (decide (f = "word") && decide (b = "word"))
  | _ => false
theorem initV_ok {b : List Stmt} (h : initV b = true) : ∃ p1 p2 p3 p4, b = [.Assign [.Attribute (.Name "self" p1) "word" p2] (.Name "word" p3) p4] := by
  unfold initV at h
  split at h
  · simp only [Bool.and_eq_true, decide_eq_true_eq] at h
    obtain ⟨rfl, rfl, rfl⟩ := h
    exact ⟨_, _, _, _, rfl⟩
  · cases h
def spI (C : Addr) : Sp := fun vs H Q _ => ∃ (a : Addr) (v : V), vs = [.ref a, v] ∧ H a = some (exo a C none) ∧ ∀ dx, H dx = none → dx ≠ a → Q .non (upd (upd H dx (exd dx [("word", v)])) a (exo a C (some dx)))
theorem init_fn {CX : CXT} {P : Program} {w : World} {K : PySem.W.Frag} {mg : Str → Option Value} {base : Heap} {k : Nat} {f C : Addr} {nm ql : Str} {pa : Arguments} {bd : List Stmt} {sc : Scope} {dV kV doc pm cdv ct oc : Value} {an od : Option Addr} {osl : Array (Option Value)}
    (at_ : K.lookup f = some ⟨oc, od, .func (PySem.W.fnOf nm ql pa bd sc dV kV doc pm an cdv ct), osl⟩) (code : PySem.W.codeIn K cdv ql = true) (hb : initV bd = true) (S : FnScope ["self", "word"] ["self", "word"] sc) (v0 : Vis sc "self") (v1 : Vis sc "word") (T : OexC K C) (hno : PySem.W.findIn K (.ref C) "word" = some none) :
    FnOk P w K mg base CX (k + 1) f (PySem.W.fnOf nm ql pa bd sc dV kV doc pm an cdv ct) ["self", "word"] (spI C) := by
  obtain ⟨p1, p2, p3, p4, rfl⟩ := initV_ok hb
  refine fn_of at_ code S (fun vs H Q E h => by obtain ⟨a, v, rfl, _⟩ := h; rfl) fun A up s H vs Q E room h => ?_
  obtain ⟨a, v, rfl, e, h⟩ := h
  refine ⟨_, pss_one (ps_ost (pe_var (i := 0) rfl v0) (pe_var (i := 1) rfl v1)), _, rfl, _, rfl, a, C, rfl, T, hno, .inl ⟨e, fun dx n ne => h dx n ne⟩⟩
section
variable {X : Cx} {e : Expr} {es : List Expr} {ta : TA} {q1 q2 : Pos}
theorem pmk_oexN {x : Str} {C fI : Addr} {k : Nat} {fd : FuncData} {ps : List Str} {sp : Sp} (T : OexC X.K C) (iC : PySem.W.findIn X.K (.ref C) "__init__" = some (some (.ref fI))) (tI : PySem.W.typeIn X.K (.ref fI) = some (.type "function"))
    (F1 : FnOk X.prog X.w X.K X.mg X.base C8.CX0 k fI fd ps sp) (room : Room (k + 1) X.A) (bnd : L2.Binds X.K fd ps []) (hg : Gl X x) (hm : X.mg x = some (.ref C)) (ha : PA X (e :: es) ta)
    (d0 : (x == ("__debug__" : Str)) = false) (st : starEach (e :: es) X.env = (false, eval e X.env) :: starEach es X.env) (pl : (backTo q2 (starEach es X.env)).any (·.1) = false) :
    L2N.PMk X (.Call (.Name x q1) (e :: es) [] q2) (tMkO C sp [] ta) := by
  intro pins s σ H Q I h
  obtain ⟨nm, qn, N, bs, bm, sn, sub, ab, col, dd, k0, k1, k2, k3, k5, hC, hbm⟩ := T.cls
  refine wpAny_Call_Name_kw (ld_glob I hg hm (PySem.W.callWith_K (h₀ := X.base) I.ok.mod.kin T.kC (thn (ha.run q2 pins s σ H _ I h) fun us s1 zz => ?_) st pl) d0)
  obtain ⟨vs, H1, I1, rv, hz, hq⟩ := zz
  refine ⟨I1.kIn, ?_⟩
  show wpAny _ _ (call (.ref C) us) _ _ _
  obtain ⟨hp, g, dr, tk, os⟩ := s1
  obtain ⟨a, ea⟩ : ∃ a, a = hp.objs.size + 1 := ⟨_, rfl⟩
  have sz : hp.objs.size ≤ a := by omega
  have na : H1 a = none := I1.hok.fresh sz
  have hq := hq a na
  rw [List.append_nil] at hq
  have kk : ∀ b o, hp.get? b = some o → ((hp.push (PySem.W.kdv_tup us)).push (PySem.HandSPX.excO C hp.objs.size)).get? b = some o := fun b o z => Heap.get?_push_of_some _ (Heap.get?_push_of_some _ z)
  have get : ((hp.push (PySem.W.kdv_tup us)).push (PySem.HandSPX.excO C hp.objs.size)).get? a = some (PySem.HandSPX.excO C hp.objs.size) := by rw [ea]; heap_get
  have I2 := I1.laid (t' := tk) (a := a) (o := exo a C none) kk sz (exo_ok get)
  have r2 : Vals (V.ref a :: vs) (Value.ref a :: us) := .cons rfl rv
  have ln : (Value.ref a :: us ++ []).length = ps.length := by
    have z := r2.length
    rw [F1.len _ _ _ _ hq] at z
    rw [List.append_nil]
    exact z.symm
  have lu : us.length ≤ sizeLine := by
    rw [← Paired.length rv, sizeLine_eq]
    omega
  have b2 := bnd _ (Value.ref a :: us) I2.kIn ln
  rw [List.append_nil] at b2
  rw [ea] at *
  refine wpAny_call (PySem.HandSPX.call_own F.excBase_ValueError (fun Y => PySem.HandSPX.refsVE_contains Y bm hbm) (I1.kIn _ _ hC) (PySem.W.looks_findIn I1.kIn iC) (fun self => PySem.W.bind_fn I1.kIn self tI) lu
    (codeAny_mono (F1.run _ X.stack _ _ ⟨_, []⟩ _ _ _ (fun _ _ _ => False) (room.make C us []) (I2.env0.make C us []) b2 r2 hq) fun r s2 zz => ?_))
  cases r with
  | error er => exact (show False from zz).elim
  | ok fl =>
    cases fl with
    | ret u =>
      obtain ⟨v, H2, os2, bare2, un2, hok2, ru, rfl, d, fs, e1, e2, e3, q2⟩ := zz
      obtain ⟨h2, g2, d2, t2, os'⟩ := s2
      obtain ⟨t0, Gh, J, kG, ge, hoe, ng⟩ := mk_end0 (d2 := d2) (t2 := t2) I1 sz kk un2 hok2 os2 bare2 e1 e2 e3
      exact ⟨ru, _, _, _, ⟨Gh, g2, d2, t2, os'⟩, _, .ref C, some d, rfl, J, kG, ge, hoe, ⟨rfl, rfl, fun vs hv => by cases hv; rfl⟩, rfl, rfl, ng, rfl, bare2, raises_own T.exC T.tyC, q2⟩
    | _ => exact False.elim zz
theorem heap_end {H : Hp} {a d : Addr} {o1 o2 o3 o4 : HO} (na : H a = none) (ne : d ≠ a) : upd (del (upd (upd (upd H a o1) d o2) a o3) a) d o4 = upd H d o4 := by
  funext b
  by_cases hd : b = d
  · rw [hd, upd_same, upd_same]
  · rw [upd_ne hd, upd_ne hd]
    by_cases ha : b = a
    · rw [ha, del_same, na]
    · rw [del_ne ha, upd_ne ha, upd_ne hd, upd_ne ha]
variable {G : Wd} {W : WX} {ma : M}
/-- what an exception class with a word is -/
structure ExW (K : PySem.W.Frag) (mg : Str → Option Value) (x : Str) (C : Addr) : Prop where
  mg : mg x = some (.ref C)
  oex : OexC K C
  ini : ∃ (fI : Addr) (fd : FuncData), PySem.W.findIn K (.ref C) "__init__" = some (some (.ref fI)) ∧ PySem.W.typeIn K (.ref fI) = some (.type "function") ∧ L2.Binds K fd ["self", "word"] [] ∧ ∀ (P : Program) (w : World) (m : Str → Option Value) (base : Heap), FnOk P w K m base C8.CX0 1 fI fd ["self", "word"] (spI C)
theorem tS_raiseW {x : Str} {cn : Nat} {ps2 : Pos} (hc : X.calm = true) (tk : L2N.Takes X W) (xw : ExW X.K X.mg x (G.cls cn)) (room : Room 2 X.A) (hg : Gl X x) (d0 : (x == ("__debug__" : Str)) = false) (pa : PE X e (tE G W ma)) (hs : noStar e = true) :
    PS X (.Raise (some (.Call (.Name x q1) [e] [] q2)) none ps2) (tS G W (sRaiseW cn ma)) := by
  obtain ⟨fI, fd, h1, h2, h3, h4⟩ := xw.ini
  refine PS.imp (L2N.ps_raise hc tk (pmk_oexN xw.oex h1 h2 (h4 _ _ _ _) room h3 hg xw.mg (pa_cons pa pa_nil (star1 hs)) d0 (star1 hs) rfl)) fun D σ H q => ?_
  obtain ⟨as, h, en, rh, re, ob⟩ := q
  refine ⟨as, h, en, rh, re, ?_⟩
  dsimp only at ob ⊢
  unfold sRaiseW at ob
  cases q : ma en h with
  | err => rw [q] at ob; exact ob.elim
  | exc c w h1 => 
    rw [q] at ob
    intro dx H1 as1 x1 er rh1
    exact ob dx σ H1 as1 x1 er (re.mono x1.toEx0) rh1
  | ok d h1 =>
    rw [q] at ob
    intro v H1 as1 x1 rv rh1
    refine ⟨by show 1 ≤ 1000; decide, fun a na => ⟨a, v, rfl, upd_same, fun dx ndx ne => ⟨rfl, dx, [("word", v)], upd_same, ?_, ?_, ?_⟩⟩⟩
    · rw [upd_ne ne, upd_same]
    · have z := upd_ne (H := H1) (o := exo a (G.cls cn) none) ne
      rw [← z]
      exact ndx
    · rw [heap_end na ne]
      have n1 : H1 dx = none := by
        have z := upd_ne (H := H1) (o := exo a (G.cls cn) none) ne
        rw [← z]
        exact ndx
      obtain ⟨x2, rh2⟩ := rh1.laid (u := .xd [("word", v)]) n1
      exact ob (some dx) σ _ as1 (x1.trans x2) ⟨dx, v, rfl, upd_same, rv.mono x2.toEx0⟩ ((re.mono x1.toEx0).mono x2.toEx0) rh2
end
end Mp

/-! Hy1: enumerate of a list or a tuple; a dict of the module. -/
namespace Mp
open PySem L2 LamX PyProof.Rows
/-! ### enumerate(a tuple) -/
theorem enum_new1 {v : Value} {ob : Obj} {Hd : Heap → Prop} (Bg : Begins v ob Hd) :
    Meets (Builtin.«enumerate.__new__» ⟨[.type "enumerate", v], []⟩) (fun _ R s => Hd s.heap ∧
      R (.ok (.ret (.ref (s.heap.push ob).objs.size))) { s with heap := (s.heap.push ob).push { cls := .type "enumerate", data := .fields #[.none, .bool false, .ref s.heap.objs.size, rawInt 0, .none, .none] } }) :=
  .of_wp fun prog w A R s hR => by
    obtain ⟨hp, g, d, tk, os⟩ := s; obtain ⟨hB, hR⟩ := hR
    have hsub := sub_enumerate
    have it1 : ∀ {A' : Around} {E : Value → Shared → Prop} {Q : Value → Shared → Prop}, Q (.ref hp.objs.size) ⟨hp.push ob, g, d, tk, os⟩ → wpAny (model prog w) A' (pyIter v) Q E ⟨hp, g, d, tk, os⟩ :=
      fun q => Bg.iter prog w _ _ ⟨hp, g, d, tk, os⟩ _ hB q
    wp_walk using it1
    refine wpAny_stack_any fun st => wpAny_pure ?_
    split
    · rename_i c _ _ _ _ _
      cases (c == Value.type "enumerate")
      · wp_walk using it1
        exact ⟨_, rfl, hR⟩
      · wp_walk using it1
        exact ⟨_, rfl, hR⟩
    · wp_walk using it1
      exact ⟨_, rfl, hR⟩
theorem enum_call1 {prog : Program} {w : World} {A : Around} {E : Value → Shared → Prop} {s : Shared} {v : Value} {ob : Obj} {Hd : Heap → Prop} {Q : Value → Shared → Prop} (Bg : Begins v ob Hd) (hB : Hd s.heap)
    (go : ∀ h', IsEnum h' (s.heap.objs.size + 1) s.heap.objs.size 0 .none → h'.get? s.heap.objs.size = some ob → (∀ b o, s.heap.get? b = some o → h'.get? b = some o) → Q (.ref (s.heap.objs.size + 1)) { s with heap := h' }) :
    wpAny (model prog w) A (call (.type "enumerate") [v]) Q E s := by
  refine callType_new F.called_enumerate (by decide) (F.typeCall_enumerate_1 _) (F.newCall_enumerate_1 _) (fun obj => F.args_object_init_2 obj _) F.entry_enumerate_new (enum_new1 Bg) ⟨hB, ?_⟩
  have sz : (s.heap.push ob).objs.size = s.heap.objs.size + 1 := Heap.size_push ..
  show _ ∧ _
  rw [sz]
  have ie : IsEnum ((s.heap.push ob).push { cls := .type "enumerate", data := .fields #[.none, .bool false, .ref s.heap.objs.size, rawInt 0, .none, .none] }) (s.heap.objs.size + 1) s.heap.objs.size 0 .none := by
    have z := Heap.get?_push_size (s.heap.push ob) (o := { cls := .type "enumerate", data := .fields #[.none, .bool false, .ref s.heap.objs.size, rawInt 0, .none, .none] }) rfl
    rw [sz] at z
    exact z
  exact ⟨⟨_, ie, rfl⟩, go _ ie (Heap.get?_push_of_some _ (Heap.get?_push_size _ Bg.free)) fun b o q => Heap.get?_push_of_some _ (Heap.get?_push_of_some _ q)⟩
theorem enum_endT {prog : Program} {w : World} {A : Around} {E : Value → Shared → Prop} {s : Shared} {e it a : Addr} {j : Nat} {its : Array Value} {i : Int} {old : Value} {Q : Option Value → Shared → Prop} (hh : A.in1.handled = none) (ie : IsEnum s.heap e it i old) (ii : s.heap.IsTupleIter it a j) (ta : s.heap.IsTuple a its) (hj : its[j]? = none)
    (go : ∀ h', Heap.ExtBut it s.heap h' → Q none { s with heap := h' }) : wpAny (model prog w) A (pyNext (.ref e)) Q E s := by
  have ty : s.TypeIs (.ref e) "enumerate" := ⟨_, ie, rfl⟩
  unfold pyNext
  refine wpAny_bind (wpAny_attempt (wpAny_callSpecial?_slot (name := Str.ofString "__next__") ty F.slot_enumerate_next (wpAny_call_entry F.slot_enumerate_next ty F.entry_enumerate_next ?_ (F.args_enumerate_next_1 _))))
  show wpAny _ _ (field (.ref e) 2 >>= _) _ _ _
  refine wpAny_bind (wpAny_field ie rfl (x := .ref it) rfl ?_)
  refine wpAny_bind (wpAny_nextOf_tuple_end hh ii ta hj fun h' x ex hx => ?_)
  obtain ⟨o, ho, hc⟩ := hx
  refine wpAny_bind (wpAny_isInstance (T := "StopIteration") (b := true) ⟨o, ho, hc⟩ isSubtype_stop ?_)
  exact wpAny_pure (go _ ex)
def IteT (K : PySem.W.Frag) (a : Addr) : It :=
  ⟨fun i H => ∃ (ys : List V) (y : V), SqT K H a ys ∧ ys[i]? = some y, fun i H v H' => ∃ T y, v = .ref T ∧ H T = none ∧ H' = upd H T (.tup [.int (i : Nat), y]) ∧ ∀ ys, SqT K H a ys → ys[i]? = some y, fun i H => ∃ ys : List V, SqT K H a ys ∧ ys.length ≤ i⟩
theorem turn_enumT {P : Program} {w : World} {K : PySem.W.Frag} {elts : List Expr} {kk : Nat} {tpos : Pos} (a e it : Addr) :
    Turn P w K (.Tuple elts kk tpos) (IteT K a) [e, it] e (fun i h => (∃ old, IsEnum h e it ((i : Nat) : Int) old) ∧ h.IsTupleIter it a i ∧ e ≠ it ∧ a ≠ it ∧ a ≠ e) where
  mem := by simp
  obj := fun i h st b hb => by
    obtain ⟨⟨old, he⟩, ⟨o, ho, hc, hd⟩, _⟩ := st
    have eb : b = e ∨ b = it := by simpa using hb
    rcases eb with z | z
    · rw [z]; exact ⟨_, he, fun v q => nomatch q⟩
    · rw [z]; exact ⟨o, ho, fun v q => by rw [hd] at q; cases q⟩
  keep := fun i h h' st k => by
    obtain ⟨⟨old, he⟩, hi, hne⟩ := st
    exact ⟨⟨old, k e (by simp) _ he⟩, hi.at fun o q => k it (by simp) o q, hne⟩
  item := by
    intro X hP hw hK hc i pins s σ H E I hf st hg
    subst hP hw hK
    obtain ⟨⟨old, he⟩, hit, hne, ha1, ha2⟩ := st
    obtain ⟨ys, y, hq, hy⟩ := hg
    obtain ⟨its, rv, p, hz⟩ := I.tuple hq
    obtain ⟨u, hu, ru⟩ := rv.get hy
    have hel : e < s.heap.objs.size := Heap.lt_size he
    have hil : it < s.heap.objs.size := by obtain ⟨_, q, _⟩ := hit; exact Heap.lt_size q
    have hlt : i < its.toArray.size := by rw [List.size_toArray]; exact (List.getElem?_eq_some_iff.mp hu).1
    refine wpAny_pyNext_enum_itemD (Draws.tuple (A := X.A.in1) (I.ok.hd hc) it a ha1 its.toArray) he ⟨hit, p⟩ hlt hne (by simp [hne, Ne.symm ha2]) fun u' h' tk hu' ho st' hT hsz hk => ?_
    have eu : u' = u := by
      have z : its.toArray[i]? = some u := by simpa using hu
      rw [z] at hu'
      exact (Option.some.inj hu').symm
    subst eu
    refine ⟨_, rfl, wpAny_letOwnedTupleGo_enum (s := { s with heap := h', toks := tk + 1 }) ho fun h'' he' sb => ?_⟩
    have hT2 : h''.get? s.heap.objs.size = some { cls := .type "tuple", data := .seq #[.int i tk, u'] } := (sb.2 _ (Nat.ne_of_gt hel)).trans hT
    have new : ObjOk X.prog X.w (upd H s.heap.objs.size (.tup [.int (i : Nat), y])) h'' s.heap.objs.size (.tup [.int (i : Nat), y]) :=
      ⟨by show 2 ≤ sizeLine; decide, [.int i tk, u'], .cons ⟨_, rfl⟩ (.cons ru .nil), ⟨_, hT2, rfl, _, rfl⟩⟩
    have I1 : Inv X pins σ (upd H s.heap.objs.size (.tup [.int (i : Nat), y])) { s with heap := h'', toks := tk + 1 } :=
      I.turnedNew (ch := [e, it]) (fun b ob hb q => (sb.2 b (fun z => hb (by simp [z]))).trans (hk b ob (fun z => hb (by simp [z])) (fun z => hb (by simp [z])) q)) hf (Nat.le_refl _) new
    refine ⟨.ref s.heap.objs.size, _, I1, rfl, ⟨_, y, rfl, I.hok.fresh (Nat.le_refl _), rfl, fun zs hzs => by rw [I.tuple_inj hzs hq]; exact hy⟩, ⟨⟨u', ?_⟩, st'.1.at fun o q => (sb.2 it (Ne.symm hne)).trans q, hne, ha1, ha2⟩, fun b hb => ?_⟩
    · have e1 : ((i + 1 : Nat) : Int) = (i : Int) + 1 := by omega
      rw [e1]; exact he'
    · have hb' : b < s.heap.objs.size := by
        have eb : b = e ∨ b = it := by simpa using hb
        rcases eb with z | z
        · rw [z]; exact hel
        · rw [z]; exact hil
      rw [upd_ne (Nat.ne_of_lt hb')]
      exact (hf b hb).1
  done := by
    intro X hP hw hK hc i pins s σ H E I hf st hg
    subst hP hw hK
    obtain ⟨⟨old, he⟩, hit, hne, ha1, ha2⟩ := st
    obtain ⟨ys, hq, hy⟩ := hg
    obtain ⟨its, rv, p, hz⟩ := I.tuple hq
    obtain ⟨f0, f1, f2, f3, f4, f5⟩ := hf it (by simp)
    have hl := rv.length
    exact enum_endT (I.ok.hd hc) he hit p (by simp; omega) fun h' eb => ⟨rfl, I.turned (t' := s.toks) (fun b o hb q => eb b o hb q) f0 f1 f3 f4 f5⟩
  self := fun A i s Q E st h => by
    obtain ⟨⟨_, he⟩, _⟩ := st
    exact wpAny_pyIter_enum he h
def iEnumT (K : PySem.W.Frag) (ta : TA) : TI := fun σ H R => ta σ H fun vs H1 => ∃ a ys, vs = [.ref a] ∧ SqT K H1 a ys ∧ R (IteT K a) H1
theorem pi_enumT {X : Cx} {e : Expr} {ta : TA} {p pos tpos : Pos} {elts : List Expr} {kk : Nat} (hg : Gl X "enumerate") (hm : X.mg "enumerate" = none) (ha : PA X [e] ta) (hs : starEach [e] X.env = [(false, eval e X.env)] := by rfl) :
    PI X (.Tuple elts kk tpos) (.Call (.Name "enumerate" p) [e] [] pos) (iEnumT X.K ta) := by
  refine ⟨fun pins s σ H R I h => ?_⟩
  refine Call_ (ld_blt I hg hm boot_enumerate (PyProof.Rows.callWith_type1 (thn (ha.run pos pins s σ H _ I h) fun us s1 hu => ?_) hs rfl))
  obtain ⟨vs, H1, I1, r1, a, ys, ev, hq, q⟩ := hu
  subst ev
  cases r1 with
  | cons r rr =>
    cases rr
    cases r
    obtain ⟨its, rv, pt, hz⟩ := I1.tuple hq
    have hal : a < s1.heap.objs.size := by obtain ⟨_, z, _⟩ := pt; exact Heap.lt_size z
    refine enum_call1 (begins_tuple a its.toArray) pt fun h' ie hit hk => wpAny_pyIter_enum ie ?_
    have I2 : Inv X pins σ H1 { s1 with heap := h' } := I1.kept (t' := s1.toks) hk
    refine ⟨s1.heap.objs.size + 1, [s1.heap.objs.size + 1, s1.heap.objs.size], _, _, H1, rfl, I2, turn_enumT a (s1.heap.objs.size + 1) s1.heap.objs.size, ⟨⟨.none, ie⟩, ⟨_, hit, rfl, rfl⟩, Nat.succ_ne_self _, Nat.ne_of_lt hal, Nat.ne_of_lt (Nat.lt_succ_of_lt hal)⟩, fun b hb => ?_, q⟩
    have eb : b = s1.heap.objs.size + 1 ∨ b = s1.heap.objs.size := by simpa using hb
    have hle : s1.heap.objs.size ≤ b := by
      rcases eb with z | z
      · rw [z]; exact Nat.le_add_right _ _
      · rw [z]; exact Nat.le_refl _
    exact I1.fpOk hle (I1.hok.fresh hle)
/-! ### the walk -/
section
variable {X : Cx} {G : Wd} {W : WX} {a b c e : Expr} {ma mb mc : M} {pos p tpos : Pos} {H : Hp} {as : List Addr} {elts : List Expr} {kk : Nat}
theorem enumD_len : ∀ (n : Nat) (xs : List D), (enumD n xs).length = xs.length
  | _, [] => rfl
  | n, x :: r => by simp [enumD, enumD_len (n + 1) r]
theorem enumD_get : ∀ (n : Nat) (xs : List D) (i : Nat), (enumD n xs)[i]? = (xs[i]?).map fun d => .tup [.int ((n + i : Nat) : Int), d]
  | _, [], _ => by simp [enumD]
  | n, x :: r, 0 => by simp [enumD]
  | n, x :: r, i + 1 => by
    simp only [enumD, List.getElem?_cons_succ]
    rw [enumD_get (n + 1) r i]
    have e1 : n + 1 + i = n + (i + 1) := by omega
    rw [e1]
theorem walks_enL {H0 : Hp} {as0 : List Addr} {i : Nat} {q : Addr} {xs : List D} (eq : as0[i]? = some q) : Walks G (Ite G.K q) H0 as0 (enumD 0 xs) (some (i, xs)) := fun H as h x rh st => by
  have e1 : h[i]? = some (.lst xs) := st
  obtain ⟨vs, hq, lq⟩ := rh.lst (x.pre _ _ eq) e1
  refine ⟨fun j d hd => ?_, fun j hj => ⟨vs, SqL.of hq, by rw [lq.length, ← enumD_len 0]; exact hj⟩⟩
  rw [enumD_get, Option.map_eq_some_iff] at hd
  obtain ⟨d', hd', rfl⟩ := hd
  obtain ⟨v, ev, rv⟩ := lq.get hd'
  refine ⟨⟨vs, v, SqL.of hq, ev⟩, fun w H' y => ?_⟩
  obtain ⟨T, z, rfl, hT, rfl, y⟩ := y
  have y := y vs (SqL.of hq)
  rw [ev] at y
  cases y
  rw [Nat.zero_add]
  exact rh.tupNew hT (.cons (.int _) (.cons rv .nil))
theorem walks_enT {H0 : Hp} {as0 : List Addr} {q : Addr} {vs : List V} {xs : List D} (hq : SqT G.K H0 q vs) (lq : RL G.K H0 as0 vs xs) : Walks G (IteT G.K q) H0 as0 (enumD 0 xs) none := fun H as h x rh st => by
  have hq' := sqT_mono x.toEx0 hq
  have lq' := lq.mono x.toEx0
  refine ⟨fun j d hd => ?_, fun j hj => ⟨vs, hq', by rw [lq'.length, ← enumD_len 0]; exact hj⟩⟩
  rw [enumD_get, Option.map_eq_some_iff] at hd
  obtain ⟨d', hd', rfl⟩ := hd
  obtain ⟨v, ev, rv⟩ := lq'.get hd'
  refine ⟨⟨vs, v, hq', ev⟩, fun w H' y => ?_⟩
  obtain ⟨T, z, rfl, hT, rfl, y⟩ := y
  have y := y vs hq'
  rw [ev] at y
  cases y
  rw [Nat.zero_add]
  exact rh.tupNew hT (.cons (.int _) (.cons rv .nil))
theorem tI_en {x : Str} (hK : X.K = G.K) (hx : x = "enumerate") (hg : Gl X x) (hm : X.mg x = none) (pa : PE X a (tE G W ma)) (hs : noStar a = true) : PI X (.Tuple elts kk tpos) (.Call (.Name x p) [a] [] pos) (tI G W (miEn ma)) := by
  subst hx
  have st : starEach [a] X.env = [(false, eval a X.env)] := star1 hs
  have pl : PA X [a] (tCons (tE G W ma) tNil) := pa_cons pa pa_nil st
  refine PI.imp (PI.or (pi_enum hg hm pl st) (pi_enumT hg hm pl st)) fun σ H R q => ?_
  obtain ⟨as, h, en, rh, re, ob⟩ := q
  unfold miEn at ob
  rw [hK]
  cases q : ma en h with
  | err => rw [q] at ob; exact ob.elim
  | exc c w h1 =>
    rw [q] at ob
    exact .inl ⟨as, h, en, rh, re, by dsimp only; rw [q]; exact ob⟩
  | ok d h1 =>
    rw [q, bind_ok] at ob
    cases d with
    | tup xs =>
      refine .inr ⟨as, h, en, rh, re, ?_⟩
      dsimp only
      rw [q]
      intro v H1 as1 x1 rv rh1
      obtain ⟨p, vs, rfl, hp, lp⟩ := rv.tup_inv
      exact ⟨p, vs, rfl, hp, ob _ _ _ x1 (walks_enT hp lp) rh1⟩
    | ref i =>
      refine .inl ⟨as, h, en, rh, re, ?_⟩
      dsimp only
      rw [q]
      intro v H1 as1 x1 rv rh1
      dsimp only at ob
      split at ob
      · rename_i xs e1
        obtain ⟨p, rfl, ep⟩ := rv.ref_inv
        obtain ⟨vs, hp, lp⟩ := rh1.lst ep e1
        exact ⟨p, vs, rfl, SqL.of hp, ob _ _ _ x1 (walks_enL ep) rh1⟩
      · exact ob.elim
    | non => exact ob.elim
    | bl _ => exact ob.elim
    | int _ => exact ob.elim
    | str _ => exact ob.elim
    | frl _ => exact ob.elim
end
/-! ### a dict of the module -/
/-- at a stands a written dict: these keys, these things -/
def KDc (K : PySem.W.Frag) (w : World) (a : Addr) (kvs : List (Tx × D)) : Prop :=
  (∃ es n, KDict K w a es n) ∧ ∀ z : Tx, match kvs.lookup z with
    | some d => ∃ u v, PySem.W.nsIn K a ⟨z.toArray⟩ = some (some u) ∧ RelV v u ∧ ∀ H as, RV K H as v d
    | none => PySem.W.nsIn K a ⟨z.toArray⟩ = some none
section
variable {X : Cx} {G : Wd} {W : WX} {a b c e : Expr} {ma mb mc : M} {pos p : Pos} {H : Hp} {as : List Addr} {x : Str} {q : Addr} {kvs : List (Tx × D)}
theorem KDc.look {K : PySem.W.Frag} {w : World} (k : KDc K w q kvs) (z : Tx) : ∃ r, PySem.W.nsIn K q ⟨z.toArray⟩ = some r ∧ r.isSome = (kvs.lookup z).isSome := by
  have y := k.2 z
  cases e : kvs.lookup z with
  | none => rw [e] at y; exact ⟨none, y, rfl⟩
  | some d =>
    rw [e] at y
    obtain ⟨u, v, h, _⟩ := y
    exact ⟨some u, h, rfl⟩
theorem tE_kin (k : KDc X.K X.w q kvs) (hg : Gl X x) (hm : X.mg x = some (.ref q)) (hd : (x == ("__debug__" : Str)) = false) (pa : PE X a (tE G W ma)) : PE X (.Compare a [.In] [.Name x p] pos) (tE G W (mKIn kvs ma)) ∧ PT X (.Compare a [.In] [.Name x p] pos) (tT G W (mKIn kvs ma)) := by
  obtain ⟨es, n, kd⟩ := k.1
  have pb : PE X (.Name x p) (tC (.ref q)) := pe_glob hg hm rfl hd
  have key : ∀ σ H (Q : VK), tE G W (mKIn kvs ma) σ H Q → tOp (fun x y H Q => ∃ (z : Str) (r : Option Value), x = .str z ∧ y = .ref q ∧ PySem.W.nsIn X.K q z = some r ∧ Q (.bl r.isSome) H) (tE G W ma) (tC (.ref q)) σ H Q := fun σ H Q z => by
    obtain ⟨as, h, en, rh, re, ob⟩ := z
    refine ⟨as, h, en, rh, re, (OutR.bind ob).imp fun v H1 n => ?_⟩
    obtain ⟨d, h1, as1, x1, rv, rh1, re1, o1⟩ := At.nxt re n
    split at o1
    · rename_i z
      cases rv
      obtain ⟨r, h2, h3⟩ := k.look z
      exact ⟨_, r, rfl, rfl, h2, by rw [h3]; exact o1 _ _ _ (Ext.refl _ _) (.bl _) rh1⟩
    · exact o1.elim
  exact ⟨PE.imp (pe_cmpR (op_in_kd kd) pa pb rfl) key, PT.imp (pt_cmpR (op_in_kd kd) pa pb rfl) fun σ H Q z => key σ H _ z⟩
theorem tE_kni (k : KDc X.K X.w q kvs) (hg : Gl X x) (hm : X.mg x = some (.ref q)) (hd : (x == ("__debug__" : Str)) = false) (pa : PE X a (tE G W ma)) : PE X (.Compare a [.NotIn] [.Name x p] pos) (tE G W (mKNi kvs ma)) ∧ PT X (.Compare a [.NotIn] [.Name x p] pos) (tT G W (mKNi kvs ma)) := by
  obtain ⟨es, n, kd⟩ := k.1
  have pb : PE X (.Name x p) (tC (.ref q)) := pe_glob hg hm rfl hd
  have key : ∀ σ H (Q : VK), tE G W (mKNi kvs ma) σ H Q → tOp (fun x y H Q => ∃ (z : Str) (r : Option Value), x = .str z ∧ y = .ref q ∧ PySem.W.nsIn X.K q z = some r ∧ Q (.bl (!r.isSome)) H) (tE G W ma) (tC (.ref q)) σ H Q := fun σ H Q z => by
    obtain ⟨as, h, en, rh, re, ob⟩ := z
    refine ⟨as, h, en, rh, re, (OutR.bind ob).imp fun v H1 n => ?_⟩
    obtain ⟨d, h1, as1, x1, rv, rh1, re1, o1⟩ := At.nxt re n
    split at o1
    · rename_i z
      cases rv
      obtain ⟨r, h2, h3⟩ := k.look z
      exact ⟨_, r, rfl, rfl, h2, by rw [h3]; exact o1 _ _ _ (Ext.refl _ _) (.bl _) rh1⟩
    · exact o1.elim
  exact ⟨PE.imp (pe_cmpR (op_notIn_kd kd) pa pb rfl) key, PT.imp (pt_cmpR (op_notIn_kd kd) pa pb rfl) fun σ H Q z => key σ H _ z⟩
theorem tE_kidx (hK : X.K = G.K) (k : KDc X.K X.w q kvs) (hg : Gl X x) (hm : X.mg x = some (.ref q)) (hd : (x == ("__debug__" : Str)) = false) (pb : PE X b (tE G W mb)) (hs : PlainIx b) : PE X (.Subscript (.Name x p) b pos) (tE G W (mKIdx kvs mb)) := by
  obtain ⟨es, n, kd⟩ := k.1
  have pa : PE X (.Name x p) (tC (.ref q)) := pe_glob hg hm rfl hd
  refine PE.imp (pe_ix ix_kdict pa pb hs) fun σ H Q z => ?_
  obtain ⟨as, h, en, rh, re, ob⟩ := z
  refine ⟨as, h, en, rh, re, (OutR.bind ob).imp fun v H1 n => ?_⟩
  obtain ⟨d, h1, as1, x1, rv, rh1, re1, o1⟩ := At.nxt re n
  split at o1
  · rename_i z
    cases rv
    have y := k.2 z
    cases e : kvs.lookup z with
    | none => rw [e] at o1; exact o1.elim
    | some d =>
      rw [e] at y o1
      obtain ⟨u, v, h2, h3, h4⟩ := y
      exact ⟨q, _, v, rfl, rfl, ⟨es, _, u, kd.at_, kd.lit, h2, h3⟩, o1 _ _ _ (Ext.refl _ _) (by rw [← hK]; exact h4 _ _) rh1⟩
  · exact o1.elim
end
/-- the look at a written dict -/
def kdChk (K : PySem.W.Frag) (a : Addr) (kvs : List (Str × He.Dv)) : Bool := (match K.lookup a with
  | some ⟨_, _, .dict es _, _⟩ => es.toList.all fun e => !e.refKey && kvs.any fun q => e.key.isStr q.1
  | _ => false) && He.valsB K a kvs
def dvOf : D → Option He.Dv
  | .int i => some (.int i)
  | .str z => some (.str ⟨z.toArray⟩)
  | _ => none
def kdvOf : List (Tx × D) → Option (List (Str × He.Dv))
  | [] => some []
  | (z, d) :: r => (dvOf d).bind fun v => (kdvOf r).map fun l => (⟨z.toArray⟩, v) :: l
theorem str_arr {a b : Tx} (h : (⟨a.toArray⟩ : Str) = ⟨b.toArray⟩) : a = b := by
  have := congrArg (fun s : Str => s.cps.toList) h
  simpa using this
theorem kdv_mem : ∀ {kvs : List (Tx × D)} {vs : List (Str × He.Dv)}, kdvOf kvs = some vs → (∀ z d, kvs.lookup z = some d → ∃ v, (⟨z.toArray⟩, v) ∈ vs ∧ dvOf d = some v) ∧ ∀ q ∈ vs, ∃ z d, q.1 = ⟨z.toArray⟩ ∧ kvs.lookup z = some d
  | [], vs, h => by
    cases h
    exact ⟨fun z d e => (nomatch e), fun q hq => (nomatch hq)⟩
  | (y, c) :: r, vs, h => by
    simp only [kdvOf, Option.bind_eq_some_iff, Option.map_eq_some_iff] at h
    obtain ⟨v, hv, l, hl, rfl⟩ := h
    obtain ⟨h1, h2⟩ := kdv_mem hl
    refine ⟨fun z d e => ?_, fun q hq => ?_⟩
    · rw [List.lookup_cons] at e
      cases t : z == y with
      | true =>
        rw [t] at e
        cases e
        have := eq_of_beq t
        subst this
        exact ⟨v, List.mem_cons_self, hv⟩
      | false =>
        rw [t] at e
        obtain ⟨v', m, e'⟩ := h1 z d e
        exact ⟨v', List.mem_cons_of_mem _ m, e'⟩
    · rcases List.mem_cons.mp hq with rfl | hq
      · exact ⟨y, c, rfl, by rw [List.lookup_cons, beq_self_eq_true]⟩
      · obtain ⟨z, d, e1, e2⟩ := h2 q hq
        refine ⟨z, ?_⟩
        rw [List.lookup_cons]
        cases t : z == y with
        | true => exact ⟨c, e1, rfl⟩
        | false => exact ⟨d, e1, e2⟩
theorem kd_of {K : PySem.W.Frag} {w : World} {a : Addr} {kvs : List (Tx × D)} {vs : List (Str × He.Dv)} (hv : kdvOf kvs = some vs) (h : kdChk K a vs = true) (k : ∃ es n, KDict K w a es n) : KDc K w a kvs := by
  unfold kdChk at h
  rw [Bool.and_eq_true] at h
  obtain ⟨hc, hw⟩ := h
  obtain ⟨m1, m2⟩ := kdv_mem hv
  refine ⟨k, fun z => ?_⟩
  cases e : kvs.lookup z with
  | some d =>
    obtain ⟨v, m, ed⟩ := m1 z d e
    obtain ⟨u, h1, h2⟩ := He.valsB_ok hw m
    refine ⟨u, v.v K, h1, h2, fun H as => ?_⟩
    cases d with
    | int i => cases ed; exact .int i
    | str y => cases ed; exact .str y
    | _ => cases ed
  | none =>
    obtain ⟨es, n, kd⟩ := k
    rw [kd.at_] at hc
    dsimp only at hc ⊢
    unfold PySem.W.nsIn
    rw [kd.at_]
    dsimp only
    rw [List.all_eq_true] at hc
    have f0 : es.toList.find? (fun x => x.key.isStr ⟨z.toArray⟩) = none := by
      rw [List.find?_eq_none]
      intro x hx hs
      have y := hc x hx
      rw [Bool.and_eq_true, List.any_eq_true] at y
      obtain ⟨_, q, hq, hs2⟩ := y
      obtain ⟨z', d', e1, e2⟩ := m2 q hq
      cases kx : x.key with
      | str s t =>
        rw [kx] at hs hs2
        have a1 : s = ⟨z.toArray⟩ := eq_of_beq hs
        have a2 : s = q.1 := eq_of_beq hs2
        rw [e1, a1] at a2
        have := str_arr a2
        subst this
        rw [e] at e2
        cases e2
      | _ => rw [kx] at hs; cases hs
    rw [f0]
    dsimp only
    have g0 : es.toList.any (fun x => x.refKey) = false := by
      rw [List.any_eq_false]
      intro x hx
      have y := hc x hx
      rw [Bool.and_eq_true, Bool.not_eq_true'] at y
      rw [y.1]
      exact Bool.false_ne_true
    rw [g0]
    rfl
end Mp

/-! Hy2: an item of a list is put. -/
namespace Mp
open PySem L2 LamX PyProof.Rows
section
variable {X : Cx} {G : Wd} {W : WX} {a o i : Expr} {ma mo mi : M} {pos p : Pos}
theorem tS_itm (hK : X.K = G.K) (hww : X.w = G.w) (hu : X.A.units + 64 < cLine) (po : PE X o (tE G W mo)) (pi : PE X i (tE G W mi)) (pa : PE X a (tE G W ma)) (hs : swapsWithSole [.Subscript o i p] a pos.line X.env = pure false) (hw : swappedStores [.Subscript o i p] a X.env = pure none)
    (ha : ∀ v, assign (.Subscript o i p) X.env v = (do
      let ov ← holding [v] (eval o X.env)
      let iv ← holding [v, ov] (eval i X.env)
      standAt p
      holding [v, ov, iv] (setItem ov iv v)
      release [v, ov, iv] [])) : PS X (.Assign [.Subscript o i p] a pos) (tS G W (sItm mo mi ma)) := PS.imp (ps_asg pa (pg_sub po pi (PSet.or set_list (set_dic hu)) ha) hs hw rfl) fun D σ H ⟨as, h, en, rh, re, ob⟩ => by
  refine ⟨as, h, en, rh, re, (OutR.bindO re ob).imp fun y H1 n => ?_⟩
  obtain ⟨d, h1, as1, x1, rv, rh1, re1, o1⟩ := At.nxt re n
  refine ⟨as1, h1, en, rh1, re1, (OutR.bindO re1 o1).imp fun x H2 n => ?_⟩
  obtain ⟨dx, h2, as2, x2, rx, rh2, re2, o2⟩ := At.nxt re1 n
  refine ⟨as2, h2, en, rh2, re2, (OutR.bindO re2 o2).imp fun z H3 n => ?_⟩
  obtain ⟨dz, h3, as3, x3, rz, rh3, re3, o3⟩ := At.nxt re2 n
  unfold itmR at o3
  split at o3
  · split at o3
    · rename_i xs e1
      split at o3
      · split at o3
        · rename_i j ej
          obtain ⟨q, rfl, eq⟩ := (rx.mono x3.toEx0).ref_inv
          obtain ⟨vs, hq, lq⟩ := rh3.lst eq e1
          cases rz
          refine .inl ⟨q, vs, _, j, rfl, rfl, hq, by rw [lq.length]; exact ej, ?_⟩
          have x0 := ex0_put (as := as3) (u := .lst (vs.set j y)) hq rfl
          obtain ⟨x4, rh4⟩ := rh3.put (u := .lst (vs.set j y)) (o := .lst (xs.set j d)) eq ⟨_, upd_same, (lq.mono x0).set (((rv.mono x2.toEx0).mono x3.toEx0).mono x0) j⟩
          exact o3 σ _ as3 x4 (re3.mono x4.toEx0) rh4
        · exact o3.elim
      · exact o3.elim
    · rename_i ob e1 e2
      split at o3
      · rename_i o' ep
        obtain ⟨q, rfl, eq⟩ := (rx.mono x3.toEx0).ref_inv
        obtain ⟨H', g, x4, rh4⟩ := rh_put rh3 eq e2 rz ((rv.mono x2.toEx0).mono x3.toEx0) ep
        rw [hK, hww]
        exact .inr ⟨q, H', rfl, g, o3 σ _ as3 x4 (re3.mono x4.toEx0) rh4⟩
      · exact o3.elim
    · exact o3.elim
  · exact o3.elim
end
end Mp

/-! Hy3: a dict that is written and asked at once; a text with parts put otherwise. -/
namespace Mp
open PySem L2 LamX PyProof.Rows
theorem RH.aside2 {G : Wd} {H : Hp} {as : List Addr} {h : DH} (rh : RH G H as h) {q : Addr} {u w : HO} (hq : H q = some w) (kw : ours w = true) (nq : q ∉ as) : RH G (upd H q u) as h := by
  have x0 := ex0_put (as := as) (u := u) hq kw
  refine ⟨rh.len, rh.nd, fun i a o e1 e2 => ?_, fun p hp => ?_⟩
  · have na : a ≠ q := fun z => nq (by rw [← z]; exact List.mem_of_getElem? e1)
    exact (rh.ob i a o e1 e2).mono x0 (by rw [upd_ne na])
  · have ne : ∀ b z, H b = some z → ours z = false → b ≠ q := fun b z eb kz e => by
      subst e; rw [hq] at eb; cases eb; rw [kw] at kz; cases kz
    obtain ⟨ps, h1, h2, h3⟩ := rh.tab p hp
    refine ⟨ps, by rw [upd_ne (ne _ _ h1 rfl)]; exact h1, h2, fun pos cv hc => ?_⟩
    obtain ⟨c, ec, hc2⟩ := h3 pos cv hc
    exact ⟨c, ec, by rw [upd_ne (ne _ _ hc2 code_ours)]; exact hc2⟩
theorem Ext.aside2 {H0 H : Hp} {as0 as : List Addr} (x : Ext H0 as0 H as) {q : Addr} {u w : HO} (n0 : H0 q = none) (hq : H q = some w) (kw : ours w = true) : Ext H0 as0 (upd H q u) as := by
  have x0 := ex0_put (as := as) (u := u) hq kw
  have ne : ∀ b w, H0 b = some w → b ≠ q := fun b w e => ne_of_none e n0
  exact ⟨⟨x.pre, fun a xs e => x0.tup a xs (x.tup a xs e), fun a o w e => x0.frz a o w (x.frz a o w e)⟩, fun a o e n t => by rw [upd_ne (ne a o e)]; exact x.kp a o e n t, x.sub⟩
/-- a thing aside stays -/
theorem Ext.keep {H H1 : Hp} {as as1 : List Addr} (x : Ext H as H1 as1) {q : Addr} {u : HO} (hq : H q = some u) (nq : q ∉ as) (nt : ∀ ps, u ≠ .tbl ps) : H1 q = some u ∧ q ∉ as1 :=
  ⟨x.kp q u hq nq nt, fun z => (x.sub q z).elim nq fun w => by
    obtain ⟨ps, e⟩ := w u hq
    exact nt ps e⟩
def dKey (k : Tx) : Key := .inr ⟨k.toArray⟩
def dTrs (G : Wd) (W : WX) : List Tx → List M → List (TE × TE)
  | k :: ks, m :: ms => (tC (.str ⟨k.toArray⟩), tE G W m) :: dTrs G W ks ms
  | _, _ => []
def dPs (ks : List Tx) (vs : List V) : List (Key × V) := (ks.zip vs).map fun q => (dKey q.1, q.2)
section
variable {X : Cx} {G : Wd} {W : WX} {a b o : Expr} {ma mb mo : M} {pos p apos : Pos}
theorem pairs_of (σ : L2.St) : ∀ (ks : List Tx) (ms : List M) (H : Hp) (Q : List V → Hp → Prop), ks.length = ms.length → tL G W ms σ H Q → tPairs (dTrs G W ks ms) σ H fun ps H1 => ∃ vs, ps = (dPs ks vs).map (fun kv => (kV kv.1, kv.2)) ∧ vs.length = ks.length ∧ Q vs H1
  | [], [], H, Q, _, q => by
    obtain ⟨as, h, en, rh, re, ob⟩ := q
    exact ⟨[], rfl, rfl, ob [] H as (Ext.refl _ _) .nil rh⟩
  | k :: ks, m :: ms, H, Q, hl, q => by
    obtain ⟨as, h, en, rh, re, ob⟩ := q
    refine ⟨as, h, en, rh, re, (OutR.bind (rel := RV G.K) ob).imp fun x H1 n => ?_⟩
    obtain ⟨dx, h1, as1, x1, rx, rh1, re1, o1⟩ := At.nxt re n
    have z : tL G W ms σ H1 fun ys H2 => Q (x :: ys) H2 := by
      refine ⟨as1, h1, en, rh1, re1, (OutR.bind (rel := RL G.K) o1).imp fun ys H2 n => ?_⟩
      obtain ⟨ds, h2, as2, x2, rl, rh2, o2⟩ := n
      exact o2 (x :: ys) H2 as2 (Ext.refl _ _) (.cons (rx.mono x2.toEx0) rl) rh2
    have w := pairs_of σ ks ms H1 _ (by simpa using hl) z
    have imp : ∀ (trs : List (TE × TE)) (H : Hp) (P P' : List (V × V) → Hp → Prop), (∀ ps H, P ps H → P' ps H) → (∀ t ∈ trs, (∀ σ H Q Q', (∀ v H, Q v H → Q' v H) → t.1 σ H Q → t.1 σ H Q') ∧ (∀ σ H Q Q', (∀ v H, Q v H → Q' v H) → t.2 σ H Q → t.2 σ H Q')) → tPairs trs σ H P → tPairs trs σ H P' := by
      intro trs
      induction trs with
      | nil => exact fun H P P' k _ z => k _ _ z
      | cons t r ih =>
        intro H P P' k mo z
        exact (mo t List.mem_cons_self).1 _ _ _ _ (fun x H1 z => (mo t List.mem_cons_self).2 _ _ _ _ (fun y H2 z => ih H2 _ _ (fun ps H3 z => k _ _ z) (fun t ht => mo t (List.mem_cons_of_mem _ ht)) z) z) z
    refine imp _ _ _ _ (fun ps H2 w => ?_) ?_ w
    · obtain ⟨vs, e, l, q⟩ := w
      exact ⟨x :: vs, by rw [e]; rfl, by simp [l], q⟩
    · intro t ht
      have : ∀ (ks : List Tx) (ms : List M), t ∈ dTrs G W ks ms → ∃ k m, t = (tC (.str k), tE G W m) := by
        intro ks
        induction ks with
        | nil => intro ms ht; cases ht
        | cons k ks ih =>
          intro ms ht
          cases ms with
          | nil => cases ht
          | cons m ms =>
            rcases List.mem_cons.mp ht with rfl | ht
            · exact ⟨_, _, rfl⟩
            · exact ih ms ht
      obtain ⟨k, m, rfl⟩ := this ks ms ht
      refine ⟨fun σ H Q Q' k z => k _ _ z, fun σ H Q Q' k z => ?_⟩
      obtain ⟨as, h, en, rh, re, ob⟩ := z
      exact ⟨as, h, en, rh, re, OutR.imp ob k⟩
theorem look_merge (j : Key) : ∀ (more acc : List (Key × V)), valV (mergeK acc more) j = more.foldl (fun o kv => if j = kv.1 then some kv.2 else o) (valV acc j)
  | [], acc => rfl
  | kv :: r, acc => by
    show valV (mergeK (putK acc kv.1 kv.2) r) j = _
    rw [look_merge j r, valV_put]
    rfl
theorem dKey_inj {a b : Tx} : dKey a = dKey b ↔ a = b := by
  constructor
  · intro e
    have e := Sum.inr.inj e
    have e := congrArg (fun s : PySem.Str => s.cps.toList) e
    simpa using e
  · rintro rfl; rfl
theorem look_RV {H : Hp} {as : List Addr} (z : Tx) : ∀ (ks : List Tx) (vs : List V) (ds : List D) (ov : Option V) (od : Option D), RL G.K H as vs ds → (∀ d, od = some d → ∃ v, ov = some v ∧ RV G.K H as v d) → (od = none → ov = none) →
    (∀ d, (ks.zip ds).foldl (fun o q => if z = q.1 then some q.2 else o) od = some d → ∃ v, (dPs ks vs).foldl (fun o kv => if dKey z = kv.1 then some kv.2 else o) ov = some v ∧ RV G.K H as v d) ∧
    ((ks.zip ds).foldl (fun o q => if z = q.1 then some q.2 else o) od = none → (dPs ks vs).foldl (fun o kv => if dKey z = kv.1 then some kv.2 else o) ov = none)
  | [], vs, ds, ov, od, _, h1, h2 => ⟨h1, h2⟩
  | k :: ks, _, _, ov, od, .nil, h1, h2 => ⟨h1, h2⟩
  | k :: ks, _, _, ov, od, .cons (v := v) (d := d) r l, h1, h2 => by
    have ih := look_RV z ks _ _ (if dKey z = dKey k then some v else ov) (if z = k then some d else od) l
    by_cases e : z = k
    · have e2 : dKey z = dKey k := dKey_inj.mpr e
      rw [if_pos e, if_pos e2] at ih
      simp only [dPs, List.zip_cons_cons, List.map_cons, List.foldl_cons, e, if_true]
      simp only [dPs, e] at ih
      exact ih (fun d' q => by cases q; exact ⟨v, rfl, r⟩) fun q => nomatch q
    · have e2 : ¬ dKey z = dKey k := fun q => e (dKey_inj.mp q)
      rw [if_neg e, if_neg e2] at ih
      simp only [dPs, List.zip_cons_cons, List.map_cons, List.foldl_cons, e, e2, if_false]
      exact ih h1 h2
/-- the dict is made -/
theorem disp_of {ks : List Tx} {ms : List M} {σ : L2.St} {H : Hp} {Q : VK} (hl : ks.length = ms.length) (h15 : ks.length ≤ 15)
    (z : At G σ H fun e h as => OutL (evL ms e h) G H as (fun _ _ => True) (fun c d H' => W c d σ H') ∧ ∀ (ds : List D) (h1 : DH), evL ms e h = .ok ds h1 → ∀ (q : Addr) (vs : List V) (H1 : Hp) (as1 : List Addr), H q = none → Ext H as H1 as1 → q ∉ as1 → H1 q = some (.dK (mergeK [] (dPs ks vs))) → RL G.K H1 as1 vs ds → RH G H1 as1 h1 → Q (.ref q) H1) :
    tDisp (dTrs G W ks ms) σ H Q := by
  intro q nq
  obtain ⟨as, h, en, rh, re, ob, kk⟩ := z
  obtain ⟨x0, rh0⟩ := rh.laid (u := .dK []) nq
  have nas := rh.new nq
  have imp : tL G W ms σ (upd H q (.dK [])) fun vs H2 => ∃ (ds : List D) (h2 : DH) (as2 : List Addr), evL ms en h = .ok ds h2 ∧ Ext (upd H q (.dK [])) as H2 as2 ∧ RL G.K H2 as2 vs ds ∧ RH G H2 as2 h2 := by
    refine ⟨as, h, en, rh0, re.mono x0.toEx0, ?_⟩
    dsimp only
    cases qe : evL ms en h with
    | ok ds h2 => exact fun vs H2 as2 x2 rl rh2 => ⟨ds, h2, as2, rfl, x2, rl, rh2⟩
    | exc c w h2 =>
      rw [qe] at ob
      exact OutR.mono ob x0
    | err => rw [qe] at ob; exact ob
  have w := pairs_of σ ks ms _ _ hl imp
  have mono : ∀ (ks : List Tx) (ms : List M) (H : Hp) (P P' : List (V × V) → Hp → Prop), (∀ ps H, P ps H → P' ps H) → tPairs (dTrs G W ks ms) σ H P → tPairs (dTrs G W ks ms) σ H P' := by
    intro ks
    induction ks with
    | nil => exact fun ms H P P' k z => k _ _ z
    | cons k ks ih =>
      intro ms H P P' kp z
      cases ms with
      | nil => exact kp _ _ z
      | cons m ms =>
        obtain ⟨as, h, en, rh, re, ob⟩ := z
        exact ⟨as, h, en, rh, re, OutR.imp ob fun y H2 z => ih ms H2 _ _ (fun ps H3 z => kp _ _ z) z⟩
  refine mono ks ms _ _ _ (fun ps H2 w => ?_) w
  obtain ⟨vs, e, l, ds, h2, as2, ev, x2, rl, rh2⟩ := w
  obtain ⟨hq2, nq2⟩ := x2.keep (u := .dK []) upd_same nas fun _ z => nomatch z
  refine ⟨hq2, dPs ks vs, e, ?_, ?_⟩
  · unfold dPs
    rw [List.length_map, List.length_zip]
    omega
  · have x3 : Ext H as (upd H2 q (.dK (mergeK [] (dPs ks vs)))) as2 := (x0.trans x2).aside2 nq hq2 rfl
    exact kk ds h2 ev q vs _ as2 nq x3 nq2 upd_same (rl.mono (ex0_put hq2 rfl)) (rh2.aside2 hq2 rfl nq2)
theorem OutR.any {α χ : Type} {rel : Hp → List Addr → χ → α → Prop} {r : Rs α} {H : Hp} {as : List Addr} {β ψ : Type} {rel2 : Hp → List Addr → ψ → β → Prop} {f : α → DH → Rs β} {Q : ψ → Hp → Prop} {E : XK} (o : OutR rel2 (r.bind f) G H as Q E) : OutR rel r G H as (fun _ _ => True) E := by
  cases r with
  | ok d h => exact fun _ _ _ _ _ _ => trivial
  | exc c w h => exact o
  | err => exact o
theorem tE_dlg {ks : List Tx} {ms : List M} {keys : List (Option Expr)} {vals : List Expr} (hu : X.A.units + 1 < cLine) (hl : ks.length = ms.length) (pp : PPs X p keys vals (dTrs G W ks ms)) (hall : keys.all (·.isSome) = true) (hl2 : keys.length = vals.length) (h0 : keys ≠ []) (h15 : keys.length ≤ 15) (hk : ks.length ≤ 15)
    (pa : PE X a (tE G W ma)) (pb : PE X b (tE G W mb)) (m : M2 X (.Dict keys vals p) "get" apos a b pos) : PE X (.Call (.Attribute (.Dict keys vals p) "get" apos) [a, b] [] pos) (tE G W (mDlG ks ms ma mb)) := by
  refine PE.imp (pe_dget2 hu (pe_disp pp hall hl2 h0 h15) pa pb m) fun σ H Q z => ?_
  obtain ⟨as, h, en, rh, re, ob⟩ := z
  refine disp_of hl hk ⟨as, h, en, rh, re, OutR.any (rel := RL G.K) ob, fun ds h1 ev q vs H1 as1 _ x1 nq hq rl rh1 => ?_⟩
  have ob : OutE ((evL ms en h).bind fun ds h1 => (ma en h1).bind fun x h2 => (mb en h2).bind fun d h3 => dlgR ks ds x d h3) G H as Q _ := ob
  rw [ev, bind_ok] at ob
  have o1 := ob.mono x1
  have re1 := re.mono x1.toEx0
  refine ⟨q, rfl, .inl ⟨_, .inl hq⟩, as1, h1, en, rh1, re1, (OutR.bind o1).imp fun x H2 n => ?_⟩
  obtain ⟨dx, h2, as2, x2, rx, rh2, re2, o2⟩ := At.nxt re1 n
  obtain ⟨hq2, nq2⟩ := x2.keep hq nq fun _ z => nomatch z
  refine ⟨as2, h2, en, rh2, re2, (OutR.bind o2).imp fun y H3 n => ?_⟩
  obtain ⟨dd, h3, as3, x3, ry, rh3, re3, o3⟩ := At.nxt re2 n
  obtain ⟨hq3, nq3⟩ := x3.keep hq2 nq2 fun _ z => nomatch z
  unfold dlgR at o3
  split at o3
  · rename_i zt
    have rx3 := rx.mono x3.toEx0
    cases rx3
    refine ⟨_, DGet.k (k := dKey zt) hq3, ?_⟩
    rw [look_merge]
    have lk := look_RV (G := G) zt ks vs ds none none ((rl.mono x2.toEx0).mono x3.toEx0) (fun _ z => nomatch z) fun _ => rfl
    cases qd : dLook (ks.zip ds) zt with
    | some d =>
      obtain ⟨v, ev2, rv⟩ := lk.1 d qd
      rw [qd] at o3
      have ev3 : (dPs ks vs).foldl (fun o kv => if dKey zt = kv.1 then some kv.2 else o) (valV [] (dKey zt)) = some v := ev2
      rw [ev3]
      exact o3 v H3 as3 (Ext.refl _ _) rv rh3
    | none =>
      rw [qd] at o3
      have ev3 : (dPs ks vs).foldl (fun o kv => if dKey zt = kv.1 then some kv.2 else o) (valV [] (dKey zt)) = none := lk.2 qd
      rw [ev3]
      exact o3 y H3 as3 (Ext.refl _ _) ry rh3
  · exact o3.elim
theorem tE_dli {ks : List Tx} {ms : List M} {keys : List (Option Expr)} {vals : List Expr} (hu : X.A.units + 1 < cLine) (hl : ks.length = ms.length) (pp : PPs X p keys vals (dTrs G W ks ms)) (hall : keys.all (·.isSome) = true) (hl2 : keys.length = vals.length) (h0 : keys ≠ []) (h15 : keys.length ≤ 15) (hk : ks.length ≤ 15)
    (pa : PE X a (tE G W ma)) (hs : NoSl a) : PE X (.Subscript (.Dict keys vals p) a pos) (tE G W (mDlI ks ms ma)) := by
  refine PE.imp (pe_dget hu (pe_disp pp hall hl2 h0 h15) pa hs) fun σ H Q z => ?_
  obtain ⟨as, h, en, rh, re, ob⟩ := z
  refine disp_of hl hk ⟨as, h, en, rh, re, OutR.any (rel := RL G.K) ob, fun ds h1 ev q vs H1 as1 _ x1 nq hq rl rh1 => ?_⟩
  have ob : OutE ((evL ms en h).bind fun ds h1 => (ma en h1).bind fun x h2 => dliR ks ds x h2) G H as Q _ := ob
  rw [ev, bind_ok] at ob
  have o1 := ob.mono x1
  have re1 := re.mono x1.toEx0
  refine ⟨as1, h1, en, rh1, re1, (OutR.bind o1).imp fun x H2 n => ?_⟩
  obtain ⟨dx, h2, as2, x2, rx, rh2, re2, o2⟩ := At.nxt re1 n
  obtain ⟨hq2, nq2⟩ := x2.keep hq nq fun _ z => nomatch z
  unfold dliR at o2
  split at o2
  · rename_i zt
    cases rx
    have lk := look_RV (G := G) zt ks vs ds none none (rl.mono x2.toEx0) (fun _ z => nomatch z) fun _ => rfl
    cases qd : dLook (ks.zip ds) zt with
    | some d =>
      obtain ⟨v, ev2, rv⟩ := lk.1 d qd
      rw [qd] at o2
      refine ⟨q, v, rfl, ?_, o2 v H2 as2 (Ext.refl _ _) rv rh2⟩
      have g := DGet.k (k := dKey zt) hq2
      rw [look_merge] at g
      have ev3 : (dPs ks vs).foldl (fun o kv => if dKey zt = kv.1 then some kv.2 else o) (valV [] (dKey zt)) = some v := ev2
      rw [ev3] at g
      exact g
    | none =>
      rw [qd] at o2
      exact o2.elim
  · exact o2.elim
/-! ### c + o.replace(y, z) -/
theorem tE_repl {c y z : Str} {j j1 j2 : Nat} {p0 p1 p2 : Pos} (po : PE X o (tE G W mo)) (hyz : (y == z) = false) (ho : plainO o = true) (hline : (apos.endLine == pos.line) = true) :
    PE X (.BinOp (.Constant (.str c) j p0) .Add (.Call (.Attribute o "replace" apos) [.Constant (.str y) j1 p1, .Constant (.str z) j2 p2] [] pos) p) (tE G W (mRepl c.cps.toList y.cps.toList z.cps.toList mo)) := by
  refine ⟨fun pins s σ H Q I q => ?_⟩
  obtain ⟨as, h, en, rh, re, ob⟩ := q
  refine wpAny_BinOp (Calls.Constant_str ?_)
  have pr := CwR.pet_replC (X := X) (o := o) (to := tE G W mo) (y := y) (z := z) (j := j1) (k := j2) (c0 := p1) (c1 := p2) (apos := apos) (pos := pos) po hyz rfl (attr_base ho) hline
  refine thn (pr pins { s with toks := s.toks + 1 } σ H (fun v H1 => ∃ x, v = .str (Txt.replace x y z) ∧ c.length + (Txt.replace x y z).length ≤ sizeLine ∧ Q (.str (c ++ Txt.replace x y z)) H1) (by show 1 ≤ s.toks + 1; omega) (I.tok _) ?_) fun u s2 hu => ?_
  · refine ⟨as, h, en, rh, re, (OutR.bind ob).imp fun v H1 n => ?_⟩
    obtain ⟨d, h1, as1, x1, rv, rh1, re1, o1⟩ := At.nxt re n
    unfold replR at o1
    split at o1
    · split at o1
      · rename_i x hl
        cases rv
        have ez : (⟨z.cps.toList.toArray⟩ : PySem.Str) = z := by simp
        have ey : (⟨y.cps.toList.toArray⟩ : PySem.Str) = y := by simp
        have er : (Txt.replace ⟨x.toArray⟩ y z).cps.toList = repT x y.cps.toList z.cps.toList := by unfold repT; rw [ey, ez]
        have e1 : (Txt.replace ⟨x.toArray⟩ y z).length = (repT x y.cps.toList z.cps.toList).length := by rw [← er]; simp [Str.length]
        have e2 : z.length = z.cps.toList.length := by simp [Str.length]
        have e3 : c.length = c.cps.toList.length := by simp [Str.length]
        refine ⟨⟨x.toArray⟩, rfl, by rw [s_len, e2]; exact hl.1, ⟨x.toArray⟩, rfl, by rw [e1, e3]; exact hl.2, ?_⟩
        have e4 : c ++ Txt.replace ⟨x.toArray⟩ y z = ⟨(c.cps.toList ++ repT x y.cps.toList z.cps.toList).toArray⟩ := by
          apply TL.ext_tl
          rw [TL.tl_append]
          show c.cps.toList ++ (Txt.replace ⟨x.toArray⟩ y z).cps.toList = _
          rw [er]
        rw [e4]
        exact o1 _ _ _ (Ext.refl _ _) (.str _) rh1
      · exact o1.elim
    · exact o1.elim
  · obtain ⟨v, H1, I1, rv, x, ev, hl, q⟩ := hu
    subst ev
    exact op_add_str pins s2 σ H1 (.str c) (.str (Txt.replace x y z)) _ u Q I1 ⟨_, rfl⟩ rv ⟨_, _, rfl, rfl, hl, q⟩
end
end Mp

/-! Hy4: dicts that stand: {}, {..}, get; zip of two tuples. -/
namespace Mp
open PySem L2 LamX PyProof.Rows
section
variable {X : Cx} {G : Wd} {W : WX} {a b c e f o : Expr} {ma mb mc mo mk md : M} {pos p apos cpos tpos : Pos} {elts : List Expr} {kk : Nat}
theorem tE_dnew : PE X (.Dict [] [] pos) (tE G W mDNew) := PE.imp pe_dnewK fun σ H Q ⟨as, h, en, rh, re, ob⟩ p np => by
  obtain ⟨x, r, r2⟩ := rh.dicNew (ks := []) (kvs := []) np .nil
  exact ob _ _ _ x r r2
/-- a thing that stands aside is taken among ours -/
theorem RH.adopt {H : Hp} {as : List Addr} {h : DH} (rh : RH G H as h) {q : Addr} {o : O} (nq : q ∉ as) (k : RO G H (as ++ [q]) q o) : Ex0 H as H (as ++ [q]) ∧ RH G H (as ++ [q]) (h ++ [o]) := by
  have x3 : Ex0 H as H (as ++ [q]) := ⟨fun i a e => by rw [List.getElem?_append_left (List.getElem?_eq_some_iff.mp e).1]; exact e, fun _ _ e => e, fun _ _ _ e => e⟩
  refine ⟨x3, by simp [rh.len], ?_, fun i a o' e1 e2 => ?_, rh.tab⟩
  · rw [List.nodup_append]
    exact ⟨rh.nd, by simp, fun a ha b hb => by
      rw [List.mem_singleton] at hb; subst hb
      exact fun z => nq (z ▸ ha)⟩
  · by_cases hi : i < as.length
    · rw [List.getElem?_append_left hi] at e1
      rw [List.getElem?_append_left (by rw [← rh.len]; exact hi)] at e2
      exact (rh.ob i a o' e1 e2).mono x3 rfl
    · have hi' : as.length ≤ i := Nat.le_of_not_lt hi
      rw [List.getElem?_append_right hi'] at e1
      rw [List.getElem?_append_right (by rw [← rh.len]; exact hi')] at e2
      rw [← rh.len] at e2
      cases z : i - as.length with
      | zero =>
        rw [z] at e1 e2
        have e1' : q = a := by simpa using e1
        have e2' : o = o' := by simpa using e2
        subst e1' e2'
        exact k
      | succ k =>
        rw [z] at e1
        simp at e1
theorem dPs_RK {H : Hp} {as : List Addr} : ∀ (ks : List Tx) {vs : List V} {ds : List D}, RL G.K H as vs ds → RK G.K H as (dPs ks vs) ((ks.zip ds).map fun q => (.str q.1, q.2))
  | [], _, _, _ => .nil
  | _ :: _, _, _, .nil => .nil
  | k :: ks, _, _, .cons r l => .cons ⟨(kD_str k).symm, r⟩ (dPs_RK ks l)
theorem tE_dsp {ks : List Tx} {ms : List M} {keys : List (Option Expr)} {vals : List Expr} (hl : ks.length = ms.length) (pp : PPs X p keys vals (dTrs G W ks ms)) (hall : keys.all (·.isSome) = true) (hl2 : keys.length = vals.length) (h0 : keys ≠ []) (h15 : keys.length ≤ 15) (hk : ks.length ≤ 15) :
    PE X (.Dict keys vals p) (tE G W (mDsp ks ms)) := by
  refine PE.imp (pe_disp pp hall hl2 h0 h15) fun σ H Q z => ?_
  obtain ⟨as, h, en, rh, re, ob⟩ := z
  refine disp_of hl hk ⟨as, h, en, rh, re, OutR.any (rel := RL G.K) ob, fun ds h1 ev q vs H1 as1 n0 x1 nq hq rl rh1 => ?_⟩
  have ob : OutE ((evL ms en h).bind fun ds h1 => .ok (.ref h1.length) (h1 ++ [.dic (dPuts [] ((ks.zip ds).map fun q => (.str q.1, q.2)))])) G H as Q _ := ob
  rw [ev, bind_ok] at ob
  have x0 : Ex0 H1 as1 H1 (as1 ++ [q]) := ⟨fun i a e => by rw [List.getElem?_append_left (List.getElem?_eq_some_iff.mp e).1]; exact e, fun _ _ e => e, fun _ _ _ e => e⟩
  obtain ⟨x2, rh2⟩ := rh1.adopt (o := .dic (dPuts [] ((ks.zip ds).map fun q => (.str q.1, q.2)))) nq ⟨_, hq, RK.mono x0 (RK.puts (dPs_RK ks rl) .nil)⟩
  refine ob (.ref q) H1 (as1 ++ [q]) ⟨⟨fun i a e => x2.pre i a (x1.pre i a e), x1.tup, x1.frz⟩, x1.kp, fun a m => ?_⟩ (.ref (by rw [← rh1.len]; simp)) rh2
  rcases List.mem_append.mp m with m | m
  · exact x1.sub a m
  · rw [List.mem_singleton] at m
    subst m
    exact .inr fun o e => by rw [n0] at e; cases e
/-! ### get -/
def IsDN (K : PySem.W.Frag) (w : World) (H : Hp) (a : Addr) : Prop := IsD H a ∨ ∃ as xs kvs, H a = some (nO w a xs) ∧ RX K H as xs kvs
theorem isDN_at {pins : List (Addr × Obj)} {σ : L2.St} {H : Hp} {s : Shared} {a : Addr} (I : Inv X pins σ H s) (d : IsDN X.K X.w H a) :
    s.TypeIs (.ref a) "dict" ∧ (∀ b, Value.ref a = .ref b → ∃ ob, s.heap.get? b = some ob ∧ ob.dict = none) := by
  rcases d with d | ⟨as, xs, kvs, e, rx⟩
  · obtain ⟨t1, t2, _⟩ := isD_at I d
    exact ⟨t1, t2⟩
  · obtain ⟨_, _, vs, _, dd⟩ := nd_of I e rx
    refine ⟨dd.typeIs, fun b q => ?_⟩
    cases q
    obtain ⟨ob, _, _, h1, h2, _⟩ := dd
    exact ⟨ob, h1, h2.2.1⟩
def tLGet1 (K : PySem.W.Frag) (w : World) (td ty : TE) : TE := fun σ H Q => td σ H fun x H1 => ∃ a, x = .ref a ∧ IsDN K w H1 a ∧ ty σ H1 fun y H2 => ∃ o, LGet K w H2 a y o ∧ Q (o.getD .non) H2
def tLGet2 (K : PySem.W.Frag) (w : World) (td ty tx : TE) : TE := fun σ H Q => td σ H fun x H1 => ∃ a, x = .ref a ∧ IsDN K w H1 a ∧ ty σ H1 fun y H2 => tx σ H2 fun z H3 => ∃ o, LGet K w H3 a y o ∧ Q (o.getD z) H3
theorem pe_lget1 {td ty : TE} (hu : X.A.units + 64 < cLine) (ho : PE X o td) (he : PE X e ty) (m : M1 X o "get" apos e cpos) : PE X (.Call (.Attribute o "get" apos) [e] [] cpos) (tLGet1 X.K X.w td ty) := by
  refine ⟨fun pins s σ H Q I h => ?_⟩
  refine wpAny_Call_method m.base m.few m.line PySem.F.plainAttrs_dict PySem.F.slot_dict_get PySem.F.type_dict_get (thn (ho.run pins s σ H _ I h) fun u s1 ⟨x, H1, I1, rx, a, ex, d, q1⟩ => ?_)
  subst ex
  obtain rfl : u = Value.ref a := rx
  obtain ⟨t1, t2⟩ := isDN_at I1 d
  refine ⟨t1, t2, ?_⟩
  rw [m.trees]
  refine Calls.callWith_builtin rfl (Calls.evalArgs_plain (Calls.spliced_cons (thn (he.run pins s1 σ H1 _ I1 q1) fun iv s2 ⟨y, H2, I2, ry, ov, g, q2⟩ => Calls.spliced_nil ?_)))
  exact l_get1 hu I2 g ry fun w' s3 I3 rw' => ⟨_, H2, I3, rw', q2⟩
theorem pe_lget2 {td ty tx : TE} (hu : X.A.units + 64 < cLine) (ho : PE X o td) (he : PE X e ty) (hf : PE X f tx) (m : M2 X o "get" apos e f cpos) : PE X (.Call (.Attribute o "get" apos) [e, f] [] cpos) (tLGet2 X.K X.w td ty tx) := by
  refine ⟨fun pins s σ H Q I h => ?_⟩
  refine wpAny_Call_method m.base m.few m.line PySem.F.plainAttrs_dict PySem.F.slot_dict_get PySem.F.type_dict_get (thn (ho.run pins s σ H _ I h) fun u s1 ⟨x, H1, I1, rx, a, ex, d, q1⟩ => ?_)
  subst ex
  obtain rfl : u = Value.ref a := rx
  obtain ⟨t1, t2⟩ := isDN_at I1 d
  refine ⟨t1, t2, ?_⟩
  rw [m.trees]
  refine Calls.callWith_builtin rfl (Calls.evalArgs_plain (Calls.spliced_cons (thn (he.run pins s1 σ H1 _ I1 q1) fun iv s2 ⟨y, H2, I2, ry, q2⟩ =>
    Calls.spliced_cons (thn (hf.run pins s2 σ H2 _ I2 q2) fun fv s3 ⟨z, H3, I3, rz, ov, g, q3⟩ => Calls.spliced_nil ?_))))
  exact l_get2 hu I3 g ry rz fun w' s4 I4 rw' => ⟨_, H3, I4, rw', q3⟩
theorem isDic_use {H : Hp} {as : List Addr} {h : DH} {x : V} {dx : D} (rh : RH G H as h) (rx : RV G.K H as x dx) (hd : isDic dx h = true) : ∃ i a, dx = .ref i ∧ x = .ref a ∧ as[i]? = some a ∧ IsDN G.K G.w H a := by
  unfold isDic at hd
  split at hd
  · obtain ⟨a, rfl, ea⟩ := rx.ref_inv
    split at hd
    · rename_i kvs e1
      obtain ⟨ks, e, rk⟩ := rh.ob _ _ _ ea e1
      exact ⟨_, a, rfl, rfl, ea, .inl (.inl ⟨ks, .inl e⟩)⟩
    · rename_i kvs e1
      obtain ⟨xs, e, rx⟩ := rh.ob _ _ _ ea e1
      exact ⟨_, a, rfl, rfl, ea, .inr ⟨as, xs, kvs, e, rx⟩⟩
    · cases hd
  · cases hd
theorem getR_use {H : Hp} {as : List Addr} {h : DH} {i : Nat} {a : Addr} {y z : V} {dy dz : D} {Q : VK} {E : XK} (rh : RH G H as h) (ea : as[i]? = some a) (ry : RV G.K H as y dy) (rz : RV G.K H as z dz) (o : OutE (getR (.ref i) dy dz h) G H as Q E) :
    ∃ r, LGet G.K G.w H a y r ∧ Q (r.getD z) H := by
  unfold getR at o
  dsimp only at o
  split at o
  · rename_i ob e1
    split at o
    · rename_i d eg
      obtain ⟨rv, g, ro⟩ := rh_get rh ea e1 ry eg
      cases rv with
      | none => exact ro.elim
      | some v => exact ⟨some v, g, o _ _ _ (Ext.refl _ _) ro rh⟩
    · rename_i eg
      obtain ⟨rv, g, ro⟩ := rh_get rh ea e1 ry eg
      cases rv with
      | some v => exact ro.elim
      | none => exact ⟨none, g, o _ _ _ (Ext.refl _ _) rz rh⟩
    · exact o.elim
  · exact o.elim
theorem tE_get1 (hK : X.K = G.K) (hw : X.w = G.w) (hu : X.A.units + 64 < cLine) (po : PE X o (tE G W mo)) (pk : PE X e (tE G W mk)) (m : M1 X o "get" apos e cpos) : PE X (.Call (.Attribute o "get" apos) [e] [] cpos) (tE G W (mGet1 mo mk)) :=
  PE.imp (pe_lget1 hu po pk m) fun σ H Q ⟨as, h, en, rh, re, ob⟩ => by
    refine ⟨as, h, en, rh, re, (OutR.bind ob).imp fun x H1 n => ?_⟩
    obtain ⟨dx, h1, as1, x1, rx, rh1, re1, o1⟩ := At.nxt re n
    split at o1
    · rename_i hd
      obtain ⟨i, q, rfl, rfl, eq, dn⟩ := isDic_use rh1 rx hd
      rw [hK, hw]
      refine ⟨q, rfl, dn, as1, h1, en, rh1, re1, (OutR.bind o1).imp fun y H2 n => ?_⟩
      obtain ⟨dy, h2, as2, x2, ry, rh2, re2, o2⟩ := At.nxt re1 n
      exact getR_use rh2 (x2.pre _ _ eq) ry .non o2
    · exact o1.elim
theorem tE_get2 (hK : X.K = G.K) (hw : X.w = G.w) (hu : X.A.units + 64 < cLine) (po : PE X o (tE G W mo)) (pk : PE X e (tE G W mk)) (pd : PE X f (tE G W md)) (m : M2 X o "get" apos e f cpos) : PE X (.Call (.Attribute o "get" apos) [e, f] [] cpos) (tE G W (mGet2 mo mk md)) :=
  PE.imp (pe_lget2 hu po pk pd m) fun σ H Q ⟨as, h, en, rh, re, ob⟩ => by
    refine ⟨as, h, en, rh, re, (OutR.bind ob).imp fun x H1 n => ?_⟩
    obtain ⟨dx, h1, as1, x1, rx, rh1, re1, o1⟩ := At.nxt re n
    split at o1
    · rename_i hd
      obtain ⟨i, q, rfl, rfl, eq, dn⟩ := isDic_use rh1 rx hd
      rw [hK, hw]
      refine ⟨q, rfl, dn, as1, h1, en, rh1, re1, (OutR.bind o1).imp fun y H2 n => ?_⟩
      obtain ⟨dy, h2, as2, x2, ry, rh2, re2, o2⟩ := At.nxt re1 n
      refine ⟨as2, h2, en, rh2, re2, (OutR.bind o2).imp fun z H3 n => ?_⟩
      obtain ⟨dz, h3, as3, x3, rz, rh3, re3, o3⟩ := At.nxt re2 n
      exact getR_use rh3 (x3.pre _ _ (x2.pre _ _ eq)) (ry.mono x3.toEx0) rz o3
    · exact o1.elim
/-! ### zip of two tuples -/
theorem pairs_get : ∀ (xs ys : List D) (i : Nat), (pairs xs ys)[i]? = match xs[i]?, ys[i]? with | some x, some y => some (.tup [x, y]) | _, _ => none
  | [], ys, i => by simp [pairs]
  | x :: xs, [], i => by
    simp only [pairs, List.getElem?_nil]
    split
    · rename_i h; cases h
    · rfl
  | x :: xs, y :: ys, 0 => by simp [pairs]
  | x :: xs, y :: ys, i + 1 => by
    simp only [pairs, List.getElem?_cons_succ]
    exact pairs_get xs ys i
theorem pairs_len : ∀ (xs ys : List D), (pairs xs ys).length = min xs.length ys.length
  | [], ys => by simp [pairs]
  | x :: xs, [] => by simp [pairs]
  | x :: xs, y :: ys => by simp only [pairs, List.length_cons, pairs_len xs ys]; omega
theorem walks_zpT {H0 : Hp} {as0 : List Addr} {q r : Addr} {vs ws : List V} {xs ys : List D} (hq : SqT G.K H0 q vs) (lq : RL G.K H0 as0 vs xs) (hr : SqT G.K H0 r ws) (lr : RL G.K H0 as0 ws ys) : Walks G (RZ.ItzT G.K q r) H0 as0 (pairs xs ys) none := fun H as h x rh st => by
  have hq' := sqT_mono x.toEx0 hq
  have lq' := lq.mono x.toEx0
  have hr' := sqT_mono x.toEx0 hr
  have lr' := lr.mono x.toEx0
  refine ⟨fun j d hd => ?_, fun j hj => ⟨vs, ws, hq', hr', by rw [lq'.length, lr'.length]; rw [pairs_len] at hj; omega⟩⟩
  rw [pairs_get] at hd
  split at hd
  · rename_i d1 d2 e1 e2
    cases hd
    obtain ⟨v, ev, rv⟩ := lq'.get e1
    obtain ⟨w, ew, rw'⟩ := lr'.get e2
    refine ⟨⟨vs, ws, v, w, hq', hr', ev, ew⟩, fun u H' y => ?_⟩
    obtain ⟨T, z1, z2, rfl, hT, rfl, y1, y2⟩ := y
    have y1 := y1 vs hq'
    have y2 := y2 ws hr'
    rw [ev] at y1
    rw [ew] at y2
    cases y1
    cases y2
    exact rh.tupNew hT (.cons rv (.cons rw' .nil))
  · cases hd
theorem tI_zp {x : Str} (hK : X.K = G.K) (hx : x = "zip") (hg : Gl X x) (hm : X.mg x = none) (pa : PE X a (tE G W ma)) (pb : PE X b (tE G W mb)) (hs : noStar a = true) (hs2 : noStar b = true) : PI X (.Tuple elts kk tpos) (.Call (.Name x p) [a, b] [] pos) (tI G W (miZp ma mb)) := by
  subst hx
  have st : starEach [a, b] X.env = (false, eval a X.env) :: starEach [b] X.env := star1 hs
  have st2 : starEach [b] X.env = [(false, eval b X.env)] := star1 hs2
  have pl : PA X [a, b] (tCons (tE G W ma) (tCons (tE G W mb) tNil)) := pa_cons pa (pa_cons pb pa_nil st2) st
  refine PI.imp (RZ.pi_zipA hg hm pl st (by rw [st2]; rfl)) fun σ H R q => ?_
  obtain ⟨as, h, en, rh, re, ob⟩ := q
  unfold miZp at ob
  rw [hK]
  cases q : ma en h with
  | err => rw [q] at ob; exact ob.elim
  | exc c w h1 =>
    rw [q] at ob
    exact ⟨as, h, en, rh, re, by dsimp only; rw [q]; exact ob⟩
  | ok d h1 =>
    rw [q, bind_ok] at ob
    refine ⟨as, h, en, rh, re, ?_⟩
    dsimp only
    rw [q]
    intro v H1 as1 x1 rv rh1
    cases q2 : mb en h1 with
    | err => rw [q2] at ob; exact ob.elim
    | exc c w h2 =>
      rw [q2] at ob
      exact ⟨as1, h1, en, rh1, re.mono x1.toEx0, by dsimp only; rw [q2]; exact OutR.mono ob x1⟩
    | ok d2 h2 =>
      rw [q2, bind_ok] at ob
      refine ⟨as1, h1, en, rh1, re.mono x1.toEx0, ?_⟩
      dsimp only
      rw [q2]
      intro v2 H2 as2 x2 rv2 rh2
      split at ob
      · rename_i xs ys
        obtain ⟨p1, vs, rfl, hp, lp⟩ := (rv.mono x2.toEx0).tup_inv
        obtain ⟨p2, ws, rfl, hp2, lp2⟩ := rv2.tup_inv
        exact ⟨p1, p2, vs, ws, rfl, .inr ⟨hp, hp2, ob _ _ _ (x1.trans x2) (walks_zpT hp lp hp2 lp2) rh2⟩⟩
      · exact ob.elim
end
end Mp

/-! Mp14: the translator of expressions, and that it is right. -/
namespace Mp
open PySem L2 LamX PyProof.Rows
noncomputable section
structure Gam where
  N : List Str
  cst : List (Str × D)
  fns : List (Str × Nat)
  cls : List (Str × Nat × Nat)
  fld : List (Str × Nat)
  mes : List (Str × List (Nat × Nat))
  exs : List (Str × Nat)
  fo : List (Nat × Nat)
  fre : List Str
  told : Str
  bas : Str
  wrd : Str
  tld : List (Nat × Nat)
  exw : List (Str × Nat)
  kdc : List (Str × List (Tx × D))
  cl : CL
def ixS : List Str → Str → Option Nat
  | [], _ => none
  | y :: r, x => if y = x then some 0 else (ixS r x).map (· + 1)
theorem ixS_ok : ∀ {N : List Str} {x : Str} {i : Nat}, ixS N x = some i → N[i]? = some x
  | [], _, _, h => by cases h
  | y :: r, x, i, h => by
    unfold ixS at h
    split at h
    · rename_i e
      cases h
      rw [e] <;> rfl
    · simp only [Option.map_eq_some_iff] at h
      obtain ⟨j, h, rfl⟩ := h
      have := ixS_ok h
      show r[j]? = some x
      exact this
def okN (x : Str) : Bool := !(x == ("__debug__" : Str)) && !(x == ("__classdict__" : Str))
theorem okN_1 {x : Str} (h : okN x = true) : (x == ("__debug__" : Str)) = false := by
  unfold okN at h
  rw [Bool.and_eq_true, Bool.not_eq_true', Bool.not_eq_true'] at h
  exact h.1
theorem okN_2 {x : Str} (h : okN x = true) : (x == ("__classdict__" : Str)) = false := by
  unfold okN at h
  rw [Bool.and_eq_true, Bool.not_eq_true', Bool.not_eq_true'] at h
  exact h.2
def isGl (sc : Scope) (x : Str) : Bool := decide (sc.names.lookup x = some .globalImplicit)
def isVis (sc : Scope) (x : Str) : Bool := decide (sc.names.lookup x = some .local) || (decide (sc.names.lookup x = some .cell) || decide (sc.names.lookup x = some .free))
def trL (f : Expr → Option M) : List Expr → Option (List M)
  | [] => some []
  | e :: es => (f e).bind fun m => (trL f es).bind fun ms => some (m :: ms)
def trBo (op : M → M → M) (f : Expr → Option M) : List Expr → Option M
  | [] => none
  | [e] => f e
  | e :: es => (f e).bind fun m => (trBo op f es).bind fun r => some (op m r)
def biOf (x : Str) : Option BI :=
  if x = "len" then some .len else if x = "ord" then some .ord else if x = "int" then some .int else if x = "str" then some .str else if x = "min" then some .min else if x = "max" then some .max else if x = "all" then some .all else if x = "any" then some .any else if x = "tuple" then some .tup else if x = "sum" then some .sum else if x = "abs" then some .abs else if x = "dict" then some .dic else none
theorem biOf_ok {x : Str} {b : BI} (h : biOf x = some b) : x = biNm b := by
  unfold biOf at h
  repeat' split at h
  all_goals first | (cases h; assumption) | cases h
def bmOf (x : Str) : Option BM :=
  if x = "join" then some .join else if x = "split" then some .split else if x = "find" then some .find else if x = "append" then some .append else none
theorem bmOf_ok {x : Str} {b : BM} (h : bmOf x = some b) : x = bmNm b := by
  unfold bmOf at h
  repeat' split at h
  all_goals first | (cases h; assumption) | cases h
def itOfN (x : Str) : Option IT :=
  if x = "int" then some .int else if x = "bool" then some .bool else if x = "str" then some .str else if x = "list" then some .list else if x = "tuple" then some .tuple else none
theorem itOfN_ok {x : Str} {b : IT} (h : itOfN x = some b) : x = itNm b := by
  unfold itOfN at h
  repeat' split at h
  all_goals first | (cases h; assumption) | cases h
def names1 : List Expr → Option (List Str)
  | [] => some []
  | .Name x _ :: r => (names1 r).map fun l => x :: l
  | _ :: _ => none
/-- a target's places -/
inductive Tgt where
  | one (i : Nat) | tup (is : List Nat)
def Tgt.st : Tgt → D → En → Option En
  | .one i => stName i
  | .tup is => stTup is
def Tgt.is : Tgt → List Nat
  | .one i => [i]
  | .tup is => is
def ixsS (N : List Str) : List Str → Option (List Nat)
  | [] => some []
  | x :: r => (ixS N x).bind fun i => (ixsS N r).map fun l => i :: l
def isLoc (sc : Scope) (x : Str) : Bool := decide (sc.names.lookup x = some .local)
def isCel (sc : Scope) (x : Str) : Bool := decide (sc.names.lookup x = some .cell)
/-- x may be stored: sc is the scope, own the block's own -/
def stOk (sc own : Scope) (x : Str) : Bool := isLoc sc x || (isCel sc x && isCel own x)
def trT (N : List Str) (sc own : Scope) : Expr → Option Tgt
  | .Name x _ => if stOk sc own x then (ixS N x).map .one else none
  | .Tuple ts _ _ => (names1 ts).bind fun xs => if xs.all (stOk sc own) then (ixsS N xs).map .tup else none
  | _ => none
def tgNames : Expr → List Str
  | .Name x _ => [x]
  | .Tuple ts _ _ => (names1 ts).getD []
  | _ => []
/-- the call of a module's name -/
def trCallN (Γ : Gam) (lo : Nat) (f f0 : Scope → Expr → Option M) (sc : Scope) (x : Str) (args : List Expr) : Option M :=
  if isGl sc x && okN x && args.all noStar then
    match args with
    | [.Lambda params body scope _] =>
      if decide (lo = 2) && decide (x = Γ.told) && lamSB sc scope && params.posonlyargs.isEmpty && params.args.isEmpty && params.vararg.isNone && params.kwonlyargs.isEmpty && params.kw_defaults.isEmpty && params.kwarg.isNone && params.defaults.isEmpty then (f0 scope body).map (mTold fun c => Γ.tld.lookup c) else none
    | args => match Γ.fns.lookup x with
      | some g => (trL (f sc) args).map fun ms => mCall Γ.cl g ms
      | none => match Γ.cls.lookup x with
        | some (c, g) => if lo = 0 then none else (trL (f sc) args).map fun ms => mMake Γ.cl c g ms
        | none => match biOf x with
          | some b => if args.isEmpty || !decide (x ∈ Γ.fre) then none else (trL (f sc) args).map fun ms => mBi b ms
          | none => if x = "isinstance" then match args with
            | [a, .Name y _] => if isGl sc y && decide (x ∈ Γ.fre) && decide (y ∈ Γ.fre) then (itOfN y).bind fun t => (f sc a).map fun m => mIsi m t else none
            | _ => none
            else none
  else none
def meOf (l : List (Nat × Nat)) (c : Nat) : Option Nat := l.lookup c
/-- o.m(..) -/
def trMeth (Γ : Gam) (f : Scope → Expr → Option M) (sc : Scope) (o : Expr) (m : Str) (apos pos : Pos) (args : List Expr) : Option M :=
  if plainO o && args.all noStar && decide (args.length < 30) && (apos.endLine == pos.line) then
    (f sc o).bind fun mo => (trL (f sc) args).bind fun ms => match Γ.mes.lookup m with
      | some (q :: l) => some (mMeth Γ.cl (meOf (q :: l)) mo ms)
      | some [] => none
      | none => if args.isEmpty then none else (bmOf m).map fun b => mBm b mo ms
  else none
def isTupT : Expr → Bool
  | .Tuple _ _ _ => true
  | _ => false
def trIt (Γ : Gam) (f : Scope → Expr → Option M) (sc : Scope) (tg e : Expr) : Option MI := match e with
  | .Call (.Name x _) [a] [] _ => if x = "range" then (if isGl sc x && noStar a && decide (x ∈ Γ.fre) then (f sc a).map miR1 else none) else if x = "enumerate" then (if isTupT tg && (isGl sc x && noStar a && decide (x ∈ Γ.fre)) then (f sc a).map miEn else none) else (f sc e).map miE
  | .Call (.Name x _) [a, b] [] _ => if x = "zip" then (if isTupT tg && (isGl sc x && (noStar a && noStar b) && decide (x ∈ Γ.fre)) then (f sc a).bind fun ma => (f sc b).map fun mb => miZp ma mb else none) else (f sc e).map miE
  | .Set _ _ _ => none
  | e => (f sc e).map miE
def optE (f : Expr → Option M) : Option Expr → Option (Option M)
  | none => some none
  | some e => (f e).map some
def mTrue : M := mLit (.bl true)
def trComp (Γ : Gam) (f : Scope → Expr → Option M) (sc : Scope) (elt : Expr) (g : Comprehension) (scope : Scope) : Option M :=
  match g with
  | ⟨tg, iter, ifs, a⟩ => if a = 0 then
      (trIt Γ f sc tg iter).bind fun mi => (trT Γ.N (relS scope sc) scope tg).bind fun t => (ixsS Γ.N (tgNames tg)).bind fun own =>
        if blkC Γ.N sc scope ((tgNames tg).zip own) && t.is.all (fun i => decide (i ∈ own)) then
          (f (relS scope sc) elt).bind fun me => match ifs with
            | [] => some (mComp mi own t.st mTrue me)
            | [c] => (f (relS scope sc) c).map fun mc => mComp mi own t.st mc me
            | _ => none
        else none
    else none
/-- the name of a module's dict -/
def kdB (Γ : Gam) (sc : Scope) : Expr → Option (List (Tx × D))
  | .Name x _ => if isGl sc x && okN x then Γ.kdc.lookup x else none
  | _ => none
theorem kdB_ok {Γ : Gam} {sc : Scope} {b : Expr} {kvs : List (Tx × D)} (h : kdB Γ sc b = some kvs) : ∃ x p, b = .Name x p ∧ isGl sc x = true ∧ okN x = true ∧ Γ.kdc.lookup x = some kvs := by
  cases b with
  | Name x p =>
    have h : (if isGl sc x && okN x then Γ.kdc.lookup x else none) = some kvs := h
    cases q : isGl sc x && okN x with
    | false => rw [q] at h; cases h
    | true =>
      rw [q] at h
      rw [Bool.and_eq_true] at q
      exact ⟨x, p, rfl, q.1, q.2, h⟩
  | _ => cases h
/-- the keys of a dict that is written -/
def keysT : List (Option Expr) → Option (List Tx)
  | [] => some []
  | some (.Constant (.str k) _ _) :: r => (keysT r).map fun l => k.cps.toList :: l
  | _ :: _ => none
def dictB : Expr → Option (List Tx × List Expr)
  | .Dict keys vals _ => (keysT keys).bind fun ks => if decide (ks.length = vals.length) && decide (ks.length ≤ 15) && !ks.isEmpty then some (ks, vals) else none
  | _ => none
/-- c + o.replace(y, z) -/
def replB : Expr → Operator → Expr → Option (Str × Str × Str × Expr)
  | .Constant (.str c) _ _, .Add, .Call (.Attribute o m apos) [.Constant (.str y) _ _, .Constant (.str z) _ _] [] pos => if decide (m = "replace") && !(y == z) && plainO o && (apos.endLine == pos.line) then some (c, y, z, o) else none
  | _, _, _ => none
def trDlG (f : Expr → Option M) (m : Str) (apos pos : Pos) (ks : List Tx) (vs : List Expr) : List Expr → Option M
  | [a, b] => if decide (m = "get") && noStar a && noStar b && (apos.endLine == pos.line) then (trL f vs).bind fun ms => (f a).bind fun x => (f b).map fun y => mDlG ks ms x y else none
  | _ => none
/-- a thing whose get is a dict's -/
def dName : Expr → Bool
  | .Name x _ => decide (x ∈ (["rows", "starts", "kept"] : List Str))
  | .Attribute _ x _ => decide (x ∈ (["rows", "starts", "kept"] : List Str))
  | .Dict _ _ _ => true
  | _ => false
def getB (o : Expr) (m : Str) : List Expr → Bool
  | [a, b] => decide (m = "get") && (dictB o).isNone
  | [a] => decide (m = "get") && dName o
  | _ => false
def trGet (f : Expr → Option M) (o : Expr) (apos pos : Pos) : List Expr → Option M
  | [a, b] => if plainO o && (noStar a && noStar b) && (apos.endLine == pos.line) then (f o).bind fun mo => (f a).bind fun x => (f b).map fun y => mGet2 mo x y else none
  | [a] => if plainO o && noStar a && (apos.endLine == pos.line) then (f o).bind fun mo => (f a).map fun x => mGet1 mo x else none
  | _ => none
def trDict (f : Expr → Option M) (keys : List (Option Expr)) (vals : List Expr) (p : Pos) : Option M := match keys with
  | [] => if vals.isEmpty then some mDNew else none
  | k :: r => match dictB (.Dict (k :: r) vals p) with
    | some (ks, vs) => (trL f vs).map (mDsp ks)
    | none => none
def stepE (Γ : Gam) (lo : Nat) (f f0 : Scope → Expr → Option M) (sc : Scope) : Expr → Option M
  | .Constant c _ _ => match c with
    | .int i => some (mLit (.int i))
    | .str s => some (mLit (.str s.cps.toList))
    | .bool b => some (mLit (.bl b))
    | .none => some (mLit .non)
    | _ => none
  | .Name x _ => if okN x then (if isVis sc x then (ixS Γ.N x).map mVar else if isGl sc x then (Γ.cst.lookup x).map mLit else none) else none
  | .BinOp a op b _ => match replB a op b with
    | some (c, y, z, o) => (f sc o).map (mRepl c.cps.toList y.cps.toList z.cps.toList)
    | none => (f sc a).bind fun x => (f sc b).bind fun y => match op with
      | .Add => some (mBin .Add x y)
      | .Sub => some (mBin .Sub x y)
      | .Mult => some (mBin .Mult x y)
      | .Mod => some (mBin .Mod x y)
      | .FloorDiv => some (mBin .FloorDiv x y)
      | .Pow => some (mBin .Pow x y)
      | _ => none
  | .UnaryOp op a _ => (f sc a).bind fun x => match op with
    | .Not => some (mNot x)
    | .USub => some (mNeg x)
    | _ => none
  | .BoolOp op es _ => match op with
    | .And => trBo mAnd (f sc) es
    | .Or => trBo mOr (f sc) es
  | .Compare a [op] [b] _ => match kdB Γ sc b with
    | some kvs => (f sc a).bind fun x => match op with
      | .In => some (mKIn kvs x)
      | .NotIn => some (mKNi kvs x)
      | _ => none
    | none => if behindInMarks op b then none else (f sc a).bind fun x => (f sc b).bind fun y => some (mCmp op x y)
  | .Compare a [op, op'] [b, c] _ => if lastMarks [op, op'] [b, c] then none else (f sc a).bind fun x => (f sc b).bind fun y => (f sc c).bind fun z => some (mChain op op' x y z)
  | .IfExp c a b _ => (f sc c).bind fun x => (f sc a).bind fun y => (f sc b).bind fun z => some (mIf x y z)
  | .Tuple es _ _ => if es.all noStar then (trL (f sc) es).map mTup else none
  | .List es _ => if es.all noStar then (trL (f sc) es).map mLst else none
  | .Subscript a (.Slice lo hi none _) _ => (f sc a).bind fun x => (optE (f sc) lo).bind fun l => (optE (f sc) hi).bind fun u => some (mSlc x l u)
  | .Subscript a (.Slice _ _ (some _) _) _ => none
  | .Subscript a b _ => match dictB a with
    | some (ks, vs) => (trL (f sc) vs).bind fun ms => (f sc b).map fun y => mDlI ks ms y
    | none => match kdB Γ sc a with
      | some kvs => (f sc b).map fun y => mKIdx kvs y
      | none => (f sc a).bind fun x => (f sc b).bind fun y => some (mIdx x y)
  | .Attribute o x _ => if plainO o then (f sc o).bind fun m => (Γ.fld.lookup x).map fun i => mAttr m i else none
  | .Call (.Name x _) args [] _ => trCallN Γ lo f f0 sc x args
  | .Call (.Attribute o m apos) args [] pos => if getB o m args then trGet (f sc) o apos pos args else match dictB o with
    | some (ks, vs) => trDlG (f sc) m apos pos ks vs args
    | none => trMeth Γ f sc o m apos pos args
  | .Dict keys vals p => trDict (f sc) keys vals p
  | .ListComp elt [g] scope _ => trComp Γ f sc elt g scope
  | _ => none
def trE (Γ : Gam) (lo : Nat) : Nat → Scope → Expr → Option M
  | 0, _, _ => none
  | n + 1, sc, e => stepE Γ lo (trE Γ lo n) (trE Γ 1 n) sc e
end
end Mp

/-! Mp15: the translator of expressions is right. -/
namespace Mp
open PySem L2 LamX PyProof.Rows
/-- the module's facts -/
structure Fx (P : Program) (w : World) (K : PySem.W.Frag) (mg : Str → Option Value) (base : Heap) (Γ : Gam) (G : Wd) (k : Nat) : Prop where
  hK : K = G.K
  hw : w = G.w
  inj : ∀ f g, G.fnm f = G.fnm g → f = g
  cst : ∀ x d, Γ.cst.lookup x = some d → ∃ u v, mg x = some u ∧ RelV v u ∧ ∀ H as, RV G.K H as v d
  fns : ∀ x g, Γ.fns.lookup x = some g → ∃ fa fd ps, mg x = some (.ref fa) ∧ PySem.W.keepIn K (.ref fa) = true ∧ L2.Binds K fd ps [] ∧ FnOk P w K mg base (L2N.CX P w) (k + 2) fa fd ps (spD G (Γ.cl g))
  cls : ∀ x c g, Γ.cls.lookup x = some (c, g) → ∃ fa fd ps, mg x = some (.ref (G.cls c)) ∧ Mk K (G.cls c) fa ∧ Cls K (G.cls c) ∧ L2.Binds K fd ps [] ∧ FnOk P w K mg base (L2N.CX P w) (k + 2) fa fd ps (spD G (Γ.cl g))
  fld : ∀ x i, Γ.fld.lookup x = some i → G.fnm i = x
  mes : ∀ m l c g, Γ.mes.lookup m = some l → l.lookup c = some g → ∃ fa fd ps, Cls K (G.cls c) ∧ Meth K (G.cls c) m fa ∧ FnOk P w K mg base (L2N.CX P w) (k + 2) fa fd ps (spD G (Γ.cl g)) ∧ L2.Binds K fd ps []
  fre : ∀ x ∈ Γ.fre, mg x = none
  exs : ∀ x c, Γ.exs.lookup x = some c → mg x = some (.ref (G.cls c)) ∧ PySem.W.excIn K (G.cls c) He.veBase "ValueError.__new__" = true ∧ PySem.W.keepIn K (.ref (G.cls c)) = true ∧ PySem.W.subIn K (.ref (G.cls c)) (.type "BaseException") = some true ∧ PySem.W.typeIn K (.ref (G.cls c)) = some (.type "type")
  fo : ∀ q ∈ Γ.fo, NoAttr G.K (G.cls q.1) (G.fnm q.2)
  tld : ∀ c j, Γ.tld.lookup c = some j → ToldC K mg Γ.bas (G.cls c) j
  exw : ∀ x c, Γ.exw.lookup x = some c → ExW K mg x (G.cls c)
  kdc : ∀ x kvs, Γ.kdc.lookup x = some kvs → ∃ a, mg x = some (.ref a) ∧ KDc K w a kvs
/-- where a lambda may be made -/
def LamF (X : Cx) (Γ : Gam) (G : Wd) (k : Nat) : Prop := ∃ c P, TabB X.base X.mg c P ∧ X.env.code = .ref c ∧ (P, X.env.qual ++ "<lambda>") ∈ G.T ∧ (∀ q ∈ G.T, q.1 = P → q.2 = X.env.qual ++ "<lambda>") ∧ ToldF X.K X.mg Γ.told Γ.bas Γ.wrd ∧ Room (k + 5) X.A
structure CxO (Γ : Gam) (G : Wd) (k : Nat) (lo : Nat) (X : Cx) (W : WX) (sc : Scope) : Prop where
  fx : Fx X.prog X.w X.K X.mg X.base Γ G k
  N : X.N = Γ.N
  nd : Γ.N.Nodup
  sc : X.env.scope = sc
  calm : X.calm = true
  tk : L2N.Takes X W
  room : Room (k + 2) X.A
  mkr : lo ≠ 0 → Room (k + 3) X.A
  lam : lo = 2 → LamF X Γ G k
def Good (Γ : Gam) (G : Wd) (k : Nat) (lo : Nat) (sc : Scope) (e : Expr) (m : M) : Prop := ∀ X W, CxO Γ G k lo X W sc → PE X e (tE G W m) ∧ PT X e (tT G W m)
section
variable {Γ : Gam} {G : Wd} {k : Nat} {lo : Nat} {sc : Scope} {X : Cx} {W : WX}
theorem CxO.gl (c : CxO Γ G k lo X W sc) {x : Str} (h : isGl sc x = true) : Gl X x := by
  have := of_decide_eq_true h
  rw [← c.sc] at this
  exact this
theorem CxO.vis (c : CxO Γ G k lo X W sc) {x : Str} (h : isVis sc x = true) : Vis X.env.scope x := by
  unfold isVis at h
  rw [Bool.or_eq_true, Bool.or_eq_true, decide_eq_true_eq, decide_eq_true_eq, decide_eq_true_eq] at h
  rw [c.sc]
  exact h
/-- a plain test -/
theorem good_of {e : Expr} {m : M} (h : ∀ X W, CxO Γ G k lo X W sc → PE X e (tE G W m)) (ht : ∀ env wh, isTrue e env wh = (do let v ← wh; standAt e.pos; holding [v] (truthy v))) : Good Γ G k lo sc e m := fun X W c => ⟨h X W c, tT_of (h X W c) (ht _)⟩
theorem args_ok {f : Expr → Option M} (ih : ∀ e m, f e = some m → Good Γ G k lo sc e m) (c : CxO Γ G k lo X W sc) : ∀ {es : List Expr} {ms : List M}, es.all noStar = true → trL f es = some ms → PA X es (tL G W ms)
  | [], ms, _, h => by
    cases h
    exact tL_nil
  | e :: es, ms, hs, h => by
    rw [List.all_cons, Bool.and_eq_true] at hs
    simp only [trL, Option.bind_eq_some_iff] at h
    obtain ⟨m, h1, ms', h2, h3⟩ := h
    cases h3
    exact tL_cons (ih e m h1 X W c).1 (args_ok ih c hs.2 h2) (star1 hs.1)
theorem replB_ok {a b : Expr} {op : Operator} {c y z : Str} {o : Expr} (h : replB a op b = some (c, y, z, o)) : ∃ j p0 j1 p1 j2 p2 apos pos, a = .Constant (.str c) j p0 ∧ op = .Add ∧ b = .Call (.Attribute o "replace" apos) [.Constant (.str y) j1 p1, .Constant (.str z) j2 p2] [] pos ∧ (y == z) = false ∧ plainO o = true ∧ (apos.endLine == pos.line) = true := by
  unfold replB at h
  split at h
  · split at h
    · rename_i hq
      simp only [Bool.and_eq_true, decide_eq_true_eq, Bool.not_eq_true'] at hq
      obtain ⟨⟨⟨rfl, e1⟩, e2⟩, e3⟩ := hq
      cases h
      exact ⟨_, _, _, _, _, _, _, _, rfl, rfl, rfl, e1, e2, e3⟩
    · cases h
  · cases h
theorem dictB_ok {e : Expr} {ks : List Tx} {vs : List Expr} (h : dictB e = some (ks, vs)) : ∃ keys p, e = .Dict keys vs p ∧ keysT keys = some ks ∧ ks.length = vs.length ∧ ks.length ≤ 15 ∧ ks ≠ [] := by
  cases e with
  | Dict keys vals p =>
    simp only [dictB, Option.bind_eq_some_iff] at h
    obtain ⟨ks', hk, h⟩ := h
    split at h
    · rename_i hq
      simp only [Bool.and_eq_true, decide_eq_true_eq] at hq
      cases h
      refine ⟨keys, p, rfl, hk, hq.1.1, hq.1.2, fun z => ?_⟩
      rw [z] at hq
      exact absurd hq.2 (by decide)
    · cases h
  | _ => cases h
theorem keysT_ok : ∀ {keys : List (Option Expr)} {ks : List Tx}, keysT keys = some ks → keys.all (·.isSome) = true ∧ keys.length = ks.length
  | [], ks, h => by cases h; exact ⟨rfl, rfl⟩
  | none :: r, ks, h => by cases h
  | some e :: r, ks, h => by
    cases e with
    | Constant c j p =>
      cases c with
      | str k =>
        simp only [keysT, Option.map_eq_some_iff] at h
        obtain ⟨l, h, rfl⟩ := h
        obtain ⟨h1, h2⟩ := keysT_ok h
        exact ⟨by rw [List.all_cons, h1]; rfl, by simp [h2]⟩
      | _ => cases h
    | _ => cases h
theorem pps_of {f : Expr → Option M} (ih : ∀ e m, f e = some m → Good Γ G k lo sc e m) (c : CxO Γ G k lo X W sc) {pos : Pos} : ∀ {keys : List (Option Expr)} {vals : List Expr} {ks : List Tx} {ms : List M}, keysT keys = some ks → ks.length = vals.length → trL f vals = some ms → PPs X pos keys vals (dTrs G W ks ms) ∧ ks.length = ms.length
  | [], [], ks, ms, h, _, h2 => by cases h; cases h2; exact ⟨pps_nil, rfl⟩
  | [], v :: vals, ks, ms, h, hl, _ => by cases h; cases hl
  | none :: r, _, ks, _, h, _, _ => by cases h
  | some e :: r, vals, ks, ms, h, hl, h2 => by
    cases e with
    | Constant cn j p =>
      cases cn with
      | str kx =>
        simp only [keysT, Option.map_eq_some_iff] at h
        obtain ⟨l, h, rfl⟩ := h
        cases vals with
        | nil => cases hl
        | cons v vals =>
          simp only [trL, Option.bind_eq_some_iff] at h2
          obtain ⟨m, hm, ms', h2, h3⟩ := h2
          cases h3
          obtain ⟨r1, r2⟩ := pps_of ih c (pos := pos) h (by simpa using hl) h2
          have e : (tC (.str ⟨kx.cps.toList.toArray⟩) : TE) = tC (.str kx) := rfl
          refine ⟨?_, by simp [r2]⟩
          show PPs X pos (some (.Constant (.str kx) j p) :: r) (v :: vals) ((tC (.str ⟨kx.cps.toList.toArray⟩), tE G W m) :: dTrs G W l ms')
          rw [e]
          exact pps_cons pe_str (ih v m hm X W c).1 r1
      | _ => cases h
    | _ => cases h
theorem args_nil {f : Expr → Option M} {es : List Expr} {ms : List M} (h : trL f es = some ms) (e : es = []) : ms = [] := by
  subst e
  cases h
  rfl
section
variable {f f0 : Scope → Expr → Option M} (ih : ∀ sc e m, f sc e = some m → Good Γ G k lo sc e m)
include ih
theorem g_bin {a b : Expr} {op : Operator} {pos : Pos} {m : M} (h : stepE Γ lo f f0 sc (.BinOp a op b pos) = some m) : Good Γ G k lo sc (.BinOp a op b pos) m := by
  simp only [stepE] at h
  split at h
  · rename_i cc y z o hr
    simp only [Option.map_eq_some_iff] at h
    obtain ⟨x, hx, rfl⟩ := h
    obtain ⟨j, p0, j1, p1, j2, p2, apos, q, rfl, rfl, rfl, e1, e2, e3⟩ := replB_ok hr
    exact good_of (fun X W c => tE_repl (ih _ _ _ hx X W c).1 e1 e2 e3) fun _ _ => rfl
  simp only [Option.bind_eq_some_iff] at h
  obtain ⟨x, hx, y, hy, h⟩ := h
  refine good_of (fun X W c => ?_) fun _ _ => rfl
  have pa := (ih _ _ _ hx X W c).1
  have pb := (ih _ _ _ hy X W c).1
  cases op <;> first
    | (cases h; exact tE_add c.fx.hK pa pb)
    | (cases h; exact tE_sub pa pb)
    | (cases h; exact tE_mul c.fx.hK pa pb)
    | (cases h; exact tE_mod pa pb)
    | (cases h; exact tE_div pa pb)
    | (cases h; exact tE_pow pa pb)
    | cases h
theorem g_un {a : Expr} {op : UnaryOp} {pos : Pos} {m : M} (h : stepE Γ lo f f0 sc (.UnaryOp op a pos) = some m) : Good Γ G k lo sc (.UnaryOp op a pos) m := by
  simp only [stepE, Option.bind_eq_some_iff] at h
  obtain ⟨x, hx, h⟩ := h
  cases op with
  | Not =>
    cases h
    intro X W c
    obtain ⟨p1, p2⟩ := ih _ _ _ hx X W c
    exact ⟨tE_not p1, tT_not p2⟩
  | USub =>
    cases h
    exact good_of (fun X W c => tE_neg (ih _ _ _ hx X W c).1) fun _ _ => rfl
  | _ => cases h
theorem g_and {pos : Pos} : ∀ {es : List Expr} {m : M}, trBo mAnd (f sc) es = some m → ∀ X W, CxO Γ G k lo X W sc → PE X (.BoolOp .And es pos) (tE G W m) ∧ PW X (.BoolOp .And es pos) (tT G W m)
  | [], _, h, _, _, _ => by cases h
  | [e], m, h, X, W, c => by
    obtain ⟨p1, p2⟩ := ih _ _ _ (show f sc e = some m from h) X W c
    exact ⟨pe_one p1, pw_and1 p2⟩
  | e :: e2 :: es, m, h, X, W, c => by
    simp only [trBo, Option.bind_eq_some_iff] at h
    obtain ⟨x, hx, r, hr, h⟩ := h
    cases h
    obtain ⟨p1, p2⟩ := ih _ _ _ hx X W c
    obtain ⟨q1, q2⟩ := g_and (es := e2 :: es) hr X W c
    exact ⟨tE_and p1 q1, tW_and p2 q2⟩
theorem g_or {pos : Pos} : ∀ {es : List Expr} {m : M}, trBo mOr (f sc) es = some m → ∀ X W, CxO Γ G k lo X W sc → PE X (.BoolOp .Or es pos) (tE G W m) ∧ PW X (.BoolOp .Or es pos) (tT G W m)
  | [], _, h, _, _, _ => by cases h
  | [e], m, h, X, W, c => by
    obtain ⟨p1, p2⟩ := ih _ _ _ (show f sc e = some m from h) X W c
    exact ⟨pe_one p1, pw_or1 p2⟩
  | e :: e2 :: es, m, h, X, W, c => by
    simp only [trBo, Option.bind_eq_some_iff] at h
    obtain ⟨x, hx, r, hr, h⟩ := h
    cases h
    obtain ⟨p1, p2⟩ := ih _ _ _ hx X W c
    obtain ⟨q1, q2⟩ := g_or (es := e2 :: es) hr X W c
    exact ⟨tE_or p1 q1, tW_or p2 q2⟩
theorem g_cmp1 {a b : Expr} {op : CmpOp} {pos : Pos} {m : M} (h : stepE Γ lo f f0 sc (.Compare a [op] [b] pos) = some m) : Good Γ G k lo sc (.Compare a [op] [b] pos) m := by
  simp only [stepE] at h
  split at h
  · rename_i kvs hk
    simp only [Option.bind_eq_some_iff] at h
    obtain ⟨x, hx, h⟩ := h
    obtain ⟨y, py, rfl, g1, g2, hk⟩ := kdB_ok hk
    intro X W c
    obtain ⟨q, e1, e2⟩ := c.fx.kdc y kvs hk
    split at h
    · cases h
      exact tE_kin e2 (c.gl g1) e1 (okN_1 g2) (ih _ _ _ hx X W c).1
    · cases h
      exact tE_kni e2 (c.gl g1) e1 (okN_1 g2) (ih _ _ _ hx X W c).1
    · cases h
  split at h
  · cases h
  · rename_i hb
    simp only [Option.bind_eq_some_iff] at h
    obtain ⟨x, hx, y, hy, h⟩ := h
    cases h
    intro X W c
    exact tE_cmp (cmp_all c.fx.hK c.fx.hw c.room.units op) (ih _ _ _ hx X W c).1 (ih _ _ _ hy X W c).1 (by simpa using hb)
theorem g_cmp2 {a b d : Expr} {op op' : CmpOp} {pos : Pos} {m : M} (h : stepE Γ lo f f0 sc (.Compare a [op, op'] [b, d] pos) = some m) : Good Γ G k lo sc (.Compare a [op, op'] [b, d] pos) m := by
  simp only [stepE] at h
  split at h
  · cases h
  · rename_i hb
    simp only [Option.bind_eq_some_iff] at h
    obtain ⟨x, hx, y, hy, z, hz, h⟩ := h
    cases h
    intro X W c
    exact tE_chain (cmp_all c.fx.hK c.fx.hw c.room.units op) (cmp_all c.fx.hK c.fx.hw c.room.units op') (ih _ _ _ hx X W c).1 (ih _ _ _ hy X W c).1 (ih _ _ _ hz X W c).1 (by simpa using hb)
theorem pt_ifX {X : Cx} {a b c : Expr} {tc ta tb : TT} {pos : Pos} (pc : PT X c tc) (pa : PT X a ta) (pb : PT X b tb) : PT X (.IfExp c a b pos) (fun σ H Q => tc σ H fun d H1 => if d = true then ta σ H1 Q else tb σ H1 Q) := by
  refine ⟨fun pins s σ H Q I h => ?_⟩
  show wpAny _ _ (do if ← isTrue c X.env (eval c X.env) then isTrue a X.env (eval a X.env) else isTrue b X.env (eval b X.env)) _ _ _
  refine wpAny_bind (thn (pc.run pins s σ H _ I h) fun d s1 hd => ?_)
  obtain ⟨H1, I1, q1⟩ := hd
  cases d with
  | true => exact pa.run pins s1 σ H1 Q I1 q1
  | false => exact pb.run pins s1 σ H1 Q I1 q1
theorem g_ife {a b d : Expr} {pos : Pos} {m : M} (h : stepE Γ lo f f0 sc (.IfExp d a b pos) = some m) : Good Γ G k lo sc (.IfExp d a b pos) m := by
  simp only [stepE, Option.bind_eq_some_iff] at h
  obtain ⟨x, hx, y, hy, z, hz, h⟩ := h
  cases h
  intro X W c
  obtain ⟨p1, p2⟩ := ih _ _ _ hx X W c
  obtain ⟨q1, q2⟩ := ih _ _ _ hy X W c
  obtain ⟨r1, r2⟩ := ih _ _ _ hz X W c
  refine ⟨tE_ife p2 q1 r1, PT.imp (pt_ifX ih p2 q2 r2) fun σ H Q w => ?_⟩
  obtain ⟨as, h, en, rh, re, ob⟩ := w
  refine ⟨as, h, en, rh, re, (OutR.bind ob).imp fun v H1 n => ?_⟩
  obtain ⟨d, h1, as1, x1, rv, rh1, re1, o1⟩ := At.nxt re n
  split at o1
  · cases rv
    exact ⟨true, rfl, iteT ⟨as1, h1, en, rh1, re1, o1⟩⟩
  · cases rv
    exact ⟨false, rfl, iteF ⟨as1, h1, en, rh1, re1, o1⟩⟩
  · exact o1.elim
theorem g_tup {es : List Expr} {q : Nat} {pos : Pos} {m : M} (h : stepE Γ lo f f0 sc (.Tuple es q pos) = some m) : Good Γ G k lo sc (.Tuple es q pos) m := by
  simp only [stepE] at h
  split at h
  · rename_i hs
    simp only [Option.map_eq_some_iff] at h
    obtain ⟨ms, h1, rfl⟩ := h
    exact good_of (fun X W c => tE_tup (args_ok (fun e m => ih sc e m) c hs h1)) fun _ _ => rfl
  · cases h
theorem g_lst {es : List Expr} {pos : Pos} {m : M} (h : stepE Γ lo f f0 sc (.List es pos) = some m) : Good Γ G k lo sc (.List es pos) m := by
  simp only [stepE] at h
  split at h
  · rename_i hs
    simp only [Option.map_eq_some_iff] at h
    obtain ⟨ms, h1, rfl⟩ := h
    exact good_of (fun X W c => tE_lst (args_ok (fun e m => ih sc e m) c hs h1)) fun _ _ => rfl
  · cases h
theorem g_dict {keys : List (Option Expr)} {vals : List Expr} {pos : Pos} {m : M} (h : stepE Γ lo f f0 sc (.Dict keys vals pos) = some m) : Good Γ G k lo sc (.Dict keys vals pos) m := by
  have h : trDict (f sc) keys vals pos = some m := h
  unfold trDict at h
  split at h
  · split at h
    · rename_i hv
      cases h
      cases vals with
      | nil => exact good_of (fun X W c => tE_dnew) fun _ _ => rfl
      | cons _ _ => cases hv
    · cases h
  · split at h
    · rename_i ks vs hd
      simp only [Option.map_eq_some_iff] at h
      obtain ⟨ms, hms, rfl⟩ := h
      obtain ⟨keys', pd, e, hk, hl, h15, h0⟩ := dictB_ok hd
      cases e
      obtain ⟨k1, k2⟩ := keysT_ok hk
      refine good_of (fun X W c => ?_) fun _ _ => rfl
      obtain ⟨pp, hl2⟩ := pps_of (fun e m => ih sc e m) c (pos := pos) hk hl hms
      exact tE_dsp hl2 pp k1 (by rw [k2, hl]) (fun z => nomatch z) (by omega) h15
    · cases h
theorem opt_ok {o : Option Expr} {mo : Option M} (h : optE (f sc) o = some mo) (c : CxO Γ G k lo X W sc) : PO X o (tP G W mo) := by
  cases o with
  | none => cases h; exact tP_none
  | some e =>
    simp only [optE, Option.map_eq_some_iff] at h
    obtain ⟨m, h1, rfl⟩ := h
    exact tP_some (ih _ _ _ h1 X W c).1
theorem g_slc {a : Expr} {lo' hi : Option Expr} {p2 pos : Pos} {m : M} (h : stepE Γ lo f f0 sc (.Subscript a (.Slice lo' hi none p2) pos) = some m) : Good Γ G k lo sc (.Subscript a (.Slice lo' hi none p2) pos) m := by
  simp only [stepE, Option.bind_eq_some_iff] at h
  obtain ⟨x, hx, l, hl, u, hu, h⟩ := h
  cases h
  exact good_of (fun X W c => tE_slc c.fx.hK (ih _ _ _ hx X W c).1 (opt_ok ih hl c) (opt_ok ih hu c)) fun _ _ => rfl
theorem g_idx {a b : Expr} {pos : Pos} {m : M} (nb : ∀ l u s p, b ≠ .Slice l u s p) (h : stepE Γ lo f f0 sc (.Subscript a b pos) = some m) : Good Γ G k lo sc (.Subscript a b pos) m := by
  have h' : (match dictB a with | some (ks, vs) => (trL (f sc) vs).bind fun ms => (f sc b).map fun y => mDlI ks ms y | none => match kdB Γ sc a with | some kvs => (f sc b).map fun y => mKIdx kvs y | none => (f sc a).bind fun x => (f sc b).bind fun y => some (mIdx x y)) = some m := by
    cases b <;> first | exact h | exact absurd rfl (nb _ _ _ _)
  split at h'
  · rename_i ks vs hd
    simp only [Option.bind_eq_some_iff, Option.map_eq_some_iff] at h'
    obtain ⟨ms, hms, y, hy, rfl⟩ := h'
    obtain ⟨keys, pd, rfl, hk, hl, h15, h0⟩ := dictB_ok hd
    obtain ⟨k1, k2⟩ := keysT_ok hk
    refine good_of (fun X W c => ?_) fun _ _ => rfl
    obtain ⟨pp, hl2⟩ := pps_of (fun e m => ih sc e m) c (pos := pd) hk hl hms
    refine tE_dli (by have := c.room.units; omega) hl2 pp k1 (by rw [k2, hl]) (fun z => h0 (by rw [z] at k2; exact List.length_eq_zero_iff.mp k2.symm)) (by omega) h15 (ih _ _ _ hy X W c).1 fun o i => ?_
    cases b <;> first | rfl | exact absurd rfl (nb _ _ _ _)
  split at h'
  · rename_i kvs hk
    simp only [Option.map_eq_some_iff] at h'
    obtain ⟨y, hy, rfl⟩ := h'
    obtain ⟨x, px, rfl, g1, g2, hk⟩ := kdB_ok hk
    refine good_of (fun X W c => ?_) fun _ _ => rfl
    obtain ⟨q, e1, e2⟩ := c.fx.kdc x kvs hk
    refine tE_kidx c.fx.hK e2 (c.gl g1) e1 (okN_1 g2) (ih _ _ _ hy X W c).1 fun o i => ?_
    cases b <;> first | rfl | exact absurd rfl (nb _ _ _ _)
  simp only [Option.bind_eq_some_iff] at h'
  obtain ⟨x, hx, y, hy, h'⟩ := h'
  cases h'
  refine good_of (fun X W c => tE_idx c.fx.hK c.fx.hw c.room.units (ih _ _ _ hx X W c).1 (ih _ _ _ hy X W c).1 fun o i => ?_) fun _ _ => rfl
  cases b <;> first | rfl | exact absurd rfl (nb _ _ _ _)
theorem g_attr {o : Expr} {x : Str} {pos : Pos} {m : M} (h : stepE Γ lo f f0 sc (.Attribute o x pos) = some m) : Good Γ G k lo sc (.Attribute o x pos) m := by
  simp only [stepE] at h
  split at h
  · rename_i hp
    simp only [Option.bind_eq_some_iff, Option.map_eq_some_iff] at h
    obtain ⟨y, hy, i, hi, rfl⟩ := h
    refine good_of (fun X W c => ?_) fun _ _ => rfl
    have e := c.fx.fld x i hi
    subst e
    exact tE_attr c.fx.hK c.fx.inj (ih _ _ _ hy X W c).1 (attr_base hp)
  · cases h
end
theorem g_const {c : Const} {j : Nat} {pos : Pos} {f f0 : Scope → Expr → Option M} {m : M} (h : stepE Γ lo f f0 sc (.Constant c j pos) = some m) : Good Γ G k lo sc (.Constant c j pos) m := by
  refine good_of (fun X W cx => ?_) fun _ _ => rfl
  cases c with
  | int i => cases h; exact tE_lit pe_int fun _ _ => .int i
  | str s => cases h; exact tE_lit pe_str fun _ _ => RV.ofStr s
  | bool b => cases h; exact tE_lit pe_bl fun _ _ => .bl b
  | none => cases h; exact tE_lit pe_non fun _ _ => .non
  | _ => cases h
theorem g_name {x : Str} {pos : Pos} {f f0 : Scope → Expr → Option M} {m : M} (h : stepE Γ lo f f0 sc (.Name x pos) = some m) : Good Γ G k lo sc (.Name x pos) m := by
  simp only [stepE] at h
  refine good_of (fun X W c => ?_) fun _ _ => rfl
  split at h
  · rename_i hn
    split at h
    · rename_i hv
      simp only [Option.map_eq_some_iff] at h
      obtain ⟨i, hi, rfl⟩ := h
      exact tE_var (pe_var (by rw [c.N]; exact ixS_ok hi) (c.vis hv) (okN_1 hn) (okN_2 hn))
    · split at h
      · rename_i hg
        simp only [Option.map_eq_some_iff] at h
        obtain ⟨d, hd, rfl⟩ := h
        obtain ⟨u, v, e1, e2, e3⟩ := c.fx.cst x d hd
        exact tE_lit (pe_glob (c.gl hg) e1 e2 (okN_1 hn)) e3
      · cases h
  · cases h
end
end Mp

/-! Mp16: calls and comprehensions translated. -/
namespace Mp
open PySem L2 LamX PyProof.Rows
section
variable {Γ : Gam} {G : Wd} {k : Nat} {lo : Nat} {sc : Scope} {X : Cx} {W : WX} {f f0 : Scope → Expr → Option M}
theorem takes0N {X : Cx} : L2N.Takes X W0 := fun u s x => by
  obtain ⟨_, _, _, _, _, _, _, _, _, _, _, _, _, _, _, _, z⟩ := x
  exact z.elim
theorem CxO.room4 (c : CxO Γ G k lo X W sc) : Room (k + 2) X.A := c.room
theorem and6 {a b : Bool} (h : (a && b) = true) : a = true ∧ b = true := Bool.and_eq_true_iff.mp h
theorem g_told (ih0 : ∀ sc e m, f0 sc e = some m → Good Γ G k 1 sc e m) {x : Str} {params : Arguments} {body : Expr} {scope : Scope} {lpos p pos : Pos} {m : M} (hg : isGl sc x = true) (hn : okN x = true)
    (h : (if decide (lo = 2) && decide (x = Γ.told) && lamSB sc scope && params.posonlyargs.isEmpty && params.args.isEmpty && params.vararg.isNone && params.kwonlyargs.isEmpty && params.kw_defaults.isEmpty && params.kwarg.isNone && params.defaults.isEmpty then (f0 scope body).map (mTold fun c => Γ.tld.lookup c) else none) = some m) :
    Good Γ G k lo sc (.Call (.Name x p) [.Lambda params body scope lpos] [] pos) m := by
  refine good_of (fun X W c => ?_) fun _ _ => rfl
  split at h
  · rename_i hq
    simp only [Option.map_eq_some_iff] at h
    obtain ⟨mb, hb, rfl⟩ := h
    obtain ⟨hq, q10⟩ := and6 hq
    obtain ⟨hq, q9⟩ := and6 hq
    obtain ⟨hq, q8⟩ := and6 hq
    obtain ⟨hq, q7⟩ := and6 hq
    obtain ⟨hq, q6⟩ := and6 hq
    obtain ⟨hq, q5⟩ := and6 hq
    obtain ⟨hq, q4⟩ := and6 hq
    obtain ⟨hq, q3⟩ := and6 hq
    obtain ⟨q1, q2⟩ := and6 hq
    have ex := of_decide_eq_true q2
    subst ex
    obtain ⟨po, ar, va, kw, kd, ka, df⟩ := params
    simp only [List.isEmpty_iff, Option.isNone_iff_eq_none] at q4 q5 q6 q7 q8 q9 q10
    subst q4 q5 q6 q7 q8 q9 q10
    obtain ⟨cc, P, TB, hcode, hmT, hu, TF, hr⟩ := c.lam (of_decide_eq_true q1)
    have L : LamS X.env.scope scope := by rw [c.sc]; exact lamS_by q3
    refine tE_told (k := k + 3) c.fx.hK TF (fun c2 j hj => c.fx.tld c2 j hj) (c.gl hg) TB hcode hmT hu hr L rfl (fun _ _ _ _ _ => rfl) (fun A outer s H E fa c' hr2 => ?_) (okN_1 hn)
    exact (ih0 _ _ _ hb (lamN X A outer s H E scope fa c') _ ⟨c.fx, c.N, c.nd, rfl, rfl, L2N.takes_of rfl rfl rfl rfl, hr2.mono (by omega), fun _ => hr2, fun z => nomatch z⟩).1
  · cases h
theorem g_callN (ih : ∀ sc e m, f sc e = some m → Good Γ G k lo sc e m) (ih0 : ∀ sc e m, f0 sc e = some m → Good Γ G k 1 sc e m) {x : Str} {args : List Expr} {p pos : Pos} {m : M} (h : stepE Γ lo f f0 sc (.Call (.Name x p) args [] pos) = some m) : Good Γ G k lo sc (.Call (.Name x p) args [] pos) m := by
  have h : trCallN Γ lo f f0 sc x args = some m := h
  unfold trCallN at h
  split at h
  · rename_i hq
    obtain ⟨hq, hst⟩ := and6 hq
    obtain ⟨hg, hn⟩ := and6 hq
    split at h
    · exact g_told ih0 hg hn h
    · rename_i args' nl
      split at h
      · rename_i g hf
        simp only [Option.map_eq_some_iff] at h
        obtain ⟨ms, hms, rfl⟩ := h
        refine good_of (fun X W c => ?_) fun _ _ => rfl
        obtain ⟨fa, fd, ps, e1, e2, e3, FO⟩ := c.fx.fns x g hf
        cases args with
        | nil =>
          have := args_nil hms rfl
          subst this
          exact tE_call0 FO c.room4 (c.gl hg) e1 e2 e3 c.tk (okN_1 hn)
        | cons e es => exact tE_call FO c.room4 (c.gl hg) e1 e2 e3 c.tk (args_ok (fun e m => ih sc e m) c hst hms) hst (okN_1 hn)
      · split at h
        · rename_i cn g hf
          split at h
          · cases h
          rename_i hlo
          simp only [Option.map_eq_some_iff] at h
          obtain ⟨ms, hms, rfl⟩ := h
          refine good_of (fun X W c => ?_) fun _ _ => rfl
          obtain ⟨fa, fd, ps, e1, e2, e3, e4, FO⟩ := c.fx.cls x cn g hf
          exact tE_make c.fx.hK e2 e3 FO (c.mkr hlo) (c.gl hg) e1 e4 c.tk (args_ok (fun e m => ih sc e m) c hst hms) hst (okN_1 hn) (args_nil hms)
        · split at h
          · rename_i b hb
            split at h
            · cases h
            · rename_i hne
              simp only [Option.map_eq_some_iff] at h
              obtain ⟨ms, hms, rfl⟩ := h
              rw [Bool.or_eq_true, not_or] at hne
              have fr : x ∈ Γ.fre := by simpa using hne.2
              refine good_of (fun X W c => ?_) fun _ _ => rfl
              cases args with
              | nil => exact absurd rfl hne.1
              | cons e es => exact tE_bi c.fx.hK c.calm (biOf_ok hb) (c.gl hg) (c.fx.fre x fr) (args_ok (fun e m => ih sc e m) c hst hms) hst
          · split at h
            · rename_i hx
              split at h
              · rename_i a y p2
                split at h
                · rename_i hq2
                  obtain ⟨hq2, f2⟩ := and6 hq2
                  obtain ⟨hgy, f1⟩ := and6 hq2
                  simp only [Option.bind_eq_some_iff, Option.map_eq_some_iff] at h
                  obtain ⟨t, ht, ma, hma, rfl⟩ := h
                  refine good_of (fun X W c => ?_) fun _ _ => rfl
                  rw [List.all_cons, Bool.and_eq_true] at hst
                  exact tE_isi c.fx.hK hx (itOfN_ok ht) (c.gl hg) (c.fx.fre _ (of_decide_eq_true f1)) (c.gl hgy) (c.fx.fre _ (of_decide_eq_true f2)) (ih _ _ _ hma X W c).1 hst.1
                · cases h
              · cases h
            · cases h
  · cases h
theorem g_meth (ih : ∀ sc e m, f sc e = some m → Good Γ G k lo sc e m) {o : Expr} {x : Str} {args : List Expr} {apos pos : Pos} {m : M} (h : stepE Γ lo f f0 sc (.Call (.Attribute o x apos) args [] pos) = some m) : Good Γ G k lo sc (.Call (.Attribute o x apos) args [] pos) m := by
  have h : (if getB o x args then trGet (f sc) o apos pos args else match dictB o with
    | some (ks, vs) => trDlG (f sc) x apos pos ks vs args
    | none => trMeth Γ f sc o x apos pos args) = some m := h
  split at h
  · rename_i hg
    unfold getB at hg
    split at hg
    · rename_i a b hold
      obtain ⟨hx, _⟩ := and6 hg
      have hx := of_decide_eq_true hx
      subst hx
      have h : (if plainO o && (noStar a && noStar b) && (apos.endLine == pos.line) then (f sc o).bind fun mo => (f sc a).bind fun x => (f sc b).map fun y => mGet2 mo x y else none) = some m := h
      split at h
      · rename_i hq
        obtain ⟨hq, q4⟩ := and6 hq
        obtain ⟨q1, hq⟩ := and6 hq
        obtain ⟨q2, q3⟩ := and6 hq
        simp only [Option.bind_eq_some_iff, Option.map_eq_some_iff] at h
        obtain ⟨mo, ho, xa, ha, xb, hb, rfl⟩ := h
        refine good_of (fun X W c => ?_) fun _ _ => rfl
        refine tE_get2 c.fx.hK c.fx.hw c.room.units (ih _ _ _ ho X W c).1 (ih _ _ _ ha X W c).1 (ih _ _ _ hb X W c).1 ⟨attr_base q1, ?_, q4, ?_⟩
        · rw [stars' (by simp [q2, q3])]
          rfl
        · rw [star1 q2, star1 q3]
          rfl
      · cases h
    · rename_i a hold
      obtain ⟨hx, _⟩ := and6 hg
      have hx := of_decide_eq_true hx
      subst hx
      have h : (if plainO o && noStar a && (apos.endLine == pos.line) then (f sc o).bind fun mo => (f sc a).map fun x => mGet1 mo x else none) = some m := h
      split at h
      · rename_i hq
        obtain ⟨hq, q4⟩ := and6 hq
        obtain ⟨q1, q2⟩ := and6 hq
        simp only [Option.bind_eq_some_iff, Option.map_eq_some_iff] at h
        obtain ⟨mo, ho, xa, ha, rfl⟩ := h
        refine good_of (fun X W c => ?_) fun _ _ => rfl
        refine tE_get1 c.fx.hK c.fx.hw c.room.units (ih _ _ _ ho X W c).1 (ih _ _ _ ha X W c).1 ⟨attr_base q1, ?_, q4, ?_⟩
        · rw [stars' (by simp [q2])]
          rfl
        · rw [star1 q2]
          rfl
      · cases h
    · cases hg
  split at h
  · rename_i ks vs hd
    unfold trDlG at h
    split at h
    · rename_i a b
      split at h
      · rename_i hq
        obtain ⟨hq, q4⟩ := and6 hq
        obtain ⟨hq, q3⟩ := and6 hq
        obtain ⟨q1, q2⟩ := and6 hq
        have ex := of_decide_eq_true q1
        subst ex
        simp only [Option.bind_eq_some_iff, Option.map_eq_some_iff] at h
        obtain ⟨ms, hms, xa, ha, xb, hb, rfl⟩ := h
        obtain ⟨keys, pd, rfl, hk, hl, h15, h0⟩ := dictB_ok hd
        obtain ⟨k1, k2⟩ := keysT_ok hk
        refine good_of (fun X W c => ?_) fun _ _ => rfl
        obtain ⟨pp, hl2⟩ := pps_of (fun e m => ih sc e m) c (pos := pd) hk hl hms
        refine tE_dlg (by have := c.room.units; omega) hl2 pp k1 (by rw [k2, hl]) (fun z => h0 (by rw [z] at k2; exact List.length_eq_zero_iff.mp k2.symm)) (by omega) h15 (ih _ _ _ ha X W c).1 (ih _ _ _ hb X W c).1 ⟨attr_base rfl, ?_, q4, ?_⟩
        · rw [stars' (by simp [q2, q3])]
          rfl
        · rw [star1 q2, star1 q3]
          rfl
      · cases h
    · cases h
  unfold trMeth at h
  split at h
  · rename_i hq
    obtain ⟨hq, h4⟩ := and6 hq
    obtain ⟨hq, h3⟩ := and6 hq
    obtain ⟨h1, h2⟩ := and6 hq
    have h3 := of_decide_eq_true h3
    simp only [Option.bind_eq_some_iff] at h
    obtain ⟨mo, hmo, ms, hms, h⟩ := h
    refine good_of (fun X W c => ?_) fun _ _ => rfl
    have pl := args_ok (fun e m => ih sc e m) c h2 hms
    have po := (ih _ _ _ hmo X W c).1
    split at h
    · rename_i q l hl
      cases h
      refine tE_meth (c0 := q.1) (f0 := q.2) c.fx.hK po (by obtain ⟨q1, q2⟩ := q; simp [meOf, List.lookup]) (fun cn fi hc => ?_) c.room4 c.tk pl h1 h2 h3 h4 (args_nil hms)
      obtain ⟨fa, fd, ps, e1, e2, e3, e4⟩ := c.fx.mes x _ cn fi hl hc
      exact ⟨fa, fd, ps, e1, e2, e3, e4⟩
    · cases h
    · split at h
      · cases h
      · rename_i hne
        simp only [Option.map_eq_some_iff] at h
        obtain ⟨b, hb, rfl⟩ := h
        cases args with
        | nil => exact absurd rfl hne
        | cons e es => exact tE_bm c.fx.hK (bmOf_ok hb) po pl h1 h2 h3 h4
  · cases h
/-- a target -/
theorem names_ok {N : List Str} {own : Scope} : ∀ {ts : List Expr} {xs : List Str} {is : List Nat}, names1 ts = some xs → xs.all (stOk sc own) = true → ixsS N xs = some is → X.N = N → N.Nodup → X.env.scope = sc → (∀ x, isCel own x = true → X.fn x = true) →
    PGs X ts (tGs G is) ∧ is.length = ts.length ∧ (assignEach ts X.env).length = ts.length ∧ (assignEach ts X.env).findIdx? (·.1) = none
  | [], xs, is, h1, _, h3, _, _, _, _ => by
    cases h1
    cases h3
    exact ⟨tGs_nil, rfl, rfl, rfl⟩
  | .Name x p :: ts, xs, is, h1, h2, h3, e1, e2, e3, e4 => by
    simp only [names1, Option.map_eq_some_iff] at h1
    obtain ⟨ys, h1, rfl⟩ := h1
    simp only [ixsS, Option.bind_eq_some_iff, Option.map_eq_some_iff] at h3
    obtain ⟨i, hi, js, hj, rfl⟩ := h3
    rw [List.all_cons, Bool.and_eq_true] at h2
    obtain ⟨r1, r2, r3, r4⟩ := names_ok h1 h2.2 hj e1 e2 e3 e4
    have so := h2.1
    unfold stOk isLoc isCel at so
    have pg : PG X (.Name x p) (gName i) := by
      rw [Bool.or_eq_true, Bool.and_eq_true, decide_eq_true_eq, decide_eq_true_eq] at so
      have hN : X.N[i]? = some x := by rw [e1]; exact ixS_ok hi
      rcases so with so | ⟨s1, s2⟩
      · exact pg_name (by rw [e1]; exact e2) hN (.inl (by rw [e3]; exact so)) (.inr (by rw [e3]; exact so))
      · exact pg_name (by rw [e1]; exact e2) hN (.inr (by rw [e3]; exact s1)) (.inl (e4 x s2))
    refine ⟨tGs_cons pg r1 rfl, by simp [r2], ?_, ?_⟩
    · show (assignEach ts X.env).length + 1 = ts.length + 1
      rw [r3]
    · show (List.findIdx? (fun q : Bool × (Value → Sem Unit) => q.1) ((false, assign (.Name x p) X.env) :: assignEach ts X.env)) = none
      rw [List.findIdx?_cons]
      simp only [Bool.false_eq_true, if_false]
      rw [r4]
      rfl
theorem tgt_ok {N : List Str} {own : Scope} {tg : Expr} {t : Tgt} (h : trT N sc own tg = some t) (hK : X.K = G.K) (hc : X.calm = true) (e1 : X.N = N) (e2 : N.Nodup) (e3 : X.env.scope = sc) (e4 : ∀ x, isCel own x = true → X.fn x = true) : PG X tg (tG G t.st t.is) := by
  cases tg with
  | Name x p =>
    simp only [trT] at h
    split at h
    · rename_i so
      simp only [Option.map_eq_some_iff] at h
      obtain ⟨i, hi, rfl⟩ := h
      unfold stOk isLoc isCel at so
      rw [Bool.or_eq_true, Bool.and_eq_true, decide_eq_true_eq, decide_eq_true_eq] at so
      have hN : X.N[i]? = some x := by rw [e1]; exact ixS_ok hi
      rcases so with so | ⟨s1, s2⟩
      · exact tG_name (pg_name (by rw [e1]; exact e2) hN (.inl (by rw [e3]; exact so)) (.inr (by rw [e3]; exact so)))
      · exact tG_name (pg_name (by rw [e1]; exact e2) hN (.inr (by rw [e3]; exact s1)) (.inl (e4 x s2)))
    · cases h
  | Tuple ts q p =>
    simp only [trT, Option.bind_eq_some_iff] at h
    obtain ⟨xs, hx, h⟩ := h
    split at h
    · rename_i so
      simp only [Option.map_eq_some_iff] at h
      obtain ⟨is, hi, rfl⟩ := h
      obtain ⟨r1, r2, r3, r4⟩ := names_ok (G := G) hx so hi e1 e2 e3 e4
      exact tG_tup hK hc r1 r2 r3 r4
    · cases h
  | _ => cases h
theorem it_ok (ih : ∀ sc e m, f sc e = some m → Good Γ G k lo sc e m) {e tg : Expr} {mi : MI} (h : trIt Γ f sc tg e = some mi) (c : CxO Γ G k lo X W sc) : PI X tg e (tI G W mi) ∧ ∀ x, foldedSetIterable e X.env x = pure x := by
  have gen : ∀ {e : Expr}, (f sc e).map miE = some mi → PI X tg e (tI G W mi) := fun {e} h => by
    simp only [Option.map_eq_some_iff] at h
    obtain ⟨m, hm, rfl⟩ := h
    exact tI_e c.fx.hK (ih _ _ _ hm X W c).1
  have spec : ∀ {x : Str} {p pos : Pos} {a : Expr}, (if x = "range" then (if isGl sc x && noStar a && decide (x ∈ Γ.fre) then (f sc a).map miR1 else none) else if x = "enumerate" then (if isTupT tg && (isGl sc x && noStar a && decide (x ∈ Γ.fre)) then (f sc a).map miEn else none) else (f sc (.Call (.Name x p) [a] [] pos)).map miE) = some mi → PI X tg (.Call (.Name x p) [a] [] pos) (tI G W mi) := fun {x p pos a} h => by
    split at h
    · rename_i hx
      split at h
      · rename_i hq
        obtain ⟨hq, f1⟩ := and6 hq
        obtain ⟨hg, hs⟩ := and6 hq
        simp only [Option.map_eq_some_iff] at h
        obtain ⟨m, hm, rfl⟩ := h
        exact tI_r1 hx (c.gl hg) (c.fx.fre _ (of_decide_eq_true f1)) (ih _ _ _ hm X W c).1 hs
      · cases h
    · split at h
      · rename_i hx
        split at h
        · rename_i hq
          obtain ⟨ht, hq⟩ := and6 hq
          obtain ⟨hq, f1⟩ := and6 hq
          obtain ⟨hg, hs⟩ := and6 hq
          simp only [Option.map_eq_some_iff] at h
          obtain ⟨m, hm, rfl⟩ := h
          cases tg <;> first | (cases ht; done) | exact tI_en c.fx.hK hx (c.gl hg) (c.fx.fre _ (of_decide_eq_true f1)) (ih _ _ _ hm X W c).1 hs
        · cases h
      · exact gen h
  cases e with
  | Set a b d => cases h
  | Call fn args kws pos =>
    refine ⟨?_, fun _ => rfl⟩
    cases fn with
    | Name x p =>
      cases args with
      | nil => exact gen h
      | cons a args =>
        cases args with
        | cons b args =>
          cases args with
          | cons _ _ => exact gen h
          | nil =>
            cases kws with
            | cons _ _ => exact gen h
            | nil =>
              have h : (if x = "zip" then (if isTupT tg && (isGl sc x && (noStar a && noStar b) && decide (x ∈ Γ.fre)) then (f sc a).bind fun ma => (f sc b).map fun mb => miZp ma mb else none) else (f sc (.Call (.Name x p) [a, b] [] pos)).map miE) = some mi := h
              split at h
              · rename_i hx
                split at h
                · rename_i hq
                  obtain ⟨ht, hq⟩ := and6 hq
                  obtain ⟨hq, f1⟩ := and6 hq
                  obtain ⟨hg, hs⟩ := and6 hq
                  obtain ⟨hs, hs2⟩ := and6 hs
                  simp only [Option.bind_eq_some_iff, Option.map_eq_some_iff] at h
                  obtain ⟨m, hm, m2, hm2, rfl⟩ := h
                  cases tg <;> first | (cases ht; done) | exact tI_zp c.fx.hK hx (c.gl hg) (c.fx.fre _ (of_decide_eq_true f1)) (ih _ _ _ hm X W c).1 (ih _ _ _ hm2 X W c).1 hs hs2
                · cases h
              · exact gen h
        | nil =>
          cases kws with
          | cons _ _ => exact gen h
          | nil => exact spec h
    | _ => exact gen h
  | _ => exact ⟨gen h, fun _ => rfl⟩
theorem g_comp (ih : ∀ sc e m, f sc e = some m → Good Γ G k lo sc e m) {elt : Expr} {g : Comprehension} {scope : Scope} {m : M} (h : trComp Γ f sc elt g scope = some m) (c : CxO Γ G k lo X W sc) :
    ∃ (tg iter : Expr) (ifs : List Expr) (mi : MI) (own : List (Str × Nat)) (st : D → En → Option En) (is : List Nat) (mc me : M), g = ⟨tg, iter, ifs, 0⟩ ∧ m = mComp mi (own.map (·.2)) st mc me ∧ (∀ i ∈ is, i ∈ own.map (·.2)) ∧ PI X tg iter (tI G W mi) ∧ BlkOk X.N X.env.scope scope own ∧
      (∀ (s : Shared) (H : Hp) (C : Addr) (cl : List (Str × Addr)) (fp : List Addr), PG (X.blk s H scope (compEnvC scope cl C X.env) fp) tg (tG G st is)) ∧
      (∀ (s : Shared) (H : Hp) (C : Addr) (cl : List (Str × Addr)) (fp : List Addr), PTs (X.blk s H scope (compEnvC scope cl C X.env) fp) ifs (tT G W0 mc)) ∧
      (∀ (s : Shared) (H : Hp) (C : Addr) (cl : List (Str × Addr)) (fp : List Addr), PE (X.blk s H scope (compEnvC scope cl C X.env) fp) elt (tE G W0 me)) ∧ ∀ x, foldedSetIterable iter X.env x = pure x := by
  obtain ⟨tg, iter, ifs, a⟩ := g
  unfold trComp at h
  dsimp only at h
  split at h
  · rename_i ha
    subst ha
    simp only [Option.bind_eq_some_iff] at h
    obtain ⟨mi, hmi, t, ht, own, ho, h⟩ := h
    split at h
    · rename_i hq
      obtain ⟨hb, hi⟩ := and6 hq
      simp only [Option.bind_eq_some_iff] at h
      obtain ⟨me, hme, h⟩ := h
      obtain ⟨pi, fo⟩ := it_ok (tg := tg) ih hmi c
      have len : ∀ {xs : List Str} {is : List Nat}, ixsS Γ.N xs = some is → xs.length = is.length := by
        intro xs
        induction xs with
        | nil => intro is z; cases z; rfl
        | cons x xs ih2 =>
          intro is z
          simp only [ixsS, Option.bind_eq_some_iff, Option.map_eq_some_iff] at z
          obtain ⟨i, _, js, hj, rfl⟩ := z
          simp [ih2 hj]
      have eo : ((tgNames tg).zip own).map (·.2) = own := by
        rw [List.map_snd_zip]
        exact Nat.le_of_eq (len ho).symm
      have scE : ∀ (cl : List (Str × Addr)) (C : Addr), (compEnvC scope cl C X.env).scope = relS scope sc := fun cl C => by rw [← c.sc]; rfl
      have cb : ∀ (s : Shared) (H : Hp) (C : Addr) (cl : List (Str × Addr)) (fp : List Addr), CxO Γ G k lo (X.blk s H scope (compEnvC scope cl C X.env) fp) W0 (relS scope sc) := fun s H C cl fp =>
        ⟨c.fx, c.N, c.nd, scE cl C, c.calm, takes0N, c.room, c.mkr, fun z => c.lam z⟩
      have pg : ∀ (s : Shared) (H : Hp) (C : Addr) (cl : List (Str × Addr)) (fp : List Addr), PG (X.blk s H scope (compEnvC scope cl C X.env) fp) tg (tG G t.st t.is) := fun s H C cl fp =>
        tgt_ok (X := X.blk s H scope (compEnvC scope cl C X.env) fp) ht c.fx.hK c.calm c.N c.nd (scE cl C) fun x hx => by
          have := of_decide_eq_true hx
          show (scope.names.lookup x == some .cell) = true
          rw [this]
          rfl
      have pe : ∀ (s : Shared) (H : Hp) (C : Addr) (cl : List (Str × Addr)) (fp : List Addr), PE (X.blk s H scope (compEnvC scope cl C X.env) fp) elt (tE G W0 me) := fun s H C cl fp => (ih _ _ _ hme _ _ (cb s H C cl fp)).1
      have bo : BlkOk X.N X.env.scope scope ((tgNames tg).zip own) := by rw [c.N, c.sc]; exact blkOk_by hb
      have hi' : ∀ i ∈ t.is, i ∈ ((tgNames tg).zip own).map (·.2) := fun i him => by
        rw [eo]
        exact of_decide_eq_true (List.all_eq_true.mp hi i him)
      split at h
      · cases h
        refine ⟨tg, iter, [], mi, (tgNames tg).zip own, t.st, t.is, mTrue, me, rfl, by rw [eo], hi', pi, bo, pg, fun s H C cl fp => ?_, pe, fo⟩
        refine ⟨fun pins s' σ' H' Q' I' hw => pts_nil.run pins s' σ' H' Q' I' ?_⟩
        obtain ⟨as, h, en, rh, re, ob⟩ := hw
        obtain ⟨b, e1, q⟩ := ob (.bl true) H' as (Ext.refl _ _) (.bl true) rh
        cases e1
        exact q
      · rename_i d
        simp only [Option.map_eq_some_iff] at h
        obtain ⟨mc, hmc, rfl⟩ := h
        exact ⟨tg, iter, [d], mi, (tgNames tg).zip own, t.st, t.is, mc, me, rfl, by rw [eo], hi', pi, bo, pg, fun s H C cl fp => pts_one (ih _ _ _ hmc _ _ (cb s H C cl fp)).2, pe, fo⟩
      · cases h
    · cases h
  · cases h
theorem g_lc (ih : ∀ sc e m, f sc e = some m → Good Γ G k lo sc e m) {elt : Expr} {g : Comprehension} {scope : Scope} {pos : Pos} {m : M} (h : stepE Γ lo f f0 sc (.ListComp elt [g] scope pos) = some m) : Good Γ G k lo sc (.ListComp elt [g] scope pos) m := by
  refine good_of (fun X W c => ?_) fun _ _ => rfl
  obtain ⟨tg, iter, ifs, mi, own, st, is, mc, me, rfl, rfl, hi, pi, bo, pg, pt, pe, fo⟩ := g_comp ih h c
  exact PE.imp (pe_lc c.calm (by rw [c.N]; exact c.nd) pi bo pg pt pe fo) fun σ H Q q => comp_key σ H Q hi q
theorem step_ok (ih : ∀ sc e m, f sc e = some m → Good Γ G k lo sc e m) (ih0 : ∀ sc e m, f0 sc e = some m → Good Γ G k 1 sc e m) (e : Expr) (m : M) (h : stepE Γ lo f f0 sc e = some m) : Good Γ G k lo sc e m := by
  cases e with
  | Constant c j p => exact g_const h
  | Name x p => exact g_name h
  | BinOp a op b p => exact g_bin ih h
  | UnaryOp op a p => exact g_un ih h
  | BoolOp op es p =>
    cases op with
    | And =>
      intro X W c
      obtain ⟨p1, p2⟩ := g_and (pos := p) ih (show trBo mAnd (f sc) es = some m from h) X W c
      exact ⟨p1, p2.pt⟩
    | Or =>
      intro X W c
      obtain ⟨p1, p2⟩ := g_or (pos := p) ih (show trBo mOr (f sc) es = some m from h) X W c
      exact ⟨p1, p2.pt⟩
  | Compare a ops cs p =>
    cases ops with
    | nil => cases h
    | cons op ops =>
      cases ops with
      | nil =>
        cases cs with
        | nil => cases h
        | cons b cs =>
          cases cs with
          | nil => exact g_cmp1 ih h
          | cons _ _ => cases h
      | cons op' ops =>
        cases ops with
        | nil =>
          cases cs with
          | nil => cases h
          | cons b cs =>
            cases cs with
            | nil => cases h
            | cons d cs =>
              cases cs with
              | nil => exact g_cmp2 ih h
              | cons _ _ => cases h
        | cons _ _ => cases h
  | IfExp d a b p => exact g_ife ih h
  | Tuple es q p => exact g_tup ih h
  | List es p => exact g_lst ih h
  | Dict ks vs p => exact g_dict ih h
  | Subscript a b p =>
    cases b with
    | Slice l u s p2 =>
      cases s with
      | none => exact g_slc ih h
      | some _ => cases h
    | _ => exact g_idx ih (fun _ _ _ _ z => nomatch z) h
  | Attribute o x p => exact g_attr ih h
  | Call fn args kws p =>
    cases kws with
    | cons _ _ => cases fn <;> cases h
    | nil =>
      cases fn with
      | Name x p => exact g_callN ih ih0 h
      | Attribute o x ap => exact g_meth ih h
      | _ => cases h
  | ListComp elt gs scope p =>
    cases gs with
    | nil => cases h
    | cons g gs =>
      cases gs with
      | nil => exact g_lc ih h
      | cons _ _ => cases h
  | _ => cases h
theorem trE_ok : ∀ (n : Nat) (lo : Nat) (sc : Scope) (e : Expr) (m : M), trE Γ lo n sc e = some m → Good Γ G k lo sc e m
  | 0, _, _, _, _, h => by cases h
  | n + 1, lo, sc, e, m, h => step_ok (fun sc e m => trE_ok n lo sc e m) (fun sc e m => trE_ok n 1 sc e m) e m h
end
end Mp

/-! Mp17: statements translated; a def's promise. -/
namespace Mp
open PySem L2 LamX PyProof.Rows
noncomputable section
def isComp : Expr → Bool
  | .ListComp _ _ _ _ => true
  | .SetComp _ _ _ _ => true
  | .DictComp _ _ _ _ _ => true
  | _ => false
def isSlE : Expr → Bool
  | .Slice _ _ _ _ => true
  | _ => false
def isTupE : Expr → Bool
  | .Tuple _ _ _ => true
  | _ => false
/-- x = [..] on one line -/
def swB (sc : Scope) (y : Str) (py pos : Pos) (scope : Scope) : Bool := decide (sc.kind = .function) && isLoc sc y && (py.line == pos.line) && !(scope.names.any fun (n, k) => n == y && (k == .local || k == .cell))
def trAsg (Γ : Gam) (E : Expr → Option M) (C : Expr → Comprehension → Scope → Option M) (sc : Scope) (tg e : Expr) (pos : Pos) : Option Ms := match tg with
  | .Name y py => match e with
    | .ListComp elt [g] scope cp => if swB sc y py cp scope then (C elt g scope).bind fun m => (ixS Γ.N y).map fun i => sSet (stName i) m
      else if isCel sc y then (C elt g scope).bind fun m => (trT Γ.N sc sc tg).map fun t => sSet t.st m else none
    | e => if isComp e then none else (E e).bind fun m => (trT Γ.N sc sc tg).map fun t => sSet t.st m
  | .Tuple _ _ _ => match e with
    | .ListComp elt [g] scope cp => (C elt g scope).bind fun m => (trT Γ.N sc sc tg).bind fun t => match t with
      | .tup is => some (sUnl is m)
      | .one _ => none
    | e => if isComp e || isTupE e then none else (E e).bind fun m => (trT Γ.N sc sc tg).map fun t => sSet t.st m
  | .Attribute o x _ => (E e).bind fun m => (E o).bind fun mo => (Γ.fld.lookup x).map fun i => sFld Γ.fo mo i m
  | .Subscript o i _ => if isComp e || isSlE i then none else (E e).bind fun m => (E o).bind fun mo => (E i).map fun mi => sItm mo mi m
  | _ => none
def raiseN : Expr → Option Str
  | .Call (.Name x _) [.Constant (.str _) _ _] [] _ => some x
  | _ => none
def raiseA : Expr → Option (Str × Expr)
  | .Call (.Name x _) [a] [] _ => some (x, a)
  | _ => none
def stepS (Γ : Gam) (f : Scope → Expr → Option M) (B : List Stmt → Option Ms) (sc : Scope) : Stmt → Option Ms
  | .Pass _ => some sNext
  | .Continue _ => some sCont
  | .Expr e _ => if isComp e then none else (f sc e).map sDrop
  | .Return (some e) _ => (f sc e).map sRet
  | .If c a b _ => (f sc c).bind fun x => (B a).bind fun y => (B b).map fun z => sIf x y z
  | .While c b [] _ => (f sc c).bind fun x => (B b).map fun y => sWhl x y
  | .For tg it b [] _ => (trIt Γ f sc tg it).bind fun mi => (trT Γ.N sc sc tg).bind fun t => (B b).map fun y => sFor mi t.st y
  | .Assign [tg] e pos => trAsg Γ (f sc) (trComp Γ f sc) sc tg e pos
  | .Raise (some e) none _ => (raiseA e).bind fun x => if isGl sc x.1 && okN x.1 then (match Γ.exw.lookup x.1 with
    | some c => if noStar x.2 then (f sc x.2).map (sRaiseW c) else none
    | none => (raiseN e).bind fun y => if x.1 = y then (Γ.exs.lookup y).map sRaise else none) else none
  | _ => none
def trB1 (S : Stmt → Option Ms) : List Stmt → Option Ms
  | [] => some sNext
  | st :: r => (S st).bind fun a => (trB1 S r).map fun b => sSeq a b
def trSs (Γ : Gam) (lo : Nat) (ne : Nat) : Nat → Scope → List Stmt → Option Ms
  | 0, _, _ => none
  | n + 1, sc, ss => trB1 (stepS Γ (trE Γ lo ne) (trSs Γ lo ne n sc) sc) ss
end
structure CxS (Γ : Gam) (G : Wd) (k : Nat) (lo : Nat) (X : Cx) (W : WX) (sc : Scope) : Prop extends CxO Γ G k lo X W sc where
  fn : ∀ x, X.fn x = true
  own : PassesOwn (model X.prog X.w) X.A X.env X.xe
  room3 : Room (k + 2) X.A
section
variable {Γ : Gam} {G : Wd} {k : Nat} {lo : Nat} {sc : Scope} {X : Cx} {W : WX} {f : Scope → Expr → Option M} {B : List Stmt → Option Ms}
theorem raiseN_ok {e : Expr} {x : Str} (h : raiseN e = some x) : ∃ p msg j p2 p3, e = .Call (.Name x p) [.Constant (.str msg) j p2] [] p3 := by
  unfold raiseN at h
  split at h
  · cases h
    exact ⟨_, _, _, _, _, rfl⟩
  · cases h
theorem raiseA_ok {e a : Expr} {x : Str} (h : raiseA e = some (x, a)) : ∃ p q, e = .Call (.Name x p) [a] [] q := by
  unfold raiseA at h
  split at h
  · cases h
    exact ⟨_, _, rfl⟩
  · cases h
theorem sw_none {e : Expr} {t : Option Expr} {l : Nat} {env : Env} (h : isComp e = false) : swapsWith e t l env = pure false := by
  cases e <;> first | rfl | cases h
theorem sw_attr {e o : Expr} {x : Str} {p : Pos} {l : Nat} {env : Env} : swapsWith e (some (.Attribute o x p)) l env = pure false := by
  cases e <;> rfl
theorem sw_cell {elt : Expr} {gs : List Comprehension} {scope : Scope} {pos py : Pos} {y : Str} {l : Nat} {env : Env} (hy : env.scope.names.lookup y = some .cell) : swapsWith (.ListComp elt gs scope pos) (some (.Name y py)) l env = pure false := by
  have ky : env.kindOf y = some .cell := hy
  unfold swapsWith
  simp only [ky]
  have : (some NameKind.cell == some NameKind.local) = false := by decide
  rw [this]
  simp
theorem sw_tup {e : Expr} {ts : List Expr} {q : Nat} {p : Pos} {env : Env} (h : isTupE e = false) : swappedStores [.Tuple ts q p] e env = pure none := by
  cases e <;> first | rfl | cases h
theorem tgt_S {tg : Expr} {t : Tgt} (h : trT Γ.N sc sc tg = some t) (c : CxS Γ G k lo X W sc) : PG X tg (tG G t.st t.is) :=
  tgt_ok h c.fx.hK c.calm c.N c.nd c.sc fun x _ => c.fn x
theorem st_len : ∀ (is : List Nat) (xs : List D) (e e1 : En), stNames is xs e = some e1 → xs.length = is.length := by
  intro is
  induction is with
  | nil => intro xs e e1 z; cases xs with
    | nil => rfl
    | cons _ _ => cases z
  | cons i is ih => intro xs e e1 z; cases xs with
    | nil => cases z
    | cons x xs => rw [List.length_cons, List.length_cons, ih xs _ _ z]
theorem tS_unl {ts : List Expr} {q : Nat} {p pos : Pos} {is : List Nat} {e : Expr} {ma : M} (h : trT Γ.N sc sc (.Tuple ts q p) = some (.tup is)) (c : CxS Γ G k lo X W sc) (pe : PE X e (tE G W ma)) (hs : swapsWithSole [.Tuple ts q p] e pos.line X.env = pure false) (hw : swappedStores [.Tuple ts q p] e X.env = pure none) : PS X (.Assign [.Tuple ts q p] e pos) (tS G W (sUnl is ma)) := by
  simp only [trT, Option.bind_eq_some_iff] at h
  obtain ⟨xs, hx, h⟩ := h
  split at h
  · rename_i so
    simp only [Option.map_eq_some_iff] at h
    obtain ⟨is', hi, h⟩ := h
    cases h
    obtain ⟨r1, r2, r3, r4⟩ := names_ok (G := G) (X := X) hx so hi c.N c.nd c.sc fun x _ => c.fn x
    refine PS.imp (ps_asg pe (pg_lst (n := ts.length) c.calm r1 r3 r4) hs hw rfl) fun D σ H z => ?_
    obtain ⟨as, h, en, rh, re, ob⟩ := z
    refine ⟨as, h, en, rh, re, (OutR.bindO re ob).imp fun x H1 n => ?_⟩
    obtain ⟨d, h1, as1, x1, rv, rh1, re1, o1⟩ := At.nxt re n
    unfold unlR at o1
    split at o1
    · split at o1
      · rename_i xs e1
        split at o1
        · rename_i e2 hst
          obtain ⟨a, rfl, ea⟩ := rv.ref_inv
          obtain ⟨vs, hq, lq⟩ := rh1.lst ea e1
          exact ⟨a, vs, rfl, SqL.of hq, by rw [lq.length, st_len _ _ _ _ hst, r2], as1, h1, en, xs, rh1, re1, lq, e2, hst, fun σ1 q1 b1 => o1 σ1 H1 as1 (Ext.refl _ _) q1 rh1⟩
        · exact o1.elim
      · exact o1.elim
    · exact o1.elim
  · cases h
theorem s_asg (ih : ∀ sc e m, f sc e = some m → Good Γ G k lo sc e m) {tg e : Expr} {pos : Pos} {m : Ms} (h : trAsg Γ (f sc) (trComp Γ f sc) sc tg e pos = some m) (c : CxS Γ G k lo X W sc) : PS X (.Assign [tg] e pos) (tS G W m) := by
  have nd : X.N.Nodup := by rw [c.N]; exact c.nd
  have plainN : ∀ {y : Str} {py : Pos} {e : Expr} {ma : M} {t : Tgt}, trT Γ.N sc sc (.Name y py) = some t → PE X e (tE G W ma) → swapsWith e (some (.Name y py)) pos.line X.env = pure false → PS X (.Assign [.Name y py] e pos) (tS G W (sSet t.st ma)) := fun {y py e ma t} ht pe hs => by
    have z := ht
    simp only [trT] at z
    split at z
    · rename_i so
      simp only [Option.map_eq_some_iff] at z
      obtain ⟨i, hi, rfl⟩ := z
      unfold stOk isLoc isCel at so
      rw [Bool.or_eq_true, Bool.and_eq_true, decide_eq_true_eq, decide_eq_true_eq] at so
      have hN : X.N[i]? = some y := by rw [c.N]; exact ixS_ok hi
      have hx : Loc X.env.scope y := by
        rw [c.sc]
        rcases so with so | so
        · exact .inl so
        · exact .inr so.1
      have := ps_set (pos := pos) nd hN hx pe hs (.inl (c.fn y))
      refine tS_set (is := [i]) (PS.imp this fun D σ H q => ?_)
      obtain ⟨as, h, en, rh, re, ob⟩ := q
      refine ⟨as, h, en, rh, re, ob.imp fun v H1 n => ?_⟩
      obtain ⟨as1, h1, e1, d, rh1, re1, rv, e2, hst, kk⟩ := n
      cases hst
      exact kk _ (re1.set rv i) (But.set _ _ _)
    · cases z
  cases tg with
  | Name y py =>
    have gen : isComp e = false → ((f sc e).bind fun m => (trT Γ.N sc sc (.Name y py)).map fun t => sSet t.st m) = some m → PS X (.Assign [.Name y py] e pos) (tS G W m) := fun hc h => by
      simp only [Option.bind_eq_some_iff, Option.map_eq_some_iff] at h
      obtain ⟨ma, hma, t, ht, rfl⟩ := h
      exact plainN ht (ih _ _ _ hma X W c.toCxO).1 (sw_none hc)
    have lc : ∀ {elt : Expr} {g : Comprehension} {scope : Scope} {cp : Pos}, e = .ListComp elt [g] scope cp → (if swB sc y py cp scope then (trComp Γ f sc elt g scope).bind fun m => (ixS Γ.N y).map fun i => sSet (stName i) m
      else if isCel sc y then (trComp Γ f sc elt g scope).bind fun m => (trT Γ.N sc sc (.Name y py)).map fun t => sSet t.st m else none) = some m → PS X (.Assign [.Name y py] e pos) (tS G W m) := fun {elt g scope cp} he hh => by
      clear h gen
      have h := hh
      clear hh
      subst he
      split at h
      · rename_i hw
        simp only [Option.bind_eq_some_iff, Option.map_eq_some_iff] at h
        obtain ⟨ma, hma, i, hi, rfl⟩ := h
        obtain ⟨tg, iter, ifs, mi, own, st, is, mc, me, rfl, rfl, hii, pi, bo, pg, pt, pe, fo⟩ := g_comp ih hma c.toCxO
        unfold swB at hw
        obtain ⟨hw, w4⟩ := and6 hw
        obtain ⟨hw, w3⟩ := and6 hw
        obtain ⟨w1, w2⟩ := and6 hw
        have ly : X.env.scope.names.lookup y = some .local := by rw [c.sc]; exact of_decide_eq_true w2
        have kf : X.env.scope.kind = .function := by rw [c.sc]; exact of_decide_eq_true w1
        have hN : X.N[i]? = some y := by rw [c.N]; exact ixS_ok hi
        refine tS_set (is := [i]) (PS.imp (ps_setLc c.calm nd hN ly (sw_true kf ly w3 (by simpa using w4)) pi bo pg pt pe fo) fun D σ H q => ?_)
        refine comp_key (W := W) σ H _ hii ?_
        obtain ⟨as, h, en, rh, re, ob⟩ := q
        refine ⟨as, h, en, rh, re, ob.imp fun v H1 n => ?_⟩
        obtain ⟨as1, h1, e1, d, rh1, re1, rv, e2, hst, kk⟩ := n
        cases hst
        exact kk _ (re1.set rv i) (But.set _ _ _)
      · split at h
        · rename_i hw
          simp only [Option.bind_eq_some_iff, Option.map_eq_some_iff] at h
          obtain ⟨ma, hma, t, ht, rfl⟩ := h
          have hcel : X.env.scope.names.lookup y = some .cell := by rw [c.sc]; exact of_decide_eq_true hw
          have hp : PE X (.ListComp elt [g] scope cp) (tE G W ma) := by
            obtain ⟨tg, iter, ifs, mi, own, st, is, mc, me, rfl, rfl, hii, pi, bo, pg, pt, pe, fo⟩ := g_comp ih hma c.toCxO
            exact PE.imp (pe_lc c.calm nd pi bo pg pt pe fo) fun σ H Q q => comp_key σ H Q hii q
          exact plainN ht hp (sw_cell hcel)
        · cases h
    cases e with
    | ListComp elt gs scope cp =>
      cases gs with
      | nil => cases h
      | cons g gs =>
        cases gs with
        | cons _ _ => cases h
        | nil => exact lc rfl h
    | SetComp _ _ _ _ => cases h
    | DictComp _ _ _ _ _ => cases h
    | _ => exact gen rfl h
  | Tuple ts q p =>
    have lc : ∀ {elt : Expr} {g : Comprehension} {scope : Scope} {cp : Pos}, ((trComp Γ f sc elt g scope).bind fun m => (trT Γ.N sc sc (.Tuple ts q p)).bind fun t => match t with
      | .tup is => some (sUnl is m)
      | .one _ => none) = some m → PS X (.Assign [.Tuple ts q p] (.ListComp elt [g] scope cp) pos) (tS G W m) := fun {elt g scope cp} h => by
      simp only [Option.bind_eq_some_iff] at h
      obtain ⟨ma, hma, t, ht, h⟩ := h
      cases t with
      | one i => cases h
      | tup is =>
        cases h
        have hp : PE X (.ListComp elt [g] scope cp) (tE G W ma) := by
          obtain ⟨tg, iter, ifs, mi, own, st, is, mc, me, rfl, rfl, hii, pi, bo, pg, pt, pe, fo⟩ := g_comp ih hma c.toCxO
          exact PE.imp (pe_lc c.calm nd pi bo pg pt pe fo) fun σ H Q q => comp_key σ H Q hii q
        exact tS_unl ht c hp rfl rfl
    have gen : (if isComp e || isTupE e then none else (f sc e).bind fun m => (trT Γ.N sc sc (.Tuple ts q p)).map fun t => sSet t.st m) = some m → PS X (.Assign [.Tuple ts q p] e pos) (tS G W m) := ?_
    · cases e with
      | ListComp elt gs scope cp =>
        cases gs with
        | nil => cases h
        | cons g gs =>
          cases gs with
          | cons _ _ => cases h
          | nil => exact lc h
      | _ => exact gen h
    clear h
    intro h
    split at h
    · cases h
    · rename_i hc
      rw [Bool.or_eq_true, not_or] at hc
      simp only [Option.bind_eq_some_iff, Option.map_eq_some_iff] at h
      obtain ⟨ma, hma, t, ht, rfl⟩ := h
      have hc1 : isComp e = false := by simpa using hc.1
      have hc2 : isTupE e = false := by simpa using hc.2
      exact tS_set (ps_asg (ih _ _ _ hma X W c.toCxO).1 (tgt_S ht c) (by have z := sw_none (t := some (.Tuple ts q p)) (l := pos.line) (env := X.env) hc1; exact z) (sw_tup hc2) rfl)
  | Attribute o x p =>
    simp only [trAsg, Option.bind_eq_some_iff, Option.map_eq_some_iff] at h
    obtain ⟨ma, hma, mo, hmo, i, hi, rfl⟩ := h
    have e := c.fx.fld x i hi
    subst e
    exact tS_fld c.fx.hK c.fx.inj c.fx.fo (ih _ _ _ hmo X W c.toCxO).1 (ih _ _ _ hma X W c.toCxO).1 sw_attr
  | Subscript o i p =>
    simp only [trAsg] at h
    split at h
    · cases h
    · rename_i hc
      simp only [Option.bind_eq_some_iff, Option.map_eq_some_iff] at h
      obtain ⟨ma, hma, mo, hmo, mi, hmi, rfl⟩ := h
      rw [Bool.or_eq_true, not_or] at hc
      have hc1 : isComp e = false := by simpa using hc.1
      have hc2 : isSlE i = false := by simpa using hc.2
      refine tS_itm c.fx.hK c.fx.hw c.room.units (ih _ _ _ hmo X W c.toCxO).1 (ih _ _ _ hmi X W c.toCxO).1 (ih _ _ _ hma X W c.toCxO).1 ?_ ?_ fun v => ?_
      · have z := sw_none (t := some (.Subscript o i p)) (l := pos.line) (env := X.env) hc1
        exact z
      · rfl
      · cases i <;> first | rfl | cases hc2
  | _ => cases h
theorem stepS_ok (ih : ∀ sc e m, f sc e = some m → Good Γ G k lo sc e m) (ib : ∀ ss m, B ss = some m → PSs X ss (tS G W m)) (c : CxS Γ G k lo X W sc) (st : Stmt) (m : Ms) (h : stepS Γ f B sc st = some m) : PS X st (tS G W m) := by
  cases st with
  | Pass p => cases h; exact tS_pass
  | Continue p => cases h; exact tS_cont
  | Expr e p =>
    simp only [stepS] at h
    split at h
    · cases h
    · rename_i hc
      simp only [Option.map_eq_some_iff] at h
      obtain ⟨ma, hma, rfl⟩ := h
      exact tS_drop (ih _ _ _ hma X W c.toCxO).1 (sw_none (by simpa using hc))
  | Return v p =>
    cases v with
    | none => cases h
    | some e =>
      simp only [stepS, Option.map_eq_some_iff] at h
      obtain ⟨ma, hma, rfl⟩ := h
      exact tS_ret (ih _ _ _ hma X W c.toCxO).1
  | If d a b p =>
    simp only [stepS, Option.bind_eq_some_iff, Option.map_eq_some_iff] at h
    obtain ⟨x, hx, y, hy, z, hz, rfl⟩ := h
    exact tS_if (ih _ _ _ hx X W c.toCxO).2 (ib _ _ hy) (ib _ _ hz)
  | While d b el p =>
    cases el with
    | cons _ _ => cases h
    | nil =>
      simp only [stepS, Option.bind_eq_some_iff, Option.map_eq_some_iff] at h
      obtain ⟨x, hx, y, hy, rfl⟩ := h
      exact tS_whl c.own (ih _ _ _ hx X W c.toCxO).2 (ib _ _ hy)
  | For tg it b el p =>
    cases el with
    | cons _ _ => cases h
    | nil =>
      simp only [stepS, Option.bind_eq_some_iff, Option.map_eq_some_iff] at h
      obtain ⟨mi, hmi, t, ht, y, hy, rfl⟩ := h
      obtain ⟨pi, fo⟩ := it_ok (tg := tg) ih hmi c.toCxO
      exact tS_for c.own c.calm pi (tgt_S ht c) (ib _ _ hy) fo
  | Assign tgs e p =>
    cases tgs with
    | nil => cases h
    | cons tg tgs =>
      cases tgs with
      | cons _ _ => cases h
      | nil => exact s_asg ih h c
  | Raise ex ca p =>
    cases ca with
    | some _ => cases ex <;> cases h
    | none =>
      cases ex with
      | none => cases h
      | some e =>
        simp only [stepS, Option.bind_eq_some_iff] at h
        obtain ⟨⟨x, a⟩, ha, h⟩ := h
        split at h
        · rename_i hq
          obtain ⟨hg, hn⟩ := and6 hq
          split at h
          · rename_i cn hcn
            split at h
            · rename_i hs
              simp only [Option.map_eq_some_iff] at h
              obtain ⟨ma, hma, rfl⟩ := h
              obtain ⟨q1, q2, rfl⟩ := raiseA_ok ha
              exact tS_raiseW c.calm c.tk (c.fx.exw _ _ hcn) (c.room3.mono (by omega)) (c.gl hg) (okN_1 hn) (ih _ _ _ hma X W c.toCxO).1 hs
            · cases h
          · simp only [Option.bind_eq_some_iff] at h
            obtain ⟨y, hy, h⟩ := h
            split at h
            · rename_i exy
              dsimp only at exy hg hn
              subst exy
              simp only [Option.map_eq_some_iff] at h
              obtain ⟨cn, hc, rfl⟩ := h
              obtain ⟨e1, e2, e3, e4, e5⟩ := c.fx.exs _ cn hc
              obtain ⟨q1, msg, j, q2, q3, rfl⟩ := raiseN_ok hy
              exact tS_raise c.calm c.tk e2 e1 e3 (raises_own e4 e5) (c.gl hg) (okN_1 hn)
            · cases h
        · cases h
  | _ => cases h
theorem trSs_ok : ∀ (n ne : Nat) (ss : List Stmt) (m : Ms), trSs Γ lo ne n sc ss = some m → CxS Γ G k lo X W sc → PSs X ss (tS G W m)
  | 0, _, _, _, h, _ => by cases h
  | n + 1, ne, ss, m, h, c => by
    have h : trB1 (stepS Γ (trE Γ lo ne) (trSs Γ lo ne n sc) sc) ss = some m := h
    have ib : ∀ ss m, trSs Γ lo ne n sc ss = some m → PSs X ss (tS G W m) := fun ss m h => trSs_ok n ne ss m h c
    have all : ∀ (ss : List Stmt) (m : Ms), trB1 (stepS Γ (trE Γ lo ne) (trSs Γ lo ne n sc) sc) ss = some m → PSs X ss (tS G W m) := by
      intro ss
      induction ss with
      | nil => intro m h; cases h; exact tS_nil
      | cons st r ihr =>
        intro m h
        simp only [trB1, Option.bind_eq_some_iff, Option.map_eq_some_iff] at h
        obtain ⟨a, ha, b, hb, rfl⟩ := h
        exact tS_cons (stepS_ok (fun sc e m => trE_ok ne lo sc e m) ib c st a ha) (ihr b hb)
    exact all ss m h
end
end Mp

/-! Mp18: all defs of a program keep what the plain functions tell. -/
namespace Mp
open PySem L2 LamX PyProof.Rows
structure Def1 where
  d : He.DefD
  N : List Str
  ps : List Str
  lo : Nat
  body : CL → Ms
def Def1.fn (q : Def1) : Fn := ⟨q.ps.length, q.N.length, q.body, q.lo⟩
abbrev Gam.at (Γ : Gam) (N : List Str) (cl : CL) : Gam := { Γ with N := N, cl := cl }
structure DefOk (Γ : Gam) (q : Def1) : Prop where
  sc : FnScope q.N q.ps q.d.scope
  tr : ∀ cl, trSs (Γ.at q.N cl) q.lo 60 40 q.d.scope q.d.body = some (q.body cl)
  bind : ∀ (kV doc pm : Value) (an : Option Addr) (cdv ct : Value) (us : List Value), us.length = q.ps.length → bindArgs (PySem.W.fnOf q.d.name q.d.qual q.d.params q.d.body q.d.scope .none kV doc pm an cdv ct) ⟨us, []⟩ = pure (q.ps.zip us)
  dfl : q.d.dfl = []
  kwd : q.d.kwd = []
/-- facts that hold at every depth -/
structure Sx (w : World) (K : PySem.W.Frag) (mg : Str → Option Value) (base : Heap) (Γ : Gam) (G : Wd) (defs : List Def1) : Prop where
  hK : K = G.K
  hw : w = G.w
  inj : ∀ f g, G.fnm f = G.fnm g → f = g
  fund : ∀ q ∈ defs, ∃ fd, FunD K q.d.name q.d.qual q.d.params q.d.body q.d.scope [] [] (He.fAd K q.d.at_) fd
  cst : ∀ x d, Γ.cst.lookup x = some d → ∃ u v, mg x = some u ∧ RelV v u ∧ ∀ H as, RV G.K H as v d
  fns : ∀ x i, Γ.fns.lookup x = some i → ∃ q, defs[i]? = some q ∧ q.d.at_ = (x, none) ∧ mg x = some (.ref (He.ga K x))
  cls : ∀ x c i, Γ.cls.lookup x = some (c, i) → G.cls c = He.ga K x ∧ mg x = some (.ref (He.ga K x)) ∧ Mk K (He.ga K x) (He.ma K (He.ga K x) "__init__") ∧ Cls K (He.ga K x) ∧ ∃ q, defs[i]? = some q ∧ q.d.at_ = (x, some ("__init__" : Str))
  fld : ∀ x i, Γ.fld.lookup x = some i → G.fnm i = x
  mes : ∀ m l c i, Γ.mes.lookup m = some l → l.lookup c = some i → ∃ q C, defs[i]? = some q ∧ G.cls c = He.ga K C ∧ q.d.at_ = (C, some m) ∧ Cls K (He.ga K C) ∧ Meth K (He.ga K C) m (He.ma K (He.ga K C) m)
  fre : ∀ x ∈ Γ.fre, mg x = none
  exs : ∀ x c, Γ.exs.lookup x = some c → mg x = some (.ref (G.cls c)) ∧ PySem.W.excIn K (G.cls c) He.veBase "ValueError.__new__" = true ∧ PySem.W.keepIn K (.ref (G.cls c)) = true ∧ PySem.W.subIn K (.ref (G.cls c)) (.type "BaseException") = some true ∧ PySem.W.typeIn K (.ref (G.cls c)) = some (.type "type")
  fo : ∀ q ∈ Γ.fo, NoAttr G.K (G.cls q.1) (G.fnm q.2)
  tld : ∀ c j, Γ.tld.lookup c = some j → ToldC K mg Γ.bas (G.cls c) j
  exw : ∀ x c, Γ.exw.lookup x = some c → ExW K mg x (G.cls c)
  kdc : ∀ x kvs, Γ.kdc.lookup x = some kvs → ∃ a, mg x = some (.ref a) ∧ KDc K w a kvs
  lam : ∀ q ∈ defs, q.lo = 2 → TabB base mg (He.cT K q.d.at_).1 (He.cT K q.d.at_).2 ∧ ((He.cT K q.d.at_).2, q.d.qual ++ ".<locals>." ++ "<lambda>") ∈ G.T ∧ (∀ z ∈ G.T, z.1 = (He.cT K q.d.at_).2 → z.2 = q.d.qual ++ ".<locals>." ++ "<lambda>") ∧ ToldF K mg Γ.told Γ.bas Γ.wrd
section
variable {P : Program} {w : World} {K : PySem.W.Frag} {mg : Str → Option Value} {base : Heap} {Γ : Gam} {G : Wd} {defs : List Def1}
theorem REn.start {H : Hp} {as : List Addr} {N : List Str} {vs : List V} {ds : List D} (l : RL G.K H as vs ds) : REn G.K H as (L2.start N vs) (ds.map some ++ List.replicate (N.length - ds.length) none) := by
  refine ⟨?_, fun i d e => ?_⟩
  · unfold L2.start
    simp [l.length]
  · unfold L2.start
    by_cases hi : i < ds.length
    · rw [List.getElem?_append_left (by simpa using hi), List.getElem?_map] at e
      cases q : ds[i]? with
      | none => rw [q] at e; cases e
      | some d' =>
        rw [q] at e
        cases e
        obtain ⟨v, ev, rv⟩ := l.get q
        refine ⟨v, ?_, rv⟩
        rw [List.getElem?_append_left (by rw [List.length_map, l.length]; exact hi), List.getElem?_map, ev]
        rfl
    · rw [List.getElem?_append_right (by simpa using hi), List.getElem?_replicate] at e
      split at e <;> cases e
theorem fd_at {x qual : Str} {params : Arguments} {body : List Stmt} {scope : Scope} {dvs : List V} {kws : List (Str × V)} {f : Addr} {fd : FuncData} (F : FunD K x qual params body scope dvs kws f fd) : ∃ oc od osl, K.lookup f = some ⟨oc, od, .func fd, osl⟩ := by
  obtain ⟨oc, od, dV, kV, doc, pm, an, cdv, ct, osl, e, lk, hcd, _, _⟩ := F.ex
  exact ⟨oc, od, osl, lk⟩
/-- what is shown of a def at a depth -/
def DefAt (P : Program) (w : World) (K : PySem.W.Frag) (mg : Str → Option Value) (base : Heap) (G : Wd) (r : Nat) (q : Def1) (F : List D → DH → Res) : Prop :=
  ∃ fd, (∃ oc od osl, K.lookup (He.fAd K q.d.at_) = some ⟨oc, od, .func fd, osl⟩) ∧ L2.Binds K fd q.ps [] ∧ PySem.W.keepIn K (.ref (He.fAd K q.d.at_)) = true ∧ FnOk P w K mg base (L2N.CX P w) r (He.fAd K q.d.at_) fd q.ps (spD G F)
theorem def_err (S : Sx w K mg base Γ G defs) (ok : ∀ q ∈ defs, DefOk Γ q) {r : Nat} {q : Def1} {F : List D → DH → Res} (mq : q ∈ defs) (he : ∀ ds h, F ds h = .err) : DefAt P w K mg base G r q F := by
  obtain ⟨fd, F1⟩ := S.fund q mq
  exact ⟨fd, fd_at F1, F1.bindsN (ok q mq).bind, F1.kp, ⟨fun vs H Q E ⟨_, _, _, _, _, o⟩ => by rw [he] at o; exact o.elim, fun A outer s H args us vs Q E hr he2 hb hv ⟨_, _, _, _, _, o⟩ => by rw [he] at o; exact o.elim⟩⟩
theorem def_step (S : Sx w K mg base Γ G defs) (ok : ∀ q ∈ defs, DefOk Γ q) (k : Nat) (ih : ∀ (i : Nat) (q : Def1), defs[i]? = some q → DefAt P w K mg base G (k + 2) q (callN (defs.map Def1.fn) k i)) {r : Nat} {q : Def1} {F : List D → DH → Res} (mq : q ∈ defs) (hr1 : k + 2 ≤ r) (hr0 : q.lo ≠ 0 → k + 3 ≤ r) (hr2 : q.lo = 2 → k + 5 ≤ r)
    (hsp : ∀ (ds : List D) (h : DH), F ds h = runB (q.body (callN (defs.map Def1.fn) k)) q.ps.length q.N.length ds h) : DefAt P w K mg base G (r + 1) q F := by
    obtain ⟨fd, F⟩ := S.fund q mq
    refine ⟨fd, fd_at F, F.bindsN (ok q mq).bind, F.kp, ?_⟩
    have O := ok q mq
    obtain ⟨oc, od, dV, kV, doc, pm, an, cdv, ct, osl, rfl, lk, hcd, _, _⟩ := F.ex
    have fx : Fx P w K mg base (Γ.at q.N (callN (defs.map Def1.fn) k)) G k := {
      hK := S.hK
      hw := S.hw
      inj := S.inj
      cst := S.cst
      fns := fun x g hg => by
        obtain ⟨q2, h1, h2, h3⟩ := S.fns x g hg
        obtain ⟨fd2, _, b2, kp2, F2⟩ := ih g q2 h1
        have e : He.fAd K q2.d.at_ = He.ga K x := by rw [h2]; rfl
        rw [e] at kp2 F2
        exact ⟨_, fd2, q2.ps, h3, kp2, b2, F2⟩
      cls := fun x c g hg => by
        obtain ⟨h1, h2, h3, h4, q2, h5, h6⟩ := S.cls x c g hg
        obtain ⟨fd2, _, b2, kp2, F2⟩ := ih g q2 h5
        have e : He.fAd K q2.d.at_ = He.ma K (He.ga K x) "__init__" := by rw [h6]; rfl
        rw [e] at F2
        rw [h1]
        exact ⟨_, fd2, q2.ps, h2, h3, h4, b2, F2⟩
      fld := S.fld
      mes := fun m l c g hl hc => by
        obtain ⟨q2, C, h1, h2, h3, h4, h5⟩ := S.mes m l c g hl hc
        obtain ⟨fd2, _, b2, kp2, F2⟩ := ih g q2 h1
        have e : He.fAd K q2.d.at_ = He.ma K (He.ga K C) m := by rw [h3]; rfl
        rw [e] at F2
        rw [h2]
        exact ⟨_, fd2, q2.ps, h4, h5, F2, b2⟩
      fre := S.fre
      exs := S.exs
      fo := S.fo
      tld := S.tld
      exw := S.exw
      kdc := S.kdc }
    refine fn_of (k := r) lk hcd O.sc (fun vs H Q E z => ?_) fun A outer s H vs Q E hr z => ?_
    · obtain ⟨as, h, ds, rh, rl, o⟩ := z
      rw [hsp] at o
      unfold runB at o
      split at o
      · rename_i hl
        rw [rl.length]
        exact hl
      · exact o.elim
    · have cx : CxS (Γ.at q.N (callN (defs.map Def1.fn) k)) G k q.lo (cxOf (L2N.CX P w) P w K mg base q.N q.d.qual q.d.scope (He.fAd K q.d.at_) cdv A outer s H E) (fun cls d _ H => E cls d H) q.d.scope := {
        fx := fx
        N := rfl
        nd := O.sc.nd
        sc := rfl
        calm := rfl
        tk := L2N.takes_of rfl rfl rfl rfl
        room := hr.mono hr1
        mkr := fun hlo => hr.mono (hr0 hlo)
        lam := fun hlo => by
          obtain ⟨h1, h2, h3, h4⟩ := S.lam q mq hlo
          obtain ⟨c, hc⟩ := He.codeIn_ref hcd
          have ec := He.codeOf_eq (p := q.d.at_) (c := c) lk hc
          refine ⟨_, _, h1, ?_, h2, h3, h4, hr.mono (hr2 hlo)⟩
          show cdv = .ref (He.codeOf K q.d.at_)
          rw [ec, hc]
        fn := fun _ => rfl
        own := passes_of rfl
        room3 := hr.mono hr1 }
      refine ⟨_, trSs_ok 40 60 _ _ (O.tr (callN (defs.map Def1.fn) k)) cx, ?_⟩
      obtain ⟨as, h, ds, rh, rl, o⟩ := z
      refine ⟨as, h, _, rh, REn.start rl, ?_⟩
      dsimp only at o ⊢
      rw [hsp] at o
      unfold runB at o
      split at o
      · have eb : ds.length = vs.length := rl.length.symm
        cases qb : q.body (callN (defs.map Def1.fn) k) (ds.map some ++ List.replicate (q.N.length - ds.length) none) h with
        | nx e1 h1 =>
          rw [qb] at o
          exact fun σ' H' as' x _ rh' => o .non H' as' x .non rh'
        | rt d h1 => rw [qb] at o; exact o
        | exc c w e1 h1 =>
          rw [qb] at o
          exact fun dx σ' H' as' x ex _ rh' => o dx H' as' x ex rh'
        | bk _ _ => rw [qb] at o; exact o.elim
        | ct _ _ => rw [qb] at o; exact o.elim
        | err => rw [qb] at o; exact o.elim
      · exact o.elim
theorem callN_0 {k i : Nat} {q : Def1} (hq : defs[i]? = some q) (hl : q.lo = 0) (ds : List D) (h : DH) : callN (defs.map Def1.fn) (k + 1) i ds h = runB (q.body (callN (defs.map Def1.fn) k)) q.ps.length q.N.length ds h := by
  unfold callN
  rw [List.getElem?_map, hq]
  simp only [Option.map_some, Def1.fn, hl]
theorem callN_1 {k i : Nat} {q : Def1} (hq : defs[i]? = some q) (hl : q.lo = 1) (ds : List D) (h : DH) : callN (defs.map Def1.fn) (k + 2) i ds h = runB (q.body (callN (defs.map Def1.fn) k)) q.ps.length q.N.length ds h := by
  unfold callN
  rw [List.getElem?_map, hq]
  simp only [Option.map_some, Def1.fn, hl]
theorem callN_2 {k i : Nat} {q : Def1} (hq : defs[i]? = some q) (hl : q.lo = 2) (ds : List D) (h : DH) : callN (defs.map Def1.fn) (k + 4) i ds h = runB (q.body (callN (defs.map Def1.fn) k)) q.ps.length q.N.length ds h := by
  unfold callN
  rw [List.getElem?_map, hq]
  simp only [Option.map_some, Def1.fn, hl]
theorem callN_e {k i : Nat} {q : Def1} (hq : defs[i]? = some q) (hl : (q.lo = 1 ∧ k = 0) ∨ (q.lo = 2 ∧ k < 3) ∨ 3 ≤ q.lo) (ds : List D) (h : DH) : callN (defs.map Def1.fn) (k + 1) i ds h = .err := by
  unfold callN
  rw [List.getElem?_map, hq]
  simp only [Option.map_some, Def1.fn]
  split <;> first | rfl | (rename_i e; omega) | (exfalso; omega)
theorem defs_ok (S : Sx w K mg base Γ G defs) (ok : ∀ q ∈ defs, DefOk Γ q) : ∀ (k i : Nat) (q : Def1), defs[i]? = some q → DefAt P w K mg base G (k + 2) q (callN (defs.map Def1.fn) k i) := by
  intro k
  induction k using Nat.strongRecOn with
  | ind k ih =>
    intro i q hq
    have mq := List.mem_of_getElem? hq
    cases k with
    | zero => exact def_err S ok mq fun _ _ => rfl
    | succ k =>
      by_cases h0 : q.lo = 0
      · exact def_step S ok k (fun i q hq => ih k (by omega) i q hq) (r := k + 2) mq (by omega) (fun z => absurd h0 z) (fun z => by omega) (callN_0 hq h0)
      by_cases h1 : q.lo = 1
      · cases k with
        | zero => exact def_err S ok mq (callN_e hq (.inl ⟨h1, rfl⟩))
        | succ k => exact def_step S ok k (fun i q hq => ih k (by omega) i q hq) (r := k + 3) mq (by omega) (fun z => by omega) (fun z => by omega) (callN_1 hq h1)
      by_cases h2 : q.lo = 2
      · by_cases h3 : k < 3
        · exact def_err S ok mq (callN_e hq (.inr (.inl ⟨h2, h3⟩)))
        · obtain ⟨j, rfl⟩ : ∃ j, k = j + 3 := ⟨k - 3, by omega⟩
          exact def_step S ok j (fun i q hq => ih j (by omega) i q hq) (r := j + 5) mq (by omega) (fun z => by omega) (fun z => by omega) (callN_2 hq h2)
      · exact def_err S ok mq (callN_e hq (.inr (.inr (by omega))))
end
end Mp

/-! Mp19: a program's tables; the head's facts; the law's end. -/
namespace Mp
open PySem L2 LamX PyProof.Rows
structure Prg where
  gam : Gam
  defs : List Def1
  cn : List Str
  fnn : List Str
  toldD : He.DefD
  wordD : He.DefD
  wcs : Scope
  exiD : List He.DefD
def Prg.cname (p : Prg) (c : Nat) : Str := p.cn.getD c ""
def fnmOf (l : List Str) (i : Nat) : Str := match l[i]? with
  | some x => x
  | none => ⟨Array.replicate (1000 + i) 0⟩
theorem fnm_inj {l : List Str} (nd : l.Nodup) (sh : l.all (fun x => decide (x.cps.size < 1000)) = true) (f g : Nat) (h : fnmOf l f = fnmOf l g) : f = g := by
  unfold fnmOf at h
  have small : ∀ {i : Nat} {x : Str}, l[i]? = some x → x.cps.size < 1000 := fun {i x} e => of_decide_eq_true (List.all_eq_true.mp sh x (List.mem_of_getElem? e))
  cases e1 : l[f]? with
  | some x =>
    cases e2 : l[g]? with
    | some y =>
      rw [e1, e2] at h
      have h : x = y := h
      subst h
      obtain ⟨h1, q1⟩ := List.getElem?_eq_some_iff.mp e1
      obtain ⟨h2, q2⟩ := List.getElem?_eq_some_iff.mp e2
      exact (List.getElem_inj nd).mp (q1.trans q2.symm)
    | none =>
      rw [e1, e2] at h
      have h : x = _ := h
      have := small e1
      rw [h] at this
      simp at this
      omega
  | none =>
    cases e2 : l[g]? with
    | some y =>
      rw [e1, e2] at h
      have h : _ = y := h
      have := small e2
      rw [← h] at this
      simp at this
      omega
    | none =>
      rw [e1, e2] at h
      have h := congrArg (fun s : Str => s.cps.size) h
      simp at h
      exact h
def Prg.los (p : Prg) : List Def1 := p.defs.filter (fun q => decide (q.lo = 2))
def lamQ (q : Def1) : Str := q.d.qual ++ ".<locals>." ++ "<lambda>"
def Prg.G (p : Prg) (K : PySem.W.Frag) (w : World) : Wd := { w := w, K := K, cls := fun c => He.ga K (p.cname c), fnm := fnmOf p.fnn, T := p.los.map fun q => ((He.cT K q.d.at_).2, lamQ q) }
def cstFa : Str × D → Option He.Fa
  | (x, .int i) => some (.int x i)
  | (x, .str z) => some (.str x ⟨z.toArray⟩)
  | (x, .tup _) => some (.glo x)
  | _ => none
def dvsOf : List D → Option (List He.Dv)
  | [] => some []
  | d :: r => (dvOf d).bind fun v => (dvsOf r).map fun l => v :: l
def Prg.last (p : Prg) : List He.Fa := [.glo p.gam.told, .glo p.gam.bas, .glo "law", .glo p.gam.wrd] ++ (W6.map .glo ++ ([.free "isinstance", .free "sum", .free "int", .free "ValueError"] ++ (p.gam.exw.map (fun q => .glo q.1) ++ p.gam.kdc.map fun q => .glo q.1)))
def excCB (K : PySem.W.Frag) (D : Addr) : Bool := decide (PySem.W.findIn K (.ref D) "__getattribute__" = some (some (.builtin "BaseException.__getattribute__"))) && (decide (PySem.W.findIn K (.ref D) "__getattr__" = some none) && (decide (PySem.W.subIn K (.ref D) (.type "BaseException") = some true) && (PySem.W.hasDictIn K D && (decide (PySem.W.findIn K (.ref D) "__class__" = some (some (.builtin "object.__class__"))) &&
  (decide (PySem.W.specialIn K (.builtin "object.__class__") "__get__" = some (some (.builtin "getset_descriptor.__get__"))) && (decide (PySem.W.takesIn K (.builtin "object.__class__") = some true) && decide (PySem.W.mroIn K D (.type "object") = some true)))))))
theorem excCB_ok {K : PySem.W.Frag} {D : Addr} (h : excCB K D = true) : ExcC K D := by
  unfold excCB at h
  simp only [Bool.and_eq_true, decide_eq_true_eq] at h
  obtain ⟨h1, h2, h3, h4, h5, h6, h7, h8⟩ := h
  exact ⟨h1, h2, h3, h4, h5, h6, h7, h8⟩
def toldCB (K : PySem.W.Frag) (bas : Str) (D : Addr) (j : Nat) : Bool := decide (PySem.W.exmOne K (.ref D) (.ref (He.ga K bas)) = some true) && (excCB K D && (((List.range 6).all fun i => decide (PySem.W.kitOne K (.ref D) (.ref (He.ga K (W6.getD i ""))) = some (decide (i = j)))) && (decide (PySem.W.kitOne K (.ref D) (.type "ValueError") = some true) && (decide (j ≠ 5) || decide (PySem.W.findIn K (.ref D) "word" = some none)))))
theorem toldCB_ok {K : PySem.W.Frag} {mg : Str → Option Value} {bas : Str} {D : Addr} {j : Nat} (h : toldCB K bas D j = true) (mb : mg bas = some (.ref (He.ga K bas))) (m6 : ∀ x ∈ W6, mg x = some (.ref (He.ga K x))) (mv : mg "ValueError" = none) : ToldC K mg bas D j := by
  unfold toldCB at h
  simp only [Bool.and_eq_true, Bool.or_eq_true, decide_eq_true_eq, List.all_eq_true] at h
  obtain ⟨h1, h2, h3, h4, h5⟩ := h
  refine ⟨fun CS hc => ?_, ⟨excCB_ok h2, by simp [hot6], fun i x b hx hb => ?_, h4, mv⟩, fun hj => ?_⟩
  · rw [mb] at hc
    cases hc
    exact h1
  · have hi : i < 6 := by
      have := (List.getElem?_eq_some_iff.mp hx).1
      exact this
    refine ⟨He.ga K x, m6 x (List.mem_of_getElem? hx), ?_⟩
    have z := h3 i (List.mem_range.mpr hi)
    have e1 : W6.getD i "" = x := by rw [List.getD_eq_getElem?_getD, hx]; rfl
    rw [e1] at z
    unfold hot6 at hb
    rw [List.getElem?_map, List.getElem?_range hi] at hb
    cases hb
    exact z
  · rcases h5 with h5 | h5
    · exact absurd hj h5
    · exact h5
def exwB (K : PySem.W.Frag) (C : Addr) : Bool := oexB K C && (decide (PySem.W.findIn K (.ref C) "word" = some none) && (decide (PySem.W.findIn K (.ref C) "__init__" = some (some (.ref (He.ma K C "__init__")))) && decide (PySem.W.typeIn K (.ref (He.ma K C "__init__")) = some (.type "function"))))
structure InitOk (d : He.DefD) : Prop where
  dfl : d.dfl = []
  kwd : d.kwd = []
  bd : initV d.body = true
  sc : FnScope ["self", "word"] ["self", "word"] d.scope
  v0 : Vis d.scope "self"
  v1 : Vis d.scope "word"
  bind : ∀ (kV doc pm : Value) (an : Option Addr) (cdv ct : Value) (us : List Value), us.length = ([("self" : Str), "word"] : List Str).length → bindArgs (PySem.W.fnOf d.name d.qual d.params d.body d.scope .none kV doc pm an cdv ct) ⟨us, []⟩ = pure (([("self" : Str), "word"] : List Str).zip us)
structure WordOk (d : He.DefD) (cs : Scope) : Prop where
  dfl : d.dfl = []
  kwd : d.kwd = []
  bd : wordV cs d.body = true
  sc : WordS ["e", "flags", "flag"] d.scope cs
  bind : ∀ (kV doc pm : Value) (an : Option Addr) (cdv ct : Value) (us : List Value), us.length = ([("e" : Str)] : List Str).length → bindArgs (PySem.W.fnOf d.name d.qual d.params d.body d.scope .none kV doc pm an cdv ct) ⟨us, []⟩ = pure (([("e" : Str)] : List Str).zip us)
theorem word_of {K : PySem.W.Frag} {mg : Str → Option Value} {d : He.DefD} {cs : Scope} {wd : Str} {fd : FuncData} (F : FunD K d.name d.qual d.params d.body d.scope (d.dvs K) (d.kws K) (He.fAd K d.at_) fd) (W : WordOk d cs) (at_ : d.at_ = (wd, none)) (mw : mg wd = some (.ref (He.ga K wd))) (fre : ∀ x ∈ (["isinstance", "sum", "int"] : List Str), mg x = none) : WordF K mg wd := by
  have e1 : d.dvs K = [] := by unfold He.DefD.dvs; rw [W.dfl]; rfl
  have e2 : d.kws K = [] := by unfold He.DefD.kws; rw [W.kwd]; rfl
  rw [e1, e2] at F
  have hb := F.bindsN W.bind
  have kp := F.kp
  obtain ⟨oc, od, dV, kV, doc, pm, an, cdv, ct, osl, rfl, lk, hcd, _, _⟩ := F.ex
  have ea : He.fAd K d.at_ = He.ga K wd := by rw [at_]; rfl
  rw [ea] at kp lk
  exact ⟨_, _, mw, kp, hb, fun P w base => word_fn lk hcd W.bd W.sc fre⟩
theorem exw_of {K : PySem.W.Frag} {mg : Str → Option Value} {d : He.DefD} {x : Str} {fd : FuncData} (F : FunD K d.name d.qual d.params d.body d.scope (d.dvs K) (d.kws K) (He.fAd K d.at_) fd) (W : InitOk d) (at_ : d.at_ = (x, some ("__init__" : Str))) (mw : mg x = some (.ref (He.ga K x))) (h : exwB K (He.ga K x) = true) : ExW K mg x (He.ga K x) := by
  have e1 : d.dvs K = [] := by unfold He.DefD.dvs; rw [W.dfl]; rfl
  have e2 : d.kws K = [] := by unfold He.DefD.kws; rw [W.kwd]; rfl
  rw [e1, e2] at F
  have hb := F.bindsN W.bind
  obtain ⟨oc, od, dV, kV, doc, pm, an, cdv, ct, osl, rfl, lk, hcd, _, _⟩ := F.ex
  have ea : He.fAd K d.at_ = He.ma K (He.ga K x) "__init__" := by rw [at_]; rfl
  rw [ea] at lk
  unfold exwB at h
  simp only [Bool.and_eq_true, decide_eq_true_eq] at h
  obtain ⟨h1, h2, h3, h4⟩ := h
  exact ⟨mw, oexB_ok h1, _, _, h3, h4, hb, fun P w m base => init_fn lk hcd W.bd W.sc W.v0 W.v1 (oexB_ok h1) h2⟩
def Prg.fa (p : Prg) : List He.Fa :=
  p.gam.fns.map (fun q => .glo q.1) ++ (p.gam.cls.map (fun q => .glo q.1) ++ (p.gam.cls.map (fun q => .cls q.1) ++ (p.gam.cls.map (fun q => .mkr q.1) ++
  (p.gam.mes.flatMap (fun q => q.2.map fun z => .meth (p.cname z.1) q.1) ++ (p.gam.fre.map .free ++ (p.gam.exs.map (fun q => .glo q.1) ++ (p.gam.exs.map (fun q => .exc q.1) ++
  (p.gam.fo.map (fun q => .noat (p.cname q.1) (fnmOf p.fnn q.2)) ++ (p.gam.cst.filterMap cstFa ++ p.last)))))))))
def Prg.fn (p : Prg) : List He.DefD := p.defs.map (·.d) ++ ([p.toldD, p.wordD] ++ p.exiD)
def Prg.ts (p : Prg) : List He.Tab := p.gam.kdc.map fun q => (fun K => He.ga K q.1, q.2.map fun z => (⟨z.1.toArray⟩ : Str))
def kdOne (K : PySem.W.Frag) (q : Str × List (Tx × D)) : Bool := match kdvOf q.2 with
  | some vs => kdChk K (He.ga K q.1) vs
  | none => false
def Prg.tf (p : Prg) : List He.Defn := p.los.map (·.d.at_)
def tupCst (K : PySem.W.Frag) : Str × D → Bool
  | (x, .tup ds) => match dvsOf ds with
    | some vs => He.tupB K x vs
    | none => false
  | _ => true
def Prg.ex (p : Prg) (K : PySem.W.Frag) : Bool := p.gam.cst.all (tupCst K) && ((p.gam.tld.all fun q => toldCB K p.gam.bas (He.ga K (p.cname q.1)) q.2) && ((p.gam.exw.all fun q => exwB K (He.ga K (p.cname q.2))) && (p.gam.kdc.all (kdOne K) && p.los.all fun q => p.los.all fun r => !((He.cT K q.d.at_).2 == (He.cT K r.d.at_).2) || decide (lamQ q = lamQ r))))
/-- what is looked at in the tables alone -/
def Prg.okB (p : Prg) : Bool :=
  (p.gam.fns.all fun q => match p.defs[q.2]? with | some d => decide (d.d.at_ = (q.1, none)) | none => false) &&
  ((p.gam.cls.all fun q => decide (p.cname q.2.1 = q.1) && (match p.defs[q.2.2]? with | some d => decide (d.d.at_ = (q.1, some ("__init__" : Str))) | none => false)) &&
  ((p.gam.fld.all fun q => decide (p.fnn[q.2]? = some q.1)) &&
  ((p.gam.mes.all fun q => q.2.all fun z => decide (p.cname z.1 ∈ p.gam.cls.map (·.1)) && (match p.defs[z.2]? with | some d => decide (d.d.at_ = (p.cname z.1, some q.1)) | none => false)) &&
  ((p.gam.exs.all fun q => decide (p.cname q.2 = q.1)) &&
  ((p.gam.exw.all fun q => decide (p.cname q.2 = q.1) && p.exiD.any fun d => decide (d.at_ = (q.1, some ("__init__" : Str)))) &&
  (decide p.fnn.Nodup && (p.fnn.all (fun x => decide (x.cps.size < 1000)) && (p.gam.cst.all fun q => (cstFa q).isSome))))))))
theorem look_mem {α : Type} {x : Str} {v : α} : ∀ {l : List (Str × α)}, l.lookup x = some v → (x, v) ∈ l
  | [], h => by cases h
  | (y, u) :: r, h => by
    rw [List.lookup_cons] at h
    cases q : x == y with
    | true =>
      rw [q] at h
      cases h
      rw [eq_of_beq q]
      exact List.mem_cons_self
    | false =>
      rw [q] at h
      exact List.mem_cons_of_mem _ (look_mem h)
theorem lookN_mem {α : Type} {x : Nat} {v : α} : ∀ {l : List (Nat × α)}, l.lookup x = some v → (x, v) ∈ l
  | [], h => by cases h
  | (y, u) :: r, h => by
    rw [List.lookup_cons] at h
    cases q : x == y with
    | true =>
      rw [q] at h
      cases h
      rw [eq_of_beq q]
      exact List.mem_cons_self
    | false =>
      rw [q] at h
      exact List.mem_cons_of_mem _ (lookN_mem h)
theorem dvs_RL {K : PySem.W.Frag} {G : Wd} {H : Hp} {as : List Addr} : ∀ {ds : List D} {vs : List He.Dv}, dvsOf ds = some vs → RL G.K H as (vs.map (He.Dv.v K)) ds
  | [], vs, h => by cases h; exact .nil
  | d :: r, vs, h => by
    simp only [dvsOf, Option.bind_eq_some_iff, Option.map_eq_some_iff] at h
    obtain ⟨v, hv, l, hl, rfl⟩ := h
    refine .cons ?_ (dvs_RL hl)
    cases d with
    | int i => cases hv; exact .int i
    | str z => cases hv; exact .str z
    | _ => cases hv
section
variable {p : Prg} {w : World} {K : PySem.W.Frag} {mg : Str → Option Value} {base h hh : Heap}
theorem sx_of (X : K.In hh) (Gs : hh.Ns mainGlobals mg) (c : He.SaysX p.fa p.fn p.ts p.tf p.ex w h K) (okb : p.okB = true) (ok : ∀ q ∈ p.defs, DefOk p.gam q) (TB : ∀ q ∈ p.los, TabB base mg (He.cT K q.d.at_).1 (He.cT K q.d.at_).2) (TF : ToldF K mg p.gam.told p.gam.bas p.gam.wrd) (IO : ∀ d ∈ p.exiD, InitOk d) : Sx w K mg base p.gam (p.G K w) p.defs := by
  obtain ⟨b1, okb⟩ := and6 okb
  obtain ⟨b2, okb⟩ := and6 okb
  obtain ⟨b3, okb⟩ := and6 okb
  obtain ⟨b4, okb⟩ := and6 okb
  obtain ⟨b5, okb⟩ := and6 okb
  obtain ⟨b9, okb⟩ := and6 okb
  obtain ⟨b6, okb⟩ := and6 okb
  obtain ⟨b7, b8⟩ := and6 okb
  obtain ⟨x1, x2⟩ := and6 c.more
  obtain ⟨x3, x2⟩ := and6 x2
  obtain ⟨x4, x2⟩ := and6 x2
  obtain ⟨x5, x2⟩ := and6 x2
  have fa : ∀ {f : He.Fa}, f ∈ p.fa → f.ok K = true := fun hf => c.t.d.facts hf
  have m1 : ∀ {f : He.Fa} {a b : List He.Fa}, f ∈ a → f ∈ a ++ b := fun h => List.mem_append_left _ h
  have m2 : ∀ {f : He.Fa} {a b : List He.Fa}, f ∈ b → f ∈ a ++ b := fun h => List.mem_append_right _ h
  refine { hK := rfl, hw := rfl, inj := fnm_inj (of_decide_eq_true b6) b7, fund := fun q hq => ?_, cst := fun x d hx => ?_, fns := fun x i hx => ?_, cls := fun x cc i hx => ?_, fld := fun x i hx => ?_, mes := fun m l cc i hm hl => ?_, fre := fun x hx => ?_, exs := fun x cc hx => ?_, fo := fun q hq => ?_, lam := fun q hq hlo => ?_, tld := fun cc j hx => ?_, exw := fun x cc hx => ?_, kdc := fun x kvs hx => ?_ }
  · obtain ⟨fd, F⟩ := c.t.d.defs (d := q.d) (List.mem_append_left _ (List.mem_map.mpr ⟨q, hq, rfl⟩))
    refine ⟨fd, ?_⟩
    have e1 : q.d.dvs K = [] := by unfold He.DefD.dvs; rw [(ok q hq).dfl]; rfl
    have e2 : q.d.kws K = [] := by unfold He.DefD.kws; rw [(ok q hq).kwd]; rfl
    rw [e1, e2] at F
    exact F
  · have hm := look_mem hx
    have fb := List.all_eq_true.mp b8 _ hm
    have tb := List.all_eq_true.mp x1 _ hm
    have inF : ∀ {f : He.Fa}, cstFa (x, d) = some f → f.ok K = true := fun {f} hf => fa (m2 (m2 (m2 (m2 (m2 (m2 (m2 (m2 (m2 (m1 (List.mem_filterMap.mpr ⟨(x, d), hm, hf⟩)))))))))))
    cases d with
    | int i =>
      obtain ⟨t, ht⟩ := He.int_ok X Gs (inF rfl)
      exact ⟨_, .int i, ht, ⟨t, rfl⟩, fun _ _ => .int i⟩
    | str z =>
      obtain ⟨t, ht⟩ := He.str_ok X Gs (inF rfl)
      exact ⟨_, .str ⟨z.toArray⟩, ht, ⟨t, rfl⟩, fun _ _ => .str z⟩
    | tup ds =>
      have hg := He.glo_ok X Gs (inF rfl)
      refine ⟨_, .ref (He.ga K x), hg, rfl, fun H as => ?_⟩
      have tb : (match dvsOf ds with | some vs => He.tupB K x vs | none => false) = true := tb
      cases q : dvsOf ds with
      | none => rw [q] at tb; cases tb
      | some vs =>
        rw [q] at tb
        exact .tup (He.tupB_ok tb H) (dvs_RL (K := K) (G := p.G K w) q)
    | _ => cases fb
  · have hm := look_mem hx
    have z := List.all_eq_true.mp b1 _ hm
    dsimp only at z
    split at z
    · rename_i q hq
      exact ⟨q, hq, of_decide_eq_true z, He.glo_ok X Gs (fa (m1 (List.mem_map.mpr ⟨(x, i), hm, rfl⟩)))⟩
    · cases z
  · have hm := look_mem hx
    obtain ⟨z1, z2⟩ := and6 (List.all_eq_true.mp b2 _ hm)
    have ez := of_decide_eq_true z1
    dsimp only at z2 ez
    split at z2
    · rename_i q hq
      refine ⟨by show He.ga K (p.cname cc) = _; rw [ez], He.glo_ok X Gs (fa (m2 (m1 (List.mem_map.mpr ⟨_, hm, rfl⟩)))), He.mkr_ok (fa (m2 (m2 (m2 (m1 (List.mem_map.mpr ⟨_, hm, rfl⟩)))))), He.cls_ok (fa (m2 (m2 (m1 (List.mem_map.mpr ⟨_, hm, rfl⟩))))), q, hq, of_decide_eq_true z2⟩
    · cases z2
  · have z := of_decide_eq_true (List.all_eq_true.mp b3 _ (look_mem hx))
    show fnmOf p.fnn i = x
    unfold fnmOf
    have z : p.fnn[i]? = some x := z
    rw [z]
  · have hm := look_mem hm
    have hl := lookN_mem hl
    obtain ⟨z1, z2⟩ := and6 (List.all_eq_true.mp (List.all_eq_true.mp b4 _ hm) _ hl)
    have z1 := of_decide_eq_true z1
    dsimp only at z1 z2
    split at z2
    · rename_i q hq
      obtain ⟨y, hy, ey⟩ := List.mem_map.mp z1
      have hc : Cls K (He.ga K (p.cname cc)) := by
        rw [← ey]
        exact He.cls_ok (fa (m2 (m2 (m1 (List.mem_map.mpr ⟨_, hy, rfl⟩)))))
      exact ⟨q, p.cname cc, hq, rfl, of_decide_eq_true z2, hc, He.meth_ok (fa (m2 (m2 (m2 (m2 (m1 (List.mem_flatMap.mpr ⟨_, hm, List.mem_map.mpr ⟨_, hl, rfl⟩⟩)))))))⟩
    · cases z2
  · exact He.free_ok X Gs (fa (m2 (m2 (m2 (m2 (m2 (m1 (List.mem_map.mpr ⟨x, hx, rfl⟩))))))))
  · have hm := look_mem hx
    have ez := of_decide_eq_true (List.all_eq_true.mp b5 _ hm)
    have ec : (p.G K w).cls cc = He.ga K x := by show He.ga K (p.cname cc) = _; rw [show p.cname cc = x from ez]
    rw [ec]
    obtain ⟨y1, y2, y3, y4⟩ := He.exc_ok (fa (m2 (m2 (m2 (m2 (m2 (m2 (m2 (m1 (List.mem_map.mpr ⟨_, hm, rfl⟩))))))))))
    exact ⟨He.glo_ok X Gs (fa (m2 (m2 (m2 (m2 (m2 (m2 (m1 (List.mem_map.mpr ⟨_, hm, rfl⟩))))))))), y1, y2, y3, y4⟩
  · exact He.noat_ok (fa (m2 (m2 (m2 (m2 (m2 (m2 (m2 (m2 (m1 (List.mem_map.mpr ⟨q, hq, rfl⟩)))))))))))
  · have hm := lookN_mem hx
    have z := List.all_eq_true.mp x3 _ hm
    have la : ∀ {f : He.Fa}, f ∈ p.last → f.ok K = true := fun hf => fa (m2 (m2 (m2 (m2 (m2 (m2 (m2 (m2 (m2 (m2 hf))))))))))
    exact toldCB_ok z (He.glo_ok X Gs (la (by unfold Prg.last; simp))) (fun x hx => He.glo_ok X Gs (la (List.mem_append_right _ (List.mem_append_left _ (List.mem_map.mpr ⟨x, hx, rfl⟩))))) (He.free_ok X Gs (la (by unfold Prg.last; simp)))
  · have hm := look_mem hx
    have z := List.all_eq_true.mp x4 _ hm
    obtain ⟨y1, y2⟩ := and6 (List.all_eq_true.mp b9 _ hm)
    have y1 : p.cname cc = x := of_decide_eq_true y1
    obtain ⟨d, hd, hat⟩ := List.any_eq_true.mp y2
    have hat : d.at_ = (x, some ("__init__" : Str)) := of_decide_eq_true hat
    have la : ∀ {f : He.Fa}, f ∈ p.last → f.ok K = true := fun hf => fa (m2 (m2 (m2 (m2 (m2 (m2 (m2 (m2 (m2 (m2 hf))))))))))
    obtain ⟨fd, F⟩ := c.t.d.defs (d := d) (List.mem_append_right _ (List.mem_append_right _ hd))
    have ec : (p.G K w).cls cc = He.ga K x := by show He.ga K (p.cname cc) = _; rw [y1]
    have z : exwB K (He.ga K (p.cname cc)) = true := z
    rw [y1] at z
    rw [ec]
    exact exw_of F (IO d hd) hat (He.glo_ok X Gs (la (List.mem_append_right _ (List.mem_append_right _ (List.mem_append_right _ (List.mem_append_left _ (List.mem_map.mpr ⟨_, hm, rfl⟩))))))) z
  · have hm := look_mem hx
    have z := List.all_eq_true.mp x5 _ hm
    unfold kdOne at z
    dsimp only at z
    split at z
    · rename_i vs hv
      have la : ∀ {f : He.Fa}, f ∈ p.last → f.ok K = true := fun hf => fa (m2 (m2 (m2 (m2 (m2 (m2 (m2 (m2 (m2 (m2 hf))))))))))
      obtain ⟨i, hi⟩ := List.mem_iff_getElem?.mp hm
      refine ⟨He.ga K x, He.glo_ok X Gs (la (List.mem_append_right _ (List.mem_append_right _ (List.mem_append_right _ (List.mem_append_right _ (List.mem_map.mpr ⟨_, hm, rfl⟩)))))), kd_of hv z ?_⟩
      exact c.t.tab i (t := (fun K => He.ga K x, kvs.map fun z => (⟨z.1.toArray⟩ : Str))) (by unfold Prg.ts; rw [List.getElem?_map, hi]; rfl)
    · cases z
  · have hl : q ∈ p.los := List.mem_filter.mpr ⟨hq, decide_eq_true hlo⟩
    refine ⟨TB q hl, List.mem_map.mpr ⟨q, hl, rfl⟩, fun z hz ez => ?_, TF⟩
    obtain ⟨r, hr, rfl⟩ := List.mem_map.mp hz
    have y := List.all_eq_true.mp (List.all_eq_true.mp x2 q hl) r hr
    rw [Bool.or_eq_true, Bool.not_eq_true', beq_eq_false_iff_ne, decide_eq_true_eq] at y
    rcases y with y | y
    · exact absurd ez.symm y
    · exact y.symm
end
end Mp

/-! Mp20: the law's end. -/
namespace Mp
open PySem L2 LamX PyProof.Rows
/-- told's body -/
def toldV (a e n wd : Str) : List Stmt → Bool
  | [.Try [.Return (some (.Call (.Name a' _) [] [] _)) _] [.ExceptHandler (some (.Name e' _)) (some n') [.Return (some (.Call (.Name w' _) [.Name m' _] [] _)) _] _] [] [] _] => decide (a' = a) && (decide (e' = e) && (decide (n' = n) && (decide (w' = wd) && decide (m' = n))))
  | _ => false
theorem toldV_ok {a e n wd : Str} {b : List Stmt} (h : toldV a e n wd b = true) : ∃ (p1 p2 p3 p4 p5 p6 p7 p8 p9 p10 : Pos), b = [.Try [.Return (some (.Call (.Name a p1) [] [] p2)) p3] [.ExceptHandler (some (.Name e p4)) (some n) [.Return (some (.Call (.Name wd p5) [.Name n p6] [] p7)) p8] p9] [] [] p10] := by
  unfold toldV at h
  split at h
  · simp only [Bool.and_eq_true, decide_eq_true_eq] at h
    obtain ⟨rfl, rfl, rfl, rfl, rfl⟩ := h
    exact ⟨_, _, _, _, _, _, _, _, _, _, rfl⟩
  · cases h
structure ToldOk (p : Prg) (a n : Str) : Prop where
  at_ : p.toldD.at_ = (p.gam.told, none)
  nm : p.toldD.name = p.gam.told
  ql : p.toldD.qual = p.gam.told
  bd : toldV a p.gam.bas n p.gam.wrd p.toldD.body = true
  dfl : p.toldD.dfl = []
  kwd : p.toldD.kwd = []
  bind : ∀ (kV doc pm : Value) (an : Option Addr) (cdv ct : Value) (us : List Value), us.length = [a].length → bindArgs (PySem.W.fnOf p.toldD.name p.toldD.qual p.toldD.params p.toldD.body p.toldD.scope .none kV doc pm an cdv ct) ⟨us, []⟩ = pure ([a].zip us)
  sc : FnScope [a, n] [a] p.toldD.scope
  va : Vis p.toldD.scope a
  ln : p.toldD.scope.names.lookup n = some .local
  ge : p.toldD.scope.names.lookup p.gam.bas = some .globalImplicit
  gw : p.toldD.scope.names.lookup p.gam.wrd = some .globalImplicit
  de : (p.gam.bas == ("__debug__" : Str)) = false
  dw : (p.gam.wrd == ("__debug__" : Str)) = false
  da : (a == ("__debug__" : Str)) = false
  ca : (a == ("__classdict__" : Str)) = false
  dn : (n == ("__debug__" : Str)) = false
  cn : (n == ("__classdict__" : Str)) = false
  wo : WordOk p.wordD p.wcs
  wat : p.wordD.at_ = (p.gam.wrd, none)
  io : ∀ d ∈ p.exiD, InitOk d
section
variable {p : Prg} {w : World} {K : PySem.W.Frag} {mg : Str → Option Value} {base h hh : Heap}
theorem fa_in {f : He.Fa} (c : He.SaysX p.fa p.fn p.ts p.tf p.ex w h K) (hf : f ∈ p.last) : f.ok K = true := by
  refine c.t.d.facts ?_
  unfold Prg.fa
  refine List.mem_append_right _ (List.mem_append_right _ (List.mem_append_right _ (List.mem_append_right _ (List.mem_append_right _ (List.mem_append_right _ (List.mem_append_right _ (List.mem_append_right _ (List.mem_append_right _ (List.mem_append_right _ hf)))))))))
theorem told_of {a n : Str} (X : K.In hh) (Gs : hh.Ns mainGlobals mg) (c : He.SaysX p.fa p.fn p.ts p.tf p.ex w h K) (T : ToldOk p a n) : ToldF K mg p.gam.told p.gam.bas p.gam.wrd := by
  obtain ⟨fd, F⟩ := c.t.d.defs (d := p.toldD) (List.mem_append_right _ (List.mem_append_left _ List.mem_cons_self))
  obtain ⟨fdw, Fw⟩ := c.t.d.defs (d := p.wordD) (List.mem_append_right _ (List.mem_append_left _ (List.mem_cons_of_mem _ List.mem_cons_self)))
  have e1 : p.toldD.dvs K = [] := by unfold He.DefD.dvs; rw [T.dfl]; rfl
  have e2 : p.toldD.kws K = [] := by unfold He.DefD.kws; rw [T.kwd]; rfl
  rw [e1, e2] at F
  have hb := F.bindsN T.bind
  obtain ⟨oc, od, dV, kV, doc, pm, an, cdv, ct, osl, rfl, lk, hcd, _, _⟩ := F.ex
  obtain ⟨p1, p2, p3, p4, p5, p6, p7, p8, p9, p10, eb⟩ := toldV_ok T.bd
  have ef : He.fAd K p.toldD.at_ = He.ga K p.gam.told := by rw [T.at_]; rfl
  have kp := F.kp
  rw [ef] at lk kp
  rw [eb, T.nm, T.ql] at hb lk
  rw [T.ql] at hcd
  have g1 : mg p.gam.told = some (.ref (He.ga K p.gam.told)) := He.glo_ok X Gs (fa_in c (by unfold Prg.last; simp))
  have g2 : mg p.gam.bas = some (.ref (He.ga K p.gam.bas)) := He.glo_ok X Gs (fa_in c (by unfold Prg.last; simp))
  have g3 : mg p.gam.wrd = some (.ref (He.ga K p.gam.wrd)) := He.glo_ok X Gs (fa_in c (by unfold Prg.last; simp))
  refine ⟨word_of Fw T.wo T.wat g3 fun x hx => ?_, T.dw, _, _, _, _, _, _, _, _, _, _, _, _, _, _, _, _, _, 1, p1, p2, p3, p4, p5, p6, p7, p8, p9, p10, g1, kp, lk, hcd, hb, T.sc, rfl, T.va, rfl, T.ln, T.ge, T.gw, g2, T.de, T.da, T.ca, T.dn, T.cn⟩
  refine He.free_ok X Gs (fa_in c ?_)
  unfold Prg.last
  rcases List.mem_cons.mp hx with rfl | hx
  · simp
  rcases List.mem_cons.mp hx with rfl | hx
  · simp
  rcases List.mem_cons.mp hx with rfl | hx
  · simp
  · cases hx
/-- the law's value at the plain level, the script in its two shapes -/
def LawD (tab : List Fn) (kk li n : Nat) : Prop := ∀ (ns : List Int) (sd : D) (h0 : DH), ns.length ≤ n → (∀ z ∈ ns, Builtin.Int.intBits z ≤ 1048576) → (sd = .frl (ns.map .int) ∧ h0 = [] ∨ sd = .ref 0 ∧ h0 = [.lst (ns.map .int)]) → ∃ h', callN tab kk li [sd] h0 = .ok (.bl true) h'
theorem ints_RL {G : PySem.W.Frag} {H : Hp} {as : List Addr} : ∀ ns : List Int, RL G H as (ns.map V.int) (ns.map D.int)
  | [] => .nil
  | z :: r => .cons (.int z) (ints_RL r)
theorem lawAt {l : PySem.W.OpenLaw} {kk li n : Nat} {q : Def1} {a e : Str} {fa : Addr} (X : K.In h) (Gs : h.Ns mainGlobals mg) (hmg : mg "law" = some (.ref fa)) (c : He.SaysX p.fa p.fn p.ts p.tf p.ex w h K) (okb : p.okB = true) (ok : ∀ q ∈ p.defs, DefOk p.gam q) (T : ToldOk p a e)
    (hq : p.defs[li]? = some q) (hat : q.d.at_ = (("law" : Str), none)) (hps : q.ps = [("script" : Str)]) (LD : LawD (p.defs.map Def1.fn) kk li n) : LawAtS l w K (L2N.CX l.prog w) (kk + 2) n "script" mg fa h := by
  have mq : q ∈ p.defs := List.mem_of_getElem? hq
  obtain ⟨fd, F⟩ := c.t.d.defs (d := q.d) (List.mem_append_left _ (List.mem_map.mpr ⟨q, mq, rfl⟩))
  have e1 : q.d.dvs K = [] := by unfold He.DefD.dvs; rw [(ok q mq).dfl]; rfl
  have e2 : q.d.kws K = [] := by unfold He.DefD.kws; rw [(ok q mq).kwd]; rfl
  rw [e1, e2] at F
  have hb := FunD.bindsA (ps := q.ps) F (ok q mq).bind
  have ef : He.fAd K q.d.at_ = fa := by
    rw [hat]
    have z := hmg.symm.trans (He.glo_ok X Gs (fa_in c (f := .glo "law") (by unfold Prg.last; simp)))
    cases z
    rfl
  have cs : ∀ z ∈ p.los.map (fun r => He.cT K r.d.at_), ∃ r ∈ p.tf, z = He.cT K r := fun z hz => by
    obtain ⟨r, hr, rfl⟩ := List.mem_map.mp hz
    exact ⟨r.d.at_, List.mem_map.mpr ⟨r, hr, rfl⟩, rfl⟩
  refine ⟨fd, p.los.map fun r => He.cT K r.d.at_, spD (p.G K w) (callN (p.defs.map Def1.fn) kk li), fun z hz => ?_, fun z hz => ?_, fun z hz => ?_, fun s u => ?_, fun H a ns hl hbit hT hS => ?_, fun base X2 G2 TB => ?_⟩
  · obtain ⟨r, hr, rfl⟩ := cs z hz
    exact c.empty r hr
  · obtain ⟨r, hr, rfl⟩ := cs z hz
    exact c.out r hr
  · obtain ⟨r, hr, rfl⟩ := cs z hz
    exact PySem.W.codeHd_of_K X (c.hd r hr)
  · have z := hb s [u] (by rw [hps]; rfl)
    rw [hps] at z
    exact z
  · have tabs : Tabs (p.G K w).T H := fun z hz => by
      obtain ⟨r, hr, rfl⟩ := List.mem_map.mp hz
      exact TabS.nil (hT _ (List.mem_map.mpr ⟨r, hr, rfl⟩))
    have fin : ∀ (sd : D) (h0 : DH) (as : List Addr), (sd = .frl (ns.map .int) ∧ h0 = [] ∨ sd = .ref 0 ∧ h0 = [.lst (ns.map .int)]) → RH (p.G K w) H as h0 → RV (p.G K w).K H as (.ref a) sd → spD (p.G K w) (callN (p.defs.map Def1.fn) kk li) [.ref a] H (fun v _ => v = .bl true) fun _ _ _ => False := fun sd h0 as hs rh rv => by
      obtain ⟨h', e⟩ := LD ns sd h0 hl hbit hs
      refine ⟨as, h0, [sd], rh, .cons rv .nil, ?_⟩
      rw [e]
      intro v H' as' x r rh'
      cases r
      rfl
    have frz : FrL K H a (ns.map V.int) → spD (p.G K w) (callN (p.defs.map Def1.fn) kk li) [.ref a] H (fun v _ => v = .bl true) fun _ _ _ => False := fun fr =>
      fin _ [] [] (.inl ⟨rfl, rfl⟩) ⟨rfl, .nil, fun i a o e1 e2 => by simp at e1, tabs⟩ (.frl fr (ints_RL ns))
    rcases hS with (hS | ⟨o, hS⟩) | hS
    · refine fin (.ref 0) [.lst (ns.map .int)] [a] (.inr ⟨rfl, rfl⟩) ⟨rfl, by simp, fun i b o e1 e2 => ?_, tabs⟩ (.ref rfl)
      cases i with
      | zero =>
        cases e1
        cases e2
        exact ⟨_, hS, ints_RL ns⟩
      | succ i => simp at e1
    · exact frz (.inl ⟨o, hS⟩)
    · exact frz (.inr hS)
  · have S : Sx w K mg base p.gam (p.G K w) p.defs := sx_of X2 G2 c okb ok (fun r hr => TB _ (List.mem_map.mpr ⟨r, hr, rfl⟩)) (told_of X2 G2 c T) T.io
    obtain ⟨fd2, ⟨_, _, _, l2⟩, b2, kp2, F2⟩ := defs_ok (P := l.prog) (w := w) S ok kk li q hq
    obtain ⟨_, _, _, l1⟩ := fd_at F
    rw [l1] at l2
    cases l2
    rw [hps, ef] at F2
    exact F2
end
end Mp

/-! Mp21: plain functions evaluated by simp. -/
namespace Mp
open PySem L2
def varR (o : Option (Option D)) (h : DH) : Res := match o with
  | some (some d) => .ok d h
  | _ => .err
def andR (x : D) (r : Res) (h : DH) : Res := match x with
  | .bl true => r
  | .bl false => .ok (.bl false) h
  | _ => .err
def orR (x : D) (r : Res) (h : DH) : Res := match x with
  | .bl true => .ok (.bl true) h
  | .bl false => r
  | _ => .err
def ifR (x : D) (a b : Res) : Res := match x with
  | .bl true => a
  | .bl false => b
  | _ => .err
def ifO (x : D) (a b : Out) : Out := match x with
  | .bl true => a
  | .bl false => b
  | _ => .err
def notR (x : D) (h : DH) : Res := match x with
  | .bl b => .ok (.bl (!b)) h
  | _ => .err
def negR (x : D) (h : DH) : Res := match x with
  | .int i => .ok (.int (-i)) h
  | _ => .err
def attR (o : Option O) (f : Nat) (h : DH) : Res := match o with
  | some (.ins _ fs) => optD (fldOf fs f) h
  | _ => .err
def methR (cl : CL) (me : Nat → Option Nat) (i : Nat) (o : Option O) (as : List M) (e : En) (h : DH) : Res := match o with
  | some (.ins c _) => match me c with
    | some f => (evL as e h).bind fun ds h2 => cl f (.ref i :: ds) h2
    | none => .err
  | _ => .err
def putR (fo : List (Nat × Nat)) (o : Option O) (i f : Nat) (y : D) (e : En) (h : DH) : Out := match o with
  | some (.ins c fs) => if fs.length < 1000 ∧ (c, f) ∈ fo then .nx e (h.set i (.ins c (putN f y fs))) else .err
  | _ => .err
def seqO (r : Out) (b : Ms) : Out := match r with
  | .nx e1 h1 => b e1 h1
  | r => r
def setO (o : Option En) (h : DH) : Out := match o with
  | some e => .nx e h
  | none => .err
def finO (r : Out) : Res := match r with
  | .nx _ h1 => .ok .non h1
  | .rt d h1 => .ok d h1
  | .exc c w _ h1 => .exc c w h1
  | _ => .err
def noneR (r : D) (i : Nat) (h : DH) : Res := match r with
  | .non => .ok (.ref i) h
  | _ => .err
def intP (x : D) (h : DH) : Rs (Option Int) := match x with
  | .int i => .ok (some i) h
  | _ => .err
section
variable {e : En} {h : DH} {a b c : M} {d x y : D} {i j f : Nat} {op op' : _} {cl : CL} {as ms : List M} {s t : Ms} {b1 : Bool} {r r' : Res} {o o' : Out}
@[simp] theorem v_lit : mLit d e h = .ok d h := rfl
@[simp] theorem v_true : mTrue e h = .ok (.bl true) h := rfl
@[simp] theorem v_var : mVar i e h = varR e[i]? h := rfl
@[simp] theorem varR_ok : varR (some (some d)) h = .ok d h := rfl
@[simp] theorem v_tup : mTup ms e h = (evL ms e h).bind fun ds h1 => if ds.length ≤ sizeLine then .ok (.tup ds) h1 else .err := rfl
@[simp] theorem v_lst : mLst ms e h = (evL ms e h).bind fun ds h1 => if ds.length ≤ sizeLine then .ok (.ref h1.length) (h1 ++ [.lst ds]) else .err := rfl
@[simp] theorem v_nil : evL [] e h = .ok [] h := rfl
@[simp] theorem v_cons : evL (a :: ms) e h = (a e h).bind fun d h1 => (evL ms e h1).bind fun ds h2 => .ok (d :: ds) h2 := rfl
@[simp] theorem v_bin : mBin op a b e h = (a e h).bind fun x h1 => (b e h1).bind fun y h2 => dBin op x y h2 := rfl
@[simp] theorem v_neg : mNeg a e h = (a e h).bind fun x h1 => negR x h1 := rfl
@[simp] theorem negR_ok {i : Int} : negR (.int i) h = .ok (.int (-i)) h := rfl
@[simp] theorem v_cmp : mCmp op a b e h = (a e h).bind fun x h1 => (b e h1).bind fun y h2 => optB (dCmp op x y h2) h2 := rfl
@[simp] theorem optB_some : optB (some b1) h = .ok (.bl b1) h := rfl
@[simp] theorem optD_some : optD (some d) h = .ok d h := rfl
@[simp] theorem v_chain : mChain op op' a b c e h = (a e h).bind fun x h1 => (b e h1).bind fun y h2 => (optB (dCmp op x y h2) h2).bind fun r h3 => andR r ((c e h3).bind fun z h4 => optB (dCmp op' y z h4) h4) h3 := by
  unfold mChain
  congr 1
@[simp] theorem v_and : mAnd a b e h = (a e h).bind fun x h1 => andR x (b e h1) h1 := rfl
@[simp] theorem v_or : mOr a b e h = (a e h).bind fun x h1 => orR x (b e h1) h1 := rfl
@[simp] theorem v_not : mNot a e h = (a e h).bind fun x h1 => notR x h1 := rfl
@[simp] theorem v_if : mIf c a b e h = (c e h).bind fun x h1 => ifR x (a e h1) (b e h1) := rfl
@[simp] theorem andR_ok : andR (.bl b1) r h = if b1 then r else .ok (.bl false) h := by cases b1 <;> rfl
@[simp] theorem orR_ok : orR (.bl b1) r h = if b1 then .ok (.bl true) h else r := by cases b1 <;> rfl
@[simp] theorem ifR_ok : ifR (.bl b1) r r' = if b1 then r else r' := by cases b1 <;> rfl
@[simp] theorem ifO_ok : ifO (.bl b1) o o' = if b1 then o else o' := by cases b1 <;> rfl
@[simp] theorem notR_ok : notR (.bl b1) h = .ok (.bl (!b1)) h := rfl
@[simp] theorem v_idx : mIdx a b e h = (a e h).bind fun x h1 => (b e h1).bind fun y h2 => dIdx x y h2 := rfl
@[simp] theorem v_slc {lo hi : Option M} : mSlc a lo hi e h = (a e h).bind fun x h1 => (evP lo e h1).bind fun l h2 => (evP hi e h2).bind fun u h3 => dSlc x l u h3 := rfl
@[simp] theorem evP_none : evP none e h = .ok none h := rfl
@[simp] theorem evP_some : evP (some a) e h = (a e h).bind fun x h1 => intP x h1 := rfl
@[simp] theorem intP_ok {i : Int} : intP (.int i) h = .ok (some i) h := rfl
@[simp] theorem v_call : mCall cl f as e h = (evL as e h).bind fun ds h1 => cl f ds h1 := rfl
@[simp] theorem v_make : mMake cl i f as e h = (evL as e h).bind fun ds h1 => (cl f (.ref h1.length :: ds) (h1 ++ [.ins i []])).bind fun r h2 => noneR r h1.length h2 := rfl
@[simp] theorem noneR_ok : noneR .non i h = .ok (.ref i) h := rfl
def attX (x : D) (f : Nat) (h : DH) : Res := match x with
  | .ref i => attR h[i]? f h
  | _ => .err
@[simp] theorem v_att : mAttr a f e h = (a e h).bind fun x h1 => attX x f h1 := by
  unfold mAttr
  congr 1
@[simp] theorem attX_ok : attX (.ref i) f h = attR h[i]? f h := rfl
@[simp] theorem attR_ok {c : Nat} {fs : List (Nat × D)} : attR (some (.ins c fs)) f h = optD (fldOf fs f) h := rfl
def methX (cl : CL) (me : Nat → Option Nat) (x : D) (as : List M) (e : En) (h : DH) : Res := match x with
  | .ref i => methR cl me i h[i]? as e h
  | _ => .err
@[simp] theorem v_meth {me : Nat → Option Nat} : mMeth cl me a as e h = (a e h).bind fun x h1 => methX cl me x as e h1 := by
  unfold mMeth
  congr 1
@[simp] theorem methX_ok {me : Nat → Option Nat} : methX cl me (.ref i) as e h = methR cl me i h[i]? as e h := rfl
def methC (cl : CL) (o : Option Nat) (i : Nat) (as : List M) (e : En) (h : DH) : Res := match o with
  | some f => (evL as e h).bind fun ds h2 => cl f (.ref i :: ds) h2
  | none => .err
@[simp] theorem methR_ins {me : Nat → Option Nat} {c : Nat} {fs : List (Nat × D)} : methR cl me i (some (.ins c fs)) as e h = methC cl (me c) i as e h := by
  cases q : me c <;> simp only [methR, methC, q]
@[simp] theorem methC_ok : methC cl (some f) i as e h = (evL as e h).bind fun ds h2 => cl f (.ref i :: ds) h2 := rfl
@[simp] theorem v_bi {q : BI} : mBi q as e h = (evL as e h).bind fun ds h1 => dBi q ds h1 := rfl
@[simp] theorem v_bm {q : BM} : mBm q a as e h = (a e h).bind fun x h1 => if okTo q x h1 then (evL as e h1).bind fun ds h2 => dBm q x ds h2 else .err := rfl
@[simp] theorem v_isi {q : IT} : mIsi a q e h = (a e h).bind fun x h1 => optB (dIsi x q h1) h1 := rfl
@[simp] theorem s_next : sNext e h = .nx e h := rfl
@[simp] theorem s_seq : sSeq s t e h = seqO (s e h) t := by unfold sSeq seqO; rfl
@[simp] theorem seqO_nx : seqO (.nx e h) t = t e h := rfl
@[simp] theorem seqO_rt : seqO (.rt d h) t = .rt d h := rfl
@[simp] theorem seqO_ct : seqO (.ct e h) t = .ct e h := rfl
@[simp] theorem seqO_exc {w : Option D} : seqO (.exc i w e h) t = .exc i w e h := rfl
@[simp] theorem s_set {st : D → En → Option En} : sSet st a e h = (a e h).bindO e fun x h1 => setO (st x e) h1 := by
  unfold sSet setO
  congr 1
@[simp] theorem setO_ok {e' : En} : setO (some e') h = .nx e' h := rfl
@[simp] theorem s_drop : sDrop a e h = (a e h).bindO e fun _ h1 => .nx e h1 := rfl
@[simp] theorem s_ret : sRet a e h = (a e h).bindO e fun x h1 => .rt x h1 := rfl
@[simp] theorem s_if : sIf c s t e h = (c e h).bindO e fun x h1 => ifO x (s e h1) (t e h1) := by
  unfold sIf
  congr 1
@[simp] theorem s_ct : sCont e h = .ct e h := rfl
@[simp] theorem s_raise : sRaise i e h = .exc i none e h := rfl
def putX (fo : List (Nat × Nat)) (x : D) (f : Nat) (y : D) (e : En) (h : DH) : Out := match x with
  | .ref i => putR fo h[i]? i f y e h
  | _ => .err
@[simp] theorem s_fld {fo : List (Nat × Nat)} : sFld fo c f a e h = (a e h).bindO e fun y h1 => (c e h1).bindO e fun x h2 => putX fo x f y e h2 := by
  unfold sFld
  congr 1
@[simp] theorem putX_ok {fo : List (Nat × Nat)} : putX fo (.ref i) f y e h = putR fo h[i]? i f y e h := rfl
theorem putR_ok {fo : List (Nat × Nat)} {c : Nat} {fs : List (Nat × D)} (q : fs.length < 1000 ∧ (c, f) ∈ fo) : putR fo (some (.ins c fs)) i f y e h = .nx e (h.set i (.ins c (putN f y fs))) := by
  unfold putR
  exact if_pos q
@[simp] theorem s_for {it : MI} {st : D → En → Option En} : sFor it st s e h = (it e h).bindO e fun p h1 => forL p.2 st s p.1 e h1 := rfl
@[simp] theorem i_e : miE a e h = (a e h).bind itOf := rfl
@[simp] theorem fin_nx : finO (.nx e h) = .ok .non h := rfl
@[simp] theorem fin_rt : finO (.rt d h) = .ok d h := rfl
@[simp] theorem fin_exc {w : Option D} : finO (.exc i w e h) = .exc i w h := rfl
/-- what told makes of an answer -/
def toldR (tt : Nat → Option Nat) (r : Res) : Res := match r with
  | .ok d h1 => .ok d h1
  | .exc c w h1 => match toldT tt c w with
    | some d => .ok d h1
    | none => .err
  | .err => .err
theorem v_told {tt : Nat → Option Nat} : mTold tt a e h = toldR tt (a e h) := by
  unfold mTold toldR
  rfl
@[simp] theorem toldR_ok {tt : Nat → Option Nat} : toldR tt (.ok d h) = .ok d h := rfl
theorem toldR_exc {tt : Nat → Option Nat} {w : Option D} {d : D} (q : toldT tt i w = some d) : toldR tt (.exc i w h) = .ok d h := by
  unfold toldR
  simp only [q]
@[simp] theorem s_raiseW : sRaiseW i a e h = (a e h).bindO e fun d h1 => .exc i (some d) e h1 := rfl
theorem call_eqL {tab : List Fn} {k g : Nat} {fn : Fn} {ds : List D} (q : tab[g]? = some fn) (l : ds.length = fn.np) (t : fn.lo = 2 := by rfl) : callN tab (k + 4) g ds h = finO (fn.body (callN tab k) (ds.map some ++ List.replicate (fn.ns - ds.length) none) h) := by
  unfold callN
  simp only [q, t]
  unfold runB
  rw [if_pos l]
  rfl
theorem call_eqM {tab : List Fn} {k g : Nat} {fn : Fn} {ds : List D} (q : tab[g]? = some fn) (l : ds.length = fn.np) (t : fn.lo = 1 := by rfl) : callN tab (k + 2) g ds h = finO (fn.body (callN tab k) (ds.map some ++ List.replicate (fn.ns - ds.length) none) h) := by
  unfold callN
  simp only [q, t]
  unfold runB
  rw [if_pos l]
  rfl
theorem call_eq {tab : List Fn} {k g : Nat} {fn : Fn} {ds : List D} (q : tab[g]? = some fn) (l : ds.length = fn.np) (t : fn.lo = 0 := by rfl) : callN tab (k + 1) g ds h = finO (fn.body (callN tab k) (ds.map some ++ List.replicate (fn.ns - ds.length) none) h) := by
  unfold callN
  simp only [q, t]
  unfold runB
  rw [if_pos l]
  rfl
end
/-! ### data -/
section
variable {h : DH} {i j : Int} {x y : Tx} {ds : List D}
@[simp] theorem stName_ok {k : Nat} {d : D} {e : En} : stName k d e = some (e.set k (some d)) := rfl
@[simp] theorem add_int : dBin .Add (.int i) (.int j) h = .ok (.int (i + j)) h := rfl
@[simp] theorem sub_int : dBin .Sub (.int i) (.int j) h = .ok (.int (i - j)) h := rfl
theorem mul_int (q : i.natAbs.log2 + j.natAbs.log2 < 100000000) : dBin .Mult (.int i) (.int j) h = .ok (.int (i * j)) h := if_pos q
theorem mod_int (q : 0 < j) : dBin .Mod (.int i) (.int j) h = .ok (.int (i % j)) h := if_pos q
theorem div_int (q : 0 < j ∧ j.natAbs.log2 < 9000) : dBin .FloorDiv (.int i) (.int j) h = .ok (.int (i / j)) h := if_pos q
theorem pow_int (q : 0 ≤ j ∧ j ≤ 1000000 ∧ i.natAbs < 2 ^ 64) : dBin .Pow (.int i) (.int j) h = .ok (.int (i ^ j.toNat)) h := if_pos q
theorem add_str (q : x.length + y.length ≤ sizeLine) : dBin .Add (.str x) (.str y) h = .ok (.str (x ++ y)) h := if_pos q
theorem mul_tup {xs : List D} (q : 1 ≤ j ∧ j ≤ 1000 ∧ 1 ≤ xs.length ∧ xs.length ≤ 1000) : dBin .Mult (.tup xs) (.int j) h = .ok (.tup (List.replicate j.toNat xs).flatten) h := if_pos q
theorem mul_str (q : j < 2 ^ 62 ∧ -(2 ^ 62) < j ∧ x.length * j.toNat ≤ sizeLine) : dBin .Mult (.str x) (.int j) h = .ok (.str (List.replicate j.toNat x).flatten) h := if_pos q
@[simp] theorem lt_int : dCmp .Lt (.int i) (.int j) h = some (decide (i < j)) := rfl
@[simp] theorem le_int : dCmp .LtE (.int i) (.int j) h = some (decide (i ≤ j)) := rfl
@[simp] theorem gt_int : dCmp .Gt (.int i) (.int j) h = some (decide (j < i)) := rfl
@[simp] theorem ge_int : dCmp .GtE (.int i) (.int j) h = some (decide (j ≤ i)) := rfl
@[simp] theorem le_str : dCmp .LtE (.str x) (.str y) h = some (!decide (y < x)) := rfl
theorem lst1_lt {a b : Nat} : ([a] < [b]) ↔ a < b := by
  rw [List.cons_lt_cons_iff]
  constructor
  · rintro (z | ⟨_, z⟩)
    · exact z
    · exact absurd z (List.not_lt_nil _)
  · exact .inl
@[simp high] theorem le_chr {a b : Nat} : dCmp .LtE (.str [a]) (.str [b]) h = some (decide (a ≤ b)) := by
  show some (!decide ([b] < [a])) = _
  congr 1
  rw [Bool.eq_iff_iff]
  simp only [Bool.not_eq_true', decide_eq_false_iff_not, decide_eq_true_eq, lst1_lt]
  omega
theorem set_same {i : Nat} {o : O} (q : h[i]? = some o) : h.set i o = h := by
  apply List.ext_getElem?
  intro j
  rw [List.getElem?_set]
  split
  · rename_i e
    subst e
    split
    · exact q.symm
    · rename_i z
      rw [List.getElem?_eq_none (by omega)] at q
      cases q
  · rfl
@[simp] theorem ne_eq' {a b : D} : dCmp .NotEq a b h = (dCmp .Eq a b h).map (!·) := rfl
@[simp] theorem eq_int : dCmp .Eq (.int i) (.int j) h = some (decide (i = j)) := by
  show (if SeqAt.shaped (.int i) && SeqAt.shaped (.int j) then some (PyData.eqv (.int i) (.int j)) else none) = _
  rw [if_pos (by rfl)]
  simp [PyData.eqv, BEq.beq]
@[simp] theorem eq_str : dCmp .Eq (.str x) (.str y) h = some (decide (x = y)) := rfl
@[simp] theorem in_char {c : Nat} {z : Tx} : dCmp .In (.str [c]) (.str z) h = some (decide (c ∈ z)) := rfl
theorem in_tup {zs : List Tx} (q : strsOf ds = some zs) : dCmp .In (.str x) (.tup ds) h = some (decide (x ∈ zs)) := by
  show dIn (.str x) (.tup ds) h = _
  simp only [dIn, q]
  rfl
theorem in_lst {zs : List Tx} {k : Nat} (q0 : h[k]? = some (.lst ds)) (q : strsOf ds = some zs) : dCmp .In (.str x) (.ref k) h = some (decide (x ∈ zs)) := by
  show dIn (.str x) (.ref k) h = _
  unfold dIn
  simp only [q0, q]
  rfl
@[simp] theorem notin' {a b : D} : dCmp .NotIn a b h = (dCmp .In a b h).map (!·) := rfl
theorem strs_map (zs : List Tx) : strsOf (zs.map .str) = some zs := by
  induction zs with
  | nil => rfl
  | cons z r ih => simp only [List.map_cons, strsOf, ih]; rfl
theorem bols_map (zs : List Bool) : bolsOf (zs.map .bl) = some zs := by
  induction zs with
  | nil => rfl
  | cons z r ih => simp only [List.map_cons, bolsOf, ih]; rfl
theorem len_str (q : x.length ≤ sizeLine) : dBi .len [.str x] h = .ok (.int x.length) h := if_pos q
@[simp] theorem len_tup : dBi .len [.tup ds] h = .ok (.int ds.length) h := rfl
@[simp] theorem len_frl : dBi .len [.frl ds] h = .ok (.int ds.length) h := rfl
theorem len_ref {k : Nat} (q : h[k]? = some (.lst ds)) : dBi .len [.ref k] h = .ok (.int ds.length) h := by
  show dLen [.ref k] h = _
  simp only [dLen, q]
@[simp] theorem ord_ok {c : Nat} : dBi .ord [.str [c]] h = .ok (.int c) h := rfl
@[simp] theorem int_int : dBi .int [.int i] h = .ok (.int i) h := rfl
@[simp] theorem int_bl {b : Bool} : dBi .int [.bl b] h = .ok (.int (if b then 1 else 0)) h := rfl
theorem int_str {n : Int} (q : PySem.intText? ⟨x.toArray⟩ = some n) (l : x.length ≤ 640) : dBi .int [.str x] h = .ok (.int n) h := by
  show dInt [.str x] h = _
  unfold dInt
  simp only [q]
  rw [if_pos l]
theorem str_int (q : i.natAbs.log2 < 1920) : dBi .str [.int i] h = .ok (.str (sInt i)) h := if_pos q
@[simp] theorem min_int : dBi .min [.int i, .int j] h = .ok (.int (if j < i then j else i)) h := rfl
@[simp] theorem max_int : dBi .max [.int i, .int j] h = .ok (.int (if j > i then j else i)) h := rfl
theorem all_ref {k : Nat} {bs : List Bool} (q : h[k]? = some (.lst ds)) (q2 : bolsOf ds = some bs) : dBi .all [.ref k] h = .ok (.bl (bs.all id)) h := by
  show dAll [.ref k] h = _
  unfold dAll
  simp only [q, q2]
theorem any_ref {k : Nat} {bs : List Bool} (q : h[k]? = some (.lst ds)) (q2 : bolsOf ds = some bs) : dBi .any [.ref k] h = .ok (.bl (bs.any id)) h := by
  show dAny [.ref k] h = _
  unfold dAny
  simp only [q, q2]
theorem idx_ref {k : Nat} (q : h[k]? = some (.lst ds)) : dIdx (.ref k) (.int i) h = optD (atI ds i) h := by
  unfold dIdx
  simp only [q]
@[simp] theorem idx_tup : dIdx (.tup ds) (.int i) h = optD (atI ds i) h := rfl
@[simp] theorem idx_frl : dIdx (.frl ds) (.int i) h = optD (atI ds i) h := rfl
theorem idx_str (q : x.length ≤ sizeLine) : dIdx (.str x) (.int i) h = optD ((atI x i).map fun c => .str [c]) h := if_pos q
theorem slc_str {lo hi : Option Int} (q : x.length ≤ sizeLine) : dSlc (.str x) lo hi h = .ok (.str (cutG x lo hi)) h := if_pos q
theorem atI_nat {α : Type} (xs : List α) (k : Nat) (hk : k < xs.length) : atI xs (k : Int) = xs[k]? := by
  unfold atI ixN
  rw [if_pos (by omega), if_pos (by omega)]
  simp
theorem atI_lt {α : Type} {xs : List α} {i : Int} (h0 : 0 ≤ i) (h1 : i < xs.length) (d : α) : atI xs i = some (xs.getD i.toNat d) := by
  obtain ⟨k, rfl⟩ := Int.eq_ofNat_of_zero_le h0
  rw [atI_nat xs k (by omega)]
  simp only [Int.toNat_natCast, List.getD_eq_getElem?_getD]
  rw [List.getElem?_eq_getElem (by omega)]
  rfl
theorem atI_last {α : Type} {xs : List α} (q : xs ≠ []) : atI xs (-1) = xs.getLast? := by
  have hl : 0 < xs.length := List.length_pos_iff.mpr q
  unfold atI ixN
  rw [if_neg (by omega), if_pos (by omega)]
  rw [List.getLast?_eq_getElem?]
  show xs[_]? = _
  congr 1
  omega
end
/-! ### turns -/
def nxtO (o : Out) (k : Ms) : Out := match o with
  | .nx e h => k e h
  | .ct e h => k e h
  | .bk e h => .nx e h
  | .rt d h => .rt d h
  | .exc c w e h => .exc c w e h
  | .err => .err
section
variable {e : En} {h : DH} {k : Ms} {d : D} {c : Nat} {w : Option D}
@[simp] theorem nxt_nx : nxtO (.nx e h) k = k e h := rfl
@[simp] theorem nxt_ct : nxtO (.ct e h) k = k e h := rfl
@[simp] theorem nxt_rt : nxtO (.rt d h) k = .rt d h := rfl
@[simp] theorem nxt_exc : nxtO (.exc c w e h) k = .exc c w e h := rfl
theorem forL_cons {g : Option (Nat × List D)} {st : D → En → Option En} {b : Ms} {x : D} {r : List D} {e1 : En} (q : Still g h) (q1 : st x e = some e1) : forL g st b (x :: r) e h = nxtO (b e1 h) (forL g st b r) := by
  rw [forL, if_pos q]
  simp only [q1]
  cases b e1 h <;> rfl
theorem forL_nil {g : Option (Nat × List D)} {st : D → En → Option En} {b : Ms} (q : Still g h) : forL g st b [] e h = .nx e h := by
  rw [forL, if_pos q]
theorem still_none : Still none h := trivial
@[simp] theorem v_comp {it : MI} {own : List Nat} {st : D → En → Option En} {cond elt : M} : mComp it own st cond elt e h = (it e h).bind fun p h1 => if p.1.length ≤ sizeLine then (compL p.2 st cond elt (wipeD e own) p.1 h1).bind fun ds h2 => .ok (.ref h2.length) (h2 ++ [.lst ds]) else .err := rfl
theorem compL_map {g : Option (Nat × List D)} {st : D → En → Option En} {cond elt : M} {e0 : En} (f : D → D) (q : Still g h) : ∀ xs : List D, (∀ x ∈ xs, ∃ e, st x e0 = some e ∧ cond e h = .ok (.bl true) h ∧ elt e h = .ok (f x) h) → compL g st cond elt e0 xs h = .ok (xs.map f) h
  | [], _ => by rw [compL, if_pos q]; rfl
  | x :: r, a => by
    obtain ⟨e, h1, h2, h3⟩ := a x List.mem_cons_self
    rw [compL, if_pos q]
    simp only [h1, h2, h3]
    rw [compL_map f q r fun y hy => a y (List.mem_cons_of_mem _ hy)]
    rfl
theorem compL_one {g : Option (Nat × List D)} {st : D → En → Option En} {elt : M} {e0 e1 : En} {x y : D} {r : List D} {h2 : DH} (q : Still g h) (a : st x e0 = some e1) (c : elt e1 h = .ok y h2) : compL g st mTrue elt e0 (x :: r) h = (compL g st mTrue elt e0 r h2).bind fun ds h3 => .ok (y :: ds) h3 := by
  rw [compL, if_pos q]
  have t : mTrue e1 h = .ok (.bl true) h := rfl
  simp only [a, t, c]
theorem compL_end {g : Option (Nat × List D)} {st : D → En → Option En} {elt : M} {e0 : En} (q : Still g h) : compL g st mTrue elt e0 [] h = .ok [] h := by
  rw [compL, if_pos q]
theorem compL_filt {g : Option (Nat × List D)} {st : D → En → Option En} {cond elt : M} {e0 : En} (p : D → Bool) (f : D → D) (q : Still g h) : ∀ xs : List D, (∀ x ∈ xs, ∃ e, st x e0 = some e ∧ cond e h = .ok (.bl (p x)) h ∧ (p x = true → elt e h = .ok (f x) h)) → compL g st cond elt e0 xs h = .ok ((xs.filter p).map f) h
  | [], _ => by rw [compL, if_pos q]; rfl
  | x :: r, a => by
    obtain ⟨e, h1, h2, h3⟩ := a x List.mem_cons_self
    rw [compL, if_pos q]
    have ih := compL_filt p f q r fun y hy => a y (List.mem_cons_of_mem _ hy)
    cases hp : p x with
    | true =>
      rw [hp] at h2
      simp only [h1, h2, h3 hp]
      rw [ih, List.filter_cons, if_pos hp]
      rfl
    | false =>
      rw [hp] at h2
      simp only [h1, h2]
      rw [ih, List.filter_cons, if_neg (by rw [hp]; simp)]
@[simp] theorem it_str {x : Tx} : itOf (.str x) h = .ok (x.map fun c => .str [c], none) h := rfl
@[simp] theorem it_tup {x : List D} : itOf (.tup x) h = .ok (x, none) h := rfl
@[simp] theorem it_frl {x : List D} : itOf (.frl x) h = .ok (x, none) h := rfl
theorem it_ref {x : List D} {i : Nat} (q : h[i]? = some (.lst x)) : itOf (.ref i) h = .ok (x, some (i, x)) h := by
  simp only [itOf, q]
theorem i_r1 {a : M} : miR1 a e h = (a e h).bind fun x h1 => match x with
  | .int j => if -(2 ^ 62) ≤ j ∧ j < 2 ^ 62 then .ok (rangeD 0 j.toNat, none) h1 else .err
  | _ => .err := rfl
theorem append_ok {i : Nat} {xs : List D} (q : h[i]? = some (.lst xs)) (l : xs.length < sizeLine) : dBm .append (.ref i) [d] h = .ok .non (h.set i (.lst (xs ++ [d]))) := by
  show dAppend (.ref i) [d] h = _
  simp only [dAppend, q]
  rw [if_pos l]
theorem okTo_app {i : Nat} {xs : List D} (q : h[i]? = some (.lst xs)) : okTo .append (.ref i) h = true := by
  simp only [okTo, q]
@[simp] theorem okTo_join {x : Tx} : okTo .join (.str x) h = true := rfl
@[simp] theorem okTo_find {x : Tx} : okTo .find (.str x) h = true := rfl
@[simp] theorem okTo_split {x : Tx} : okTo .split (.str x) h = true := rfl
@[simp] theorem find_2 {x y : Tx} {i : Int} : dBm .find (.str x) [.str y, .int i] h = .ok (.int (Txt.find3 ⟨x.toArray⟩ ⟨y.toArray⟩ i)) h := rfl
@[simp] theorem find_1 {x y : Tx} : dBm .find (.str x) [.str y] h = .ok (.int (Txt.find ⟨x.toArray⟩ ⟨y.toArray⟩)) h := rfl
theorem isi_lst {i : Nat} {xs : List D} (q : h[i]? = some (.lst xs)) : dIsi (.ref i) .list h = some true := by
  simp only [dIsi, q]
@[simp] theorem isi_str_bool {x : Tx} : dIsi (.str x) .bool h = some false := rfl
@[simp] theorem isi_int_bool {x : Int} : dIsi (.int x) .bool h = some false := rfl
end
/-! ### lists, read without a premise -/
def refL {α : Type} (o : Option O) (f : List D → Rs α) : Rs α := match o with
  | some (.lst xs) => f xs
  | _ => .err
def refP {α : Type} (o : Option O) (f : List D → Option α) : Option α := match o with
  | some (.lst xs) => f xs
  | _ => none
section
variable {h : DH} {i : Int} {k : Nat} {x : Tx} {d : D}
@[simp] theorem refL_ok {α : Type} {xs : List D} {f : List D → Rs α} : refL (some (.lst xs)) f = f xs := rfl
@[simp] theorem refP_ok {α : Type} {xs : List D} {f : List D → Option α} : refP (some (.lst xs)) f = f xs := rfl
def refI (o : Option O) (y : D) (h : DH) : Res := match o with
  | some (.lst xs) => match y with
    | .int i => optD (atI xs i) h
    | _ => .err
  | some o => match dGetO o y with
    | some (some d) => .ok d h
    | _ => .err
  | _ => .err
theorem idx_refU {y : D} : dIdx (.ref k) y h = refI h[k]? y h := rfl
@[simp] theorem refI_lst {xs : List D} : refI (some (.lst xs)) (.int i) h = optD (atI xs i) h := rfl
@[simp] theorem refI_str {kvs : List (D × D)} : refI (some (.dic kvs)) (.str x) h = optD (dLk kvs (.str x)) h := by
  show (match some (dLk kvs (.str x)) with | some (some d) => Rs.ok d h | _ => Rs.err) = _
  cases dLk kvs (.str x) <;> rfl
@[simp] theorem refI_int {kvs : List (D × D)} : refI (some (.dic kvs)) (.int i) h = optD (dLk kvs (.int i)) h := by
  show (match some (dLk kvs (.int i)) with | some (some d) => Rs.ok d h | _ => Rs.err) = _
  cases dLk kvs (.int i) <;> rfl
/-- a dict's object whose keys are tuples, empty or not -/
def dcT : List (D × D) → O
  | [] => .dic []
  | q :: kvs => .dct (q :: kvs)
theorem dcT_get {kvs : List (D × D)} {ks : List D} (t : D.tk (.tup ks) = true) : dGetO (dcT kvs) (.tup ks) = some (dLk kvs (.tup ks)) := by
  cases kvs with
  | nil => simp only [dcT, dGetO, if_pos t]; rfl
  | cons q kvs => simp only [dcT, dGetO, if_pos t]
theorem dcT_put {kvs : List (D × D)} {ks : List D} {v : D} (t : D.tk (.tup ks) = true) (l : kvs.length < sizeLine) : dPutO (dcT kvs) (.tup ks) v = some (dcT (dPut kvs (.tup ks) v)) := by
  cases kvs with
  | nil => simp only [dcT, dPutO, if_pos t]; rfl
  | cons q kvs =>
    have z : (D.tk (.tup ks) && decide ((q :: kvs).length < sizeLine)) = true := by rw [t, decide_eq_true l]; rfl
    simp only [dcT, dPutO]
    rw [if_pos z]
    unfold dPut
    split <;> rfl
theorem len_refU : dBi .len [.ref k] h = refL h[k]? fun xs => .ok (.int xs.length) h := by
  show dLen [.ref k] h = _
  cases q : h[k]? with
  | none => simp only [dLen, refL, q]
  | some o => cases o <;> simp only [dLen, refL, q]
def ofB (o : Option Bool) (h : DH) : Res := match o with
  | some b => .ok (.bl b) h
  | none => .err
@[simp] theorem ofB_ok {b : Bool} : ofB (some b) h = .ok (.bl b) h := rfl
theorem any_refU : dBi .any [.ref k] h = refL h[k]? fun xs => ofB ((bolsOf xs).map (·.any id)) h := by
  show dAny [.ref k] h = _
  cases q : h[k]? with
  | none => simp only [dAny, refL, q]
  | some o =>
    cases o with
    | lst xs => cases q2 : bolsOf xs <;> simp only [dAny, refL, q, q2, Option.map_some, Option.map_none, ofB]
    | _ => simp only [dAny, refL, q]
theorem all_refU : dBi .all [.ref k] h = refL h[k]? fun xs => ofB ((bolsOf xs).map (·.all id)) h := by
  show dAll [.ref k] h = _
  cases q : h[k]? with
  | none => simp only [dAll, refL, q]
  | some o =>
    cases o with
    | lst xs => cases q2 : bolsOf xs <;> simp only [dAll, refL, q, q2, Option.map_some, Option.map_none, ofB]
    | _ => simp only [dAll, refL, q]
def refQ (o : Option O) (x : Tx) : Option Bool := match o with
  | some (.lst ys) => (strsOf ys).map fun zs => decide (x ∈ zs)
  | some o => (dGetO o (.str x)).map Option.isSome
  | _ => none
@[simp] theorem refQ_lst {ys : List D} : refQ (some (.lst ys)) x = (strsOf ys).map fun zs => decide (x ∈ zs) := rfl
@[simp] theorem refQ_dic {kvs : List (D × D)} : refQ (some (.dic kvs)) x = some (dLk kvs (.str x)).isSome := rfl
theorem in_refU : dCmp .In (.str x) (.ref k) h = refQ h[k]? x := by
  show dIn (.str x) (.ref k) h = _
  cases x with
  | nil => rfl
  | cons c r => cases r <;> rfl
theorem in_tupU {ds : List D} : dCmp .In (.str x) (.tup ds) h = (strsOf ds).map fun zs => decide (x ∈ zs) := by
  show dIn (.str x) (.tup ds) h = _
  cases x with
  | nil => rfl
  | cons c r => cases r <;> rfl
def isLst : Option O → Bool
  | some (.lst _) => true
  | _ => false
@[simp] theorem isLst_ok {xs : List D} : isLst (some (.lst xs)) = true := rfl
theorem okTo_appU : okTo .append (.ref k) h = isLst h[k]? := by
  cases q : h[k]? with
  | none => simp only [okTo, isLst, q]
  | some o => cases o <;> simp only [okTo, isLst, q]
theorem append_U : dBm .append (.ref k) [d] h = refL h[k]? fun xs => if xs.length < sizeLine then .ok .non (h.set k (.lst (xs ++ [d]))) else .err := by
  show dAppend (.ref k) [d] h = _
  cases q : h[k]? with
  | none => simp only [dAppend, refL, q]
  | some o => cases o <;> simp only [dAppend, refL, q]
theorem it_refU : itOf (.ref k) h = refL h[k]? fun xs => .ok (xs, some (k, xs)) h := by
  cases q : h[k]? with
  | none => simp only [itOf, refL, q]
  | some o => cases o <;> simp only [itOf, refL, q]
def joinR (s : Tx) (o : Option (List Tx)) (h : DH) : Res := match o with
  | some ys => if (ys.map (fun y => y.length)).sum + ys.length * s.length ≤ 16777216 then .ok (.str (TL.joinL s ys)) h else .err
  | none => .err
theorem join_refU {s : Tx} : dBm .join (.str s) [.ref k] h = refL h[k]? fun xs => joinR s (strsOf xs) h := by
  show dJoin (.str s) [.ref k] h = _
  cases q : h[k]? with
  | none => simp only [dJoin, refL, q]
  | some o =>
    cases o with
    | lst xs => cases q2 : strsOf xs <;> simp only [dJoin, refL, joinR, q, q2]
    | _ => simp only [dJoin, refL, q]
theorem add_refU {k2 : Nat} : dBin .Add (.ref k) (.ref k2) h = refL h[k]? fun xs => refL h[k2]? fun ys => if xs.length + ys.length ≤ sizeLine then .ok (.ref h.length) (h ++ [.lst (xs ++ ys)]) else .err := by
  show dAdd (.ref k) (.ref k2) h = _
  cases q : h[k]? with
  | none => simp only [dAdd, refL, q]
  | some o =>
    cases o with
    | lst xs =>
      cases q2 : h[k2]? with
      | none => simp only [dAdd, refL, q, q2]
      | some o2 => cases o2 <;> simp only [dAdd, refL, q, q2]
    | _ => simp only [dAdd, refL, q]
theorem isi_refU : dIsi (.ref k) .list h = refP h[k]? fun _ => some true := by
  cases q : h[k]? with
  | none => simp only [dIsi, refP, q]
  | some o => cases o <;> simp only [dIsi, refP, q]
end
theorem cast_62 {z : Nat} (hz : z ≤ 1000000) : ((z : Int) < 2 ^ 62) ∧ -(2 ^ 62) < (z : Int) :=
  ⟨Int.lt_of_le_of_lt (Int.ofNat_le.mpr hz) (by decide), Int.lt_of_lt_of_le (by decide) (Int.natCast_nonneg z)⟩
theorem mul_chr {z c : Nat} {h : DH} (hz : z ≤ 1000000) : dBin .Mult (.str [c]) (.int (z : Int)) h = .ok (.str (List.replicate z c)) h := by
  have hs : ([c] : Tx).length * ((z : Int)).toNat ≤ sizeLine := by
    rw [Int.toNat_natCast, List.length_singleton, Nat.one_mul]
    rw [sizeLine_eq]
    exact Nat.le_trans hz (by decide)
  rw [mul_str ⟨(cast_62 hz).1, (cast_62 hz).2, hs⟩]
  congr 2
  rw [Int.toNat_natCast]
  clear hz hs
  induction z with
  | zero => rfl
  | succ z ih => rw [List.replicate_succ, List.flatten_cons, ih, List.replicate_succ]; rfl
theorem get_app {α : Type} {h l : List α} {i : Nat} : (h ++ l)[h.length + i]? = l[i]? := by
  rw [List.getElem?_append_right (Nat.le_add_right _ _), Nat.add_sub_cancel_left]
theorem get_app0 {α : Type} {h l : List α} : (h ++ l)[h.length]? = l[0]? := get_app (i := 0)
theorem pick {α : Type} {xs : List α} {i : Int} (h0 : 0 ≤ i) (h1 : i < xs.length) : ∃ d ∈ xs, atI xs i = some d := by
  obtain ⟨k, rfl⟩ := Int.eq_ofNat_of_zero_le h0
  have hk : k < xs.length := by omega
  exact ⟨xs[k], List.getElem_mem hk, by rw [atI_nat xs k hk, List.getElem?_eq_getElem hk]⟩
theorem pickI {vs : List Int} {i : Int} (h0 : 0 ≤ i) (h1 : i < vs.length) : ∃ v ∈ vs, atI (vs.map D.int) i = some (.int v) := by
  obtain ⟨d, hd, e⟩ := pick (xs := vs.map D.int) h0 (by rw [List.length_map]; exact h1)
  obtain ⟨v, hv, rfl⟩ := List.mem_map.mp hd
  exact ⟨v, hv, e⟩
theorem pickS {vs : List Tx} {i : Int} (h0 : 0 ≤ i) (h1 : i < vs.length) : ∃ v ∈ vs, atI (vs.map D.str) i = some (.str v) := by
  obtain ⟨d, hd, e⟩ := pick (xs := vs.map D.str) h0 (by rw [List.length_map]; exact h1)
  obtain ⟨v, hv, rfl⟩ := List.mem_map.mp hd
  exact ⟨v, hv, e⟩
def rngR (x : D) (h : DH) : ItR := match x with
  | .int j => if -(2 ^ 62) ≤ j ∧ j < 2 ^ 62 then .ok (rangeD 0 j.toNat, none) h else .err
  | _ => .err
@[simp] theorem v_rng {a : M} {e : En} {h : DH} : miR1 a e h = (a e h).bind fun x h1 => rngR x h1 := rfl
theorem rngR_ok {j : Int} {h : DH} (q : -(2 ^ 62) ≤ j ∧ j < 2 ^ 62) : rngR (.int j) h = .ok (rangeD 0 j.toNat, none) h := if_pos q
theorem rng_U {e : En} {h : DH} {a : M} {j : Int} {h1 : DH} (q : a e h = .ok (.int j) h1) (q2 : -(2 ^ 62) ≤ j ∧ j < 2 ^ 62) : miR1 a e h = .ok (rangeD 0 j.toNat, none) h1 := by
  rw [i_r1, q]
  exact if_pos q2
theorem size_le {n : Nat} (h : n ≤ 16777216) : n ≤ sizeLine := by rw [sizeLine_eq]; exact Nat.le_trans h (by decide)
theorem le_size {n : Nat} (h : n ≤ 16777216) : (n ≤ sizeLine) = True := eq_true (size_le h)
/-! ### turns that make new things -/
theorem Still.app {g : Option (Nat × List D)} {h k : DH} (s : Still g h) : Still g (h ++ k) := by
  cases g with
  | none => exact trivial
  | some p =>
    obtain ⟨i, xs⟩ := p
    have s : h[i]? = some (.lst xs) := s
    show (h ++ k)[i]? = some (.lst xs)
    rw [List.getElem?_append_left (List.getElem?_eq_some_iff.mp s).1]
    exact s
theorem compL_grow {g : Option (Nat × List D)} {st : D → En → Option En} {elt : M} {e0 : En} (R : D → D → Prop) : ∀ (xs : List D) (h : DH), Still g h → (∀ x ∈ xs, ∃ e, st x e0 = some e ∧ ∀ k : DH, ∃ d k2, elt e (h ++ k) = .ok d (h ++ k2) ∧ R x d) →
    ∃ ds k, compL g st mTrue elt e0 xs h = .ok ds (h ++ k) ∧ Paired R xs ds
  | xs, h, s, a => by
    have main : ∀ (ys : List D), (∀ x ∈ ys, x ∈ xs) → ∀ k : DH, ∃ ds k2, compL g st mTrue elt e0 ys (h ++ k) = .ok ds (h ++ k2) ∧ Paired R ys ds := by
      intro ys
      induction ys with
      | nil =>
        intro _ k
        exact ⟨[], k, by rw [compL, if_pos s.app], .nil⟩
      | cons x r ih =>
        intro hm k
        obtain ⟨e, h1, h2⟩ := a x (hm x List.mem_cons_self)
        obtain ⟨d, k2, h3, h4⟩ := h2 k
        obtain ⟨ds, k3, h5, h6⟩ := ih (fun y hy => hm y (List.mem_cons_of_mem _ hy)) k2
        refine ⟨d :: ds, k3, ?_, .cons h4 h6⟩
        rw [compL, if_pos s.app]
        have ht : mTrue e (h ++ k) = .ok (.bl true) (h ++ k) := rfl
        simp only [h1, ht, h3]
        rw [h5]
        rfl
    have z := main xs (fun _ hx => hx) []
    rw [List.append_nil] at z
    exact z
/-! ### module dicts, enumerate, and more -/
def kinR (kvs : List (Tx × D)) (x : D) (h : DH) : Res := match x with
  | .str z => .ok (.bl (kvs.lookup z).isSome) h
  | _ => .err
def kniR (kvs : List (Tx × D)) (x : D) (h : DH) : Res := match x with
  | .str z => .ok (.bl (!(kvs.lookup z).isSome)) h
  | _ => .err
def kidR (kvs : List (Tx × D)) (x : D) (h : DH) : Res := match x with
  | .str z => optD (kvs.lookup z) h
  | _ => .err
def enR (x : D) (h : DH) : ItR := match x with
  | .tup xs => .ok (enumD 0 xs, none) h
  | .ref i => match h[i]? with
    | some (.lst xs) => .ok (enumD 0 xs, some (i, xs)) h
    | _ => .err
  | _ => .err
section
variable {kvs : List (Tx × D)} {a : M} {e : En} {h : DH} {z : Tx} {x : D} {xs : List D} {i j : Int} {k : Nat} {b : Bool} {lo hi : Option Int}
@[simp] theorem v_kin : mKIn kvs a e h = (a e h).bind fun x h1 => kinR kvs x h1 := rfl
@[simp] theorem v_kni : mKNi kvs a e h = (a e h).bind fun x h1 => kniR kvs x h1 := rfl
@[simp] theorem v_kid : mKIdx kvs a e h = (a e h).bind fun x h1 => kidR kvs x h1 := rfl
@[simp] theorem kinR_ok : kinR kvs (.str z) h = .ok (.bl (kvs.lookup z).isSome) h := rfl
@[simp] theorem kniR_ok : kniR kvs (.str z) h = .ok (.bl (!(kvs.lookup z).isSome)) h := rfl
@[simp] theorem kidR_ok : kidR kvs (.str z) h = optD (kvs.lookup z) h := rfl
@[simp] theorem v_en : miEn a e h = (a e h).bind fun x h1 => enR x h1 := rfl
@[simp] theorem enR_tup : enR (.tup xs) h = .ok (enumD 0 xs, none) h := rfl
theorem en_refU : enR (.ref k) h = refL h[k]? fun xs => .ok (enumD 0 xs, some (k, xs)) h := by
  cases q : h[k]? with
  | none => simp only [enR, refL, q]
  | some o => cases o <;> simp only [enR, refL, q]
theorem mul_refU : dBin .Mult (.ref k) (.int j) h = refL h[k]? fun xs => if j < 2 ^ 62 ∧ -(2 ^ 62) < j ∧ xs.length * j.toNat ≤ sizeLine then .ok (.ref h.length) (h ++ [.lst (List.replicate j.toNat xs).flatten]) else .err := by
  show dMul (.ref k) (.int j) h = _
  cases q : h[k]? with
  | none => simp only [dMul, refL, q]
  | some o => cases o <;> simp only [dMul, refL, q]
@[simp] theorem tupF_tup : dBi .tup [.tup xs] h = .ok (.tup xs) h := rfl
theorem tupF_refU : dBi .tup [.ref k] h = refL h[k]? fun xs => .ok (.tup xs) h := by
  show dTupF [.ref k] h = _
  cases q : h[k]? with
  | none => simp only [dTupF, refL, q]
  | some o => cases o <;> simp only [dTupF, refL, q]
theorem slc_refU : dSlc (.ref k) lo hi h = refL h[k]? fun xs => .ok (.ref h.length) (h ++ [.lst (cutG xs lo hi)]) := by
  cases q : h[k]? with
  | none => simp only [dSlc, refL, q]
  | some o => cases o <;> simp only [dSlc, refL, q]
@[simp] theorem slc_tup : dSlc (.tup xs) lo hi h = .ok (.tup (cutG xs lo hi)) h := rfl
@[simp] theorem is_non : dCmp .Is x .non h = some (isNon x) := rfl
@[simp] theorem isnot_non : dCmp .IsNot x .non h = some (!isNon x) := rfl
@[simp] theorem isNon_non : isNon .non = true := rfl
@[simp] theorem isNon_str : isNon (.str z) = false := rfl
@[simp] theorem isNon_tup : isNon (.tup xs) = false := rfl
@[simp] theorem isNon_int : isNon (.int i) = false := rfl
@[simp] theorem isi_tup : dIsi (.tup xs) .tuple h = some true := rfl
@[simp] theorem isi_tup_s : dIsi (.tup xs) .str h = some false := rfl
@[simp] theorem isi_str : dIsi (.str z) .str h = some true := rfl
@[simp] theorem isi_str_i : dIsi (.str z) .int h = some false := rfl
@[simp] theorem isi_str_t : dIsi (.str z) .tuple h = some false := rfl
@[simp] theorem isi_int : dIsi (.int i) .int h = some true := rfl
@[simp] theorem isi_int_s : dIsi (.int i) .str h = some false := rfl
@[simp] theorem in_ints : dCmp .In (.int i) (.tup xs) h = orI ((intsOf xs).map fun zs => decide (i ∈ zs)) (strsOf xs) := rfl
@[simp] theorem orI_some {o : Option (List Tx)} : orI (some b) o = some b := rfl
@[simp] theorem orI_none {l : List Tx} : orI none (some l) = some false := rfl
end
section
variable {e : En} {h : DH} {a o i : M} {y : D} {xs : List D} {k : Int} {p j : Nat} {x : Tx}
@[simp] theorem s_itm : sItm o i a e h = (a e h).bindO e fun y h1 => (o e h1).bindO e fun x h2 => (i e h2).bindO e fun z h3 => itmR x z y e h3 := rfl
theorem itm_dic {kvs : List (D × D)} {x : Tx} (q : h[p]? = some (.dic kvs)) (l : kvs.length < sizeLine) : itmR (.ref p) (.str x) y e h = .nx e (h.set p (.dic (dPut kvs (.str x) y))) := by
  simp only [itmR, q, dPutO, if_pos l]
theorem itm_dct {kvs : List (D × D)} {ks : List D} (q : h[p]? = some (dcT kvs)) (t : D.tk (.tup ks) = true) (l : kvs.length < sizeLine) : itmR (.ref p) (.tup ks) y e h = .nx e (h.set p (dcT (dPut kvs (.tup ks) y))) := by
  have z := dcT_put (v := y) t l
  cases kvs with
  | nil =>
    unfold itmR
    dsimp only
    rw [q]
    show (match dPutO (dcT []) (.tup ks) y with | some o' => Out.nx e (h.set p o') | none => Out.err) = _
    rw [z]
  | cons c kvs =>
    unfold itmR
    dsimp only
    rw [q]
    show (match dPutO (dcT (c :: kvs)) (.tup ks) y with | some o' => Out.nx e (h.set p o') | none => Out.err) = _
    rw [z]
theorem itm_ok (q : h[p]? = some (.lst xs)) (r : ixN xs.length k = some j) : itmR (.ref p) (.int k) y e h = .nx e (h.set p (.lst (xs.set j y))) := by
  simp only [itmR, q, r]
@[simp] theorem s_unl {is : List Nat} : sUnl is a e h = (a e h).bindO e fun x h1 => unlR is x e h1 := rfl
theorem unl_ok {is : List Nat} {e1 : En} (q : h[p]? = some (.lst xs)) (r : stNames is xs e = some e1) : unlR is (.ref p) e h = .nx e1 h := by
  simp only [unlR, q, r]
@[simp] theorem v_dlg {ks : List Tx} {ms : List M} {b : M} : mDlG ks ms a b e h = (evL ms e h).bind fun ds h1 => (a e h1).bind fun x h2 => (b e h2).bind fun d h3 => dlgR ks ds x d h3 := rfl
@[simp] theorem v_dli {ks : List Tx} {ms : List M} : mDlI ks ms a e h = (evL ms e h).bind fun ds h1 => (a e h1).bind fun x h2 => dliR ks ds x h2 := rfl
@[simp] theorem dlgR_ok {ks : List Tx} {ds : List D} {d : D} : dlgR ks ds (.str x) d h = .ok ((dLook (ks.zip ds) x).getD d) h := rfl
@[simp] theorem dliR_ok {ks : List Tx} {ds : List D} : dliR ks ds (.str x) h = optD (dLook (ks.zip ds) x) h := rfl
@[simp] theorem v_repl {c y z : Tx} : mRepl c y z a e h = (a e h).bind fun x h1 => replR c y z x h1 := rfl
theorem replR_ok {c y z : Tx} (q : x.length + (x.length + 1) * z.length ≤ 16777216 ∧ c.length + (repT x y z).length ≤ sizeLine) : replR c y z (.str x) h = .ok (.str (c ++ repT x y z)) h := if_pos q
@[simp] theorem str_str : dBi .str [.str x] h = .ok (.str x) h := rfl
end
/-! ### dicts that stand -/
section
variable {e : En} {h : DH} {a b c o k : M} {x y z d : D} {i : Nat} {kvs : List (D × D)} {ks ps : List D} {w : Tx} {r : Res} {xs ys : List D}
@[simp] theorem v_dnew : mDNew e h = .ok (.ref h.length) (h ++ [.dic []]) := rfl
@[simp] theorem v_dsp {ts : List Tx} {ms : List M} : mDsp ts ms e h = (evL ms e h).bind fun ds h1 => .ok (.ref h1.length) (h1 ++ [.dic (dPuts [] ((ts.zip ds).map fun q => (.str q.1, q.2)))]) := rfl
def isDO : Option O → Bool
  | some (.dic _) => true
  | some (.dct _) => true
  | _ => false
@[simp] theorem isDic_ref : isDic (.ref i) h = isDO h[i]? := by
  cases q : h[i]? with
  | none => simp only [isDic, isDO, q]
  | some o => cases o <;> simp only [isDic, isDO, q]
@[simp] theorem isDO_dic : isDO (some (.dic kvs)) = true := rfl
@[simp] theorem isDO_dcT : isDO (some (dcT kvs)) = true := by cases kvs <;> rfl
def gtO (o : Option O) (y z : D) (h : DH) : Res := match o with
  | some o => match dGetO o y with
    | some (some d) => .ok d h
    | some none => .ok z h
    | none => .err
  | none => .err
@[simp] theorem getR_ref : getR (.ref i) y z h = gtO h[i]? y z h := rfl
@[simp] theorem gtO_str : gtO (some (.dic kvs)) (.str w) z h = .ok ((dLk kvs (.str w)).getD z) h := by
  show (match some (dLk kvs (.str w)) with | some (some d) => Rs.ok d h | some none => Rs.ok z h | none => Rs.err) = _
  cases dLk kvs (.str w) <;> rfl
@[simp] theorem gtO_int {j : Int} : gtO (some (.dic kvs)) (.int j) z h = .ok ((dLk kvs (.int j)).getD z) h := by
  show (match some (dLk kvs (.int j)) with | some (some d) => Rs.ok d h | some none => Rs.ok z h | none => Rs.err) = _
  cases dLk kvs (.int j) <;> rfl
theorem gtO_dcT (t : D.tk (.tup ks) = true) : gtO (some (dcT kvs)) (.tup ks) z h = .ok ((dLk kvs (.tup ks)).getD z) h := by
  show (match dGetO (dcT kvs) (.tup ks) with | some (some d) => Rs.ok d h | some none => Rs.ok z h | none => Rs.err) = _
  rw [dcT_get t]
  cases dLk kvs (.tup ks) <;> rfl
@[simp] theorem v_get1 : mGet1 o k e h = (o e h).bind fun x h1 => if isDic x h1 then (k e h1).bind fun y h2 => getR x y .non h2 else .err := rfl
@[simp] theorem v_get2 : mGet2 o k a e h = (o e h).bind fun x h1 => if isDic x h1 then (k e h1).bind fun y h2 => (a e h2).bind fun z h3 => getR x y z h3 else .err := rfl
def zpR (x y : D) (h : DH) : ItR := match x, y with
  | .tup xs, .tup ys => .ok (pairs xs ys, none) h
  | _, _ => .err
@[simp] theorem v_zp : miZp a b e h = (a e h).bind fun x h1 => (b e h1).bind fun y h2 => zpR x y h2 := rfl
@[simp] theorem zpR_ok : zpR (.tup xs) (.tup ys) h = .ok (pairs xs ys, none) h := rfl
end
/-! ### typed pairs -/
section
variable {κ ν : Type} [DecidableEq κ]
def aLk (l : List (κ × ν)) (k : κ) : Option ν := (l.find? fun p => decide (p.1 = k)).map (·.2)
def aPut (l : List (κ × ν)) (k : κ) (v : ν) : List (κ × ν) := if (aLk l k).isSome then l.map fun p => if p.1 = k then (p.1, v) else p else l ++ [(k, v)]
def enc (ke : κ → D) (ve : ν → D) (l : List (κ × ν)) : List (D × D) := l.map fun p => (ke p.1, ve p.2)
theorem enc_lk {ke : κ → D} {ve : ν → D} (hk : ∀ a b, D.keq (ke a) (ke b) = decide (a = b)) (l : List (κ × ν)) (k : κ) : dLk (enc ke ve l) (ke k) = (aLk l k).map ve := by
  induction l with
  | nil => rfl
  | cons p l ih =>
    have e : enc ke ve (p :: l) = (ke p.1, ve p.2) :: enc ke ve l := rfl
    rw [e, dLk_cons, hk, ih]
    unfold aLk
    rw [List.find?_cons]
    cases decide (p.1 = k) <;> rfl
theorem enc_put {ke : κ → D} {ve : ν → D} (hk : ∀ a b, D.keq (ke a) (ke b) = decide (a = b)) (l : List (κ × ν)) (k : κ) (v : ν) : dPut (enc ke ve l) (ke k) (ve v) = enc ke ve (aPut l k v) := by
  unfold dPut aPut
  rw [enc_lk hk, Option.isSome_map]
  by_cases q : (aLk l k).isSome = true
  · rw [if_pos q, if_pos q]
    unfold enc
    rw [List.map_map, List.map_map]
    apply List.map_congr_left
    intro p _
    dsimp only [Function.comp]
    rw [hk]
    by_cases z : p.1 = k
    · rw [decide_eq_true z, if_pos rfl, if_pos z]
    · rw [decide_eq_false z, if_neg (by decide), if_neg z]
  · rw [if_neg q, if_neg q]
    unfold enc
    rw [List.map_append]
    rfl
theorem enc_len {ke : κ → D} {ve : ν → D} (l : List (κ × ν)) : (enc ke ve l).length = l.length := by unfold enc; rw [List.length_map]
theorem aPut_len (l : List (κ × ν)) (k : κ) (v : ν) : (aPut l k v).length ≤ l.length + 1 := by
  unfold aPut
  split
  · simp
  · simp
theorem aPut_mem {l : List (κ × ν)} {k : κ} {v : ν} {p : κ × ν} (h : p ∈ aPut l k v) : p ∈ l ∨ p.2 = v := by
  unfold aPut at h
  split at h
  · obtain ⟨q, hq, rfl⟩ := List.mem_map.mp h
    split
    · exact .inr rfl
    · exact .inl hq
  · rcases List.mem_append.mp h with h | h
    · exact .inl h
    · rw [List.mem_singleton] at h; rw [h]; exact .inr rfl
theorem aLk_mem {l : List (κ × ν)} {k : κ} {v : ν} (h : aLk l k = some v) : ∃ p ∈ l, p.2 = v := by
  unfold aLk at h
  simp only [Option.map_eq_some_iff] at h
  obtain ⟨p, hp, rfl⟩ := h
  exact ⟨p, List.mem_of_find?_eq_some hp, rfl⟩
end
theorem keq_str (a b : Tx) : D.keq (.str a) (.str b) = decide (a = b) := rfl
theorem keqs_ints : ∀ a b : List Int, D.keqs (a.map D.int) (b.map D.int) = decide (a = b)
  | [], [] => rfl
  | [], _ :: _ => rfl
  | _ :: _, [] => rfl
  | x :: a, y :: b => by
    show (decide (x = y) && D.keqs (a.map D.int) (b.map D.int)) = _
    rw [keqs_ints a b]
    by_cases h1 : x = y
    · by_cases h2 : a = b <;> simp [h1, h2]
    · simp [h1]
theorem nks_ints : ∀ a : List Int, D.nks (a.map D.int) = some (a.map NestedKey.num)
  | [] => rfl
  | x :: a => by
    rw [List.map_cons, D.nks, nks_ints a]
    rfl
theorem dep_ints : ∀ a : List Int, NestedKey.depthAll (a.map NestedKey.num) = 0
  | [] => rfl
  | x :: a => by
    rw [List.map_cons, NestedKey.depthAll, dep_ints a]
    rfl
end Mp

namespace K30
open PySem PySem.Spec PyProof.Rows L2 Mp
def top (i : Nat) : Stmt := PySem.Challenge.pw_rowspeak_k30_stores.main.body.getD i (.Pass ⟨0, 0, 0, 0⟩)
def c_MOST_BOUND : D := (.int 99)
def c_USUAL_BOUND : D := (.int 10)
def tld : List (Nat × Nat) := [(2, 0), (3, 1), (4, 2), (5, 3), (6, 4), (1, 5)]
abbrev tldf : Nat → Option Nat := fun c => tld.lookup c
def foo : List (Nat × Nat) := [(0, 0), (0, 1), (0, 2)]
def gam0 : Gam where
  N := []
  cst := ([(("MOST_BOUND" : Str), c_MOST_BOUND), (("USUAL_BOUND" : Str), c_USUAL_BOUND)] : List (Str × D))
  fns := ([(("_law_drawn" : Str), 0), (("_law_cell" : Str), 1), (("_law_barred" : Str), 2), (("_law_names" : Str), 3), (("is_texts" : Str), 5), (("nothing" : Str), 6), (("_law_places" : Str), 8), (("_law_laid" : Str), 9), (("_law_inside" : Str), 10), (("_law_asked" : Str), 11), (("_law_given" : Str), 12), (("need_places" : Str), 13), (("need_kind" : Str), 15), (("_law_deed_right" : Str), 20)] : List (Str × Nat))
  cls := [(("Store" : Str), 0, 4)]
  fld := [(("names" : Str), 0), (("bounds" : Str), 1), (("cells" : Str), 2)]
  mes := [(("get" : Str), [(0, 7)]), (("lay" : Str), [(0, 14)]), (("put" : Str), [(0, 16)]), (("look" : Str), [(0, 17)]), (("cell" : Str), [(0, 18)]), (("put_cell" : Str), [(0, 19)])]
  exs := [(("BadToken" : Str), 2), (("BadTerm" : Str), 3), (("BadDeed" : Str), 4), (("BadRow" : Str), 5), (("BadPicture" : Str), 6)]
  bas := "SpeakError"
  wrd := "_law_word"
  tld := tld
  exw := [(("Fault" : Str), 1)]
  kdc := []
  fo := foo
  fre := [("range" : Str), ("max" : Str), ("min" : Str), ("len" : Str), ("int" : Str), ("enumerate" : Str), ("tuple" : Str), ("all" : Str), ("isinstance" : Str), ("str" : Str), ("zip" : Str)]
  told := ("_law_told" : Str)
  cl := fun _ _ _ => .err
def d0 : He.DefD := ⟨(("_law_drawn" : Str), none), "_law_drawn", "_law_drawn", defArgs (top 18), defBody (top 18), defScope (top 18), [], []⟩
noncomputable def b__law_drawn (cl : CL) : Ms :=
  (sSeq (sSet (stName 2) (mBin .Mod (mBin .Add (mBin .Mult (mVar 0) (mLit (.int 6364136223846793005))) (mBin .Mult (mBin .Add (mVar 1) (mLit (.int 1))) (mLit (.int 1442695040888963407)))) (mLit (.int 340282366920938463463374607431768211507)))) (sSeq (sSet (stName 2) (mBin .Mod (mBin .Mult (mVar 2) (mVar 2)) (mLit (.int 340282366920938463463374607431768211297)))) (sSeq (sSet (stName 2) (mBin .Mult (mBin .Mult (mBin .Add (mBin .Mod (mVar 2) (mLit (.int 18446744073709551557))) (mLit (.int 1))) (mBin .Add (mBin .FloorDiv (mVar 2) (mLit (.int 18446744073709551557))) (mLit (.int 1)))) (mVar 2))) (sSeq (sRet (mBin .Mod (mVar 2) (mLit (.int 340282366920938463463374607431768211507)))) sNext))))
noncomputable def q0 : Def1 := ⟨d0, [("cell" : Str), ("k" : Str), ("more" : Str)], [("cell" : Str), ("k" : Str)], 0, b__law_drawn⟩
theorem o0 : DefOk gam0 q0 := ⟨⟨rfl, rfl, rfl, by decide +kernel, rfl, by decide +kernel, by decide +kernel⟩, fun cl => by kernel_rfl, fun _ _ _ _ _ _ us hl => match us, hl with | [_, _], _ => rfl, rfl, rfl⟩
def d1 : He.DefD := ⟨(("_law_cell" : Str), none), "_law_cell", "_law_cell", defArgs (top 17), defBody (top 17), defScope (top 17), [], []⟩
noncomputable def b__law_cell (cl : CL) : Ms :=
  (sSeq (sIf (mCmp .Eq (mVar 0) (mLst [])) (sSeq (sRet (mBin .Mult (mVar 1) (mLit (.int 7919)))) sNext) sNext) (sSeq (sRet (mBin .Add (mIdx (mVar 0) (mBin .Mod (mVar 1) (mBi .len [(mVar 0)]))) (mBin .Mult (mBin .FloorDiv (mVar 1) (mBi .len [(mVar 0)])) (mLit (.int 104729))))) sNext))
noncomputable def q1 : Def1 := ⟨d1, [("script" : Str), ("k" : Str)], [("script" : Str), ("k" : Str)], 0, b__law_cell⟩
theorem o1 : DefOk gam0 q1 := ⟨⟨rfl, rfl, rfl, by decide +kernel, rfl, by decide +kernel, by decide +kernel⟩, fun cl => by kernel_rfl, fun _ _ _ _ _ _ us hl => match us, hl with | [_, _], _ => rfl, rfl, rfl⟩
def d2 : He.DefD := ⟨(("_law_barred" : Str), none), "_law_barred", "_law_barred", defArgs (top 21), defBody (top 21), defScope (top 21), [], []⟩
noncomputable def b__law_barred (cl : CL) : Ms :=
  (sSeq (sSet (stName 0) (mLit (.str [76, 69, 84, 32, 80, 82, 73, 78, 84, 32, 73, 78, 80, 85, 84, 32, 73, 70, 32, 84, 72, 69, 78, 32, 69, 76, 83, 69, 32, 71, 79, 84, 79, 32, 71, 79, 83, 85, 66, 32, 82, 69, 84, 85, 82, 78, 32, 70, 79, 82, 32, 84, 79, 32, 83, 84, 69, 80, 32, 78, 69, 88, 84, 32, 79, 78, 32, 68, 73, 77, 32, 68, 65, 84, 65, 32, 82, 69, 65, 68, 32, 82, 69, 83, 84, 79, 82, 69, 32, 82, 69, 77, 32, 69, 78, 68, 32, 83, 84, 79, 80]))) (sSeq (sSet (stName 0) (mBin .Add (mVar 0) (mLit (.str [32, 65, 78, 68, 32, 79, 82, 32, 78, 79, 84, 32, 68, 73, 86, 32, 77, 79, 68, 32, 65, 66, 83, 32, 83, 71, 78, 32, 76, 69, 78, 32, 86, 65, 76, 32, 70, 73, 78, 68, 32, 83, 84, 82, 36, 32, 76, 69, 70, 84, 36, 32, 82, 73, 71, 72, 84, 36, 32, 77, 73, 68, 36])))) (sSeq (sRet (mBm .split (mVar 0) [(mLit (.str [32]))])) sNext)))
noncomputable def q2 : Def1 := ⟨d2, [("found" : Str)], [], 0, b__law_barred⟩
theorem o2 : DefOk gam0 q2 := ⟨⟨rfl, rfl, rfl, by decide +kernel, rfl, by decide +kernel, by decide +kernel⟩, fun cl => by kernel_rfl, fun _ _ _ _ _ _ us hl => match us, hl with | [], _ => rfl, rfl, rfl⟩
def d3 : He.DefD := ⟨(("_law_names" : Str), none), "_law_names", "_law_names", defArgs (top 22), defBody (top 22), defScope (top 22), [], []⟩
noncomputable def t__law_names_1 (cl : CL) : M :=
  (mOr (mCmp .In (mVar 10) (mVar 6)) (mCmp .In (mVar 10) (mCall cl 2 [])))
noncomputable def l__law_names_1 (cl : CL) : Ms :=
  (sSeq (sSet (stName 10) (mBin .Add (mIdx (mVar 3) (mBin .Mod (mBin .Add (mBm .find (mVar 3) [(mIdx (mVar 10) (mLit (.int 0)))]) (mLit (.int 1))) (mLit (.int 26)))) (mSlc (mVar 10) (some (mLit (.int 1))) none))) sNext)
noncomputable def t__law_names_2 (cl : CL) : M :=
  (mIdx (mVar 4) (mBin .Mod (mCall cl 0 [(mVar 0), (mVar 11)]) (mLit (.int 36))))
noncomputable def l__law_names_2 (cl : CL) : Ms :=
  (sSeq (sSet (stName 8) (mCall cl 0 [(mVar 0), (mBin .Add (mLit (.int 90)) (mVar 7))])) (sSeq (sSet (stName 9) (mComp (miR1 (mVar 5)) [11] (stName 11) mTrue (t__law_names_2 cl))) (sSeq (sItm (mVar 9) (mBin .Mod (mVar 8) (mVar 5)) (mIdx (mVar 4) (mBin .Mod (mBin .FloorDiv (mVar 8) (mLit (.int 8))) (mLit (.int 36))))) (sSeq (sIf (mCmp .NotIn (mIdx (mVar 9) (mLit (.int 0))) (mVar 3)) (sSeq (sItm (mVar 9) (mLit (.int 0)) (mIdx (mVar 3) (mBin .Mod (mBin .FloorDiv (mVar 8) (mLit (.int 512))) (mLit (.int 26))))) sNext) sNext) (sSeq (sSet (stName 10) (mBin .Add (mBm .join (mLit (.str [])) [(mVar 9)]) (mVar 2))) (sSeq (sWhl (t__law_names_1 cl) (l__law_names_1 cl)) (sSeq (sDrop (mBm .append (mVar 6) [(mVar 10)])) sNext)))))))
noncomputable def b__law_names (cl : CL) : Ms :=
  (sSeq (sSet (stName 3) (mLit (.str [65, 66, 67, 68, 69, 70, 71, 72, 73, 74, 75, 76, 77, 78, 79, 80, 81, 82, 83, 84, 85, 86, 87, 88, 89, 90]))) (sSeq (sSet (stName 4) (mBin .Add (mVar 3) (mLit (.str [48, 49, 50, 51, 52, 53, 54, 55, 56, 57])))) (sSeq (sSet (stName 5) (mIdx (mLst [(mLit (.int 1)), (mLit (.int 2)), (mLit (.int 3)), (mBin .Sub (mLit (.int 8)) (mBi .len [(mVar 2)]))]) (mBin .Mod (mVar 0) (mLit (.int 4))))) (sSeq (sSet (stName 6) (mLst [])) (sSeq (sFor (miR1 (mVar 1)) (stName 7) (l__law_names_2 cl)) (sSeq (sRet (mVar 6)) sNext))))))
noncomputable def q3 : Def1 := ⟨d3, [("more" : Str), ("many" : Str), ("end" : Str), ("letters" : Str), ("signs" : Str), ("long" : Str), ("found" : Str), ("j" : Str), ("here" : Str), ("row" : Str), ("name" : Str), ("at" : Str)], [("more" : Str), ("many" : Str), ("end" : Str)], 0, b__law_names⟩
theorem o3 : DefOk gam0 q3 := ⟨⟨rfl, rfl, rfl, by decide +kernel, rfl, by decide +kernel, by decide +kernel⟩, fun cl => by kernel_rfl, fun _ _ _ _ _ _ us hl => match us, hl with | [_, _, _], _ => rfl, rfl, rfl⟩
def d4 : He.DefD := ⟨(("Store" : Str), some ("__init__" : Str)), "__init__", "Store.__init__", defArgs (inClass (top 15) 0), defBody (inClass (top 15) 0), defScope (inClass (top 15) 0), [], []⟩
noncomputable def b_Store_init (cl : CL) : Ms :=
  (sSeq (sFld foo (mVar 0) 0 mDNew) (sSeq (sFld foo (mVar 0) 1 mDNew) (sSeq (sFld foo (mVar 0) 2 mDNew) sNext)))
noncomputable def q4 : Def1 := ⟨d4, [("self" : Str)], [("self" : Str)], 0, b_Store_init⟩
theorem o4 : DefOk gam0 q4 := ⟨⟨rfl, rfl, rfl, by decide +kernel, rfl, by decide +kernel, by decide +kernel⟩, fun cl => by kernel_rfl, fun _ _ _ _ _ _ us hl => match us, hl with | [_], _ => rfl, rfl, rfl⟩
def d5 : He.DefD := ⟨(("is_texts" : Str), none), "is_texts", "is_texts", defArgs (top 11), defBody (top 11), defScope (top 11), [], []⟩
noncomputable def b_is_texts (cl : CL) : Ms :=
  (sSeq (sRet (mCmp .Eq (mIdx (mVar 0) (mNeg (mLit (.int 1)))) (mLit (.str [36])))) sNext)
noncomputable def q5 : Def1 := ⟨d5, [("name" : Str)], [("name" : Str)], 0, b_is_texts⟩
theorem o5 : DefOk gam0 q5 := ⟨⟨rfl, rfl, rfl, by decide +kernel, rfl, by decide +kernel, by decide +kernel⟩, fun cl => by kernel_rfl, fun _ _ _ _ _ _ us hl => match us, hl with | [_], _ => rfl, rfl, rfl⟩
def d6 : He.DefD := ⟨(("nothing" : Str), none), "nothing", "nothing", defArgs (top 12), defBody (top 12), defScope (top 12), [], []⟩
noncomputable def b_nothing (cl : CL) : Ms :=
  (sSeq (sRet (mIf (mCall cl 5 [(mVar 0)]) (mLit (.str [])) (mLit (.int 0)))) sNext)
noncomputable def q6 : Def1 := ⟨d6, [("name" : Str)], [("name" : Str)], 0, b_nothing⟩
theorem o6 : DefOk gam0 q6 := ⟨⟨rfl, rfl, rfl, by decide +kernel, rfl, by decide +kernel, by decide +kernel⟩, fun cl => by kernel_rfl, fun _ _ _ _ _ _ us hl => match us, hl with | [_], _ => rfl, rfl, rfl⟩
def d7 : He.DefD := ⟨(("Store" : Str), some ("get" : Str)), "get", "Store.get", defArgs (inClass (top 15) 1), defBody (inClass (top 15) 1), defScope (inClass (top 15) 1), [], []⟩
noncomputable def b_Store_get (cl : CL) : Ms :=
  (sSeq (sRet (mGet2 (mAttr (mVar 0) 0) (mVar 1) (mCall cl 6 [(mVar 1)]))) sNext)
noncomputable def q7 : Def1 := ⟨d7, [("self" : Str), ("name" : Str)], [("self" : Str), ("name" : Str)], 0, b_Store_get⟩
theorem o7 : DefOk gam0 q7 := ⟨⟨rfl, rfl, rfl, by decide +kernel, rfl, by decide +kernel, by decide +kernel⟩, fun cl => by kernel_rfl, fun _ _ _ _ _ _ us hl => match us, hl with | [_, _], _ => rfl, rfl, rfl⟩
def d8 : He.DefD := ⟨(("_law_places" : Str), none), "_law_places", "_law_places", defArgs (top 23), defBody (top 23), defScope (top 23), [], []⟩
noncomputable def l__law_places_1 (cl : CL) : Ms :=
  (sSeq (sSet (stName 5) (mCall cl 0 [(mVar 0), (mVar 3)])) (sSeq (sDrop (mBm .append (mVar 2) [(mIdx (mLst [(mBin .Mod (mBin .FloorDiv (mVar 5) (mLit (.int 8))) (mBin .Add (mVar 4) (mLit (.int 1)))), (mVar 4), (mLit (.int 0)), (mBin .Add (mVar 4) (mLit (.int 1))), (mNeg (mLit (.int 1)))]) (mIdx (mLst [(mLit (.int 0)), (mLit (.int 0)), (mLit (.int 0)), (mLit (.int 1)), (mLit (.int 1)), (mLit (.int 2)), (mLit (.int 3)), (mLit (.int 4))]) (mBin .Mod (mVar 5) (mLit (.int 8)))))])) sNext))
noncomputable def b__law_places (cl : CL) : Ms :=
  (sSeq (sSet (stName 2) (mLst [])) (sSeq (sFor (miEn (mVar 1)) (stTup [3, 4]) (l__law_places_1 cl)) (sSeq (sIf (mCmp .Eq (mBin .Mod (mBin .FloorDiv (mVar 0) (mLit (.int 64))) (mLit (.int 9))) (mLit (.int 0))) (sSeq (sSet (stName 2) (mIf (mCmp .Gt (mBi .len [(mVar 2)]) (mLit (.int 1))) (mSlc (mVar 2) (some (mLit (.int 1))) none) (mBin .Add (mVar 2) (mLst [(mLit (.int 0))])))) sNext) sNext) (sSeq (sRet (mBi .tup [(mVar 2)])) sNext))))
noncomputable def q8 : Def1 := ⟨d8, [("more" : Str), ("bounds" : Str), ("found" : Str), ("j" : Str), ("bound" : Str), ("here" : Str)], [("more" : Str), ("bounds" : Str)], 0, b__law_places⟩
theorem o8 : DefOk gam0 q8 := ⟨⟨rfl, rfl, rfl, by decide +kernel, rfl, by decide +kernel, by decide +kernel⟩, fun cl => by kernel_rfl, fun _ _ _ _ _ _ us hl => match us, hl with | [_, _], _ => rfl, rfl, rfl⟩
def d9 : He.DefD := ⟨(("_law_laid" : Str), none), "_law_laid", "_law_laid", defArgs (top 27), defBody (top 27), defScope (top 27), [], []⟩
noncomputable def t__law_laid_1 (cl : CL) : M :=
  (mChain .LtE .LtE (mLit (.int 0)) (mVar 3) (mLit (.int 99)))
noncomputable def b__law_laid (cl : CL) : Ms :=
  (sSeq (sIf (mCmp .In (mVar 1) (mIdx (mVar 0) (mLit (.str [98, 111, 117, 110, 100, 115])))) (sSeq (sRet (mTup [(mLit (.str [114, 101, 102, 117, 115, 101, 100])), (mLit (.str [70, 97, 117, 108, 116])), (mLit (.str [65, 103, 97, 105, 110]))])) sNext) sNext) (sSeq (sIf (mOr (mCmp .NotIn (mBi .len [(mVar 2)]) (mTup [(mLit (.int 1)), (mLit (.int 2))])) (mNot (mBi .all [(mComp (miE (mVar 2)) [3] (stName 3) mTrue (t__law_laid_1 cl))]))) (sSeq (sRet (mTup [(mLit (.str [114, 101, 102, 117, 115, 101, 100])), (mLit (.str [70, 97, 117, 108, 116])), (mLit (.str [73, 110, 100, 101, 120]))])) sNext) sNext) (sSeq (sItm (mIdx (mVar 0) (mLit (.str [98, 111, 117, 110, 100, 115]))) (mVar 1) (mVar 2)) (sSeq (sRet (mLit .non)) sNext))))
noncomputable def q9 : Def1 := ⟨d9, [("it" : Str), ("name" : Str), ("bounds" : Str), ("bound" : Str)], [("it" : Str), ("name" : Str), ("bounds" : Str)], 0, b__law_laid⟩
theorem o9 : DefOk gam0 q9 := ⟨⟨rfl, rfl, rfl, by decide +kernel, rfl, by decide +kernel, by decide +kernel⟩, fun cl => by kernel_rfl, fun _ _ _ _ _ _ us hl => match us, hl with | [_, _, _], _ => rfl, rfl, rfl⟩
def d10 : He.DefD := ⟨(("_law_inside" : Str), none), "_law_inside", "_law_inside", defArgs (top 24), defBody (top 24), defScope (top 24), [], []⟩
noncomputable def t__law_inside_1 (cl : CL) : M :=
  (mChain .LtE .LtE (mLit (.int 0)) (mVar 2) (mVar 3))
noncomputable def b__law_inside (cl : CL) : Ms :=
  (sSeq (sRet (mAnd (mCmp .Eq (mBi .len [(mVar 0)]) (mBi .len [(mVar 1)])) (mBi .all [(mComp (miZp (mVar 1) (mVar 0)) [2, 3] (stTup [2, 3]) mTrue (t__law_inside_1 cl))]))) sNext)
noncomputable def q10 : Def1 := ⟨d10, [("bounds" : Str), ("places" : Str), ("place" : Str), ("bound" : Str)], [("bounds" : Str), ("places" : Str)], 0, b__law_inside⟩
theorem o10 : DefOk gam0 q10 := ⟨⟨rfl, rfl, rfl, by decide +kernel, rfl, by decide +kernel, by decide +kernel⟩, fun cl => by kernel_rfl, fun _ _ _ _ _ _ us hl => match us, hl with | [_, _], _ => rfl, rfl, rfl⟩
def d11 : He.DefD := ⟨(("_law_asked" : Str), none), "_law_asked", "_law_asked", defArgs (top 25), defBody (top 25), defScope (top 25), [], []⟩
noncomputable def b__law_asked (cl : CL) : Ms :=
  (sSeq (sSet (stName 4) (mGet2 (mIdx (mVar 1) (mLit (.str [98, 111, 117, 110, 100, 115]))) (mVar 2) (mBin .Mult (mTup [(mLit (.int 10))]) (mBi .len [(mVar 3)])))) (sSeq (sIf (mNot (mCall cl 10 [(mVar 4), (mVar 3)])) (sSeq (sRet (mTup [(mLit (.str [114, 101, 102, 117, 115, 101, 100])), (mLit (.str [70, 97, 117, 108, 116])), (mLit (.str [73, 110, 100, 101, 120]))])) sNext) sNext) (sSeq (sItm (mIdx (mVar 1) (mLit (.str [98, 111, 117, 110, 100, 115]))) (mVar 2) (mVar 4)) (sSeq (sRet (mGet2 (mIdx (mVar 1) (mLit (.str [99, 101, 108, 108, 115]))) (mTup [(mVar 2), (mVar 3)]) (mIf (mCmp .Eq (mIdx (mVar 2) (mNeg (mLit (.int 1)))) (mLit (.str [36]))) (mLit (.str [])) (mLit (.int 0))))) sNext))))
noncomputable def q11 : Def1 := ⟨d11, [("store" : Str), ("it" : Str), ("name" : Str), ("places" : Str), ("bounds" : Str)], [("store" : Str), ("it" : Str), ("name" : Str), ("places" : Str)], 0, b__law_asked⟩
theorem o11 : DefOk gam0 q11 := ⟨⟨rfl, rfl, rfl, by decide +kernel, rfl, by decide +kernel, by decide +kernel⟩, fun cl => by kernel_rfl, fun _ _ _ _ _ _ us hl => match us, hl with | [_, _, _, _], _ => rfl, rfl, rfl⟩
def d12 : He.DefD := ⟨(("_law_given" : Str), none), "_law_given", "_law_given", defArgs (top 26), defBody (top 26), defScope (top 26), [], []⟩
noncomputable def b__law_given (cl : CL) : Ms :=
  (sSeq (sSet (stName 4) (mGet2 (mIdx (mVar 0) (mLit (.str [98, 111, 117, 110, 100, 115]))) (mVar 1) (mBin .Mult (mTup [(mLit (.int 10))]) (mBi .len [(mVar 2)])))) (sSeq (sIf (mNot (mCall cl 10 [(mVar 4), (mVar 2)])) (sSeq (sRet (mTup [(mLit (.str [114, 101, 102, 117, 115, 101, 100])), (mLit (.str [70, 97, 117, 108, 116])), (mLit (.str [73, 110, 100, 101, 120]))])) sNext) sNext) (sSeq (sIf (mCmp .NotEq (mIsi (mVar 3) .str) (mCmp .Eq (mIdx (mVar 1) (mNeg (mLit (.int 1)))) (mLit (.str [36])))) (sSeq (sRet (mTup [(mLit (.str [114, 101, 102, 117, 115, 101, 100])), (mLit (.str [70, 97, 117, 108, 116])), (mLit (.str [75, 105, 110, 100]))])) sNext) sNext) (sSeq (sItm (mIdx (mVar 0) (mLit (.str [98, 111, 117, 110, 100, 115]))) (mVar 1) (mVar 4)) (sSeq (sItm (mIdx (mVar 0) (mLit (.str [99, 101, 108, 108, 115]))) (mTup [(mVar 1), (mVar 2)]) (mVar 3)) (sSeq (sRet (mLit .non)) sNext))))))
noncomputable def q12 : Def1 := ⟨d12, [("it" : Str), ("name" : Str), ("places" : Str), ("here" : Str), ("bounds" : Str)], [("it" : Str), ("name" : Str), ("places" : Str), ("here" : Str)], 0, b__law_given⟩
theorem o12 : DefOk gam0 q12 := ⟨⟨rfl, rfl, rfl, by decide +kernel, rfl, by decide +kernel, by decide +kernel⟩, fun cl => by kernel_rfl, fun _ _ _ _ _ _ us hl => match us, hl with | [_, _, _, _], _ => rfl, rfl, rfl⟩
def d13 : He.DefD := ⟨(("need_places" : Str), none), "need_places", "need_places", defArgs (top 14), defBody (top 14), defScope (top 14), [], []⟩
noncomputable def b_need_places (cl : CL) : Ms :=
  (sSeq (sIf (mNot (mVar 0)) (sSeq (sRaiseW 1 (mLit (.str [73, 110, 100, 101, 120]))) sNext) sNext) sNext)
noncomputable def q13 : Def1 := ⟨d13, [("good" : Str)], [("good" : Str)], 0, b_need_places⟩
theorem o13 : DefOk gam0 q13 := ⟨⟨rfl, rfl, rfl, by decide +kernel, rfl, by decide +kernel, by decide +kernel⟩, fun cl => by kernel_rfl, fun _ _ _ _ _ _ us hl => match us, hl with | [_], _ => rfl, rfl, rfl⟩
def d14 : He.DefD := ⟨(("Store" : Str), some ("lay" : Str)), "lay", "Store.lay", defArgs (inClass (top 15) 3), defBody (inClass (top 15) 3), defScope (inClass (top 15) 3), [], []⟩
noncomputable def t_Store_lay_1 (cl : CL) : M :=
  (mChain .LtE .LtE (mLit (.int 0)) (mVar 3) (mLit c_MOST_BOUND))
noncomputable def b_Store_lay (cl : CL) : Ms :=
  (sSeq (sIf (mCmp .In (mVar 1) (mAttr (mVar 0) 1)) (sSeq (sRaiseW 1 (mLit (.str [65, 103, 97, 105, 110]))) sNext) sNext) (sSeq (sDrop (mCall cl 13 [(mAnd (mCmp .In (mBi .len [(mVar 2)]) (mTup [(mLit (.int 1)), (mLit (.int 2))])) (mBi .all [(mComp (miE (mVar 2)) [3] (stName 3) mTrue (t_Store_lay_1 cl))]))])) (sSeq (sItm (mAttr (mVar 0) 1) (mVar 1) (mVar 2)) sNext)))
noncomputable def q14 : Def1 := ⟨d14, [("self" : Str), ("name" : Str), ("bounds" : Str), ("bound" : Str)], [("self" : Str), ("name" : Str), ("bounds" : Str)], 0, b_Store_lay⟩
theorem o14 : DefOk gam0 q14 := ⟨⟨rfl, rfl, rfl, by decide +kernel, rfl, by decide +kernel, by decide +kernel⟩, fun cl => by kernel_rfl, fun _ _ _ _ _ _ us hl => match us, hl with | [_, _, _], _ => rfl, rfl, rfl⟩
def d15 : He.DefD := ⟨(("need_kind" : Str), none), "need_kind", "need_kind", defArgs (top 13), defBody (top 13), defScope (top 13), [], []⟩
noncomputable def b_need_kind (cl : CL) : Ms :=
  (sSeq (sIf (mCmp .NotEq (mIsi (mVar 1) .str) (mCall cl 5 [(mVar 0)])) (sSeq (sRaiseW 1 (mLit (.str [75, 105, 110, 100]))) sNext) sNext) sNext)
noncomputable def q15 : Def1 := ⟨d15, [("name" : Str), ("worth" : Str)], [("name" : Str), ("worth" : Str)], 0, b_need_kind⟩
theorem o15 : DefOk gam0 q15 := ⟨⟨rfl, rfl, rfl, by decide +kernel, rfl, by decide +kernel, by decide +kernel⟩, fun cl => by kernel_rfl, fun _ _ _ _ _ _ us hl => match us, hl with | [_, _], _ => rfl, rfl, rfl⟩
def d16 : He.DefD := ⟨(("Store" : Str), some ("put" : Str)), "put", "Store.put", defArgs (inClass (top 15) 2), defBody (inClass (top 15) 2), defScope (inClass (top 15) 2), [], []⟩
noncomputable def b_Store_put (cl : CL) : Ms :=
  (sSeq (sDrop (mCall cl 15 [(mVar 1), (mVar 2)])) (sSeq (sItm (mAttr (mVar 0) 0) (mVar 1) (mVar 2)) sNext))
noncomputable def q16 : Def1 := ⟨d16, [("self" : Str), ("name" : Str), ("worth" : Str)], [("self" : Str), ("name" : Str), ("worth" : Str)], 0, b_Store_put⟩
theorem o16 : DefOk gam0 q16 := ⟨⟨rfl, rfl, rfl, by decide +kernel, rfl, by decide +kernel, by decide +kernel⟩, fun cl => by kernel_rfl, fun _ _ _ _ _ _ us hl => match us, hl with | [_, _, _], _ => rfl, rfl, rfl⟩
def d17 : He.DefD := ⟨(("Store" : Str), some ("look" : Str)), "look", "Store.look", defArgs (inClass (top 15) 4), defBody (inClass (top 15) 4), defScope (inClass (top 15) 4), [], []⟩
noncomputable def t_Store_look_1 (cl : CL) : M :=
  (mChain .LtE .LtE (mLit (.int 0)) (mVar 4) (mVar 5))
noncomputable def b_Store_look (cl : CL) : Ms :=
  (sSeq (sSet (stName 3) (mGet2 (mAttr (mVar 0) 1) (mVar 1) (mBin .Mult (mTup [(mLit c_USUAL_BOUND)]) (mBi .len [(mVar 2)])))) (sSeq (sDrop (mCall cl 13 [(mCmp .Eq (mBi .len [(mVar 3)]) (mBi .len [(mVar 2)]))])) (sSeq (sDrop (mCall cl 13 [(mBi .all [(mComp (miZp (mVar 2) (mVar 3)) [4, 5] (stTup [4, 5]) mTrue (t_Store_look_1 cl))])])) (sSeq (sItm (mAttr (mVar 0) 1) (mVar 1) (mVar 3)) sNext))))
noncomputable def q17 : Def1 := ⟨d17, [("self" : Str), ("name" : Str), ("places" : Str), ("bounds" : Str), ("place" : Str), ("bound" : Str)], [("self" : Str), ("name" : Str), ("places" : Str)], 0, b_Store_look⟩
theorem o17 : DefOk gam0 q17 := ⟨⟨rfl, rfl, rfl, by decide +kernel, rfl, by decide +kernel, by decide +kernel⟩, fun cl => by kernel_rfl, fun _ _ _ _ _ _ us hl => match us, hl with | [_, _, _], _ => rfl, rfl, rfl⟩
def d18 : He.DefD := ⟨(("Store" : Str), some ("cell" : Str)), "cell", "Store.cell", defArgs (inClass (top 15) 5), defBody (inClass (top 15) 5), defScope (inClass (top 15) 5), [], []⟩
noncomputable def b_Store_cell (cl : CL) : Ms :=
  (sSeq (sDrop (mMeth cl (meOf [(0, 17)]) (mVar 0) [(mVar 1), (mVar 2)])) (sSeq (sRet (mGet2 (mAttr (mVar 0) 2) (mTup [(mVar 1), (mVar 2)]) (mCall cl 6 [(mVar 1)]))) sNext))
noncomputable def q18 : Def1 := ⟨d18, [("self" : Str), ("name" : Str), ("places" : Str)], [("self" : Str), ("name" : Str), ("places" : Str)], 0, b_Store_cell⟩
theorem o18 : DefOk gam0 q18 := ⟨⟨rfl, rfl, rfl, by decide +kernel, rfl, by decide +kernel, by decide +kernel⟩, fun cl => by kernel_rfl, fun _ _ _ _ _ _ us hl => match us, hl with | [_, _, _], _ => rfl, rfl, rfl⟩
def d19 : He.DefD := ⟨(("Store" : Str), some ("put_cell" : Str)), "put_cell", "Store.put_cell", defArgs (inClass (top 15) 6), defBody (inClass (top 15) 6), defScope (inClass (top 15) 6), [], []⟩
noncomputable def t_Store_put_cell_1 (cl : CL) : M :=
  (mChain .LtE .LtE (mLit (.int 0)) (mVar 5) (mVar 6))
noncomputable def b_Store_put_cell (cl : CL) : Ms :=
  (sSeq (sSet (stName 4) (mGet2 (mAttr (mVar 0) 1) (mVar 1) (mBin .Mult (mTup [(mLit c_USUAL_BOUND)]) (mBi .len [(mVar 2)])))) (sSeq (sDrop (mCall cl 13 [(mCmp .Eq (mBi .len [(mVar 4)]) (mBi .len [(mVar 2)]))])) (sSeq (sDrop (mCall cl 13 [(mBi .all [(mComp (miZp (mVar 2) (mVar 4)) [5, 6] (stTup [5, 6]) mTrue (t_Store_put_cell_1 cl))])])) (sSeq (sDrop (mCall cl 15 [(mVar 1), (mVar 3)])) (sSeq (sItm (mAttr (mVar 0) 1) (mVar 1) (mVar 4)) (sSeq (sItm (mAttr (mVar 0) 2) (mTup [(mVar 1), (mVar 2)]) (mVar 3)) sNext))))))
noncomputable def q19 : Def1 := ⟨d19, [("self" : Str), ("name" : Str), ("places" : Str), ("worth" : Str), ("bounds" : Str), ("place" : Str), ("bound" : Str)], [("self" : Str), ("name" : Str), ("places" : Str), ("worth" : Str)], 0, b_Store_put_cell⟩
theorem o19 : DefOk gam0 q19 := ⟨⟨rfl, rfl, rfl, by decide +kernel, rfl, by decide +kernel, by decide +kernel⟩, fun cl => by kernel_rfl, fun _ _ _ _ _ _ us hl => match us, hl with | [_, _, _, _], _ => rfl, rfl, rfl⟩
def d20 : He.DefD := ⟨(("_law_deed_right" : Str), none), "_law_deed_right", "_law_deed_right", defArgs (top 28), defBody (top 28), defScope (top 28), [], []⟩
noncomputable def b__law_deed_right (cl : CL) : Ms :=
  (sSeq (sSet (stName 4) (mIdx (mLst [(mBin .Sub (mBin .Mod (mBin .FloorDiv (mVar 3) (mLit (.int 64))) (mLit (.int 1000))) (mLit (.int 500))), (mLit (.int 999999999999)), (mLit (.str [])), (mLit (.str [65, 32, 98]))]) (mBin .Mod (mBin .FloorDiv (mVar 3) (mBin .Pow (mLit (.int 2)) (mLit (.int 20)))) (mLit (.int 4))))) (sSeq (sIf (mCmp .Gt (mBin .Mod (mBin .FloorDiv (mVar 3) (mLit (.int 8))) (mLit (.int 4))) (mLit (.int 0))) (sSeq (sSet (stName 4) (mIdx (mIdx (mLst [(mLst [(mLit (.int 0)), (mBin .Mod (mBin .FloorDiv (mVar 3) (mLit (.int 64))) (mLit (.int 9)))]), (mLst [(mLit (.str [120])), (mBin .Mult (mLit (.str [121])) (mBin .Mod (mBin .FloorDiv (mVar 3) (mLit (.int 64))) (mLit (.int 255))))])]) (mBi .int [(mCmp .Eq (mIdx (mVar 2) (mNeg (mLit (.int 1)))) (mLit (.str [36])))])) (mBin .Mod (mBin .FloorDiv (mVar 3) (mLit (.int 512))) (mLit (.int 2))))) sNext) sNext) (sSeq (sSet (stName 5) (mBin .Mod (mVar 3) (mLit (.int 5)))) (sSeq (sIf (mCmp .Eq (mVar 5) (mLit (.int 0))) (sSeq (sSet (stName 9) (mGet2 (mIdx (mVar 1) (mLit (.str [110, 97, 109, 101, 115]))) (mVar 2) (mIf (mCmp .Eq (mIdx (mVar 2) (mNeg (mLit (.int 1)))) (mLit (.str [36]))) (mLit (.str [])) (mLit (.int 0))))) (sSeq (sRet (mCmp .Eq (mTold tldf (mMeth cl (meOf [(0, 7)]) (mVar 0) [(mVar 2)])) (mVar 9))) sNext)) sNext) (sSeq (sIf (mCmp .Eq (mVar 5) (mLit (.int 1))) (sSeq (sSet (stName 9) (mLit .non)) (sSeq (sIf (mCmp .NotEq (mIsi (mVar 4) .str) (mCmp .Eq (mIdx (mVar 2) (mNeg (mLit (.int 1)))) (mLit (.str [36])))) (sSeq (sSet (stName 9) (mTup [(mLit (.str [114, 101, 102, 117, 115, 101, 100])), (mLit (.str [70, 97, 117, 108, 116])), (mLit (.str [75, 105, 110, 100]))])) sNext) (sSeq (sItm (mIdx (mVar 1) (mLit (.str [110, 97, 109, 101, 115]))) (mVar 2) (mVar 4)) sNext)) (sSeq (sRet (mCmp .Eq (mTold tldf (mMeth cl (meOf [(0, 16)]) (mVar 0) [(mVar 2), (mVar 4)])) (mVar 9))) sNext))) sNext) (sSeq (sSet (stName 6) (mGet2 (mIdx (mVar 1) (mLit (.str [98, 111, 117, 110, 100, 115]))) (mVar 2) (mBin .Mult (mTup [(mLit (.int 10))]) (mBin .Add (mLit (.int 1)) (mBin .Mod (mBin .FloorDiv (mVar 3) (mBin .Pow (mLit (.int 2)) (mLit (.int 30)))) (mLit (.int 2))))))) (sSeq (sSet (stName 7) (mCall cl 8 [(mBin .FloorDiv (mVar 3) (mBin .Pow (mLit (.int 2)) (mLit (.int 40)))), (mVar 6)])) (sSeq (sIf (mCmp .Eq (mVar 5) (mLit (.int 2))) (sSeq (sRet (mCmp .Eq (mTold tldf (mMeth cl (meOf [(0, 18)]) (mVar 0) [(mVar 2), (mVar 7)])) (mCall cl 11 [(mVar 0), (mVar 1), (mVar 2), (mVar 7)]))) sNext) sNext) (sSeq (sIf (mCmp .Eq (mVar 5) (mLit (.int 3))) (sSeq (sRet (mCmp .Eq (mTold tldf (mMeth cl (meOf [(0, 19)]) (mVar 0) [(mVar 2), (mVar 7), (mVar 4)])) (mCall cl 12 [(mVar 1), (mVar 2), (mVar 7), (mVar 4)]))) sNext) sNext) (sSeq (sSet (stName 8) (mIdx (mLst [(mTup [(mLit (.int 3))]), (mTup [(mLit (.int 0)), (mLit (.int 2))]), (mTup [(mLit (.int 99))]), (mTup [(mLit (.int 99)), (mLit (.int 0))]), (mTup [(mLit (.int 100))]), (mTup [(mNeg (mLit (.int 1))), (mLit (.int 3))]), (mTup []), (mTup [(mLit (.int 1)), (mLit (.int 1)), (mLit (.int 1))])]) (mBin .Mod (mBin .FloorDiv (mVar 3) (mBin .Pow (mLit (.int 2)) (mLit (.int 50)))) (mLit (.int 8))))) (sSeq (sRet (mCmp .Eq (mTold tldf (mMeth cl (meOf [(0, 14)]) (mVar 0) [(mVar 2), (mVar 8)])) (mCall cl 9 [(mVar 1), (mVar 2), (mVar 8)]))) sNext)))))))))))
noncomputable def q20 : Def1 := ⟨d20, [("store" : Str), ("it" : Str), ("name" : Str), ("more" : Str), ("here" : Str), ("way" : Str), ("sizes" : Str), ("places" : Str), ("bounds" : Str), ("due" : Str)], [("store" : Str), ("it" : Str), ("name" : Str), ("more" : Str)], 2, b__law_deed_right⟩
theorem o20 : DefOk gam0 q20 := ⟨⟨rfl, rfl, rfl, by decide +kernel, rfl, by decide +kernel, by decide +kernel⟩, fun cl => by kernel_rfl, fun _ _ _ _ _ _ us hl => match us, hl with | [_, _, _, _], _ => rfl, rfl, rfl⟩
def d21 : He.DefD := ⟨(("law" : Str), none), "law", "law", defArgs (top 29), defBody (top 29), defScope (top 29), [], []⟩
noncomputable def l_law_1 (cl : CL) : Ms :=
  (sSeq (sIf (mCmp .NotEq (mMeth cl (meOf [(0, 7)]) (mIdx (mVar 4) (mVar 7)) [(mVar 9)]) (mGet2 (mIdx (mIdx (mVar 5) (mVar 7)) (mLit (.str [110, 97, 109, 101, 115]))) (mVar 9) (mIf (mCmp .Eq (mIdx (mVar 9) (mNeg (mLit (.int 1)))) (mLit (.str [36]))) (mLit (.str [])) (mLit (.int 0))))) (sSeq (sRet (mLit (.bl false))) sNext) sNext) (sSeq (sSet (stName 10) (mGet2 (mIdx (mIdx (mVar 5) (mVar 7)) (mLit (.str [98, 111, 117, 110, 100, 115]))) (mVar 9) (mTup [(mLit (.int 10)), (mLit (.int 10))]))) (sSeq (sIf (mCmp .NotEq (mTold tldf (mMeth cl (meOf [(0, 18)]) (mIdx (mVar 4) (mVar 7)) [(mVar 9), (mVar 10)])) (mCall cl 11 [(mIdx (mVar 4) (mVar 7)), (mIdx (mVar 5) (mVar 7)), (mVar 9), (mVar 10)])) (sSeq (sRet (mLit (.bl false))) sNext) sNext) sNext)))
noncomputable def l_law_2 (cl : CL) : Ms :=
  (sSeq (sFor (miE (mVar 3)) (stName 9) (l_law_1 cl)) sNext)
noncomputable def l_law_3 (cl : CL) : Ms :=
  (sSeq (sSet (stName 8) (mCall cl 0 [(mVar 2), (mBin .Add (mLit (.int 10)) (mVar 6))])) (sSeq (sSet (stName 7) (mBi .int [(mCmp .Eq (mBin .Mod (mVar 8) (mLit (.int 4))) (mLit (.int 0)))])) (sSeq (sIf (mNot (mCall cl 20 [(mIdx (mVar 4) (mVar 7)), (mIdx (mVar 5) (mVar 7)), (mIdx (mVar 3) (mBin .Mod (mBin .FloorDiv (mVar 8) (mLit (.int 4))) (mLit (.int 4)))), (mBin .FloorDiv (mVar 8) (mLit (.int 16)))])) (sSeq (sRet (mLit (.bl false))) sNext) sNext) sNext)))
noncomputable def t_law_1 (cl : CL) : M :=
  (mDsp [[110, 97, 109, 101, 115], [98, 111, 117, 110, 100, 115], [99, 101, 108, 108, 115]] [mDNew, mDNew, mDNew])
noncomputable def l_law_4 (cl : CL) : Ms :=
  (sSeq (sSet (stName 2) (mCall cl 0 [(mCall cl 1 [(mVar 0), (mVar 1)]), (mVar 1)])) (sSeq (sSet (stName 3) (mBin .Add (mCall cl 3 [(mCall cl 0 [(mVar 2), (mLit (.int 1))]), (mLit (.int 2)), (mLit (.str []))]) (mCall cl 3 [(mCall cl 0 [(mVar 2), (mLit (.int 2))]), (mLit (.int 2)), (mLit (.str [36]))]))) (sSeq (sSet (stName 4) (mLst [(mMake cl 0 4 []), (mMake cl 0 4 [])])) (sSeq (sSet (stName 5) (mComp (miR1 (mLit (.int 2))) [6] (stName 6) mTrue (t_law_1 cl))) (sSeq (sFor (miR1 (mBin .Add (mLit (.int 5)) (mBin .Mod (mVar 2) (mLit (.int 26))))) (stName 6) (l_law_3 cl)) (sSeq (sFor (miR1 (mLit (.int 2))) (stName 7) (l_law_2 cl)) sNext))))))
noncomputable def b_law (cl : CL) : Ms :=
  (sSeq (sFor (miR1 (mBi .max [(mLit (.int 1)), (mBi .min [(mLit (.int 3)), (mBi .len [(mVar 0)])])])) (stName 1) (l_law_4 cl)) (sSeq (sRet (mLit (.bl true))) sNext))
noncomputable def q21 : Def1 := ⟨d21, [("script" : Str), ("k" : Str), ("more" : Str), ("names" : Str), ("stores" : Str), ("its" : Str), ("j" : Str), ("at" : Str), ("here" : Str), ("name" : Str), ("bounds" : Str)], [("script" : Str)], 2, b_law⟩
theorem o21 : DefOk gam0 q21 := ⟨⟨rfl, rfl, rfl, by decide +kernel, rfl, by decide +kernel, by decide +kernel⟩, fun cl => by kernel_rfl, fun _ _ _ _ _ _ us hl => match us, hl with | [_], _ => rfl, rfl, rfl⟩
def dTold : He.DefD := ⟨(("_law_told" : Str), none), "_law_told", "_law_told", defArgs (top 20), defBody (top 20), defScope (top 20), [], []⟩
def dWord : He.DefD := ⟨(("_law_word" : Str), none), "_law_word", "_law_word", defArgs (top 19), defBody (top 19), defScope (top 19), [], []⟩
def dIni_Fault : He.DefD := ⟨(("Fault" : Str), some ("__init__" : Str)), "__init__", "Fault.__init__", defArgs (inClass (top 7) 0), defBody (inClass (top 7) 0), defScope (inClass (top 7) 0), [], []⟩
noncomputable def defs : List Def1 := ([q0, q1, q2, q3, q4, q5, q6, q7, q8, q9, q10, q11, q12, q13, q14, q15, q16, q17, q18, q19] : List Def1) ++ ([q20, q21] : List Def1)
def wcs : Scope := match dWord.body with | _ :: _ :: .If (.BoolOp _ (.Compare (.Call _ [.ListComp _ _ c _] _ _) _ _ _ :: _) _) _ _ _ :: _ => c | _ => dWord.scope
noncomputable def prg : Prg where
  gam := gam0
  defs := defs
  cn := [("Store" : Str), ("Fault" : Str), ("BadToken" : Str), ("BadTerm" : Str), ("BadDeed" : Str), ("BadRow" : Str), ("BadPicture" : Str)]
  fnn := [("names" : Str), ("bounds" : Str), ("cells" : Str)]
  toldD := dTold
  wordD := dWord
  wcs := wcs
  exiD := [dIni_Fault]
theorem oks : ∀ q ∈ prg.defs, DefOk prg.gam q := by
  intro q hq
  have hq : q ∈ defs := hq
  simp only [defs, List.mem_append, List.mem_cons, List.not_mem_nil, or_false] at hq
  rcases hq with ((rfl | rfl | rfl | rfl | rfl | rfl | rfl | rfl | rfl | rfl | rfl | rfl | rfl | rfl | rfl | rfl | rfl | rfl | rfl | rfl) | (rfl | rfl))
  · exact o0
  · exact o1
  · exact o2
  · exact o3
  · exact o4
  · exact o5
  · exact o6
  · exact o7
  · exact o8
  · exact o9
  · exact o10
  · exact o11
  · exact o12
  · exact o13
  · exact o14
  · exact o15
  · exact o16
  · exact o17
  · exact o18
  · exact o19
  · exact o20
  · exact o21
theorem okb : prg.okB = true := by kernel_rfl
theorem oWord : WordOk dWord wcs := ⟨rfl, rfl, by kernel_rfl, ⟨⟨rfl, rfl, rfl, by decide +kernel, rfl, by decide +kernel, by decide +kernel⟩, .inl (by kernel_rfl), by kernel_rfl, by decide +kernel, by kernel_rfl, by kernel_rfl, by kernel_rfl⟩, fun _ _ _ _ _ _ us hl => match us, hl with | [_], _ => rfl⟩
theorem oIni_Fault : InitOk dIni_Fault := ⟨rfl, rfl, by kernel_rfl, ⟨rfl, rfl, rfl, by decide +kernel, rfl, by decide +kernel, by decide +kernel⟩, .inl (by kernel_rfl), .inl (by kernel_rfl), fun _ _ _ _ _ _ us hl => match us, hl with | [_, _], _ => rfl⟩
theorem oIni : ∀ d ∈ prg.exiD, InitOk d := by
  intro d hd
  have hd : d ∈ ([dIni_Fault] : List He.DefD) := hd
  simp only [List.mem_cons, List.not_mem_nil, or_false] at hd
  rcases hd with rfl
  · exact oIni_Fault
theorem oTold : ToldOk prg "deed" "e" := ⟨rfl, rfl, rfl, by kernel_rfl, rfl, rfl, fun _ _ _ _ _ _ us hl => match us, hl with | [_], _ => rfl, ⟨rfl, rfl, rfl, by decide +kernel, rfl, by decide +kernel, by decide +kernel⟩, .inl (by kernel_rfl), by kernel_rfl, by kernel_rfl, by kernel_rfl, by decide +kernel, by decide +kernel, by decide +kernel, by decide +kernel, by decide +kernel, by decide +kernel, oWord, rfl, oIni⟩
end K30

namespace K30
open PySem L2 Mp
noncomputable abbrev T : List Fn := prg.defs.map Def1.fn
/-! ### numbers -/
theorem log_lt {i : Int} {n : Nat} (h : i.natAbs < 2 ^ n) (hn : 0 < n) : i.natAbs.log2 < n := PySem.Flt.log2_lt_of hn h
def drawn (c k : Int) : Int :=
  let m := (c * 6364136223846793005 + (k + 1) * 1442695040888963407) % 340282366920938463463374607431768211507
  let m := m * m % 340282366920938463463374607431768211297
  let m := (m % 18446744073709551557 + 1) * (m / 18446744073709551557 + 1) * m
  m % 340282366920938463463374607431768211507
theorem drawn_nn (c k : Int) : 0 ≤ drawn c k := Int.emod_nonneg _ (by decide)
theorem drawn_lt (c k : Int) : drawn c k < 340282366920938463463374607431768211507 := Int.emod_lt_of_pos _ (by decide)
theorem nn_log {i : Int} {n : Nat} (h0 : 0 ≤ i) (h : i < 2 ^ n) (hn : 0 < n) : i.natAbs.log2 < n := by
  refine log_lt ?_ hn
  have : (i.natAbs : Int) < ((2 ^ n : Nat) : Int) := by
    rw [Int.natAbs_of_nonneg h0]
    exact_mod_cast h
  exact_mod_cast this
theorem emod_log {p : Int} {n : Nat} (x : Int) (h0 : 0 < p) (h : p ≤ 2 ^ n) (hn : 0 < n) : (x % p).natAbs.log2 < n := nn_log (Int.emod_nonneg _ (by omega)) (Int.lt_of_lt_of_le (Int.emod_lt_of_pos _ h0) h) hn
theorem c_drawn (n : Nat) (c k : Int) (h : DH) (hc : c.natAbs.log2 < 2000000) (hk : (k + 1).natAbs.log2 < 2000000) : callN T (n + 1) 0 [.int c, .int k] h = .ok (.int (drawn c k)) h := by
  rw [call_eq (fn := q0.fn) rfl rfl]
  have e1 : (6364136223846793005 : Int).natAbs.log2 < 64 := by decide
  have e2 : (1442695040888963407 : Int).natAbs.log2 < 64 := by decide
  simp only [Def1.fn, q0, b__law_drawn, drawn]
  have a1 := emod_log (n := 129) (c * 6364136223846793005 + (k + 1) * 1442695040888963407) (p := 340282366920938463463374607431768211507) (by decide) (by decide) (by decide)
  simp (disch := first | with_reducible assumption | omega | with_reducible exact size_le (by omega) | decide | (simp only [List.length_cons, List.length_nil, List.length_append]; first | omega | with_reducible exact size_le (by omega)) | exact ⟨by simp only [List.length_cons, List.length_nil]; omega, by decide⟩ | fail) [-getElem?_pos, -getElem?_neg, -Int.natCast_add, le_size, rngR_ok, mul_int, mod_int, div_int, pow_int, add_str, len_str, len_refU, idx_refU, any_refU, all_refU, in_refU, in_tupU, okTo_appU, append_U, it_refU, join_refU, add_refU, isi_refU, idx_str, slc_str, str_int, int_str, meOf, List.lookup, fldOf, putN, putR_ok, List.getElem?_cons_zero, List.getElem?_cons_succ, List.getElem?_concat_length, get_app, get_app0, en_refU, mul_refU, tupF_refU, slc_refU]
  generalize hm : ((c * 6364136223846793005 + (k + 1) * 1442695040888963407) % 340282366920938463463374607431768211507 * ((c * 6364136223846793005 + (k + 1) * 1442695040888963407) % 340282366920938463463374607431768211507) % 340282366920938463463374607431768211297) = m
  have m0 : 0 ≤ m := by rw [← hm]; exact Int.emod_nonneg _ (by decide)
  have m1 : m < 340282366920938463463374607431768211297 := by rw [← hm]; exact Int.emod_lt_of_pos _ (by decide)
  have l0 : m.natAbs.log2 < 129 := nn_log m0 (by omega) (by decide)
  have l1 : (m % 18446744073709551557 + 1).natAbs.log2 < 65 := nn_log (by omega) (by omega) (by decide)
  have l2 : (m / 18446744073709551557 + 1).natAbs.log2 < 66 := nn_log (by omega) (by omega) (by decide)
  have l3 : ((m % 18446744073709551557 + 1) * (m / 18446744073709551557 + 1)).natAbs.log2 < 131 := by
    refine log_lt ?_ (by decide)
    rw [Int.natAbs_mul, show (2 : Nat) ^ 131 = 2 ^ 65 * 2 ^ 66 by decide]
    exact Nat.mul_lt_mul'' (by omega) (by omega)
  simp (disch := first | with_reducible assumption | omega | with_reducible exact size_le (by omega) | decide | (simp only [List.length_cons, List.length_nil, List.length_append]; first | omega | with_reducible exact size_le (by omega)) | exact ⟨by simp only [List.length_cons, List.length_nil]; omega, by decide⟩ | fail) [-getElem?_pos, -getElem?_neg, -Int.natCast_add, le_size, rngR_ok, mul_int, mod_int, div_int, pow_int, add_str, len_str, len_refU, idx_refU, any_refU, all_refU, in_refU, in_tupU, okTo_appU, append_U, it_refU, join_refU, add_refU, isi_refU, idx_str, slc_str, str_int, int_str, meOf, List.lookup, fldOf, putN, putR_ok, List.getElem?_cons_zero, List.getElem?_cons_succ, List.getElem?_concat_length, get_app, get_app0, en_refU, mul_refU, tupF_refU, slc_refU]
end K30

namespace K30
open PySem L2 Mp

theorem get_set {h : DH} {i : Nat} {x : O} (hi : i < h.length) : (h.set i x)[i]? = some x := by simp [hi]
theorem cut_nat {x : Tx} {a b : Nat} : cutG x (some (a : Int)) (some (b : Int)) = (x.drop a).take (b - a) := by
  unfold cutG
  rw [HT.sIx_nat, HT.sIx_nat]
  by_cases ha : a ≤ x.length
  · rw [Nat.min_eq_left ha]
    by_cases hb : b ≤ x.length
    · rw [Nat.min_eq_left hb]
    · rw [Nat.min_eq_right (by omega)]
      rw [List.take_of_length_le (by rw [List.length_drop]; omega), List.take_of_length_le (by rw [List.length_drop]; omega)]
  · rw [Nat.min_eq_right (Nat.le_of_lt (Nat.lt_of_not_le ha)), List.drop_of_length_le (Nat.le_refl _), List.drop_of_length_le (Nat.le_of_lt (Nat.lt_of_not_le ha))]
    simp
theorem cut_nat0 {x : Tx} {a : Nat} : cutG x (some (a : Int)) none = x.drop a := by
  unfold cutG
  rw [HT.sIx_nat, HT.sIx_none]
  by_cases ha : a ≤ x.length
  · rw [Nat.min_eq_left ha, List.take_of_length_le (by rw [List.length_drop]; omega)]
  · rw [Nat.min_eq_right (by omega), List.drop_of_length_le (by omega), List.drop_of_length_le (by omega)]
    simp
def FIG : Tx := [48, 49, 50, 51, 52, 53, 54, 55, 56, 57]
def CAP : Tx := [65, 66, 67, 68, 69, 70, 71, 72, 73, 74, 75, 76, 77, 78, 79, 80, 81, 82, 83, 84, 85, 86, 87, 88, 89, 90]
def CF : Tx := CAP ++ FIG
theorem mem_FIG {c : Nat} : c ∈ FIG ↔ 48 ≤ c ∧ c ≤ 57 := by
  unfold FIG
  simp only [List.mem_cons, List.not_mem_nil, or_false]
  omega
theorem mem_CAP {c : Nat} : c ∈ CAP ↔ 65 ≤ c ∧ c ≤ 90 := by
  unfold CAP
  simp only [List.mem_cons, List.not_mem_nil, or_false]
  omega
theorem lt_of_get {h : DH} {i : Nat} {o : O} (q : h[i]? = some o) : i < h.length := by
  rcases Nat.lt_or_ge i h.length with z | z
  · exact z
  · rw [List.getElem?_eq_none z] at q
    cases q
theorem strOk_of {w : Tx} (h : ∀ c ∈ w, c < 1114112) : PyData.strOk ⟨w.toArray⟩ = true := by
  unfold PyData.strOk
  rw [Array.all_eq_true_iff_forall_mem]
  intro c hc
  exact decide_eq_true (h c (by simpa using hc))
theorem dEq_tup {xs ys : List D} {h : DH} : dCmp .Eq (.tup xs) (.tup ys) h = dEqD (.tup xs) (.tup ys) h := rfl
theorem str_beq {a b : Tx} : ((⟨a.toArray⟩ : PySem.Str) == ⟨b.toArray⟩) = decide (a = b) := by
  by_cases q : a = b
  · subst q; simp
  · rw [decide_eq_false q]
    exact beq_eq_false_iff_ne.mpr fun z => q (str_arr z)
theorem eqv_pair {a b c d : Tx} : PyData.eqv (.tuple [.str ⟨a.toArray⟩, .str ⟨b.toArray⟩]) (.tuple [.str ⟨c.toArray⟩, .str ⟨d.toArray⟩]) = (decide (a = c) && decide (b = d)) := by
  show ((⟨a.toArray⟩ : PySem.Str) == ⟨c.toArray⟩ && ((⟨b.toArray⟩ : PySem.Str) == ⟨d.toArray⟩ && true)) = _
  rw [str_beq, str_beq, Bool.and_true]
def pyOk (d : D) (k : Nat) : Prop := ∃ p, pyD d = some p ∧ p.canLay0 = true ∧ p.depth ≤ k
def pyOks (ds : List D) (k : Nat) : Prop := ∃ ps, pyL ds = some ps ∧ PyData.canLayAll0 ps = true ∧ PyData.depthAll ps ≤ k
def GoodX (x : Tx) : Prop := ∀ c ∈ x, c < 1114112
theorem ok_str {x : Tx} {k : Nat} (g : GoodX x) : pyOk (.str x) k := ⟨_, rfl, strOk_of g, Nat.zero_le _⟩
theorem ok_int {i : Int} {k : Nat} : pyOk (.int i) k := ⟨_, rfl, rfl, Nat.zero_le _⟩
theorem ok_non {k : Nat} : pyOk .non k := ⟨_, rfl, rfl, Nat.zero_le _⟩
theorem ok_nil {k : Nat} : pyOks [] k := ⟨[], rfl, rfl, Nat.zero_le _⟩
theorem ok_cons {d : D} {ds : List D} {k : Nat} (h : pyOk d k) (hs : pyOks ds k) : pyOks (d :: ds) k := by
  obtain ⟨p, e1, e2, e3⟩ := h
  obtain ⟨ps, f1, f2, f3⟩ := hs
  refine ⟨p :: ps, by rw [pyL, e1, f1], ?_, ?_⟩
  · show (p.canLay0 && PyData.canLayAll0 ps) = true
    rw [e2, f2]; rfl
  · show max p.depth (PyData.depthAll ps) ≤ k
    omega
theorem ok_tup {ds : List D} {k : Nat} (hs : pyOks ds k) : pyOk (.tup ds) (k + 1) := by
  obtain ⟨ps, f1, f2, f3⟩ := hs
  refine ⟨.tuple ps, by rw [pyD, f1]; rfl, f2, ?_⟩
  show PyData.depthAll ps + 1 ≤ k + 1
  omega
theorem ok_all {ds : List D} {k : Nat} (h : ∀ d ∈ ds, pyOk d k) : pyOks ds k := by
  induction ds with
  | nil => exact ok_nil
  | cons d r ih => exact ok_cons (h d List.mem_cons_self) (ih fun x hx => h x (List.mem_cons_of_mem _ hx))
theorem ok_up {d : D} {k k' : Nat} (h : pyOk d k) (l : k ≤ k') : pyOk d k' := by
  obtain ⟨p, e1, e2, e3⟩ := h
  exact ⟨p, e1, e2, by omega⟩
theorem shp {p : PyData} {k : Nat} (h1 : p.canLay0 = true) (h2 : p.depth ≤ k) (hk : k ≤ 64) : SeqAt.shaped p = true := by
  unfold SeqAt.shaped
  rw [h1, Bool.true_and]
  exact decide_eq_true (by omega)
theorem eq_self {ds : List D} {h : DH} {k : Nat} (o : pyOk (.tup ds) k) (hk : k ≤ 64) : dCmp .Eq (.tup ds) (.tup ds) h = some true := by
  obtain ⟨p, e1, e2, e3⟩ := o
  rw [dEq_tup]
  have e : pyR h (.tup ds) = some p := e1
  have s := shp e2 e3 hk
  simp only [dEqD, e, s, Bool.and_self, if_true]
  rw [SeqAt.eqv_refl _ (SeqAt.canLay_of_shaped s)]
theorem eq_first {a b : Tx} {xs ys : List D} {h : DH} {k k' : Nat} (o : pyOk (.tup (.str a :: xs)) k) (o' : pyOk (.tup (.str b :: ys)) k') (hk : k ≤ 64) (hk' : k' ≤ 64) (ne : a ≠ b) : dCmp .Eq (.tup (.str a :: xs)) (.tup (.str b :: ys)) h = some false := by
  obtain ⟨p, e1, e2, e3⟩ := o
  obtain ⟨p', f1, f2, f3⟩ := o'
  rw [dEq_tup]
  have e : pyR h (.tup (.str a :: xs)) = some p := e1
  have f : pyR h (.tup (.str b :: ys)) = some p' := f1
  simp only [dEqD, e, f, shp e2 e3 hk, shp f2 f3 hk', Bool.and_self, if_true]
  congr 1
  simp only [pyD, pyL] at e1 f1
  cases q : pyL xs with
  | none => rw [q] at e1; cases e1
  | some ps =>
    cases q' : pyL ys with
    | none => rw [q'] at f1; cases f1
    | some ps' =>
      rw [q] at e1
      rw [q'] at f1
      cases e1
      cases f1
      show ((⟨a.toArray⟩ : PySem.Str) == ⟨b.toArray⟩ && PyData.eqvAll ps ps') = false
      rw [str_beq, decide_eq_false ne]
      rfl
theorem eq_pair {a b c d : Tx} {h : DH} (ga : GoodX a) (gb : GoodX b) (gc : GoodX c) (gd : GoodX d) : dCmp .Eq (.tup [.str a, .str b]) (.tup [.str c, .str d]) h = some (decide (a = c) && decide (b = d)) := by
  rw [dEq_tup]
  have s : ∀ {a b : Tx}, GoodX a → GoodX b → SeqAt.shaped (.tuple [.str ⟨a.toArray⟩, .str ⟨b.toArray⟩]) = true := fun {a b} ga gb => by
    obtain ⟨p, e1, e2, e3⟩ := ok_tup (ok_cons (k := 0) (ok_str ga) (ok_cons (ok_str gb) ok_nil))
    cases e1
    exact shp e2 e3 (by decide)
  have e : ∀ a b : Tx, pyR h (.tup [.str a, .str b]) = some (.tuple [.str ⟨a.toArray⟩, .str ⟨b.toArray⟩]) := fun a b => rfl
  simp only [dEqD, e, s ga gb, s gc gd, Bool.and_self, if_true]
  rw [eqv_pair]
theorem goodX {x : Tx} (h : x.all (fun c => decide (c < 1114112)) = true) : GoodX x := fun c hc => of_decide_eq_true (List.all_eq_true.mp h c hc)
theorem split_U {x s : Tx} {h : DH} (q : s.length ≠ 0 ∧ x.length + 2 ≤ sizeLine) : dBm .split (.str x) [.str s] h = .ok (.ref h.length) (h ++ [.lst ((Txt.split ⟨x.toArray⟩ ⟨s.toArray⟩).map fun z => .str z.cps.toList)]) := if_pos q
theorem find_cap : ∀ c ∈ CAP, Txt.find ⟨CAP.toArray⟩ ⟨([c] : List Nat).toArray⟩ = ((c - 65 : Nat) : Int) := by decide +kernel
theorem join_one : ∀ l : List Nat, TL.joinL [] (l.map fun c => [c]) = l
  | [] => rfl
  | [c] => rfl
  | c :: d :: r => by
    have := join_one (d :: r)
    simp only [List.map_cons] at this ⊢
    rw [TL.joinL, this]
    rfl
theorem sum_one (l : List Nat) : ((l.map fun c => [c]).map fun y : Tx => y.length).sum = l.length := by
  induction l with
  | nil => rfl
  | cons c r ih => simp only [List.map_cons, List.sum_cons, ih, List.length_cons, List.length_nil]; omega
def chD (al : Tx) (more : Int) (m : Int) : D → D
  | .int j => .str [al.getD ((drawn more j) % m).toNat 0]
  | _ => .non
theorem ch_map (al : Tx) (more m : Int) (k : Nat) : (rangeD 0 k).map (chD al more m) = ((List.range k).map fun j : Nat => [al.getD ((drawn more (j : Int)) % m).toNat 0]).map .str := by
  unfold rangeD
  rw [List.map_map, List.map_map]
  apply List.map_congr_left
  intro j _
  simp [chD]
theorem idx_ch {al : Tx} {x : Int} {h : DH} (hz : al.length ≤ sizeLine) (h0 : 0 ≤ x) (h1 : x < al.length) : dIdx (.str al) (.int x) h = .ok (.str [al.getD x.toNat 0]) h := by
  rw [idx_str hz, atI_lt h0 h1 0]
  rfl
theorem getD_mem {al : Tx} {k : Nat} (h : k < al.length) : al.getD k 0 ∈ al := by
  rw [List.getD_eq_getElem?_getD, List.getElem?_eq_getElem h]
  exact List.getElem_mem h
section
variable {n : Nat}
theorem nat_log {j : Nat} (h : j < 1000000) : ((j : Int) + 1).natAbs.log2 < 2000000 := by
  have := nn_log (i := (j : Int) + 1) (n := 21) (by omega) (by omega) (by decide)
  omega
end
section
variable {n : Nat}
theorem joinR_one (l : List Nat) (hl : l.length ≤ 16777216) (h : DH) : joinR [] (some (l.map fun c => [c])) h = .ok (.str l) h := by
  show (if ((l.map fun c => [c]).map fun y : Tx => y.length).sum + (l.map fun c => [c]).length * ([] : Tx).length ≤ 16777216 then Rs.ok (D.str (TL.joinL [] (l.map fun c => [c]))) h else Rs.err) = _
  rw [if_pos (by rw [sum_one, show ([] : Tx).length = 0 from rfl]; omega), join_one]
end
section
variable {n : Nat}
theorem draw_join (al : Tx) (more m : Int) (k : Nat) (hm : 0 < m) (hm2 : m ≤ al.length) (hk : k ≤ 16777216) : ∃ u : Tx, u.length = k ∧ (∀ x ∈ u, x ∈ al) ∧ ∀ h, joinR [] (strsOf ((rangeD 0 k).map (chD al more m))) h = .ok (.str u) h := by
  refine ⟨(List.range k).map fun j : Nat => al.getD ((drawn more (j : Int)) % m).toNat 0, by rw [List.length_map, List.length_range], fun x hx => ?_, fun h => ?_⟩
  · obtain ⟨j, _, rfl⟩ := List.mem_map.mp hx
    have z1 := Int.emod_nonneg (drawn more (j : Int)) (show m ≠ 0 by omega)
    have z2 := Int.emod_lt_of_pos (drawn more (j : Int)) hm
    exact getD_mem (by omega)
  · rw [ch_map, strs_map]
    have z := joinR_one ((List.range k).map fun j : Nat => al.getD ((drawn more (j : Int)) % m).toNat 0) (by rw [List.length_map, List.length_range]; exact hk) h
    rw [List.map_map] at z
    exact z
end
def Kp (n : Nat) (h h' : DH) : Prop := n ≤ h'.length ∧ ∀ i, i < n → h'[i]? = h[i]?
theorem Kp.refl {h : DH} {n : Nat} (l : n ≤ h.length) : Kp n h h := ⟨l, fun _ _ => rfl⟩
theorem Kp.app {n : Nat} {h h' g : DH} (k : Kp n h h') : Kp n h (h' ++ g) := ⟨by rw [List.length_append]; have := k.1; omega, fun i hi => by
  rw [List.getElem?_append_left (by have := k.1; omega)]
  exact k.2 i hi⟩
theorem Kp.set {n i : Nat} {h h' : DH} {x : O} (k : Kp n h h') (hi : n ≤ i) : Kp n h (h'.set i x) := ⟨by rw [List.length_set]; exact k.1, fun j hj => by
  rw [List.getElem?_set_ne (by omega)]
  exact k.2 j hj⟩
theorem Kp.out {h h' : DH} (k : Kp h.length h h') : ∃ g, h' = h ++ g := by
  refine ⟨h'.drop h.length, ?_⟩
  conv => lhs; rw [← List.take_append_drop h.length h']
  congr 1
  apply List.ext_getElem?
  intro i
  by_cases hi : i < h.length
  · rw [List.getElem?_take_of_lt hi, k.2 i hi]
  · rw [List.getElem?_eq_none (by rw [List.length_take]; omega), List.getElem?_eq_none (by omega)]
theorem Kp.trans {n : Nat} {h h1 h2 : DH} (a : Kp n h h1) (b : Kp n h1 h2) : Kp n h h2 := ⟨b.1, fun i hi => (b.2 i hi).trans (a.2 i hi)⟩
def Scr (ns : List Int) (sd : D) (h : DH) : Prop := sd = .frl (ns.map .int) ∨ ∃ i, sd = .ref i ∧ h[i]? = some (.lst (ns.map .int))
theorem Scr.keep {ns : List Int} {sd : D} {h h' : DH} (s : Scr ns sd h) (k : Kp h.length h h') : Scr ns sd h' := by
  rcases s with rfl | ⟨i, rfl, q⟩
  · exact .inl rfl
  · exact .inr ⟨i, rfl, by rw [k.2 i (lt_of_get q)]; exact q⟩
theorem ints_py : ∀ ns : List Int, pyL (ns.map D.int) = some (ns.map PyData.int)
  | [] => rfl
  | z :: r => by rw [List.map_cons, List.map_cons, pyL, ints_py r]; rfl
theorem ints_lay : ∀ ns : List Int, PyData.canLayAll0 (ns.map PyData.int) = true ∧ PyData.depthAll (ns.map PyData.int) = 0
  | [] => ⟨rfl, rfl⟩
  | z :: r => by
    obtain ⟨h1, h2⟩ := ints_lay r
    refine ⟨?_, ?_⟩
    · show ((PyData.int z).canLay0 && PyData.canLayAll0 (r.map PyData.int)) = true
      rw [h1]; rfl
    · show max (PyData.int z).depth (PyData.depthAll (r.map PyData.int)) = 0
      rw [h2]; rfl
theorem scr_eq {ns : List Int} {sd : D} {h : DH} {b : Nat} (s : Scr ns sd h) (hb : h[b]? = some (.lst [])) : dCmp .Eq sd (.ref b) h = some (decide (ns = [])) := by
  have e : pyR h sd = some (.list (ns.map PyData.int)) := by
    rcases s with rfl | ⟨i, rfl, q⟩
    · show (pyL (ns.map D.int)).map PyData.list = _
      rw [ints_py]; rfl
    · simp only [pyR, q, ints_py]; rfl
  have e0 : dCmp .Eq sd (.ref b) h = dEqD sd (.ref b) h := by rcases s with rfl | ⟨i, rfl, q⟩ <;> rfl
  have e2 : pyR h (.ref b) = some (.list []) := by simp only [pyR, hb, pyL]; rfl
  obtain ⟨h1, h2⟩ := ints_lay ns
  have sh : SeqAt.shaped (.list (ns.map PyData.int)) = true := by
    unfold SeqAt.shaped
    rw [Bool.and_eq_true]
    refine ⟨h1, decide_eq_true ?_⟩
    show PyData.depthAll (ns.map PyData.int) + 1 ≤ 64
    omega
  have s2 : SeqAt.shaped (.list []) = true := by decide
  rw [e0]
  simp only [dEqD, e, e2, sh, s2, Bool.and_self, if_true]
  cases ns with
  | nil => rfl
  | cons t r => simp [PyData.eqv, PyData.eqvAll]
theorem scr_len {ns : List Int} {sd : D} {h : DH} (s : Scr ns sd h) : dBi .len [sd] h = .ok (.int ns.length) h := by
  rcases s with rfl | ⟨i, rfl, q⟩
  · rw [len_frl, List.length_map]
  · rw [len_ref q, List.length_map]
theorem scr_at {ns : List Int} {sd : D} {h : DH} {i : Int} (s : Scr ns sd h) (h0 : 0 ≤ i) (h1 : i < ns.length) : ∃ v ∈ ns, dIdx sd (.int i) h = .ok (.int v) h := by
  obtain ⟨v, hv, e⟩ := pickI (vs := ns) h0 h1
  refine ⟨v, hv, ?_⟩
  rcases s with rfl | ⟨j, rfl, q⟩
  · rw [idx_frl, e]; rfl
  · rw [idx_ref q, e]; rfl
theorem bits_log {z : Int} (h : Builtin.Int.intBits z ≤ 1048576) : z.natAbs < 2 ^ 1048576 := by
  unfold Builtin.Int.intBits at h
  split at h
  · rename_i q
    have : z = 0 := by simpa using q
    subst this
    exact Nat.pow_pos (by decide)
  · exact Nat.lt_of_lt_of_le Nat.lt_log2_self (Nat.pow_le_pow_right (by decide) h)
def Small (ns : List Int) : Prop := ∀ z ∈ ns, z.natAbs < 2 ^ 1048576
theorem small_of {ns : List Int} (h : ∀ z ∈ ns, Builtin.Int.intBits z ≤ 1048576) : Small ns := fun z hz => bits_log (h z hz)
section
variable {n : Nat}
theorem c_cell {ns : List Int} {sd : D} {h : DH} (s : Scr ns sd h) (hb : Small ns) {k : Int} (hk : 0 ≤ k) (hk2 : k ≤ 100) (hl : ns.length ≤ 63) : ∃ c g, c.natAbs.log2 < 2000000 ∧ callN T (n + 1) 1 [sd, .int k] h = .ok (.int c) (h ++ g) := by
  rw [call_eq (fn := q1.fn) rfl rfl]
  simp only [Def1.fn, q1, b__law_cell]
  have s' : Scr ns sd (h ++ [.lst []]) := s.keep (Kp.refl (Nat.le_refl _)).app
  have eq := scr_eq s' (b := h.length) (by simp)
  have lk : k.natAbs.log2 < 10 := nn_log hk (by omega) (by decide)
  have l7 : (7919 : Int).natAbs.log2 < 100 := by decide
  by_cases q : ns = []
  · rw [decide_eq_true q] at eq
    refine ⟨k * 7919, [.lst []], ?_, ?_⟩
    · have := nn_log (i := k * 7919) (n := 20) (by omega) (by omega) (by decide)
      omega
    · simp (disch := first | with_reducible assumption | omega | with_reducible exact size_le (by omega) | decide | (simp only [List.length_cons, List.length_nil, List.length_append]; first | omega | with_reducible exact size_le (by omega)) | exact ⟨by simp only [List.length_cons, List.length_nil]; omega, by decide⟩ | fail) [-getElem?_pos, -getElem?_neg, -Int.natCast_add, le_size, rngR_ok, mul_int, mod_int, div_int, pow_int, add_str, len_str, len_refU, idx_refU, any_refU, all_refU, in_refU, in_tupU, okTo_appU, append_U, it_refU, join_refU, add_refU, isi_refU, idx_str, slc_str, str_int, int_str, meOf, List.lookup, fldOf, putN, putR_ok, List.getElem?_cons_zero, List.getElem?_cons_succ, List.getElem?_concat_length, get_app, get_app0, en_refU, mul_refU, tupF_refU, slc_refU, eq]
  · rw [decide_eq_false q] at eq
    have hp : 0 < ns.length := List.length_pos_iff.mpr q
    obtain ⟨N, hN⟩ : ∃ N : Int, N = (ns.length : Int) := ⟨_, rfl⟩
    have el := scr_len s'
    rw [← hN] at el
    have hN0 : 0 < N := by omega
    have hN1 : N ≤ 63 := by omega
    have lN : N.natAbs.log2 < 9000 := by
      have := nn_log (i := N) (n := 10) (by omega) (by omega) (by decide)
      omega
    obtain ⟨v, hv, ea⟩ := scr_at s' (i := k % N) (Int.emod_nonneg _ (by omega)) (by rw [← hN]; exact Int.emod_lt_of_pos _ hN0)
    have hd0 : 0 ≤ k / N := Int.ediv_nonneg hk (by omega)
    have hd1 : k / N ≤ 100 := by
      have := Int.ediv_le_self N hk
      omega
    have ld : (k / N).natAbs.log2 < 10 := nn_log hd0 (by omega) (by decide)
    have l1 : (104729 : Int).natAbs.log2 < 100 := by decide
    refine ⟨v + k / N * 104729, [.lst []], ?_, ?_⟩
    · have hz := hb v hv
      refine Nat.lt_of_lt_of_le (log_lt (n := 1048577) ?_ (by decide)) (by decide)
      have h20 : (k / N * 104729).natAbs < 2 ^ 1048576 := by
        refine Nat.lt_of_lt_of_le (m := 2 ^ 30) ?_ (Nat.pow_le_pow_right (by decide) (by decide))
        omega
      have : (2 : Nat) ^ 1048577 = 2 ^ 1048576 + 2 ^ 1048576 := by rw [Nat.pow_succ]; omega
      rw [this]
      exact Nat.lt_of_le_of_lt (Int.natAbs_add_le _ _) (Nat.add_lt_add hz h20)
    · have hdv : (0 < N ∧ N.natAbs.log2 < 9000) := ⟨hN0, lN⟩
      simp (disch := first | with_reducible assumption | omega | with_reducible exact size_le (by omega) | decide | (simp only [List.length_cons, List.length_nil, List.length_append]; first | omega | with_reducible exact size_le (by omega)) | exact ⟨by simp only [List.length_cons, List.length_nil]; omega, by decide⟩ | fail) [-getElem?_pos, -getElem?_neg, -Int.natCast_add, le_size, rngR_ok, mul_int, mod_int, div_int, pow_int, add_str, len_str, len_refU, idx_refU, any_refU, all_refU, in_refU, in_tupU, okTo_appU, append_U, it_refU, join_refU, add_refU, isi_refU, idx_str, slc_str, str_int, int_str, meOf, List.lookup, fldOf, putN, putR_ok, List.getElem?_cons_zero, List.getElem?_cons_succ, List.getElem?_concat_length, get_app, get_app0, en_refU, mul_refU, tupF_refU, slc_refU, eq, el, ea, hdv]
end
section
variable {n : Nat}
theorem c_draw {ns : List Int} {sd : D} {h : DH} (s : Scr ns sd h) (hb : Small ns) {k : Int} (hk : 0 ≤ k) (hk2 : k ≤ 100) (hl : ns.length ≤ 63) {j : Int} (hj : 0 ≤ j) (hj2 : j ≤ 1000) : ∃ c g, callN T (n + 1) 1 [sd, .int k] h = .ok (.int c) (h ++ g) ∧ ∃ d, 0 ≤ d ∧ d < 340282366920938463463374607431768211507 ∧ callN T (n + 1) 0 [.int c, .int j] (h ++ g) = .ok (.int d) (h ++ g) := by
  obtain ⟨c, g, lc, ec⟩ := c_cell (n := n) s hb hk hk2 hl
  have lj : (j + 1).natAbs.log2 < 2000000 := by
    have := nn_log (i := j + 1) (n := 20) (by omega) (by omega) (by decide)
    omega
  exact ⟨c, g, ec, _, drawn_nn c j, drawn_lt c j, c_drawn n c j (h ++ g) lc lj⟩
end
def SIG : Tx := [32, 33, 35, 36, 38, 39, 40, 41, 42, 43, 44, 45, 46, 47, 48, 49, 50, 51, 52, 53, 54, 55, 56, 57, 58, 59, 60, 61, 62, 63, 64, 65, 66, 67, 68, 69, 70, 71, 72, 73, 74, 75, 76, 77, 78, 79, 80, 81, 82, 83] ++ [84, 85, 86, 87, 88, 89, 90, 91, 92, 93, 94, 95, 96, 97, 98, 99, 100, 101, 102, 103, 104, 105, 106, 107, 108, 109, 110, 111, 112, 113, 114, 115, 116, 117, 118, 119, 120, 121, 122, 123, 124, 125, 126]
theorem sig_of {c : Nat} (h : c ∈ SIG) : 32 ≤ c ∧ c ≤ 126 ∧ c ≠ 34 ∧ c ≠ 37 := by
  have key : ∀ c ∈ SIG, 32 ≤ c ∧ c ≤ 126 ∧ c ≠ 34 ∧ c ≠ 37 := by decide
  exact key c h
theorem fig_sig {c : Nat} (h : 48 ≤ c ∧ c ≤ 57) : c ∈ SIG := by
  have key : ∀ c ∈ FIG, c ∈ SIG := by decide
  exact key c (mem_FIG.mpr h)
theorem sig_len : SIG.length = 93 := by decide +kernel
end K30

namespace K30
open PySem L2 Mp
/-! ### names -/
def BRD : List Tx := [[76, 69, 84], [80, 82, 73, 78, 84], [73, 78, 80, 85, 84], [73, 70], [84, 72, 69, 78], [69, 76, 83, 69], [71, 79, 84, 79], [71, 79, 83, 85, 66], [82, 69, 84, 85, 82, 78], [70, 79, 82], [84, 79], [83, 84, 69, 80], [78, 69, 88, 84], [79, 78], [68, 73, 77], [68, 65, 84, 65], [82, 69, 65, 68], [82, 69, 83, 84, 79, 82, 69], [82, 69, 77], [69, 78, 68], [83, 84, 79, 80], [65, 78, 68], [79, 82], [78, 79, 84], [68, 73, 86], [77, 79, 68], [65, 66, 83], [83, 71, 78], [76, 69, 78], [86, 65, 76], [70, 73, 78, 68], [83, 84, 82, 36], [76, 69, 70, 84, 36], [82, 73, 71, 72, 84, 36], [77, 73, 68, 36]]
theorem c_barred {n : Nat} (h : DH) : callN T (n + 1) 2 [] h = .ok (.ref h.length) (h ++ [.lst (BRD.map .str)]) := by
  rw [call_eq (fn := q2.fn) rfl rfl]
  simp only [Def1.fn, q2, b__law_barred]
  simp (disch := first | exact size_le (by decide) | exact ⟨by decide, size_le (by decide)⟩) only [s_seq, s_set, v_lit, bindO_ok, stName_ok, setO_ok, seqO_nx, s_ret, v_bm, v_bin, v_var, v_cons, v_nil, List.map_nil, List.nil_append, List.length_nil, List.length_cons, Nat.reduceSub, Nat.reduceAdd, List.replicate, List.set_cons_zero, List.getElem?_cons_zero, varR_ok, bind_ok, add_str, okTo_split, if_true, split_U, seqO_rt, fin_rt]
  congr 3
  kernel_rfl
def FREE : Tx := [66, 67, 72, 74, 75, 81, 85, 87, 88, 89, 90]
theorem free_ok : ∀ c ∈ FREE, c ∈ CAP ∧ ∀ x ∈ BRD, x.headD 0 ≠ c := by decide
theorem free_at (r : Tx) : ∀ (found : List Tx) (L : Tx), L.Nodup → found.length < L.length → ∃ c ∈ L, c :: r ∉ found
  | [], L, _, hl => by
    cases L with
    | nil => cases hl
    | cons c L => exact ⟨c, List.mem_cons_self, fun z => nomatch z⟩
  | y :: f, L, nd, hl => by
    rw [List.length_cons] at hl
    by_cases q : ∃ c ∈ L, y = c :: r
    · obtain ⟨c0, hc0, rfl⟩ := q
      obtain ⟨c, hc, n⟩ := free_at r f (L.erase c0) (nd.erase c0) (by rw [List.length_erase_of_mem hc0]; omega)
      refine ⟨c, List.mem_of_mem_erase hc, fun z => ?_⟩
      rcases List.mem_cons.mp z with z | z
      · have z := (List.cons.inj z).1
        rw [z] at hc
        exact (List.Nodup.not_mem_erase nd) hc
      · exact n z
    · obtain ⟨c, hc, n⟩ := free_at r f L nd (by omega)
      refine ⟨c, hc, fun z => ?_⟩
      rcases List.mem_cons.mp z with z | z
      · exact q ⟨c, hc, z.symm⟩
      · exact n z
/-- a name with its end -/
structure NmE (e x : Tx) : Prop where
  ex : ∃ w, x = w ++ e ∧ w ≠ [] ∧ (∀ c, w.head? = some c → c ∈ CAP) ∧ (∀ c ∈ w, c ∈ CF) ∧ w.length + e.length ≤ 8
  nb : x ∉ BRD
theorem strs_one (l : Tx) : strsOf (l.map fun c => D.str [c]) = some (l.map fun c => [c]) := by
  have := strs_map (l.map fun c => ([c] : Tx))
  rw [List.map_map] at this
  exact this
section
variable {n : Nat}
def nxtC (c : Nat) : Nat := CAP.getD ((c - 65 + 1) % 26) 0
theorem nxt_ok : ∀ c ∈ CAP, nxtC c ∈ CAP ∧ nxtC c = (if c = 90 then 65 else c + 1) := by decide
theorem nm_loop {found : List Tx} {f : Nat} {r : Tx} (hr : r.length ≤ 7) (a0 a1 a2 a4 a5 a7 a8 a9 a11 : Option D) {t : Nat} (ht : t ∈ CAP) (hf1 : t :: r ∉ found) (hf2 : t :: r ∉ BRD) : ∀ (k c : Nat) (h : DH), c ∈ CAP → (t + 26 - c) % 26 = k → h[f]? = some (.lst (found.map .str)) →
    ∃ c' g, c' ∈ CAP ∧ c' :: r ∉ found ∧ c' :: r ∉ BRD ∧ sWhl (t__law_names_1 (callN T (n + 1))) (l__law_names_1 (callN T (n + 1))) [a0, a1, a2, some (.str CAP), a4, a5, some (.ref f), a7, a8, a9, some (.str (c :: r)), a11] h
      = .nx [a0, a1, a2, some (.str CAP), a4, a5, some (.ref f), a7, a8, a9, some (.str (c' :: r)), a11] (h ++ g) := by
  intro k
  have ew : strsOf (BRD.map .str) = some BRD := strs_map _
  have ef : strsOf (found.map .str) = some found := strs_map _
  have cond : ∀ (c : Nat) (h : DH), h[f]? = some (.lst (found.map .str)) → ∃ g, t__law_names_1 (callN T (n + 1)) [a0, a1, a2, some (.str CAP), a4, a5, some (.ref f), a7, a8, a9, some (.str (c :: r)), a11] h = .ok (.bl (decide (c :: r ∈ found) || decide (c :: r ∈ BRD))) (h ++ g) := fun c h hf => by
    by_cases q : c :: r ∈ found
    · refine ⟨[], ?_⟩
      simp only [t__law_names_1]
      simp (disch := first | with_reducible assumption | omega | with_reducible exact size_le (by omega) | decide | (simp only [List.length_cons, List.length_nil, List.length_append]; first | omega | with_reducible exact size_le (by omega)) | exact ⟨by simp only [List.length_cons, List.length_nil]; omega, by decide⟩ | fail) [-getElem?_pos, -getElem?_neg, -Int.natCast_add, le_size, rngR_ok, mul_int, mod_int, div_int, pow_int, add_str, len_str, len_refU, idx_refU, any_refU, all_refU, in_refU, in_tupU, okTo_appU, append_U, it_refU, join_refU, add_refU, isi_refU, idx_str, slc_str, str_int, int_str, meOf, List.lookup, fldOf, putN, putR_ok, List.getElem?_cons_zero, List.getElem?_cons_succ, List.getElem?_concat_length, get_app, get_app0, en_refU, mul_refU, tupF_refU, slc_refU, hf, ef, q]
    · refine ⟨[.lst (BRD.map .str)], ?_⟩
      simp only [t__law_names_1]
      simp (disch := first | with_reducible assumption | omega | with_reducible exact size_le (by omega) | decide | (simp only [List.length_cons, List.length_nil, List.length_append]; first | omega | with_reducible exact size_le (by omega)) | exact ⟨by simp only [List.length_cons, List.length_nil]; omega, by decide⟩ | fail) [-getElem?_pos, -getElem?_neg, -Int.natCast_add, le_size, rngR_ok, mul_int, mod_int, div_int, pow_int, add_str, len_str, len_refU, idx_refU, any_refU, all_refU, in_refU, in_tupU, okTo_appU, append_U, it_refU, join_refU, add_refU, isi_refU, idx_str, slc_str, str_int, int_str, meOf, List.lookup, fldOf, putN, putR_ok, List.getElem?_cons_zero, List.getElem?_cons_succ, List.getElem?_concat_length, get_app, get_app0, en_refU, mul_refU, tupF_refU, slc_refU, hf, ef, q, c_barred, ew]
  induction k with
  | zero =>
    intro c h hc hk hf
    have e : c = t := by
      have h1 := mem_CAP.mp hc
      have h2 := mem_CAP.mp ht
      omega
    subst e
    obtain ⟨g, e⟩ := cond c h hf
    rw [decide_eq_false hf1, decide_eq_false hf2] at e
    exact ⟨c, g, hc, hf1, hf2, sWhl_stop e⟩
  | succ k ih =>
    intro c h hc hk hf
    obtain ⟨g, e⟩ := cond c h hf
    by_cases q : c :: r ∈ found ∨ c :: r ∈ BRD
    · have eb : (decide (c :: r ∈ found) || decide (c :: r ∈ BRD)) = true := by
        rw [Bool.or_eq_true, decide_eq_true_eq, decide_eq_true_eq]
        exact q
      rw [eb] at e
      have hf' : (h ++ g)[f]? = some (.lst (found.map .str)) := by rw [List.getElem?_append_left (lt_of_get hf)]; exact hf
      obtain ⟨n1, n2⟩ := nxt_ok c hc
      obtain ⟨c', g', r1, r2, r3, r4⟩ := ih (nxtC c) (h ++ g) n1 (by
        have h1 := mem_CAP.mp hc
        have h2 := mem_CAP.mp ht
        rw [n2]
        split <;> omega) hf'
      refine ⟨c', g ++ g', r1, r2, r3, ?_⟩
      rw [sWhl_go e (e2 := [a0, a1, a2, some (.str CAP), a4, a5, some (.ref f), a7, a8, a9, some (.str (nxtC c :: r)), a11]) (h2 := h ++ g), r4, List.append_assoc]
      have fc := find_cap c hc
      have i0 : atI (c :: r) 0 = some c := atI_nat (c :: r) 0 (by simp)
      have cutt : cutG (c :: r) (some 1) none = r := cut_nat0 (x := c :: r) (a := 1)
      have hcm := mem_CAP.mp hc
      have pk := idx_ch (al := CAP) (x := (((c - 65 : Nat) : Int) + 1) % 26) (h := h ++ g) (size_le (by decide)) (by omega) (by show _ < ((26 : Nat) : Int); omega)
      have ex : ((((c - 65 : Nat) : Int) + 1) % 26).toNat = (c - 65 + 1) % 26 := by omega
      rw [ex] at pk
      generalize h ++ g = H at *
      simp only [l__law_names_1]
      simp (disch := first | with_reducible assumption | omega | with_reducible exact size_le (by omega) | decide | (simp only [List.length_cons, List.length_nil, List.length_append]; first | omega | with_reducible exact size_le (by omega)) | exact ⟨by simp only [List.length_cons, List.length_nil]; omega, by decide⟩ | fail) [-getElem?_pos, -getElem?_neg, -Int.natCast_add, le_size, rngR_ok, mul_int, mod_int, div_int, pow_int, add_str, len_str, len_refU, idx_refU, any_refU, all_refU, in_refU, in_tupU, okTo_appU, append_U, it_refU, join_refU, add_refU, isi_refU, idx_str, slc_str, str_int, int_str, meOf, List.lookup, fldOf, putN, putR_ok, List.getElem?_cons_zero, List.getElem?_cons_succ, List.getElem?_concat_length, get_app, get_app0, en_refU, mul_refU, tupF_refU, slc_refU, i0, fc, pk, cutt, nxtC]
    · rw [not_or] at q
      rw [decide_eq_false q.1, decide_eq_false q.2] at e
      exact ⟨c, g, hc, q.1, q.2, sWhl_stop e⟩
end
end K30

namespace K30
open PySem L2 Mp
def rowC (l : Tx) : List D := l.map fun c => .str [c]
theorem ixN_lt {m : Nat} {k : Int} (h0 : 0 ≤ k) (h1 : k < m) : ixN m k = some k.toNat := by
  unfold ixN
  simp only [h0, h1, if_true]
theorem rowC_set (l : Tx) (k c : Nat) : (rowC l).set k (.str [c]) = rowC (l.set k c) := by
  unfold rowC
  rw [List.map_set]
theorem rowC_len (l : Tx) : (rowC l).length = l.length := by unfold rowC; rw [List.length_map]
theorem rowC_at (l : Tx) {c : Nat} {r : Tx} (e : l = c :: r) : atI (rowC l) 0 = some (.str [c]) := by
  subst e
  have := atI_nat (rowC (c :: r)) 0 (by simp [rowC])
  exact this
theorem set_app2 {h : DH} {x y : O} : (h ++ [x]).set h.length y = h ++ [y] := by simp
section
variable {n : Nat}
theorem nm_body {e : Tx} (he : e = [] ∨ e = [36]) {more many l j : Int} (h0 : 0 ≤ more) (h1 : more < 2 ^ 129) (hl : 1 ≤ l) (hl2 : l + e.length ≤ 8) {found : List Tx} (hfl : found.length ≤ 9) {f : Nat} (hj : 0 ≤ j) (hj2 : j ≤ 100) (a8 a9 a10 : Option D) (h : DH) (hf : h[f]? = some (.lst (found.map .str))) :
    ∃ x g y8 y9, NmE e x ∧ x ∉ found ∧ l__law_names_2 (callN T (n + 1)) [some (.int more), some (.int many), some (.str e), some (.str CAP), some (.str CF), some (.int l), some (.ref f), some (.int j), a8, a9, a10, none] h
      = .nx [some (.int more), some (.int many), some (.str e), some (.str CAP), some (.str CF), some (.int l), some (.ref f), some (.int j), y8, y9, some (.str x), none] (h.set f (.lst ((found ++ [x]).map .str)) ++ g) := by
  have hel : e.length ≤ 1 := by rcases he with rfl | rfl <;> decide
  have l0 : more.natAbs.log2 < 2000000 := by
    have := nn_log h0 h1 (by decide)
    omega
  have lj : ((90 + j) + 1).natAbs.log2 < 2000000 := by
    have := nn_log (i := (90 + j) + 1) (n := 20) (by omega) (by omega) (by decide)
    omega
  have ed := c_drawn n more (90 + j) h l0 lj
  have d0 := drawn_nn more (90 + j)
  have d1 := drawn_lt more (90 + j)
  generalize drawn more (90 + j) = here at *
  obtain ⟨L, hL⟩ : ∃ L : Nat, l = L := Int.eq_ofNat_of_zero_le (by omega)
  have hz36 : CF.length ≤ sizeLine := size_le (by decide)
  have cm : compL none (stName 11) mTrue (t__law_names_2 (callN T (n + 1))) [some (.int more), some (.int many), some (.str e), some (.str CAP), some (.str CF), some (.int l), some (.ref f), some (.int j), some (.int here), a9, a10, none] (rangeD 0 l.toNat) h = .ok ((rangeD 0 l.toNat).map (chD CF more 36)) h := by
    refine compL_map _ still_none _ fun d hd => ?_
    unfold rangeD at hd
    obtain ⟨k, hk, rfl⟩ := List.mem_map.mp hd
    rw [List.mem_range] at hk
    have hd2 := c_drawn n more ((0 : Int) + (k : Int)) h l0 (by rw [Int.zero_add]; exact nat_log (by omega))
    have hi := idx_ch (al := CF) (x := drawn more (0 + (k : Int)) % 36) (h := h) hz36 (by omega) (by show _ < ((36 : Nat) : Int); omega)
    refine ⟨_, rfl, rfl, ?_⟩
    simp only [t__law_names_2]
    simp (disch := first | with_reducible assumption | omega | with_reducible exact size_le (by omega) | decide | (simp only [List.length_cons, List.length_nil, List.length_append]; first | omega | with_reducible exact size_le (by omega)) | exact ⟨by simp only [List.length_cons, List.length_nil]; omega, by decide⟩ | fail) [-getElem?_pos, -getElem?_neg, -Int.natCast_add, le_size, rngR_ok, mul_int, mod_int, div_int, pow_int, add_str, len_str, len_refU, idx_refU, any_refU, all_refU, in_refU, in_tupU, okTo_appU, append_U, it_refU, join_refU, add_refU, isi_refU, idx_str, slc_str, str_int, int_str, meOf, List.lookup, fldOf, putN, putR_ok, List.getElem?_cons_zero, List.getElem?_cons_succ, List.getElem?_concat_length, get_app, get_app0, en_refU, mul_refU, tupF_refU, slc_refU, -Int.zero_add, hd2, hi, chD]
  have eL : l.toNat = L := by omega
  rw [eL, ch_map] at cm
  obtain ⟨r0, er0, hr0, hc0⟩ : ∃ r0 : Tx, ((List.range L).map fun j : Nat => [CF.getD ((drawn more (j : Int)) % 36).toNat 0]).map D.str = rowC r0 ∧ r0.length = L ∧ ∀ c ∈ r0, c ∈ CF := by
    refine ⟨(List.range L).map fun j : Nat => CF.getD ((drawn more (j : Int)) % 36).toNat 0, by unfold rowC; rw [List.map_map, List.map_map]; rfl, by rw [List.length_map, List.length_range], fun c hc => ?_⟩
    obtain ⟨k, _, rfl⟩ := List.mem_map.mp hc
    exact getD_mem (by show _ < 36; omega)
  rw [er0] at cm
  have hrl : (rangeD 0 l.toNat).length ≤ sizeLine := size_le (by unfold rangeD; rw [List.length_map, List.length_range]; omega)
  have hz26 : CAP.length ≤ sizeLine := size_le (by decide)
  -- row[here % l] = ..
  have p1 := idx_ch (al := CF) (x := here / 8 % 36) (h := h ++ [.lst (rowC r0)]) hz36 (by omega) (by show _ < ((36 : Nat) : Int); omega)
  have c1m : CF.getD (here / 8 % 36).toNat 0 ∈ CF := getD_mem (by show _ < 36; omega)
  generalize CF.getD (here / 8 % 36).toNat 0 = c1 at *
  have k0 : 0 ≤ here % l := Int.emod_nonneg _ (by omega)
  have k1 : here % l < l := Int.emod_lt_of_pos _ (by omega)
  have g1 : (h ++ [O.lst (rowC r0)])[h.length]? = some (.lst (rowC r0)) := by simp
  have it1 := itm_ok (y := D.str [c1]) (e := [some (.int more), some (.int many), some (.str e), some (.str CAP), some (.str CF), some (.int l), some (.ref f), some (.int j), some (.int here), some (.ref h.length), a10, none]) g1 (ixN_lt (k := here % l) k0 (by rw [rowC_len, hr0]; omega))
  rw [rowC_set, set_app2] at it1
  generalize hr1 : r0.set (here % l).toNat c1 = r1 at *
  have hr1l : r1.length = L := by rw [← hr1, List.length_set]; exact hr0
  have hr1c : ∀ c ∈ r1, c ∈ CF := fun c hc => by
    rw [← hr1] at hc
    rcases List.mem_or_eq_of_mem_set hc with hc | rfl
    · exact hc0 c hc
    · exact c1m
  obtain ⟨b, rr, eb⟩ := List.exists_cons_of_ne_nil (l := r1) (fun z => by rw [z] at hr1l; simp at hr1l; omega)
  have a0 := rowC_at r1 eb
  have g2 : (h ++ [O.lst (rowC r1)])[h.length]? = some (.lst (rowC r1)) := by simp
  have p2 := atI_lt (xs := CAP) (i := here / 512 % 26) (by omega) (by show _ < ((26 : Nat) : Int); omega) 0
  have c2m : CAP.getD (here / 512 % 26).toNat 0 ∈ CAP := getD_mem (by show _ < 26; omega)
  generalize CAP.getD (here / 512 % 26).toNat 0 = c2 at *
  have it2 := itm_ok (y := D.str [c2]) (e := [some (.int more), some (.int many), some (.str e), some (.str CAP), some (.str CF), some (.int l), some (.ref f), some (.int j), some (.int here), some (.ref h.length), a10, none]) g2 (ixN_lt (k := 0) (Int.le_refl _) (by rw [rowC_len, hr1l]; omega))
  rw [rowC_set, set_app2] at it2
  -- the row as it is joined
  obtain ⟨b2, r2, hb2, hr2, st⟩ : ∃ b2 r2, b2 ∈ CAP ∧ (b2 :: r2).length = L ∧ (∀ c ∈ r2, c ∈ CF) ∧ sIf (mCmp .NotIn (mIdx (mVar 9) (mLit (.int 0))) (mVar 3)) (sSeq (sItm (mVar 9) (mLit (.int 0)) (mIdx (mVar 3) (mBin .Mod (mBin .FloorDiv (mVar 8) (mLit (.int 512))) (mLit (.int 26))))) sNext) sNext
      [some (.int more), some (.int many), some (.str e), some (.str CAP), some (.str CF), some (.int l), some (.ref f), some (.int j), some (.int here), some (.ref h.length), a10, none] (h ++ [.lst (rowC r1)])
      = .nx [some (.int more), some (.int many), some (.str e), some (.str CAP), some (.str CF), some (.int l), some (.ref f), some (.int j), some (.int here), some (.ref h.length), a10, none] (h ++ [.lst (rowC (b2 :: r2))]) := by
    by_cases q : b ∈ CAP
    · refine ⟨b, rr, q, by rw [← eb]; exact hr1l, fun c hc => hr1c c (by rw [eb]; exact List.mem_cons_of_mem _ hc), ?_⟩
      rw [← eb]
      generalize h ++ [O.lst (rowC r1)] = H at *
      simp (disch := first | with_reducible assumption | omega | with_reducible exact size_le (by omega) | decide | (simp only [List.length_cons, List.length_nil, List.length_append]; first | omega | with_reducible exact size_le (by omega)) | exact ⟨by simp only [List.length_cons, List.length_nil]; omega, by decide⟩ | fail) [-getElem?_pos, -getElem?_neg, -Int.natCast_add, le_size, rngR_ok, mul_int, mod_int, div_int, pow_int, add_str, len_str, len_refU, idx_refU, any_refU, all_refU, in_refU, in_tupU, okTo_appU, append_U, it_refU, join_refU, add_refU, isi_refU, idx_str, slc_str, str_int, int_str, meOf, List.lookup, fldOf, putN, putR_ok, List.getElem?_cons_zero, List.getElem?_cons_succ, List.getElem?_concat_length, get_app, get_app0, en_refU, mul_refU, tupF_refU, slc_refU, g2, a0, q]
    · have e2 : r1.set (0 : Int).toNat c2 = c2 :: rr := by rw [eb]; rfl
      rw [e2] at it2
      refine ⟨c2, rr, c2m, by rw [List.length_cons]; rw [eb, List.length_cons] at hr1l; exact hr1l, fun c hc => hr1c c (by rw [eb]; exact List.mem_cons_of_mem _ hc), ?_⟩
      generalize h ++ [O.lst (rowC r1)] = H at *
      simp (disch := first | with_reducible assumption | omega | with_reducible exact size_le (by omega) | decide | (simp only [List.length_cons, List.length_nil, List.length_append]; first | omega | with_reducible exact size_le (by omega)) | exact ⟨by simp only [List.length_cons, List.length_nil]; omega, by decide⟩ | fail) [-getElem?_pos, -getElem?_neg, -Int.natCast_add, le_size, rngR_ok, mul_int, mod_int, div_int, pow_int, add_str, len_str, len_refU, idx_refU, any_refU, all_refU, in_refU, in_tupU, okTo_appU, append_U, it_refU, join_refU, add_refU, isi_refU, idx_str, slc_str, str_int, int_str, meOf, List.lookup, fldOf, putN, putR_ok, List.getElem?_cons_zero, List.getElem?_cons_succ, List.getElem?_concat_length, get_app, get_app0, en_refU, mul_refU, tupF_refU, slc_refU, g2, a0, q, p2, it2]
  obtain ⟨hr2c, st⟩ := st
  have g3 : (h ++ [O.lst (rowC (b2 :: r2))])[h.length]? = some (.lst (rowC (b2 :: r2))) := by simp
  have jn : joinR [] (strsOf (rowC (b2 :: r2))) (h ++ [O.lst (rowC (b2 :: r2))]) = .ok (.str (b2 :: r2)) (h ++ [O.lst (rowC (b2 :: r2))]) := by
    unfold rowC
    rw [strs_one]
    exact joinR_one _ (by omega) _
  have hf3 : (h ++ [O.lst (rowC (b2 :: r2))])[f]? = some (.lst (found.map .str)) := by rw [List.getElem?_append_left (lt_of_get hf)]; exact hf
  obtain ⟨t, ht, hn1⟩ := free_at (r2 ++ e) found FREE (by decide) (by show _ < 11; omega)
  obtain ⟨t1, t2⟩ := free_ok t ht
  have hn2 : t :: (r2 ++ e) ∉ BRD := fun z => t2 _ z rfl
  rw [List.length_cons] at hr2
  obtain ⟨c', g, q1, q2, q3, lp⟩ := nm_loop (n := n) (r := r2 ++ e) (by rw [List.length_append]; omega) (some (.int more)) (some (.int many)) (some (.str e)) (some (.str CF)) (some (.int l)) (some (.int j)) (some (.int here)) (some (.ref h.length)) none t1 hn1 hn2 _ b2 (h ++ [O.lst (rowC (b2 :: r2))]) hb2 rfl hf3
  refine ⟨c' :: (r2 ++ e), [O.lst (rowC (b2 :: r2))] ++ g, some (.int here), some (.ref h.length), ⟨⟨c' :: r2, rfl, by simp, fun c hc => by cases hc; exact q1, fun c hc => ?_, by rw [List.length_cons]; omega⟩, q3⟩, q2, ?_⟩
  · rcases List.mem_cons.mp hc with rfl | hc
    · exact List.mem_append_left _ q1
    · exact hr2c c hc
  · have hf4 : (h ++ [O.lst (rowC (b2 :: r2))] ++ g)[f]? = some (.lst (found.map .str)) := by rw [List.getElem?_append_left (lt_of_get hf3)]; exact hf3
    have es : (h ++ [O.lst (rowC (b2 :: r2))] ++ g).set f (.lst ((found ++ [c' :: (r2 ++ e)]).map .str)) = h.set f (.lst ((found ++ [c' :: (r2 ++ e)]).map .str)) ++ ([O.lst (rowC (b2 :: r2))] ++ g) := by
      rw [List.append_assoc, List.set_append_left _ _ (lt_of_get hf)]
    rw [← es]
    have fl : found.length < sizeLine := size_le (n := found.length + 1) (by omega)
    have sj : sSet (stName 10) (mBin .Add (mBm .join (mLit (.str [])) [(mVar 9)]) (mVar 2)) [some (.int more), some (.int many), some (.str e), some (.str CAP), some (.str CF), some (.int l), some (.ref f), some (.int j), some (.int here), some (.ref h.length), a10, none] (h ++ [.lst (rowC (b2 :: r2))])
        = .nx [some (.int more), some (.int many), some (.str e), some (.str CAP), some (.str CF), some (.int l), some (.ref f), some (.int j), some (.int here), some (.ref h.length), some (.str (b2 :: (r2 ++ e))), none] (h ++ [.lst (rowC (b2 :: r2))]) := by
      generalize h ++ [O.lst (rowC (b2 :: r2))] = H at *
      simp (disch := first | with_reducible assumption | omega | with_reducible exact size_le (by omega) | decide | (simp only [List.length_cons, List.length_nil, List.length_append]; first | omega | with_reducible exact size_le (by omega)) | exact ⟨by simp only [List.length_cons, List.length_nil]; omega, by decide⟩ | fail) [-getElem?_pos, -getElem?_neg, -Int.natCast_add, le_size, rngR_ok, mul_int, mod_int, div_int, pow_int, add_str, len_str, len_refU, idx_refU, any_refU, all_refU, in_refU, in_tupU, okTo_appU, append_U, it_refU, join_refU, add_refU, isi_refU, idx_str, slc_str, str_int, int_str, meOf, List.lookup, fldOf, putN, putR_ok, List.getElem?_cons_zero, List.getElem?_cons_succ, List.getElem?_concat_length, get_app, get_app0, en_refU, mul_refU, tupF_refU, slc_refU, g3, jn]
    have sa : sDrop (mBm .append (mVar 6) [(mVar 10)]) [some (.int more), some (.int many), some (.str e), some (.str CAP), some (.str CF), some (.int l), some (.ref f), some (.int j), some (.int here), some (.ref h.length), some (.str (c' :: (r2 ++ e))), none] (h ++ [O.lst (rowC (b2 :: r2))] ++ g)
        = .nx [some (.int more), some (.int many), some (.str e), some (.str CAP), some (.str CF), some (.int l), some (.ref f), some (.int j), some (.int here), some (.ref h.length), some (.str (c' :: (r2 ++ e))), none] ((h ++ [O.lst (rowC (b2 :: r2))] ++ g).set f (.lst ((found ++ [c' :: (r2 ++ e)]).map .str))) := by
      generalize h ++ [O.lst (rowC (b2 :: r2))] ++ g = H at *
      simp (disch := first | with_reducible assumption | omega | with_reducible exact size_le (by omega) | decide | (simp only [List.length_cons, List.length_nil, List.length_append]; first | omega | with_reducible exact size_le (by omega)) | exact ⟨by simp only [List.length_cons, List.length_nil]; omega, by decide⟩ | fail) [-getElem?_pos, -getElem?_neg, -Int.natCast_add, le_size, rngR_ok, mul_int, mod_int, div_int, pow_int, add_str, len_str, len_refU, idx_refU, any_refU, all_refU, in_refU, in_tupU, okTo_appU, append_U, it_refU, join_refU, add_refU, isi_refU, idx_str, slc_str, str_int, int_str, meOf, List.lookup, fldOf, putN, putR_ok, List.getElem?_cons_zero, List.getElem?_cons_succ, List.getElem?_concat_length, get_app, get_app0, en_refU, mul_refU, tupF_refU, slc_refU, hf4, fl]
    have s1 : sSet (stName 8) (mCall (callN T (n + 1)) 0 [(mVar 0), (mBin .Add (mLit (.int 90)) (mVar 7))]) [some (.int more), some (.int many), some (.str e), some (.str CAP), some (.str CF), some (.int l), some (.ref f), some (.int j), a8, a9, a10, none] h
        = .nx [some (.int more), some (.int many), some (.str e), some (.str CAP), some (.str CF), some (.int l), some (.ref f), some (.int j), some (.int here), a9, a10, none] h := by
      simp (disch := first | with_reducible assumption | omega | with_reducible exact size_le (by omega) | decide | (simp only [List.length_cons, List.length_nil, List.length_append]; first | omega | with_reducible exact size_le (by omega)) | exact ⟨by simp only [List.length_cons, List.length_nil]; omega, by decide⟩ | fail) [-getElem?_pos, -getElem?_neg, -Int.natCast_add, le_size, rngR_ok, mul_int, mod_int, div_int, pow_int, add_str, len_str, len_refU, idx_refU, any_refU, all_refU, in_refU, in_tupU, okTo_appU, append_U, it_refU, join_refU, add_refU, isi_refU, idx_str, slc_str, str_int, int_str, meOf, List.lookup, fldOf, putN, putR_ok, List.getElem?_cons_zero, List.getElem?_cons_succ, List.getElem?_concat_length, get_app, get_app0, en_refU, mul_refU, tupF_refU, slc_refU, ed]
    have rr1 : rngR (.int l) h = .ok (rangeD 0 L, none) h := by rw [rngR_ok (by omega), eL]
    have hrl2 : (rangeD 0 L).length ≤ sizeLine := by rw [← eL]; exact hrl
    have s2 : sSet (stName 9) (mComp (miR1 (mVar 5)) [11] (stName 11) mTrue (t__law_names_2 (callN T (n + 1)))) [some (.int more), some (.int many), some (.str e), some (.str CAP), some (.str CF), some (.int l), some (.ref f), some (.int j), some (.int here), a9, a10, none] h
        = .nx [some (.int more), some (.int many), some (.str e), some (.str CAP), some (.str CF), some (.int l), some (.ref f), some (.int j), some (.int here), some (.ref h.length), a10, none] (h ++ [.lst (rowC r0)]) := by
      simp (disch := first | with_reducible assumption | omega | with_reducible exact size_le (by omega) | decide | (simp only [List.length_cons, List.length_nil, List.length_append]; first | omega | with_reducible exact size_le (by omega)) | exact ⟨by simp only [List.length_cons, List.length_nil]; omega, by decide⟩ | fail) [-getElem?_pos, -getElem?_neg, -Int.natCast_add, le_size, rngR_ok, mul_int, mod_int, div_int, pow_int, add_str, len_str, len_refU, idx_refU, any_refU, all_refU, in_refU, in_tupU, okTo_appU, append_U, it_refU, join_refU, add_refU, isi_refU, idx_str, slc_str, str_int, int_str, meOf, List.lookup, fldOf, putN, putR_ok, List.getElem?_cons_zero, List.getElem?_cons_succ, List.getElem?_concat_length, get_app, get_app0, en_refU, mul_refU, tupF_refU, slc_refU, rr1, hrl2, wipeD, cm]
    have s3 : sItm (mVar 9) (mBin .Mod (mVar 8) (mVar 5)) (mIdx (mVar 4) (mBin .Mod (mBin .FloorDiv (mVar 8) (mLit (.int 8))) (mLit (.int 36)))) [some (.int more), some (.int many), some (.str e), some (.str CAP), some (.str CF), some (.int l), some (.ref f), some (.int j), some (.int here), some (.ref h.length), a10, none] (h ++ [.lst (rowC r0)])
        = .nx [some (.int more), some (.int many), some (.str e), some (.str CAP), some (.str CF), some (.int l), some (.ref f), some (.int j), some (.int here), some (.ref h.length), a10, none] (h ++ [.lst (rowC r1)]) := by
      generalize h ++ [O.lst (rowC r0)] = H at *
      simp (disch := first | with_reducible assumption | omega | with_reducible exact size_le (by omega) | decide | (simp only [List.length_cons, List.length_nil, List.length_append]; first | omega | with_reducible exact size_le (by omega)) | exact ⟨by simp only [List.length_cons, List.length_nil]; omega, by decide⟩ | fail) [-getElem?_pos, -getElem?_neg, -Int.natCast_add, le_size, rngR_ok, mul_int, mod_int, div_int, pow_int, add_str, len_str, len_refU, idx_refU, any_refU, all_refU, in_refU, in_tupU, okTo_appU, append_U, it_refU, join_refU, add_refU, isi_refU, idx_str, slc_str, str_int, int_str, meOf, List.lookup, fldOf, putN, putR_ok, List.getElem?_cons_zero, List.getElem?_cons_succ, List.getElem?_concat_length, get_app, get_app0, en_refU, mul_refU, tupF_refU, slc_refU, p1, it1]
    simp only [l__law_names_2]
    rw [s_seq, s1, seqO_nx, s_seq, s2, seqO_nx, s_seq, s3, seqO_nx, s_seq, st, seqO_nx, s_seq, sj, seqO_nx, s_seq, lp, seqO_nx, s_seq, sa, seqO_nx, s_next]
theorem nm_for {e : Tx} (he : e = [] ∨ e = [36]) {more many l : Int} (h0 : 0 ≤ more) (h1 : more < 2 ^ 129) (hl : 1 ≤ l) (hl2 : l + e.length ≤ 8) {f : Nat} : ∀ (js : List D) (found : List Tx) (a7 a8 a9 a10 : Option D) (h : DH), (∀ d ∈ js, ∃ j : Int, d = .int j ∧ 0 ≤ j ∧ j ≤ 100) → found.length + js.length ≤ 10 → (∀ x ∈ found, NmE e x) → found.Nodup → h[f]? = some (.lst (found.map .str)) →
    ∃ (ns : List Tx) (g : DH) (y7 y8 y9 y10 : Option D), ns.length = found.length + js.length ∧ (∀ x ∈ ns, NmE e x) ∧ ns.Nodup ∧ forL none (stName 7) (l__law_names_2 (callN T (n + 1))) js [some (.int more), some (.int many), some (.str e), some (.str CAP), some (.str CF), some (.int l), some (.ref f), a7, a8, a9, a10, none] h
      = .nx [some (.int more), some (.int many), some (.str e), some (.str CAP), some (.str CF), some (.int l), some (.ref f), y7, y8, y9, y10, none] (h.set f (.lst (ns.map .str)) ++ g)
  | [], found, a7, a8, a9, a10, h, _, _, ha, nd, hf => ⟨found, [], a7, a8, a9, a10, rfl, ha, nd, by rw [forL_nil still_none, set_same hf, List.append_nil]⟩
  | d :: js, found, a7, a8, a9, a10, h, hj, hn, ha, nd, hf => by
    obtain ⟨j, rfl, j0, j1⟩ := hj d List.mem_cons_self
    rw [List.length_cons] at hn
    obtain ⟨x, g, y8, y9, hx, hxf, eb⟩ := nm_body (n := n) (many := many) he h0 h1 hl hl2 (by omega) j0 j1 a8 a9 a10 h hf
    have hf2 : (h.set f (.lst ((found ++ [x]).map .str)) ++ g)[f]? = some (.lst ((found ++ [x]).map .str)) := by
      rw [List.getElem?_append_left (by rw [List.length_set]; exact lt_of_get hf)]
      exact get_set (lt_of_get hf)
    obtain ⟨ns, g2, z7, z8, z9, z10, r1, r2, r3, r4⟩ := nm_for he h0 h1 hl hl2 js (found ++ [x]) (some (.int j)) y8 y9 (some (.str x)) _ (fun d hd => hj d (List.mem_cons_of_mem _ hd)) (by rw [List.length_append, List.length_singleton]; omega) (fun z hz => by
      rcases List.mem_append.mp hz with hz | hz
      · exact ha z hz
      · rw [List.mem_singleton.mp hz]; exact hx) (by
      rw [List.nodup_append]
      exact ⟨nd, by simp, fun a ha b hb => by
        rw [List.mem_singleton] at hb
        subst hb
        exact fun z => hxf (z ▸ ha)⟩) hf2
    refine ⟨ns, g ++ g2, z7, z8, z9, z10, by rw [r1, List.length_append, List.length_singleton, List.length_cons]; omega, r2, r3, ?_⟩
    rw [forL_cons (e1 := [some (.int more), some (.int many), some (.str e), some (.str CAP), some (.str CF), some (.int l), some (.ref f), some (.int j), a8, a9, a10, none]) still_none rfl, eb, nxt_nx, r4, List.set_append_left _ _ (by rw [List.length_set]; exact lt_of_get hf), List.set_set, List.append_assoc]
/-- names -/
theorem c_names {e : Tx} (he : e = [] ∨ e = [36]) {more : Int} {many : Nat} (h0 : 0 ≤ more) (h1 : more < 2 ^ 129) (hm : many ≤ 10) (h : DH) :
    ∃ (ns : List Tx) (f : Nat) (g : DH), ns.length = many ∧ (∀ x ∈ ns, NmE e x) ∧ ns.Nodup ∧ h.length ≤ f ∧ (h ++ g)[f]? = some (.lst (ns.map .str)) ∧ callN T (n + 2) 3 [.int more, .int many, .str e] h = .ok (.ref f) (h ++ g) := by
  have hel : e.length ≤ 1 := by rcases he with rfl | rfl <;> decide
  obtain ⟨l, hl, e2⟩ := pickI (vs := [1, 2, 3, 8 - (e.length : Int)]) (i := more % 4) (by omega) (by show _ < ((4 : Nat) : Int); omega)
  simp only [List.map_cons, List.map_nil] at e2
  have hl : l = 1 ∨ l = 2 ∨ l = 3 ∨ l = 8 - (e.length : Int) := by simpa using hl
  obtain ⟨mi, hmi⟩ : ∃ mi : Int, (many : Int) = mi := ⟨_, rfl⟩
  rw [hmi]
  obtain ⟨ns, g, y7, y8, y9, y10, r1, r2, r3, r4⟩ := nm_for (n := n) (many := mi) he h0 h1 (by omega) (by omega) (f := h.length + 1) (l := l) (rangeD 0 mi.toNat) [] none none none none (h ++ [O.lst [D.int 1, D.int 2, D.int 3, D.int (8 - ↑(List.length e))], O.lst []]) (fun d hd => by
    unfold rangeD at hd
    obtain ⟨j, hj, rfl⟩ := List.mem_map.mp hd
    rw [List.mem_range] at hj
    exact ⟨_, rfl, by omega, by omega⟩) (by unfold rangeD; rw [List.length_map, List.length_range, List.length_nil]; omega) (fun _ z => nomatch z) .nil (by simp)
  have es : (h ++ [O.lst [D.int 1, D.int 2, D.int 3, D.int (8 - ↑(List.length e))], O.lst []]).set (h.length + 1) (.lst (ns.map .str)) ++ g = h ++ ([O.lst [D.int 1, D.int 2, D.int 3, D.int (8 - ↑(List.length e))], O.lst (ns.map .str)] ++ g) := by simp
  rw [es] at r4
  have rr : rngR (.int mi) (h ++ [O.lst [D.int 1, D.int 2, D.int 3, D.int (8 - ↑(List.length e))], O.lst []]) = .ok (rangeD 0 mi.toNat, none) (h ++ [O.lst [D.int 1, D.int 2, D.int 3, D.int (8 - ↑(List.length e))], O.lst []]) := rngR_ok (by omega)
  refine ⟨ns, h.length + 1, [O.lst [D.int 1, D.int 2, D.int 3, D.int (8 - ↑(List.length e))], O.lst (ns.map .str)] ++ g, ?_, r2, r3, by omega, by simp, ?_⟩
  · rw [r1]
    unfold rangeD
    rw [List.length_map, List.length_range, List.length_nil]
    omega
  · rw [call_eq (k := n + 1) (fn := q3.fn) rfl rfl]
    simp only [Def1.fn, q3, b__law_names]
    simp only [show ([65, 66, 67, 68, 69, 70, 71, 72, 73, 74, 75, 76, 77, 78, 79, 80, 81, 82, 83, 84, 85, 86, 87, 88, 89, 90] : List Nat) = CAP from rfl, show ([48, 49, 50, 51, 52, 53, 54, 55, 56, 57] : List Nat) = FIG from rfl]
    have cl : CAP.length = 26 := rfl
    have cl2 : FIG.length = 10 := rfl
    have cf : CAP ++ FIG = CF := rfl
    have ap : h ++ [O.lst [D.int 1, D.int 2, D.int 3, D.int (8 - ↑(List.length e))]] ++ [O.lst []] = h ++ [O.lst [D.int 1, D.int 2, D.int 3, D.int (8 - ↑(List.length e))], O.lst []] := by simp
    simp (disch := first | with_reducible assumption | omega | with_reducible exact size_le (by omega) | decide | (simp only [List.length_cons, List.length_nil, List.length_append]; first | omega | with_reducible exact size_le (by omega)) | exact ⟨by simp only [List.length_cons, List.length_nil]; omega, by decide⟩ | fail) [-getElem?_pos, -getElem?_neg, -Int.natCast_add, le_size, rngR_ok, mul_int, mod_int, div_int, pow_int, add_str, len_str, len_refU, idx_refU, any_refU, all_refU, in_refU, in_tupU, okTo_appU, append_U, it_refU, join_refU, add_refU, isi_refU, idx_str, slc_str, str_int, int_str, meOf, List.lookup, fldOf, putN, putR_ok, List.getElem?_cons_zero, List.getElem?_cons_succ, List.getElem?_concat_length, get_app, get_app0, en_refU, mul_refU, tupF_refU, slc_refU, cl, cl2, cf, e2, rr, r4, ap]
end
end K30

namespace K30
open PySem L2 Mp
/-! ### stores -/
inductive Wo where
  | i (z : Int) | s (x : Tx)
def wD : Wo → D
  | .i z => .int z
  | .s x => .str x
def kS (x : Tx) : D := .str x
def kC (q : Tx × List Int) : D := .tup [.str q.1, .tup (q.2.map .int)]
def bD (b : List Int) : D := .tup (b.map .int)
theorem kS_eq (a b : Tx) : D.keq (kS a) (kS b) = decide (a = b) := rfl
theorem kC_eq (a b : Tx × List Int) : D.keq (kC a) (kC b) = decide (a = b) := by
  obtain ⟨a1, a2⟩ := a
  obtain ⟨b1, b2⟩ := b
  show (decide (a1 = b1) && (D.keqs (a2.map D.int) (b2.map D.int) && true)) = _
  rw [keqs_ints, Bool.and_true]
  by_cases h1 : a1 = b1
  · by_cases h2 : a2 = b2 <;> simp [h1, h2]
  · simp [h1]
theorem kC_tk (q : Tx × List Int) : D.tk (kC q) = true := by
  obtain ⟨x, ps⟩ := q
  have e : D.nk (.tup [.str x, .tup (ps.map .int)]) = some (.tup [.text ⟨x.toArray⟩, .tup (ps.map .num)]) := by
    simp only [D.nk, D.nks, nks_ints, Option.map_some, Option.bind_some]
  show (match D.nk (.tup [.str x, .tup (ps.map .int)]) with | some k => decide (k.depth ≤ 8) | none => false) = true
  rw [e]
  simp only [NestedKey.depth, NestedKey.depthAll, dep_ints]
  decide
structure Sto where
  nm : List (Tx × Wo)
  bd : List (Tx × List Int)
  cl : List ((Tx × List Int) × Wo)
def isT (x : Tx) : Bool := decide (x.getLast? = some 36)
def nul (x : Tx) : Wo := if isT x then .s [] else .i 0
def isW : Wo → Bool
  | .i _ => false
  | .s _ => true
def inB (bs ps : List Int) : Bool := (ps.zip bs).all fun q => decide (0 ≤ q.1) && decide (q.1 ≤ q.2)
def ins (bs ps : List Int) : Bool := decide (bs.length = ps.length) && inB bs ps
def bnd (S : Sto) (x : Tx) (k : Nat) : List Int := (aLk S.bd x).getD (List.replicate k 10)
def FLT (w : Tx) : D := .tup [.str [114, 101, 102, 117, 115, 101, 100], .str [70, 97, 117, 108, 116], .str w]
def KIND : Tx := [75, 105, 110, 100]
def INDEX : Tx := [73, 110, 100, 101, 120]
def AGAIN : Tx := [65, 103, 97, 105, 110]
/-- the program's store at n -/
structure StA (h : DH) (n : Nat) (S : Sto) : Prop where
  ob : h[n]? = some (.ins 0 [(0, .ref (n + 1)), (1, .ref (n + 2)), (2, .ref (n + 3))])
  nm : h[n + 1]? = some (.dic (enc kS wD S.nm))
  bd : h[n + 2]? = some (.dic (enc kS bD S.bd))
  cl : h[n + 3]? = some (dcT (enc kC wD S.cl))
/-- the law's store at n -/
structure ItA (h : DH) (n : Nat) (S : Sto) : Prop where
  nm : h[n]? = some (.dic (enc kS wD S.nm))
  bd : h[n + 1]? = some (.dic (enc kS bD S.bd))
  cl : h[n + 2]? = some (dcT (enc kC wD S.cl))
  ob : h[n + 3]? = some (.dic [(.str [110, 97, 109, 101, 115], .ref n), (.str [98, 111, 117, 110, 100, 115], .ref (n + 1)), (.str [99, 101, 108, 108, 115], .ref (n + 2))])
/-- all but n .. n + 3 stay -/
def Fr (n : Nat) (h h' : DH) : Prop := h.length ≤ h'.length ∧ ∀ j, j < h.length → (j < n ∨ n + 4 ≤ j) → h'[j]? = h[j]?
theorem Fr.refl {n : Nat} {h : DH} : Fr n h h := ⟨Nat.le_refl _, fun _ _ _ => rfl⟩
theorem Fr.app {n : Nat} {h h' g : DH} (k : Fr n h h') : Fr n h (h' ++ g) := ⟨by rw [List.length_append]; have := k.1; omega, fun j hj q => by
  rw [List.getElem?_append_left (by have := k.1; omega)]
  exact k.2 j hj q⟩
theorem Fr.set {n i : Nat} {h h' : DH} {x : O} (k : Fr n h h') (h1 : n ≤ i) (h2 : i < n + 4) : Fr n h (h'.set i x) := ⟨by rw [List.length_set]; exact k.1, fun j hj q => by
  rw [List.getElem?_set_ne (by omega)]
  exact k.2 j hj q⟩
theorem Fr.trans {n : Nat} {h h1 h2 : DH} (a : Fr n h h1) (b : Fr n h1 h2) : Fr n h h2 := ⟨Nat.le_trans a.1 b.1, fun j hj q => (b.2 j (Nat.lt_of_lt_of_le hj a.1) q).trans (a.2 j hj q)⟩
theorem StA.fr {h h' : DH} {n m : Nat} {S : Sto} (s : StA h n S) (k : Fr m h h') (d : n + 4 ≤ m ∨ m + 4 ≤ n) : StA h' n S :=
  ⟨(k.2 _ (lt_of_get s.ob) (by omega)).trans s.ob, (k.2 _ (lt_of_get s.nm) (by omega)).trans s.nm, (k.2 _ (lt_of_get s.bd) (by omega)).trans s.bd, (k.2 _ (lt_of_get s.cl) (by omega)).trans s.cl⟩
theorem ItA.fr {h h' : DH} {n m : Nat} {S : Sto} (s : ItA h n S) (k : Fr m h h') (d : n + 4 ≤ m ∨ m + 4 ≤ n) : ItA h' n S :=
  ⟨(k.2 _ (lt_of_get s.nm) (by omega)).trans s.nm, (k.2 _ (lt_of_get s.bd) (by omega)).trans s.bd, (k.2 _ (lt_of_get s.cl) (by omega)).trans s.cl, (k.2 _ (lt_of_get s.ob) (by omega)).trans s.ob⟩
theorem get_ap {h g : DH} {j : Nat} {o : O} (q : h[j]? = some o) : (h ++ g)[j]? = some o := by rw [List.getElem?_append_left (lt_of_get q)]; exact q
theorem StA.app {h g : DH} {n : Nat} {S : Sto} (s : StA h n S) : StA (h ++ g) n S := ⟨get_ap s.ob, get_ap s.nm, get_ap s.bd, get_ap s.cl⟩
theorem ItA.app {h g : DH} {n : Nat} {S : Sto} (s : ItA h n S) : ItA (h ++ g) n S := ⟨get_ap s.nm, get_ap s.bd, get_ap s.cl, get_ap s.ob⟩
theorem StA.putN {h : DH} {n : Nat} {S : Sto} (s : StA h n S) (l : List (Tx × Wo)) : StA (h.set (n + 1) (.dic (enc kS wD l))) n { S with nm := l } :=
  ⟨by rw [List.getElem?_set_ne (by omega)]; exact s.ob, get_set (lt_of_get s.nm), by rw [List.getElem?_set_ne (by omega)]; exact s.bd, by rw [List.getElem?_set_ne (by omega)]; exact s.cl⟩
theorem StA.putB {h : DH} {n : Nat} {S : Sto} (s : StA h n S) (l : List (Tx × List Int)) : StA (h.set (n + 2) (.dic (enc kS bD l))) n { S with bd := l } :=
  ⟨by rw [List.getElem?_set_ne (by omega)]; exact s.ob, by rw [List.getElem?_set_ne (by omega)]; exact s.nm, get_set (lt_of_get s.bd), by rw [List.getElem?_set_ne (by omega)]; exact s.cl⟩
theorem StA.putC {h : DH} {n : Nat} {S : Sto} (s : StA h n S) (l : List ((Tx × List Int) × Wo)) : StA (h.set (n + 3) (dcT (enc kC wD l))) n { S with cl := l } :=
  ⟨by rw [List.getElem?_set_ne (by omega)]; exact s.ob, by rw [List.getElem?_set_ne (by omega)]; exact s.nm, by rw [List.getElem?_set_ne (by omega)]; exact s.bd, get_set (lt_of_get s.cl)⟩
theorem ItA.putN {h : DH} {n : Nat} {S : Sto} (s : ItA h n S) (l : List (Tx × Wo)) : ItA (h.set n (.dic (enc kS wD l))) n { S with nm := l } :=
  ⟨get_set (lt_of_get s.nm), by rw [List.getElem?_set_ne (by omega)]; exact s.bd, by rw [List.getElem?_set_ne (by omega)]; exact s.cl, by rw [List.getElem?_set_ne (by omega)]; exact s.ob⟩
theorem ItA.putB {h : DH} {n : Nat} {S : Sto} (s : ItA h n S) (l : List (Tx × List Int)) : ItA (h.set (n + 1) (.dic (enc kS bD l))) n { S with bd := l } :=
  ⟨by rw [List.getElem?_set_ne (by omega)]; exact s.nm, get_set (lt_of_get s.bd), by rw [List.getElem?_set_ne (by omega)]; exact s.cl, by rw [List.getElem?_set_ne (by omega)]; exact s.ob⟩
theorem ItA.putC {h : DH} {n : Nat} {S : Sto} (s : ItA h n S) (l : List ((Tx × List Int) × Wo)) : ItA (h.set (n + 2) (dcT (enc kC wD l))) n { S with cl := l } :=
  ⟨by rw [List.getElem?_set_ne (by omega)]; exact s.nm, by rw [List.getElem?_set_ne (by omega)]; exact s.bd, get_set (lt_of_get s.cl), by rw [List.getElem?_set_ne (by omega)]; exact s.ob⟩
/-! ### what a store does -/
def oPut (x : Tx) (w : Wo) (S : Sto) : D × Sto := if isW w = isT x then (.non, { S with nm := aPut S.nm x w }) else (FLT KIND, S)
def oCell (x : Tx) (ps : List Int) (S : Sto) : D × Sto :=
  if ins (bnd S x ps.length) ps then (wD ((aLk S.cl (x, ps)).getD (nul x)), { S with bd := aPut S.bd x (bnd S x ps.length) }) else (FLT INDEX, S)
def oPutC (x : Tx) (ps : List Int) (w : Wo) (S : Sto) : D × Sto :=
  if ins (bnd S x ps.length) ps then (if isW w = isT x then (.non, { S with bd := aPut S.bd x (bnd S x ps.length), cl := aPut S.cl (x, ps) w }) else (FLT KIND, S)) else (FLT INDEX, S)
def okL (bs : List Int) : Bool := decide (bs.length = 1 ∨ bs.length = 2) && bs.all fun z => decide (0 ≤ z) && decide (z ≤ 99)
def oLay (x : Tx) (bs : List Int) (S : Sto) : D × Sto := if (aLk S.bd x).isSome then (FLT AGAIN, S) else if okL bs then (.non, { S with bd := aPut S.bd x bs }) else (FLT INDEX, S)
/-- a store in bounds -/
structure Ok (N : Nat) (S : Sto) : Prop where
  l1 : S.nm.length ≤ N
  l2 : S.bd.length ≤ N
  l3 : S.cl.length ≤ N
  b : ∀ p ∈ S.bd, (p.2.length = 1 ∨ p.2.length = 2) ∧ ∀ z ∈ p.2, 0 ≤ z ∧ z ≤ 99
theorem Ok.up {N M : Nat} {S : Sto} (o : Ok N S) (h : N ≤ M) : Ok M S := ⟨Nat.le_trans o.l1 h, Nat.le_trans o.l2 h, Nat.le_trans o.l3 h, o.b⟩
theorem bnd_ok {N : Nat} {S : Sto} (o : Ok N S) {x : Tx} {k : Nat} (hk : k = 1 ∨ k = 2) : ((bnd S x k).length = 1 ∨ (bnd S x k).length = 2) ∧ ∀ z ∈ bnd S x k, 0 ≤ z ∧ z ≤ 99 := by
  unfold bnd
  cases q : aLk S.bd x with
  | some v =>
    obtain ⟨p, hp, rfl⟩ := aLk_mem q
    exact o.b p hp
  | none =>
    refine ⟨by simp [hk], fun z hz => ?_⟩
    rw [(List.mem_replicate.mp hz).2]
    decide
theorem Ok.putB {N : Nat} {S : Sto} (o : Ok N S) {x : Tx} {b : List Int} (h1 : b.length = 1 ∨ b.length = 2) (h2 : ∀ z ∈ b, 0 ≤ z ∧ z ≤ 99) : Ok (N + 1) { S with bd := aPut S.bd x b } :=
  ⟨by have := o.l1; show S.nm.length ≤ _; omega, by have := aPut_len S.bd x b; have := o.l2; show (aPut S.bd x b).length ≤ _; omega, by have := o.l3; show S.cl.length ≤ _; omega, fun p hp => by
    rcases aPut_mem hp with hp | hp
    · exact o.b p hp
    · rw [hp]; exact ⟨h1, h2⟩⟩
theorem ok_put {N : Nat} {S : Sto} (o : Ok N S) (x : Tx) (w : Wo) : Ok (N + 1) (oPut x w S).2 := by
  unfold oPut
  split
  · exact ⟨by have := aPut_len S.nm x w; have := o.l1; show (aPut S.nm x w).length ≤ _; omega, by have := o.l2; show S.bd.length ≤ _; omega, by have := o.l3; show S.cl.length ≤ _; omega, o.b⟩
  · exact o.up (Nat.le_succ _)
theorem ok_cell {N : Nat} {S : Sto} (o : Ok N S) (x : Tx) {ps : List Int} (hp : ps.length = 1 ∨ ps.length = 2) : Ok (N + 1) (oCell x ps S).2 := by
  unfold oCell
  obtain ⟨b1, b2⟩ := bnd_ok o (x := x) hp
  split
  · exact o.putB b1 b2
  · exact o.up (Nat.le_succ _)
theorem ok_putC {N : Nat} {S : Sto} (o : Ok N S) (x : Tx) {ps : List Int} (hp : ps.length = 1 ∨ ps.length = 2) (w : Wo) : Ok (N + 1) (oPutC x ps w S).2 := by
  unfold oPutC
  obtain ⟨b1, b2⟩ := bnd_ok o (x := x) hp
  split
  · split
    · have := o.putB (x := x) b1 b2
      exact ⟨this.l1, this.l2, by have := aPut_len S.cl (x, ps) w; have := o.l3; show (aPut S.cl (x, ps) w).length ≤ _; omega, this.b⟩
    · exact o.up (Nat.le_succ _)
  · exact o.up (Nat.le_succ _)
theorem ok_lay {N : Nat} {S : Sto} (o : Ok N S) (x : Tx) (bs : List Int) : Ok (N + 1) (oLay x bs S).2 := by
  unfold oLay
  split
  · exact o.up (Nat.le_succ _)
  · split
    · rename_i hb
      unfold okL at hb
      rw [Bool.and_eq_true, decide_eq_true_eq] at hb
      refine o.putB hb.1 fun z hz => ?_
      have := List.all_eq_true.mp hb.2 z hz
      rw [Bool.and_eq_true, decide_eq_true_eq, decide_eq_true_eq] at this
      exact this
    · exact o.up (Nat.le_succ _)
end K30

namespace K30
open PySem L2 Mp
section
variable {n : Nat} {h : DH} {x : Tx} {k : Nat} {S : Sto} {w : Wo}
structure NmO (x : Tx) : Prop where
  ne : x ≠ []
  le : x.length ≤ 60
theorem last_eq (o : NmO x) : ∃ c, atI x (-1) = some c ∧ isT x = decide ([c] = ([36] : Tx)) := by
  obtain ⟨c, hc⟩ : ∃ c, x.getLast? = some c := ⟨x.getLast o.ne, List.getLast?_eq_some_getLast o.ne⟩
  refine ⟨c, by rw [atI_last o.ne, hc], ?_⟩
  unfold isT
  rw [hc]
  by_cases q : c = 36 <;> simp [q]
theorem c_isT (o : NmO x) : callN T (n + 1) 5 [.str x] h = .ok (.bl (isT x)) h := by
  rw [call_eq (fn := q5.fn) rfl rfl]
  simp only [Def1.fn, q5, b_is_texts]
  obtain ⟨c, e1, e2⟩ := last_eq o
  have hz : x.length ≤ sizeLine := size_le (by have := o.le; omega)
  rw [e2]
  simp (disch := first | with_reducible assumption | omega | with_reducible exact size_le (by omega) | decide | (simp only [List.length_cons, List.length_nil, List.length_append]; first | omega | with_reducible exact size_le (by omega)) | exact ⟨by simp only [List.length_cons, List.length_nil]; omega, by decide⟩ | fail) [-getElem?_pos, -getElem?_neg, -Int.natCast_add, le_size, rngR_ok, mul_int, mod_int, div_int, pow_int, add_str, len_str, len_refU, idx_refU, any_refU, all_refU, in_refU, in_tupU, okTo_appU, append_U, it_refU, join_refU, add_refU, isi_refU, idx_str, slc_str, str_int, int_str, meOf, List.lookup, fldOf, putN, putR_ok, List.getElem?_cons_zero, List.getElem?_cons_succ, List.getElem?_concat_length, get_app, get_app0, en_refU, mul_refU, tupF_refU, slc_refU, e1]
theorem c_nul (o : NmO x) : callN T (n + 2) 6 [.str x] h = .ok (wD (nul x)) h := by
  rw [call_eq (k := n + 1) (fn := q6.fn) rfl rfl]
  simp only [Def1.fn, q6, b_nothing]
  have e := c_isT (n := n) (h := h) o
  unfold nul
  cases q : isT x with
  | true =>
    rw [q] at e
    simp (disch := first | with_reducible assumption | omega | with_reducible exact size_le (by omega) | decide | (simp only [List.length_cons, List.length_nil, List.length_append]; first | omega | with_reducible exact size_le (by omega)) | exact ⟨by simp only [List.length_cons, List.length_nil]; omega, by decide⟩ | fail) [-getElem?_pos, -getElem?_neg, -Int.natCast_add, le_size, rngR_ok, mul_int, mod_int, div_int, pow_int, add_str, len_str, len_refU, idx_refU, any_refU, all_refU, in_refU, in_tupU, okTo_appU, append_U, it_refU, join_refU, add_refU, isi_refU, idx_str, slc_str, str_int, int_str, meOf, List.lookup, fldOf, putN, putR_ok, List.getElem?_cons_zero, List.getElem?_cons_succ, List.getElem?_concat_length, get_app, get_app0, en_refU, mul_refU, tupF_refU, slc_refU, e, wD]
  | false =>
    rw [q] at e
    simp (disch := first | with_reducible assumption | omega | with_reducible exact size_le (by omega) | decide | (simp only [List.length_cons, List.length_nil, List.length_append]; first | omega | with_reducible exact size_le (by omega)) | exact ⟨by simp only [List.length_cons, List.length_nil]; omega, by decide⟩ | fail) [-getElem?_pos, -getElem?_neg, -Int.natCast_add, le_size, rngR_ok, mul_int, mod_int, div_int, pow_int, add_str, len_str, len_refU, idx_refU, any_refU, all_refU, in_refU, in_tupU, okTo_appU, append_U, it_refU, join_refU, add_refU, isi_refU, idx_str, slc_str, str_int, int_str, meOf, List.lookup, fldOf, putN, putR_ok, List.getElem?_cons_zero, List.getElem?_cons_succ, List.getElem?_concat_length, get_app, get_app0, en_refU, mul_refU, tupF_refU, slc_refU, e, wD]
theorem c_needP (b : Bool) : callN T (n + 1) 13 [.bl b] h = if b then .ok .non h else .exc 1 (some (.str INDEX)) h := by
  rw [call_eq (fn := q13.fn) rfl rfl]
  simp only [Def1.fn, q13, b_need_places, INDEX]
  cases b <;> simp (disch := first | with_reducible assumption | omega | with_reducible exact size_le (by omega) | decide | (simp only [List.length_cons, List.length_nil, List.length_append]; first | omega | with_reducible exact size_le (by omega)) | exact ⟨by simp only [List.length_cons, List.length_nil]; omega, by decide⟩ | fail) [-getElem?_pos, -getElem?_neg, -Int.natCast_add, le_size, rngR_ok, mul_int, mod_int, div_int, pow_int, add_str, len_str, len_refU, idx_refU, any_refU, all_refU, in_refU, in_tupU, okTo_appU, append_U, it_refU, join_refU, add_refU, isi_refU, idx_str, slc_str, str_int, int_str, meOf, List.lookup, fldOf, putN, putR_ok, List.getElem?_cons_zero, List.getElem?_cons_succ, List.getElem?_concat_length, get_app, get_app0, en_refU, mul_refU, tupF_refU, slc_refU]
theorem isi_w : dIsi (wD w) .str h = some (isW w) := by cases w <;> rfl
theorem eq_bl (a b : Bool) : dCmp .Eq (.bl a) (.bl b) h = some (decide (a = b)) := by cases a <;> cases b <;> rfl
theorem c_needK (o : NmO x) : callN T (n + 2) 15 [.str x, wD w] h = if isW w = isT x then .ok .non h else .exc 1 (some (.str KIND)) h := by
  rw [call_eq (k := n + 1) (fn := q15.fn) rfl rfl]
  simp only [Def1.fn, q15, b_need_kind, KIND]
  have e := c_isT (n := n) (h := h) o
  have e2 := eq_bl (h := h) (isW w) (isT x)
  by_cases q : isW w = isT x
  · rw [decide_eq_true q] at e2
    rw [if_pos q]
    simp (disch := first | with_reducible assumption | omega | with_reducible exact size_le (by omega) | decide | (simp only [List.length_cons, List.length_nil, List.length_append]; first | omega | with_reducible exact size_le (by omega)) | exact ⟨by simp only [List.length_cons, List.length_nil]; omega, by decide⟩ | fail) [-getElem?_pos, -getElem?_neg, -Int.natCast_add, le_size, rngR_ok, mul_int, mod_int, div_int, pow_int, add_str, len_str, len_refU, idx_refU, any_refU, all_refU, in_refU, in_tupU, okTo_appU, append_U, it_refU, join_refU, add_refU, isi_refU, idx_str, slc_str, str_int, int_str, meOf, List.lookup, fldOf, putN, putR_ok, List.getElem?_cons_zero, List.getElem?_cons_succ, List.getElem?_concat_length, get_app, get_app0, en_refU, mul_refU, tupF_refU, slc_refU, e, isi_w, e2]
  · rw [decide_eq_false q] at e2
    rw [if_neg q]
    simp (disch := first | with_reducible assumption | omega | with_reducible exact size_le (by omega) | decide | (simp only [List.length_cons, List.length_nil, List.length_append]; first | omega | with_reducible exact size_le (by omega)) | exact ⟨by simp only [List.length_cons, List.length_nil]; omega, by decide⟩ | fail) [-getElem?_pos, -getElem?_neg, -Int.natCast_add, le_size, rngR_ok, mul_int, mod_int, div_int, pow_int, add_str, len_str, len_refU, idx_refU, any_refU, all_refU, in_refU, in_tupU, okTo_appU, append_U, it_refU, join_refU, add_refU, isi_refU, idx_str, slc_str, str_int, int_str, meOf, List.lookup, fldOf, putN, putR_ok, List.getElem?_cons_zero, List.getElem?_cons_succ, List.getElem?_concat_length, get_app, get_app0, en_refU, mul_refU, tupF_refU, slc_refU, e, isi_w, e2]
theorem c_get (s : StA h k S) (o : NmO x) : callN T (n + 3) 7 [.ref k, .str x] h = .ok (wD ((aLk S.nm x).getD (nul x))) h := by
  rw [call_eq (k := n + 2) (fn := q7.fn) rfl rfl]
  simp only [Def1.fn, q7, b_Store_get]
  have e := c_nul (n := n) (h := h) o
  have s1 := s.ob
  have s2 := s.nm
  have lk := enc_lk (ve := wD) kS_eq S.nm x
  have lk : dLk (enc kS wD S.nm) (.str x) = (aLk S.nm x).map wD := lk
  have gd : ((aLk S.nm x).map wD).getD (wD (nul x)) = wD ((aLk S.nm x).getD (nul x)) := by cases aLk S.nm x <;> rfl
  simp (disch := first | with_reducible assumption | omega | with_reducible exact size_le (by omega) | decide | (simp only [List.length_cons, List.length_nil, List.length_append]; first | omega | with_reducible exact size_le (by omega)) | exact ⟨by simp only [List.length_cons, List.length_nil]; omega, by decide⟩ | fail) [-getElem?_pos, -getElem?_neg, -Int.natCast_add, le_size, rngR_ok, mul_int, mod_int, div_int, pow_int, add_str, len_str, len_refU, idx_refU, any_refU, all_refU, in_refU, in_tupU, okTo_appU, append_U, it_refU, join_refU, add_refU, isi_refU, idx_str, slc_str, str_int, int_str, meOf, List.lookup, fldOf, putN, putR_ok, List.getElem?_cons_zero, List.getElem?_cons_succ, List.getElem?_concat_length, get_app, get_app0, en_refU, mul_refU, tupF_refU, slc_refU, s1, s2, e, lk, gd]
theorem c_put (s : StA h k S) (o : NmO x) (hl : S.nm.length ≤ 1000) : callN T (n + 3) 16 [.ref k, .str x, wD w] h = if isW w = isT x then .ok .non (h.set (k + 1) (.dic (enc kS wD (aPut S.nm x w)))) else .exc 1 (some (.str KIND)) h := by
  rw [call_eq (k := n + 2) (fn := q16.fn) rfl rfl]
  simp only [Def1.fn, q16, b_Store_put]
  have e := c_needK (n := n) (h := h) (w := w) o
  have s1 := s.ob
  have s2 := s.nm
  have pt : dPut (enc kS wD S.nm) (.str x) (wD w) = enc kS wD (aPut S.nm x w) := enc_put kS_eq S.nm x w
  have it : ∀ en, itmR (.ref (k + 1)) (.str x) (wD w) en h = .nx en (h.set (k + 1) (.dic (enc kS wD (aPut S.nm x w)))) := fun en => by
    rw [itm_dic s2 (by rw [enc_len]; exact size_le (n := S.nm.length + 1) (by omega)), pt]
  by_cases q : isW w = isT x
  · rw [if_pos q] at e ⊢
    simp (disch := first | with_reducible assumption | omega | with_reducible exact size_le (by omega) | decide | (simp only [List.length_cons, List.length_nil, List.length_append]; first | omega | with_reducible exact size_le (by omega)) | exact ⟨by simp only [List.length_cons, List.length_nil]; omega, by decide⟩ | fail) [-getElem?_pos, -getElem?_neg, -Int.natCast_add, le_size, rngR_ok, mul_int, mod_int, div_int, pow_int, add_str, len_str, len_refU, idx_refU, any_refU, all_refU, in_refU, in_tupU, okTo_appU, append_U, it_refU, join_refU, add_refU, isi_refU, idx_str, slc_str, str_int, int_str, meOf, List.lookup, fldOf, putN, putR_ok, List.getElem?_cons_zero, List.getElem?_cons_succ, List.getElem?_concat_length, get_app, get_app0, en_refU, mul_refU, tupF_refU, slc_refU, s1, e, it]
  · rw [if_neg q] at e ⊢
    simp (disch := first | with_reducible assumption | omega | with_reducible exact size_le (by omega) | decide | (simp only [List.length_cons, List.length_nil, List.length_append]; first | omega | with_reducible exact size_le (by omega)) | exact ⟨by simp only [List.length_cons, List.length_nil]; omega, by decide⟩ | fail) [-getElem?_pos, -getElem?_neg, -Int.natCast_add, le_size, rngR_ok, mul_int, mod_int, div_int, pow_int, add_str, len_str, len_refU, idx_refU, any_refU, all_refU, in_refU, in_tupU, okTo_appU, append_U, it_refU, join_refU, add_refU, isi_refU, idx_str, slc_str, str_int, int_str, meOf, List.lookup, fldOf, putN, putR_ok, List.getElem?_cons_zero, List.getElem?_cons_succ, List.getElem?_concat_length, get_app, get_app0, en_refU, mul_refU, tupF_refU, slc_refU, e]
/-! ### places -/
theorem pairs_ints : ∀ ps bs : List Int, pairs (ps.map D.int) (bs.map D.int) = (ps.zip bs).map fun q => .tup [.int q.1, .int q.2]
  | [], _ => rfl
  | _ :: _, [] => rfl
  | p :: ps, b :: bs => by
    show _ :: pairs (ps.map D.int) (bs.map D.int) = _
    rw [pairs_ints ps bs]
    rfl
def fIn : D → D
  | .tup [.int p, .int b] => .bl (decide (0 ≤ p) && decide (p ≤ b))
  | _ => .non
theorem comp_in {st : D → En → Option En} {elt : M} {e0 : En} {h : DH} (ps bs : List Int) (hs : ∀ p b : Int, ∃ e, st (.tup [.int p, .int b]) e0 = some e ∧ elt e h = .ok (.bl (decide (0 ≤ p) && decide (p ≤ b))) h) :
    compL none st mTrue elt e0 (pairs (ps.map D.int) (bs.map D.int)) h = .ok (((ps.zip bs).map fun q => decide (0 ≤ q.1) && decide (q.1 ≤ q.2)).map D.bl) h := by
  have z := compL_map (g := none) (st := st) (cond := mTrue) (elt := elt) (e0 := e0) fIn (h := h) still_none (pairs (ps.map D.int) (bs.map D.int)) fun d hd => by
    rw [pairs_ints] at hd
    obtain ⟨q, _, rfl⟩ := List.mem_map.mp hd
    obtain ⟨e, h1, h2⟩ := hs q.1 q.2
    exact ⟨e, h1, rfl, h2⟩
  rw [z, pairs_ints, List.map_map, List.map_map]
  rfl
theorem all_in (ps bs : List Int) : (((ps.zip bs).map fun q => decide (0 ≤ q.1) && decide (q.1 ≤ q.2)).all id) = inB bs ps := by
  unfold inB
  rw [List.all_map]
  rfl
theorem pairs_le (ps bs : List Int) (h : ps.length ≤ 100) : (pairs (ps.map D.int) (bs.map D.int)).length ≤ sizeLine := by
  rw [pairs_ints, List.length_map, List.length_zip]
  exact size_le (by omega)
theorem ten_eq (k : Nat) : (List.replicate (k : Int).toNat ([.int 10] : List D)).flatten = List.replicate k (D.int 10) := by
  rw [Int.toNat_natCast]
  induction k with
  | zero => rfl
  | succ k ih => rw [List.replicate_succ, List.flatten_cons, ih, List.replicate_succ]; rfl
theorem bnd_D (S : Sto) (x : Tx) (k : Nat) : ((aLk S.bd x).map bD).getD (.tup (List.replicate k (D.int 10))) = .tup ((bnd S x k).map D.int) := by
  unfold bnd
  cases aLk S.bd x with
  | none => simp
  | some b => rfl
end
end K30

namespace K30
open PySem L2 Mp
section
variable {n : Nat} {h : DH} {x : Tx} {k : Nat} {S : Sto} {w : Wo} {ps : List Int}
theorem mul_ten (hp : ps.length = 1 ∨ ps.length = 2) {h : DH} : dBin .Mult (.tup [.int 10]) (.int (ps.length : Int)) h = .ok (.tup (List.replicate ps.length (.int 10))) h := by
  rw [mul_tup ⟨by omega, by omega, by decide, by decide⟩, ten_eq]
theorem bl_all (ps bs : List Int) : (bolsOf (((ps.zip bs).map fun q => decide (0 ≤ q.1) && decide (q.1 ≤ q.2)).map D.bl)).map (fun l => l.all id) = some (inB bs ps) := by
  rw [bols_map, Option.map_some, all_in]
theorem comp_all {st : D → En → Option En} {elt : M} {e0 : En} {h : DH} (ps bs : List Int) (hs : ∀ p b : Int, ∃ e, st (.tup [.int p, .int b]) e0 = some e ∧ elt e h = .ok (.bl (decide (0 ≤ p) && decide (p ≤ b))) h) :
    ∃ BL, compL none st mTrue elt e0 (pairs (ps.map D.int) (bs.map D.int)) h = .ok BL h ∧ (bolsOf BL).map (fun l => l.all id) = some (inB bs ps) := ⟨_, comp_in ps bs hs, bl_all ps bs⟩
theorem ins_eq {bs ps : List Int} : ins bs ps = (decide ((bs.length : Int) = (ps.length : Int)) && inB bs ps) := by
  unfold ins
  congr 1
  exact decide_eq_decide.mpr (by omega)
theorem c_look (s : StA h k S) (o : NmO x) (hp : ps.length = 1 ∨ ps.length = 2) (hS : Ok 1000 S) :
    ∃ g, callN T (n + 2) 17 [.ref k, .str x, .tup (ps.map .int)] h = if ins (bnd S x ps.length) ps then .ok .non ((h ++ g).set (k + 2) (.dic (enc kS bD (aPut S.bd x (bnd S x ps.length))))) else .exc 1 (some (.str INDEX)) (h ++ g) := by
  obtain ⟨b1, b2⟩ := bnd_ok hS (x := x) hp
  have bd := bnd_D S x ps.length
  have mt := mul_ten hp (h := h)
  have s1 := s.ob
  have s2 := s.bd
  have lk : dLk (enc kS bD S.bd) (.str x) = (aLk S.bd x).map bD := enc_lk (ve := bD) kS_eq S.bd x
  rw [call_eq (k := n + 1) (fn := q17.fn) rfl rfl]
  simp only [Def1.fn, q17, b_Store_look, c_USUAL_BOUND]
  generalize bnd S x ps.length = bs at *
  obtain ⟨BL, cm, ea⟩ := comp_all (st := stTup [4, 5]) (elt := t_Store_look_1 (callN T (n + 1))) (e0 := [some (.ref k), some (.str x), some (.tup (ps.map .int)), some (.tup (bs.map .int)), none, none]) (h := h) ps bs fun p b => by
    refine ⟨_, rfl, ?_⟩
    simp only [t_Store_look_1]
    by_cases h0 : 0 ≤ p <;> simp (disch := first | with_reducible assumption | omega | with_reducible exact size_le (by omega) | decide | (simp only [List.length_cons, List.length_nil, List.length_append]; first | omega | with_reducible exact size_le (by omega)) | exact ⟨by simp only [List.length_cons, List.length_nil]; omega, by decide⟩ | fail) [-getElem?_pos, -getElem?_neg, -Int.natCast_add, le_size, rngR_ok, mul_int, mod_int, div_int, pow_int, add_str, len_str, len_refU, idx_refU, any_refU, all_refU, in_refU, in_tupU, okTo_appU, append_U, it_refU, join_refU, add_refU, isi_refU, idx_str, slc_str, str_int, int_str, meOf, List.lookup, fldOf, putN, putR_ok, List.getElem?_cons_zero, List.getElem?_cons_succ, List.getElem?_concat_length, get_app, get_app0, en_refU, mul_refU, tupF_refU, slc_refU, h0]
  have pl := pairs_le ps bs (by omega)
  have hsz : (enc kS bD S.bd).length < sizeLine := by rw [enc_len]; exact size_le (n := S.bd.length + 1) (by have := hS.l2; omega)
  have s3 : (h ++ [O.lst BL])[k + 2]? = some (.dic (enc kS bD S.bd)) := get_ap s2
  have s4 : (h ++ [O.lst BL])[k]? = _ := get_ap s1
  have pt : dPut (enc kS bD S.bd) (.str x) (.tup (bs.map .int)) = enc kS bD (aPut S.bd x bs) := enc_put (ve := bD) kS_eq S.bd x bs
  have it : ∀ en, itmR (.ref (k + 2)) (.str x) (.tup (bs.map .int)) en (h ++ [O.lst BL]) = .nx en ((h ++ [O.lst BL]).set (k + 2) (.dic (enc kS bD (aPut S.bd x bs)))) := fun en => by
    rw [itm_dic s3 hsz, pt]
  have n1 := fun b => c_needP (n := n) (h := h) b
  have n2 := fun b => c_needP (n := n) (h := h ++ [O.lst BL]) b
  by_cases q1 : (bs.length : Int) = (ps.length : Int)
  · have t1 := n1 true
    rw [if_pos rfl] at t1
    have i1 : ins bs ps = inB bs ps := by rw [ins_eq, decide_eq_true q1, Bool.true_and]
    have t2 := n2 (inB bs ps)
    refine ⟨[O.lst BL], ?_⟩
    rw [i1]
    cases q2 : inB bs ps with
    | true =>
      rw [q2] at ea t2
      rw [if_pos rfl] at t2
      simp (disch := first | with_reducible assumption | omega | with_reducible exact size_le (by omega) | decide | (simp only [List.length_cons, List.length_nil, List.length_append]; first | omega | with_reducible exact size_le (by omega)) | exact ⟨by simp only [List.length_cons, List.length_nil]; omega, by decide⟩ | fail) [-getElem?_pos, -getElem?_neg, -Int.natCast_add, le_size, rngR_ok, mul_int, mod_int, div_int, pow_int, add_str, len_str, len_refU, idx_refU, any_refU, all_refU, in_refU, in_tupU, okTo_appU, append_U, it_refU, join_refU, add_refU, isi_refU, idx_str, slc_str, str_int, int_str, meOf, List.lookup, fldOf, putN, putR_ok, List.getElem?_cons_zero, List.getElem?_cons_succ, List.getElem?_concat_length, get_app, get_app0, en_refU, mul_refU, tupF_refU, slc_refU, s1, s2, s4, mt, lk, bd, q1, t1, wipeD, cm, pl, ea, t2, it]
    | false =>
      rw [q2] at ea t2
      rw [if_neg Bool.false_ne_true] at t2
      simp (disch := first | with_reducible assumption | omega | with_reducible exact size_le (by omega) | decide | (simp only [List.length_cons, List.length_nil, List.length_append]; first | omega | with_reducible exact size_le (by omega)) | exact ⟨by simp only [List.length_cons, List.length_nil]; omega, by decide⟩ | fail) [-getElem?_pos, -getElem?_neg, -Int.natCast_add, le_size, rngR_ok, mul_int, mod_int, div_int, pow_int, add_str, len_str, len_refU, idx_refU, any_refU, all_refU, in_refU, in_tupU, okTo_appU, append_U, it_refU, join_refU, add_refU, isi_refU, idx_str, slc_str, str_int, int_str, meOf, List.lookup, fldOf, putN, putR_ok, List.getElem?_cons_zero, List.getElem?_cons_succ, List.getElem?_concat_length, get_app, get_app0, en_refU, mul_refU, tupF_refU, slc_refU, s1, s2, mt, lk, bd, q1, t1, wipeD, cm, pl, ea, t2]
  · have t1 := n1 false
    rw [if_neg Bool.false_ne_true] at t1
    have i1 : ins bs ps = false := by rw [ins_eq, decide_eq_false q1, Bool.false_and]
    refine ⟨[], ?_⟩
    rw [i1, List.append_nil]
    simp (disch := first | with_reducible assumption | omega | with_reducible exact size_le (by omega) | decide | (simp only [List.length_cons, List.length_nil, List.length_append]; first | omega | with_reducible exact size_le (by omega)) | exact ⟨by simp only [List.length_cons, List.length_nil]; omega, by decide⟩ | fail) [-getElem?_pos, -getElem?_neg, -Int.natCast_add, le_size, rngR_ok, mul_int, mod_int, div_int, pow_int, add_str, len_str, len_refU, idx_refU, any_refU, all_refU, in_refU, in_tupU, okTo_appU, append_U, it_refU, join_refU, add_refU, isi_refU, idx_str, slc_str, str_int, int_str, meOf, List.lookup, fldOf, putN, putR_ok, List.getElem?_cons_zero, List.getElem?_cons_succ, List.getElem?_concat_length, get_app, get_app0, en_refU, mul_refU, tupF_refU, slc_refU, s1, s2, mt, lk, bd, q1, t1]
end
end K30

namespace K30
open PySem L2 Mp
section
variable {n : Nat} {h : DH} {x : Tx} {k : Nat} {S : Sto} {w : Wo} {ps bs : List Int}
theorem gd_w (o : Option Wo) (d : Wo) : (o.map wD).getD (wD d) = wD (o.getD d) := by cases o <;> rfl
theorem c_cellS (s : StA h k S) (o : NmO x) (hp : ps.length = 1 ∨ ps.length = 2) (hS : Ok 1000 S) :
    ∃ g, callN T (n + 3) 18 [.ref k, .str x, .tup (ps.map .int)] h = if ins (bnd S x ps.length) ps then .ok (wD ((aLk S.cl (x, ps)).getD (nul x))) ((h ++ g).set (k + 2) (.dic (enc kS bD (aPut S.bd x (bnd S x ps.length))))) else .exc 1 (some (.str INDEX)) (h ++ g) := by
  obtain ⟨g, e⟩ := c_look (n := n) s o hp hS
  refine ⟨g, ?_⟩
  rw [call_eq (k := n + 2) (fn := q18.fn) rfl rfl]
  simp only [Def1.fn, q18, b_Store_cell]
  have s1 := s.ob
  by_cases q : ins (bnd S x ps.length) ps = true
  · rw [if_pos q] at e ⊢
    have sA := (s.app (g := g)).putB (aPut S.bd x (bnd S x ps.length))
    have s2 := sA.ob
    have s3 := sA.cl
    have lk : dLk (enc kC wD S.cl) (.tup [.str x, .tup (ps.map .int)]) = (aLk S.cl (x, ps)).map wD := enc_lk (ve := wD) kC_eq S.cl (x, ps)
    generalize (h ++ g).set (k + 2) (.dic (enc kS bD (aPut S.bd x (bnd S x ps.length)))) = H at *
    have en := c_nul (n := n) (h := H) o
    have gt : gtO (some (dcT (enc kC wD S.cl))) (.tup [.str x, .tup (ps.map .int)]) (wD (nul x)) H = .ok ((dLk (enc kC wD S.cl) (.tup [.str x, .tup (ps.map .int)])).getD (wD (nul x))) H := gtO_dcT (kC_tk (x, ps))
    rw [lk, gd_w] at gt
    have l2 : ([D.str x, D.tup (ps.map .int)] : List D).length ≤ sizeLine := size_le (n := 2) (by decide)
    simp (disch := first | with_reducible assumption | omega | with_reducible exact size_le (by omega) | decide | (simp only [List.length_cons, List.length_nil, List.length_append]; first | omega | with_reducible exact size_le (by omega)) | exact ⟨by simp only [List.length_cons, List.length_nil]; omega, by decide⟩ | fail) [-getElem?_pos, -getElem?_neg, -Int.natCast_add, le_size, rngR_ok, mul_int, mod_int, div_int, pow_int, add_str, len_str, len_refU, idx_refU, any_refU, all_refU, in_refU, in_tupU, okTo_appU, append_U, it_refU, join_refU, add_refU, isi_refU, idx_str, slc_str, str_int, int_str, meOf, List.lookup, fldOf, putN, putR_ok, List.getElem?_cons_zero, List.getElem?_cons_succ, List.getElem?_concat_length, get_app, get_app0, en_refU, mul_refU, tupF_refU, slc_refU, s1, e, s2, s3, en, gt]
  · rw [if_neg q] at e ⊢
    simp (disch := first | with_reducible assumption | omega | with_reducible exact size_le (by omega) | decide | (simp only [List.length_cons, List.length_nil, List.length_append]; first | omega | with_reducible exact size_le (by omega)) | exact ⟨by simp only [List.length_cons, List.length_nil]; omega, by decide⟩ | fail) [-getElem?_pos, -getElem?_neg, -Int.natCast_add, le_size, rngR_ok, mul_int, mod_int, div_int, pow_int, add_str, len_str, len_refU, idx_refU, any_refU, all_refU, in_refU, in_tupU, okTo_appU, append_U, it_refU, join_refU, add_refU, isi_refU, idx_str, slc_str, str_int, int_str, meOf, List.lookup, fldOf, putN, putR_ok, List.getElem?_cons_zero, List.getElem?_cons_succ, List.getElem?_concat_length, get_app, get_app0, en_refU, mul_refU, tupF_refU, slc_refU, s1, e]
theorem c_putCS (s : StA h k S) (o : NmO x) (hp : ps.length = 1 ∨ ps.length = 2) (hS : Ok 1000 S) :
    ∃ g, callN T (n + 3) 19 [.ref k, .str x, .tup (ps.map .int), wD w] h = if ins (bnd S x ps.length) ps then (if isW w = isT x then .ok .non (((h ++ g).set (k + 2) (.dic (enc kS bD (aPut S.bd x (bnd S x ps.length))))).set (k + 3) (dcT (enc kC wD (aPut S.cl (x, ps) w)))) else .exc 1 (some (.str KIND)) (h ++ g)) else .exc 1 (some (.str INDEX)) (h ++ g) := by
  obtain ⟨b1, b2⟩ := bnd_ok hS (x := x) hp
  have bd := bnd_D S x ps.length
  have mt := mul_ten hp (h := h)
  have s1 := s.ob
  have s2 := s.bd
  have lk : dLk (enc kS bD S.bd) (.str x) = (aLk S.bd x).map bD := enc_lk (ve := bD) kS_eq S.bd x
  rw [call_eq (k := n + 2) (fn := q19.fn) rfl rfl]
  simp only [Def1.fn, q19, b_Store_put_cell, c_USUAL_BOUND]
  generalize bnd S x ps.length = bs at *
  obtain ⟨BL, cm, ea⟩ := comp_all (st := stTup [5, 6]) (elt := t_Store_put_cell_1 (callN T (n + 2))) (e0 := [some (.ref k), some (.str x), some (.tup (ps.map .int)), some (wD w), some (.tup (bs.map .int)), none, none]) (h := h) ps bs fun p b => by
    refine ⟨_, rfl, ?_⟩
    simp only [t_Store_put_cell_1]
    by_cases h0 : 0 ≤ p <;> simp (disch := first | with_reducible assumption | omega | with_reducible exact size_le (by omega) | decide | (simp only [List.length_cons, List.length_nil, List.length_append]; first | omega | with_reducible exact size_le (by omega)) | exact ⟨by simp only [List.length_cons, List.length_nil]; omega, by decide⟩ | fail) [-getElem?_pos, -getElem?_neg, -Int.natCast_add, le_size, rngR_ok, mul_int, mod_int, div_int, pow_int, add_str, len_str, len_refU, idx_refU, any_refU, all_refU, in_refU, in_tupU, okTo_appU, append_U, it_refU, join_refU, add_refU, isi_refU, idx_str, slc_str, str_int, int_str, meOf, List.lookup, fldOf, putN, putR_ok, List.getElem?_cons_zero, List.getElem?_cons_succ, List.getElem?_concat_length, get_app, get_app0, en_refU, mul_refU, tupF_refU, slc_refU, h0]
  have pl := pairs_le ps bs (by omega)
  have hsz : (enc kS bD S.bd).length < sizeLine := by rw [enc_len]; exact size_le (n := S.bd.length + 1) (by have := hS.l2; omega)
  have hsz2 : (enc kC wD S.cl).length < sizeLine := by rw [enc_len]; exact size_le (n := S.cl.length + 1) (by have := hS.l3; omega)
  have s3 : (h ++ [O.lst BL])[k + 2]? = some (.dic (enc kS bD S.bd)) := get_ap s2
  have s4 : (h ++ [O.lst BL])[k]? = _ := get_ap s1
  have pt : dPut (enc kS bD S.bd) (.str x) (.tup (bs.map .int)) = enc kS bD (aPut S.bd x bs) := enc_put (ve := bD) kS_eq S.bd x bs
  have it : ∀ en, itmR (.ref (k + 2)) (.str x) (.tup (bs.map .int)) en (h ++ [O.lst BL]) = .nx en ((h ++ [O.lst BL]).set (k + 2) (.dic (enc kS bD (aPut S.bd x bs)))) := fun en => by
    rw [itm_dic s3 hsz, pt]
  have sA := (s.app (g := [O.lst BL])).putB (aPut S.bd x bs)
  have s5 := sA.ob
  have s6 : ((h ++ [O.lst BL]).set (k + 2) (.dic (enc kS bD (aPut S.bd x bs))))[k + 3]? = some (dcT (enc kC wD S.cl)) := sA.cl
  have pt2 : dPut (enc kC wD S.cl) (.tup [.str x, .tup (ps.map .int)]) (wD w) = enc kC wD (aPut S.cl (x, ps) w) := enc_put (ve := wD) kC_eq S.cl (x, ps) w
  have it2 : ∀ en, itmR (.ref (k + 3)) (.tup [.str x, .tup (ps.map .int)]) (wD w) en ((h ++ [O.lst BL]).set (k + 2) (.dic (enc kS bD (aPut S.bd x bs)))) = .nx en (((h ++ [O.lst BL]).set (k + 2) (.dic (enc kS bD (aPut S.bd x bs)))).set (k + 3) (dcT (enc kC wD (aPut S.cl (x, ps) w)))) := fun en => by
    rw [itm_dct s6 (kC_tk (x, ps)) hsz2, pt2]
  have n1 := fun b => c_needP (n := n + 1) (h := h) b
  have n2 := fun b => c_needP (n := n + 1) (h := h ++ [O.lst BL]) b
  have nk := c_needK (n := n) (h := h ++ [O.lst BL]) (w := w) o
  have l2 : ([D.str x, D.tup (ps.map .int)] : List D).length ≤ sizeLine := size_le (n := 2) (by decide)
  by_cases q1 : (bs.length : Int) = (ps.length : Int)
  · have t1 := n1 true
    rw [if_pos rfl] at t1
    have i1 : ins bs ps = inB bs ps := by rw [ins_eq, decide_eq_true q1, Bool.true_and]
    have t2 := n2 (inB bs ps)
    refine ⟨[O.lst BL], ?_⟩
    rw [i1]
    cases q2 : inB bs ps with
    | true =>
      rw [q2] at ea t2
      rw [if_pos rfl] at t2 ⊢
      by_cases q3 : isW w = isT x
      · rw [if_pos q3] at nk ⊢
        have g0 : (h ++ [O.lst BL])[h.length]? = some (.lst BL) := by simp
        generalize eH : h ++ [O.lst BL] = H1 at *
        generalize H1.set (k + 2) (.dic (enc kS bD (aPut S.bd x bs))) = H2 at *
        simp (disch := first | with_reducible assumption | omega | with_reducible exact size_le (by omega) | decide | (simp only [List.length_cons, List.length_nil, List.length_append]; first | omega | with_reducible exact size_le (by omega)) | exact ⟨by simp only [List.length_cons, List.length_nil]; omega, by decide⟩ | fail) [-getElem?_pos, -getElem?_neg, -Int.natCast_add, le_size, rngR_ok, mul_int, mod_int, div_int, pow_int, add_str, len_str, len_refU, idx_refU, any_refU, all_refU, in_refU, in_tupU, okTo_appU, append_U, it_refU, join_refU, add_refU, isi_refU, idx_str, slc_str, str_int, int_str, meOf, List.lookup, fldOf, putN, putR_ok, List.getElem?_cons_zero, List.getElem?_cons_succ, List.getElem?_concat_length, get_app, get_app0, en_refU, mul_refU, tupF_refU, slc_refU, eH, g0, s1, s2, s4, s5, mt, lk, bd, q1, t1, wipeD, cm, pl, ea, t2, nk, it, it2]
      · rw [if_neg q3] at nk ⊢
        simp (disch := first | with_reducible assumption | omega | with_reducible exact size_le (by omega) | decide | (simp only [List.length_cons, List.length_nil, List.length_append]; first | omega | with_reducible exact size_le (by omega)) | exact ⟨by simp only [List.length_cons, List.length_nil]; omega, by decide⟩ | fail) [-getElem?_pos, -getElem?_neg, -Int.natCast_add, le_size, rngR_ok, mul_int, mod_int, div_int, pow_int, add_str, len_str, len_refU, idx_refU, any_refU, all_refU, in_refU, in_tupU, okTo_appU, append_U, it_refU, join_refU, add_refU, isi_refU, idx_str, slc_str, str_int, int_str, meOf, List.lookup, fldOf, putN, putR_ok, List.getElem?_cons_zero, List.getElem?_cons_succ, List.getElem?_concat_length, get_app, get_app0, en_refU, mul_refU, tupF_refU, slc_refU, s1, s2, s4, mt, lk, bd, q1, t1, wipeD, cm, pl, ea, t2, nk]
    | false =>
      rw [q2] at ea t2
      rw [if_neg Bool.false_ne_true] at t2
      simp (disch := first | with_reducible assumption | omega | with_reducible exact size_le (by omega) | decide | (simp only [List.length_cons, List.length_nil, List.length_append]; first | omega | with_reducible exact size_le (by omega)) | exact ⟨by simp only [List.length_cons, List.length_nil]; omega, by decide⟩ | fail) [-getElem?_pos, -getElem?_neg, -Int.natCast_add, le_size, rngR_ok, mul_int, mod_int, div_int, pow_int, add_str, len_str, len_refU, idx_refU, any_refU, all_refU, in_refU, in_tupU, okTo_appU, append_U, it_refU, join_refU, add_refU, isi_refU, idx_str, slc_str, str_int, int_str, meOf, List.lookup, fldOf, putN, putR_ok, List.getElem?_cons_zero, List.getElem?_cons_succ, List.getElem?_concat_length, get_app, get_app0, en_refU, mul_refU, tupF_refU, slc_refU, s1, s2, mt, lk, bd, q1, t1, wipeD, cm, pl, ea, t2]
  · have t1 := n1 false
    rw [if_neg Bool.false_ne_true] at t1
    have i1 : ins bs ps = false := by rw [ins_eq, decide_eq_false q1, Bool.false_and]
    refine ⟨[], ?_⟩
    rw [i1, List.append_nil]
    simp (disch := first | with_reducible assumption | omega | with_reducible exact size_le (by omega) | decide | (simp only [List.length_cons, List.length_nil, List.length_append]; first | omega | with_reducible exact size_le (by omega)) | exact ⟨by simp only [List.length_cons, List.length_nil]; omega, by decide⟩ | fail) [-getElem?_pos, -getElem?_neg, -Int.natCast_add, le_size, rngR_ok, mul_int, mod_int, div_int, pow_int, add_str, len_str, len_refU, idx_refU, any_refU, all_refU, in_refU, in_tupU, okTo_appU, append_U, it_refU, join_refU, add_refU, isi_refU, idx_str, slc_str, str_int, int_str, meOf, List.lookup, fldOf, putN, putR_ok, List.getElem?_cons_zero, List.getElem?_cons_succ, List.getElem?_concat_length, get_app, get_app0, en_refU, mul_refU, tupF_refU, slc_refU, s1, s2, mt, lk, bd, q1, t1]
/-! ### laying -/
def fLay : D → D
  | .int z => .bl (decide (0 ≤ z) && decide (z ≤ 99))
  | _ => .non
theorem comp_lay {elt : M} {e0 : En} {st : D → En → Option En} {h : DH} (bs : List Int) (hs : ∀ z : Int, ∃ e, st (.int z) e0 = some e ∧ elt e h = .ok (.bl (decide (0 ≤ z) && decide (z ≤ 99))) h) :
    ∃ BL, compL none st mTrue elt e0 (bs.map D.int) h = .ok BL h ∧ (bolsOf BL).map (fun l => l.all id) = some (bs.all fun z => decide (0 ≤ z) && decide (z ≤ 99)) := by
  refine ⟨(bs.map fun z => decide (0 ≤ z) && decide (z ≤ 99)).map D.bl, ?_, ?_⟩
  · rw [compL_map fLay still_none (bs.map D.int) fun d hd => by
      obtain ⟨z, _, rfl⟩ := List.mem_map.mp hd
      obtain ⟨e, h1, h2⟩ := hs z
      exact ⟨e, h1, rfl, h2⟩, List.map_map, List.map_map]
    rfl
  · rw [bols_map, Option.map_some, List.all_map]
    rfl
theorem in12 (m : Nat) : dCmp .In (.int (m : Int)) (.tup [.int 1, .int 2]) h = some (decide (m = 1 ∨ m = 2)) := by
  show some (decide ((m : Int) ∈ ([1, 2] : List Int))) = _
  congr 1
  refine decide_eq_decide.mpr ?_
  simp only [List.mem_cons, List.not_mem_nil, or_false]
  omega
theorem c_layS (s : StA h k S) (o : NmO x) (hb : bs.length ≤ 100) (hS : Ok 1000 S) :
    ∃ g, callN T (n + 2) 14 [.ref k, .str x, .tup (bs.map .int)] h = if (aLk S.bd x).isSome then .exc 1 (some (.str AGAIN)) (h ++ g) else if okL bs then .ok .non ((h ++ g).set (k + 2) (.dic (enc kS bD (aPut S.bd x bs)))) else .exc 1 (some (.str INDEX)) (h ++ g) := by
  have s1 := s.ob
  have s2 := s.bd
  have lk : dLk (enc kS bD S.bd) (.str x) = (aLk S.bd x).map bD := enc_lk (ve := bD) kS_eq S.bd x
  rw [call_eq (k := n + 1) (fn := q14.fn) rfl rfl]
  simp only [Def1.fn, q14, b_Store_lay]
  obtain ⟨BL, cm, ea⟩ := comp_lay (st := stName 3) (elt := t_Store_lay_1 (callN T (n + 1))) (e0 := [some (.ref k), some (.str x), some (.tup (bs.map .int)), none]) (h := h) bs fun z => by
    refine ⟨_, rfl, ?_⟩
    simp only [t_Store_lay_1, c_MOST_BOUND]
    by_cases h0 : 0 ≤ z <;> simp (disch := first | with_reducible assumption | omega | with_reducible exact size_le (by omega) | decide | (simp only [List.length_cons, List.length_nil, List.length_append]; first | omega | with_reducible exact size_le (by omega)) | exact ⟨by simp only [List.length_cons, List.length_nil]; omega, by decide⟩ | fail) [-getElem?_pos, -getElem?_neg, -Int.natCast_add, le_size, rngR_ok, mul_int, mod_int, div_int, pow_int, add_str, len_str, len_refU, idx_refU, any_refU, all_refU, in_refU, in_tupU, okTo_appU, append_U, it_refU, join_refU, add_refU, isi_refU, idx_str, slc_str, str_int, int_str, meOf, List.lookup, fldOf, putN, putR_ok, List.getElem?_cons_zero, List.getElem?_cons_succ, List.getElem?_concat_length, get_app, get_app0, en_refU, mul_refU, tupF_refU, slc_refU, h0]
  have pl : (bs.map D.int).length ≤ sizeLine := size_le (by rw [List.length_map]; omega)
  have hsz : (enc kS bD S.bd).length < sizeLine := by rw [enc_len]; exact size_le (n := S.bd.length + 1) (by have := hS.l2; omega)
  have s3 : (h ++ [O.lst BL])[k + 2]? = some (.dic (enc kS bD S.bd)) := get_ap s2
  have s4 : (h ++ [O.lst BL])[k]? = _ := get_ap s1
  have pt : dPut (enc kS bD S.bd) (.str x) (.tup (bs.map .int)) = enc kS bD (aPut S.bd x bs) := enc_put (ve := bD) kS_eq S.bd x bs
  have it : ∀ en, itmR (.ref (k + 2)) (.str x) (.tup (bs.map .int)) en (h ++ [O.lst BL]) = .nx en ((h ++ [O.lst BL]).set (k + 2) (.dic (enc kS bD (aPut S.bd x bs)))) := fun en => by
    rw [itm_dic s3 hsz, pt]
  have n1 := fun b => c_needP (n := n) (h := h) b
  have n2 := fun b => c_needP (n := n) (h := h ++ [O.lst BL]) b
  have i12 := in12 (h := h) bs.length
  cases q0 : (aLk S.bd x).isSome with
  | true =>
    refine ⟨[], ?_⟩
    rw [List.append_nil, if_pos rfl]
    have lk2 : (dLk (enc kS bD S.bd) (.str x)).isSome = true := by rw [lk, Option.isSome_map]; exact q0
    simp (disch := first | with_reducible assumption | omega | with_reducible exact size_le (by omega) | decide | (simp only [List.length_cons, List.length_nil, List.length_append]; first | omega | with_reducible exact size_le (by omega)) | exact ⟨by simp only [List.length_cons, List.length_nil]; omega, by decide⟩ | fail) [-getElem?_pos, -getElem?_neg, -Int.natCast_add, le_size, rngR_ok, mul_int, mod_int, div_int, pow_int, add_str, len_str, len_refU, idx_refU, any_refU, all_refU, in_refU, in_tupU, okTo_appU, append_U, it_refU, join_refU, add_refU, isi_refU, idx_str, slc_str, str_int, int_str, meOf, List.lookup, fldOf, putN, putR_ok, List.getElem?_cons_zero, List.getElem?_cons_succ, List.getElem?_concat_length, get_app, get_app0, en_refU, mul_refU, tupF_refU, slc_refU, s1, s2, lk2, AGAIN]
  | false =>
    have lk2 : (dLk (enc kS bD S.bd) (.str x)).isSome = false := by rw [lk, Option.isSome_map]; exact q0
    by_cases q1 : bs.length = 1 ∨ bs.length = 2
    · rw [decide_eq_true q1] at i12
      have ok : okL bs = bs.all fun z => decide (0 ≤ z) && decide (z ≤ 99) := by unfold okL; rw [decide_eq_true q1, Bool.true_and]
      rw [← ok] at ea
      refine ⟨[O.lst BL], ?_⟩
      rw [if_neg Bool.false_ne_true]
      have t2 := n2 (okL bs)
      cases q2 : okL bs with
      | true =>
        rw [q2] at ea t2
        rw [if_pos rfl] at t2 ⊢
        have g0 : (h ++ [O.lst BL])[h.length]? = some (.lst BL) := by simp
        generalize eH : h ++ [O.lst BL] = H1 at *
        simp (disch := first | with_reducible assumption | omega | with_reducible exact size_le (by omega) | decide | (simp only [List.length_cons, List.length_nil, List.length_append]; first | omega | with_reducible exact size_le (by omega)) | exact ⟨by simp only [List.length_cons, List.length_nil]; omega, by decide⟩ | fail) [-getElem?_pos, -getElem?_neg, -Int.natCast_add, le_size, rngR_ok, mul_int, mod_int, div_int, pow_int, add_str, len_str, len_refU, idx_refU, any_refU, all_refU, in_refU, in_tupU, okTo_appU, append_U, it_refU, join_refU, add_refU, isi_refU, idx_str, slc_str, str_int, int_str, meOf, List.lookup, fldOf, putN, putR_ok, List.getElem?_cons_zero, List.getElem?_cons_succ, List.getElem?_concat_length, get_app, get_app0, en_refU, mul_refU, tupF_refU, slc_refU, eH, g0, s1, s2, lk2, i12, wipeD, cm, pl, ea, t2, s4, it]
      | false =>
        rw [q2] at ea t2
        rw [if_neg Bool.false_ne_true] at t2 ⊢
        simp (disch := first | with_reducible assumption | omega | with_reducible exact size_le (by omega) | decide | (simp only [List.length_cons, List.length_nil, List.length_append]; first | omega | with_reducible exact size_le (by omega)) | exact ⟨by simp only [List.length_cons, List.length_nil]; omega, by decide⟩ | fail) [-getElem?_pos, -getElem?_neg, -Int.natCast_add, le_size, rngR_ok, mul_int, mod_int, div_int, pow_int, add_str, len_str, len_refU, idx_refU, any_refU, all_refU, in_refU, in_tupU, okTo_appU, append_U, it_refU, join_refU, add_refU, isi_refU, idx_str, slc_str, str_int, int_str, meOf, List.lookup, fldOf, putN, putR_ok, List.getElem?_cons_zero, List.getElem?_cons_succ, List.getElem?_concat_length, get_app, get_app0, en_refU, mul_refU, tupF_refU, slc_refU, s1, s2, lk2, i12, wipeD, cm, pl, ea, t2]
    · rw [decide_eq_false q1] at i12
      have ok : okL bs = false := by unfold okL; rw [decide_eq_false q1, Bool.false_and]
      refine ⟨[], ?_⟩
      rw [if_neg Bool.false_ne_true, ok, if_neg Bool.false_ne_true, List.append_nil]
      have t2 := n1 false
      rw [if_neg Bool.false_ne_true] at t2
      simp (disch := first | with_reducible assumption | omega | with_reducible exact size_le (by omega) | decide | (simp only [List.length_cons, List.length_nil, List.length_append]; first | omega | with_reducible exact size_le (by omega)) | exact ⟨by simp only [List.length_cons, List.length_nil]; omega, by decide⟩ | fail) [-getElem?_pos, -getElem?_neg, -Int.natCast_add, le_size, rngR_ok, mul_int, mod_int, div_int, pow_int, add_str, len_str, len_refU, idx_refU, any_refU, all_refU, in_refU, in_tupU, okTo_appU, append_U, it_refU, join_refU, add_refU, isi_refU, idx_str, slc_str, str_int, int_str, meOf, List.lookup, fldOf, putN, putR_ok, List.getElem?_cons_zero, List.getElem?_cons_succ, List.getElem?_concat_length, get_app, get_app0, en_refU, mul_refU, tupF_refU, slc_refU, s1, s2, lk2, i12, t2]
end
end K30

namespace K30
open PySem L2 Mp
section
variable {n : Nat} {h : DH} {x : Tx} {m : Nat} {S : Sto} {w : Wo} {ps bs : List Int}
theorem c_inside (hp : ps.length ≤ 2) : ∃ g, callN T (n + 1) 10 [.tup (bs.map .int), .tup (ps.map .int)] h = .ok (.bl (ins bs ps)) (h ++ g) := by
  rw [call_eq (k := n) (fn := q10.fn) rfl rfl]
  simp only [Def1.fn, q10, b__law_inside]
  obtain ⟨BL, cm, ea⟩ := comp_all (st := stTup [2, 3]) (elt := t__law_inside_1 (callN T n)) (e0 := [some (.tup (bs.map .int)), some (.tup (ps.map .int)), none, none]) (h := h) ps bs fun p b => by
    refine ⟨_, rfl, ?_⟩
    simp only [t__law_inside_1]
    by_cases h0 : 0 ≤ p <;> simp (disch := first | with_reducible assumption | omega | with_reducible exact size_le (by omega) | decide | (simp only [List.length_cons, List.length_nil, List.length_append]; first | omega | with_reducible exact size_le (by omega)) | exact ⟨by simp only [List.length_cons, List.length_nil]; omega, by decide⟩ | fail) [-getElem?_pos, -getElem?_neg, -Int.natCast_add, le_size, rngR_ok, mul_int, mod_int, div_int, pow_int, add_str, len_str, len_refU, idx_refU, any_refU, all_refU, in_refU, in_tupU, okTo_appU, append_U, it_refU, join_refU, add_refU, isi_refU, idx_str, slc_str, str_int, int_str, meOf, List.lookup, fldOf, putN, putR_ok, List.getElem?_cons_zero, List.getElem?_cons_succ, List.getElem?_concat_length, get_app, get_app0, en_refU, mul_refU, tupF_refU, slc_refU, h0]
  have pl := pairs_le ps bs (by omega)
  by_cases q1 : (bs.length : Int) = (ps.length : Int)
  · have i1 : ins bs ps = inB bs ps := by rw [ins_eq, decide_eq_true q1, Bool.true_and]
    refine ⟨[O.lst BL], ?_⟩
    rw [i1]
    simp (disch := first | with_reducible assumption | omega | with_reducible exact size_le (by omega) | decide | (simp only [List.length_cons, List.length_nil, List.length_append]; first | omega | with_reducible exact size_le (by omega)) | exact ⟨by simp only [List.length_cons, List.length_nil]; omega, by decide⟩ | fail) [-getElem?_pos, -getElem?_neg, -Int.natCast_add, le_size, rngR_ok, mul_int, mod_int, div_int, pow_int, add_str, len_str, len_refU, idx_refU, any_refU, all_refU, in_refU, in_tupU, okTo_appU, append_U, it_refU, join_refU, add_refU, isi_refU, idx_str, slc_str, str_int, int_str, meOf, List.lookup, fldOf, putN, putR_ok, List.getElem?_cons_zero, List.getElem?_cons_succ, List.getElem?_concat_length, get_app, get_app0, en_refU, mul_refU, tupF_refU, slc_refU, q1, wipeD, cm, pl, ea]
  · have i1 : ins bs ps = false := by rw [ins_eq, decide_eq_false q1, Bool.false_and]
    refine ⟨[], ?_⟩
    rw [i1, List.append_nil]
    simp (disch := first | with_reducible assumption | omega | with_reducible exact size_le (by omega) | decide | (simp only [List.length_cons, List.length_nil, List.length_append]; first | omega | with_reducible exact size_le (by omega)) | exact ⟨by simp only [List.length_cons, List.length_nil]; omega, by decide⟩ | fail) [-getElem?_pos, -getElem?_neg, -Int.natCast_add, le_size, rngR_ok, mul_int, mod_int, div_int, pow_int, add_str, len_str, len_refU, idx_refU, any_refU, all_refU, in_refU, in_tupU, okTo_appU, append_U, it_refU, join_refU, add_refU, isi_refU, idx_str, slc_str, str_int, int_str, meOf, List.lookup, fldOf, putN, putR_ok, List.getElem?_cons_zero, List.getElem?_cons_succ, List.getElem?_concat_length, get_app, get_app0, en_refU, mul_refU, tupF_refU, slc_refU, q1]
def itK (m : Nat) : List (D × D) := [(.str [110, 97, 109, 101, 115], .ref m), (.str [98, 111, 117, 110, 100, 115], .ref (m + 1)), (.str [99, 101, 108, 108, 115], .ref (m + 2))]
theorem itk_n : dLk (itK m) (.str [110, 97, 109, 101, 115]) = some (.ref m) := rfl
theorem itk_b : dLk (itK m) (.str [98, 111, 117, 110, 100, 115]) = some (.ref (m + 1)) := rfl
theorem itk_c : dLk (itK m) (.str [99, 101, 108, 108, 115]) = some (.ref (m + 2)) := rfl
theorem ItA.it (s : ItA h m S) : h[m + 3]? = some (.dic (itK m)) := s.ob
theorem nul_D : (if isT x then D.str [] else D.int 0) = wD (nul x) := by unfold nul; cases isT x <;> rfl
theorem c_asked (s : ItA h m S) (o : NmO x) (hp : ps.length = 1 ∨ ps.length = 2) (hS : Ok 1000 S) (sd : D) :
    ∃ g, callN T (n + 2) 11 [sd, .ref (m + 3), .str x, .tup (ps.map .int)] h = .ok (oCell x ps S).1 (if ins (bnd S x ps.length) ps then (h ++ g).set (m + 1) (.dic (enc kS bD (aPut S.bd x (bnd S x ps.length)))) else h ++ g) := by
  obtain ⟨b1, b2⟩ := bnd_ok hS (x := x) hp
  have bd := bnd_D S x ps.length
  have mt := mul_ten hp (h := h)
  have s1 := s.it
  have s2 := s.bd
  have lk : dLk (enc kS bD S.bd) (.str x) = (aLk S.bd x).map bD := enc_lk (ve := bD) kS_eq S.bd x
  unfold oCell
  rw [call_eq (k := n + 1) (fn := q11.fn) rfl rfl]
  simp only [Def1.fn, q11, b__law_asked]
  generalize bnd S x ps.length = bs at *
  obtain ⟨g, ei⟩ := c_inside (n := n) (h := h) (ps := ps) (bs := bs) (by omega)
  refine ⟨g, ?_⟩
  have l3 : (3 : Nat) ≤ sizeLine := size_le (by decide)
  have l2 : ([D.str x, D.tup (ps.map .int)] : List D).length ≤ sizeLine := size_le (n := 2) (by decide)
  by_cases q : ins bs ps = true
  · rw [q] at ei
    rw [if_pos q, if_pos q]
    have s3 := (s.app (g := g)).it
    have hsz : (enc kS bD S.bd).length < sizeLine := by rw [enc_len]; exact size_le (n := S.bd.length + 1) (by have := hS.l2; omega)
    have pt : dPut (enc kS bD S.bd) (.str x) (.tup (bs.map .int)) = enc kS bD (aPut S.bd x bs) := enc_put (ve := bD) kS_eq S.bd x bs
    have it : ∀ en, itmR (.ref (m + 1)) (.str x) (.tup (bs.map .int)) en (h ++ g) = .nx en ((h ++ g).set (m + 1) (.dic (enc kS bD (aPut S.bd x bs)))) := fun en => by
      rw [itm_dic (s.app (g := g)).bd hsz, pt]
    have sA := (s.app (g := g)).putB (aPut S.bd x bs)
    have s4 := sA.it
    have s5 : ((h ++ g).set (m + 1) (.dic (enc kS bD (aPut S.bd x bs))))[m + 2]? = some (dcT (enc kC wD S.cl)) := sA.cl
    generalize (h ++ g).set (m + 1) (.dic (enc kS bD (aPut S.bd x bs))) = H2 at *
    have lk2 : dLk (enc kC wD S.cl) (.tup [.str x, .tup (ps.map .int)]) = (aLk S.cl (x, ps)).map wD := enc_lk (ve := wD) kC_eq S.cl (x, ps)
    have gt : gtO (some (dcT (enc kC wD S.cl))) (.tup [.str x, .tup (ps.map .int)]) (wD (nul x)) H2 = .ok ((dLk (enc kC wD S.cl) (.tup [.str x, .tup (ps.map .int)])).getD (wD (nul x))) H2 := gtO_dcT (kC_tk (x, ps))
    rw [lk2, gd_w] at gt
    obtain ⟨c, e1, e2⟩ := last_eq o
    have hz : x.length ≤ sizeLine := size_le (by have := o.le; omega)
    have nd := nul_D (x := x)
    have e2 : isT x = decide (c = 36) := by rw [e2]; simp
    by_cases q2 : c = 36
    · rw [decide_eq_true q2] at e2
      rw [e2, if_pos rfl] at nd
      rw [← nd] at gt
      simp (disch := first | with_reducible assumption | omega | with_reducible exact size_le (by omega) | decide | (simp only [List.length_cons, List.length_nil, List.length_append]; first | omega | with_reducible exact size_le (by omega)) | exact ⟨by simp only [List.length_cons, List.length_nil]; omega, by decide⟩ | fail) [-getElem?_pos, -getElem?_neg, -Int.natCast_add, le_size, rngR_ok, mul_int, mod_int, div_int, pow_int, add_str, len_str, len_refU, idx_refU, any_refU, all_refU, in_refU, in_tupU, okTo_appU, append_U, it_refU, join_refU, add_refU, isi_refU, idx_str, slc_str, str_int, int_str, meOf, List.lookup, fldOf, putN, putR_ok, List.getElem?_cons_zero, List.getElem?_cons_succ, List.getElem?_concat_length, get_app, get_app0, en_refU, mul_refU, tupF_refU, slc_refU, s1, itk_b, itk_c, s2, mt, lk, bd, ei, s3, it, s4, s5, e1, q2, gt]
    · rw [decide_eq_false q2] at e2
      rw [e2, if_neg Bool.false_ne_true] at nd
      rw [← nd] at gt
      simp (disch := first | with_reducible assumption | omega | with_reducible exact size_le (by omega) | decide | (simp only [List.length_cons, List.length_nil, List.length_append]; first | omega | with_reducible exact size_le (by omega)) | exact ⟨by simp only [List.length_cons, List.length_nil]; omega, by decide⟩ | fail) [-getElem?_pos, -getElem?_neg, -Int.natCast_add, le_size, rngR_ok, mul_int, mod_int, div_int, pow_int, add_str, len_str, len_refU, idx_refU, any_refU, all_refU, in_refU, in_tupU, okTo_appU, append_U, it_refU, join_refU, add_refU, isi_refU, idx_str, slc_str, str_int, int_str, meOf, List.lookup, fldOf, putN, putR_ok, List.getElem?_cons_zero, List.getElem?_cons_succ, List.getElem?_concat_length, get_app, get_app0, en_refU, mul_refU, tupF_refU, slc_refU, s1, itk_b, itk_c, s2, mt, lk, bd, ei, s3, it, s4, s5, e1, q2, gt]
  · have q' : ins bs ps = false := by simpa using q
    rw [q'] at ei
    rw [if_neg q, if_neg q]
    simp (disch := first | with_reducible assumption | omega | with_reducible exact size_le (by omega) | decide | (simp only [List.length_cons, List.length_nil, List.length_append]; first | omega | with_reducible exact size_le (by omega)) | exact ⟨by simp only [List.length_cons, List.length_nil]; omega, by decide⟩ | fail) [-getElem?_pos, -getElem?_neg, -Int.natCast_add, le_size, rngR_ok, mul_int, mod_int, div_int, pow_int, add_str, len_str, len_refU, idx_refU, any_refU, all_refU, in_refU, in_tupU, okTo_appU, append_U, it_refU, join_refU, add_refU, isi_refU, idx_str, slc_str, str_int, int_str, meOf, List.lookup, fldOf, putN, putR_ok, List.getElem?_cons_zero, List.getElem?_cons_succ, List.getElem?_concat_length, get_app, get_app0, en_refU, mul_refU, tupF_refU, slc_refU, s1, itk_b, s2, mt, lk, bd, ei, FLT, INDEX]
theorem c_given (s : ItA h m S) (o : NmO x) (hp : ps.length = 1 ∨ ps.length = 2) (hS : Ok 1000 S) :
    ∃ g, callN T (n + 2) 12 [.ref (m + 3), .str x, .tup (ps.map .int), wD w] h = .ok (oPutC x ps w S).1 (if ins (bnd S x ps.length) ps && decide (isW w = isT x) then ((h ++ g).set (m + 1) (.dic (enc kS bD (aPut S.bd x (bnd S x ps.length))))).set (m + 2) (dcT (enc kC wD (aPut S.cl (x, ps) w))) else h ++ g) := by
  obtain ⟨b1, b2⟩ := bnd_ok hS (x := x) hp
  have bd := bnd_D S x ps.length
  have mt := mul_ten hp (h := h)
  have s1 := s.it
  have s2 := s.bd
  have lk : dLk (enc kS bD S.bd) (.str x) = (aLk S.bd x).map bD := enc_lk (ve := bD) kS_eq S.bd x
  unfold oPutC
  rw [call_eq (k := n + 1) (fn := q12.fn) rfl rfl]
  simp only [Def1.fn, q12, b__law_given]
  generalize bnd S x ps.length = bs at *
  obtain ⟨g, ei⟩ := c_inside (n := n) (h := h) (ps := ps) (bs := bs) (by omega)
  refine ⟨g, ?_⟩
  have l3 : (3 : Nat) ≤ sizeLine := size_le (by decide)
  have l2 : ([D.str x, D.tup (ps.map .int)] : List D).length ≤ sizeLine := size_le (n := 2) (by decide)
  obtain ⟨c, e1, e2⟩ := last_eq o
  have hz : x.length ≤ sizeLine := size_le (by have := o.le; omega)
  have e2 : isT x = decide (c = 36) := by rw [e2]; simp
  have eb := eq_bl (h := h ++ g) (isW w) (decide (c = 36))
  by_cases q : ins bs ps = true
  · rw [q] at ei
    rw [q, if_pos rfl, Bool.true_and]
    by_cases q2 : isW w = isT x
    · rw [if_pos q2, decide_eq_true q2, if_pos rfl]
      rw [← e2, decide_eq_true q2, e2] at eb
      have s3 := (s.app (g := g)).it
      have hsz : (enc kS bD S.bd).length < sizeLine := by rw [enc_len]; exact size_le (n := S.bd.length + 1) (by have := hS.l2; omega)
      have hsz2 : (enc kC wD S.cl).length < sizeLine := by rw [enc_len]; exact size_le (n := S.cl.length + 1) (by have := hS.l3; omega)
      have pt : dPut (enc kS bD S.bd) (.str x) (.tup (bs.map .int)) = enc kS bD (aPut S.bd x bs) := enc_put (ve := bD) kS_eq S.bd x bs
      have it : ∀ en, itmR (.ref (m + 1)) (.str x) (.tup (bs.map .int)) en (h ++ g) = .nx en ((h ++ g).set (m + 1) (.dic (enc kS bD (aPut S.bd x bs)))) := fun en => by
        rw [itm_dic (s.app (g := g)).bd hsz, pt]
      have sA := (s.app (g := g)).putB (aPut S.bd x bs)
      have s4 := sA.it
      have s6 : ((h ++ g).set (m + 1) (.dic (enc kS bD (aPut S.bd x bs))))[m + 2]? = some (dcT (enc kC wD S.cl)) := sA.cl
      have pt2 : dPut (enc kC wD S.cl) (.tup [.str x, .tup (ps.map .int)]) (wD w) = enc kC wD (aPut S.cl (x, ps) w) := enc_put (ve := wD) kC_eq S.cl (x, ps) w
      have it2 : ∀ en, itmR (.ref (m + 2)) (.tup [.str x, .tup (ps.map .int)]) (wD w) en ((h ++ g).set (m + 1) (.dic (enc kS bD (aPut S.bd x bs)))) = .nx en (((h ++ g).set (m + 1) (.dic (enc kS bD (aPut S.bd x bs)))).set (m + 2) (dcT (enc kC wD (aPut S.cl (x, ps) w)))) := fun en => by
        rw [itm_dct s6 (kC_tk (x, ps)) hsz2, pt2]
      generalize (h ++ g).set (m + 1) (.dic (enc kS bD (aPut S.bd x bs))) = H2 at *
      simp (disch := first | with_reducible assumption | omega | with_reducible exact size_le (by omega) | decide | (simp only [List.length_cons, List.length_nil, List.length_append]; first | omega | with_reducible exact size_le (by omega)) | exact ⟨by simp only [List.length_cons, List.length_nil]; omega, by decide⟩ | fail) [-getElem?_pos, -getElem?_neg, -Int.natCast_add, le_size, rngR_ok, mul_int, mod_int, div_int, pow_int, add_str, len_str, len_refU, idx_refU, any_refU, all_refU, in_refU, in_tupU, okTo_appU, append_U, it_refU, join_refU, add_refU, isi_refU, idx_str, slc_str, str_int, int_str, meOf, List.lookup, fldOf, putN, putR_ok, List.getElem?_cons_zero, List.getElem?_cons_succ, List.getElem?_concat_length, get_app, get_app0, en_refU, mul_refU, tupF_refU, slc_refU, s1, itk_b, itk_c, s2, mt, lk, bd, ei, isi_w, e1, eb, s3, it, s4, it2]
    · rw [if_neg q2, decide_eq_false q2, if_neg Bool.false_ne_true]
      rw [← e2, decide_eq_false q2, e2] at eb
      simp (disch := first | with_reducible assumption | omega | with_reducible exact size_le (by omega) | decide | (simp only [List.length_cons, List.length_nil, List.length_append]; first | omega | with_reducible exact size_le (by omega)) | exact ⟨by simp only [List.length_cons, List.length_nil]; omega, by decide⟩ | fail) [-getElem?_pos, -getElem?_neg, -Int.natCast_add, le_size, rngR_ok, mul_int, mod_int, div_int, pow_int, add_str, len_str, len_refU, idx_refU, any_refU, all_refU, in_refU, in_tupU, okTo_appU, append_U, it_refU, join_refU, add_refU, isi_refU, idx_str, slc_str, str_int, int_str, meOf, List.lookup, fldOf, putN, putR_ok, List.getElem?_cons_zero, List.getElem?_cons_succ, List.getElem?_concat_length, get_app, get_app0, en_refU, mul_refU, tupF_refU, slc_refU, s1, itk_b, s2, mt, lk, bd, ei, isi_w, e1, eb, FLT, KIND]
  · have q' : ins bs ps = false := by simpa using q
    rw [q'] at ei
    rw [q', if_neg Bool.false_ne_true, Bool.false_and, if_neg Bool.false_ne_true]
    simp (disch := first | with_reducible assumption | omega | with_reducible exact size_le (by omega) | decide | (simp only [List.length_cons, List.length_nil, List.length_append]; first | omega | with_reducible exact size_le (by omega)) | exact ⟨by simp only [List.length_cons, List.length_nil]; omega, by decide⟩ | fail) [-getElem?_pos, -getElem?_neg, -Int.natCast_add, le_size, rngR_ok, mul_int, mod_int, div_int, pow_int, add_str, len_str, len_refU, idx_refU, any_refU, all_refU, in_refU, in_tupU, okTo_appU, append_U, it_refU, join_refU, add_refU, isi_refU, idx_str, slc_str, str_int, int_str, meOf, List.lookup, fldOf, putN, putR_ok, List.getElem?_cons_zero, List.getElem?_cons_succ, List.getElem?_concat_length, get_app, get_app0, en_refU, mul_refU, tupF_refU, slc_refU, s1, itk_b, s2, mt, lk, bd, ei, FLT, INDEX]
theorem c_laid (s : ItA h m S) (o : NmO x) (hb : bs.length ≤ 100) (hS : Ok 1000 S) :
    ∃ g, callN T (n + 1) 9 [.ref (m + 3), .str x, .tup (bs.map .int)] h = .ok (oLay x bs S).1 (if !(aLk S.bd x).isSome && okL bs then (h ++ g).set (m + 1) (.dic (enc kS bD (aPut S.bd x bs))) else h ++ g) := by
  have s1 := s.it
  have s2 := s.bd
  have lk : dLk (enc kS bD S.bd) (.str x) = (aLk S.bd x).map bD := enc_lk (ve := bD) kS_eq S.bd x
  unfold oLay
  rw [call_eq (k := n) (fn := q9.fn) rfl rfl]
  simp only [Def1.fn, q9, b__law_laid]
  obtain ⟨BL, cm, ea⟩ := comp_lay (st := stName 3) (elt := t__law_laid_1 (callN T n)) (e0 := [some (.ref (m + 3)), some (.str x), some (.tup (bs.map .int)), none]) (h := h) bs fun z => by
    refine ⟨_, rfl, ?_⟩
    simp only [t__law_laid_1]
    by_cases h0 : 0 ≤ z <;> simp (disch := first | with_reducible assumption | omega | with_reducible exact size_le (by omega) | decide | (simp only [List.length_cons, List.length_nil, List.length_append]; first | omega | with_reducible exact size_le (by omega)) | exact ⟨by simp only [List.length_cons, List.length_nil]; omega, by decide⟩ | fail) [-getElem?_pos, -getElem?_neg, -Int.natCast_add, le_size, rngR_ok, mul_int, mod_int, div_int, pow_int, add_str, len_str, len_refU, idx_refU, any_refU, all_refU, in_refU, in_tupU, okTo_appU, append_U, it_refU, join_refU, add_refU, isi_refU, idx_str, slc_str, str_int, int_str, meOf, List.lookup, fldOf, putN, putR_ok, List.getElem?_cons_zero, List.getElem?_cons_succ, List.getElem?_concat_length, get_app, get_app0, en_refU, mul_refU, tupF_refU, slc_refU, h0]
  have l3 : (3 : Nat) ≤ sizeLine := size_le (by decide)
  have pl : (bs.map D.int).length ≤ sizeLine := size_le (by rw [List.length_map]; omega)
  have hsz : (enc kS bD S.bd).length < sizeLine := by rw [enc_len]; exact size_le (n := S.bd.length + 1) (by have := hS.l2; omega)
  have s3 : (h ++ [O.lst BL])[m + 1]? = some (.dic (enc kS bD S.bd)) := get_ap s2
  have s4 : (h ++ [O.lst BL])[m + 3]? = some (.dic (itK m)) := get_ap s1
  have pt : dPut (enc kS bD S.bd) (.str x) (.tup (bs.map .int)) = enc kS bD (aPut S.bd x bs) := enc_put (ve := bD) kS_eq S.bd x bs
  have it : ∀ en, itmR (.ref (m + 1)) (.str x) (.tup (bs.map .int)) en (h ++ [O.lst BL]) = .nx en ((h ++ [O.lst BL]).set (m + 1) (.dic (enc kS bD (aPut S.bd x bs)))) := fun en => by
    rw [itm_dic s3 hsz, pt]
  have i12 := in12 (h := h) bs.length
  cases q0 : (aLk S.bd x).isSome with
  | true =>
    refine ⟨[], ?_⟩
    rw [List.append_nil, if_pos rfl]
    have lk2 : (dLk (enc kS bD S.bd) (.str x)).isSome = true := by rw [lk, Option.isSome_map]; exact q0
    simp (disch := first | with_reducible assumption | omega | with_reducible exact size_le (by omega) | decide | (simp only [List.length_cons, List.length_nil, List.length_append]; first | omega | with_reducible exact size_le (by omega)) | exact ⟨by simp only [List.length_cons, List.length_nil]; omega, by decide⟩ | fail) [-getElem?_pos, -getElem?_neg, -Int.natCast_add, le_size, rngR_ok, mul_int, mod_int, div_int, pow_int, add_str, len_str, len_refU, idx_refU, any_refU, all_refU, in_refU, in_tupU, okTo_appU, append_U, it_refU, join_refU, add_refU, isi_refU, idx_str, slc_str, str_int, int_str, meOf, List.lookup, fldOf, putN, putR_ok, List.getElem?_cons_zero, List.getElem?_cons_succ, List.getElem?_concat_length, get_app, get_app0, en_refU, mul_refU, tupF_refU, slc_refU, s1, itk_b, s2, lk2, FLT, AGAIN]
  | false =>
    have lk2 : (dLk (enc kS bD S.bd) (.str x)).isSome = false := by rw [lk, Option.isSome_map]; exact q0
    by_cases q1 : bs.length = 1 ∨ bs.length = 2
    · rw [decide_eq_true q1] at i12
      have ok : okL bs = bs.all fun z => decide (0 ≤ z) && decide (z ≤ 99) := by unfold okL; rw [decide_eq_true q1, Bool.true_and]
      rw [← ok] at ea
      refine ⟨[O.lst BL], ?_⟩
      rw [if_neg Bool.false_ne_true]
      cases q2 : okL bs with
      | true =>
        rw [q2] at ea
        rw [if_pos rfl]
        have g0 : (h ++ [O.lst BL])[h.length]? = some (.lst BL) := by simp
        generalize eH : h ++ [O.lst BL] = H1 at *
        simp (disch := first | with_reducible assumption | omega | with_reducible exact size_le (by omega) | decide | (simp only [List.length_cons, List.length_nil, List.length_append]; first | omega | with_reducible exact size_le (by omega)) | exact ⟨by simp only [List.length_cons, List.length_nil]; omega, by decide⟩ | fail) [-getElem?_pos, -getElem?_neg, -Int.natCast_add, le_size, rngR_ok, mul_int, mod_int, div_int, pow_int, add_str, len_str, len_refU, idx_refU, any_refU, all_refU, in_refU, in_tupU, okTo_appU, append_U, it_refU, join_refU, add_refU, isi_refU, idx_str, slc_str, str_int, int_str, meOf, List.lookup, fldOf, putN, putR_ok, List.getElem?_cons_zero, List.getElem?_cons_succ, List.getElem?_concat_length, get_app, get_app0, en_refU, mul_refU, tupF_refU, slc_refU, eH, g0, s1, itk_b, s2, lk2, i12, wipeD, cm, pl, ea, s4, it]
      | false =>
        rw [q2] at ea
        rw [if_neg Bool.false_ne_true]
        simp (disch := first | with_reducible assumption | omega | with_reducible exact size_le (by omega) | decide | (simp only [List.length_cons, List.length_nil, List.length_append]; first | omega | with_reducible exact size_le (by omega)) | exact ⟨by simp only [List.length_cons, List.length_nil]; omega, by decide⟩ | fail) [-getElem?_pos, -getElem?_neg, -Int.natCast_add, le_size, rngR_ok, mul_int, mod_int, div_int, pow_int, add_str, len_str, len_refU, idx_refU, any_refU, all_refU, in_refU, in_tupU, okTo_appU, append_U, it_refU, join_refU, add_refU, isi_refU, idx_str, slc_str, str_int, int_str, meOf, List.lookup, fldOf, putN, putR_ok, List.getElem?_cons_zero, List.getElem?_cons_succ, List.getElem?_concat_length, get_app, get_app0, en_refU, mul_refU, tupF_refU, slc_refU, s1, itk_b, s2, lk2, i12, wipeD, cm, pl, ea, FLT, INDEX]
    · rw [decide_eq_false q1] at i12
      have ok : okL bs = false := by unfold okL; rw [decide_eq_false q1, Bool.false_and]
      refine ⟨[], ?_⟩
      rw [if_neg Bool.false_ne_true, ok, if_neg Bool.false_ne_true, List.append_nil]
      simp (disch := first | with_reducible assumption | omega | with_reducible exact size_le (by omega) | decide | (simp only [List.length_cons, List.length_nil, List.length_append]; first | omega | with_reducible exact size_le (by omega)) | exact ⟨by simp only [List.length_cons, List.length_nil]; omega, by decide⟩ | fail) [-getElem?_pos, -getElem?_neg, -Int.natCast_add, le_size, rngR_ok, mul_int, mod_int, div_int, pow_int, add_str, len_str, len_refU, idx_refU, any_refU, all_refU, in_refU, in_tupU, okTo_appU, append_U, it_refU, join_refU, add_refU, isi_refU, idx_str, slc_str, str_int, int_str, meOf, List.lookup, fldOf, putN, putR_ok, List.getElem?_cons_zero, List.getElem?_cons_succ, List.getElem?_concat_length, get_app, get_app0, en_refU, mul_refU, tupF_refU, slc_refU, s1, itk_b, s2, lk2, i12, FLT, INDEX]
end
end K30

namespace K30
open PySem L2 Mp
section
variable {n : Nat}
theorem len2 {l : List Int} (h : l.length = 2) : ∃ a b, l = [a, b] := by
  match l, h with
  | [a, b], _ => exact ⟨a, b, rfl⟩
theorem kp_ap {f : Nat} {h h' g : DH} (k : Kp f h h') : Kp f h (h' ++ g) := k.app
theorem pl_turn {more j b : Int} {bd : D} (h0 : 0 ≤ more) (h1 : more < 2 ^ 129) (j0 : 0 ≤ j) (j1 : j ≤ 2) (b0 : 0 ≤ b) (b1 : b ≤ 99) {f : Nat} {qs : List Int} (hq : qs.length ≤ 2) (h : DH) (hf : h[f]? = some (.lst (qs.map .int))) (a5 : Option D) :
    ∃ z y5 H', H'[f]? = some (.lst ((qs ++ [z]).map .int)) ∧ Kp f h H' ∧ l__law_places_1 (callN T (n + 1)) [some (.int more), some bd, some (.ref f), some (.int j), some (.int b), a5] h = .nx [some (.int more), some bd, some (.ref f), some (.int j), some (.int b), y5] H' := by
  have l0 : more.natAbs.log2 < 2000000 := by
    have := nn_log h0 h1 (by decide)
    omega
  have lj : (j + 1).natAbs.log2 < 2000000 := by
    have := nn_log (i := j + 1) (n := 20) (by omega) (by omega) (by decide)
    omega
  have ed := c_drawn n more j h l0 lj
  have d0 := drawn_nn more j
  generalize drawn more j = here at *
  obtain ⟨v, hv, e8⟩ := pickI (vs := [0, 0, 0, 1, 1, 2, 3, 4]) (i := here % 8) (by omega) (by show _ < ((8 : Nat) : Int); omega)
  have hv2 : 0 ≤ v ∧ v < 5 := by
    simp only [List.mem_cons, List.not_mem_nil, or_false] at hv
    omega
  obtain ⟨z, _, e5⟩ := pickI (vs := [here / 8 % (b + 1), b, 0, b + 1, -1]) (i := v) hv2.1 (by show _ < ((5 : Nat) : Int); omega)
  simp only [List.map_cons, List.map_nil] at e8 e5
  have hf2 : (h ++ [O.lst [D.int (here / 8 % (b + 1)), D.int b, D.int 0, D.int (b + 1), D.int (-1)]] ++ [O.lst [D.int 0, D.int 0, D.int 0, D.int 1, D.int 1, D.int 2, D.int 3, D.int 4]])[f]? = some (.lst (qs.map .int)) := get_ap (get_ap hf)
  have hs : qs.length < sizeLine := size_le (n := qs.length + 1) (by omega)
  have kp : Kp f h (h ++ [O.lst [D.int (here / 8 % (b + 1)), D.int b, D.int 0, D.int (b + 1), D.int (-1)]] ++ [O.lst [D.int 0, D.int 0, D.int 0, D.int 1, D.int 1, D.int 2, D.int 3, D.int 4]]) := (Kp.refl (Nat.le_of_lt (lt_of_get hf))).app.app
  have ap : h ++ [O.lst [D.int (here / 8 % (b + 1)), D.int b, D.int 0, D.int (b + 1), D.int (-1)]] ++ [O.lst [D.int 0, D.int 0, D.int 0, D.int 1, D.int 1, D.int 2, D.int 3, D.int 4]] = h ++ [O.lst [D.int (here / 8 % (b + 1)), D.int b, D.int 0, D.int (b + 1), D.int (-1)], O.lst [D.int 0, D.int 0, D.int 0, D.int 1, D.int 1, D.int 2, D.int 3, D.int 4]] := by simp
  have g5 : (h ++ [O.lst [D.int (here / 8 % (b + 1)), D.int b, D.int 0, D.int (b + 1), D.int (-1)], O.lst [D.int 0, D.int 0, D.int 0, D.int 1, D.int 1, D.int 2, D.int 3, D.int 4]])[h.length]? = some (O.lst [D.int (here / 8 % (b + 1)), D.int b, D.int 0, D.int (b + 1), D.int (-1)]) := by simp
  have g8 : (h ++ [O.lst [D.int (here / 8 % (b + 1)), D.int b, D.int 0, D.int (b + 1), D.int (-1)], O.lst [D.int 0, D.int 0, D.int 0, D.int 1, D.int 1, D.int 2, D.int 3, D.int 4]])[h.length + 1]? = some (O.lst [D.int 0, D.int 0, D.int 0, D.int 1, D.int 1, D.int 2, D.int 3, D.int 4]) := by simp
  rw [ap] at hf2 kp
  generalize eH : h ++ [O.lst [D.int (here / 8 % (b + 1)), D.int b, D.int 0, D.int (b + 1), D.int (-1)], O.lst [D.int 0, D.int 0, D.int 0, D.int 1, D.int 1, D.int 2, D.int 3, D.int 4]] = H at *
  refine ⟨z, some (.int here), H.set f (.lst ((qs ++ [z]).map .int)), get_set (lt_of_get hf2), kp.set (Nat.le_refl _), ?_⟩
  simp only [l__law_places_1]
  rw [List.map_append, List.map_cons, List.map_nil]
  simp (disch := first | with_reducible assumption | omega | with_reducible exact size_le (by omega) | decide | (simp only [List.length_cons, List.length_nil, List.length_append]; first | omega | with_reducible exact size_le (by omega)) | exact ⟨by simp only [List.length_cons, List.length_nil]; omega, by decide⟩ | fail) [-getElem?_pos, -getElem?_neg, -Int.natCast_add, le_size, rngR_ok, mul_int, mod_int, div_int, pow_int, add_str, len_str, len_refU, idx_refU, any_refU, all_refU, in_refU, in_tupU, okTo_appU, append_U, it_refU, join_refU, add_refU, isi_refU, idx_str, slc_str, str_int, int_str, meOf, List.lookup, fldOf, putN, putR_ok, List.getElem?_cons_zero, List.getElem?_cons_succ, List.getElem?_concat_length, get_app, get_app0, en_refU, mul_refU, tupF_refU, slc_refU, ed, eH, g5, g8, e8, e5, hf, hf2, hs]
theorem c_places {more : Int} {bs : List Int} (h0 : 0 ≤ more) (h1 : more < 2 ^ 129) (hb : bs.length = 1 ∨ bs.length = 2) (hz : ∀ z ∈ bs, 0 ≤ z ∧ z ≤ 99) (h : DH) :
    ∃ (ps : List Int) (g : DH), (ps.length = 1 ∨ ps.length = 2) ∧ callN T (n + 2) 8 [.int more, .tup (bs.map .int)] h = .ok (.tup (ps.map .int)) (h ++ g) := by
  have fin : ∀ (qs : List Int) (e : En) (y3 y4 y5 : Option D) (H : DH), (qs.length = 1 ∨ qs.length = 2) → H[h.length]? = some (.lst (qs.map .int)) → Kp h.length h H → 
      ∃ (ps : List Int) (g : DH), (ps.length = 1 ∨ ps.length = 2) ∧ finO (sSeq (sIf (mCmp .Eq (mBin .Mod (mBin .FloorDiv (mVar 0) (mLit (.int 64))) (mLit (.int 9))) (mLit (.int 0))) (sSeq (sSet (stName 2) (mIf (mCmp .Gt (mBi .len [(mVar 2)]) (mLit (.int 1))) (mSlc (mVar 2) (some (mLit (.int 1))) none) (mBin .Add (mVar 2) (mLst [(mLit (.int 0))])))) sNext) sNext) (sSeq (sRet (mBi .tup [(mVar 2)])) sNext) [some (.int more), some (.tup (bs.map .int)), some (.ref h.length), y3, y4, y5] H) = .ok (.tup (ps.map .int)) (h ++ g) := by
    intro qs e y3 y4 y5 H hq hH kp
    have hl : qs.length ≤ sizeLine := size_le (by omega)
    by_cases q : more / 64 % 9 = 0
    · rcases hq with hq | hq
      · obtain ⟨a, rfl⟩ := List.length_eq_one_iff.mp hq
        obtain ⟨g, eg⟩ := (kp.app (g := [O.lst [D.int 0]] ++ [O.lst [D.int a, D.int 0]])).out
        refine ⟨[a, 0], g, .inr rfl, ?_⟩
        rw [← eg]
        have hH2 : (H ++ [O.lst [D.int 0]])[h.length]? = some (.lst [D.int a]) := get_ap hH
        simp only [List.map_cons, List.map_nil] at *
        simp (disch := first | with_reducible assumption | omega | with_reducible exact size_le (by omega) | decide | (simp only [List.length_cons, List.length_nil, List.length_append]; first | omega | with_reducible exact size_le (by omega)) | exact ⟨by simp only [List.length_cons, List.length_nil]; omega, by decide⟩ | fail) [-getElem?_pos, -getElem?_neg, -Int.natCast_add, le_size, rngR_ok, mul_int, mod_int, div_int, pow_int, add_str, len_str, len_refU, idx_refU, any_refU, all_refU, in_refU, in_tupU, okTo_appU, append_U, it_refU, join_refU, add_refU, isi_refU, idx_str, slc_str, str_int, int_str, meOf, List.lookup, fldOf, putN, putR_ok, List.getElem?_cons_zero, List.getElem?_cons_succ, List.getElem?_concat_length, get_app, get_app0, en_refU, mul_refU, tupF_refU, slc_refU, q, hH, hH2]
      · obtain ⟨a, b, rfl⟩ := len2 hq
        obtain ⟨g, eg⟩ := (kp.app (g := [O.lst [D.int b]])).out
        refine ⟨[b], g, .inl rfl, ?_⟩
        rw [← eg]
        have cu : cutG [D.int a, D.int b] (some 1) none = [D.int b] := rfl
        simp only [List.map_cons, List.map_nil] at *
        simp (disch := first | with_reducible assumption | omega | with_reducible exact size_le (by omega) | decide | (simp only [List.length_cons, List.length_nil, List.length_append]; first | omega | with_reducible exact size_le (by omega)) | exact ⟨by simp only [List.length_cons, List.length_nil]; omega, by decide⟩ | fail) [-getElem?_pos, -getElem?_neg, -Int.natCast_add, le_size, rngR_ok, mul_int, mod_int, div_int, pow_int, add_str, len_str, len_refU, idx_refU, any_refU, all_refU, in_refU, in_tupU, okTo_appU, append_U, it_refU, join_refU, add_refU, isi_refU, idx_str, slc_str, str_int, int_str, meOf, List.lookup, fldOf, putN, putR_ok, List.getElem?_cons_zero, List.getElem?_cons_succ, List.getElem?_concat_length, get_app, get_app0, en_refU, mul_refU, tupF_refU, slc_refU, q, hH, cu]
    · obtain ⟨g, eg⟩ := kp.out
      refine ⟨qs, g, hq, ?_⟩
      rw [← eg]
      simp (disch := first | with_reducible assumption | omega | with_reducible exact size_le (by omega) | decide | (simp only [List.length_cons, List.length_nil, List.length_append]; first | omega | with_reducible exact size_le (by omega)) | exact ⟨by simp only [List.length_cons, List.length_nil]; omega, by decide⟩ | fail) [-getElem?_pos, -getElem?_neg, -Int.natCast_add, le_size, rngR_ok, mul_int, mod_int, div_int, pow_int, add_str, len_str, len_refU, idx_refU, any_refU, all_refU, in_refU, in_tupU, okTo_appU, append_U, it_refU, join_refU, add_refU, isi_refU, idx_str, slc_str, str_int, int_str, meOf, List.lookup, fldOf, putN, putR_ok, List.getElem?_cons_zero, List.getElem?_cons_succ, List.getElem?_concat_length, get_app, get_app0, en_refU, mul_refU, tupF_refU, slc_refU, q, hH]
  rw [call_eq (k := n + 1) (fn := q8.fn) rfl rfl]
  simp only [Def1.fn, q8, b__law_places]
  have f0 : (h ++ [O.lst []])[h.length]? = some (.lst (([] : List Int).map .int)) := by simp
  have k0 : Kp h.length h (h ++ [O.lst []]) := (Kp.refl (Nat.le_refl _)).app
  have s0 : sSet (stName 2) (mLst []) [some (.int more), some (.tup (bs.map .int)), none, none, none, none] h = .nx [some (.int more), some (.tup (bs.map .int)), some (.ref h.length), none, none, none] (h ++ [O.lst []]) := by simp (disch := first | with_reducible assumption | omega | with_reducible exact size_le (by omega) | decide | (simp only [List.length_cons, List.length_nil, List.length_append]; first | omega | with_reducible exact size_le (by omega)) | exact ⟨by simp only [List.length_cons, List.length_nil]; omega, by decide⟩ | fail) [-getElem?_pos, -getElem?_neg, -Int.natCast_add, le_size, rngR_ok, mul_int, mod_int, div_int, pow_int, add_str, len_str, len_refU, idx_refU, any_refU, all_refU, in_refU, in_tupU, okTo_appU, append_U, it_refU, join_refU, add_refU, isi_refU, idx_str, slc_str, str_int, int_str, meOf, List.lookup, fldOf, putN, putR_ok, List.getElem?_cons_zero, List.getElem?_cons_succ, List.getElem?_concat_length, get_app, get_app0, en_refU, mul_refU, tupF_refU, slc_refU]
  simp only [List.map_cons, List.map_nil, List.length_cons, List.length_nil, Nat.reduceAdd, Nat.reduceSub, List.replicate, List.cons_append, List.nil_append]
  rw [s_seq, s0, seqO_nx, s_seq, s_for]
  have en : ∀ H, miEn (mVar 1) [some (.int more), some (.tup (bs.map .int)), some (.ref h.length), none, none, none] H = .ok (enumD 0 (bs.map .int), none) H := fun H => by simp (disch := first | with_reducible assumption | omega | with_reducible exact size_le (by omega) | decide | (simp only [List.length_cons, List.length_nil, List.length_append]; first | omega | with_reducible exact size_le (by omega)) | exact ⟨by simp only [List.length_cons, List.length_nil]; omega, by decide⟩ | fail) [-getElem?_pos, -getElem?_neg, -Int.natCast_add, le_size, rngR_ok, mul_int, mod_int, div_int, pow_int, add_str, len_str, len_refU, idx_refU, any_refU, all_refU, in_refU, in_tupU, okTo_appU, append_U, it_refU, join_refU, add_refU, isi_refU, idx_str, slc_str, str_int, int_str, meOf, List.lookup, fldOf, putN, putR_ok, List.getElem?_cons_zero, List.getElem?_cons_succ, List.getElem?_concat_length, get_app, get_app0, en_refU, mul_refU, tupF_refU, slc_refU]
  rw [en, bindO_ok]
  rcases hb with hb | hb
  · obtain ⟨b, rfl⟩ := List.length_eq_one_iff.mp hb
    obtain ⟨z1, z2⟩ := hz b (by simp)
    obtain ⟨z, y5, H', e1, e2, e3⟩ := pl_turn (n := n) (bd := .tup ([b].map .int)) h0 h1 (j := 0) (by decide) (by decide) z1 z2 (qs := []) (by decide) _ f0 none
    have ee : enumD 0 ([b].map D.int) = [.tup [.int 0, .int b]] := rfl
    rw [ee, forL_cons (e1 := [some (.int more), some (.tup ([b].map .int)), some (.ref h.length), some (.int 0), some (.int b), none]) still_none rfl, e3, nxt_nx, forL_nil still_none, seqO_nx]
    exact fin _ [] _ _ _ H' (.inl rfl) e1 (k0.trans e2)
  · obtain ⟨b, b', rfl⟩ := len2 hb
    obtain ⟨z1, z2⟩ := hz b (by simp)
    obtain ⟨z3, z4⟩ := hz b' (by simp)
    obtain ⟨z, y5, H', e1, e2, e3⟩ := pl_turn (n := n) (bd := .tup ([b, b'].map .int)) h0 h1 (j := 0) (by decide) (by decide) z1 z2 (qs := []) (by decide) _ f0 none
    obtain ⟨z', y6, H2, e4, e5, e6⟩ := pl_turn (n := n) (bd := .tup ([b, b'].map .int)) h0 h1 (j := 1) (by decide) (by decide) z3 z4 (qs := [] ++ [z]) (by simp) _ e1 y5
    have ee : enumD 0 ([b, b'].map D.int) = [.tup [.int 0, .int b], .tup [.int 1, .int b']] := rfl
    rw [ee, forL_cons (e1 := [some (.int more), some (.tup ([b, b'].map .int)), some (.ref h.length), some (.int 0), some (.int b), none]) still_none rfl, e3, nxt_nx, forL_cons (e1 := [some (.int more), some (.tup ([b, b'].map .int)), some (.ref h.length), some (.int 1), some (.int b'), y5]) still_none rfl, e6, nxt_nx, forL_nil still_none, seqO_nx]
    exact fin _ [] _ _ _ H2 (.inr rfl) e4 ((k0.trans e2).trans e5)
end
end K30

namespace K30
open PySem L2 Mp
section
variable {n : Nat} {h : DH} {x : Tx} {k m N : Nat} {S : Sto} {w : Wo} {ps bs : List Int}
theorem pickD {xs : List D} {i : Int} (h0 : 0 ≤ i) (h1 : i < xs.length) : ∃ d ∈ xs, atI xs i = some d := by
  refine ⟨xs.getD i.toNat .non, ?_, atI_lt h0 h1 .non⟩
  rw [List.getD_eq_getElem?_getD, List.getElem?_eq_getElem (by omega)]
  exact List.getElem_mem _
theorem pw20 {h : DH} : dBin .Pow (.int 2) (.int 20) h = .ok (.int 1048576) h := by
  rw [pow_int ⟨by decide, by decide, by decide⟩]; congr 2
theorem pw30 {h : DH} : dBin .Pow (.int 2) (.int 30) h = .ok (.int 1073741824) h := by
  rw [pow_int ⟨by decide, by decide, by decide⟩]; congr 2
theorem pw40 {h : DH} : dBin .Pow (.int 2) (.int 40) h = .ok (.int 1099511627776) h := by
  rw [pow_int ⟨by decide, by decide, by decide⟩]; congr 2
theorem pw50 {h : DH} : dBin .Pow (.int 2) (.int 50) h = .ok (.int 1125899906842624) h := by
  rw [pow_int ⟨by decide, by decide, by decide⟩]; congr 2
theorem flt_tup (u : Tx) : FLT u = .tup [.str [114, 101, 102, 117, 115, 101, 100], .str [70, 97, 117, 108, 116], .str u] := rfl
theorem told_f (u : Tx) (h : DH) : toldR tldf (.exc 1 (some (.str u)) h) = .ok (FLT u) h := toldR_exc rfl
def EqD (d : D) : Prop := (∃ w, d = wD w) ∨ d = .non ∨ ∃ u, d = FLT u ∧ GoodX u
theorem eqD {d : D} (e : EqD d) (h : DH) : dCmp .Eq d d h = some true := by
  rcases e with ⟨w, rfl⟩ | rfl | ⟨u, rfl, g⟩
  · cases w with
    | i z => show some (decide (z = z)) = _; simp
    | s x => show some (decide (x = x)) = _; simp
  · rfl
  · exact eq_self (ok_tup (ok_cons (k := 0) (ok_str (goodX (by decide))) (ok_cons (ok_str (goodX (by decide))) (ok_cons (ok_str g) ok_nil)))) (by decide)
theorem eq_put (x : Tx) (w : Wo) (S : Sto) : EqD (oPut x w S).1 := by
  unfold oPut
  split
  · exact .inr (.inl rfl)
  · exact .inr (.inr ⟨_, rfl, goodX (by decide)⟩)
theorem eq_cell (x : Tx) (ps : List Int) (S : Sto) : EqD (oCell x ps S).1 := by
  unfold oCell
  split
  · exact .inl ⟨_, rfl⟩
  · exact .inr (.inr ⟨_, rfl, goodX (by decide)⟩)
theorem eq_putC (x : Tx) (ps : List Int) (w : Wo) (S : Sto) : EqD (oPutC x ps w S).1 := by
  unfold oPutC
  split
  · split
    · exact .inr (.inl rfl)
    · exact .inr (.inr ⟨_, rfl, goodX (by decide)⟩)
  · exact .inr (.inr ⟨_, rfl, goodX (by decide)⟩)
theorem eq_lay (x : Tx) (bs : List Int) (S : Sto) : EqD (oLay x bs S).1 := by
  unfold oLay
  split
  · exact .inr (.inr ⟨_, rfl, goodX (by decide)⟩)
  · split
    · exact .inr (.inl rfl)
    · exact .inr (.inr ⟨_, rfl, goodX (by decide)⟩)
/-! ### what is told, and the store behind it -/
theorem t_get (s : StA h k S) (o : NmO x) : toldR tldf (callN T (n + 3) 7 [.ref k, .str x] h) = .ok (wD ((aLk S.nm x).getD (nul x))) h := by
  rw [c_get s o]; rfl
theorem t_put (s : StA h k S) (o : NmO x) (hS : Ok 1000 S) : ∃ h', toldR tldf (callN T (n + 3) 16 [.ref k, .str x, wD w] h) = .ok (oPut x w S).1 h' ∧ StA h' k (oPut x w S).2 ∧ Fr k h h' := by
  rw [c_put s o hS.l1]
  unfold oPut
  split
  · exact ⟨_, rfl, s.putN _, Fr.refl.set (by omega) (by omega)⟩
  · exact ⟨_, told_f _ _, s, Fr.refl⟩
theorem t_cell (s : StA h k S) (o : NmO x) (hp : ps.length = 1 ∨ ps.length = 2) (hS : Ok 1000 S) : ∃ h', toldR tldf (callN T (n + 3) 18 [.ref k, .str x, .tup (ps.map .int)] h) = .ok (oCell x ps S).1 h' ∧ StA h' k (oCell x ps S).2 ∧ Fr k h h' := by
  obtain ⟨g, e⟩ := c_cellS (n := n) s o hp hS
  rw [e]
  unfold oCell
  split
  · exact ⟨_, rfl, s.app.putB _, Fr.refl.app.set (by omega) (by omega)⟩
  · exact ⟨_, told_f _ _, s.app, Fr.refl.app⟩
theorem t_putC (s : StA h k S) (o : NmO x) (hp : ps.length = 1 ∨ ps.length = 2) (hS : Ok 1000 S) : ∃ h', toldR tldf (callN T (n + 3) 19 [.ref k, .str x, .tup (ps.map .int), wD w] h) = .ok (oPutC x ps w S).1 h' ∧ StA h' k (oPutC x ps w S).2 ∧ Fr k h h' := by
  obtain ⟨g, e⟩ := c_putCS (n := n) (w := w) s o hp hS
  rw [e]
  unfold oPutC
  split
  · split
    · exact ⟨_, rfl, (s.app.putB _).putC _, (Fr.refl.app.set (by omega) (by omega)).set (by omega) (by omega)⟩
    · exact ⟨_, told_f _ _, s.app, Fr.refl.app⟩
  · exact ⟨_, told_f _ _, s.app, Fr.refl.app⟩
theorem t_lay (s : StA h k S) (o : NmO x) (hb : bs.length ≤ 100) (hS : Ok 1000 S) : ∃ h', toldR tldf (callN T (n + 3) 14 [.ref k, .str x, .tup (bs.map .int)] h) = .ok (oLay x bs S).1 h' ∧ StA h' k (oLay x bs S).2 ∧ Fr k h h' := by
  obtain ⟨g, e⟩ := c_layS (n := n + 1) s o hb hS
  rw [e]
  unfold oLay
  split
  · exact ⟨_, told_f _ _, s.app, Fr.refl.app⟩
  · split
    · exact ⟨_, rfl, s.app.putB _, Fr.refl.app.set (by omega) (by omega)⟩
    · exact ⟨_, told_f _ _, s.app, Fr.refl.app⟩
theorem a_cell (s : ItA h m S) (o : NmO x) (hp : ps.length = 1 ∨ ps.length = 2) (hS : Ok 1000 S) (sd : D) : ∃ h', callN T (n + 3) 11 [sd, .ref (m + 3), .str x, .tup (ps.map .int)] h = .ok (oCell x ps S).1 h' ∧ ItA h' m (oCell x ps S).2 ∧ Fr m h h' := by
  obtain ⟨g, e⟩ := c_asked (n := n + 1) s o hp hS sd
  rw [e]
  unfold oCell
  split
  · exact ⟨_, rfl, s.app.putB _, Fr.refl.app.set (by omega) (by omega)⟩
  · exact ⟨_, rfl, s.app, Fr.refl.app⟩
theorem a_putC (s : ItA h m S) (o : NmO x) (hp : ps.length = 1 ∨ ps.length = 2) (hS : Ok 1000 S) : ∃ h', callN T (n + 3) 12 [.ref (m + 3), .str x, .tup (ps.map .int), wD w] h = .ok (oPutC x ps w S).1 h' ∧ ItA h' m (oPutC x ps w S).2 ∧ Fr m h h' := by
  obtain ⟨g, e⟩ := c_given (n := n + 1) (w := w) s o hp hS
  rw [e]
  unfold oPutC
  by_cases q : ins (bnd S x ps.length) ps = true
  · rw [q, if_pos rfl, Bool.true_and]
    by_cases q2 : isW w = isT x
    · rw [if_pos q2, decide_eq_true q2, if_pos rfl]
      exact ⟨_, rfl, (s.app.putB _).putC _, (Fr.refl.app.set (by omega) (by omega)).set (by omega) (by omega)⟩
    · rw [if_neg q2, decide_eq_false q2, if_neg Bool.false_ne_true]
      exact ⟨_, rfl, s.app, Fr.refl.app⟩
  · have q' : ins (bnd S x ps.length) ps = false := by simpa using q
    rw [q', if_neg Bool.false_ne_true, Bool.false_and, if_neg Bool.false_ne_true]
    exact ⟨_, rfl, s.app, Fr.refl.app⟩
theorem a_lay (s : ItA h m S) (o : NmO x) (hb : bs.length ≤ 100) (hS : Ok 1000 S) : ∃ h', callN T (n + 3) 9 [.ref (m + 3), .str x, .tup (bs.map .int)] h = .ok (oLay x bs S).1 h' ∧ ItA h' m (oLay x bs S).2 ∧ Fr m h h' := by
  obtain ⟨g, e⟩ := c_laid (n := n + 2) s o hb hS
  rw [e]
  unfold oLay
  cases q0 : (aLk S.bd x).isSome with
  | true =>
    rw [if_pos rfl, Bool.not_true, Bool.false_and, if_neg Bool.false_ne_true]
    exact ⟨_, rfl, s.app, Fr.refl.app⟩
  | false =>
    rw [if_neg Bool.false_ne_true, Bool.not_false, Bool.true_and]
    split
    · exact ⟨_, rfl, s.app.putB _, Fr.refl.app.set (by omega) (by omega)⟩
    · exact ⟨_, rfl, s.app, Fr.refl.app⟩
end
end K30

namespace K30
open PySem L2 Mp
def Fr2 (k m : Nat) (h h' : DH) : Prop := h.length ≤ h'.length ∧ ∀ j, j < h.length → (j < k ∨ k + 4 ≤ j) → (j < m ∨ m + 4 ≤ j) → h'[j]? = h[j]?
theorem Fr.two {k m : Nat} {h h1 h2 : DH} (a : Fr k h h1) (b : Fr m h1 h2) : Fr2 k m h h2 := ⟨Nat.le_trans a.1 b.1, fun j hj q1 q2 => (b.2 j (Nat.lt_of_lt_of_le hj a.1) q2).trans (a.2 j hj q1)⟩
theorem Fr.two' {k m : Nat} {h h1 h2 : DH} (a : Fr m h h1) (b : Fr k h1 h2) : Fr2 k m h h2 := ⟨Nat.le_trans a.1 b.1, fun j hj q1 q2 => (b.2 j (Nat.lt_of_lt_of_le hj a.1) q1).trans (a.2 j hj q2)⟩
theorem Fr2.pre {k m : Nat} {h g h2 : DH} (a : Fr2 k m (h ++ g) h2) : Fr2 k m h h2 := ⟨by have := a.1; rw [List.length_append] at this; omega, fun j hj q1 q2 => by
  rw [a.2 j (by rw [List.length_append]; omega) q1 q2, List.getElem?_append_left hj]⟩
section
variable {n : Nat} {h : DH} {x : Tx} {k m N : Nat} {S : Sto} {w : Wo} {ps bs : List Int} {more : Int}
theorem here1 (h0 : 0 ≤ more) (a0 a1 a2 a5 a6 a7 a8 a9 : Option D) : ∃ w, sSet (stName 4) (mIdx (mLst [(mBin .Sub (mBin .Mod (mBin .FloorDiv (mVar 3) (mLit (.int 64))) (mLit (.int 1000))) (mLit (.int 500))), (mLit (.int 999999999999)), (mLit (.str [])), (mLit (.str [65, 32, 98]))]) (mBin .Mod (mBin .FloorDiv (mVar 3) (mBin .Pow (mLit (.int 2)) (mLit (.int 20)))) (mLit (.int 4)))) [a0, a1, a2, some (.int more), none, a5, a6, a7, a8, a9] h
    = .nx [a0, a1, a2, some (.int more), some (wD w), a5, a6, a7, a8, a9] (h ++ [.lst [.int (more / 64 % 1000 - 500), .int 999999999999, .str [], .str [65, 32, 98]]]) := by
  obtain ⟨d, hd, e⟩ := pickD (xs := [.int (more / 64 % 1000 - 500), .int 999999999999, .str [], .str [65, 32, 98]]) (i := more / 1048576 % 4) (by omega) (by show _ < ((4 : Nat) : Int); omega)
  obtain ⟨w, rfl⟩ : ∃ w, d = wD w := by
    simp only [List.mem_cons, List.not_mem_nil, or_false] at hd
    rcases hd with rfl | rfl | rfl | rfl
    · exact ⟨.i _, rfl⟩
    · exact ⟨.i _, rfl⟩
    · exact ⟨.s _, rfl⟩
    · exact ⟨.s _, rfl⟩
  refine ⟨w, ?_⟩
  simp (disch := first | with_reducible assumption | omega | with_reducible exact size_le (by omega) | decide | (simp only [List.length_cons, List.length_nil, List.length_append]; first | omega | with_reducible exact size_le (by omega)) | exact ⟨by simp only [List.length_cons, List.length_nil]; omega, by decide⟩ | fail) [-getElem?_pos, -getElem?_neg, -Int.natCast_add, le_size, rngR_ok, mul_int, mod_int, div_int, pow_int, add_str, len_str, len_refU, idx_refU, any_refU, all_refU, in_refU, in_tupU, okTo_appU, append_U, it_refU, join_refU, add_refU, isi_refU, idx_str, slc_str, str_int, int_str, meOf, List.lookup, fldOf, putN, putR_ok, List.getElem?_cons_zero, List.getElem?_cons_succ, List.getElem?_concat_length, get_app, get_app0, en_refU, mul_refU, tupF_refU, slc_refU, -pow_int, pw20, e]
theorem here2 (h0 : 0 ≤ more) (o : NmO x) (w : Wo) (a0 a1 a5 a6 a7 a8 a9 : Option D) (h : DH) : ∃ w' g, sIf (mCmp .Gt (mBin .Mod (mBin .FloorDiv (mVar 3) (mLit (.int 8))) (mLit (.int 4))) (mLit (.int 0))) (sSeq (sSet (stName 4) (mIdx (mIdx (mLst [(mLst [(mLit (.int 0)), (mBin .Mod (mBin .FloorDiv (mVar 3) (mLit (.int 64))) (mLit (.int 9)))]), (mLst [(mLit (.str [120])), (mBin .Mult (mLit (.str [121])) (mBin .Mod (mBin .FloorDiv (mVar 3) (mLit (.int 64))) (mLit (.int 255))))])]) (mBi .int [(mCmp .Eq (mIdx (mVar 2) (mNeg (mLit (.int 1)))) (mLit (.str [36])))])) (mBin .Mod (mBin .FloorDiv (mVar 3) (mLit (.int 512))) (mLit (.int 2))))) sNext) sNext [a0, a1, some (.str x), some (.int more), some (wD w), a5, a6, a7, a8, a9] h
    = .nx [a0, a1, some (.str x), some (.int more), some (wD w'), a5, a6, a7, a8, a9] (h ++ g) := by
  by_cases q : more / 8 % 4 > 0
  · obtain ⟨c, e1, e2⟩ := last_eq o
    have hz : x.length ≤ sizeLine := size_le (by have := o.le; omega)
    obtain ⟨Y, my⟩ : ∃ Y : Tx, ∀ H, dBin .Mult (.str [121]) (.int (more / 64 % 255)) H = .ok (.str Y) H := by
      obtain ⟨z, hzz⟩ : ∃ z : Nat, more / 64 % 255 = (z : Int) := Int.eq_ofNat_of_zero_le (by omega)
      exact ⟨List.replicate z 121, fun H => by rw [hzz]; exact mul_chr (by omega)⟩
    obtain ⟨d1, hd1, f1⟩ := pickD (xs := [.int 0, .int (more / 64 % 9)]) (i := more / 512 % 2) (by omega) (by show _ < ((2 : Nat) : Int); omega)
    obtain ⟨d2, hd2, f2⟩ := pickD (xs := [.str [120], .str Y]) (i := more / 512 % 2) (by omega) (by show _ < ((2 : Nat) : Int); omega)
    obtain ⟨w1, rfl⟩ : ∃ w, d1 = wD w := by
      simp only [List.mem_cons, List.not_mem_nil, or_false] at hd1
      rcases hd1 with rfl | rfl
      · exact ⟨.i _, rfl⟩
      · exact ⟨.i _, rfl⟩
    obtain ⟨w2, rfl⟩ : ∃ w, d2 = wD w := by
      simp only [List.mem_cons, List.not_mem_nil, or_false] at hd2
      rcases hd2 with rfl | rfl
      · exact ⟨.s _, rfl⟩
      · exact ⟨.s _, rfl⟩
    have ap : h ++ [O.lst [D.int 0, D.int (more / 64 % 9)]] ++ [O.lst [D.str [120], D.str Y]] ++ [O.lst [D.ref h.length, D.ref (h.length + 1)]] = h ++ [O.lst [D.int 0, D.int (more / 64 % 9)], O.lst [D.str [120], D.str Y], O.lst [D.ref h.length, D.ref (h.length + 1)]] := by simp
    have g0 : (h ++ [O.lst [D.int 0, D.int (more / 64 % 9)], O.lst [D.str [120], D.str Y], O.lst [D.ref h.length, D.ref (h.length + 1)]])[h.length]? = some (.lst [D.int 0, D.int (more / 64 % 9)]) := by simp
    have g1 : (h ++ [O.lst [D.int 0, D.int (more / 64 % 9)], O.lst [D.str [120], D.str Y], O.lst [D.ref h.length, D.ref (h.length + 1)]])[h.length + 1]? = some (.lst [D.str [120], D.str Y]) := by simp
    have g2 : (h ++ [O.lst [D.int 0, D.int (more / 64 % 9)], O.lst [D.str [120], D.str Y], O.lst [D.ref h.length, D.ref (h.length + 1)]])[h.length + 2]? = some (.lst [D.ref h.length, D.ref (h.length + 1)]) := by simp
    have i0 : atI [D.ref h.length, D.ref (h.length + 1)] 0 = some (.ref h.length) := rfl
    have i1 : atI [D.ref h.length, D.ref (h.length + 1)] 1 = some (.ref (h.length + 1)) := rfl
    by_cases q2 : c = 36
    · refine ⟨w2, [O.lst [D.int 0, D.int (more / 64 % 9)], O.lst [D.str [120], D.str Y], O.lst [D.ref h.length, D.ref (h.length + 1)]], ?_⟩
      generalize eH : h ++ [O.lst [D.int 0, D.int (more / 64 % 9)], O.lst [D.str [120], D.str Y], O.lst [D.ref h.length, D.ref (h.length + 1)]] = H at *
      simp (disch := first | with_reducible assumption | omega | with_reducible exact size_le (by omega) | decide | (simp only [List.length_cons, List.length_nil, List.length_append]; first | omega | with_reducible exact size_le (by omega)) | exact ⟨by simp only [List.length_cons, List.length_nil]; omega, by decide⟩ | fail) [-getElem?_pos, -getElem?_neg, -Int.natCast_add, le_size, rngR_ok, mul_int, mod_int, div_int, pow_int, add_str, len_str, len_refU, idx_refU, any_refU, all_refU, in_refU, in_tupU, okTo_appU, append_U, it_refU, join_refU, add_refU, isi_refU, idx_str, slc_str, str_int, int_str, meOf, List.lookup, fldOf, putN, putR_ok, List.getElem?_cons_zero, List.getElem?_cons_succ, List.getElem?_concat_length, get_app, get_app0, en_refU, mul_refU, tupF_refU, slc_refU, q, my, e1, q2, eH, g0, g1, g2, i0, i1, f2]
    · refine ⟨w1, [O.lst [D.int 0, D.int (more / 64 % 9)], O.lst [D.str [120], D.str Y], O.lst [D.ref h.length, D.ref (h.length + 1)]], ?_⟩
      generalize eH : h ++ [O.lst [D.int 0, D.int (more / 64 % 9)], O.lst [D.str [120], D.str Y], O.lst [D.ref h.length, D.ref (h.length + 1)]] = H at *
      simp (disch := first | with_reducible assumption | omega | with_reducible exact size_le (by omega) | decide | (simp only [List.length_cons, List.length_nil, List.length_append]; first | omega | with_reducible exact size_le (by omega)) | exact ⟨by simp only [List.length_cons, List.length_nil]; omega, by decide⟩ | fail) [-getElem?_pos, -getElem?_neg, -Int.natCast_add, le_size, rngR_ok, mul_int, mod_int, div_int, pow_int, add_str, len_str, len_refU, idx_refU, any_refU, all_refU, in_refU, in_tupU, okTo_appU, append_U, it_refU, join_refU, add_refU, isi_refU, idx_str, slc_str, str_int, int_str, meOf, List.lookup, fldOf, putN, putR_ok, List.getElem?_cons_zero, List.getElem?_cons_succ, List.getElem?_concat_length, get_app, get_app0, en_refU, mul_refU, tupF_refU, slc_refU, q, my, e1, q2, eH, g0, g1, g2, i0, i1, f1]
  · refine ⟨w, [], ?_⟩
    rw [List.append_nil]
    simp (disch := first | with_reducible assumption | omega | with_reducible exact size_le (by omega) | decide | (simp only [List.length_cons, List.length_nil, List.length_append]; first | omega | with_reducible exact size_le (by omega)) | exact ⟨by simp only [List.length_cons, List.length_nil]; omega, by decide⟩ | fail) [-getElem?_pos, -getElem?_neg, -Int.natCast_add, le_size, rngR_ok, mul_int, mod_int, div_int, pow_int, add_str, len_str, len_refU, idx_refU, any_refU, all_refU, in_refU, in_tupU, okTo_appU, append_U, it_refU, join_refU, add_refU, isi_refU, idx_str, slc_str, str_int, int_str, meOf, List.lookup, fldOf, putN, putR_ok, List.getElem?_cons_zero, List.getElem?_cons_succ, List.getElem?_concat_length, get_app, get_app0, en_refU, mul_refU, tupF_refU, slc_refU, q]
end
end K30

namespace K30
open PySem L2 Mp
section
variable {n : Nat} {h : DH} {x : Tx} {k m N : Nat} {S : Sto} {w : Wo} {ps bs : List Int} {more : Int}
def Done (k m N : Nat) (h : DH) (r : Res) : Prop := ∃ S' h', r = .ok (.bl true) h' ∧ StA h' k S' ∧ ItA h' m S' ∧ Ok (N + 1) S' ∧ Fr2 k m h h'
def EnD (k m : Nat) (x : Tx) (more : Int) (w : Wo) (a6 a7 a8 : Option D) : En := [some (.ref k), some (.ref (m + 3)), some (.str x), some (.int more), some (wD w), some (.int (more % 5)), a6, a7, a8, none]
theorem way0 (sP : StA h k S) (sI : ItA h m S) (o : NmO x) (hN : Ok N S) :
    Done k m N h (finO (sSeq (sSet (stName 9) (mGet2 (mIdx (mVar 1) (mLit (.str [110, 97, 109, 101, 115]))) (mVar 2) (mIf (mCmp .Eq (mIdx (mVar 2) (mNeg (mLit (.int 1)))) (mLit (.str [36]))) (mLit (.str [])) (mLit (.int 0))))) (sSeq (sRet (mCmp .Eq (mTold tldf (mMeth (callN T (n + 3)) (meOf [(0, 7)]) (mVar 0) [(mVar 2)])) (mVar 9))) sNext) (EnD k m x more w none none none) h)) := by
  refine ⟨S, h, ?_, sP, sI, hN.up (Nat.le_succ _), ⟨Nat.le_refl _, fun _ _ _ _ => rfl⟩⟩
  obtain ⟨c, e1, e2⟩ := last_eq o
  have e2 : isT x = decide (c = 36) := by rw [e2]; simp
  have hz : x.length ≤ sizeLine := size_le (by have := o.le; omega)
  have s1 := sI.it
  have s2 := sI.nm
  have s3 := sP.ob
  have lk : dLk (enc kS wD S.nm) (.str x) = (aLk S.nm x).map wD := enc_lk (ve := wD) kS_eq S.nm x
  have nd := nul_D (x := x)
  have gd := gd_w (aLk S.nm x) (nul x)
  have tg := t_get (n := n) sP o
  have eq := eqD (.inl ⟨(aLk S.nm x).getD (nul x), rfl⟩) h
  unfold EnD
  by_cases q2 : c = 36
  · rw [decide_eq_true q2] at e2
    rw [e2, if_pos rfl] at nd
    rw [← nd] at gd
    simp (disch := first | with_reducible assumption | omega | with_reducible exact size_le (by omega) | decide | (simp only [List.length_cons, List.length_nil, List.length_append]; first | omega | with_reducible exact size_le (by omega)) | exact ⟨by simp only [List.length_cons, List.length_nil]; omega, by decide⟩ | fail) [-getElem?_pos, -getElem?_neg, -Int.natCast_add, le_size, rngR_ok, mul_int, mod_int, div_int, pow_int, add_str, len_str, len_refU, idx_refU, any_refU, all_refU, in_refU, in_tupU, okTo_appU, append_U, it_refU, join_refU, add_refU, isi_refU, idx_str, slc_str, str_int, int_str, meOf, List.lookup, fldOf, putN, putR_ok, List.getElem?_cons_zero, List.getElem?_cons_succ, List.getElem?_concat_length, get_app, get_app0, en_refU, mul_refU, tupF_refU, slc_refU, s1, itk_n, s2, e1, q2, lk, gd, v_told, s3, tg, eq]
  · rw [decide_eq_false q2] at e2
    rw [e2, if_neg Bool.false_ne_true] at nd
    rw [← nd] at gd
    simp (disch := first | with_reducible assumption | omega | with_reducible exact size_le (by omega) | decide | (simp only [List.length_cons, List.length_nil, List.length_append]; first | omega | with_reducible exact size_le (by omega)) | exact ⟨by simp only [List.length_cons, List.length_nil]; omega, by decide⟩ | fail) [-getElem?_pos, -getElem?_neg, -Int.natCast_add, le_size, rngR_ok, mul_int, mod_int, div_int, pow_int, add_str, len_str, len_refU, idx_refU, any_refU, all_refU, in_refU, in_tupU, okTo_appU, append_U, it_refU, join_refU, add_refU, isi_refU, idx_str, slc_str, str_int, int_str, meOf, List.lookup, fldOf, putN, putR_ok, List.getElem?_cons_zero, List.getElem?_cons_succ, List.getElem?_concat_length, get_app, get_app0, en_refU, mul_refU, tupF_refU, slc_refU, s1, itk_n, s2, e1, q2, lk, gd, v_told, s3, tg, eq]
theorem way1 (sP : StA h k S) (sI : ItA h m S) (dj : k + 4 ≤ m ∨ m + 4 ≤ k) (o : NmO x) (hN : Ok N S) (hN2 : N ≤ 900) :
    Done k m N h (finO (sSeq (sSet (stName 9) (mLit .non)) (sSeq (sIf (mCmp .NotEq (mIsi (mVar 4) .str) (mCmp .Eq (mIdx (mVar 2) (mNeg (mLit (.int 1)))) (mLit (.str [36])))) (sSeq (sSet (stName 9) (mTup [(mLit (.str [114, 101, 102, 117, 115, 101, 100])), (mLit (.str [70, 97, 117, 108, 116])), (mLit (.str [75, 105, 110, 100]))])) sNext) (sSeq (sItm (mIdx (mVar 1) (mLit (.str [110, 97, 109, 101, 115]))) (mVar 2) (mVar 4)) sNext)) (sSeq (sRet (mCmp .Eq (mTold tldf (mMeth (callN T (n + 3)) (meOf [(0, 16)]) (mVar 0) [(mVar 2), (mVar 4)])) (mVar 9))) sNext)) (EnD k m x more w none none none) h)) := by
  obtain ⟨c, e1, e2⟩ := last_eq o
  have e2 : isT x = decide (c = 36) := by rw [e2]; simp
  have hz : x.length ≤ sizeLine := size_le (by have := o.le; omega)
  have s1 := sI.it
  have s3 := sP.ob
  have l3 : (3 : Nat) ≤ sizeLine := size_le (by decide)
  have eb := eq_bl (h := h) (isW w) (decide (c = 36))
  have hO := hN.up (show N ≤ 1000 by omega)
  have ok := ok_put hN x w
  have eqd := eq_put x w S
  unfold EnD
  by_cases q : isW w = isT x
  · rw [← e2, decide_eq_true q, e2] at eb
    have pt : dPut (enc kS wD S.nm) (.str x) (wD w) = enc kS wD (aPut S.nm x w) := enc_put kS_eq S.nm x w
    have it : ∀ en, itmR (.ref m) (.str x) (wD w) en h = .nx en (h.set m (.dic (enc kS wD (aPut S.nm x w)))) := fun en => by
      rw [itm_dic sI.nm (by rw [enc_len]; exact size_le (n := S.nm.length + 1) (by have := hN.l1; omega)), pt]
    have fr : Fr m h (h.set m (.dic (enc kS wD (aPut S.nm x w)))) := Fr.refl.set (Nat.le_refl _) (by omega)
    have sI2 := sI.putN (aPut S.nm x w)
    have sP2 := sP.fr fr (by omega)
    generalize h.set m (.dic (enc kS wD (aPut S.nm x w))) = H1 at *
    obtain ⟨h2, te, sP3, f3⟩ := t_put (n := n) (w := w) sP2 o hO
    have s4 := sP2.ob
    have eo : oPut x w S = (.non, { S with nm := aPut S.nm x w }) := by unfold oPut; rw [if_pos q]
    rw [eo] at te sP3 ok
    refine ⟨_, h2, ?_, sP3, sI2.fr f3 (by omega), ok, fr.two' f3⟩
    have eq : dCmp .Eq .non .non h2 = some true := eqD (.inr (.inl rfl)) h2
    simp (disch := first | with_reducible assumption | omega | with_reducible exact size_le (by omega) | decide | (simp only [List.length_cons, List.length_nil, List.length_append]; first | omega | with_reducible exact size_le (by omega)) | exact ⟨by simp only [List.length_cons, List.length_nil]; omega, by decide⟩ | fail) [-getElem?_pos, -getElem?_neg, -Int.natCast_add, le_size, rngR_ok, mul_int, mod_int, div_int, pow_int, add_str, len_str, len_refU, idx_refU, any_refU, all_refU, in_refU, in_tupU, okTo_appU, append_U, it_refU, join_refU, add_refU, isi_refU, idx_str, slc_str, str_int, int_str, meOf, List.lookup, fldOf, putN, putR_ok, List.getElem?_cons_zero, List.getElem?_cons_succ, List.getElem?_concat_length, get_app, get_app0, en_refU, mul_refU, tupF_refU, slc_refU, isi_w, e1, eb, s1, itk_n, it, v_told, s4, te, eq]
  · rw [← e2, decide_eq_false q, e2] at eb
    obtain ⟨h2, te, sP3, f3⟩ := t_put (n := n) (w := w) sP o hO
    have eo : oPut x w S = (FLT KIND, S) := by unfold oPut; rw [if_neg q]
    rw [eo] at te sP3 ok eqd
    have eq := eqD eqd h2
    refine ⟨_, h2, ?_, sP3, sI.fr f3 (by omega), ok, (Fr.refl (n := m)).two' f3⟩
    simp only [FLT, KIND] at te eq
    simp (disch := first | with_reducible assumption | omega | with_reducible exact size_le (by omega) | decide | (simp only [List.length_cons, List.length_nil, List.length_append]; first | omega | with_reducible exact size_le (by omega)) | exact ⟨by simp only [List.length_cons, List.length_nil]; omega, by decide⟩ | fail) [-getElem?_pos, -getElem?_neg, -Int.natCast_add, le_size, rngR_ok, mul_int, mod_int, div_int, pow_int, add_str, len_str, len_refU, idx_refU, any_refU, all_refU, in_refU, in_tupU, okTo_appU, append_U, it_refU, join_refU, add_refU, isi_refU, idx_str, slc_str, str_int, int_str, meOf, List.lookup, fldOf, putN, putR_ok, List.getElem?_cons_zero, List.getElem?_cons_succ, List.getElem?_concat_length, get_app, get_app0, en_refU, mul_refU, tupF_refU, slc_refU, isi_w, e1, eb, v_told, s3, te, eq]
theorem way2 (sP : StA h k S) (sI : ItA h m S) (dj : k + 4 ≤ m ∨ m + 4 ≤ k) (o : NmO x) (hN : Ok N S) (hN2 : N ≤ 900) (hp : ps.length = 1 ∨ ps.length = 2) (a6 a8 : Option D) :
    Done k m N h (finO (sSeq (sRet (mCmp .Eq (mTold tldf (mMeth (callN T (n + 3)) (meOf [(0, 18)]) (mVar 0) [(mVar 2), (mVar 7)])) (mCall (callN T (n + 3)) 11 [(mVar 0), (mVar 1), (mVar 2), (mVar 7)]))) sNext (EnD k m x more w a6 (some (.tup (ps.map .int))) a8) h)) := by
  have hO := hN.up (show N ≤ 1000 by omega)
  obtain ⟨h2, te, sP2, f2⟩ := t_cell (n := n) sP o hp hO
  obtain ⟨h3, ae, sI2, f3⟩ := a_cell (n := n) (sI.fr f2 (by omega)) o hp hO (.ref k)
  have eq := eqD (eq_cell x ps S) h3
  have s3 := sP.ob
  refine ⟨_, h3, ?_, sP2.fr f3 (by omega), sI2, ok_cell hN x hp, f2.two f3⟩
  unfold EnD
  simp (disch := first | with_reducible assumption | omega | with_reducible exact size_le (by omega) | decide | (simp only [List.length_cons, List.length_nil, List.length_append]; first | omega | with_reducible exact size_le (by omega)) | exact ⟨by simp only [List.length_cons, List.length_nil]; omega, by decide⟩ | fail) [-getElem?_pos, -getElem?_neg, -Int.natCast_add, le_size, rngR_ok, mul_int, mod_int, div_int, pow_int, add_str, len_str, len_refU, idx_refU, any_refU, all_refU, in_refU, in_tupU, okTo_appU, append_U, it_refU, join_refU, add_refU, isi_refU, idx_str, slc_str, str_int, int_str, meOf, List.lookup, fldOf, putN, putR_ok, List.getElem?_cons_zero, List.getElem?_cons_succ, List.getElem?_concat_length, get_app, get_app0, en_refU, mul_refU, tupF_refU, slc_refU, v_told, s3, te, ae, eq]
theorem way3 (sP : StA h k S) (sI : ItA h m S) (dj : k + 4 ≤ m ∨ m + 4 ≤ k) (o : NmO x) (hN : Ok N S) (hN2 : N ≤ 900) (hp : ps.length = 1 ∨ ps.length = 2) (a6 a8 : Option D) :
    Done k m N h (finO (sSeq (sRet (mCmp .Eq (mTold tldf (mMeth (callN T (n + 3)) (meOf [(0, 19)]) (mVar 0) [(mVar 2), (mVar 7), (mVar 4)])) (mCall (callN T (n + 3)) 12 [(mVar 1), (mVar 2), (mVar 7), (mVar 4)]))) sNext (EnD k m x more w a6 (some (.tup (ps.map .int))) a8) h)) := by
  have hO := hN.up (show N ≤ 1000 by omega)
  obtain ⟨h2, te, sP2, f2⟩ := t_putC (n := n) (w := w) sP o hp hO
  obtain ⟨h3, ae, sI2, f3⟩ := a_putC (n := n) (w := w) (sI.fr f2 (by omega)) o hp hO
  have eq := eqD (eq_putC x ps w S) h3
  have s3 := sP.ob
  refine ⟨_, h3, ?_, sP2.fr f3 (by omega), sI2, ok_putC hN x hp w, f2.two f3⟩
  unfold EnD
  simp (disch := first | with_reducible assumption | omega | with_reducible exact size_le (by omega) | decide | (simp only [List.length_cons, List.length_nil, List.length_append]; first | omega | with_reducible exact size_le (by omega)) | exact ⟨by simp only [List.length_cons, List.length_nil]; omega, by decide⟩ | fail) [-getElem?_pos, -getElem?_neg, -Int.natCast_add, le_size, rngR_ok, mul_int, mod_int, div_int, pow_int, add_str, len_str, len_refU, idx_refU, any_refU, all_refU, in_refU, in_tupU, okTo_appU, append_U, it_refU, join_refU, add_refU, isi_refU, idx_str, slc_str, str_int, int_str, meOf, List.lookup, fldOf, putN, putR_ok, List.getElem?_cons_zero, List.getElem?_cons_succ, List.getElem?_concat_length, get_app, get_app0, en_refU, mul_refU, tupF_refU, slc_refU, v_told, s3, te, ae, eq]
theorem way4 (sP : StA h k S) (sI : ItA h m S) (dj : k + 4 ≤ m ∨ m + 4 ≤ k) (o : NmO x) (hN : Ok N S) (hN2 : N ≤ 900) (h0 : 0 ≤ more) (a6 a7 : Option D) :
    Done k m N h (finO (sSeq (sSet (stName 8) (mIdx (mLst [(mTup [(mLit (.int 3))]), (mTup [(mLit (.int 0)), (mLit (.int 2))]), (mTup [(mLit (.int 99))]), (mTup [(mLit (.int 99)), (mLit (.int 0))]), (mTup [(mLit (.int 100))]), (mTup [(mNeg (mLit (.int 1))), (mLit (.int 3))]), (mTup []), (mTup [(mLit (.int 1)), (mLit (.int 1)), (mLit (.int 1))])]) (mBin .Mod (mBin .FloorDiv (mVar 3) (mBin .Pow (mLit (.int 2)) (mLit (.int 50)))) (mLit (.int 8))))) (sSeq (sRet (mCmp .Eq (mTold tldf (mMeth (callN T (n + 3)) (meOf [(0, 14)]) (mVar 0) [(mVar 2), (mVar 8)])) (mCall (callN T (n + 3)) 9 [(mVar 1), (mVar 2), (mVar 8)]))) sNext) (EnD k m x more w a6 a7 none) h)) := by
  have hO := hN.up (show N ≤ 1000 by omega)
  obtain ⟨d, hd, e⟩ := pickD (xs := [.tup [.int 3], .tup [.int 0, .int 2], .tup [.int 99], .tup [.int 99, .int 0], .tup [.int 100], .tup [.int (-1), .int 3], .tup [], .tup [.int 1, .int 1, .int 1]]) (i := more / 1125899906842624 % 8) (by omega) (by show _ < ((8 : Nat) : Int); omega)
  obtain ⟨bs, rfl, hb⟩ : ∃ bs : List Int, d = .tup (bs.map .int) ∧ bs.length ≤ 100 := by
    simp only [List.mem_cons, List.not_mem_nil, or_false] at hd
    rcases hd with rfl | rfl | rfl | rfl | rfl | rfl | rfl | rfl
    · exact ⟨[3], rfl, by decide⟩
    · exact ⟨[0, 2], rfl, by decide⟩
    · exact ⟨[99], rfl, by decide⟩
    · exact ⟨[99, 0], rfl, by decide⟩
    · exact ⟨[100], rfl, by decide⟩
    · exact ⟨[-1, 3], rfl, by decide⟩
    · exact ⟨[], rfl, by decide⟩
    · exact ⟨[1, 1, 1], rfl, by decide⟩
  have g0 : (h ++ [O.lst [.tup [.int 3], .tup [.int 0, .int 2], .tup [.int 99], .tup [.int 99, .int 0], .tup [.int 100], .tup [.int (-1), .int 3], .tup [], .tup [.int 1, .int 1, .int 1]]])[h.length]? = some (O.lst [.tup [.int 3], .tup [.int 0, .int 2], .tup [.int 99], .tup [.int 99, .int 0], .tup [.int 100], .tup [.int (-1), .int 3], .tup [], .tup [.int 1, .int 1, .int 1]]) := by simp
  obtain ⟨h2, te, sP2, f2⟩ := t_lay (n := n) (bs := bs) (sP.app (g := [O.lst [.tup [.int 3], .tup [.int 0, .int 2], .tup [.int 99], .tup [.int 99, .int 0], .tup [.int 100], .tup [.int (-1), .int 3], .tup [], .tup [.int 1, .int 1, .int 1]]])) o hb hO
  obtain ⟨h3, ae, sI2, f3⟩ := a_lay (n := n) (bs := bs) ((sI.app (g := [O.lst [.tup [.int 3], .tup [.int 0, .int 2], .tup [.int 99], .tup [.int 99, .int 0], .tup [.int 100], .tup [.int (-1), .int 3], .tup [], .tup [.int 1, .int 1, .int 1]]])).fr f2 (by omega)) o hb hO
  have eq := eqD (eq_lay x bs S) h3
  have s3 := (sP.app (g := [O.lst [.tup [.int 3], .tup [.int 0, .int 2], .tup [.int 99], .tup [.int 99, .int 0], .tup [.int 100], .tup [.int (-1), .int 3], .tup [], .tup [.int 1, .int 1, .int 1]]])).ob
  refine ⟨_, h3, ?_, sP2.fr f3 (by omega), sI2, ok_lay hN x bs, (f2.two f3).pre⟩
  unfold EnD
  have l1 : (1 : Nat) ≤ sizeLine := size_le (by decide)
  have l2 : (2 : Nat) ≤ sizeLine := size_le (by decide)
  have l3 : (3 : Nat) ≤ sizeLine := size_le (by decide)
  generalize eH : h ++ [O.lst [.tup [.int 3], .tup [.int 0, .int 2], .tup [.int 99], .tup [.int 99, .int 0], .tup [.int 100], .tup [.int (-1), .int 3], .tup [], .tup [.int 1, .int 1, .int 1]]] = H at *
  simp (disch := first | with_reducible assumption | omega | with_reducible exact size_le (by omega) | decide | (simp only [List.length_cons, List.length_nil, List.length_append]; first | omega | with_reducible exact size_le (by omega)) | exact ⟨by simp only [List.length_cons, List.length_nil]; omega, by decide⟩ | fail) [-getElem?_pos, -getElem?_neg, -Int.natCast_add, le_size, rngR_ok, mul_int, mod_int, div_int, pow_int, add_str, len_str, len_refU, idx_refU, any_refU, all_refU, in_refU, in_tupU, okTo_appU, append_U, it_refU, join_refU, add_refU, isi_refU, idx_str, slc_str, str_int, int_str, meOf, List.lookup, fldOf, putN, putR_ok, List.getElem?_cons_zero, List.getElem?_cons_succ, List.getElem?_concat_length, get_app, get_app0, en_refU, mul_refU, tupF_refU, slc_refU, -pow_int, pw50, eH, g0, e, v_told, s3, te, ae, eq]
theorem ifO_false {a b : Out} : ifO (.bl false) a b = b := rfl
theorem done_seq {r : Out} {t : Ms} (d : Done k m N h (finO r)) : Done k m N h (finO (seqO r t)) := by
  obtain ⟨S', h', e, rest⟩ := d
  refine ⟨S', h', ?_, rest⟩
  cases r with
  | rt d h2 => exact e
  | nx e2 h2 => cases e
  | exc c w e2 h2 => cases e
  | bk e2 h2 => cases e
  | ct e2 h2 => cases e
  | err => cases e
theorem c_deed (sP : StA h k S) (sI : ItA h m S) (dj : k + 4 ≤ m ∨ m + 4 ≤ k) (o : NmO x) (hN : Ok N S) (hN2 : N ≤ 900) (h0 : 0 ≤ more) (h1 : more < 2 ^ 129) :
    Done k m N h (callN T (n + 7) 20 [.ref k, .ref (m + 3), .str x, .int more] h) := by
  rw [call_eqL (k := n + 3) (fn := q20.fn) rfl rfl]
  simp only [Def1.fn, q20, b__law_deed_right]
  simp only [List.map_cons, List.map_nil, List.length_cons, List.length_nil, Nat.reduceAdd, Nat.reduceSub, List.replicate, List.cons_append, List.nil_append]
  obtain ⟨w, e1⟩ := here1 (h := h) h0 (some (.ref k)) (some (.ref (m + 3))) (some (.str x)) none none none none none
  obtain ⟨w', g, e2⟩ := here2 h0 o w (some (.ref k)) (some (.ref (m + 3))) none none none none none (h ++ [.lst [.int (more / 64 % 1000 - 500), .int 999999999999, .str [], .str [65, 32, 98]]])
  rw [s_seq, e1, seqO_nx, s_seq, e2, seqO_nx]
  have sP := (sP.app (g := [.lst [.int (more / 64 % 1000 - 500), .int 999999999999, .str [], .str [65, 32, 98]]])).app (g := g)
  have sI := (sI.app (g := [.lst [.int (more / 64 % 1000 - 500), .int 999999999999, .str [], .str [65, 32, 98]]])).app (g := g)
  have back : ∀ r, Done k m N (h ++ [.lst [.int (more / 64 % 1000 - 500), .int 999999999999, .str [], .str [65, 32, 98]]] ++ g) r → Done k m N h r := fun r ⟨S', h', a, b, c, d, e⟩ => ⟨S', h', a, b, c, d, e.pre.pre⟩
  refine back _ ?_
  generalize h ++ [.lst [.int (more / 64 % 1000 - 500), .int 999999999999, .str [], .str [65, 32, 98]]] ++ g = H at *
  have e3 : sSet (stName 5) (mBin .Mod (mVar 3) (mLit (.int 5))) [some (.ref k), some (.ref (m + 3)), some (.str x), some (.int more), some (wD w'), none, none, none, none, none] H = .nx (EnD k m x more w' none none none) H := by
    unfold EnD
    simp (disch := first | with_reducible assumption | omega | with_reducible exact size_le (by omega) | decide | (simp only [List.length_cons, List.length_nil, List.length_append]; first | omega | with_reducible exact size_le (by omega)) | exact ⟨by simp only [List.length_cons, List.length_nil]; omega, by decide⟩ | fail) [-getElem?_pos, -getElem?_neg, -Int.natCast_add, le_size, rngR_ok, mul_int, mod_int, div_int, pow_int, add_str, len_str, len_refU, idx_refU, any_refU, all_refU, in_refU, in_tupU, okTo_appU, append_U, it_refU, join_refU, add_refU, isi_refU, idx_str, slc_str, str_int, int_str, meOf, List.lookup, fldOf, putN, putR_ok, List.getElem?_cons_zero, List.getElem?_cons_succ, List.getElem?_concat_length, get_app, get_app0, en_refU, mul_refU, tupF_refU, slc_refU]
  rw [s_seq, e3, seqO_nx]
  have tst : ∀ (j : Int) (a6 a7 a8 : Option D) (H : DH), mCmp .Eq (mVar 5) (mLit (.int j)) (EnD k m x more w' a6 a7 a8) H = .ok (.bl (decide (more % 5 = j))) H := fun j a6 a7 a8 H => by
    unfold EnD
    simp (disch := first | with_reducible assumption | omega | with_reducible exact size_le (by omega) | decide | (simp only [List.length_cons, List.length_nil, List.length_append]; first | omega | with_reducible exact size_le (by omega)) | exact ⟨by simp only [List.length_cons, List.length_nil]; omega, by decide⟩ | fail) [-getElem?_pos, -getElem?_neg, -Int.natCast_add, le_size, rngR_ok, mul_int, mod_int, div_int, pow_int, add_str, len_str, len_refU, idx_refU, any_refU, all_refU, in_refU, in_tupU, okTo_appU, append_U, it_refU, join_refU, add_refU, isi_refU, idx_str, slc_str, str_int, int_str, meOf, List.lookup, fldOf, putN, putR_ok, List.getElem?_cons_zero, List.getElem?_cons_succ, List.getElem?_concat_length, get_app, get_app0, en_refU, mul_refU, tupF_refU, slc_refU]
  rw [s_seq, s_if, tst, bindO_ok]
  by_cases q0 : more % 5 = 0
  · rw [decide_eq_true q0]
    exact done_seq (way0 (n := n) sP sI o hN)
  rw [decide_eq_false q0, ifO_false, s_next, seqO_nx, s_seq, s_if, tst, bindO_ok]
  by_cases q1 : more % 5 = 1
  · rw [decide_eq_true q1]
    exact done_seq (way1 (n := n) sP sI dj o hN hN2)
  rw [decide_eq_false q1, ifO_false, s_next, seqO_nx]
  obtain ⟨k0, hk0⟩ : ∃ k0 : Nat, 1 + more / 1073741824 % 2 = (k0 : Int) := Int.eq_ofNat_of_zero_le (by omega)
  have hk1 : k0 = 1 ∨ k0 = 2 := by omega
  have mt : dBin .Mult (.tup [.int 10]) (.int (1 + more / 1073741824 % 2)) H = .ok (.tup (List.replicate k0 (.int 10))) H := by
    rw [hk0, mul_tup ⟨by omega, by omega, by decide, by decide⟩, ten_eq]
  have bd := bnd_D S x k0
  obtain ⟨b1, b2⟩ := bnd_ok hN (x := x) hk1
  generalize bnd S x k0 = bs at *
  have lk : dLk (enc kS bD S.bd) (.str x) = (aLk S.bd x).map bD := enc_lk (ve := bD) kS_eq S.bd x
  have e4 : sSet (stName 6) (mGet2 (mIdx (mVar 1) (mLit (.str [98, 111, 117, 110, 100, 115]))) (mVar 2) (mBin .Mult (mTup [(mLit (.int 10))]) (mBin .Add (mLit (.int 1)) (mBin .Mod (mBin .FloorDiv (mVar 3) (mBin .Pow (mLit (.int 2)) (mLit (.int 30)))) (mLit (.int 2)))))) (EnD k m x more w' none none none) H = .nx (EnD k m x more w' (some (.tup (bs.map .int))) none none) H := by
    clear hk0 hk1
    have s1 := sI.it
    have s2 := sI.bd
    unfold EnD
    simp (disch := first | with_reducible assumption | omega | with_reducible exact size_le (by omega) | decide | (simp only [List.length_cons, List.length_nil, List.length_append]; first | omega | with_reducible exact size_le (by omega)) | exact ⟨by simp only [List.length_cons, List.length_nil]; omega, by decide⟩ | fail) [-getElem?_pos, -getElem?_neg, -Int.natCast_add, le_size, rngR_ok, mul_int, mod_int, div_int, pow_int, add_str, len_str, len_refU, idx_refU, any_refU, all_refU, in_refU, in_tupU, okTo_appU, append_U, it_refU, join_refU, add_refU, isi_refU, idx_str, slc_str, str_int, int_str, meOf, List.lookup, fldOf, putN, putR_ok, List.getElem?_cons_zero, List.getElem?_cons_succ, List.getElem?_concat_length, get_app, get_app0, en_refU, mul_refU, tupF_refU, slc_refU, -pow_int, pw30, s1, itk_b, s2, mt, lk, bd]
  rw [s_seq, e4, seqO_nx]
  obtain ⟨ps, g2, hp, ep⟩ := c_places (n := n + 1) (more := more / 1099511627776) (Int.ediv_nonneg h0 (by decide)) (Int.lt_of_le_of_lt (Int.ediv_le_self _ h0) h1) b1 b2 H
  have e5 : sSet (stName 7) (mCall (callN T (n + 3)) 8 [(mBin .FloorDiv (mVar 3) (mBin .Pow (mLit (.int 2)) (mLit (.int 40)))), (mVar 6)]) (EnD k m x more w' (some (.tup (bs.map .int))) none none) H = .nx (EnD k m x more w' (some (.tup (bs.map .int))) (some (.tup (ps.map .int))) none) (H ++ g2) := by
    clear hk0 hk1
    unfold EnD
    simp (disch := first | with_reducible assumption | omega | with_reducible exact size_le (by omega) | decide | (simp only [List.length_cons, List.length_nil, List.length_append]; first | omega | with_reducible exact size_le (by omega)) | exact ⟨by simp only [List.length_cons, List.length_nil]; omega, by decide⟩ | fail) [-getElem?_pos, -getElem?_neg, -Int.natCast_add, le_size, rngR_ok, mul_int, mod_int, div_int, pow_int, add_str, len_str, len_refU, idx_refU, any_refU, all_refU, in_refU, in_tupU, okTo_appU, append_U, it_refU, join_refU, add_refU, isi_refU, idx_str, slc_str, str_int, int_str, meOf, List.lookup, fldOf, putN, putR_ok, List.getElem?_cons_zero, List.getElem?_cons_succ, List.getElem?_concat_length, get_app, get_app0, en_refU, mul_refU, tupF_refU, slc_refU, -pow_int, pw40, ep]
  rw [s_seq, e5, seqO_nx]
  have sP := sP.app (g := g2)
  have sI := sI.app (g := g2)
  have back : ∀ r, Done k m N (H ++ g2) r → Done k m N H r := fun r ⟨S', h', a, b, c, d, e⟩ => ⟨S', h', a, b, c, d, e.pre⟩
  refine back _ ?_
  generalize H ++ g2 = H2 at *
  rw [s_seq, s_if, tst, bindO_ok]
  by_cases q2 : more % 5 = 2
  · rw [decide_eq_true q2]
    exact done_seq (way2 (n := n) sP sI dj o hN hN2 hp _ _)
  rw [decide_eq_false q2, ifO_false, s_next, seqO_nx, s_seq, s_if, tst, bindO_ok]
  by_cases q3 : more % 5 = 3
  · rw [decide_eq_true q3]
    exact done_seq (way3 (n := n) sP sI dj o hN hN2 hp _ _)
  rw [decide_eq_false q3, ifO_false, s_next, seqO_nx]
  exact way4 (n := n) sP sI dj o hN hN2 h0 _ _
end
end K30

namespace K30
open PySem L2 Mp
structure LI (h0 : DH) (a k0 k1 c m0 m1 d : Nat) (L : List Tx) (S0 S1 : Sto) (N : Nat) (h : DH) : Prop where
  kp : Kp h0.length h0 h
  ge : a < k0 ∧ h0.length ≤ a ∧ k1 = k0 + 4 ∧ c = k0 + 8 ∧ m0 = k0 + 9 ∧ m1 = k0 + 13 ∧ d = k0 + 17
  nl : h[a]? = some (.lst (L.map .str))
  p0 : StA h k0 S0
  p1 : StA h k1 S1
  sl : h[c]? = some (.lst [.ref k0, .ref k1])
  i0 : ItA h m0 S0
  i1 : ItA h m1 S1
  il : h[d]? = some (.lst [.ref (m0 + 3), .ref (m1 + 3)])
  o0 : Ok N S0
  o1 : Ok N S1
section
variable {n : Nat} {h0 h h' : DH} {a k0 k1 c m0 m1 d N : Nat} {L : List Tx} {S0 S1 S : Sto}
theorem kp_fr2 {k m : Nat} (kp : Kp h0.length h0 h) (f : Fr2 k m h h') (h1 : h0.length ≤ k) (h2 : h0.length ≤ m) : Kp h0.length h0 h' :=
  ⟨Nat.le_trans kp.1 f.1, fun i hi => (f.2 i (Nat.lt_of_lt_of_le hi kp.1) (by omega) (by omega)).trans (kp.2 i hi)⟩
theorem at_fr2 {k m j : Nat} {o : O} (q : h[j]? = some o) (f : Fr2 k m h h') (h1 : j < k ∨ k + 4 ≤ j) (h2 : j < m ∨ m + 4 ≤ j) : h'[j]? = some o := (f.2 j (lt_of_get q) h1 h2).trans q
theorem StA.fr2 {k m : Nat} (s : StA h n S) (f : Fr2 k m h h') (h1 : n + 4 ≤ k ∨ k + 4 ≤ n) (h2 : n + 4 ≤ m ∨ m + 4 ≤ n) : StA h' n S :=
  ⟨at_fr2 s.ob f (by omega) (by omega), at_fr2 s.nm f (by omega) (by omega), at_fr2 s.bd f (by omega) (by omega), at_fr2 s.cl f (by omega) (by omega)⟩
theorem ItA.fr2 {k m : Nat} (s : ItA h n S) (f : Fr2 k m h h') (h1 : n + 4 ≤ k ∨ k + 4 ≤ n) (h2 : n + 4 ≤ m ∨ m + 4 ≤ n) : ItA h' n S :=
  ⟨at_fr2 s.nm f (by omega) (by omega), at_fr2 s.bd f (by omega) (by omega), at_fr2 s.cl f (by omega) (by omega), at_fr2 s.ob f (by omega) (by omega)⟩
theorem LI.st0 (l : LI h0 a k0 k1 c m0 m1 d L S0 S1 N h) (f : Fr2 k0 m0 h h') (p : StA h' k0 S) (i : ItA h' m0 S) (o : Ok (N + 1) S) : LI h0 a k0 k1 c m0 m1 d L S S1 (N + 1) h' := by
  have g := l.ge
  exact ⟨kp_fr2 l.kp f (by omega) (by omega), g, at_fr2 l.nl f (by omega) (by omega), p, l.p1.fr2 f (by omega) (by omega), at_fr2 l.sl f (by omega) (by omega), i, l.i1.fr2 f (by omega) (by omega), at_fr2 l.il f (by omega) (by omega), o, l.o1.up (Nat.le_succ _)⟩
theorem LI.st1 (l : LI h0 a k0 k1 c m0 m1 d L S0 S1 N h) (f : Fr2 k1 m1 h h') (p : StA h' k1 S) (i : ItA h' m1 S) (o : Ok (N + 1) S) : LI h0 a k0 k1 c m0 m1 d L S0 S (N + 1) h' := by
  have g := l.ge
  exact ⟨kp_fr2 l.kp f (by omega) (by omega), g, at_fr2 l.nl f (by omega) (by omega), l.p0.fr2 f (by omega) (by omega), p, at_fr2 l.sl f (by omega) (by omega), l.i0.fr2 f (by omega) (by omega), i, at_fr2 l.il f (by omega) (by omega), l.o0.up (Nat.le_succ _), o⟩
def NmL (L : List Tx) : Prop := L.length = 4 ∧ ∀ x ∈ L, NmO x
theorem deeds {sd : D} {k more : Int} (b9 b10 : Option D) (hL : NmL L) (h0' : 0 ≤ more) (h1 : more < 2 ^ 129) : ∀ (js : List D) (N : Nat) (S0 S1 : Sto) (a6 a7 a8 : Option D) (h : DH), (∀ z ∈ js, ∃ j : Int, z = .int j ∧ 0 ≤ j ∧ j ≤ 100) → N + js.length ≤ 200 → LI h0 a k0 k1 c m0 m1 d L S0 S1 N h →
    ∃ S0' S1' y6 y7 y8 h', forL none (stName 6) (l_law_3 (callN T (n + 7))) js [some sd, some (.int k), some (.int more), some (.ref a), some (.ref c), some (.ref d), a6, a7, a8, b9, b10] h = .nx [some sd, some (.int k), some (.int more), some (.ref a), some (.ref c), some (.ref d), y6, y7, y8, b9, b10] h' ∧ LI h0 a k0 k1 c m0 m1 d L S0' S1' (N + js.length) h'
  | [], N, S0, S1, a6, a7, a8, h, _, _, l => ⟨S0, S1, a6, a7, a8, h, forL_nil still_none, l⟩
  | z :: js, N, S0, S1, a6, a7, a8, h, hj, hN, l => by
    obtain ⟨j, rfl, j0, j1⟩ := hj z List.mem_cons_self
    rw [List.length_cons] at hN
    have l0 : more.natAbs.log2 < 2000000 := by
      have := nn_log h0' h1 (by decide)
      omega
    have lj : ((10 + j) + 1).natAbs.log2 < 2000000 := by
      have := nn_log (i := (10 + j) + 1) (n := 20) (by omega) (by omega) (by decide)
      omega
    have ed := c_drawn (n + 6) more (10 + j) h l0 lj
    have d0 := drawn_nn more (10 + j)
    have d1 := drawn_lt more (10 + j)
    generalize drawn more (10 + j) = here at *
    obtain ⟨x, hx, ex⟩ : ∃ x ∈ L, atI (L.map D.str) (here / 4 % 4) = some (.str x) := by
      obtain ⟨dx, hd, e⟩ := pickD (xs := L.map D.str) (i := here / 4 % 4) (by omega) (by rw [List.length_map, hL.1]; omega)
      obtain ⟨x, hx, rfl⟩ := List.mem_map.mp hd
      exact ⟨x, hx, e⟩
    have o := hL.2 x hx
    have g := l.ge
    have nl := l.nl
    have sl := l.sl
    have il := l.il
    obtain ⟨S0', S1', y7, h', eb, l'⟩ : ∃ S0' S1' y7 h', l_law_3 (callN T (n + 7)) [some sd, some (.int k), some (.int more), some (.ref a), some (.ref c), some (.ref d), some (.int j), a7, a8, b9, b10] h = .nx [some sd, some (.int k), some (.int more), some (.ref a), some (.ref c), some (.ref d), some (.int j), y7, some (.int here), b9, b10] h' ∧ LI h0 a k0 k1 c m0 m1 d L S0' S1' (N + 1) h' := by
      by_cases q : here % 4 = 0
      · obtain ⟨S', h', e, p, i, ok, f⟩ := c_deed (n := n) (more := here / 16) l.p1 l.i1 (by omega) o l.o1 (by omega) (by omega) (by omega)
        refine ⟨S0, S', some (.int 1), h', ?_, l.st1 f p i ok⟩
        have i1 : atI [D.ref k0, D.ref k1] 1 = some (.ref k1) := rfl
        have i2 : atI [D.ref (m0 + 3), D.ref (m1 + 3)] 1 = some (.ref (m1 + 3)) := rfl
        simp only [l_law_3]
        simp (disch := first | with_reducible assumption | omega | with_reducible exact size_le (by omega) | decide | (simp only [List.length_cons, List.length_nil, List.length_append]; first | omega | with_reducible exact size_le (by omega)) | exact ⟨by simp only [List.length_cons, List.length_nil]; omega, by decide⟩ | fail) [-getElem?_pos, -getElem?_neg, -Int.natCast_add, le_size, rngR_ok, mul_int, mod_int, div_int, pow_int, add_str, len_str, len_refU, idx_refU, any_refU, all_refU, in_refU, in_tupU, okTo_appU, append_U, it_refU, join_refU, add_refU, isi_refU, idx_str, slc_str, str_int, int_str, meOf, List.lookup, fldOf, putN, putR_ok, List.getElem?_cons_zero, List.getElem?_cons_succ, List.getElem?_concat_length, get_app, get_app0, en_refU, mul_refU, tupF_refU, slc_refU, ed, q, sl, il, i1, i2, nl, ex, e]
      · obtain ⟨S', h', e, p, i, ok, f⟩ := c_deed (n := n) (more := here / 16) l.p0 l.i0 (by omega) o l.o0 (by omega) (by omega) (by omega)
        refine ⟨S', S1, some (.int 0), h', ?_, l.st0 f p i ok⟩
        have i1 : atI [D.ref k0, D.ref k1] 0 = some (.ref k0) := rfl
        have i2 : atI [D.ref (m0 + 3), D.ref (m1 + 3)] 0 = some (.ref (m0 + 3)) := rfl
        simp only [l_law_3]
        simp (disch := first | with_reducible assumption | omega | with_reducible exact size_le (by omega) | decide | (simp only [List.length_cons, List.length_nil, List.length_append]; first | omega | with_reducible exact size_le (by omega)) | exact ⟨by simp only [List.length_cons, List.length_nil]; omega, by decide⟩ | fail) [-getElem?_pos, -getElem?_neg, -Int.natCast_add, le_size, rngR_ok, mul_int, mod_int, div_int, pow_int, add_str, len_str, len_refU, idx_refU, any_refU, all_refU, in_refU, in_tupU, okTo_appU, append_U, it_refU, join_refU, add_refU, isi_refU, idx_str, slc_str, str_int, int_str, meOf, List.lookup, fldOf, putN, putR_ok, List.getElem?_cons_zero, List.getElem?_cons_succ, List.getElem?_concat_length, get_app, get_app0, en_refU, mul_refU, tupF_refU, slc_refU, ed, q, sl, il, i1, i2, nl, ex, e]
    obtain ⟨T0, T1, y6, z7, y8, h2, e2, l2⟩ := deeds b9 b10 hL h0' h1 js (N + 1) S0' S1' (some (.int j)) y7 (some (.int here)) h' (fun z hz => hj z (List.mem_cons_of_mem _ hz)) (by omega) l'
    refine ⟨T0, T1, y6, z7, y8, h2, ?_, by rw [List.length_cons, show N + (js.length + 1) = N + 1 + js.length by omega]; exact l2⟩
    rw [forL_cons (e1 := [some sd, some (.int k), some (.int more), some (.ref a), some (.ref c), some (.ref d), some (.int j), a7, a8, b9, b10]) still_none rfl, eb, nxt_nx]
    exact e2
end
end K30

namespace K30
open PySem L2 Mp
section
variable {n : Nat} {h0 h h' : DH} {a k0 k1 c m0 m1 d N : Nat} {L : List Tx} {S0 S1 S : Sto}
theorem chk {kx mx : Nat} {sl il : List D} {x : Tx} (b0 b1 b2 b3 b6 b8 b10 : Option D) {i : Int} (hs : h[c]? = some (.lst sl)) (hi : h[d]? = some (.lst il)) (i1 : atI sl i = some (.ref kx)) (i2 : atI il i = some (.ref (mx + 3))) (sP : StA h kx S) (sI : ItA h mx S) (dj : kx + 4 ≤ mx ∨ mx + 4 ≤ kx)
    (dc : (c < kx ∨ kx + 4 ≤ c) ∧ (c < mx ∨ mx + 4 ≤ c)) (dd : (d < kx ∨ kx + 4 ≤ d) ∧ (d < mx ∨ mx + 4 ≤ d)) (o : NmO x) (hN : Ok N S) (hN2 : N ≤ 900) :
    ∃ S' h' y10, l_law_1 (callN T (n + 7)) [b0, b1, b2, b3, some (.ref c), some (.ref d), b6, some (.int i), b8, some (.str x), b10] h = .nx [b0, b1, b2, b3, some (.ref c), some (.ref d), b6, some (.int i), b8, some (.str x), y10] h' ∧ StA h' kx S' ∧ ItA h' mx S' ∧ Ok (N + 1) S' ∧ Fr2 kx mx h h' := by
  obtain ⟨ch, e1, e2⟩ := last_eq o
  have e2 : isT x = decide (ch = 36) := by rw [e2]; simp
  have hz : x.length ≤ sizeLine := size_le (by have := o.le; omega)
  have hO := hN.up (show N ≤ 1000 by omega)
  have s1 := sI.it
  have s2 := sI.nm
  have s3 := sP.ob
  have s4 := sI.bd
  have lk : dLk (enc kS wD S.nm) (.str x) = (aLk S.nm x).map wD := enc_lk (ve := wD) kS_eq S.nm x
  have lk2 : dLk (enc kS bD S.bd) (.str x) = (aLk S.bd x).map bD := enc_lk (ve := bD) kS_eq S.bd x
  have nd := nul_D (x := x)
  have gd := gd_w (aLk S.nm x) (nul x)
  have tg := c_get (n := n + 4) sP o
  have eq := eqD (.inl ⟨(aLk S.nm x).getD (nul x), rfl⟩) h
  have bd : ((aLk S.bd x).map bD).getD (.tup [.int 10, .int 10]) = .tup ((bnd S x 2).map .int) := bnd_D S x 2
  obtain ⟨p1, p2⟩ := bnd_ok hN (x := x) (k := 2) (.inr rfl)
  generalize bnd S x 2 = ps at *
  obtain ⟨h2, te, sP2, f2⟩ := t_cell (n := n + 4) sP o p1 hO
  obtain ⟨h3, ae, sI2, f3⟩ := a_cell (n := n + 4) (sI.fr f2 (by omega)) o p1 hO (.ref kx)
  have eqc := eqD (eq_cell x ps S) h3
  have hs2 : h2[c]? = some (.lst sl) := (f2.2 c (lt_of_get hs) dc.1).trans hs
  have hi2 : h2[d]? = some (.lst il) := (f2.2 d (lt_of_get hi) dd.1).trans hi
  refine ⟨_, h3, some (.tup (ps.map .int)), ?_, sP2.fr f3 (by omega), sI2, ok_cell hN x p1, f2.two f3⟩
  have z1 : sIf (mCmp .NotEq (mMeth (callN T (n + 7)) (meOf [(0, 7)]) (mIdx (mVar 4) (mVar 7)) [(mVar 9)]) (mGet2 (mIdx (mIdx (mVar 5) (mVar 7)) (mLit (.str [110, 97, 109, 101, 115]))) (mVar 9) (mIf (mCmp .Eq (mIdx (mVar 9) (mNeg (mLit (.int 1)))) (mLit (.str [36]))) (mLit (.str [])) (mLit (.int 0))))) (sSeq (sRet (mLit (.bl false))) sNext) sNext [b0, b1, b2, b3, some (.ref c), some (.ref d), b6, some (.int i), b8, some (.str x), b10] h = .nx [b0, b1, b2, b3, some (.ref c), some (.ref d), b6, some (.int i), b8, some (.str x), b10] h := by
    by_cases q2 : ch = 36
    · rw [decide_eq_true q2] at e2
      rw [e2, if_pos rfl] at nd
      rw [← nd] at gd
      simp (disch := first | with_reducible assumption | omega | with_reducible exact size_le (by omega) | decide | (simp only [List.length_cons, List.length_nil, List.length_append]; first | omega | with_reducible exact size_le (by omega)) | exact ⟨by simp only [List.length_cons, List.length_nil]; omega, by decide⟩ | fail) [-getElem?_pos, -getElem?_neg, -Int.natCast_add, le_size, rngR_ok, mul_int, mod_int, div_int, pow_int, add_str, len_str, len_refU, idx_refU, any_refU, all_refU, in_refU, in_tupU, okTo_appU, append_U, it_refU, join_refU, add_refU, isi_refU, idx_str, slc_str, str_int, int_str, meOf, List.lookup, fldOf, putN, putR_ok, List.getElem?_cons_zero, List.getElem?_cons_succ, List.getElem?_concat_length, get_app, get_app0, en_refU, mul_refU, tupF_refU, slc_refU, hs, hi, i1, i2, s1, itk_n, s2, e1, q2, lk, gd, s3, tg, eq]
    · rw [decide_eq_false q2] at e2
      rw [e2, if_neg Bool.false_ne_true] at nd
      rw [← nd] at gd
      simp (disch := first | with_reducible assumption | omega | with_reducible exact size_le (by omega) | decide | (simp only [List.length_cons, List.length_nil, List.length_append]; first | omega | with_reducible exact size_le (by omega)) | exact ⟨by simp only [List.length_cons, List.length_nil]; omega, by decide⟩ | fail) [-getElem?_pos, -getElem?_neg, -Int.natCast_add, le_size, rngR_ok, mul_int, mod_int, div_int, pow_int, add_str, len_str, len_refU, idx_refU, any_refU, all_refU, in_refU, in_tupU, okTo_appU, append_U, it_refU, join_refU, add_refU, isi_refU, idx_str, slc_str, str_int, int_str, meOf, List.lookup, fldOf, putN, putR_ok, List.getElem?_cons_zero, List.getElem?_cons_succ, List.getElem?_concat_length, get_app, get_app0, en_refU, mul_refU, tupF_refU, slc_refU, hs, hi, i1, i2, s1, itk_n, s2, e1, q2, lk, gd, s3, tg, eq]
  have l2 : (2 : Nat) ≤ sizeLine := size_le (by decide)
  have z2 : sSet (stName 10) (mGet2 (mIdx (mIdx (mVar 5) (mVar 7)) (mLit (.str [98, 111, 117, 110, 100, 115]))) (mVar 9) (mTup [(mLit (.int 10)), (mLit (.int 10))])) [b0, b1, b2, b3, some (.ref c), some (.ref d), b6, some (.int i), b8, some (.str x), b10] h = .nx [b0, b1, b2, b3, some (.ref c), some (.ref d), b6, some (.int i), b8, some (.str x), some (.tup (ps.map .int))] h := by
    simp (disch := first | with_reducible assumption | omega | with_reducible exact size_le (by omega) | decide | (simp only [List.length_cons, List.length_nil, List.length_append]; first | omega | with_reducible exact size_le (by omega)) | exact ⟨by simp only [List.length_cons, List.length_nil]; omega, by decide⟩ | fail) [-getElem?_pos, -getElem?_neg, -Int.natCast_add, le_size, rngR_ok, mul_int, mod_int, div_int, pow_int, add_str, len_str, len_refU, idx_refU, any_refU, all_refU, in_refU, in_tupU, okTo_appU, append_U, it_refU, join_refU, add_refU, isi_refU, idx_str, slc_str, str_int, int_str, meOf, List.lookup, fldOf, putN, putR_ok, List.getElem?_cons_zero, List.getElem?_cons_succ, List.getElem?_concat_length, get_app, get_app0, en_refU, mul_refU, tupF_refU, slc_refU, hi, i2, s1, itk_b, s4, lk2, bd]
  have z3 : sIf (mCmp .NotEq (mTold tldf (mMeth (callN T (n + 7)) (meOf [(0, 18)]) (mIdx (mVar 4) (mVar 7)) [(mVar 9), (mVar 10)])) (mCall (callN T (n + 7)) 11 [(mIdx (mVar 4) (mVar 7)), (mIdx (mVar 5) (mVar 7)), (mVar 9), (mVar 10)])) (sSeq (sRet (mLit (.bl false))) sNext) sNext [b0, b1, b2, b3, some (.ref c), some (.ref d), b6, some (.int i), b8, some (.str x), some (.tup (ps.map .int))] h = .nx [b0, b1, b2, b3, some (.ref c), some (.ref d), b6, some (.int i), b8, some (.str x), some (.tup (ps.map .int))] h3 := by
    simp (disch := first | with_reducible assumption | omega | with_reducible exact size_le (by omega) | decide | (simp only [List.length_cons, List.length_nil, List.length_append]; first | omega | with_reducible exact size_le (by omega)) | exact ⟨by simp only [List.length_cons, List.length_nil]; omega, by decide⟩ | fail) [-getElem?_pos, -getElem?_neg, -Int.natCast_add, le_size, rngR_ok, mul_int, mod_int, div_int, pow_int, add_str, len_str, len_refU, idx_refU, any_refU, all_refU, in_refU, in_tupU, okTo_appU, append_U, it_refU, join_refU, add_refU, isi_refU, idx_str, slc_str, str_int, int_str, meOf, List.lookup, fldOf, putN, putR_ok, List.getElem?_cons_zero, List.getElem?_cons_succ, List.getElem?_concat_length, get_app, get_app0, en_refU, mul_refU, tupF_refU, slc_refU, v_told, hs, i1, s3, te, hs2, hi2, i2, ae, eqc]
  simp only [l_law_1]
  rw [s_seq, z1, seqO_nx, s_seq, z2, seqO_nx, s_seq, z3, seqO_nx, s_next]
/-- all names, at one of the two -/
theorem chk0 (b0 b1 b2 b3 b6 b8 : Option D) (hall : ∀ x ∈ L, NmO x) : ∀ (xs : List Tx) (N : Nat) (S0 : Sto) (b9 b10 : Option D) (h : DH), (∀ x ∈ xs, NmO x) → N + xs.length ≤ 400 → LI h0 a k0 k1 c m0 m1 d L S0 S1 N h →
    ∃ S0' y9 y10 h', forL (some (a, L.map .str)) (stName 9) (l_law_1 (callN T (n + 7))) (xs.map .str) [b0, b1, b2, b3, some (.ref c), some (.ref d), b6, some (.int 0), b8, b9, b10] h = .nx [b0, b1, b2, b3, some (.ref c), some (.ref d), b6, some (.int 0), b8, y9, y10] h' ∧ LI h0 a k0 k1 c m0 m1 d L S0' S1 (N + xs.length) h'
  | [], N, S0, b9, b10, h, _, _, l => ⟨S0, b9, b10, h, forL_nil (show Still (some (a, L.map .str)) h from l.nl), l⟩
  | x :: xs, N, S0, b9, b10, h, hx, hN, l => by
    rw [List.length_cons] at hN
    have g := l.ge
    obtain ⟨S', h', y10, e, p, i, ok, f⟩ := chk (n := n) (x := x) b0 b1 b2 b3 b6 b8 b10 (i := 0) l.sl l.il rfl rfl l.p0 l.i0 (by omega) (by omega) (by omega) (hx x List.mem_cons_self) l.o0 (by omega)
    obtain ⟨T0, y9, z10, h2, e2, l2⟩ := chk0 b0 b1 b2 b3 b6 b8 hall xs (N + 1) S' (some (.str x)) y10 h' (fun y hy => hx y (List.mem_cons_of_mem _ hy)) (by omega) (l.st0 f p i ok)
    refine ⟨T0, y9, z10, h2, ?_, by rw [List.length_cons, show N + (xs.length + 1) = N + 1 + xs.length by omega]; exact l2⟩
    rw [List.map_cons, forL_cons (e1 := [b0, b1, b2, b3, some (.ref c), some (.ref d), b6, some (.int 0), b8, some (.str x), b10]) (show Still (some (a, L.map .str)) h from l.nl) rfl, e, nxt_nx]
    exact e2
theorem chk1 (b0 b1 b2 b3 b6 b8 : Option D) (hall : ∀ x ∈ L, NmO x) : ∀ (xs : List Tx) (N : Nat) (S1 : Sto) (b9 b10 : Option D) (h : DH), (∀ x ∈ xs, NmO x) → N + xs.length ≤ 400 → LI h0 a k0 k1 c m0 m1 d L S0 S1 N h →
    ∃ S1' y9 y10 h', forL (some (a, L.map .str)) (stName 9) (l_law_1 (callN T (n + 7))) (xs.map .str) [b0, b1, b2, b3, some (.ref c), some (.ref d), b6, some (.int 1), b8, b9, b10] h = .nx [b0, b1, b2, b3, some (.ref c), some (.ref d), b6, some (.int 1), b8, y9, y10] h' ∧ LI h0 a k0 k1 c m0 m1 d L S0 S1' (N + xs.length) h'
  | [], N, S1, b9, b10, h, _, _, l => ⟨S1, b9, b10, h, forL_nil (show Still (some (a, L.map .str)) h from l.nl), l⟩
  | x :: xs, N, S1, b9, b10, h, hx, hN, l => by
    rw [List.length_cons] at hN
    have g := l.ge
    obtain ⟨S', h', y10, e, p, i, ok, f⟩ := chk (n := n) (x := x) b0 b1 b2 b3 b6 b8 b10 (i := 1) l.sl l.il rfl rfl l.p1 l.i1 (by omega) (by omega) (by omega) (hx x List.mem_cons_self) l.o1 (by omega)
    obtain ⟨T0, y9, z10, h2, e2, l2⟩ := chk1 b0 b1 b2 b3 b6 b8 hall xs (N + 1) S' (some (.str x)) y10 h' (fun y hy => hx y (List.mem_cons_of_mem _ hy)) (by omega) (l.st1 f p i ok)
    refine ⟨T0, y9, z10, h2, ?_, by rw [List.length_cons, show N + (xs.length + 1) = N + 1 + xs.length by omega]; exact l2⟩
    rw [List.map_cons, forL_cons (e1 := [b0, b1, b2, b3, some (.ref c), some (.ref d), b6, some (.int 1), b8, some (.str x), b10]) (show Still (some (a, L.map .str)) h from l.nl) rfl, e, nxt_nx]
    exact e2
/-! ### stores are made -/
theorem fld_step {f : Nat} (hf : (0, f) ∈ foo) (h g : DH) (fs : List (Nat × D)) (hl : fs.length < 1000) : sFld foo (mVar 0) f mDNew [some (.ref h.length)] (h ++ .ins 0 fs :: g) = .nx [some (.ref h.length)] (h ++ .ins 0 (putN f (.ref (h.length + (g.length + 1))) fs) :: (g ++ [.dic []])) := by
  have e : (h ++ (O.ins 0 fs :: g) ++ [.dic []])[h.length]? = some (.ins 0 fs) := by simp
  rw [s_fld, v_dnew, bindO_ok]
  have v : mVar 0 [some (.ref h.length)] (h ++ (O.ins 0 fs :: g) ++ [.dic []]) = .ok (.ref h.length) (h ++ (O.ins 0 fs :: g) ++ [.dic []]) := rfl
  rw [v, bindO_ok, putX_ok, e, putR_ok ⟨hl, hf⟩]
  congr 1
  rw [List.append_assoc, List.set_append_right _ _ (Nat.le_refl _), Nat.sub_self]
  simp
theorem c_init (h : DH) : callN T (n + 1) 4 [.ref h.length] (h ++ [.ins 0 []]) = .ok .non (h ++ [.ins 0 [(0, .ref (h.length + 1)), (1, .ref (h.length + 2)), (2, .ref (h.length + 3))], .dic [], .dic [], .dic []]) := by
  rw [call_eq (fn := q4.fn) rfl rfl]
  simp only [Def1.fn, q4, b_Store_init]
  have e1 := fld_step (f := 0) (by decide) h [] [] (by decide)
  have e2 := fld_step (f := 1) (by decide) h [.dic []] [(0, .ref (h.length + 1))] (by simp)
  have e3 := fld_step (f := 2) (by decide) h [.dic [], .dic []] [(0, .ref (h.length + 1)), (1, .ref (h.length + 2))] (by simp)
  simp only [List.map_cons, List.map_nil, List.length_cons, List.length_nil, Nat.reduceAdd, Nat.reduceSub, List.replicate, List.cons_append, List.nil_append]
  rw [s_seq]
  erw [e1]
  rw [seqO_nx, s_seq]
  erw [e2]
  rw [seqO_nx, s_seq]
  erw [e3]
  rfl
end
end K30

namespace K30
open PySem L2 Mp
theorem nme_o {e x : Tx} (h : NmE e x) : NmO x := by
  obtain ⟨w, rfl, h1, _, _, h4⟩ := h.ex
  exact ⟨fun z => h1 (List.append_eq_nil_iff.mp z).1, by rw [List.length_append]; omega⟩
section
variable {n : Nat}
def ST0 (k : Nat) : DH := [.ins 0 [(0, .ref (k + 1)), (1, .ref (k + 2)), (2, .ref (k + 3))], .dic [], .dic [], .dic []]
def IT0 (k : Nat) : DH := [.dic [], .dic [], .dic [], .dic (itK k)]
theorem mk_it (e : En) (X : DH) : t_law_1 (callN T (n + 7)) e X = .ok (.ref (X.length + 3)) (X ++ IT0 X.length) := by
  simp only [t_law_1]
  rw [v_dsp]
  have z : evL [mDNew, mDNew, mDNew] e X = .ok [.ref X.length, .ref (X.length + 1), .ref (X.length + 2)] (X ++ [.dic [], .dic [], .dic []]) := by
    simp [evL, mDNew, Rs.bind]
  rw [z, bind_ok]
  simp only [List.length_append, List.append_assoc, List.length_cons, List.length_nil]
  rfl
theorem mk_st (e : En) (X : DH) : mMake (callN T (n + 7)) 0 4 [] e X = .ok (.ref X.length) (X ++ ST0 X.length) := by
  rw [v_make]
  have z : evL [] e X = .ok [] X := rfl
  rw [z, bind_ok, c_init (n := n + 6) X, bind_ok]
  rfl
def SN : Sto := ⟨[], [], []⟩
theorem ok_n : Ok 0 SN := ⟨Nat.le_refl _, Nat.le_refl _, Nat.le_refl _, fun p hp => nomatch hp⟩
theorem st_at (X g : DH) : StA (X ++ ST0 X.length ++ g) X.length SN := by
  refine ⟨?_, ?_, ?_, ?_⟩ <;> simp [ST0, SN, enc, dcT]
theorem it_at (X g : DH) : ItA (X ++ IT0 X.length ++ g) X.length SN := by
  refine ⟨?_, ?_, ?_, ?_⟩ <;> simp [IT0, SN, enc, dcT, itK]
theorem law_body {ns : List Int} {sd : D} {h : DH} (s : Scr ns sd h) (hb : Small ns) (hl : ns.length ≤ 63) {k : Int} (hk0 : 0 ≤ k) (hk1 : k ≤ 5) (a2 a3 a4 a5 a6 a7 a8 a9 a10 : Option D) :
    ∃ y2 y3 y4 y5 y6 y7 y8 y9 y10 h', l_law_4 (callN T (n + 7)) [some sd, some (.int k), a2, a3, a4, a5, a6, a7, a8, a9, a10] h = .nx [some sd, some (.int k), y2, y3, y4, y5, y6, y7, y8, y9, y10] h' ∧ Kp h.length h h' := by
  obtain ⟨cc, g1, ec, more, m0, m1, em⟩ := c_draw (n := n + 6) s hb hk0 (by omega) hl hk0 (by omega)
  have mb : more < 2 ^ 129 := by omega
  have l0 : more.natAbs.log2 < 2000000 := by
    have := nn_log m0 mb (by decide)
    omega
  have s1 : sSet (stName 2) (mCall (callN T (n + 7)) 0 [(mCall (callN T (n + 7)) 1 [(mVar 0), (mVar 1)]), (mVar 1)]) [some sd, some (.int k), a2, a3, a4, a5, a6, a7, a8, a9, a10] h = .nx [some sd, some (.int k), some (.int more), a3, a4, a5, a6, a7, a8, a9, a10] (h ++ g1) := by
    simp (disch := first | with_reducible assumption | omega | with_reducible exact size_le (by omega) | decide | (simp only [List.length_cons, List.length_nil, List.length_append]; first | omega | with_reducible exact size_le (by omega)) | exact ⟨by simp only [List.length_cons, List.length_nil]; omega, by decide⟩ | fail) [-getElem?_pos, -getElem?_neg, -Int.natCast_add, le_size, rngR_ok, mul_int, mod_int, div_int, pow_int, add_str, len_str, len_refU, idx_refU, any_refU, all_refU, in_refU, in_tupU, okTo_appU, append_U, it_refU, join_refU, add_refU, isi_refU, idx_str, slc_str, str_int, int_str, meOf, List.lookup, fldOf, putN, putR_ok, List.getElem?_cons_zero, List.getElem?_cons_succ, List.getElem?_concat_length, get_app, get_app0, en_refU, mul_refU, tupF_refU, slc_refU, ec, em]
  have k1 : Kp h.length h (h ++ g1) := (Kp.refl (Nat.le_refl _)).app
  generalize h ++ g1 = H1 at *
  have d1 := c_drawn (n + 6) more 1 H1 l0 (by decide)
  have b1 := drawn_nn more 1
  have b2 := drawn_lt more 1
  generalize drawn more 1 = r1 at *
  obtain ⟨ns1, f1, g2, q1, q2, _, q4, q5, q6⟩ := c_names (n := n + 5) (many := 2) (e := []) (.inl rfl) b1 (by omega) (by decide) H1
  have k2 : Kp h.length h (H1 ++ g2) := k1.app
  have hf1 := k1.1
  generalize H1 ++ g2 = H2 at *
  have d2 := c_drawn (n + 6) more 2 H2 l0 (by decide)
  have b3 := drawn_nn more 2
  have b4 := drawn_lt more 2
  generalize drawn more 2 = r2 at *
  obtain ⟨ns2, f2, g3, p1, p2, _, p4, p5, p6⟩ := c_names (n := n + 5) (many := 2) (e := [36]) (.inr rfl) b3 (by omega) (by decide) H2
  have k3 : Kp h.length h (H2 ++ g3) := k2.app
  have q5' : (H2 ++ g3)[f1]? = some (.lst (ns1.map .str)) := get_ap q5
  generalize H2 ++ g3 = H3 at *
  have q6 : callN T (n + 7) 3 [.int r1, .int 2, .str []] H1 = .ok (.ref f1) H2 := q6
  have p6 : callN T (n + 7) 3 [.int r2, .int 2, .str [36]] H2 = .ok (.ref f2) H3 := p6
  have ls : ns1.length + ns2.length ≤ sizeLine := by rw [q1, p1]; exact size_le (by decide)
  have s2 : sSet (stName 3) (mBin .Add (mCall (callN T (n + 7)) 3 [(mCall (callN T (n + 7)) 0 [(mVar 2), (mLit (.int 1))]), (mLit (.int 2)), (mLit (.str []))]) (mCall (callN T (n + 7)) 3 [(mCall (callN T (n + 7)) 0 [(mVar 2), (mLit (.int 2))]), (mLit (.int 2)), (mLit (.str [36]))])) [some sd, some (.int k), some (.int more), a3, a4, a5, a6, a7, a8, a9, a10] H1
      = .nx [some sd, some (.int k), some (.int more), some (.ref H3.length), a4, a5, a6, a7, a8, a9, a10] (H3 ++ [.lst ((ns1 ++ ns2).map .str)]) := by
    rw [List.map_append]
    simp (disch := first | with_reducible assumption | omega | with_reducible exact size_le (by omega) | decide | (simp only [List.length_cons, List.length_nil, List.length_append]; first | omega | with_reducible exact size_le (by omega)) | exact ⟨by simp only [List.length_cons, List.length_nil]; omega, by decide⟩ | fail) [-getElem?_pos, -getElem?_neg, -Int.natCast_add, le_size, rngR_ok, mul_int, mod_int, div_int, pow_int, add_str, len_str, len_refU, idx_refU, any_refU, all_refU, in_refU, in_tupU, okTo_appU, append_U, it_refU, join_refU, add_refU, isi_refU, idx_str, slc_str, str_int, int_str, meOf, List.lookup, fldOf, putN, putR_ok, List.getElem?_cons_zero, List.getElem?_cons_succ, List.getElem?_concat_length, get_app, get_app0, en_refU, mul_refU, tupF_refU, slc_refU, d1, q6, d2, p6, q5', p5, ls]
  have hL : NmL (ns1 ++ ns2) := ⟨by rw [List.length_append, q1, p1], fun x hx => by
    rcases List.mem_append.mp hx with hx | hx
    · exact nme_o (q2 x hx)
    · exact nme_o (p2 x hx)⟩
  have nl : (H3 ++ [O.lst ((ns1 ++ ns2).map .str)])[H3.length]? = some (.lst ((ns1 ++ ns2).map .str)) := by simp
  have ha : h.length ≤ H3.length := k3.1
  have k4 : Kp h.length h (H3 ++ [O.lst ((ns1 ++ ns2).map .str)]) := k3.app
  have hlt : H3.length < (H3 ++ [O.lst ((ns1 ++ ns2).map .str)]).length := by simp
  generalize H3.length = a at *
  generalize ns1 ++ ns2 = L at *
  generalize H3 ++ [O.lst (L.map .str)] = X at *
  -- the stores
  have e1 := mk_st (n := n) [some sd, some (.int k), some (.int more), some (.ref a), a4, a5, a6, a7, a8, a9, a10] X
  have e2 := mk_st (n := n) [some sd, some (.int k), some (.int more), some (.ref a), a4, a5, a6, a7, a8, a9, a10] (X ++ ST0 X.length)
  have lx1 : (X ++ ST0 X.length).length = X.length + 4 := by simp [ST0]
  have lx2 : (X ++ ST0 X.length ++ ST0 (X ++ ST0 X.length).length).length = X.length + 8 := by rw [List.length_append, lx1]; simp [ST0]
  have s3 : sSet (stName 4) (mLst [(mMake (callN T (n + 7)) 0 4 []), (mMake (callN T (n + 7)) 0 4 [])]) [some sd, some (.int k), some (.int more), some (.ref a), a4, a5, a6, a7, a8, a9, a10] X
      = .nx [some sd, some (.int k), some (.int more), some (.ref a), some (.ref (X.length + 8)), a5, a6, a7, a8, a9, a10] (X ++ ST0 X.length ++ ST0 (X ++ ST0 X.length).length ++ [.lst [.ref X.length, .ref (X ++ ST0 X.length).length]]) := by
    rw [s_set, v_lst]
    have z : evL [(mMake (callN T (n + 7)) 0 4 []), (mMake (callN T (n + 7)) 0 4 [])] [some sd, some (.int k), some (.int more), some (.ref a), a4, a5, a6, a7, a8, a9, a10] X = .ok [.ref X.length, .ref (X ++ ST0 X.length).length] (X ++ ST0 X.length ++ ST0 (X ++ ST0 X.length).length) := by
      simp only [evL, e1, e2, bind_ok]
    rw [z, bind_ok, if_pos (show ([D.ref X.length, D.ref (X ++ ST0 X.length).length] : List D).length ≤ sizeLine from size_le (n := 2) (by decide)), bindO_ok, lx2]
    rfl
  have st0 : ∀ g, StA (X ++ ST0 X.length ++ g) X.length SN := st_at X
  have st1 : ∀ g, StA (X ++ ST0 X.length ++ ST0 (X ++ ST0 X.length).length ++ g) (X ++ ST0 X.length).length SN := st_at (X ++ ST0 X.length)
  have ly : (X ++ ST0 X.length ++ ST0 (X ++ ST0 X.length).length ++ [O.lst [.ref X.length, .ref (X ++ ST0 X.length).length]]).length = X.length + 9 := by rw [List.length_append, lx2]; rfl
  have p0 : StA (X ++ ST0 X.length ++ ST0 (X ++ ST0 X.length).length ++ [O.lst [.ref X.length, .ref (X ++ ST0 X.length).length]]) X.length SN := (st0 _).app
  have p1 := st1 [O.lst [.ref X.length, .ref (X ++ ST0 X.length).length]]
  have sl : (X ++ ST0 X.length ++ ST0 (X ++ ST0 X.length).length ++ [O.lst [.ref X.length, .ref (X ++ ST0 X.length).length]])[X.length + 8]? = some (.lst [.ref X.length, .ref (X ++ ST0 X.length).length]) := by
    rw [← lx2]; simp
  have nl2 : (X ++ ST0 X.length ++ ST0 (X ++ ST0 X.length).length ++ [O.lst [.ref X.length, .ref (X ++ ST0 X.length).length]])[a]? = some (.lst (L.map .str)) := get_ap (get_ap (get_ap nl))
  have k5 : Kp h.length h (X ++ ST0 X.length ++ ST0 (X ++ ST0 X.length).length ++ [O.lst [.ref X.length, .ref (X ++ ST0 X.length).length]]) := k4.app.app.app
  generalize X ++ ST0 X.length ++ ST0 (X ++ ST0 X.length).length ++ [O.lst [.ref X.length, .ref (X ++ ST0 X.length).length]] = Y at *
  generalize (X ++ ST0 X.length).length = k1' at *
  generalize X.length = k0 at *
  have i0 := mk_it (n := n) [some sd, some (.int k), some (.int more), some (.ref a), some (.ref (k0 + 8)), a5, some (.int 0), a7, a8, a9, a10] Y
  have i1 := mk_it (n := n) [some sd, some (.int k), some (.int more), some (.ref a), some (.ref (k0 + 8)), a5, some (.int 1), a7, a8, a9, a10] (Y ++ IT0 Y.length)
  have cm : compL none (stName 6) mTrue (t_law_1 (callN T (n + 7))) [some sd, some (.int k), some (.int more), some (.ref a), some (.ref (k0 + 8)), a5, none, a7, a8, a9, a10] (rangeD 0 2) Y = .ok [.ref (Y.length + 3), .ref ((Y ++ IT0 Y.length).length + 3)] (Y ++ IT0 Y.length ++ IT0 (Y ++ IT0 Y.length).length) := by
    have er : rangeD 0 2 = [.int 0, .int 1] := rfl
    rw [er, compL_one still_none rfl i0, compL_one still_none rfl i1, compL_end still_none]
    rfl
  have rr : rngR (.int 2) Y = .ok (rangeD 0 2, none) Y := rngR_ok (by decide)
  have hrl : (rangeD 0 2).length ≤ sizeLine := size_le (n := 2) (by decide)
  have s4 : sSet (stName 5) (mComp (miR1 (mLit (.int 2))) [6] (stName 6) mTrue (t_law_1 (callN T (n + 7)))) [some sd, some (.int k), some (.int more), some (.ref a), some (.ref (k0 + 8)), a5, a6, a7, a8, a9, a10] Y
      = .nx [some sd, some (.int k), some (.int more), some (.ref a), some (.ref (k0 + 8)), some (.ref (Y ++ IT0 Y.length ++ IT0 (Y ++ IT0 Y.length).length).length), a6, a7, a8, a9, a10] (Y ++ IT0 Y.length ++ IT0 (Y ++ IT0 Y.length).length ++ [.lst [.ref (Y.length + 3), .ref ((Y ++ IT0 Y.length).length + 3)]]) := by
    generalize Y ++ IT0 Y.length ++ IT0 (Y ++ IT0 Y.length).length = Z at *
    generalize (Y ++ IT0 Y.length).length = m1' at *
    simp (disch := first | with_reducible assumption | omega | with_reducible exact size_le (by omega) | decide | (simp only [List.length_cons, List.length_nil, List.length_append]; first | omega | with_reducible exact size_le (by omega)) | exact ⟨by simp only [List.length_cons, List.length_nil]; omega, by decide⟩ | fail) [-getElem?_pos, -getElem?_neg, -Int.natCast_add, le_size, rngR_ok, mul_int, mod_int, div_int, pow_int, add_str, len_str, len_refU, idx_refU, any_refU, all_refU, in_refU, in_tupU, okTo_appU, append_U, it_refU, join_refU, add_refU, isi_refU, idx_str, slc_str, str_int, int_str, meOf, List.lookup, fldOf, putN, putR_ok, List.getElem?_cons_zero, List.getElem?_cons_succ, List.getElem?_concat_length, get_app, get_app0, en_refU, mul_refU, tupF_refU, slc_refU, rr, hrl, wipeD, cm]
  have lm1 : (Y ++ IT0 Y.length).length = Y.length + 4 := by simp [IT0]
  have lz : (Y ++ IT0 Y.length ++ IT0 (Y ++ IT0 Y.length).length).length = Y.length + 8 := by rw [List.length_append, lm1]; simp [IT0]
  have li : LI h a k0 k1' (k0 + 8) Y.length (Y ++ IT0 Y.length).length (Y ++ IT0 Y.length ++ IT0 (Y ++ IT0 Y.length).length).length L SN SN 0 (Y ++ IT0 Y.length ++ IT0 (Y ++ IT0 Y.length).length ++ [.lst [.ref (Y.length + 3), .ref ((Y ++ IT0 Y.length).length + 3)]]) :=
    ⟨k5.app.app.app, ⟨hlt, ha, lx1, rfl, ly, by omega, by omega⟩, get_ap (get_ap (get_ap nl2)), p0.app.app.app, p1.app.app.app, get_ap (get_ap (get_ap sl)), (it_at Y _).app, it_at (Y ++ IT0 Y.length) _, by simp, ok_n, ok_n⟩
  generalize Y ++ IT0 Y.length ++ IT0 (Y ++ IT0 Y.length).length ++ [.lst [.ref (Y.length + 3), .ref ((Y ++ IT0 Y.length).length + 3)]] = W at *
  generalize (Y ++ IT0 Y.length ++ IT0 (Y ++ IT0 Y.length).length).length = dd at *
  generalize (Y ++ IT0 Y.length).length = m1' at *
  generalize Y.length = m0' at *
  have rl : (rangeD 0 (5 + more % 26).toNat).length ≤ 31 := by unfold rangeD; rw [List.length_map, List.length_range]; omega
  obtain ⟨S0, S1, y6, y7, y8, h2, e2, l2⟩ := deeds (n := n) (sd := sd) (k := k) a9 a10 hL m0 mb (rangeD 0 (5 + more % 26).toNat) 0 SN SN a6 a7 a8 W (fun z hz => by
    unfold rangeD at hz
    obtain ⟨j, hj, rfl⟩ := List.mem_map.mp hz
    rw [List.mem_range] at hj
    exact ⟨_, rfl, by omega, by omega⟩) (by omega) li
  have r5 : rngR (.int (5 + more % 26)) W = .ok (rangeD 0 (5 + more % 26).toNat, none) W := rngR_ok (by omega)
  have s5 : sFor (miR1 (mBin .Add (mLit (.int 5)) (mBin .Mod (mVar 2) (mLit (.int 26))))) (stName 6) (l_law_3 (callN T (n + 7))) [some sd, some (.int k), some (.int more), some (.ref a), some (.ref (k0 + 8)), some (.ref dd), a6, a7, a8, a9, a10] W = .nx [some sd, some (.int k), some (.int more), some (.ref a), some (.ref (k0 + 8)), some (.ref dd), y6, y7, y8, a9, a10] h2 := by
    simp (disch := first | with_reducible assumption | omega | with_reducible exact size_le (by omega) | decide | (simp only [List.length_cons, List.length_nil, List.length_append]; first | omega | with_reducible exact size_le (by omega)) | exact ⟨by simp only [List.length_cons, List.length_nil]; omega, by decide⟩ | fail) [-getElem?_pos, -getElem?_neg, -Int.natCast_add, le_size, rngR_ok, mul_int, mod_int, div_int, pow_int, add_str, len_str, len_refU, idx_refU, any_refU, all_refU, in_refU, in_tupU, okTo_appU, append_U, it_refU, join_refU, add_refU, isi_refU, idx_str, slc_str, str_int, int_str, meOf, List.lookup, fldOf, putN, putR_ok, List.getElem?_cons_zero, List.getElem?_cons_succ, List.getElem?_concat_length, get_app, get_app0, en_refU, mul_refU, tupF_refU, slc_refU, r5, e2]
  obtain ⟨S0', z9, z10, h3, e3, l3⟩ := chk0 (n := n) (some sd) (some (.int k)) (some (.int more)) (some (.ref a)) y6 y8 hL.2 L _ S0 a9 a10 h2 hL.2 (by rw [hL.1]; omega) l2
  obtain ⟨S1', w9, w10, h4, e4, l4⟩ := chk1 (n := n) (some sd) (some (.int k)) (some (.int more)) (some (.ref a)) y6 y8 hL.2 L _ S1 z9 z10 h3 hL.2 (by rw [hL.1]; omega) l3
  have t0 : ∀ (j : Int) (b6 b8 b9 b10 : Option D) (H : DH), H[a]? = some (.lst (L.map .str)) → miE (mVar 3) [some sd, some (.int k), some (.int more), some (.ref a), some (.ref (k0 + 8)), some (.ref dd), b6, some (.int j), b8, b9, b10] H = .ok (L.map .str, some (a, L.map .str)) H := fun j b6 b8 b9 b10 H hH => by
    simp (disch := first | with_reducible assumption | omega | with_reducible exact size_le (by omega) | decide | (simp only [List.length_cons, List.length_nil, List.length_append]; first | omega | with_reducible exact size_le (by omega)) | exact ⟨by simp only [List.length_cons, List.length_nil]; omega, by decide⟩ | fail) [-getElem?_pos, -getElem?_neg, -Int.natCast_add, le_size, rngR_ok, mul_int, mod_int, div_int, pow_int, add_str, len_str, len_refU, idx_refU, any_refU, all_refU, in_refU, in_tupU, okTo_appU, append_U, it_refU, join_refU, add_refU, isi_refU, idx_str, slc_str, str_int, int_str, meOf, List.lookup, fldOf, putN, putR_ok, List.getElem?_cons_zero, List.getElem?_cons_succ, List.getElem?_concat_length, get_app, get_app0, en_refU, mul_refU, tupF_refU, slc_refU, hH]
  have s6 : sFor (miR1 (mLit (.int 2))) (stName 7) (l_law_2 (callN T (n + 7))) [some sd, some (.int k), some (.int more), some (.ref a), some (.ref (k0 + 8)), some (.ref dd), y6, y7, y8, a9, a10] h2 = .nx [some sd, some (.int k), some (.int more), some (.ref a), some (.ref (k0 + 8)), some (.ref dd), y6, some (.int 1), y8, w9, w10] h4 := by
    have r2' : miR1 (mLit (.int 2)) [some sd, some (.int k), some (.int more), some (.ref a), some (.ref (k0 + 8)), some (.ref dd), y6, y7, y8, a9, a10] h2 = .ok ([.int 0, .int 1], none) h2 := by
      have rr2 : rngR (.int 2) h2 = .ok (rangeD 0 2, none) h2 := rngR_ok (by decide)
      have er : rangeD 0 2 = [.int 0, .int 1] := rfl
      rw [er] at rr2
      simp (disch := first | with_reducible assumption | omega | with_reducible exact size_le (by omega) | decide | (simp only [List.length_cons, List.length_nil, List.length_append]; first | omega | with_reducible exact size_le (by omega)) | exact ⟨by simp only [List.length_cons, List.length_nil]; omega, by decide⟩ | fail) [-getElem?_pos, -getElem?_neg, -Int.natCast_add, le_size, rngR_ok, mul_int, mod_int, div_int, pow_int, add_str, len_str, len_refU, idx_refU, any_refU, all_refU, in_refU, in_tupU, okTo_appU, append_U, it_refU, join_refU, add_refU, isi_refU, idx_str, slc_str, str_int, int_str, meOf, List.lookup, fldOf, putN, putR_ok, List.getElem?_cons_zero, List.getElem?_cons_succ, List.getElem?_concat_length, get_app, get_app0, en_refU, mul_refU, tupF_refU, slc_refU, -rngR_ok, rr2]
    rw [s_for, r2', bindO_ok]
    dsimp only
    rw [forL_cons (e1 := [some sd, some (.int k), some (.int more), some (.ref a), some (.ref (k0 + 8)), some (.ref dd), y6, some (.int 0), y8, a9, a10]) still_none rfl]
    simp only [l_law_2]
    rw [s_seq, s_for, t0 0 _ _ _ _ _ l2.nl, bindO_ok]
    dsimp only
    rw [e3, seqO_nx, s_next, nxt_nx, forL_cons (e1 := [some sd, some (.int k), some (.int more), some (.ref a), some (.ref (k0 + 8)), some (.ref dd), y6, some (.int 1), y8, z9, z10]) still_none rfl, s_seq, s_for, t0 1 _ _ _ _ _ l3.nl, bindO_ok]
    dsimp only
    rw [e4, seqO_nx, s_next, nxt_nx, forL_nil still_none]
  refine ⟨some (.int more), some (.ref a), some (.ref (k0 + 8)), some (.ref dd), y6, some (.int 1), y8, w9, w10, h4, ?_, l4.kp⟩
  simp only [l_law_4]
  rw [s_seq, s1, seqO_nx, s_seq, s2, seqO_nx, s_seq, s3, seqO_nx, s_seq, s4, seqO_nx, s_seq, s5, seqO_nx, s_seq, s6, seqO_nx, s_next]
theorem law_loop {ns : List Int} {sd : D} (hb : Small ns) (hl : ns.length ≤ 63) : ∀ (ks : List D), (∀ d ∈ ks, ∃ k : Int, d = .int k ∧ 0 ≤ k ∧ k ≤ 5) → ∀ (a1 a2 a3 a4 a5 a6 a7 a8 a9 a10 : Option D) (h : DH), Scr ns sd h →
    ∃ y1 y2 y3 y4 y5 y6 y7 y8 y9 y10 h', forL none (stName 1) (l_law_4 (callN T (n + 7))) ks [some sd, a1, a2, a3, a4, a5, a6, a7, a8, a9, a10] h = .nx [some sd, y1, y2, y3, y4, y5, y6, y7, y8, y9, y10] h'
  | [], _, a1, a2, a3, a4, a5, a6, a7, a8, a9, a10, h, _ => ⟨a1, a2, a3, a4, a5, a6, a7, a8, a9, a10, h, forL_nil still_none⟩
  | d :: ks, hk, a1, a2, a3, a4, a5, a6, a7, a8, a9, a10, h, s => by
    obtain ⟨k, rfl, k0, k1⟩ := hk d List.mem_cons_self
    obtain ⟨y2, y3, y4, y5, y6, y7, y8, y9, y10, h', e, kk⟩ := law_body (n := n) s hb hl k0 k1 a2 a3 a4 a5 a6 a7 a8 a9 a10
    obtain ⟨w1, w2, w3, w4, w5, w6, w7, w8, w9, w10, h2, e2⟩ := law_loop hb hl ks (fun d hd => hk d (List.mem_cons_of_mem _ hd)) (some (.int k)) y2 y3 y4 y5 y6 y7 y8 y9 y10 h' (s.keep kk)
    refine ⟨w1, w2, w3, w4, w5, w6, w7, w8, w9, w10, h2, ?_⟩
    rw [forL_cons (e1 := [some sd, some (.int k), a2, a3, a4, a5, a6, a7, a8, a9, a10]) still_none rfl, e, nxt_nx]
    exact e2
theorem c_law {ns : List Int} {sd : D} {h : DH} (s : Scr ns sd h) (hb : Small ns) (hl : ns.length ≤ 63) : ∃ h', callN T (n + 11) 21 [sd] h = .ok (.bl true) h' := by
  rw [call_eqL (k := n + 7) (fn := q21.fn) rfl rfl]
  simp only [Def1.fn, q21, b_law]
  have sl := scr_len s
  obtain ⟨N, hN⟩ : ∃ N : Int, (ns.length : Int) = N := ⟨_, rfl⟩
  rw [hN] at sl
  obtain ⟨m1, hm1⟩ : ∃ m1 : Int, (if N < 3 then N else 3) = m1 := ⟨_, rfl⟩
  have hm1b : m1 ≤ 3 ∧ 0 ≤ m1 := by
    rw [← hm1]
    split <;> omega
  obtain ⟨m2, hm2⟩ : ∃ m2 : Int, (if m1 > 1 then m1 else 1) = m2 := ⟨_, rfl⟩
  have hm2b : m2 ≤ 3 ∧ 1 ≤ m2 := by
    rw [← hm2]
    split <;> omega
  obtain ⟨y1, y2, y3, y4, y5, y6, y7, y8, y9, y10, h', e⟩ := law_loop (n := n) hb hl (rangeD 0 m2.toNat) (fun d hd => by
    unfold rangeD at hd
    obtain ⟨j, hj, rfl⟩ := List.mem_map.mp hd
    rw [List.mem_range] at hj
    exact ⟨_, rfl, by omega, by omega⟩) none none none none none none none none none none h s
  have rr : rngR (.int m2) h = .ok (rangeD 0 m2.toNat, none) h := rngR_ok (by omega)
  refine ⟨h', ?_⟩
  have e6 : dBi .min [.int 3, .int N] h = .ok (.int m1) h := by rw [min_int, hm1]
  have e7 : dBi .max [.int 1, .int m1] h = .ok (.int m2) h := by rw [max_int, hm2]
  simp (disch := first | with_reducible assumption | omega | with_reducible exact size_le (by omega) | decide | (simp only [List.length_cons, List.length_nil, List.length_append]; first | omega | with_reducible exact size_le (by omega)) | exact ⟨by simp only [List.length_cons, List.length_nil]; omega, by decide⟩ | fail) [-getElem?_pos, -getElem?_neg, -Int.natCast_add, le_size, rngR_ok, mul_int, mod_int, div_int, pow_int, add_str, len_str, len_refU, idx_refU, any_refU, all_refU, in_refU, in_tupU, okTo_appU, append_U, it_refU, join_refU, add_refU, isi_refU, idx_str, slc_str, str_int, int_str, meOf, List.lookup, fldOf, putN, putR_ok, List.getElem?_cons_zero, List.getElem?_cons_succ, List.getElem?_concat_length, get_app, get_app0, en_refU, mul_refU, tupF_refU, slc_refU, sl, -min_int, -max_int, e6, e7, rr, e]
theorem law_D : LawD T 24 21 63 := fun ns sd h0 hl hb hs => c_law (n := 13) (ns := ns) (by
  rcases hs with ⟨rfl, rfl⟩ | ⟨rfl, rfl⟩
  · exact .inl rfl
  · exact .inr ⟨0, rfl, rfl⟩) (small_of hb) hl
end
end K30

namespace K30
open PySem PySem.Spec PyProof.Rows L2 Mp
def loose : List Str := (["SpeakError", "BadToken", "BadTerm", "BadDeed", "BadRow", "BadPicture", "Fault", "MOST_BOUND", "USUAL_BOUND", "is_texts", "nothing", "need_kind", "need_places", "Store", "_law_cell", "_law_drawn", "_law_word", "_law_told", "_law_barred", "_law_names"] : List Str) ++ (["_law_places", "_law_inside", "_law_asked", "_law_given", "_law_laid", "_law_deed_right"] : List Str)
abbrev rw_ : PySem.W.OpenRow := PySem.W.OpenLaw.row PySem.Challenge.rw_rowspeak_k30_stores
noncomputable abbrev hk : PySem.W.Hook := He.hookX 6 prg.fa prg.fn prg.ts prg.tf prg.ex
noncomputable def ob (s : PySem.W.SharedT) : He.AlX := He.obsX 6 prg.fa prg.fn prg.ts prg.tf prg.ex (HandSHeadRun.getT s)
theorem ob_eq (s : PySem.W.SharedT) : ob s = hk.obs s.abs := He.obsX_eq (HandSHeadRun.getT_eq s)
theorem run_false (w : World) : HandSHeadRun.RunEq rw_ (PySem.W.view rw_.prog [29]) hk ob 20000 loose (w.withFollow "special-get-raises" false) := by
  intro os
  kernel_rfl
theorem run_true (w : World) : HandSHeadRun.RunEq rw_ (PySem.W.view rw_.prog [29]) hk ob 20000 loose (w.withFollow "special-get-raises" true) := by
  intro os
  kernel_rfl
theorem run (w : World) : HandSHeadRun.RunEq rw_ (PySem.W.view rw_.prog [29]) hk ob 20000 loose w := PySem.W.byRow2 "special-get-raises" (P := fun w => HandSHeadRun.RunEq rw_ (PySem.W.view rw_.prog [29]) hk ob 20000 loose w) run_false run_true w
end K30
open PySem PySem.W PySem.Calls PyProof.Rows
theorem K30.of_law (LD : Mp.LawD (K30.prg.defs.map Mp.Def1.fn) 24 21 63) : PySem.Challenge.rw_rowspeak_k30_stores.Holds := by
  w_on; o_law
  refine HandSHeadRun.head_any (r := OpenLaw.row PySem.Challenge.rw_rowspeak_k30_stores) (q := view (OpenLaw.row PySem.Challenge.rw_rowspeak_k30_stores).prog [29]) (H := K30.hk) (ob := K30.ob) (M := 20000) (loose := K30.loose) (d := HandSHeadRun.topDef (OpenLaw.row PySem.Challenge.rw_rowspeak_k30_stores).prog 29) (kwd := []) K30.ob_eq
    (by kernel_rfl) (fun s => by kernel_rfl) K30.run (by kernel_rfl) (by kernel_rfl) (by kernel_rfl) (by rfl) (by first | assumption | decide +kernel) (by decide +kernel) ⟨rfl, rfl, rfl, rfl, rfl, by decide +kernel⟩ ?hw ?hc
  case hw => w_witness2
  case hc =>
    refine LamX.walk_ofTsE (l := PySem.Challenge.rw_rowspeak_k30_stores) (n := 63) (k := 24 + 2) (x := "script") (CX := fun w => L2N.CX (PySem.Challenge.rw_rowspeak_k30_stores).prog w) rfl (by decide) (by kernel_rfl) ⟨rfl, by decide, by decide⟩ ?F (fun _ _ _ _ _ ⟨_, _, _, _, _, _, _, _, _, _, _, _, z⟩ => z)
    intro w mg fa h Y G hmg0
    obtain ⟨K, KX, c⟩ := Y
    have hmg : mg ("law" : PySem.Str) = some (.ref fa) := by
      have e : (HandSHeadRun.topDef (OpenLaw.row PySem.Challenge.rw_rowspeak_k30_stores).prog 29).name = ("law" : PySem.Str) := by kernel_rfl
      rw [← e]
      exact hmg0
    exact ⟨K, KX, Mp.lawAt KX G hmg c K30.okb K30.oks K30.oTold (q := K30.q21) rfl rfl rfl LD⟩

theorem PySem.Challenge.cw_rowspeak_k30_stores_holds : PySem.Challenge.rw_rowspeak_k30_stores.Holds := by
  exact K30.of_law K30.law_D
